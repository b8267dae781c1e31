import PyProof.Rows.All
import Wide.All
import OpenK.AllK
import Wide.FinOn
import Lean
import PySem.Challenge.RW_nt0105_01
open PySem PySem.W PySem.Calls PyProof.Rows
set_option Elab.async false
set_option autoImplicit false
set_option linter.all false
set_option genInjectivity false
set_option genSizeOf false
set_option maxRecDepth 100000
set_option maxHeartbeats 8000000
namespace Mine
noncomputable def goT (tb : String → Option Builtin) (p : Program) (w : World) (n₀ : Nat) (ann : Option Value) : Nat → SharedT → Thread → Option SharedT
  | 0, _, _ => none
  | n + 1, s, t => match through t with
    | true => some s
    | false => match stepOk n₀ ann t with
      | false => none
      | true => match stepT (denote tb) p w s t with
        | some (s', t') => goT tb p w n₀ ann n s' t'
        | none => none
theorem goT_of {tb : String → Option Builtin} {p : Program} {w : World} {n₀ : Nat} {ann : Option Value} : ∀ {n : Nat} {s s' : SharedT} {t : Thread}, goT tb p w n₀ ann n s t = some s' → topRun tb p w n₀ ann n s.abs t = some s'.abs
  | 0, _, _, _, h => by cases h
  | n + 1, s, s', t, h => by
    unfold goT at h
    unfold topRun
    cases he : through t with
    | true => rw [he] at h; cases h; rfl
    | false =>
      rw [he] at h
      cases hk : stepOk n₀ ann t with
      | false => rw [hk] at h; cases h
      | true =>
        rw [hk] at h
        cases hs : stepT (denote tb) p w s t with
        | none => rw [hs] at h; cases h
        | some r => obtain ⟨s₂, t₂⟩ := r; rw [hs] at h; rw [stepT_spec hs]; exact goT_of h
noncomputable def bootT (P : Params) : BT := .node (boot_o_0 P) (.node (boot_o_1 P) (.node (boot_o_3 P) (.node (boot_o_7 P) .nil .nil) .nil) (.node (boot_o_5 P) (.node (boot_o_9 P) .nil .nil) .nil))
  (.node (boot_o_2 P) (.node (boot_o_4 P) (.node (boot_o_8 P) .nil .nil) .nil) (.node (boot_o_6 P) (.node (boot_o_10 P) .nil .nil) .nil))
noncomputable def boot0 (w : World) (os : OsState) : SharedT := ⟨bootT w.params, 11, (boot_heap w.params).life, #[], boot_drawn, boot_toks, os⟩
noncomputable abbrev pw := PySem.Challenge.pw_nt0105_01
noncomputable def nth : List Stmt → Nat → Stmt
  | [], _ => .Pass default
  | s :: _, 0 => s
  | _ :: r, n + 1 => nth r n
noncomputable def clsB : Stmt → List Stmt
  | .ClassDef _ _ _ b _ _ _ _ _ _ _ => b
  | _ => []
noncomputable def top (n : Nat) : Stmt := nth pw.main.body n
noncomputable def fo (st : Stmt) (q : Str) (md : Str) (mt : Tok) (code : Addr) (df : Value := .none) (an : Option Addr := none) : Obj := match st with
  | .FunctionDef n a b _ _ _ sc _ _ _ => { cls := .type "function", data := .func { name := n, qualname := q, params := a, body := .stmts b, scope := sc, globals := 3, closure := [], defaults := df, kwdefaults := .none, pyModule := .str md mt, annotations := an, code := .ref code } }
  | _ => default
noncomputable def de (P : Params) (s : Str) (t : Tok) (v : Value) : DictEntry := ⟨PyData.keyHash P s, .str s t, v⟩
noncomputable abbrev vs (s : Str) (t : Tok) : Value := .str s t
noncomputable def co (n : Str) (t1 : Tok) (q : Str) (t2 t3 : Tok) (mid : List Value) (t4 : Tok) : Obj := { cls := .type "code", data := .fields ⟨vs n t1 :: vs q t2 :: vs "/claim/cut.py" t3 :: (mid ++ [vs "/claim/cut.py" t4])⟩ }
noncomputable def o2 (P : Params) : Obj := { cls := .none, data := .dict #[de P "type.__subclasses__.Exception.0" 221 (.int 38 0), de P "type.__subclasses__.Exception.n" 222 (.int 1 0)] 2 }
noncomputable def o3 (P : Params) : Obj := { cls := .type "dict", data := .dict #[de P "__name__" 165 (vs "law_nt0105_01" 730), de P "__doc__" 166 (.none), de P "__package__" 167 (.none), de P "__loader__" 168 (.builtin "__main__.__loader__#opaque"), de P "__spec__" 169 (.none), de P "__annotations__" 170 (.ref 6), de P "__builtins__" 171 (.ref 4), de P "__file__" 173 (vs "/claim/cut.py" 172), de P "__cached__" 174 (.none), de P "_wall" 193 (.ref 21), de P "PagebaseError" 224 (.ref 38), de P "CorruptError" 240 (.ref 51), de P "MisuseError" 256 (.ref 63), de P "TRUNK_HEAD" 260 (.int 8 259), de P "number_at" 268 (.ref 72), de P "four" 275 (.ref 79), de P "leaves_room" 282 (.ref 86), de P "FreeList" 383 (.ref 155), de P "Pool" 413 (.ref 176), de P "CHAIN_HEAD" 417 (.int 4 416), de P "chain_length" 426 (.ref 187), de P "write_chain" 432 (.ref 192), de P "look_at_link" 440 (.ref 199), de P "read_chain" 454 (.ref 206), de P "chain_of_size" 466 (.ref 213), de P "free_chain" 477 (.ref 220), de P "chain_pages" 488 (.ref 227), de P "HEADER_SIZE" 492 (.int 32 491), de P "MAGIC" 494 (.bytes #[112, 97, 103, 101, 98, 97, 115, 101] 493), de P "LEAST_PAGE_SIZE" 496 (.int 64 495), de P "MOST_PAGE_SIZE" 498 (.int 32768 497), de P "put_number" 506 (.ref 234), de P "get_number" 515 (.ref 241), de P "is_page_size" 522 (.ref 248), de P "Header" 599 (.ref 281), de P "PageStore" 678 (.ref 344), de P "Store" 729 (.ref 386), de P "_law_source" 742 (.ref 395), de P "_law_draw" 751 (.ref 402), de P "_law_octets" 757 (.ref 407), de P "_law_refusal" 764 (.ref 414), de P "_law_new" 770 (.ref 419), de P "_law_taken" 782 (.ref 426), de P "_law_given" 793 (.ref 433), de P "_law_written" 808 (.ref 440), de P "_law_freed" 819 (.ref 447), de P "_law_refused" 835 (.ref 454), de P "_law_right" 841 (.ref 459), de P "law" 858 (.ref 466)] 49 }
noncomputable def o20 (_ : Params) : Obj := co "_wall" 187 "_wall" 188 189 [.int 1 0, .int 1 0, .int 0 0, .int 0 0, .int 3 0, .ref 15, .bool true, .int 181 0, .ref 16, .none, .ref 17, .ref 18, .ref 19, .int 191 0, .int 1 0] 192
noncomputable def o21 (_ : Params) : Obj := fo (top 0) "_wall" "__main__" 164 20
noncomputable def o22 (_ : Params) : Obj := { cls := .type "tuple", data := .seq #[.type "Exception"] }
noncomputable def o34 (_ : Params) : Obj := co "__init__" 208 "PagebaseError.__init__" 209 210 [.int 7 0, .int 2 0, .int 0 0, .int 0 0, .int 3 0, .ref 29, .bool true, .int 181 0, .ref 30, .none, .ref 31, .ref 32, .ref 33, .int 213 0, .int 7 0] 214
noncomputable def o35 (_ : Params) : Obj := fo (nth (clsB (top 2)) 0) "PagebaseError.__init__" "pagebase.errors" 194 34
noncomputable def o37 (P : Params) : Obj := { cls := .type "dict", data := .dict #[de P "__module__" 203 (vs "pagebase.errors" 194), de P "__firstlineno__" 207 (.int 5 206), de P "__init__" 215 (.ref 35), de P "__static_attributes__" 217 (.ref 36), de P "__weakref__" 219 (.ref 39), de P "__doc__" 220 (.none)] 3 }
noncomputable def o38 (_ : Params) : Obj := { cls := .type "type", data := .cls { name := Str.ofString "PagebaseError", bases := [.type "Exception"], mro := [.ref 38, .type "Exception", .type "BaseException", .type "object"], ns := 37, qualname := Str.ofString "PagebaseError", subclasses := [.ref 51, .ref 63] }, slots := #[some (.ref 22), none, some (vs "PagebaseError" 196), some (vs "PagebaseError" 204), some (.builtin "Exception.__new__"), some (.bool true)] }
noncomputable def o39 (_ : Params) : Obj := { cls := .type "getset_descriptor", data := .fields #[vs "__weakref__" 218, .ref 38, .builtin "ExceptionGroup.__weakref__", .none] }
noncomputable def o42 (_ : Params) : Obj := { cls := .type "tuple", data := .seq #[.ref 38] }
noncomputable def o50 (P : Params) : Obj := { cls := .type "dict", data := .dict #[de P "__module__" 232 (vs "pagebase.errors" 194), de P "__firstlineno__" 236 (.int 9 235), de P "__static_attributes__" 237 (.ref 49), de P "__doc__" 238 (.none)] 2 }
noncomputable def o51 (_ : Params) : Obj := { cls := .type "type", data := .cls { name := Str.ofString "CorruptError", bases := [.ref 38], mro := [.ref 51, .ref 38, .type "Exception", .type "BaseException", .type "object"], ns := 50, qualname := Str.ofString "CorruptError" }, slots := #[some (.ref 42), none, some (vs "CorruptError" 225), some (vs "CorruptError" 233), some (.builtin "Exception.__new__"), some (.bool true)] }
noncomputable def o54 (_ : Params) : Obj := { cls := .type "tuple", data := .seq #[.ref 38] }
noncomputable def o62 (P : Params) : Obj := { cls := .type "dict", data := .dict #[de P "__module__" 248 (vs "pagebase.errors" 194), de P "__firstlineno__" 252 (.int 11 251), de P "__static_attributes__" 253 (.ref 61), de P "__doc__" 254 (.none)] 2 }
noncomputable def o63 (_ : Params) : Obj := { cls := .type "type", data := .cls { name := Str.ofString "MisuseError", bases := [.ref 38], mro := [.ref 63, .ref 38, .type "Exception", .type "BaseException", .type "object"], ns := 62, qualname := Str.ofString "MisuseError" }, slots := #[some (.ref 54), none, some (vs "MisuseError" 241), some (vs "MisuseError" 249), some (.builtin "Exception.__new__"), some (.bool true)] }
noncomputable def o71 (_ : Params) : Obj := co "number_at" 261 "number_at" 262 263 [.int 15 0, .int 2 0, .int 0 0, .int 0 0, .int 3 0, .ref 66, .bool true, .int 181 0, .ref 67, .none, .ref 68, .ref 69, .ref 70, .int 266 0, .int 15 0] 267
noncomputable def o72 (_ : Params) : Obj := fo (top 7) "number_at" "pagebase.freelist" 257 71
noncomputable def o78 (_ : Params) : Obj := co "four" 269 "four" 270 271 [.int 17 0, .int 1 0, .int 0 0, .int 0 0, .int 3 0, .ref 73, .bool true, .int 181 0, .ref 74, .none, .ref 75, .ref 76, .ref 77, .int 273 0, .int 17 0] 274
noncomputable def o79 (_ : Params) : Obj := fo (top 8) "four" "pagebase.freelist" 257 78
noncomputable def o85 (_ : Params) : Obj := co "leaves_room" 276 "leaves_room" 277 278 [.int 19 0, .int 1 0, .int 0 0, .int 0 0, .int 3 0, .ref 80, .bool true, .int 181 0, .ref 81, .none, .ref 82, .ref 83, .ref 84, .int 280 0, .int 19 0] 281
noncomputable def o86 (_ : Params) : Obj := fo (top 9) "leaves_room" "pagebase.freelist" 257 85
noncomputable def o99 (_ : Params) : Obj := co "__init__" 295 "FreeList.__init__" 296 297 [.int 23 0, .int 2 0, .int 0 0, .int 0 0, .int 3 0, .ref 94, .bool true, .int 181 0, .ref 95, .none, .ref 96, .ref 97, .ref 98, .int 300 0, .int 23 0] 301
noncomputable def o100 (_ : Params) : Obj := fo (nth (clsB (top 10)) 0) "FreeList.__init__" "pagebase.freelist" 257 99
noncomputable def o106 (_ : Params) : Obj := co "look_at" 303 "FreeList.look_at" 304 305 [.int 26 0, .int 2 0, .int 0 0, .int 0 0, .int 3 0, .ref 101, .bool true, .int 181 0, .ref 102, .none, .ref 103, .ref 104, .ref 105, .int 308 0, .int 26 0] 309
noncomputable def o107 (_ : Params) : Obj := fo (nth (clsB (top 10)) 1) "FreeList.look_at" "pagebase.freelist" 257 106
noncomputable def o111 (_ : Params) : Obj := co "read_trunk" 311 "FreeList.read_trunk" 312 313 [.int 30 0, .int 2 0, .int 0 0, .int 0 0, .int 3 0, .ref 108, .bool true, .int 181 0, .ref 109, .none, .none, .none, .ref 110, .int 314 0, .int 30 0] 315
noncomputable def o112 (_ : Params) : Obj := fo (nth (clsB (top 10)) 2) "FreeList.read_trunk" "pagebase.freelist" 257 111
noncomputable def o116 (_ : Params) : Obj := co "write_trunk" 317 "FreeList.write_trunk" 318 319 [.int 38 0, .int 4 0, .int 0 0, .int 0 0, .int 3 0, .ref 113, .bool true, .int 181 0, .ref 114, .none, .none, .none, .ref 115, .int 320 0, .int 38 0] 321
noncomputable def o117 (_ : Params) : Obj := fo (nth (clsB (top 10)) 3) "FreeList.write_trunk" "pagebase.freelist" 257 116
noncomputable def o123 (_ : Params) : Obj := co "count" 323 "FreeList.count" 324 325 [.int 43 0, .int 1 0, .int 0 0, .int 0 0, .int 3 0, .ref 118, .bool true, .int 181 0, .ref 119, .none, .ref 120, .ref 121, .ref 122, .int 327 0, .int 43 0] 328
noncomputable def o124 (_ : Params) : Obj := fo (nth (clsB (top 10)) 4) "FreeList.count" "pagebase.freelist" 257 123
noncomputable def o130 (_ : Params) : Obj := co "take" 330 "FreeList.take" 331 332 [.int 46 0, .int 1 0, .int 0 0, .int 0 0, .int 3 0, .ref 125, .bool true, .int 181 0, .ref 126, .none, .ref 127, .ref 128, .ref 129, .int 339 0, .int 46 0] 340
noncomputable def o131 (_ : Params) : Obj := fo (nth (clsB (top 10)) 5) "FreeList.take" "pagebase.freelist" 257 130
noncomputable def o137 (_ : Params) : Obj := co "give" 342 "FreeList.give" 343 344 [.int 65 0, .int 2 0, .int 0 0, .int 0 0, .int 3 0, .ref 132, .bool true, .int 181 0, .ref 133, .none, .ref 134, .ref 135, .ref 136, .int 352 0, .int 65 0] 353
noncomputable def o138 (_ : Params) : Obj := fo (nth (clsB (top 10)) 6) "FreeList.give" "pagebase.freelist" 257 137
noncomputable def o144 (_ : Params) : Obj := co "pages" 355 "FreeList.pages" 356 357 [.int 82 0, .int 1 0, .int 0 0, .int 0 0, .int 3 0, .ref 139, .bool true, .int 181 0, .ref 140, .none, .ref 141, .ref 142, .ref 143, .int 365 0, .int 82 0] 366
noncomputable def o145 (_ : Params) : Obj := fo (nth (clsB (top 10)) 7) "FreeList.pages" "pagebase.freelist" 257 144
noncomputable def o151 (_ : Params) : Obj := co "clear" 368 "FreeList.clear" 369 370 [.int 98 0, .int 1 0, .int 0 0, .int 0 0, .int 3 0, .ref 146, .bool true, .int 181 0, .ref 147, .none, .ref 148, .ref 149, .ref 150, .int 372 0, .int 98 0] 373
noncomputable def o152 (_ : Params) : Obj := fo (nth (clsB (top 10)) 8) "FreeList.clear" "pagebase.freelist" 257 151
noncomputable def o154 (P : Params) : Obj := { cls := .type "dict", data := .dict #[de P "__module__" 290 (vs "pagebase.freelist" 257), de P "__firstlineno__" 294 (.int 21 293), de P "__init__" 302 (.ref 100), de P "look_at" 310 (.ref 107), de P "read_trunk" 316 (.ref 112), de P "write_trunk" 322 (.ref 117), de P "count" 329 (.ref 124), de P "take" 341 (.ref 131), de P "give" 354 (.ref 138), de P "pages" 367 (.ref 145), de P "clear" 374 (.ref 152), de P "__static_attributes__" 376 (.ref 153), de P "__dict__" 378 (.ref 156), de P "__weakref__" 380 (.ref 157), de P "__doc__" 381 (.none)] 4 }
noncomputable def o155 (_ : Params) : Obj := { cls := .type "type", data := .cls { name := Str.ofString "FreeList", bases := [.type "object"], mro := [.ref 155, .type "object"], ns := 154, qualname := Str.ofString "FreeList" }, slots := #[none, none, some (vs "FreeList" 283), some (vs "FreeList" 291), some (.builtin "object.__new__"), some (.bool true)] }
noncomputable def o156 (_ : Params) : Obj := { cls := .type "getset_descriptor", data := .fields #[vs "__dict__" 377, .ref 155, .builtin "function.__dict__", .builtin "function.__dict__#set"] }
noncomputable def o157 (_ : Params) : Obj := { cls := .type "getset_descriptor", data := .fields #[vs "__weakref__" 379, .ref 155, .builtin "ExceptionGroup.__weakref__", .none] }
noncomputable def o172 (_ : Params) : Obj := co "__init__" 396 "Pool.__init__" 397 398 [.int 102 0, .int 2 0, .int 0 0, .int 0 0, .int 3 0, .ref 167, .bool true, .int 181 0, .ref 168, .none, .ref 169, .ref 170, .ref 171, .int 401 0, .int 102 0] 402
noncomputable def o173 (_ : Params) : Obj := fo (nth (clsB (top 11)) 0) "Pool.__init__" "pagebase.freelist" 257 172
noncomputable def o175 (P : Params) : Obj := { cls := .type "dict", data := .dict #[de P "__module__" 391 (vs "pagebase.freelist" 257), de P "__firstlineno__" 395 (.int 100 394), de P "__init__" 403 (.ref 173), de P "__static_attributes__" 406 (.ref 174), de P "__dict__" 408 (.ref 177), de P "__weakref__" 410 (.ref 178), de P "__doc__" 411 (.none)] 4 }
noncomputable def o176 (_ : Params) : Obj := { cls := .type "type", data := .cls { name := Str.ofString "Pool", bases := [.type "object"], mro := [.ref 176, .type "object"], ns := 175, qualname := Str.ofString "Pool" }, slots := #[none, none, some (vs "Pool" 384), some (vs "Pool" 392), some (.builtin "object.__new__"), some (.bool true)] }
noncomputable def o177 (_ : Params) : Obj := { cls := .type "getset_descriptor", data := .fields #[vs "__dict__" 407, .ref 176, .builtin "function.__dict__", .builtin "function.__dict__#set"] }
noncomputable def o178 (_ : Params) : Obj := { cls := .type "getset_descriptor", data := .fields #[vs "__weakref__" 409, .ref 176, .builtin "ExceptionGroup.__weakref__", .none] }
noncomputable def o186 (_ : Params) : Obj := co "chain_length" 418 "chain_length" 419 420 [.int 107 0, .int 2 0, .int 0 0, .int 0 0, .int 3 0, .ref 181, .bool true, .int 181 0, .ref 182, .none, .ref 183, .ref 184, .ref 185, .int 424 0, .int 107 0] 425
noncomputable def o187 (_ : Params) : Obj := fo (top 14) "chain_length" "pagebase.overflow" 414 186
noncomputable def o191 (_ : Params) : Obj := co "write_chain" 427 "write_chain" 428 429 [.int 110 0, .int 2 0, .int 0 0, .int 0 0, .int 3 0, .ref 188, .bool true, .int 181 0, .ref 189, .none, .none, .none, .ref 190, .int 430 0, .int 110 0] 431
noncomputable def o192 (_ : Params) : Obj := fo (top 15) "write_chain" "pagebase.overflow" 414 191
noncomputable def o198 (_ : Params) : Obj := co "look_at_link" 433 "look_at_link" 434 435 [.int 119 0, .int 2 0, .int 0 0, .int 0 0, .int 3 0, .ref 193, .bool true, .int 181 0, .ref 194, .none, .ref 195, .ref 196, .ref 197, .int 438 0, .int 119 0] 439
noncomputable def o199 (_ : Params) : Obj := fo (top 16) "look_at_link" "pagebase.overflow" 414 198
noncomputable def o205 (_ : Params) : Obj := co "read_chain" 441 "read_chain" 442 443 [.int 122 0, .int 3 0, .int 0 0, .int 0 0, .int 3 0, .ref 200, .bool true, .int 181 0, .ref 201, .none, .ref 202, .ref 203, .ref 204, .int 452 0, .int 122 0] 453
noncomputable def o206 (_ : Params) : Obj := fo (top 17) "read_chain" "pagebase.overflow" 414 205
noncomputable def o212 (_ : Params) : Obj := co "chain_of_size" 455 "chain_of_size" 456 457 [.int 132 0, .int 3 0, .int 0 0, .int 0 0, .int 3 0, .ref 207, .bool true, .int 181 0, .ref 208, .none, .ref 209, .ref 210, .ref 211, .int 464 0, .int 132 0] 465
noncomputable def o213 (_ : Params) : Obj := fo (top 18) "chain_of_size" "pagebase.overflow" 414 212
noncomputable def o219 (_ : Params) : Obj := co "free_chain" 467 "free_chain" 468 469 [.int 143 0, .int 3 0, .int 0 0, .int 0 0, .int 3 0, .ref 214, .bool true, .int 181 0, .ref 215, .none, .ref 216, .ref 217, .ref 218, .int 475 0, .int 143 0] 476
noncomputable def o220 (_ : Params) : Obj := fo (top 19) "free_chain" "pagebase.overflow" 414 219
noncomputable def o226 (_ : Params) : Obj := co "chain_pages" 478 "chain_pages" 479 480 [.int 148 0, .int 2 0, .int 0 0, .int 0 0, .int 3 0, .ref 221, .bool true, .int 181 0, .ref 222, .none, .ref 223, .ref 224, .ref 225, .int 486 0, .int 148 0] 487
noncomputable def o227 (_ : Params) : Obj := fo (top 20) "chain_pages" "pagebase.overflow" 414 226
noncomputable def o233 (_ : Params) : Obj := co "put_number" 499 "put_number" 500 501 [.int 163 0, .int 2 0, .int 0 0, .int 0 0, .int 3 0, .ref 228, .bool true, .int 181 0, .ref 229, .none, .ref 230, .ref 231, .ref 232, .int 504 0, .int 163 0] 505
noncomputable def o234 (_ : Params) : Obj := fo (top 26) "put_number" "pagebase.header" 489 233
noncomputable def o240 (_ : Params) : Obj := co "get_number" 507 "get_number" 508 509 [.int 165 0, .int 3 0, .int 0 0, .int 0 0, .int 3 0, .ref 235, .bool true, .int 181 0, .ref 236, .none, .ref 237, .ref 238, .ref 239, .int 513 0, .int 165 0] 514
noncomputable def o241 (_ : Params) : Obj := fo (top 27) "get_number" "pagebase.header" 489 240
noncomputable def o247 (_ : Params) : Obj := co "is_page_size" 516 "is_page_size" 517 518 [.int 167 0, .int 1 0, .int 0 0, .int 0 0, .int 3 0, .ref 242, .bool true, .int 181 0, .ref 243, .none, .ref 244, .ref 245, .ref 246, .int 520 0, .int 167 0] 521
noncomputable def o248 (_ : Params) : Obj := fo (top 28) "is_page_size" "pagebase.header" 489 247
noncomputable def o256 (_ : Params) : Obj := { cls := .type "tuple", data := .seq #[.int 0 535, .int 0 536, .int 0 537, .int 0 538, .int 0 539, .int 0 540, .int 0 541] }
noncomputable def o262 (_ : Params) : Obj := co "__init__" 542 "Header.__init__" 543 544 [.int 171 0, .int 9 0, .int 0 0, .int 0 0, .int 3 0, .ref 257, .bool true, .int 181 0, .ref 258, .none, .ref 259, .ref 260, .ref 261, .int 554 0, .int 171 0] 555
noncomputable def o263 (_ : Params) : Obj := fo (nth (clsB (top 29)) 0) "Header.__init__" "pagebase.header" 489 262 (.ref 256)
noncomputable def o269 (_ : Params) : Obj := co "pack" 557 "Header.pack" 558 559 [.int 181 0, .int 1 0, .int 0 0, .int 0 0, .int 3 0, .ref 264, .bool true, .int 181 0, .ref 265, .none, .ref 266, .ref 267, .ref 268, .int 563 0, .int 181 0] 564
noncomputable def o270 (_ : Params) : Obj := fo (nth (clsB (top 29)) 1) "Header.pack" "pagebase.header" 489 269
noncomputable def o274 (_ : Params) : Obj := co "unpack" 566 "Header.unpack" 567 568 [.int 187 0, .int 1 0, .int 0 0, .int 0 0, .int 3 0, .ref 271, .bool true, .int 181 0, .ref 272, .none, .none, .none, .ref 273, .int 569 0, .int 187 0] 570
noncomputable def o275 (_ : Params) : Obj := fo (nth (clsB (top 29)) 2) "Header.unpack" "pagebase.header" 489 274 .none (some 278)
noncomputable def o276 (P : Params) : Obj := { cls := .type "dict", data := .dict #[de P "__module__" 572 (vs "pagebase.header" 489), de P "__name__" 575 (vs "unpack" 574), de P "__qualname__" 578 (vs "Header.unpack" 577), de P "__doc__" 580 (.none), de P "__annotations__" 582 (.ref 278)] 5 }
noncomputable def o277 (_ : Params) : Obj := { cls := .type "staticmethod", dict := some 276, data := .fields #[.ref 275, .bool false] }
noncomputable def o278 (_ : Params) : Obj := { cls := .type "dict", data := .dict #[] }
noncomputable def o280 (P : Params) : Obj := { cls := .type "dict", data := .dict #[de P "__module__" 530 (vs "pagebase.header" 489), de P "__firstlineno__" 534 (.int 169 533), de P "__init__" 556 (.ref 263), de P "pack" 565 (.ref 270), de P "unpack" 583 (.ref 277), de P "__static_attributes__" 592 (.ref 279), de P "__dict__" 594 (.ref 282), de P "__weakref__" 596 (.ref 283), de P "__doc__" 597 (.none)] 4 }
noncomputable def o281 (_ : Params) : Obj := { cls := .type "type", data := .cls { name := Str.ofString "Header", bases := [.type "object"], mro := [.ref 281, .type "object"], ns := 280, qualname := Str.ofString "Header" }, slots := #[none, none, some (vs "Header" 523), some (vs "Header" 531), some (.builtin "object.__new__"), some (.bool true)] }
noncomputable def o282 (_ : Params) : Obj := { cls := .type "getset_descriptor", data := .fields #[vs "__dict__" 593, .ref 281, .builtin "function.__dict__", .builtin "function.__dict__#set"] }
noncomputable def o283 (_ : Params) : Obj := { cls := .type "getset_descriptor", data := .fields #[vs "__weakref__" 595, .ref 281, .builtin "ExceptionGroup.__weakref__", .none] }
noncomputable def o298 (_ : Params) : Obj := co "__init__" 614 "PageStore.__init__" 615 616 [.int 199 0, .int 2 0, .int 0 0, .int 0 0, .int 3 0, .ref 293, .bool true, .int 181 0, .ref 294, .none, .ref 295, .ref 296, .ref 297, .int 619 0, .int 199 0] 620
noncomputable def o299 (_ : Params) : Obj := fo (nth (clsB (top 31)) 0) "PageStore.__init__" "pagebase.store" 600 298
noncomputable def o305 (_ : Params) : Obj := co "page_count" 622 "PageStore.page_count" 623 624 [.int 204 0, .int 1 0, .int 0 0, .int 0 0, .int 3 0, .ref 300, .bool true, .int 181 0, .ref 301, .none, .ref 302, .ref 303, .ref 304, .int 626 0, .int 204 0] 627
noncomputable def o306 (_ : Params) : Obj := fo (nth (clsB (top 31)) 1) "PageStore.page_count" "pagebase.store" 600 305
noncomputable def o312 (_ : Params) : Obj := co "read_page" 629 "PageStore.read_page" 630 631 [.int 207 0, .int 2 0, .int 0 0, .int 0 0, .int 3 0, .ref 307, .bool true, .int 181 0, .ref 308, .none, .ref 309, .ref 310, .ref 311, .int 634 0, .int 207 0] 635
noncomputable def o313 (_ : Params) : Obj := fo (nth (clsB (top 31)) 2) "PageStore.read_page" "pagebase.store" 600 312
noncomputable def o319 (_ : Params) : Obj := co "write_page" 637 "PageStore.write_page" 638 639 [.int 212 0, .int 3 0, .int 0 0, .int 0 0, .int 3 0, .ref 314, .bool true, .int 181 0, .ref 315, .none, .ref 316, .ref 317, .ref 318, .int 643 0, .int 212 0] 644
noncomputable def o320 (_ : Params) : Obj := fo (nth (clsB (top 31)) 3) "PageStore.write_page" "pagebase.store" 600 319
noncomputable def o326 (_ : Params) : Obj := co "extend" 646 "PageStore.extend" 647 648 [.int 217 0, .int 1 0, .int 0 0, .int 0 0, .int 3 0, .ref 321, .bool true, .int 181 0, .ref 322, .none, .ref 323, .ref 324, .ref 325, .int 650 0, .int 217 0] 651
noncomputable def o327 (_ : Params) : Obj := fo (nth (clsB (top 31)) 4) "PageStore.extend" "pagebase.store" 600 326
noncomputable def o333 (_ : Params) : Obj := co "take" 653 "PageStore.take" 654 655 [.int 221 0, .int 1 0, .int 0 0, .int 0 0, .int 3 0, .ref 328, .bool true, .int 181 0, .ref 329, .none, .ref 330, .ref 331, .ref 332, .int 657 0, .int 221 0] 658
noncomputable def o334 (_ : Params) : Obj := fo (nth (clsB (top 31)) 5) "PageStore.take" "pagebase.store" 600 333
noncomputable def o340 (_ : Params) : Obj := co "give" 660 "PageStore.give" 661 662 [.int 226 0, .int 2 0, .int 0 0, .int 0 0, .int 3 0, .ref 335, .bool true, .int 181 0, .ref 336, .none, .ref 337, .ref 338, .ref 339, .int 665 0, .int 226 0] 666
noncomputable def o341 (_ : Params) : Obj := fo (nth (clsB (top 31)) 6) "PageStore.give" "pagebase.store" 600 340
noncomputable def o343 (P : Params) : Obj := { cls := .type "dict", data := .dict #[de P "__module__" 609 (vs "pagebase.store" 600), de P "__firstlineno__" 613 (.int 197 612), de P "__init__" 621 (.ref 299), de P "page_count" 628 (.ref 306), de P "read_page" 636 (.ref 313), de P "write_page" 645 (.ref 320), de P "extend" 652 (.ref 327), de P "take" 659 (.ref 334), de P "give" 667 (.ref 341), de P "__static_attributes__" 671 (.ref 342), de P "__dict__" 673 (.ref 345), de P "__weakref__" 675 (.ref 346), de P "__doc__" 676 (.none)] 4 }
noncomputable def o344 (_ : Params) : Obj := { cls := .type "type", data := .cls { name := Str.ofString "PageStore", bases := [.type "object"], mro := [.ref 344, .type "object"], ns := 343, qualname := Str.ofString "PageStore", subclasses := [.ref 386] }, slots := #[none, none, some (vs "PageStore" 602), some (vs "PageStore" 610), some (.builtin "object.__new__"), some (.bool true)] }
noncomputable def o345 (_ : Params) : Obj := { cls := .type "getset_descriptor", data := .fields #[vs "__dict__" 672, .ref 344, .builtin "function.__dict__", .builtin "function.__dict__#set"] }
noncomputable def o346 (_ : Params) : Obj := { cls := .type "getset_descriptor", data := .fields #[vs "__weakref__" 674, .ref 344, .builtin "ExceptionGroup.__weakref__", .none] }
noncomputable def o349 (_ : Params) : Obj := { cls := .type "tuple", data := .seq #[.ref 344] }
noncomputable def o361 (_ : Params) : Obj := co "write_page" 691 "Store.write_page" 692 693 [.int 232 0, .int 3 0, .int 0 0, .int 0 0, .int 3 0, .ref 356, .bool true, .int 181 0, .ref 357, .none, .ref 358, .ref 359, .ref 360, .int 699 0, .int 232 0] 700
noncomputable def o362 (_ : Params) : Obj := fo (nth (clsB (top 32)) 0) "Store.write_page" "pagebase.store" 600 361
noncomputable def o368 (_ : Params) : Obj := co "truncate" 702 "Store.truncate" 703 704 [.int 239 0, .int 2 0, .int 0 0, .int 0 0, .int 3 0, .ref 363, .bool true, .int 181 0, .ref 364, .none, .ref 365, .ref 366, .ref 367, .int 707 0, .int 239 0] 708
noncomputable def o369 (_ : Params) : Obj := fo (nth (clsB (top 32)) 1) "Store.truncate" "pagebase.store" 600 368
noncomputable def o375 (_ : Params) : Obj := co "read_header" 710 "Store.read_header" 711 712 [.int 242 0, .int 1 0, .int 0 0, .int 0 0, .int 3 0, .ref 370, .bool true, .int 181 0, .ref 371, .none, .ref 372, .ref 373, .ref 374, .int 715 0, .int 242 0] 716
noncomputable def o376 (_ : Params) : Obj := fo (nth (clsB (top 32)) 2) "Store.read_header" "pagebase.store" 600 375
noncomputable def o382 (_ : Params) : Obj := co "write_header" 718 "Store.write_header" 719 720 [.int 249 0, .int 2 0, .int 0 0, .int 0 0, .int 3 0, .ref 377, .bool true, .int 181 0, .ref 378, .none, .ref 379, .ref 380, .ref 381, .int 723 0, .int 249 0] 724
noncomputable def o383 (_ : Params) : Obj := fo (nth (clsB (top 32)) 3) "Store.write_header" "pagebase.store" 600 382
noncomputable def o385 (P : Params) : Obj := { cls := .type "dict", data := .dict #[de P "__module__" 686 (vs "pagebase.store" 600), de P "__firstlineno__" 690 (.int 230 689), de P "write_page" 701 (.ref 362), de P "truncate" 709 (.ref 369), de P "read_header" 717 (.ref 376), de P "write_header" 725 (.ref 383), de P "__static_attributes__" 726 (.ref 384), de P "__doc__" 727 (.none)] 2 }
noncomputable def o386 (_ : Params) : Obj := { cls := .type "type", data := .cls { name := Str.ofString "Store", bases := [.ref 344], mro := [.ref 386, .ref 344, .type "object"], ns := 385, qualname := Str.ofString "Store" }, slots := #[some (.ref 349), none, some (vs "Store" 679), some (vs "Store" 687), some (.builtin "object.__new__"), some (.bool true)] }
noncomputable def o394 (_ : Params) : Obj := co "_law_source" 732 "_law_source" 733 734 [.int 256 0, .int 1 0, .int 0 0, .int 0 0, .int 3 0, .ref 389, .bool true, .int 181 0, .ref 390, .none, .ref 391, .ref 392, .ref 393, .int 740 0, .int 256 0] 741
noncomputable def o395 (_ : Params) : Obj := fo (top 34) "_law_source" "law_nt0105_01" 730 394
noncomputable def o401 (_ : Params) : Obj := co "_law_draw" 743 "_law_draw" 744 745 [.int 263 0, .int 2 0, .int 0 0, .int 0 0, .int 3 0, .ref 396, .bool true, .int 181 0, .ref 397, .none, .ref 398, .ref 399, .ref 400, .int 749 0, .int 263 0] 750
noncomputable def o402 (_ : Params) : Obj := fo (top 35) "_law_draw" "law_nt0105_01" 730 401
noncomputable def o406 (_ : Params) : Obj := co "_law_octets" 752 "_law_octets" 753 754 [.int 270 0, .int 2 0, .int 0 0, .int 0 0, .int 3 0, .ref 403, .bool true, .int 181 0, .ref 404, .none, .none, .none, .ref 405, .int 755 0, .int 270 0] 756
noncomputable def o407 (_ : Params) : Obj := fo (top 36) "_law_octets" "law_nt0105_01" 730 406
noncomputable def o413 (_ : Params) : Obj := co "_law_refusal" 758 "_law_refusal" 759 760 [.int 273 0, .int 1 0, .int 0 0, .int 0 0, .int 3 0, .ref 408, .bool true, .int 181 0, .ref 409, .none, .ref 410, .ref 411, .ref 412, .int 762 0, .int 273 0] 763
noncomputable def o414 (_ : Params) : Obj := fo (top 37) "_law_refusal" "law_nt0105_01" 730 413
noncomputable def o418 (_ : Params) : Obj := co "_law_new" 765 "_law_new" 766 767 [.int 281 0, .int 4 0, .int 0 0, .int 0 0, .int 3 0, .ref 415, .bool true, .int 181 0, .ref 416, .none, .none, .none, .ref 417, .int 768 0, .int 281 0] 769
noncomputable def o419 (_ : Params) : Obj := fo (top 38) "_law_new" "law_nt0105_01" 730 418
noncomputable def o425 (_ : Params) : Obj := co "_law_taken" 771 "_law_taken" 772 773 [.int 287 0, .int 3 0, .int 0 0, .int 0 0, .int 3 0, .ref 420, .bool true, .int 181 0, .ref 421, .none, .ref 422, .ref 423, .ref 424, .int 780 0, .int 287 0] 781
noncomputable def o426 (_ : Params) : Obj := fo (top 39) "_law_taken" "law_nt0105_01" 730 425
noncomputable def o432 (_ : Params) : Obj := co "_law_given" 783 "_law_given" 784 785 [.int 294 0, .int 3 0, .int 0 0, .int 0 0, .int 3 0, .ref 427, .bool true, .int 181 0, .ref 428, .none, .ref 429, .ref 430, .ref 431, .int 791 0, .int 294 0] 792
noncomputable def o433 (_ : Params) : Obj := fo (top 40) "_law_given" "law_nt0105_01" 730 432
noncomputable def o439 (_ : Params) : Obj := co "_law_written" 794 "_law_written" 795 796 [.int 300 0, .int 3 0, .int 0 0, .int 0 0, .int 3 0, .ref 434, .bool true, .int 181 0, .ref 435, .none, .ref 436, .ref 437, .ref 438, .int 806 0, .int 300 0] 807
noncomputable def o440 (_ : Params) : Obj := fo (top 41) "_law_written" "law_nt0105_01" 730 439
noncomputable def o446 (_ : Params) : Obj := co "_law_freed" 809 "_law_freed" 810 811 [.int 311 0, .int 3 0, .int 0 0, .int 0 0, .int 3 0, .ref 441, .bool true, .int 181 0, .ref 442, .none, .ref 443, .ref 444, .ref 445, .int 817 0, .int 311 0] 818
noncomputable def o447 (_ : Params) : Obj := fo (top 42) "_law_freed" "law_nt0105_01" 730 446
noncomputable def o453 (_ : Params) : Obj := co "_law_refused" 820 "_law_refused" 821 822 [.int 317 0, .int 3 0, .int 0 0, .int 0 0, .int 3 0, .ref 448, .bool true, .int 181 0, .ref 449, .none, .ref 450, .ref 451, .ref 452, .int 833 0, .int 317 0] 834
noncomputable def o454 (_ : Params) : Obj := fo (top 43) "_law_refused" "law_nt0105_01" 730 453
noncomputable def o458 (_ : Params) : Obj := co "_law_right" 836 "_law_right" 837 838 [.int 329 0, .int 3 0, .int 0 0, .int 0 0, .int 3 0, .ref 455, .bool true, .int 181 0, .ref 456, .none, .none, .none, .ref 457, .int 839 0, .int 329 0] 840
noncomputable def o459 (_ : Params) : Obj := fo (top 44) "_law_right" "law_nt0105_01" 730 458
noncomputable def o465 (_ : Params) : Obj := co "law" 842 "law" 843 844 [.int 344 0, .int 1 0, .int 0 0, .int 0 0, .int 3 0, .ref 460, .bool true, .int 181 0, .ref 461, .none, .ref 462, .ref 463, .ref 464, .int 856 0, .int 344 0] 857
noncomputable def o466 (_ : Params) : Obj := fo (top 45) "law" "law_nt0105_01" 730 465
noncomputable def K (P : Params) : Frag := (nat_lit 2, o2 P) :: (nat_lit 3, o3 P) :: (nat_lit 20, o20 P) :: (nat_lit 21, o21 P) :: (nat_lit 22, o22 P) :: (nat_lit 34, o34 P) :: (nat_lit 35, o35 P) :: (nat_lit 37, o37 P) :: (nat_lit 38, o38 P) :: (nat_lit 39, o39 P) :: (nat_lit 42, o42 P) :: (nat_lit 50, o50 P) :: (nat_lit 51, o51 P) :: (nat_lit 54, o54 P) :: (nat_lit 62, o62 P) :: (nat_lit 63, o63 P) :: (nat_lit 71, o71 P) :: (nat_lit 72, o72 P) :: (nat_lit 78, o78 P) :: (nat_lit 79, o79 P) :: (nat_lit 85, o85 P) :: (nat_lit 86, o86 P) :: (nat_lit 99, o99 P) :: (nat_lit 100, o100 P) :: (nat_lit 106, o106 P) :: (nat_lit 107, o107 P) :: (nat_lit 111, o111 P) :: (nat_lit 112, o112 P) :: (nat_lit 116, o116 P) :: (nat_lit 117, o117 P) :: (nat_lit 123, o123 P) :: (nat_lit 124, o124 P) :: (nat_lit 130, o130 P) :: (nat_lit 131, o131 P) :: (nat_lit 137, o137 P) :: (nat_lit 138, o138 P) :: (nat_lit 144, o144 P) :: (nat_lit 145, o145 P) :: (nat_lit 151, o151 P) :: (nat_lit 152, o152 P) :: (nat_lit 154, o154 P) :: (nat_lit 155, o155 P) :: (nat_lit 156, o156 P) :: (nat_lit 157, o157 P) :: (nat_lit 172, o172 P) :: (nat_lit 173, o173 P) :: (nat_lit 175, o175 P) :: (nat_lit 176, o176 P) :: (nat_lit 177, o177 P) :: (nat_lit 178, o178 P) :: (nat_lit 186, o186 P) :: (nat_lit 187, o187 P) :: (nat_lit 191, o191 P) :: (nat_lit 192, o192 P) :: (nat_lit 198, o198 P) :: (nat_lit 199, o199 P) :: (nat_lit 205, o205 P) :: (nat_lit 206, o206 P) :: (nat_lit 212, o212 P) :: (nat_lit 213, o213 P) :: (nat_lit 219, o219 P) :: (nat_lit 220, o220 P) :: (nat_lit 226, o226 P) :: (nat_lit 227, o227 P) :: (nat_lit 233, o233 P) :: (nat_lit 234, o234 P) :: (nat_lit 240, o240 P) :: (nat_lit 241, o241 P) :: (nat_lit 247, o247 P) :: (nat_lit 248, o248 P) :: (nat_lit 256, o256 P) :: (nat_lit 262, o262 P) :: (nat_lit 263, o263 P) :: (nat_lit 269, o269 P) :: (nat_lit 270, o270 P) :: (nat_lit 274, o274 P) :: (nat_lit 275, o275 P) :: (nat_lit 276, o276 P) :: (nat_lit 277, o277 P) :: (nat_lit 278, o278 P) :: (nat_lit 280, o280 P) :: (nat_lit 281, o281 P) :: (nat_lit 282, o282 P) :: (nat_lit 283, o283 P) :: (nat_lit 298, o298 P) :: (nat_lit 299, o299 P) :: (nat_lit 305, o305 P) :: (nat_lit 306, o306 P) :: (nat_lit 312, o312 P) :: (nat_lit 313, o313 P) :: (nat_lit 319, o319 P) :: (nat_lit 320, o320 P) :: (nat_lit 326, o326 P) :: (nat_lit 327, o327 P) :: (nat_lit 333, o333 P) :: (nat_lit 334, o334 P) :: (nat_lit 340, o340 P) :: (nat_lit 341, o341 P) :: (nat_lit 343, o343 P) :: (nat_lit 344, o344 P) :: (nat_lit 345, o345 P) :: (nat_lit 346, o346 P) :: (nat_lit 349, o349 P) :: (nat_lit 361, o361 P) :: (nat_lit 362, o362 P) :: (nat_lit 368, o368 P) :: (nat_lit 369, o369 P) :: (nat_lit 375, o375 P) :: (nat_lit 376, o376 P) :: (nat_lit 382, o382 P) :: (nat_lit 383, o383 P) :: (nat_lit 385, o385 P) :: (nat_lit 386, o386 P) :: (nat_lit 394, o394 P) :: (nat_lit 395, o395 P) :: (nat_lit 401, o401 P) :: (nat_lit 402, o402 P) :: (nat_lit 406, o406 P) :: (nat_lit 407, o407 P) :: (nat_lit 413, o413 P) :: (nat_lit 414, o414 P) :: (nat_lit 418, o418 P) :: (nat_lit 419, o419 P) :: (nat_lit 425, o425 P) :: (nat_lit 426, o426 P) :: (nat_lit 432, o432 P) :: (nat_lit 433, o433 P) :: (nat_lit 439, o439 P) :: (nat_lit 440, o440 P) :: (nat_lit 446, o446 P) :: (nat_lit 447, o447 P) :: (nat_lit 453, o453 P) :: (nat_lit 454, o454 P) :: (nat_lit 458, o458 P) :: (nat_lit 459, o459 P) :: (nat_lit 465, o465 P) :: (nat_lit 466, o466 P) :: []
noncomputable def a0 : List Nat := [2, 3, 20, 21, 22, 34, 35, 37, 38, 39, 42, 50]
noncomputable def k0 (P : Params) : List (Option Obj) := [some (o2 P), some (o3 P), some (o20 P), some (o21 P), some (o22 P), some (o34 P), some (o35 P), some (o37 P), some (o38 P), some (o39 P), some (o42 P), some (o50 P)]
noncomputable def a1 : List Nat := [51, 54, 62, 63, 71, 72, 78, 79, 85, 86, 99, 100]
noncomputable def k1 (P : Params) : List (Option Obj) := [some (o51 P), some (o54 P), some (o62 P), some (o63 P), some (o71 P), some (o72 P), some (o78 P), some (o79 P), some (o85 P), some (o86 P), some (o99 P), some (o100 P)]
noncomputable def a2 : List Nat := [106, 107, 111, 112, 116, 117, 123, 124, 130, 131, 137, 138]
noncomputable def k2 (P : Params) : List (Option Obj) := [some (o106 P), some (o107 P), some (o111 P), some (o112 P), some (o116 P), some (o117 P), some (o123 P), some (o124 P), some (o130 P), some (o131 P), some (o137 P), some (o138 P)]
noncomputable def a3 : List Nat := [144, 145, 151, 152, 154, 155, 156, 157, 172, 173, 175, 176]
noncomputable def k3 (P : Params) : List (Option Obj) := [some (o144 P), some (o145 P), some (o151 P), some (o152 P), some (o154 P), some (o155 P), some (o156 P), some (o157 P), some (o172 P), some (o173 P), some (o175 P), some (o176 P)]
noncomputable def a4 : List Nat := [177, 178, 186, 187, 191, 192, 198, 199, 205, 206, 212, 213]
noncomputable def k4 (P : Params) : List (Option Obj) := [some (o177 P), some (o178 P), some (o186 P), some (o187 P), some (o191 P), some (o192 P), some (o198 P), some (o199 P), some (o205 P), some (o206 P), some (o212 P), some (o213 P)]
noncomputable def a5 : List Nat := [219, 220, 226, 227, 233, 234, 240, 241, 247, 248, 256, 262]
noncomputable def k5 (P : Params) : List (Option Obj) := [some (o219 P), some (o220 P), some (o226 P), some (o227 P), some (o233 P), some (o234 P), some (o240 P), some (o241 P), some (o247 P), some (o248 P), some (o256 P), some (o262 P)]
noncomputable def a6 : List Nat := [263, 269, 270, 274, 275, 276, 277, 278, 280, 281, 282, 283]
noncomputable def k6 (P : Params) : List (Option Obj) := [some (o263 P), some (o269 P), some (o270 P), some (o274 P), some (o275 P), some (o276 P), some (o277 P), some (o278 P), some (o280 P), some (o281 P), some (o282 P), some (o283 P)]
noncomputable def a7 : List Nat := [298, 299, 305, 306, 312, 313, 319, 320, 326, 327, 333, 334]
noncomputable def k7 (P : Params) : List (Option Obj) := [some (o298 P), some (o299 P), some (o305 P), some (o306 P), some (o312 P), some (o313 P), some (o319 P), some (o320 P), some (o326 P), some (o327 P), some (o333 P), some (o334 P)]
noncomputable def a8 : List Nat := [340, 341, 343, 344, 345, 346, 349, 361, 362, 368, 369, 375]
noncomputable def k8 (P : Params) : List (Option Obj) := [some (o340 P), some (o341 P), some (o343 P), some (o344 P), some (o345 P), some (o346 P), some (o349 P), some (o361 P), some (o362 P), some (o368 P), some (o369 P), some (o375 P)]
noncomputable def a9 : List Nat := [376, 382, 383, 385, 386, 394, 395, 401, 402, 406, 407, 413]
noncomputable def k9 (P : Params) : List (Option Obj) := [some (o376 P), some (o382 P), some (o383 P), some (o385 P), some (o386 P), some (o394 P), some (o395 P), some (o401 P), some (o402 P), some (o406 P), some (o407 P), some (o413 P)]
noncomputable def a10 : List Nat := [414, 418, 419, 425, 426, 432, 433, 439, 440, 446, 447, 453]
noncomputable def k10 (P : Params) : List (Option Obj) := [some (o414 P), some (o418 P), some (o419 P), some (o425 P), some (o426 P), some (o432 P), some (o433 P), some (o439 P), some (o440 P), some (o446 P), some (o447 P), some (o453 P)]
noncomputable def a11 : List Nat := [454, 458, 459, 465, 466]
noncomputable def k11 (P : Params) : List (Option Obj) := [some (o454 P), some (o458 P), some (o459 P), some (o465 P), some (o466 P)]
noncomputable def keepB : List Nat := [0, 2, 3, 4, 6, 7, 8, 9, 10, 11, 13, 14, 15, 16, 17, 18, 19, 20, 22, 23, 24, 25, 26, 27, 28, 29, 31, 32, 34, 35, 36, 37, 38, 39, 40, 41, 42, 43, 44, 45]
noncomputable def qv : Program := view pw keepB
noncomputable def looseB : List Str := ["Header"]
noncomputable abbrev xtP (q : Program) (r : WRecords) (s : Shared) : Bool := xlAt q [] s && recOk r s
noncomputable abbrev XtB (s : Shared) : Bool := xtP qv (RowW.records PySem.Challenge.rw_nt0105_01.row.toRowW) s
noncomputable def looksA (p q : Program) (lo : List Str) (r : WRecords) (w : World) (s : Shared) := (staticsOk (importedModules p.main.body) (boot_heap w.params) s.heap && namesBound p s.heap && gensDone s && laidKept (boot_heap w.params) s.heap,
  openSeen q lo (importedModules p.main.body) (xtP q r) true s)
noncomputable def goodA := (true, openGood qv looseB)
noncomputable def looksB (s : Shared) : List (List (Option Obj)) := [[s.heap.get? 449], a0.map s.heap.get?, a1.map s.heap.get?, a2.map s.heap.get?, a3.map s.heap.get?, a4.map s.heap.get?, a5.map s.heap.get?, a6.map s.heap.get?, a7.map s.heap.get?, a8.map s.heap.get?, a9.map s.heap.get?, a10.map s.heap.get?, a11.map s.heap.get?]
noncomputable def goodB (P : Params) : List (List (Option Obj)) := [[some (tabObj #[])], k0 P, k1 P, k2 P, k3 P, k4 P, k5 P, k6 P, k7 P, k8 P, k9 P, k10 P, k11 P]
noncomputable def sizeB (P : Params) := ((boot_heap P).isNs mainGlobals, (boot_heap P).objs.size, (boot_heap P).nsMap mainGlobals "__annotations__")
noncomputable def sizeG : Bool × Nat × Option Value := (true, 11, some (.ref 6))
noncomputable def runB (p : Program) (w : World) (os : OsState) : Option SharedT := goT treeTable p w 11 (some (.ref 6)) 3600 (boot0 w os) (topStub p)
theorem seed : ((fun (_ : Program → World → OsState → Option SharedT) => true) runB && (fun (_ : Program → Program → List Str → WRecords → World → Shared → _) => true) looksA && (fun (_ : Shared → _) => true) looksB && (fun (_ : Params → _) => true) sizeB) = true := by k_qdec
theorem run_ok : ∀ w : World, (fun os => (runB pw w os).map (fun s => (looksA pw qv looseB (RowW.records PySem.Challenge.rw_nt0105_01.row.toRowW) w s.abs, looksB s.abs))) = fun _ => some (goodA, goodB w.params) := by
  rw [PySem.W.Fast.te7016275957249574054, PySem.W.Fast.te3334078082189662581]
  intro w
  kernel_rfl
theorem size_ok : ∀ P : Params, sizeB P = sizeG := by
  rw [PySem.W.Fast.te5952287425885751646]
  intro P
  kernel_rfl
theorem boot_abs (w : World) (os : OsState) : (boot0 w os).abs = ⟨boot_heap w.params, Array.mk [], boot_drawn, boot_toks, os⟩ := by kernel_rfl
theorem opening_ok : opening pw = plainProg pw.main.scope.names := by kernel_rfl
theorem fence_ok : ∀ s : Shared, fenceModules? pw s = some s := by intro s; kernel_rfl
theorem left_of {p q : Program} {loose : List Str} {Xt : Shared → Bool} {α β : Type} {Yf : Shared → α} {Ya : World → α} {N M d : Nat} {H₀ : Params → Heap} {gs₀ : Array GenState} {d₀ : Drawn} {k₀ m₀ : Nat} {ann : Option Value} {B : World → OsState → SharedT}
    {looks : World → Shared → Bool × β}
    (open_ : ∀ w : World, (fencedOpening treeTable p w N).map (fun s => (s.heap, s.gens, s.drawn, s.toks)) = some (H₀ w.params, gs₀, d₀, k₀))
    (size : ∀ P : Params, (H₀ P).isNs mainGlobals = true ∧ (H₀ P).objs.size = m₀ ∧ (H₀ P).nsMap mainGlobals "__annotations__" = ann) (hg : (gs₀.size == 0) = true)
    (hB : ∀ w os, (B w os).abs = ⟨H₀ w.params, gs₀, d₀, k₀, os⟩)
    (run : ∀ w os, ∃ s1, goT treeTable p w m₀ ann M (B w os) (topStub p) = some s1 ∧
      (staticsOk (importedModules p.main.body) (H₀ w.params) s1.abs.heap && namesBound p s1.abs.heap && gensDone s1.abs && laidKept (H₀ w.params) s1.abs.heap) = true ∧
      openSeen q loose (importedModules p.main.body) Xt true s1.abs = openGood q loose ∧ Yf s1.abs = Ya w) (hN : M + d = N) : LeftO p q loose Xt Yf Ya N := fun w => by
  obtain ⟨⟨h, gs, dr, k, os⟩, e, e'⟩ := Option.map_eq_some_iff.mp (open_ w)
  obtain ⟨rfl, rfl, rfl, rfl⟩ : h = H₀ w.params ∧ gs = gs₀ ∧ dr = d₀ ∧ k = k₀ := by simpa using e'
  obtain ⟨s1, r1, x1, x2, l2⟩ := run w os
  obtain ⟨z1, z2, z3⟩ := size w.params
  have r := topRun_mono d _ _ _ _ (goT_of r1)
  rw [hB, hN] at r
  have t : topFrom treeTable p w N ⟨H₀ w.params, gs, dr, k, os⟩ = some s1.abs := by
    unfold topFrom
    try dsimp only
    rw [z1, z2, z3, r, hg]
    show (match staticsOk (importedModules p.main.body) (H₀ w.params) s1.abs.heap && namesBound p s1.abs.heap && gensDone s1.abs && laidKept (H₀ w.params) s1.abs.heap with | true => some s1.abs | false => none) = _
    rw [x1]
  unfold openEnds
  rw [e, Option.bind_some, t, Option.map_some, x2, l2]
theorem run_all (w : World) (os : OsState) : ∃ s1, goT treeTable pw w 11 (some (.ref 6)) 3600 (boot0 w os) (topStub pw) = some s1 ∧
      (staticsOk (importedModules pw.main.body) (boot_heap w.params) s1.abs.heap && namesBound pw s1.abs.heap && gensDone s1.abs && laidKept (boot_heap w.params) s1.abs.heap) = true ∧
      openSeen qv looseB (importedModules pw.main.body) XtB true s1.abs = openGood qv looseB ∧ looksB s1.abs = goodB w.params := by
  obtain ⟨s1, r1, l1⟩ := Option.map_eq_some_iff.mp (congrFun (run_ok w) os)
  exact ⟨s1, r1, congrArg (·.1.1) l1, congrArg (·.1.2) l1, congrArg (·.2) l1⟩
theorem left_ok : LeftO pw qv looseB XtB looksB (fun w => goodB w.params) 7078 :=
  left_of (H₀ := boot_heap) (B := boot0) (M := 3600) (d := 3478) (looks := looksA pw qv looseB (RowW.records PySem.Challenge.rw_nt0105_01.row.toRowW)) (boot_open (p := pw) (N := 7078) opening_ok rfl fence_ok) (fun P => ⟨congrArg (·.1) (size_ok P), congrArg (·.2.1) (size_ok P), congrArg (·.2.2) (size_ok P)⟩) rfl boot_abs run_all rfl
noncomputable def asK : List Addr := [2, 3, 20, 21, 22, 34, 35, 37, 38, 39, 42, 50, 51, 54, 62, 63, 71, 72, 78, 79, 85, 86, 99, 100, 106, 107, 111, 112, 116, 117, 123, 124, 130, 131, 137, 138, 144, 145, 151, 152, 154, 155, 156, 157, 172, 173, 175, 176, 177, 178, 186, 187, 191, 192, 198, 199, 205, 206, 212, 213, 219, 220, 226, 227, 233, 234, 240, 241, 247, 248, 256, 262, 263, 269, 270, 274, 275, 276, 277, 278, 280, 281, 282, 283, 298, 299, 305, 306, 312, 313, 319, 320, 326, 327, 333, 334, 340, 341, 343, 344, 345, 346, 349, 361, 362, 368, 369, 375, 376, 382, 383, 385, 386, 394, 395, 401, 402, 406, 407, 413, 414, 418, 419, 425, 426, 432, 433, 439, 440, 446, 447, 453, 454, 458, 459, 465, 466]
theorem asK_ok : ∀ P, asK = (K P).map (·.1) := fun _ => by kernel_rfl
theorem K_in (w : World) (s : Shared) (e : looksB s = goodB w.params) : (kmHook K asK asK_ok [449]).says w s.heap := by
  simp only [looksB, goodB, List.cons.injEq, and_true] at e
  have h449 := e.1
  have e' := e.2
  clear e
  obtain ⟨e0, e1, e2, e3, e4, e5, e6, e7, e8, e9, e10, e11⟩ := e'
  refine ⟨Frag.in_of (asK_ok w.params) ?_, fun P hP => by rw [List.mem_singleton.mp hP]; exact h449⟩
  have x : asK = a0 ++ (a1 ++ (a2 ++ (a3 ++ (a4 ++ (a5 ++ (a6 ++ (a7 ++ (a8 ++ (a9 ++ (a10 ++ (a11))))))))))) := by kernel_rfl
  have y : (K w.params).map (fun p => some p.2) = k0 w.params ++ (k1 w.params ++ (k2 w.params ++ (k3 w.params ++ (k4 w.params ++ (k5 w.params ++ (k6 w.params ++ (k7 w.params ++ (k8 w.params ++ (k9 w.params ++ (k10 w.params ++ (k11 w.params))))))))))) := by kernel_rfl
  rw [x, y]
  simp only [List.map_append, *]
noncomputable def saidB (p : Program) : Bool := OpenLaw.wellSaid { prog := p, name := (PySem.Str.ofString "law"), about := [(PySem.Str.ofString "chain_of_size")], foot := 12, most := some 63, bound := none, writes := false }
theorem seed2 : ((fun (_ : Program → Bool) => true) saidB) = true := by k_qdec
theorem said_ok : saidB PySem.Challenge.pw_nt0105_01 = true := by
  rw [PySem.W.Fast.te8564405043168786646]
  kernel_rfl
theorem said_rw : OpenLaw.wellSaid PySem.Challenge.rw_nt0105_01 = true := said_ok

example (w : World) (g : Heap) : (K w.params).In g → PySem.Challenge.rw_nt0105_01.Holds → True := by k_fill; intros; trivial
-- LINES
local macro_rules | `(tactic| omega) => `(tactic| lia)
-- END LINES
section
variable {w : World} {A A₀ : Around} {base g : Heap} {outer : List Env} {s s' : Shared} {news mn mn' others : List (Addr × Obj)}
  {p : Program} {loose : List Str} {mean : ExcName → Option Value} {mg mb : Str → Option Value}

structure Room (A : Around) (k : Nat) : Prop where
  handled : A.handled = none
  depth : A.depth + 20 * k < 900
  units : A.units + 100 * k < 9000
theorem Room.deeper {k j : Nat} {env : Env} (r : Room A k) (h : j < k) : Room (A.deeper env) j :=
  ⟨r.handled, by have := r.depth; show A.depth + 1 + 20 * j < 900; omega, by have := r.units; show A.units + 3 + 100 * j < 9000; omega⟩
theorem Room.lim {k : Nat} (r : Room A k) : A.depth < recursionLimit := by have := r.depth; unfold recursionLimit; omega
theorem Room.limD {k : Nat} {env : Env} (r : Room A k) : (A.deeper env).depth < recursionLimit := by have := r.depth; show A.depth + 1 < 1000; omega
theorem Room.hand {k : Nat} {env : Env} (r : Room A k) : (A.deeper env).handled = none := r.handled
theorem Room.unitsD {k : Nat} {env : Env} (r : Room A k) : (A.deeper env).units + 64 < cLine := by have := r.units; show A.units + 3 + 64 < 9900; omega
theorem Room.unitsD' {k : Nat} {env : Env} (r : Room A k) : (A.deeper env).units < cLine := by have := r.units; show A.units + 3 < 9900; omega

structure Pre (p : Program) (loose : List Str) (mean : ExcName → Option Value) (mg mb : Str → Option Value) (w : World) (A : Around) (base : Heap) (outer : List Env) (g : Heap) (s : Shared) (mn : List (Addr × Obj)) : Prop where
  B : Below A base outer g
  X : (K w.params).In g
  T : Top p loose mean mg mb g
  S : g.StaysIn s.heap
  Z : g.objs.size ≤ s.heap.objs.size
  N : ∀ q ∈ mn, s.heap.get? q.1 = some q.2 ∧ g.get? q.1 = none

structure Post (g : Heap) (h' : Heap) (mn' : List (Addr × Obj)) : Prop where
  S : g.StaysIn h'
  N : ∀ q ∈ mn', h'.get? q.1 = some q.2 ∧ g.get? q.1 = none
  nd : (mn'.map (·.1)).Nodup

theorem enter {R : Result → Shared → Prop} {name qual : Str} {params : Arguments} {body : List Stmt} {scope : Scope} {dV kV doc pm cdv ct oc : Value} {an od : Option Addr} {osl : Array (Option Value)} {f : Addr} {vals dfl : List Value} {binds : List (Str × Value)}
    (P : Pre p loose mean mg mb w A base outer g s mn)
    (ho : (K w.params).lookup f = some ⟨oc, od, .func (fnOf name qual params body scope dV kV doc pm an cdv ct), osl⟩) (hcd : codeIn (K w.params) cdv qual = true) (hroom : A.depth < recursionLimit)
    (_hz : (params.args.map (·.arg)).zip (vals ++ dfl) = binds)
    (hbind : BindsTo s (fnOf name qual params body scope dV kV doc pm an cdv ct) ⟨vals, []⟩ binds) (hloc : ∀ y ∈ binds, scope.names.lookup y.1 = some .local)
    (h : ∀ L' h₁, Fr g L' h₁ (fun y => binds.reverse.lookup y) → News g L' h₁ mn → (∀ q ∈ mn, q.1 < L') → Below A base outer g → (K w.params).In g → Top p loose mean mg mb g →
      wpAny (model PySem.Challenge.rw_nt0105_01.row.prog w) (A.deeper (envOf qual scope L' f cdv)) (execs body (envOf qual scope L' f cdv))
        (fun fl s' => R (.ok (.ret (match fl with | .ret v => v | _ => .none))) s')
        (fun e s' => wpAny (model PySem.Challenge.rw_nt0105_01.row.prog w) (A.deeper (envOf qual scope L' f cdv)) (leaving (envOf qual scope L' f cdv) e) (fun _ s'' => R (.error e) s'') (fun e' s'' => R (.error e') s'') s')
        { s with heap := h₁, toks := s.toks + binds.length })
    (hcell : ∀ x ∈ scope.names, x.2 ≠ .cell)
    (hco : scope.isCoroutine = false := by rfl) (hgen : scope.isGenerator = false := by rfl) (hk : scope.kind = .function := by rfl) : codeAny (model PySem.Challenge.rw_nt0105_01.row.prog w) A (.call (.ref f) ⟨vals, []⟩) R s := by
  have Xs : (K w.params).In s.heap := P.X.keeps P.S
  refine codeAny_call_def (fd := fnOf name qual params body scope dV kV doc pm an cdv ct) (body := body) (binds := binds) hroom (Xs _ _ ho) rfl (P.T.nolimit.keeps P.S) (codeRec_of Xs hcd) rfl hbind hcell hloc (fun h₁ hns hk₁ => ?_) hco hgen hk
  exact h s.heap.objs.size h₁ ⟨hns, fun b o e => hk₁ b o (P.S b o e), P.Z⟩
    (fun q hq => ⟨hk₁ _ _ (P.N q hq).1, Nat.ne_of_lt (Heap.lt_size (P.N q hq).1), (P.N q hq).2⟩)
    (fun q hq => Heap.lt_size (P.N q hq).1) P.B P.X P.T

theorem enterC {R : Result → Shared → Prop} {name qual : Str} {params : Arguments} {body : List Stmt} {scope : Scope} {dV kV doc pm cdv ct oc : Value} {an od : Option Addr} {osl : Array (Option Value)} {f : Addr} {vals : List Value} {binds : List (Str × Value)} {m cm : Str → Option Value}
    (P : Pre p loose mean mg mb w A base outer g s mn)
    (ho : (K w.params).lookup f = some ⟨oc, od, .func (fnOf name qual params body scope dV kV doc pm an cdv ct), osl⟩) (hcd : codeIn (K w.params) cdv qual = true) (hroom : A.depth < recursionLimit)
    (_hz : (params.args.map (·.arg)).zip vals = binds)
    (hbind : BindsTo s (fnOf name qual params body scope dV kV doc pm an cdv ct) ⟨vals, []⟩ binds) (hm : ∀ L', bindL (envOfC qual scope L' f cdv).kindOf binds (fun _ => none) = m) (hcm : ∀ L', bindC (envOfC qual scope L' f cdv).kindOf binds (fun _ => none) = cm) (hkind : (binds.all fun y => scope.names.lookup y.1 == some .local || scope.names.lookup y.1 == some .cell) = true)
    (hnd : ((cellsFrom 0 scope.names []).map (·.1)).Nodup)
    (h : ∀ L' h₁ tk cells, Fr g L' h₁ m → News g L' h₁ (cells ++ mn) →
      CellsAre cm (cellsFrom (L' + 1) scope.names []) cells → (∀ q ∈ cells, ∀ r ∈ mn, q.1 ≠ r.1) → Below A base outer g → (K w.params).In g → Top p loose mean mg mb g →
      wpAny (model PySem.Challenge.rw_nt0105_01.row.prog w) (A.deeper (envOfC qual scope L' f cdv)) (execs body (envOfC qual scope L' f cdv))
        (fun fl s' => R (.ok (.ret (match fl with | .ret v => v | _ => .none))) s')
        (fun e s' => wpAny (model PySem.Challenge.rw_nt0105_01.row.prog w) (A.deeper (envOfC qual scope L' f cdv)) (leaving (envOfC qual scope L' f cdv) e) (fun _ s'' => R (.error e) s'') (fun e' s'' => R (.error e') s'') s')
        { s with heap := h₁, toks := tk })
    (hco : scope.isCoroutine = false) (hgen : scope.isGenerator = false) (hk : scope.kind = .function) : codeAny (model PySem.Challenge.rw_nt0105_01.row.prog w) A (.call (.ref f) ⟨vals, []⟩) R s := by
  have Xs : (K w.params).In s.heap := P.X.keeps P.S
  refine codeAny_call_function hroom (Xs _ _ ho) rfl hco hgen rfl (codeRec_of Xs hcd) (hbind _ _ _ _ ?_)
  refine wpAny_newFunctionEnv_cells hk (kindsX hkind _) fun env' he s' x => ?_
  subst he
  refine ⟨(P.T.nolimit.keeps P.S).keeps x.toInCall.keep, codeAny_func ?_⟩
  obtain ⟨h₁, tk, rfl, _⟩ := x.done
  have hk₁ := x.toInCall.keep
  obtain ⟨cells, NC, Y⟩ := Cl.news (h₀ := s.heap) (Nat.le_refl _) fun n c hm => ⟨x.cell n c (lookup_of_mem_nodup (cellsFrom_names scope.names 0 (s.heap.objs.size + 1) [] [] rfl ▸ hnd) hm), x.above n c hm⟩
  have xns : h₁.Ns s.heap.objs.size (bindL (envOfC qual scope s.heap.objs.size f cdv).kindOf binds fun _ => none) := x.toInCall.ns
  rw [hm] at xns
  have Y : CellsAre (bindC (envOfC qual scope s.heap.objs.size f cdv).kindOf binds fun _ => none) (cellsFrom (s.heap.objs.size + 1) scope.names []) cells := Y
  rw [hcm] at Y
  refine h s.heap.objs.size h₁ tk cells ⟨xns, fun b o e => hk₁ b o (P.S b o e), P.Z⟩ (fun q hq => ?_) Y (fun q hq r hr e => ?_) P.B P.X P.T
  rotate_left
  · have z := (P.N r hr).1
    rw [← e, (NC q hq).2.2] at z; cases z
  rcases List.mem_append.mp hq with hq | hq
  · refine ⟨(NC q hq).1, (NC q hq).2.1, ?_⟩
    cases e : g.get? q.1 with
    | none => rfl
    | some o => have := P.S _ _ e; rw [(NC q hq).2.2] at this; cases this
  · exact ⟨hk₁ _ _ (P.N q hq).1, Nat.ne_of_lt (Heap.lt_size (P.N q hq).1), (P.N q hq).2⟩

theorem Post.done {h : Heap} {L : Addr} {m : Str → Option Value} (F : Fr g L h m) (N : News g L h news) (hs : ∀ q ∈ mn', q ∈ news) (nd : (mn'.map (·.1)).Nodup) : Post g h mn' :=
  ⟨F.keep, fun q hq => ⟨(N q (hs q hq)).1, (N q (hs q hq)).2.2⟩, nd⟩

theorem sub_nil : ∀ q ∈ ([] : List (Addr × Obj)), q ∈ news := fun _ h => nomatch h
theorem sub_cons {a : Addr × Obj} {r : List (Addr × Obj)} (h : a ∈ news) (h2 : ∀ q ∈ r, q ∈ news) : ∀ q ∈ a :: r, q ∈ news := List.forall_mem_cons.mpr ⟨h, h2⟩
theorem pre_call {env : Env} {L : Addr} {m : Str → Option Value} (B₀ : Below A₀ base outer g) (hA : A.frames = some (env :: outer)) (hfr : env.frame = some L) (hck : env.scope.kind = .function)
    (X : (K w.params).In g) (T : Top p loose mean mg mb g) (F : Fr g L s.heap m) (N : News g L s.heap news) (hs : ∀ q ∈ mn, q ∈ news) :
    Pre p loose mean mg mb w A base (env :: outer) (hideAll s.heap (mn.map (·.1))) s mn := by
  have nm : ∀ b o, g.get? b = some o → b ∉ mn.map (·.1) := fun b o e q => by
    obtain ⟨p, hp, rfl⟩ := List.mem_map.mp q
    rw [(N p (hs p hp)).2.2] at e; cases e
  have st : g.StaysIn (hideAll s.heap (mn.map (·.1))) := fun b o e => hideAll_get _ (F.keep b o e) (nm b o e)
  have nL : L ∉ mn.map (·.1) := fun q => by
    obtain ⟨p, hp, e⟩ := List.mem_map.mp q
    exact (N p (hs p hp)).2.1 e
  have B₁ := pushX B₀ F hfr hck
  refine ⟨⟨hA, fun b o e => st b o (B₀.stays b o e), funFrames_hideAll B₁.frames fun env' he b hb hf => ?_⟩, X.keeps st, T.keeps st, fun b o e => of_hideAll _ e, Nat.le_of_eq (hideAll_size _ _), fun q hq => ⟨(N q (hs q hq)).1, hideAll_none _ (List.mem_map_of_mem hq)⟩⟩
  cases he with
  | head => exact nL ((Option.some.inj (hfr.symm.trans hf) : L = b) ▸ hb)
  | tail _ he =>
    obtain ⟨L₁, o₁, hf₁, ho₁⟩ := funFrames_in B₀.frames _ he
    rw [hf₁] at hf
    exact nm L₁ o₁ ho₁ ((Option.some.inj hf : L₁ = b) ▸ hb)

theorem post_call {h h' : Heap} {L : Addr} {m : Str → Option Value} (F : Fr g L h m) (N : News g L h news) (hs : ∀ q ∈ mn, q ∈ news) (P : Post (hideAll h (mn.map (·.1))) h' mn')
    (ho : ∀ q ∈ others, q ∈ news ∧ q.1 ∉ mn.map (·.1)) : Fr g L h' m ∧ News g L h' (mn' ++ others) ∧ ∀ q ∈ mn', ∀ r ∈ others, q.1 ≠ r.1 := by
  have nm : ∀ b o, g.get? b = some o → b ∉ mn.map (·.1) := fun b o e q => by
    obtain ⟨p, hp, rfl⟩ := List.mem_map.mp q
    rw [(N p (hs p hp)).2.2] at e; cases e
  have st : g.StaysIn (hideAll h (mn.map (·.1))) := fun b o e => hideAll_get _ (F.keep b o e) (nm b o e)
  have nL : L ∉ mn.map (·.1) := fun q => by
    obtain ⟨p, hp, e⟩ := List.mem_map.mp q
    exact (N p (hs p hp)).2.1 e
  obtain ⟨oL, es, ep, hL, r⟩ := F.ns
  have hLg := hideAll_get (mn.map (·.1)) hL nL
  refine ⟨⟨⟨oL, es, ep, P.S _ _ hLg, r⟩, fun b o e => P.S b o (st b o e), F.above⟩, fun q hq => ?_, fun q hq r hr e => ?_⟩
  · rcases List.mem_append.mp hq with hq | hq
    · refine ⟨(P.N q hq).1, fun e => ?_, ?_⟩
      · have := (P.N q hq).2; rw [e, hLg] at this; cases this
      · cases e : g.get? q.1 with
        | none => rfl
        | some o => have := (P.N q hq).2; rw [st _ _ e] at this; cases this
    · obtain ⟨h1, h2⟩ := ho q hq
      exact ⟨P.S _ _ (hideAll_get _ (N q h1).1 h2), (N q h1).2⟩
  · obtain ⟨h1, h2⟩ := ho r hr
    have := hideAll_get _ (N r h1).1 h2
    rw [← e, (P.N q hq).2] at this; cases this

theorem pre_pure {env : Env} {L : Addr} {m : Str → Option Value} (B₀ : Below A₀ base outer g) (hA : A.frames = some (env :: outer)) (hfr : env.frame = some L) (hck : env.scope.kind = .function)
    (X : (K w.params).In g) (T : Top p loose mean mg mb g) (F : Fr g L s.heap m) (N : News g L s.heap news) :
    Pre p loose mean mg mb w A base (env :: outer) s.heap s [] := pre_call B₀ hA hfr hck X T F N (mn := []) (fun _ h => nomatch h)

theorem post_pure {h h' : Heap} {L : Addr} {m : Str → Option Value} (F : Fr g L h m) (N : News g L h news) (P : Post h h' mn') : Fr g L h' m ∧ News g L h' (mn' ++ news) ∧ ∀ q ∈ mn', ∀ r ∈ news, q.1 ≠ r.1 :=
  post_call F N (mn := []) (others := news) (fun _ h => nomatch h) P (fun q hq => ⟨hq, fun h => nomatch h⟩)
theorem post_pure0 {h h' : Heap} {L : Addr} {m : Str → Option Value} (F : Fr g L h m) (N : News g L h news) (P : Post h h' []) : Fr g L h' m ∧ News g L h' news :=
  let ⟨a, b, _⟩ := post_pure F N P; ⟨a, b⟩
theorem pre_call1 {env : Env} {L : Addr} {m : Str → Option Value} {q : Addr × Obj} (B₀ : Below A₀ base outer g) (hA : A.frames = some (env :: outer)) (hfr : env.frame = some L) (hck : env.scope.kind = .function)
    (X : (K w.params).In g) (T : Top p loose mean mg mb g) (F : Fr g L s.heap m) (N : News g L s.heap news) (hm : q ∈ news) :
    Pre p loose mean mg mb w A base (env :: outer) (hideAll s.heap [q.1]) s [q] := pre_call B₀ hA hfr hck X T F N (mn := [q]) (fun r h => by rw [List.mem_singleton.mp h]; exact hm)
theorem stays_call1 {h : Heap} {L : Addr} {m : Str → Option Value} {q : Addr × Obj} (F : Fr g L h m) (N : News g L h news) (hm : q ∈ news) : g.StaysIn (hideAll h [q.1]) := fun b o e =>
  hideAll_get _ (F.keep b o e) fun hb => by
    rw [List.mem_singleton.mp hb, (N q hm).2.2] at e; cases e
theorem post_upd {h h' : Heap} {L D : Addr} {m : Str → Option Value} {o o' : Obj} {news' ex : List (Addr × Obj)} (F : Fr g L h m) (N : News g L h news) (U : Upd D o o' news news') (P : Post (hideAll h [D]) h' (ex ++ [(D, o')])) :
    Fr g L h' m ∧ News g L h' (ex ++ news') ∧ ∀ q ∈ ex, ∀ r ∈ news', q.1 ≠ r.1 := by
  obtain ⟨pre, post, rfl, rfl, a, b⟩ := U.split
  have hm : (D, o) ∈ pre ++ (D, o) :: post := List.mem_append.mpr (.inr (.head _))
  obtain ⟨F', N', D'⟩ := post_call (mn := [(D, o)]) (others := pre ++ post) F N (fun r h => by rw [List.mem_singleton.mp h]; exact hm) P (fun q hq => by
    refine ⟨?_, fun h => ?_⟩
    · rcases List.mem_append.mp hq with h | h
      · exact List.mem_append_left _ h
      · exact List.mem_append_right _ (.tail _ h)
    · have e : q.1 = D := List.mem_singleton.mp h
      rcases List.mem_append.mp hq with h | h
      · exact a q h e
      · exact b q h e)
  have nd := P.nd
  rw [List.map_append, List.nodup_append] at nd
  refine ⟨F', fun q hq => N' q ?_, fun q hq r hr e => ?_⟩
  · simp only [List.mem_append, List.mem_cons, List.not_mem_nil, or_false] at hq ⊢
    rcases hq with h | h | h | h
    · exact .inl (.inl h)
    · exact .inr (.inl h)
    · exact .inl (.inr h)
    · exact .inr (.inr h)
  · simp only [List.mem_append, List.mem_cons] at hr
    rcases hr with h | h | h
    · exact D' q (List.mem_append_left _ hq) r (List.mem_append_left _ h) e
    · subst h
      exact nd.2.2 _ (List.mem_map_of_mem hq) D (by simp) e
    · exact D' q (List.mem_append_left _ hq) r (List.mem_append_right _ h) e
theorem post_upd0 {h h' : Heap} {L D : Addr} {m : Str → Option Value} {o o' : Obj} {news' : List (Addr × Obj)} (F : Fr g L h m) (N : News g L h news) (U : Upd D o o' news news') (P : Post (hideAll h [D]) h' [(D, o')]) :
    Fr g L h' m ∧ News g L h' news' := let ⟨a, b, _⟩ := post_upd (ex := []) F N U P; ⟨a, b⟩
end
section
noncomputable def Ap (a b : Nat) : Prop := a ≠ b
theorem Ap.ne {a b : Nat} (h : Ap a b) : @Ne Nat a b := h
theorem Ap.en {a b : Nat} (h : Ap b a) : @Ne Nat a b := fun e => h e.symm
noncomputable def ApAll (d : Nat) : List (Addr × Obj) → Prop
  | [] => True
  | p :: r => Ap d p.1 ∧ ApAll d r
noncomputable def ApAll2 : List (Addr × Obj) → List (Addr × Obj) → Prop
  | [], _ => True
  | p :: r, l => ApAll p.1 l ∧ ApAll2 r l
noncomputable def ApNd : List (Addr × Obj) → Prop
  | [] => True
  | p :: r => ApAll p.1 r ∧ ApNd r
theorem apAll_of {d : Nat} : ∀ {l : List (Addr × Obj)}, (∀ r ∈ l, d ≠ r.1) → ApAll d l
  | [], _ => trivial
  | _ :: _, h => ⟨h _ (.head _), apAll_of fun r hr => h r (.tail _ hr)⟩
theorem apAll2_of : ∀ {a l : List (Addr × Obj)}, (∀ q ∈ a, ∀ r ∈ l, q.1 ≠ r.1) → ApAll2 a l
  | [], _, _ => trivial
  | _ :: _, _, h => ⟨apAll_of (h _ (.head _)), apAll2_of fun q hq => h q (.tail _ hq)⟩
theorem apNd_of : ∀ {l : List (Addr × Obj)}, (l.map (·.1)).Nodup → ApNd l
  | [], _ => trivial
  | _ :: _, h => by
    rw [List.map_cons, List.nodup_cons] at h
    exact ⟨apAll_of fun r hr e => h.1 (e ▸ List.mem_map_of_mem hr), apNd_of h.2⟩
theorem notin_nil {a : Addr} : a ∉ ([] : List Addr) := fun h => nomatch h
theorem notin_cons {a b : Addr} {l : List Addr} (h : @Ne Nat a b) (hl : a ∉ l) : a ∉ b :: l := fun hm => by
  rcases List.mem_cons.mp hm with e | hm
  · exact h e
  · exact hl hm
noncomputable def ApI (d : Nat) : List (Addr × Obj) → Prop → Prop
  | [], C => C
  | p :: r, C => Ap d p.1 → ApI d r C
noncomputable def ApNdI : List (Addr × Obj) → Prop → Prop
  | [], C => C
  | p :: r, C => ApI p.1 r (ApNdI r C)
noncomputable def Ap2I : List (Addr × Obj) → List (Addr × Obj) → Prop → Prop
  | [], _, C => C
  | p :: r, l, C => ApI p.1 l (Ap2I r l C)
theorem apI {d : Nat} {C : Prop} : ∀ {l : List (Addr × Obj)}, (∀ r ∈ l, d ≠ r.1) → ApI d l C → C
  | [], _, k => k
  | p :: _, h, k => apI (fun q hq => h q (.tail _ hq)) (k (h p (.head _)))
theorem apI_lt {d : Nat} {C : Prop} {l : List (Addr × Obj)} (h : ∀ r ∈ l, @LT.lt Nat _ r.1 d) (k : ApI d l C) : C := apI (fun r hr e => Nat.ne_of_gt (h r hr) e) k
theorem apI_skip {d : Nat} {C : Prop} : ∀ {l : List (Addr × Obj)}, C → ApI d l C
  | [], h => h
  | _ :: _, h => fun _ => apI_skip h
theorem apI_all {d : Nat} {C : Prop} : ∀ {l : List (Addr × Obj)}, ApAll d l → ApI d l C → C
  | [], _, k => k
  | _ :: _, h, k => apI_all h.2 (k h.1)
theorem apNd_I {C : Prop} : ∀ {l : List (Addr × Obj)}, ApNd l → ApNdI l C → C
  | [], _, k => k
  | _ :: _, h, k => apNd_I h.2 (apI_all h.1 k)
theorem ap2_I {C : Prop} : ∀ {a l : List (Addr × Obj)}, ApAll2 a l → Ap2I a l C → C
  | [], _, _, k => k
  | _ :: _, _, h, k => ap2_I h.2 (apI_all h.1 k)
theorem apNdI {C : Prop} {l : List (Addr × Obj)} (h : (l.map (·.1)).Nodup) (k : ApNdI l C) : C := apNd_I (apNd_of h) k
theorem ap2I {C : Prop} {a l : List (Addr × Obj)} (h : ∀ q ∈ a, ∀ r ∈ l, q.1 ≠ r.1) (k : Ap2I a l C) : C := ap2_I (apAll2_of h) k
theorem ap_lt {a b : Nat} (h : a < b) : Ap b a := fun e => Nat.ne_of_gt h e
end
section
variable {w : World} {g h h' : Heap} {L : Addr} {m : Str → Option Value} {news mn mn' others : List (Addr × Obj)} {C : Prop}
theorem post_pure0K (F : Fr g L h m) (N : News g L h news) (P : Post h h' []) (k : Fr g L h' m → News g L h' news → C) : C := let ⟨a, b⟩ := post_pure0 F N P; k a b
theorem post_upd0K {D : Addr} {o o' : Obj} {news' : List (Addr × Obj)} (F : Fr g L h m) (N : News g L h news) (U : Upd D o o' news news') (P : Post (hideAll h [D]) h' [(D, o')]) (k : Fr g L h' m → News g L h' news' → C) : C := let ⟨a, b⟩ := post_upd0 F N U P; k a b
theorem post_pureB (F : Fr g L h m) (N : News g L h news) (P : Post h h' mn') (k : Fr g L h' m → News g L h' (mn' ++ news) → ApNdI mn' (Ap2I mn' news C)) : C :=
  let ⟨a, b, c⟩ := post_pure F N P
  ap2I c (apNdI P.nd (k a b))
end
section
variable {M : Model} {A : Around} {E : Value → Shared → Prop} {s : Shared} {h₀ : Heap} {m : Str → Option Value} {env : Env}
theorem my_ld {x : Str} {pos : Pos} {v : Value} {Q : Value → Shared → Prop} {L : Addr} (F : Fr h₀ L s.heap m) (hL : env.locals = L) (hv : m x = some v) (h : Q v s)
    (hk : env.scope.kind = .function) (hl : env.kindOf x = some .local) (hd : (x == ("__debug__" : Str)) = false) :
    wpAny M A (eval (.Name x pos) env) Q E s := by subst hL; exact wpAny_Name (wpAny_loadName_local hk hl F.ns hv h) hd
end
section
variable {w : World} {A : Around} {base g : Heap} {outer : List Env} {s : Shared} {mn : List (Addr × Obj)}
  {p : Program} {loose : List Str} {mean : ExcName → Option Value} {mg mb : Str → Option Value}
theorem enterV {R : Result → Shared → Prop} {name qual : Str} {params : Arguments} {body : List Stmt} {scope : Scope} {dV kV doc pm cdv ct oc : Value} {an od : Option Addr} {osl : Array (Option Value)} {f : Addr} {vals : List Value} {binds : List (Str × Value)}
    (P : Pre p loose mean mg mb w A base outer g s mn)
    (ho : (K w.params).lookup f = some ⟨oc, od, .func (fnOf name qual params body scope dV kV doc pm an cdv ct), osl⟩) (hcd : codeIn (K w.params) cdv qual = true) (hroom : A.depth < recursionLimit)
    (hz : (params.args.map (·.arg)).zip vals = binds)
    (hbind : BindsTo s (fnOf name qual params body scope dV kV doc pm an cdv ct) ⟨vals, []⟩ binds) (hloc : ∀ y ∈ binds, scope.names.lookup y.1 = some .local)
    (h : ∀ L' h₁, Fr g L' h₁ (fun y => binds.reverse.lookup y) → News g L' h₁ mn → Below A base outer g → (K w.params).In g → Top p loose mean mg mb g →
      let env := envOf qual scope L' f cdv
      let A' := A.deeper env
      let Qr : Flow → Shared → Prop := fun fl s' => R (.ok (.ret (match fl with | .ret v => v | _ => .none))) s'
      let Er : Value → Shared → Prop := fun e s' => wpAny (model PySem.Challenge.rw_nt0105_01.row.prog w) A' (leaving env e) (fun _ s'' => R (.error e) s'') (fun e' s'' => R (.error e') s'') s'
      wpAny (model PySem.Challenge.rw_nt0105_01.row.prog w) A' (execs body env) Qr Er { s with heap := h₁, toks := s.toks + binds.length })
    (hcell : ∀ x ∈ scope.names, x.2 ≠ .cell)
    (hco : scope.isCoroutine = false := by rfl) (hgen : scope.isGenerator = false := by rfl) (hk : scope.kind = .function := by rfl) : codeAny (model PySem.Challenge.rw_nt0105_01.row.prog w) A (.call (.ref f) ⟨vals, []⟩) R s :=
  enter (dfl := []) P ho hcd hroom (by rw [List.append_nil]; exact hz) hbind hloc (fun L' h₁ F N _ B X T => h L' h₁ F N B X T) hcell hco hgen hk
theorem enterCV {R : Result → Shared → Prop} {name qual : Str} {params : Arguments} {body : List Stmt} {scope : Scope} {dV kV doc pm cdv ct oc : Value} {an od : Option Addr} {osl : Array (Option Value)} {f : Addr} {vals : List Value} {binds : List (Str × Value)} {m cm : Str → Option Value}
    (P : Pre p loose mean mg mb w A base outer g s mn)
    (ho : (K w.params).lookup f = some ⟨oc, od, .func (fnOf name qual params body scope dV kV doc pm an cdv ct), osl⟩) (hcd : codeIn (K w.params) cdv qual = true) (hroom : A.depth < recursionLimit)
    (hz : (params.args.map (·.arg)).zip vals = binds)
    (hbind : BindsTo s (fnOf name qual params body scope dV kV doc pm an cdv ct) ⟨vals, []⟩ binds) (hm : ∀ L', bindL (envOfC qual scope L' f cdv).kindOf binds (fun _ => none) = m) (hcm : ∀ L', bindC (envOfC qual scope L' f cdv).kindOf binds (fun _ => none) = cm) (hkind : (binds.all fun y => scope.names.lookup y.1 == some .local || scope.names.lookup y.1 == some .cell) = true)
    (hnd : ((cellsFrom 0 scope.names []).map (·.1)).Nodup)
    (h : ∀ L' h₁ tk cells, Fr g L' h₁ m → News g L' h₁ (cells ++ mn) →
      CellsAre cm (cellsFrom (L' + 1) scope.names []) cells → (∀ q ∈ cells, ∀ r ∈ mn, q.1 ≠ r.1) → Below A base outer g → (K w.params).In g → Top p loose mean mg mb g →
      let Qr : Flow → Shared → Prop := fun fl s' => R (.ok (.ret (match fl with | .ret v => v | _ => .none))) s'
      let Er : Value → Shared → Prop := fun e s' => wpAny (model PySem.Challenge.rw_nt0105_01.row.prog w) (A.deeper (envOfC qual scope L' f cdv)) (leaving (envOfC qual scope L' f cdv) e) (fun _ s'' => R (.error e) s'') (fun e' s'' => R (.error e') s'') s'
      wpAny (model PySem.Challenge.rw_nt0105_01.row.prog w) (A.deeper (envOfC qual scope L' f cdv)) (execs body (envOfC qual scope L' f cdv)) Qr Er { s with heap := h₁, toks := tk })
    (hco : scope.isCoroutine = false) (hgen : scope.isGenerator = false) (hk : scope.kind = .function) : codeAny (model PySem.Challenge.rw_nt0105_01.row.prog w) A (.call (.ref f) ⟨vals, []⟩) R s :=
  enterC P ho hcd hroom hz hbind hm hcm hkind hnd h hco hgen hk
end
section
variable {M : Model} {A : Around} {E : Value → Shared → Prop} {s : Shared} {env : Env} {st : Stmt} {rest : List Stmt} {Q : Flow → Shared → Prop} {v : Value}
noncomputable def NextQ (M : Model) (A : Around) (env : Env) (rest : List Stmt) (Q : Flow → Shared → Prop) (E : Value → Shared → Prop) (f : Flow) (s : Shared) : Prop :=
  match f with
  | .next => wpAny M A (execs rest env) Q E s
  | f => Q f s
theorem execs_next (h : let s' := s; wpAny M A (exec st env) (NextQ M A env rest Q E) E s') : wpAny M A (execs (st :: rest) env) Q E s :=
  wpAny_execs_cons (wpAny_mono h (fun f s' z => by cases f <;> exact z) fun _ _ e => e)
theorem next_go (h : wpAny M A (execs rest env) Q E s) : NextQ M A env rest Q E .next s := h
theorem next_ret (h : Q (.ret v) s) : NextQ M A env rest Q E (.ret v) s := h
theorem next_brk (h : Q .brk s) : NextQ M A env rest Q E .brk s := h
theorem next_cont (h : Q .cont s) : NextQ M A env rest Q E .cont s := h
noncomputable def CallR (Q : Value → Shared → Prop) (E : Value → Shared → Prop) (r : Result) (s' : Shared) : Prop := match r with
  | .ok (.ret v) => Q v s'
  | .ok _ => False
  | .error e => E e s'
theorem my_call {f : Value} {pos : List Value} {kw : List (Str × Value)} {Q : Value → Shared → Prop} (h : codeAny M A (.call f ⟨pos, kw⟩) (CallR Q E) s) : wpAny M A (call f pos kw) Q E s :=
  wpAny_call h
theorem call_ret {Q : Value → Shared → Prop} (h : let s' := s; Q v s') : CallR Q E (.ok (.ret v)) s := h
theorem call_err {Q : Value → Shared → Prop} (h : E v s) : CallR Q E (.error v) s := h
end
section
variable {M : Model} {A : Around} {env : Env} {s : Shared}
structure Ev (M : Model) (A : Around) (env : Env) (s : Shared) (e : PySem.Expr) (k : Nat) (v : Value) (k' : Nat) : Prop where
  go : ∀ {Q E : Value → Shared → Prop}, Q v { s with toks := k' } → wpAny M A (eval e env) Q E { s with toks := k }
structure EvL (M : Model) (A : Around) (env : Env) (s : Shared) (es : List PySem.Expr) (k : Nat) (vs : List Value) (k' : Nat) : Prop where
  run : ∀ (pos : Pos) {Q : List Value → Shared → Prop} {E : Value → Shared → Prop}, Q vs { s with toks := k' } → wpAny M A (spliced (backTo pos (starEach es env))) Q E { s with toks := k }
  plain : ∀ pos : Pos, (backTo pos (starEach es env)).any (·.1) = false
  head : ∀ e r, es = e :: r → starEach (e :: r) env = (false, eval e env) :: starEach r env
  nil : es = [] → vs = [] ∧ k' = k
  tail : ∀ pos e r, es = e :: r → (backTo pos (starEach r env)).any (·.1) = false
theorem evl_nil {k : Nat} : EvL M A env s [] k [] k := ⟨fun _ _ _ h => args_nil h, fun _ => rfl, fun _ _ h => (nomatch h), fun _ => ⟨rfl, rfl⟩, fun _ _ _ h => (nomatch h)⟩
theorem evl_cons {e : PySem.Expr} {es : List PySem.Expr} {k k1 k2 : Nat} {v : Value} {vs : List Value} (h1 : Ev M A env s e k v k1) (h2 : EvL M A env s es k1 vs k2) (he : starEach (e :: es) env = (false, eval e env) :: starEach es env) :
    EvL M A env s (e :: es) k (v :: vs) k2 :=
  ⟨fun pos _ _ h => args_cons (s := { s with toks := k }) (h1.go (h2.run pos h)) he, fun pos => by rw [he]; exact h2.plain pos, fun e' r h => by cases h; exact he, fun h => (nomatch h), fun pos e' r h => by cases h; exact h2.plain pos⟩
noncomputable def locD (env : Env) (x : Str) : Bool := match env.scope.kind, env.kindOf x with | .function, some .local => !(x == ("__debug__" : Str)) | _, _ => false
theorem locD_is {x : Str} (h : locD env x = true) : (env.scope.kind = .function ∧ env.kindOf x = some .local) ∧ (x == ("__debug__" : Str)) = false := by
  unfold locD at h
  split at h
  · exact ⟨⟨by assumption, by assumption⟩, by rw [Bool.not_eq_true'] at h; exact h⟩
  · cases h
theorem ev_loc {g : Heap} {L : Addr} {m : Str → Option Value} {x : Str} {pos : Pos} {v : Value} {k : Nat} (F : Fr g L s.heap m) (hv : m x = some v) (hL : env.locals = L)
    (hc : locD env x = true) : Ev M A env s (.Name x pos) k v k := ⟨fun h => by
  subst hL
  have hc := locD_is hc
  exact wpAny_Name (wpAny_loadName_local hc.1.1 hc.1.2 F.ns hv h) hc.2⟩
theorem name_loc {g : Heap} {L : Addr} {m : Str → Option Value} {x : Str} {pos : Pos} {v : Value} {Q E : Value → Shared → Prop} (F : Fr g L s.heap m) (hv : m x = some v) (hL : env.locals = L) (hc : locD env x = true) (h : Q v s) : wpAny M A (eval (.Name x pos) env) Q E s := by
  subst hL
  have hc := locD_is hc
  exact wpAny_Name (wpAny_loadName_local hc.1.1 hc.1.2 F.ns hv h) hc.2
theorem name_gl {KK : Frag} {g : Heap} {L : Addr} {m mg mb : Str → Option Value} {p : Program} {loose : List Str} {x : Str} {pos : Pos} {v : Value} {Q E : Value → Shared → Prop} (F : Fr g L s.heap m) (X : KK.In g) (T : TopRead p loose mg mb g)
    (hg : env.globals = mainGlobals) (e : nsIn KK mainGlobals x = some (some v)) (hk : env.scope.kind = .function) (hx : env.kindOf x = some .globalImplicit) (hd : (x == ("__debug__" : Str)) = false) (h : Q v s) : wpAny M A (eval (.Name x pos) env) Q E s :=
  Name_function_global hk hx (loadGlobal_global (hg ▸ T.g.keeps F.keep) (mg_of X T.g e) h) hd
theorem name_gb {KK : Frag} {g : Heap} {L : Addr} {m mg mb : Str → Option Value} {p : Program} {loose : List Str} {x : Str} {pos : Pos} {v : Value} {Q E : Value → Shared → Prop} (F : Fr g L s.heap m) (X : KK.In g) (T : TopRead p loose mg mb g)
    (hg : env.globals = mainGlobals) (hb : env.builtins = builtinsNs) (e : nsIn KK mainGlobals x = some none) (hv : bootBuiltins x = some v) (hn : x ≠ "__name__") (hk : env.scope.kind = .function) (hx : env.kindOf x = some .globalImplicit) (hd : (x == ("__debug__" : Str)) = false) (h : Q v s) : wpAny M A (eval (.Name x pos) env) Q E s :=
  Name_function_global hk hx (loadGlobal_builtin (hg ▸ T.g.keeps F.keep) (mg_none_of X T.g e) (hb ▸ T.b.keeps F.keep) ((T.builtins x hn).trans hv) h) hd
theorem sz_lit {α : Type} {vs : List α} (h : Nat.ble vs.length 64 = true) : vs.length ≤ sizeLine := Nat.le_trans (Nat.le_of_ble_eq_true h) (by rw [sizeLine_eq]; decide)
theorem ev_int {i : Int} {u : _} {pos : Pos} {k : Nat} : Ev M A env s (.Constant (.int i) u pos) k (.int i k) (k + 1) := ⟨fun h => wpAny_Constant_int (s := { s with toks := k }) h⟩
end
section
variable {prog : Program} {w : World} {M : Model} {A : Around} {env : Env} {s : Shared} {g : Heap} {L : Addr} {m : Str → Option Value} {news : List (Addr × Obj)} {l r : PySem.Expr} {pos : Pos} {a b v : Value} {k1 k2 : Nat}
structure Cmp (M : Model) (A : Around) (op : CmpOp) (a b : Value) (c : Bool) : Prop where
  go : ∀ {Q E : Value → Shared → Prop} {s : Shared}, Q (.bool c) s → wpAny M A (compareOp op a b) Q E s
theorem isT_cmp {op : CmpOp} {whole : Sem Value} {c : Bool} {Q : Bool → Shared → Prop} {E : Value → Shared → Prop} (h1 : Ev M A env s l s.toks a k1) (h2 : Ev M A env s r k1 b k2) (hop : Cmp M A op a b c) (hm : behindInMarks op r = false) (h : Q c { s with toks := k2 }) :
    wpAny M A (isTrue (.Compare l [op] [r] pos) env whole) Q E s := wpAny_isTrue_Compare1 (h1.go (h2.go (hop.go (wpAny_truthy_bool h)))) hm
theorem ev_cmp {op : CmpOp} {c : Bool} {k : Nat} (h1 : Ev M A env s l k a k1) (h2 : Ev M A env s r k1 b k2) (hop : Cmp M A op a b c) (hm : behindInMarks op r = false) : Ev M A env s (.Compare l [op] [r] pos) k (.bool c) k2 :=
  ⟨fun h => wpAny_Compare1 (s := { s with toks := k }) (h1.go (h2.go (hop.go h))) hm⟩
structure Bin (M : Model) (A : Around) (op : Operator) (a b : Value) (c : Int) : Prop where
  go : ∀ {Q E : Value → Shared → Prop} {s : Shared}, Q (.int c s.toks) { s with toks := s.toks + 1 } → wpAny M A (binaryOp op a b) Q E s
theorem ev_bin {op : Operator} {c : Int} {k : Nat} (h1 : Ev M A env s l k a k1) (h2 : Ev M A env s r k1 b k2) (hop : Bin M A op a b c) : Ev M A env s (.BinOp l op r pos) k (.int c k2) (k2 + 1) :=
  ⟨fun h => wpAny_BinOp (s := { s with toks := k }) (h1.go (h2.go (hop.go (s := { s with toks := k2 }) h)))⟩
variable {x y : Int} {t u : Tok}
theorem cmp_lt : Cmp (model prog w) A .Lt (.int x t) (.int y u) (decide (x < y)) := ⟨fun h => lt_int h⟩
theorem cmp_le : Cmp (model prog w) A .LtE (.int x t) (.int y u) (decide (x ≤ y)) := ⟨fun h => le_int h⟩
theorem cmp_gt : Cmp (model prog w) A .Gt (.int x t) (.int y u) (decide (y < x)) := ⟨fun h => gt_int h⟩
theorem cmp_ge : Cmp (model prog w) A .GtE (.int x t) (.int y u) (decide (y ≤ x)) := ⟨fun h => ge_int h⟩
theorem cmp_eq : Cmp (model prog w) A .Eq (.int x t) (.int y u) (x == y) := ⟨fun h => eq_int h⟩
theorem cmp_ne : Cmp (model prog w) A .NotEq (.int x t) (.int y u) (x != y) := ⟨fun h => ne_int h⟩
theorem bin_add : Bin (model prog w) A .Add (.int x t) (.int y u) (x + y) := ⟨fun h => add_int h⟩
theorem bin_sub : Bin (model prog w) A .Sub (.int x t) (.int y u) (x - y) := ⟨fun h => sub_int h⟩
noncomputable def locB (env : Env) (x : Str) : Bool := match env.scope.kind, env.kindOf x with | .function, some .local => true | _, _ => false
theorem locB_is {x : Str} (h : locB env x = true) : env.scope.kind = .function ∧ env.kindOf x = some .local := by
  unfold locB at h
  split at h
  · exact ⟨by assumption, by assumption⟩
  · cases h
theorem asg_loc {x : Str} {p : Pos} {e : PySem.Expr} {Q : Flow → Shared → Prop} {E : Value → Shared → Prop} {k : Nat} (hc : locB env x = true) (he : Ev M A env s e s.toks v k) (F : Fr g L s.heap m) (N : News g L s.heap news) (hL : env.locals = L)
    (hs : swapsWith e (some (.Name x p)) pos.line env = pure false)
    (h : ∀ h', let m' : Str → Option Value := fun y => if y = x then some v else m y; Fr g L h' m' → News g L h' news → Q .next { s with heap := h', toks := k + 1 }) : wpAny M A (exec (.Assign [.Name x p] e pos) env) Q E s := by
  subst hL
  have hc := locB_is hc
  refine wpAny_Assign_Name (he.go ?_) hs
  refine wpAny_storeName_local (s := { s with toks := k }) hc.2 F.ns (fun h' hn hs => h h' (F.set hn hs) (N.set hs)) ?_
  rw [hc.1]; rfl
theorem ev_use {e : PySem.Expr} {k : Nat} {Q E : Value → Shared → Prop} (h1 : Ev M A env s e s.toks v k) (h : Q v { s with toks := k }) : wpAny M A (eval e env) Q E s := h1.go h
theorem st_loc {x : Str} {Q : Unit → Shared → Prop} {E : Value → Shared → Prop} (F : Fr g L s.heap m) (N : News g L s.heap news) (hL : env.locals = L) (hc : locB env x = true)
    (h : ∀ h', let m' : Str → Option Value := fun y => if y = x then some v else m y; Fr g L h' m' → News g L h' news → Q () { s with heap := h', toks := s.toks + 1 }) : wpAny M A (storeName env x v) Q E s := by
  subst hL
  have hc := locB_is hc
  refine wpAny_storeName_local hc.2 F.ns (fun h' hn hs => h h' (F.set hn hs) (N.set hs)) ?_
  rw [hc.1]; rfl
theorem ret_ev {e : PySem.Expr} {Q : Flow → Shared → Prop} {E : Value → Shared → Prop} {k : Nat} (he : Ev M A env s e s.toks v k) (h : Q (.ret v) { s with toks := k }) : wpAny M A (exec (.Return (some e) pos) env) Q E s := wpAny_Return_some (he.go h)
end
section
def CloT (T : Prop) (_ : T) : Prop := T
noncomputable def eps {α : Sort _} {i : Nonempty α} (p : α → Prop) : α := @Classical.epsilon α i fun x => ¬ p x
theorem allE {α : Sort _} [i : Nonempty α] {p : α → Prop} (h : p (eps (i := i) p)) : ∀ x, p x := fun x => Classical.byContradiction fun nx => @Classical.epsilon_spec α (fun x => ¬ p x) ⟨x, nx⟩ h
noncomputable def epx {α : Sort _} {i : Nonempty α} (p : α → Prop) : α := @Classical.epsilon α i p
theorem exE {α : Sort _} [i : Nonempty α] {p : α → Prop} {C : Prop} (h : ∃ x, p x) (k : p (epx (i := i) p) → C) : C := k (@Classical.epsilon_spec α p h)
structure Ctx : Type where
  w : World
  A : Around
  base : Heap
  g : Heap
  outer : List Env
  s : Shared
  p : Program
  loose : List Str
  mean : ExcName → Option Value
  mg : Str → Option Value
  mb : Str → Option Value
  R : Result → Shared → Prop
noncomputable def world0 : World := ⟨fun _ _ => 0, { strHash := fun _ => 0, shareClass := fun _ => 0, mergeTok := id, idOf := fun _ => 0, idOfShared := fun _ _ => 0, followText := fun _ => false, idOfImm := fun _ => 0 }⟩
theorem ctx_ne : Nonempty Ctx := ⟨⟨world0, {}, default, default, [], {}, default, [], fun _ => none, fun _ => none, fun _ => none, fun _ _ => True⟩⟩
noncomputable def eps2 {α1 α2 : Type} {i : Nonempty (α1 × α2)} (p : α1 → α2 → Prop) : α1 × α2 := @Classical.epsilon _ i fun x => ¬ p x.1 x.2
theorem allE2 {α1 α2 : Type} [i : Nonempty (α1 × α2)] {p : α1 → α2 → Prop} (h : p (eps2 (i := i) p).1 (eps2 (i := i) p).2) : ∀ x1 x2, p x1 x2 := fun x1 x2 => Classical.byContradiction fun nx =>
  @Classical.epsilon_spec _ (fun x : α1 × α2 => ¬ p x.1 x.2) ⟨(x1, x2), nx⟩ h
noncomputable def eps3 {α1 α2 α3 : Type} {i : Nonempty (α1 × α2 × α3)} (p : α1 → α2 → α3 → Prop) : α1 × α2 × α3 := @Classical.epsilon _ i fun x => ¬ p x.1 x.2.1 x.2.2
theorem allE3 {α1 α2 α3 : Type} [i : Nonempty (α1 × α2 × α3)] {p : α1 → α2 → α3 → Prop} (h : p (eps3 (i := i) p).1 (eps3 (i := i) p).2.1 (eps3 (i := i) p).2.2) : ∀ x1 x2 x3, p x1 x2 x3 := fun x1 x2 x3 => Classical.byContradiction fun nx =>
  @Classical.epsilon_spec _ (fun x : α1 × α2 × α3 => ¬ p x.1 x.2.1 x.2.2) ⟨(x1, x2, x3), nx⟩ h
noncomputable def eps4 {α1 α2 α3 α4 : Type} {i : Nonempty (α1 × α2 × α3 × α4)} (p : α1 → α2 → α3 → α4 → Prop) : α1 × α2 × α3 × α4 := @Classical.epsilon _ i fun x => ¬ p x.1 x.2.1 x.2.2.1 x.2.2.2
theorem allE4 {α1 α2 α3 α4 : Type} [i : Nonempty (α1 × α2 × α3 × α4)] {p : α1 → α2 → α3 → α4 → Prop} (h : p (eps4 (i := i) p).1 (eps4 (i := i) p).2.1 (eps4 (i := i) p).2.2.1 (eps4 (i := i) p).2.2.2) : ∀ x1 x2 x3 x4, p x1 x2 x3 x4 := fun x1 x2 x3 x4 => Classical.byContradiction fun nx =>
  @Classical.epsilon_spec _ (fun x : α1 × α2 × α3 × α4 => ¬ p x.1 x.2.1 x.2.2.1 x.2.2.2) ⟨(x1, x2, x3, x4), nx⟩ h
noncomputable def eps5 {α1 α2 α3 α4 α5 : Type} {i : Nonempty (α1 × α2 × α3 × α4 × α5)} (p : α1 → α2 → α3 → α4 → α5 → Prop) : α1 × α2 × α3 × α4 × α5 := @Classical.epsilon _ i fun x => ¬ p x.1 x.2.1 x.2.2.1 x.2.2.2.1 x.2.2.2.2
theorem allE5 {α1 α2 α3 α4 α5 : Type} [i : Nonempty (α1 × α2 × α3 × α4 × α5)] {p : α1 → α2 → α3 → α4 → α5 → Prop} (h : p (eps5 (i := i) p).1 (eps5 (i := i) p).2.1 (eps5 (i := i) p).2.2.1 (eps5 (i := i) p).2.2.2.1 (eps5 (i := i) p).2.2.2.2) : ∀ x1 x2 x3 x4 x5, p x1 x2 x3 x4 x5 := fun x1 x2 x3 x4 x5 => Classical.byContradiction fun nx =>
  @Classical.epsilon_spec _ (fun x : α1 × α2 × α3 × α4 × α5 => ¬ p x.1 x.2.1 x.2.2.1 x.2.2.2.1 x.2.2.2.2) ⟨(x1, x2, x3, x4, x5), nx⟩ h
noncomputable def eps6 {α1 α2 α3 α4 α5 α6 : Type} {i : Nonempty (α1 × α2 × α3 × α4 × α5 × α6)} (p : α1 → α2 → α3 → α4 → α5 → α6 → Prop) : α1 × α2 × α3 × α4 × α5 × α6 := @Classical.epsilon _ i fun x => ¬ p x.1 x.2.1 x.2.2.1 x.2.2.2.1 x.2.2.2.2.1 x.2.2.2.2.2
theorem allE6 {α1 α2 α3 α4 α5 α6 : Type} [i : Nonempty (α1 × α2 × α3 × α4 × α5 × α6)] {p : α1 → α2 → α3 → α4 → α5 → α6 → Prop} (h : p (eps6 (i := i) p).1 (eps6 (i := i) p).2.1 (eps6 (i := i) p).2.2.1 (eps6 (i := i) p).2.2.2.1 (eps6 (i := i) p).2.2.2.2.1 (eps6 (i := i) p).2.2.2.2.2) : ∀ x1 x2 x3 x4 x5 x6, p x1 x2 x3 x4 x5 x6 := fun x1 x2 x3 x4 x5 x6 => Classical.byContradiction fun nx =>
  @Classical.epsilon_spec _ (fun x : α1 × α2 × α3 × α4 × α5 × α6 => ¬ p x.1 x.2.1 x.2.2.1 x.2.2.2.1 x.2.2.2.2.1 x.2.2.2.2.2) ⟨(x1, x2, x3, x4, x5, x6), nx⟩ h
noncomputable def eps7 {α1 α2 α3 α4 α5 α6 α7 : Type} {i : Nonempty (α1 × α2 × α3 × α4 × α5 × α6 × α7)} (p : α1 → α2 → α3 → α4 → α5 → α6 → α7 → Prop) : α1 × α2 × α3 × α4 × α5 × α6 × α7 := @Classical.epsilon _ i fun x => ¬ p x.1 x.2.1 x.2.2.1 x.2.2.2.1 x.2.2.2.2.1 x.2.2.2.2.2.1 x.2.2.2.2.2.2
theorem allE7 {α1 α2 α3 α4 α5 α6 α7 : Type} [i : Nonempty (α1 × α2 × α3 × α4 × α5 × α6 × α7)] {p : α1 → α2 → α3 → α4 → α5 → α6 → α7 → Prop} (h : p (eps7 (i := i) p).1 (eps7 (i := i) p).2.1 (eps7 (i := i) p).2.2.1 (eps7 (i := i) p).2.2.2.1 (eps7 (i := i) p).2.2.2.2.1 (eps7 (i := i) p).2.2.2.2.2.1 (eps7 (i := i) p).2.2.2.2.2.2) : ∀ x1 x2 x3 x4 x5 x6 x7, p x1 x2 x3 x4 x5 x6 x7 := fun x1 x2 x3 x4 x5 x6 x7 => Classical.byContradiction fun nx =>
  @Classical.epsilon_spec _ (fun x : α1 × α2 × α3 × α4 × α5 × α6 × α7 => ¬ p x.1 x.2.1 x.2.2.1 x.2.2.2.1 x.2.2.2.2.1 x.2.2.2.2.2.1 x.2.2.2.2.2.2) ⟨(x1, x2, x3, x4, x5, x6, x7), nx⟩ h
noncomputable def eps8 {α1 α2 α3 α4 α5 α6 α7 α8 : Type} {i : Nonempty (α1 × α2 × α3 × α4 × α5 × α6 × α7 × α8)} (p : α1 → α2 → α3 → α4 → α5 → α6 → α7 → α8 → Prop) : α1 × α2 × α3 × α4 × α5 × α6 × α7 × α8 := @Classical.epsilon _ i fun x => ¬ p x.1 x.2.1 x.2.2.1 x.2.2.2.1 x.2.2.2.2.1 x.2.2.2.2.2.1 x.2.2.2.2.2.2.1 x.2.2.2.2.2.2.2
theorem allE8 {α1 α2 α3 α4 α5 α6 α7 α8 : Type} [i : Nonempty (α1 × α2 × α3 × α4 × α5 × α6 × α7 × α8)] {p : α1 → α2 → α3 → α4 → α5 → α6 → α7 → α8 → Prop} (h : p (eps8 (i := i) p).1 (eps8 (i := i) p).2.1 (eps8 (i := i) p).2.2.1 (eps8 (i := i) p).2.2.2.1 (eps8 (i := i) p).2.2.2.2.1 (eps8 (i := i) p).2.2.2.2.2.1 (eps8 (i := i) p).2.2.2.2.2.2.1 (eps8 (i := i) p).2.2.2.2.2.2.2) : ∀ x1 x2 x3 x4 x5 x6 x7 x8, p x1 x2 x3 x4 x5 x6 x7 x8 := fun x1 x2 x3 x4 x5 x6 x7 x8 => Classical.byContradiction fun nx =>
  @Classical.epsilon_spec _ (fun x : α1 × α2 × α3 × α4 × α5 × α6 × α7 × α8 => ¬ p x.1 x.2.1 x.2.2.1 x.2.2.2.1 x.2.2.2.2.1 x.2.2.2.2.2.1 x.2.2.2.2.2.2.1 x.2.2.2.2.2.2.2) ⟨(x1, x2, x3, x4, x5, x6, x7, x8), nx⟩ h
noncomputable def eps9 {α1 α2 α3 α4 α5 α6 α7 α8 α9 : Type} {i : Nonempty (α1 × α2 × α3 × α4 × α5 × α6 × α7 × α8 × α9)} (p : α1 → α2 → α3 → α4 → α5 → α6 → α7 → α8 → α9 → Prop) : α1 × α2 × α3 × α4 × α5 × α6 × α7 × α8 × α9 := @Classical.epsilon _ i fun x => ¬ p x.1 x.2.1 x.2.2.1 x.2.2.2.1 x.2.2.2.2.1 x.2.2.2.2.2.1 x.2.2.2.2.2.2.1 x.2.2.2.2.2.2.2.1 x.2.2.2.2.2.2.2.2
theorem allE9 {α1 α2 α3 α4 α5 α6 α7 α8 α9 : Type} [i : Nonempty (α1 × α2 × α3 × α4 × α5 × α6 × α7 × α8 × α9)] {p : α1 → α2 → α3 → α4 → α5 → α6 → α7 → α8 → α9 → Prop} (h : p (eps9 (i := i) p).1 (eps9 (i := i) p).2.1 (eps9 (i := i) p).2.2.1 (eps9 (i := i) p).2.2.2.1 (eps9 (i := i) p).2.2.2.2.1 (eps9 (i := i) p).2.2.2.2.2.1 (eps9 (i := i) p).2.2.2.2.2.2.1 (eps9 (i := i) p).2.2.2.2.2.2.2.1 (eps9 (i := i) p).2.2.2.2.2.2.2.2) : ∀ x1 x2 x3 x4 x5 x6 x7 x8 x9, p x1 x2 x3 x4 x5 x6 x7 x8 x9 := fun x1 x2 x3 x4 x5 x6 x7 x8 x9 => Classical.byContradiction fun nx =>
  @Classical.epsilon_spec _ (fun x : α1 × α2 × α3 × α4 × α5 × α6 × α7 × α8 × α9 => ¬ p x.1 x.2.1 x.2.2.1 x.2.2.2.1 x.2.2.2.2.1 x.2.2.2.2.2.1 x.2.2.2.2.2.2.1 x.2.2.2.2.2.2.2.1 x.2.2.2.2.2.2.2.2) ⟨(x1, x2, x3, x4, x5, x6, x7, x8, x9), nx⟩ h
noncomputable def eps11 {α1 α2 α3 α4 α5 α6 α7 α8 α9 α10 α11 : Type} {i : Nonempty (α1 × α2 × α3 × α4 × α5 × α6 × α7 × α8 × α9 × α10 × α11)} (p : α1 → α2 → α3 → α4 → α5 → α6 → α7 → α8 → α9 → α10 → α11 → Prop) : α1 × α2 × α3 × α4 × α5 × α6 × α7 × α8 × α9 × α10 × α11 := @Classical.epsilon _ i fun x => ¬ p x.1 x.2.1 x.2.2.1 x.2.2.2.1 x.2.2.2.2.1 x.2.2.2.2.2.1 x.2.2.2.2.2.2.1 x.2.2.2.2.2.2.2.1 x.2.2.2.2.2.2.2.2.1 x.2.2.2.2.2.2.2.2.2.1 x.2.2.2.2.2.2.2.2.2.2
theorem allE11 {α1 α2 α3 α4 α5 α6 α7 α8 α9 α10 α11 : Type} [i : Nonempty (α1 × α2 × α3 × α4 × α5 × α6 × α7 × α8 × α9 × α10 × α11)] {p : α1 → α2 → α3 → α4 → α5 → α6 → α7 → α8 → α9 → α10 → α11 → Prop} (h : p (eps11 (i := i) p).1 (eps11 (i := i) p).2.1 (eps11 (i := i) p).2.2.1 (eps11 (i := i) p).2.2.2.1 (eps11 (i := i) p).2.2.2.2.1 (eps11 (i := i) p).2.2.2.2.2.1 (eps11 (i := i) p).2.2.2.2.2.2.1 (eps11 (i := i) p).2.2.2.2.2.2.2.1 (eps11 (i := i) p).2.2.2.2.2.2.2.2.1 (eps11 (i := i) p).2.2.2.2.2.2.2.2.2.1 (eps11 (i := i) p).2.2.2.2.2.2.2.2.2.2) : ∀ x1 x2 x3 x4 x5 x6 x7 x8 x9 x10 x11, p x1 x2 x3 x4 x5 x6 x7 x8 x9 x10 x11 := fun x1 x2 x3 x4 x5 x6 x7 x8 x9 x10 x11 => Classical.byContradiction fun nx =>
  @Classical.epsilon_spec _ (fun x : α1 × α2 × α3 × α4 × α5 × α6 × α7 × α8 × α9 × α10 × α11 => ¬ p x.1 x.2.1 x.2.2.1 x.2.2.2.1 x.2.2.2.2.1 x.2.2.2.2.2.1 x.2.2.2.2.2.2.1 x.2.2.2.2.2.2.2.1 x.2.2.2.2.2.2.2.2.1 x.2.2.2.2.2.2.2.2.2.1 x.2.2.2.2.2.2.2.2.2.2) ⟨(x1, x2, x3, x4, x5, x6, x7, x8, x9, x10, x11), nx⟩ h
noncomputable def eps13 {α1 α2 α3 α4 α5 α6 α7 α8 α9 α10 α11 α12 α13 : Type} {i : Nonempty (α1 × α2 × α3 × α4 × α5 × α6 × α7 × α8 × α9 × α10 × α11 × α12 × α13)} (p : α1 → α2 → α3 → α4 → α5 → α6 → α7 → α8 → α9 → α10 → α11 → α12 → α13 → Prop) : α1 × α2 × α3 × α4 × α5 × α6 × α7 × α8 × α9 × α10 × α11 × α12 × α13 := @Classical.epsilon _ i fun x => ¬ p x.1 x.2.1 x.2.2.1 x.2.2.2.1 x.2.2.2.2.1 x.2.2.2.2.2.1 x.2.2.2.2.2.2.1 x.2.2.2.2.2.2.2.1 x.2.2.2.2.2.2.2.2.1 x.2.2.2.2.2.2.2.2.2.1 x.2.2.2.2.2.2.2.2.2.2.1 x.2.2.2.2.2.2.2.2.2.2.2.1 x.2.2.2.2.2.2.2.2.2.2.2.2
theorem allE13 {α1 α2 α3 α4 α5 α6 α7 α8 α9 α10 α11 α12 α13 : Type} [i : Nonempty (α1 × α2 × α3 × α4 × α5 × α6 × α7 × α8 × α9 × α10 × α11 × α12 × α13)] {p : α1 → α2 → α3 → α4 → α5 → α6 → α7 → α8 → α9 → α10 → α11 → α12 → α13 → Prop} (h : p (eps13 (i := i) p).1 (eps13 (i := i) p).2.1 (eps13 (i := i) p).2.2.1 (eps13 (i := i) p).2.2.2.1 (eps13 (i := i) p).2.2.2.2.1 (eps13 (i := i) p).2.2.2.2.2.1 (eps13 (i := i) p).2.2.2.2.2.2.1 (eps13 (i := i) p).2.2.2.2.2.2.2.1 (eps13 (i := i) p).2.2.2.2.2.2.2.2.1 (eps13 (i := i) p).2.2.2.2.2.2.2.2.2.1 (eps13 (i := i) p).2.2.2.2.2.2.2.2.2.2.1 (eps13 (i := i) p).2.2.2.2.2.2.2.2.2.2.2.1 (eps13 (i := i) p).2.2.2.2.2.2.2.2.2.2.2.2) : ∀ x1 x2 x3 x4 x5 x6 x7 x8 x9 x10 x11 x12 x13, p x1 x2 x3 x4 x5 x6 x7 x8 x9 x10 x11 x12 x13 := fun x1 x2 x3 x4 x5 x6 x7 x8 x9 x10 x11 x12 x13 => Classical.byContradiction fun nx =>
  @Classical.epsilon_spec _ (fun x : α1 × α2 × α3 × α4 × α5 × α6 × α7 × α8 × α9 × α10 × α11 × α12 × α13 => ¬ p x.1 x.2.1 x.2.2.1 x.2.2.2.1 x.2.2.2.2.1 x.2.2.2.2.2.1 x.2.2.2.2.2.2.1 x.2.2.2.2.2.2.2.1 x.2.2.2.2.2.2.2.2.1 x.2.2.2.2.2.2.2.2.2.1 x.2.2.2.2.2.2.2.2.2.2.1 x.2.2.2.2.2.2.2.2.2.2.2.1 x.2.2.2.2.2.2.2.2.2.2.2.2) ⟨(x1, x2, x3, x4, x5, x6, x7, x8, x9, x10, x11, x12, x13), nx⟩ h
noncomputable def eps14 {α1 α2 α3 α4 α5 α6 α7 α8 α9 α10 α11 α12 α13 α14 : Type} {i : Nonempty (α1 × α2 × α3 × α4 × α5 × α6 × α7 × α8 × α9 × α10 × α11 × α12 × α13 × α14)} (p : α1 → α2 → α3 → α4 → α5 → α6 → α7 → α8 → α9 → α10 → α11 → α12 → α13 → α14 → Prop) : α1 × α2 × α3 × α4 × α5 × α6 × α7 × α8 × α9 × α10 × α11 × α12 × α13 × α14 := @Classical.epsilon _ i fun x => ¬ p x.1 x.2.1 x.2.2.1 x.2.2.2.1 x.2.2.2.2.1 x.2.2.2.2.2.1 x.2.2.2.2.2.2.1 x.2.2.2.2.2.2.2.1 x.2.2.2.2.2.2.2.2.1 x.2.2.2.2.2.2.2.2.2.1 x.2.2.2.2.2.2.2.2.2.2.1 x.2.2.2.2.2.2.2.2.2.2.2.1 x.2.2.2.2.2.2.2.2.2.2.2.2.1 x.2.2.2.2.2.2.2.2.2.2.2.2.2
theorem allE14 {α1 α2 α3 α4 α5 α6 α7 α8 α9 α10 α11 α12 α13 α14 : Type} [i : Nonempty (α1 × α2 × α3 × α4 × α5 × α6 × α7 × α8 × α9 × α10 × α11 × α12 × α13 × α14)] {p : α1 → α2 → α3 → α4 → α5 → α6 → α7 → α8 → α9 → α10 → α11 → α12 → α13 → α14 → Prop} (h : p (eps14 (i := i) p).1 (eps14 (i := i) p).2.1 (eps14 (i := i) p).2.2.1 (eps14 (i := i) p).2.2.2.1 (eps14 (i := i) p).2.2.2.2.1 (eps14 (i := i) p).2.2.2.2.2.1 (eps14 (i := i) p).2.2.2.2.2.2.1 (eps14 (i := i) p).2.2.2.2.2.2.2.1 (eps14 (i := i) p).2.2.2.2.2.2.2.2.1 (eps14 (i := i) p).2.2.2.2.2.2.2.2.2.1 (eps14 (i := i) p).2.2.2.2.2.2.2.2.2.2.1 (eps14 (i := i) p).2.2.2.2.2.2.2.2.2.2.2.1 (eps14 (i := i) p).2.2.2.2.2.2.2.2.2.2.2.2.1 (eps14 (i := i) p).2.2.2.2.2.2.2.2.2.2.2.2.2) : ∀ x1 x2 x3 x4 x5 x6 x7 x8 x9 x10 x11 x12 x13 x14, p x1 x2 x3 x4 x5 x6 x7 x8 x9 x10 x11 x12 x13 x14 := fun x1 x2 x3 x4 x5 x6 x7 x8 x9 x10 x11 x12 x13 x14 => Classical.byContradiction fun nx =>
  @Classical.epsilon_spec _ (fun x : α1 × α2 × α3 × α4 × α5 × α6 × α7 × α8 × α9 × α10 × α11 × α12 × α13 × α14 => ¬ p x.1 x.2.1 x.2.2.1 x.2.2.2.1 x.2.2.2.2.1 x.2.2.2.2.2.1 x.2.2.2.2.2.2.1 x.2.2.2.2.2.2.2.1 x.2.2.2.2.2.2.2.2.1 x.2.2.2.2.2.2.2.2.2.1 x.2.2.2.2.2.2.2.2.2.2.1 x.2.2.2.2.2.2.2.2.2.2.2.1 x.2.2.2.2.2.2.2.2.2.2.2.2.1 x.2.2.2.2.2.2.2.2.2.2.2.2.2) ⟨(x1, x2, x3, x4, x5, x6, x7, x8, x9, x10, x11, x12, x13, x14), nx⟩ h
noncomputable def eps28 {α1 α2 α3 α4 α5 α6 α7 α8 α9 α10 α11 α12 α13 α14 α15 α16 α17 α18 α19 α20 α21 α22 α23 α24 α25 α26 α27 α28 : Type} {i : Nonempty (α1 × α2 × α3 × α4 × α5 × α6 × α7 × α8 × α9 × α10 × α11 × α12 × α13 × α14 × α15 × α16 × α17 × α18 × α19 × α20 × α21 × α22 × α23 × α24 × α25 × α26 × α27 × α28)} (p : α1 → α2 → α3 → α4 → α5 → α6 → α7 → α8 → α9 → α10 → α11 → α12 → α13 → α14 → α15 → α16 → α17 → α18 → α19 → α20 → α21 → α22 → α23 → α24 → α25 → α26 → α27 → α28 → Prop) : α1 × α2 × α3 × α4 × α5 × α6 × α7 × α8 × α9 × α10 × α11 × α12 × α13 × α14 × α15 × α16 × α17 × α18 × α19 × α20 × α21 × α22 × α23 × α24 × α25 × α26 × α27 × α28 := @Classical.epsilon _ i fun x => ¬ p x.1 x.2.1 x.2.2.1 x.2.2.2.1 x.2.2.2.2.1 x.2.2.2.2.2.1 x.2.2.2.2.2.2.1 x.2.2.2.2.2.2.2.1 x.2.2.2.2.2.2.2.2.1 x.2.2.2.2.2.2.2.2.2.1 x.2.2.2.2.2.2.2.2.2.2.1 x.2.2.2.2.2.2.2.2.2.2.2.1 x.2.2.2.2.2.2.2.2.2.2.2.2.1 x.2.2.2.2.2.2.2.2.2.2.2.2.2.1 x.2.2.2.2.2.2.2.2.2.2.2.2.2.2.1 x.2.2.2.2.2.2.2.2.2.2.2.2.2.2.2.1 x.2.2.2.2.2.2.2.2.2.2.2.2.2.2.2.2.1 x.2.2.2.2.2.2.2.2.2.2.2.2.2.2.2.2.2.1 x.2.2.2.2.2.2.2.2.2.2.2.2.2.2.2.2.2.2.1 x.2.2.2.2.2.2.2.2.2.2.2.2.2.2.2.2.2.2.2.1 x.2.2.2.2.2.2.2.2.2.2.2.2.2.2.2.2.2.2.2.2.1 x.2.2.2.2.2.2.2.2.2.2.2.2.2.2.2.2.2.2.2.2.2.1 x.2.2.2.2.2.2.2.2.2.2.2.2.2.2.2.2.2.2.2.2.2.2.1 x.2.2.2.2.2.2.2.2.2.2.2.2.2.2.2.2.2.2.2.2.2.2.2.1 x.2.2.2.2.2.2.2.2.2.2.2.2.2.2.2.2.2.2.2.2.2.2.2.2.1 x.2.2.2.2.2.2.2.2.2.2.2.2.2.2.2.2.2.2.2.2.2.2.2.2.2.1 x.2.2.2.2.2.2.2.2.2.2.2.2.2.2.2.2.2.2.2.2.2.2.2.2.2.2.1 x.2.2.2.2.2.2.2.2.2.2.2.2.2.2.2.2.2.2.2.2.2.2.2.2.2.2.2
theorem allE28 {α1 α2 α3 α4 α5 α6 α7 α8 α9 α10 α11 α12 α13 α14 α15 α16 α17 α18 α19 α20 α21 α22 α23 α24 α25 α26 α27 α28 : Type} [i : Nonempty (α1 × α2 × α3 × α4 × α5 × α6 × α7 × α8 × α9 × α10 × α11 × α12 × α13 × α14 × α15 × α16 × α17 × α18 × α19 × α20 × α21 × α22 × α23 × α24 × α25 × α26 × α27 × α28)] {p : α1 → α2 → α3 → α4 → α5 → α6 → α7 → α8 → α9 → α10 → α11 → α12 → α13 → α14 → α15 → α16 → α17 → α18 → α19 → α20 → α21 → α22 → α23 → α24 → α25 → α26 → α27 → α28 → Prop} (h : p (eps28 (i := i) p).1 (eps28 (i := i) p).2.1 (eps28 (i := i) p).2.2.1 (eps28 (i := i) p).2.2.2.1 (eps28 (i := i) p).2.2.2.2.1 (eps28 (i := i) p).2.2.2.2.2.1 (eps28 (i := i) p).2.2.2.2.2.2.1 (eps28 (i := i) p).2.2.2.2.2.2.2.1 (eps28 (i := i) p).2.2.2.2.2.2.2.2.1 (eps28 (i := i) p).2.2.2.2.2.2.2.2.2.1 (eps28 (i := i) p).2.2.2.2.2.2.2.2.2.2.1 (eps28 (i := i) p).2.2.2.2.2.2.2.2.2.2.2.1 (eps28 (i := i) p).2.2.2.2.2.2.2.2.2.2.2.2.1 (eps28 (i := i) p).2.2.2.2.2.2.2.2.2.2.2.2.2.1 (eps28 (i := i) p).2.2.2.2.2.2.2.2.2.2.2.2.2.2.1 (eps28 (i := i) p).2.2.2.2.2.2.2.2.2.2.2.2.2.2.2.1 (eps28 (i := i) p).2.2.2.2.2.2.2.2.2.2.2.2.2.2.2.2.1 (eps28 (i := i) p).2.2.2.2.2.2.2.2.2.2.2.2.2.2.2.2.2.1 (eps28 (i := i) p).2.2.2.2.2.2.2.2.2.2.2.2.2.2.2.2.2.2.1 (eps28 (i := i) p).2.2.2.2.2.2.2.2.2.2.2.2.2.2.2.2.2.2.2.1 (eps28 (i := i) p).2.2.2.2.2.2.2.2.2.2.2.2.2.2.2.2.2.2.2.2.1 (eps28 (i := i) p).2.2.2.2.2.2.2.2.2.2.2.2.2.2.2.2.2.2.2.2.2.1 (eps28 (i := i) p).2.2.2.2.2.2.2.2.2.2.2.2.2.2.2.2.2.2.2.2.2.2.1 (eps28 (i := i) p).2.2.2.2.2.2.2.2.2.2.2.2.2.2.2.2.2.2.2.2.2.2.2.1 (eps28 (i := i) p).2.2.2.2.2.2.2.2.2.2.2.2.2.2.2.2.2.2.2.2.2.2.2.2.1 (eps28 (i := i) p).2.2.2.2.2.2.2.2.2.2.2.2.2.2.2.2.2.2.2.2.2.2.2.2.2.1 (eps28 (i := i) p).2.2.2.2.2.2.2.2.2.2.2.2.2.2.2.2.2.2.2.2.2.2.2.2.2.2.1 (eps28 (i := i) p).2.2.2.2.2.2.2.2.2.2.2.2.2.2.2.2.2.2.2.2.2.2.2.2.2.2.2) : ∀ x1 x2 x3 x4 x5 x6 x7 x8 x9 x10 x11 x12 x13 x14 x15 x16 x17 x18 x19 x20 x21 x22 x23 x24 x25 x26 x27 x28, p x1 x2 x3 x4 x5 x6 x7 x8 x9 x10 x11 x12 x13 x14 x15 x16 x17 x18 x19 x20 x21 x22 x23 x24 x25 x26 x27 x28 := fun x1 x2 x3 x4 x5 x6 x7 x8 x9 x10 x11 x12 x13 x14 x15 x16 x17 x18 x19 x20 x21 x22 x23 x24 x25 x26 x27 x28 => Classical.byContradiction fun nx =>
  @Classical.epsilon_spec _ (fun x : α1 × α2 × α3 × α4 × α5 × α6 × α7 × α8 × α9 × α10 × α11 × α12 × α13 × α14 × α15 × α16 × α17 × α18 × α19 × α20 × α21 × α22 × α23 × α24 × α25 × α26 × α27 × α28 => ¬ p x.1 x.2.1 x.2.2.1 x.2.2.2.1 x.2.2.2.2.1 x.2.2.2.2.2.1 x.2.2.2.2.2.2.1 x.2.2.2.2.2.2.2.1 x.2.2.2.2.2.2.2.2.1 x.2.2.2.2.2.2.2.2.2.1 x.2.2.2.2.2.2.2.2.2.2.1 x.2.2.2.2.2.2.2.2.2.2.2.1 x.2.2.2.2.2.2.2.2.2.2.2.2.1 x.2.2.2.2.2.2.2.2.2.2.2.2.2.1 x.2.2.2.2.2.2.2.2.2.2.2.2.2.2.1 x.2.2.2.2.2.2.2.2.2.2.2.2.2.2.2.1 x.2.2.2.2.2.2.2.2.2.2.2.2.2.2.2.2.1 x.2.2.2.2.2.2.2.2.2.2.2.2.2.2.2.2.2.1 x.2.2.2.2.2.2.2.2.2.2.2.2.2.2.2.2.2.2.1 x.2.2.2.2.2.2.2.2.2.2.2.2.2.2.2.2.2.2.2.1 x.2.2.2.2.2.2.2.2.2.2.2.2.2.2.2.2.2.2.2.2.1 x.2.2.2.2.2.2.2.2.2.2.2.2.2.2.2.2.2.2.2.2.2.1 x.2.2.2.2.2.2.2.2.2.2.2.2.2.2.2.2.2.2.2.2.2.2.1 x.2.2.2.2.2.2.2.2.2.2.2.2.2.2.2.2.2.2.2.2.2.2.2.1 x.2.2.2.2.2.2.2.2.2.2.2.2.2.2.2.2.2.2.2.2.2.2.2.2.1 x.2.2.2.2.2.2.2.2.2.2.2.2.2.2.2.2.2.2.2.2.2.2.2.2.2.1 x.2.2.2.2.2.2.2.2.2.2.2.2.2.2.2.2.2.2.2.2.2.2.2.2.2.2.1 x.2.2.2.2.2.2.2.2.2.2.2.2.2.2.2.2.2.2.2.2.2.2.2.2.2.2.2) ⟨(x1, x2, x3, x4, x5, x6, x7, x8, x9, x10, x11, x12, x13, x14, x15, x16, x17, x18, x19, x20, x21, x22, x23, x24, x25, x26, x27, x28), nx⟩ h
noncomputable def cx2 {α1 α2 : Type} {i : Nonempty (α1 × α2)} (P : World → Around → Heap → Heap → List Env → Shared → Program → List Str → (ExcName → Option Value) → (Str → Option Value) → (Str → Option Value) → (Result → Shared → Prop) → α1 → α2 → Prop) : Ctx × α1 × α2 := @Classical.epsilon _ (i.elim fun a => ctx_ne.elim fun c => ⟨(c, a)⟩) fun x => ¬ P x.1.w x.1.A x.1.base x.1.g x.1.outer x.1.s x.1.p x.1.loose x.1.mean x.1.mg x.1.mb x.1.R x.2.1 x.2.2
theorem close2 {α1 α2 : Type} [i : Nonempty (α1 × α2)] {P : World → Around → Heap → Heap → List Env → Shared → Program → List Str → (ExcName → Option Value) → (Str → Option Value) → (Str → Option Value) → (Result → Shared → Prop) → α1 → α2 → Prop} (h : P (cx2 (i := i) P).1.w (cx2 (i := i) P).1.A (cx2 (i := i) P).1.base (cx2 (i := i) P).1.g (cx2 (i := i) P).1.outer (cx2 (i := i) P).1.s (cx2 (i := i) P).1.p (cx2 (i := i) P).1.loose (cx2 (i := i) P).1.mean (cx2 (i := i) P).1.mg (cx2 (i := i) P).1.mb (cx2 (i := i) P).1.R (cx2 (i := i) P).2.1 (cx2 (i := i) P).2.2) : ∀ w A base g outer s p loose mean mg mb R x1 x2, P w A base g outer s p loose mean mg mb R x1 x2 := fun w A base g outer s p loose mean mg mb R x1 x2 => Classical.byContradiction fun nx =>
  @Classical.epsilon_spec (Ctx × α1 × α2) (fun x => ¬ P x.1.w x.1.A x.1.base x.1.g x.1.outer x.1.s x.1.p x.1.loose x.1.mean x.1.mg x.1.mb x.1.R x.2.1 x.2.2) ⟨(⟨w, A, base, g, outer, s, p, loose, mean, mg, mb, R⟩, x1, x2), nx⟩ h
noncomputable def cx3 {α1 α2 α3 : Type} {i : Nonempty (α1 × α2 × α3)} (P : World → Around → Heap → Heap → List Env → Shared → Program → List Str → (ExcName → Option Value) → (Str → Option Value) → (Str → Option Value) → (Result → Shared → Prop) → α1 → α2 → α3 → Prop) : Ctx × α1 × α2 × α3 := @Classical.epsilon _ (i.elim fun a => ctx_ne.elim fun c => ⟨(c, a)⟩) fun x => ¬ P x.1.w x.1.A x.1.base x.1.g x.1.outer x.1.s x.1.p x.1.loose x.1.mean x.1.mg x.1.mb x.1.R x.2.1 x.2.2.1 x.2.2.2
theorem close3 {α1 α2 α3 : Type} [i : Nonempty (α1 × α2 × α3)] {P : World → Around → Heap → Heap → List Env → Shared → Program → List Str → (ExcName → Option Value) → (Str → Option Value) → (Str → Option Value) → (Result → Shared → Prop) → α1 → α2 → α3 → Prop} (h : P (cx3 (i := i) P).1.w (cx3 (i := i) P).1.A (cx3 (i := i) P).1.base (cx3 (i := i) P).1.g (cx3 (i := i) P).1.outer (cx3 (i := i) P).1.s (cx3 (i := i) P).1.p (cx3 (i := i) P).1.loose (cx3 (i := i) P).1.mean (cx3 (i := i) P).1.mg (cx3 (i := i) P).1.mb (cx3 (i := i) P).1.R (cx3 (i := i) P).2.1 (cx3 (i := i) P).2.2.1 (cx3 (i := i) P).2.2.2) : ∀ w A base g outer s p loose mean mg mb R x1 x2 x3, P w A base g outer s p loose mean mg mb R x1 x2 x3 := fun w A base g outer s p loose mean mg mb R x1 x2 x3 => Classical.byContradiction fun nx =>
  @Classical.epsilon_spec (Ctx × α1 × α2 × α3) (fun x => ¬ P x.1.w x.1.A x.1.base x.1.g x.1.outer x.1.s x.1.p x.1.loose x.1.mean x.1.mg x.1.mb x.1.R x.2.1 x.2.2.1 x.2.2.2) ⟨(⟨w, A, base, g, outer, s, p, loose, mean, mg, mb, R⟩, x1, x2, x3), nx⟩ h
noncomputable def cx4 {α1 α2 α3 α4 : Type} {i : Nonempty (α1 × α2 × α3 × α4)} (P : World → Around → Heap → Heap → List Env → Shared → Program → List Str → (ExcName → Option Value) → (Str → Option Value) → (Str → Option Value) → (Result → Shared → Prop) → α1 → α2 → α3 → α4 → Prop) : Ctx × α1 × α2 × α3 × α4 := @Classical.epsilon _ (i.elim fun a => ctx_ne.elim fun c => ⟨(c, a)⟩) fun x => ¬ P x.1.w x.1.A x.1.base x.1.g x.1.outer x.1.s x.1.p x.1.loose x.1.mean x.1.mg x.1.mb x.1.R x.2.1 x.2.2.1 x.2.2.2.1 x.2.2.2.2
theorem close4 {α1 α2 α3 α4 : Type} [i : Nonempty (α1 × α2 × α3 × α4)] {P : World → Around → Heap → Heap → List Env → Shared → Program → List Str → (ExcName → Option Value) → (Str → Option Value) → (Str → Option Value) → (Result → Shared → Prop) → α1 → α2 → α3 → α4 → Prop} (h : P (cx4 (i := i) P).1.w (cx4 (i := i) P).1.A (cx4 (i := i) P).1.base (cx4 (i := i) P).1.g (cx4 (i := i) P).1.outer (cx4 (i := i) P).1.s (cx4 (i := i) P).1.p (cx4 (i := i) P).1.loose (cx4 (i := i) P).1.mean (cx4 (i := i) P).1.mg (cx4 (i := i) P).1.mb (cx4 (i := i) P).1.R (cx4 (i := i) P).2.1 (cx4 (i := i) P).2.2.1 (cx4 (i := i) P).2.2.2.1 (cx4 (i := i) P).2.2.2.2) : ∀ w A base g outer s p loose mean mg mb R x1 x2 x3 x4, P w A base g outer s p loose mean mg mb R x1 x2 x3 x4 := fun w A base g outer s p loose mean mg mb R x1 x2 x3 x4 => Classical.byContradiction fun nx =>
  @Classical.epsilon_spec (Ctx × α1 × α2 × α3 × α4) (fun x => ¬ P x.1.w x.1.A x.1.base x.1.g x.1.outer x.1.s x.1.p x.1.loose x.1.mean x.1.mg x.1.mb x.1.R x.2.1 x.2.2.1 x.2.2.2.1 x.2.2.2.2) ⟨(⟨w, A, base, g, outer, s, p, loose, mean, mg, mb, R⟩, x1, x2, x3, x4), nx⟩ h
noncomputable def cx5 {α1 α2 α3 α4 α5 : Type} {i : Nonempty (α1 × α2 × α3 × α4 × α5)} (P : World → Around → Heap → Heap → List Env → Shared → Program → List Str → (ExcName → Option Value) → (Str → Option Value) → (Str → Option Value) → (Result → Shared → Prop) → α1 → α2 → α3 → α4 → α5 → Prop) : Ctx × α1 × α2 × α3 × α4 × α5 := @Classical.epsilon _ (i.elim fun a => ctx_ne.elim fun c => ⟨(c, a)⟩) fun x => ¬ P x.1.w x.1.A x.1.base x.1.g x.1.outer x.1.s x.1.p x.1.loose x.1.mean x.1.mg x.1.mb x.1.R x.2.1 x.2.2.1 x.2.2.2.1 x.2.2.2.2.1 x.2.2.2.2.2
theorem close5 {α1 α2 α3 α4 α5 : Type} [i : Nonempty (α1 × α2 × α3 × α4 × α5)] {P : World → Around → Heap → Heap → List Env → Shared → Program → List Str → (ExcName → Option Value) → (Str → Option Value) → (Str → Option Value) → (Result → Shared → Prop) → α1 → α2 → α3 → α4 → α5 → Prop} (h : P (cx5 (i := i) P).1.w (cx5 (i := i) P).1.A (cx5 (i := i) P).1.base (cx5 (i := i) P).1.g (cx5 (i := i) P).1.outer (cx5 (i := i) P).1.s (cx5 (i := i) P).1.p (cx5 (i := i) P).1.loose (cx5 (i := i) P).1.mean (cx5 (i := i) P).1.mg (cx5 (i := i) P).1.mb (cx5 (i := i) P).1.R (cx5 (i := i) P).2.1 (cx5 (i := i) P).2.2.1 (cx5 (i := i) P).2.2.2.1 (cx5 (i := i) P).2.2.2.2.1 (cx5 (i := i) P).2.2.2.2.2) : ∀ w A base g outer s p loose mean mg mb R x1 x2 x3 x4 x5, P w A base g outer s p loose mean mg mb R x1 x2 x3 x4 x5 := fun w A base g outer s p loose mean mg mb R x1 x2 x3 x4 x5 => Classical.byContradiction fun nx =>
  @Classical.epsilon_spec (Ctx × α1 × α2 × α3 × α4 × α5) (fun x => ¬ P x.1.w x.1.A x.1.base x.1.g x.1.outer x.1.s x.1.p x.1.loose x.1.mean x.1.mg x.1.mb x.1.R x.2.1 x.2.2.1 x.2.2.2.1 x.2.2.2.2.1 x.2.2.2.2.2) ⟨(⟨w, A, base, g, outer, s, p, loose, mean, mg, mb, R⟩, x1, x2, x3, x4, x5), nx⟩ h
noncomputable def cx6 {α1 α2 α3 α4 α5 α6 : Type} {i : Nonempty (α1 × α2 × α3 × α4 × α5 × α6)} (P : World → Around → Heap → Heap → List Env → Shared → Program → List Str → (ExcName → Option Value) → (Str → Option Value) → (Str → Option Value) → (Result → Shared → Prop) → α1 → α2 → α3 → α4 → α5 → α6 → Prop) : Ctx × α1 × α2 × α3 × α4 × α5 × α6 := @Classical.epsilon _ (i.elim fun a => ctx_ne.elim fun c => ⟨(c, a)⟩) fun x => ¬ P x.1.w x.1.A x.1.base x.1.g x.1.outer x.1.s x.1.p x.1.loose x.1.mean x.1.mg x.1.mb x.1.R x.2.1 x.2.2.1 x.2.2.2.1 x.2.2.2.2.1 x.2.2.2.2.2.1 x.2.2.2.2.2.2
theorem close6 {α1 α2 α3 α4 α5 α6 : Type} [i : Nonempty (α1 × α2 × α3 × α4 × α5 × α6)] {P : World → Around → Heap → Heap → List Env → Shared → Program → List Str → (ExcName → Option Value) → (Str → Option Value) → (Str → Option Value) → (Result → Shared → Prop) → α1 → α2 → α3 → α4 → α5 → α6 → Prop} (h : P (cx6 (i := i) P).1.w (cx6 (i := i) P).1.A (cx6 (i := i) P).1.base (cx6 (i := i) P).1.g (cx6 (i := i) P).1.outer (cx6 (i := i) P).1.s (cx6 (i := i) P).1.p (cx6 (i := i) P).1.loose (cx6 (i := i) P).1.mean (cx6 (i := i) P).1.mg (cx6 (i := i) P).1.mb (cx6 (i := i) P).1.R (cx6 (i := i) P).2.1 (cx6 (i := i) P).2.2.1 (cx6 (i := i) P).2.2.2.1 (cx6 (i := i) P).2.2.2.2.1 (cx6 (i := i) P).2.2.2.2.2.1 (cx6 (i := i) P).2.2.2.2.2.2) : ∀ w A base g outer s p loose mean mg mb R x1 x2 x3 x4 x5 x6, P w A base g outer s p loose mean mg mb R x1 x2 x3 x4 x5 x6 := fun w A base g outer s p loose mean mg mb R x1 x2 x3 x4 x5 x6 => Classical.byContradiction fun nx =>
  @Classical.epsilon_spec (Ctx × α1 × α2 × α3 × α4 × α5 × α6) (fun x => ¬ P x.1.w x.1.A x.1.base x.1.g x.1.outer x.1.s x.1.p x.1.loose x.1.mean x.1.mg x.1.mb x.1.R x.2.1 x.2.2.1 x.2.2.2.1 x.2.2.2.2.1 x.2.2.2.2.2.1 x.2.2.2.2.2.2) ⟨(⟨w, A, base, g, outer, s, p, loose, mean, mg, mb, R⟩, x1, x2, x3, x4, x5, x6), nx⟩ h
noncomputable def cx7 {α1 α2 α3 α4 α5 α6 α7 : Type} {i : Nonempty (α1 × α2 × α3 × α4 × α5 × α6 × α7)} (P : World → Around → Heap → Heap → List Env → Shared → Program → List Str → (ExcName → Option Value) → (Str → Option Value) → (Str → Option Value) → (Result → Shared → Prop) → α1 → α2 → α3 → α4 → α5 → α6 → α7 → Prop) : Ctx × α1 × α2 × α3 × α4 × α5 × α6 × α7 := @Classical.epsilon _ (i.elim fun a => ctx_ne.elim fun c => ⟨(c, a)⟩) fun x => ¬ P x.1.w x.1.A x.1.base x.1.g x.1.outer x.1.s x.1.p x.1.loose x.1.mean x.1.mg x.1.mb x.1.R x.2.1 x.2.2.1 x.2.2.2.1 x.2.2.2.2.1 x.2.2.2.2.2.1 x.2.2.2.2.2.2.1 x.2.2.2.2.2.2.2
theorem close7 {α1 α2 α3 α4 α5 α6 α7 : Type} [i : Nonempty (α1 × α2 × α3 × α4 × α5 × α6 × α7)] {P : World → Around → Heap → Heap → List Env → Shared → Program → List Str → (ExcName → Option Value) → (Str → Option Value) → (Str → Option Value) → (Result → Shared → Prop) → α1 → α2 → α3 → α4 → α5 → α6 → α7 → Prop} (h : P (cx7 (i := i) P).1.w (cx7 (i := i) P).1.A (cx7 (i := i) P).1.base (cx7 (i := i) P).1.g (cx7 (i := i) P).1.outer (cx7 (i := i) P).1.s (cx7 (i := i) P).1.p (cx7 (i := i) P).1.loose (cx7 (i := i) P).1.mean (cx7 (i := i) P).1.mg (cx7 (i := i) P).1.mb (cx7 (i := i) P).1.R (cx7 (i := i) P).2.1 (cx7 (i := i) P).2.2.1 (cx7 (i := i) P).2.2.2.1 (cx7 (i := i) P).2.2.2.2.1 (cx7 (i := i) P).2.2.2.2.2.1 (cx7 (i := i) P).2.2.2.2.2.2.1 (cx7 (i := i) P).2.2.2.2.2.2.2) : ∀ w A base g outer s p loose mean mg mb R x1 x2 x3 x4 x5 x6 x7, P w A base g outer s p loose mean mg mb R x1 x2 x3 x4 x5 x6 x7 := fun w A base g outer s p loose mean mg mb R x1 x2 x3 x4 x5 x6 x7 => Classical.byContradiction fun nx =>
  @Classical.epsilon_spec (Ctx × α1 × α2 × α3 × α4 × α5 × α6 × α7) (fun x => ¬ P x.1.w x.1.A x.1.base x.1.g x.1.outer x.1.s x.1.p x.1.loose x.1.mean x.1.mg x.1.mb x.1.R x.2.1 x.2.2.1 x.2.2.2.1 x.2.2.2.2.1 x.2.2.2.2.2.1 x.2.2.2.2.2.2.1 x.2.2.2.2.2.2.2) ⟨(⟨w, A, base, g, outer, s, p, loose, mean, mg, mb, R⟩, x1, x2, x3, x4, x5, x6, x7), nx⟩ h
noncomputable def cx8 {α1 α2 α3 α4 α5 α6 α7 α8 : Type} {i : Nonempty (α1 × α2 × α3 × α4 × α5 × α6 × α7 × α8)} (P : World → Around → Heap → Heap → List Env → Shared → Program → List Str → (ExcName → Option Value) → (Str → Option Value) → (Str → Option Value) → (Result → Shared → Prop) → α1 → α2 → α3 → α4 → α5 → α6 → α7 → α8 → Prop) : Ctx × α1 × α2 × α3 × α4 × α5 × α6 × α7 × α8 := @Classical.epsilon _ (i.elim fun a => ctx_ne.elim fun c => ⟨(c, a)⟩) fun x => ¬ P x.1.w x.1.A x.1.base x.1.g x.1.outer x.1.s x.1.p x.1.loose x.1.mean x.1.mg x.1.mb x.1.R x.2.1 x.2.2.1 x.2.2.2.1 x.2.2.2.2.1 x.2.2.2.2.2.1 x.2.2.2.2.2.2.1 x.2.2.2.2.2.2.2.1 x.2.2.2.2.2.2.2.2
theorem close8 {α1 α2 α3 α4 α5 α6 α7 α8 : Type} [i : Nonempty (α1 × α2 × α3 × α4 × α5 × α6 × α7 × α8)] {P : World → Around → Heap → Heap → List Env → Shared → Program → List Str → (ExcName → Option Value) → (Str → Option Value) → (Str → Option Value) → (Result → Shared → Prop) → α1 → α2 → α3 → α4 → α5 → α6 → α7 → α8 → Prop} (h : P (cx8 (i := i) P).1.w (cx8 (i := i) P).1.A (cx8 (i := i) P).1.base (cx8 (i := i) P).1.g (cx8 (i := i) P).1.outer (cx8 (i := i) P).1.s (cx8 (i := i) P).1.p (cx8 (i := i) P).1.loose (cx8 (i := i) P).1.mean (cx8 (i := i) P).1.mg (cx8 (i := i) P).1.mb (cx8 (i := i) P).1.R (cx8 (i := i) P).2.1 (cx8 (i := i) P).2.2.1 (cx8 (i := i) P).2.2.2.1 (cx8 (i := i) P).2.2.2.2.1 (cx8 (i := i) P).2.2.2.2.2.1 (cx8 (i := i) P).2.2.2.2.2.2.1 (cx8 (i := i) P).2.2.2.2.2.2.2.1 (cx8 (i := i) P).2.2.2.2.2.2.2.2) : ∀ w A base g outer s p loose mean mg mb R x1 x2 x3 x4 x5 x6 x7 x8, P w A base g outer s p loose mean mg mb R x1 x2 x3 x4 x5 x6 x7 x8 := fun w A base g outer s p loose mean mg mb R x1 x2 x3 x4 x5 x6 x7 x8 => Classical.byContradiction fun nx =>
  @Classical.epsilon_spec (Ctx × α1 × α2 × α3 × α4 × α5 × α6 × α7 × α8) (fun x => ¬ P x.1.w x.1.A x.1.base x.1.g x.1.outer x.1.s x.1.p x.1.loose x.1.mean x.1.mg x.1.mb x.1.R x.2.1 x.2.2.1 x.2.2.2.1 x.2.2.2.2.1 x.2.2.2.2.2.1 x.2.2.2.2.2.2.1 x.2.2.2.2.2.2.2.1 x.2.2.2.2.2.2.2.2) ⟨(⟨w, A, base, g, outer, s, p, loose, mean, mg, mb, R⟩, x1, x2, x3, x4, x5, x6, x7, x8), nx⟩ h
noncomputable def cx9 {α1 α2 α3 α4 α5 α6 α7 α8 α9 : Type} {i : Nonempty (α1 × α2 × α3 × α4 × α5 × α6 × α7 × α8 × α9)} (P : World → Around → Heap → Heap → List Env → Shared → Program → List Str → (ExcName → Option Value) → (Str → Option Value) → (Str → Option Value) → (Result → Shared → Prop) → α1 → α2 → α3 → α4 → α5 → α6 → α7 → α8 → α9 → Prop) : Ctx × α1 × α2 × α3 × α4 × α5 × α6 × α7 × α8 × α9 := @Classical.epsilon _ (i.elim fun a => ctx_ne.elim fun c => ⟨(c, a)⟩) fun x => ¬ P x.1.w x.1.A x.1.base x.1.g x.1.outer x.1.s x.1.p x.1.loose x.1.mean x.1.mg x.1.mb x.1.R x.2.1 x.2.2.1 x.2.2.2.1 x.2.2.2.2.1 x.2.2.2.2.2.1 x.2.2.2.2.2.2.1 x.2.2.2.2.2.2.2.1 x.2.2.2.2.2.2.2.2.1 x.2.2.2.2.2.2.2.2.2
theorem close9 {α1 α2 α3 α4 α5 α6 α7 α8 α9 : Type} [i : Nonempty (α1 × α2 × α3 × α4 × α5 × α6 × α7 × α8 × α9)] {P : World → Around → Heap → Heap → List Env → Shared → Program → List Str → (ExcName → Option Value) → (Str → Option Value) → (Str → Option Value) → (Result → Shared → Prop) → α1 → α2 → α3 → α4 → α5 → α6 → α7 → α8 → α9 → Prop} (h : P (cx9 (i := i) P).1.w (cx9 (i := i) P).1.A (cx9 (i := i) P).1.base (cx9 (i := i) P).1.g (cx9 (i := i) P).1.outer (cx9 (i := i) P).1.s (cx9 (i := i) P).1.p (cx9 (i := i) P).1.loose (cx9 (i := i) P).1.mean (cx9 (i := i) P).1.mg (cx9 (i := i) P).1.mb (cx9 (i := i) P).1.R (cx9 (i := i) P).2.1 (cx9 (i := i) P).2.2.1 (cx9 (i := i) P).2.2.2.1 (cx9 (i := i) P).2.2.2.2.1 (cx9 (i := i) P).2.2.2.2.2.1 (cx9 (i := i) P).2.2.2.2.2.2.1 (cx9 (i := i) P).2.2.2.2.2.2.2.1 (cx9 (i := i) P).2.2.2.2.2.2.2.2.1 (cx9 (i := i) P).2.2.2.2.2.2.2.2.2) : ∀ w A base g outer s p loose mean mg mb R x1 x2 x3 x4 x5 x6 x7 x8 x9, P w A base g outer s p loose mean mg mb R x1 x2 x3 x4 x5 x6 x7 x8 x9 := fun w A base g outer s p loose mean mg mb R x1 x2 x3 x4 x5 x6 x7 x8 x9 => Classical.byContradiction fun nx =>
  @Classical.epsilon_spec (Ctx × α1 × α2 × α3 × α4 × α5 × α6 × α7 × α8 × α9) (fun x => ¬ P x.1.w x.1.A x.1.base x.1.g x.1.outer x.1.s x.1.p x.1.loose x.1.mean x.1.mg x.1.mb x.1.R x.2.1 x.2.2.1 x.2.2.2.1 x.2.2.2.2.1 x.2.2.2.2.2.1 x.2.2.2.2.2.2.1 x.2.2.2.2.2.2.2.1 x.2.2.2.2.2.2.2.2.1 x.2.2.2.2.2.2.2.2.2) ⟨(⟨w, A, base, g, outer, s, p, loose, mean, mg, mb, R⟩, x1, x2, x3, x4, x5, x6, x7, x8, x9), nx⟩ h
noncomputable def cx10 {α1 α2 α3 α4 α5 α6 α7 α8 α9 α10 : Type} {i : Nonempty (α1 × α2 × α3 × α4 × α5 × α6 × α7 × α8 × α9 × α10)} (P : World → Around → Heap → Heap → List Env → Shared → Program → List Str → (ExcName → Option Value) → (Str → Option Value) → (Str → Option Value) → (Result → Shared → Prop) → α1 → α2 → α3 → α4 → α5 → α6 → α7 → α8 → α9 → α10 → Prop) : Ctx × α1 × α2 × α3 × α4 × α5 × α6 × α7 × α8 × α9 × α10 := @Classical.epsilon _ (i.elim fun a => ctx_ne.elim fun c => ⟨(c, a)⟩) fun x => ¬ P x.1.w x.1.A x.1.base x.1.g x.1.outer x.1.s x.1.p x.1.loose x.1.mean x.1.mg x.1.mb x.1.R x.2.1 x.2.2.1 x.2.2.2.1 x.2.2.2.2.1 x.2.2.2.2.2.1 x.2.2.2.2.2.2.1 x.2.2.2.2.2.2.2.1 x.2.2.2.2.2.2.2.2.1 x.2.2.2.2.2.2.2.2.2.1 x.2.2.2.2.2.2.2.2.2.2
theorem close10 {α1 α2 α3 α4 α5 α6 α7 α8 α9 α10 : Type} [i : Nonempty (α1 × α2 × α3 × α4 × α5 × α6 × α7 × α8 × α9 × α10)] {P : World → Around → Heap → Heap → List Env → Shared → Program → List Str → (ExcName → Option Value) → (Str → Option Value) → (Str → Option Value) → (Result → Shared → Prop) → α1 → α2 → α3 → α4 → α5 → α6 → α7 → α8 → α9 → α10 → Prop} (h : P (cx10 (i := i) P).1.w (cx10 (i := i) P).1.A (cx10 (i := i) P).1.base (cx10 (i := i) P).1.g (cx10 (i := i) P).1.outer (cx10 (i := i) P).1.s (cx10 (i := i) P).1.p (cx10 (i := i) P).1.loose (cx10 (i := i) P).1.mean (cx10 (i := i) P).1.mg (cx10 (i := i) P).1.mb (cx10 (i := i) P).1.R (cx10 (i := i) P).2.1 (cx10 (i := i) P).2.2.1 (cx10 (i := i) P).2.2.2.1 (cx10 (i := i) P).2.2.2.2.1 (cx10 (i := i) P).2.2.2.2.2.1 (cx10 (i := i) P).2.2.2.2.2.2.1 (cx10 (i := i) P).2.2.2.2.2.2.2.1 (cx10 (i := i) P).2.2.2.2.2.2.2.2.1 (cx10 (i := i) P).2.2.2.2.2.2.2.2.2.1 (cx10 (i := i) P).2.2.2.2.2.2.2.2.2.2) : ∀ w A base g outer s p loose mean mg mb R x1 x2 x3 x4 x5 x6 x7 x8 x9 x10, P w A base g outer s p loose mean mg mb R x1 x2 x3 x4 x5 x6 x7 x8 x9 x10 := fun w A base g outer s p loose mean mg mb R x1 x2 x3 x4 x5 x6 x7 x8 x9 x10 => Classical.byContradiction fun nx =>
  @Classical.epsilon_spec (Ctx × α1 × α2 × α3 × α4 × α5 × α6 × α7 × α8 × α9 × α10) (fun x => ¬ P x.1.w x.1.A x.1.base x.1.g x.1.outer x.1.s x.1.p x.1.loose x.1.mean x.1.mg x.1.mb x.1.R x.2.1 x.2.2.1 x.2.2.2.1 x.2.2.2.2.1 x.2.2.2.2.2.1 x.2.2.2.2.2.2.1 x.2.2.2.2.2.2.2.1 x.2.2.2.2.2.2.2.2.1 x.2.2.2.2.2.2.2.2.2.1 x.2.2.2.2.2.2.2.2.2.2) ⟨(⟨w, A, base, g, outer, s, p, loose, mean, mg, mb, R⟩, x1, x2, x3, x4, x5, x6, x7, x8, x9, x10), nx⟩ h
noncomputable def cx11 {α1 α2 α3 α4 α5 α6 α7 α8 α9 α10 α11 : Type} {i : Nonempty (α1 × α2 × α3 × α4 × α5 × α6 × α7 × α8 × α9 × α10 × α11)} (P : World → Around → Heap → Heap → List Env → Shared → Program → List Str → (ExcName → Option Value) → (Str → Option Value) → (Str → Option Value) → (Result → Shared → Prop) → α1 → α2 → α3 → α4 → α5 → α6 → α7 → α8 → α9 → α10 → α11 → Prop) : Ctx × α1 × α2 × α3 × α4 × α5 × α6 × α7 × α8 × α9 × α10 × α11 := @Classical.epsilon _ (i.elim fun a => ctx_ne.elim fun c => ⟨(c, a)⟩) fun x => ¬ P x.1.w x.1.A x.1.base x.1.g x.1.outer x.1.s x.1.p x.1.loose x.1.mean x.1.mg x.1.mb x.1.R x.2.1 x.2.2.1 x.2.2.2.1 x.2.2.2.2.1 x.2.2.2.2.2.1 x.2.2.2.2.2.2.1 x.2.2.2.2.2.2.2.1 x.2.2.2.2.2.2.2.2.1 x.2.2.2.2.2.2.2.2.2.1 x.2.2.2.2.2.2.2.2.2.2.1 x.2.2.2.2.2.2.2.2.2.2.2
theorem close11 {α1 α2 α3 α4 α5 α6 α7 α8 α9 α10 α11 : Type} [i : Nonempty (α1 × α2 × α3 × α4 × α5 × α6 × α7 × α8 × α9 × α10 × α11)] {P : World → Around → Heap → Heap → List Env → Shared → Program → List Str → (ExcName → Option Value) → (Str → Option Value) → (Str → Option Value) → (Result → Shared → Prop) → α1 → α2 → α3 → α4 → α5 → α6 → α7 → α8 → α9 → α10 → α11 → Prop} (h : P (cx11 (i := i) P).1.w (cx11 (i := i) P).1.A (cx11 (i := i) P).1.base (cx11 (i := i) P).1.g (cx11 (i := i) P).1.outer (cx11 (i := i) P).1.s (cx11 (i := i) P).1.p (cx11 (i := i) P).1.loose (cx11 (i := i) P).1.mean (cx11 (i := i) P).1.mg (cx11 (i := i) P).1.mb (cx11 (i := i) P).1.R (cx11 (i := i) P).2.1 (cx11 (i := i) P).2.2.1 (cx11 (i := i) P).2.2.2.1 (cx11 (i := i) P).2.2.2.2.1 (cx11 (i := i) P).2.2.2.2.2.1 (cx11 (i := i) P).2.2.2.2.2.2.1 (cx11 (i := i) P).2.2.2.2.2.2.2.1 (cx11 (i := i) P).2.2.2.2.2.2.2.2.1 (cx11 (i := i) P).2.2.2.2.2.2.2.2.2.1 (cx11 (i := i) P).2.2.2.2.2.2.2.2.2.2.1 (cx11 (i := i) P).2.2.2.2.2.2.2.2.2.2.2) : ∀ w A base g outer s p loose mean mg mb R x1 x2 x3 x4 x5 x6 x7 x8 x9 x10 x11, P w A base g outer s p loose mean mg mb R x1 x2 x3 x4 x5 x6 x7 x8 x9 x10 x11 := fun w A base g outer s p loose mean mg mb R x1 x2 x3 x4 x5 x6 x7 x8 x9 x10 x11 => Classical.byContradiction fun nx =>
  @Classical.epsilon_spec (Ctx × α1 × α2 × α3 × α4 × α5 × α6 × α7 × α8 × α9 × α10 × α11) (fun x => ¬ P x.1.w x.1.A x.1.base x.1.g x.1.outer x.1.s x.1.p x.1.loose x.1.mean x.1.mg x.1.mb x.1.R x.2.1 x.2.2.1 x.2.2.2.1 x.2.2.2.2.1 x.2.2.2.2.2.1 x.2.2.2.2.2.2.1 x.2.2.2.2.2.2.2.1 x.2.2.2.2.2.2.2.2.1 x.2.2.2.2.2.2.2.2.2.1 x.2.2.2.2.2.2.2.2.2.2.1 x.2.2.2.2.2.2.2.2.2.2.2) ⟨(⟨w, A, base, g, outer, s, p, loose, mean, mg, mb, R⟩, x1, x2, x3, x4, x5, x6, x7, x8, x9, x10, x11), nx⟩ h
noncomputable def cx12 {α1 α2 α3 α4 α5 α6 α7 α8 α9 α10 α11 α12 : Type} {i : Nonempty (α1 × α2 × α3 × α4 × α5 × α6 × α7 × α8 × α9 × α10 × α11 × α12)} (P : World → Around → Heap → Heap → List Env → Shared → Program → List Str → (ExcName → Option Value) → (Str → Option Value) → (Str → Option Value) → (Result → Shared → Prop) → α1 → α2 → α3 → α4 → α5 → α6 → α7 → α8 → α9 → α10 → α11 → α12 → Prop) : Ctx × α1 × α2 × α3 × α4 × α5 × α6 × α7 × α8 × α9 × α10 × α11 × α12 := @Classical.epsilon _ (i.elim fun a => ctx_ne.elim fun c => ⟨(c, a)⟩) fun x => ¬ P x.1.w x.1.A x.1.base x.1.g x.1.outer x.1.s x.1.p x.1.loose x.1.mean x.1.mg x.1.mb x.1.R x.2.1 x.2.2.1 x.2.2.2.1 x.2.2.2.2.1 x.2.2.2.2.2.1 x.2.2.2.2.2.2.1 x.2.2.2.2.2.2.2.1 x.2.2.2.2.2.2.2.2.1 x.2.2.2.2.2.2.2.2.2.1 x.2.2.2.2.2.2.2.2.2.2.1 x.2.2.2.2.2.2.2.2.2.2.2.1 x.2.2.2.2.2.2.2.2.2.2.2.2
theorem close12 {α1 α2 α3 α4 α5 α6 α7 α8 α9 α10 α11 α12 : Type} [i : Nonempty (α1 × α2 × α3 × α4 × α5 × α6 × α7 × α8 × α9 × α10 × α11 × α12)] {P : World → Around → Heap → Heap → List Env → Shared → Program → List Str → (ExcName → Option Value) → (Str → Option Value) → (Str → Option Value) → (Result → Shared → Prop) → α1 → α2 → α3 → α4 → α5 → α6 → α7 → α8 → α9 → α10 → α11 → α12 → Prop} (h : P (cx12 (i := i) P).1.w (cx12 (i := i) P).1.A (cx12 (i := i) P).1.base (cx12 (i := i) P).1.g (cx12 (i := i) P).1.outer (cx12 (i := i) P).1.s (cx12 (i := i) P).1.p (cx12 (i := i) P).1.loose (cx12 (i := i) P).1.mean (cx12 (i := i) P).1.mg (cx12 (i := i) P).1.mb (cx12 (i := i) P).1.R (cx12 (i := i) P).2.1 (cx12 (i := i) P).2.2.1 (cx12 (i := i) P).2.2.2.1 (cx12 (i := i) P).2.2.2.2.1 (cx12 (i := i) P).2.2.2.2.2.1 (cx12 (i := i) P).2.2.2.2.2.2.1 (cx12 (i := i) P).2.2.2.2.2.2.2.1 (cx12 (i := i) P).2.2.2.2.2.2.2.2.1 (cx12 (i := i) P).2.2.2.2.2.2.2.2.2.1 (cx12 (i := i) P).2.2.2.2.2.2.2.2.2.2.1 (cx12 (i := i) P).2.2.2.2.2.2.2.2.2.2.2.1 (cx12 (i := i) P).2.2.2.2.2.2.2.2.2.2.2.2) : ∀ w A base g outer s p loose mean mg mb R x1 x2 x3 x4 x5 x6 x7 x8 x9 x10 x11 x12, P w A base g outer s p loose mean mg mb R x1 x2 x3 x4 x5 x6 x7 x8 x9 x10 x11 x12 := fun w A base g outer s p loose mean mg mb R x1 x2 x3 x4 x5 x6 x7 x8 x9 x10 x11 x12 => Classical.byContradiction fun nx =>
  @Classical.epsilon_spec (Ctx × α1 × α2 × α3 × α4 × α5 × α6 × α7 × α8 × α9 × α10 × α11 × α12) (fun x => ¬ P x.1.w x.1.A x.1.base x.1.g x.1.outer x.1.s x.1.p x.1.loose x.1.mean x.1.mg x.1.mb x.1.R x.2.1 x.2.2.1 x.2.2.2.1 x.2.2.2.2.1 x.2.2.2.2.2.1 x.2.2.2.2.2.2.1 x.2.2.2.2.2.2.2.1 x.2.2.2.2.2.2.2.2.1 x.2.2.2.2.2.2.2.2.2.1 x.2.2.2.2.2.2.2.2.2.2.1 x.2.2.2.2.2.2.2.2.2.2.2.1 x.2.2.2.2.2.2.2.2.2.2.2.2) ⟨(⟨w, A, base, g, outer, s, p, loose, mean, mg, mb, R⟩, x1, x2, x3, x4, x5, x6, x7, x8, x9, x10, x11, x12), nx⟩ h
end
section
variable {M : Model} {A : Around} {E : Value → Shared → Prop} {s : Shared} {env : Env} {st : Stmt} {rest : List Stmt} {Q : Flow → Shared → Prop} {v : Value}
theorem execs_next0 (h : wpAny M A (exec st env) (NextQ M A env rest Q E) E s) : wpAny M A (execs (st :: rest) env) Q E s := execs_next h
theorem call_ret0 {Q : Value → Shared → Prop} (h : Q v s) : CallR Q E (.ok (.ret v)) s := h
end
section
variable {prog : Program} {w : World} {M : Model} {A : Around} {env : Env} {s : Shared} {g : Heap} {L : Addr} {m m' : Str → Option Value} {news : List (Addr × Obj)} {v : Value}
noncomputable def asgH (g : Heap) (L : Addr) (m : Str → Option Value) (news : List (Addr × Obj)) (Q : Heap → Prop) : Heap := eps (i := ⟨default⟩) fun h' => Fr g L h' m → News g L h' news → Q h'
theorem asgH_ok {Q : Heap → Prop} (h : Fr g L (asgH g L m news Q) m → News g L (asgH g L m news Q) news → Q (asgH g L m news Q)) : ∀ h', Fr g L h' m → News g L h' news → Q h' :=
  allE (i := ⟨default⟩) (p := fun h' => Fr g L h' m → News g L h' news → Q h') h
end
section
variable {w : World} {A : Around} {base g : Heap} {outer : List Env} {s : Shared} {mn : List (Addr × Obj)}
  {p : Program} {loose : List Str} {mean : ExcName → Option Value} {mg mb : Str → Option Value}
theorem enterW {R : Result → Shared → Prop} {name qual : Str} {params : Arguments} {body : List Stmt} {scope : Scope} {dV kV doc pm cdv ct oc : Value} {an od : Option Addr} {osl : Array (Option Value)} {f : Addr} {vals : List Value} {binds : List (Str × Value)}
    (P : Pre p loose mean mg mb w A base outer g s mn)
    (ho : (K w.params).lookup f = some ⟨oc, od, .func (fnOf name qual params body scope dV kV doc pm an cdv ct), osl⟩) (hcd : codeIn (K w.params) cdv qual = true) (hroom : A.depth < recursionLimit)
    (hz : (params.args.map (·.arg)).zip vals = binds)
    (hbind : BindsTo s (fnOf name qual params body scope dV kV doc pm an cdv ct) ⟨vals, []⟩ binds) (hloc : ∀ y ∈ binds, scope.names.lookup y.1 = some .local)
    (h : ∀ L' h₁, Fr g L' h₁ (fun y => binds.reverse.lookup y) → News g L' h₁ mn → Below A base outer g → (K w.params).In g → Top p loose mean mg mb g →
      wpAny (model PySem.Challenge.rw_nt0105_01.row.prog w) (A.deeper (envOf qual scope L' f cdv)) (execs body (envOf qual scope L' f cdv)) (fun fl s' => R (.ok (.ret (match fl with | .ret v => v | _ => .none))) s')
        (fun e s' => wpAny (model PySem.Challenge.rw_nt0105_01.row.prog w) (A.deeper (envOf qual scope L' f cdv)) (leaving (envOf qual scope L' f cdv) e) (fun _ s'' => R (.error e) s'') (fun e' s'' => R (.error e') s'') s') { s with heap := h₁, toks := s.toks + binds.length })
    (hcell : ∀ x ∈ scope.names, x.2 ≠ .cell)
    (hco : scope.isCoroutine = false := by rfl) (hgen : scope.isGenerator = false := by rfl) (hk : scope.kind = .function := by rfl) : codeAny (model PySem.Challenge.rw_nt0105_01.row.prog w) A (.call (.ref f) ⟨vals, []⟩) R s :=
  enter (dfl := []) P ho hcd hroom (by rw [List.append_nil]; exact hz) hbind hloc (fun L' h₁ F N _ B X T => h L' h₁ F N B X T) hcell hco hgen hk
end
section
variable {prog : Program} {w : World} {M : Model} {A : Around} {env : Env} {s : Shared} {g : Heap} {L : Addr} {m m' : Str → Option Value} {news : List (Addr × Obj)} {v : Value} {pos : Pos}
noncomputable def setM (m : Str → Option Value) (x : Str) (v : Value) : Str → Option Value := fun y => if y = x then some v else m y
theorem asg_loc0 {x : Str} {p : Pos} {e : PySem.Expr} {Q : Flow → Shared → Prop} {E : Value → Shared → Prop} {k : Nat} (hc : locB env x = true) (he : Ev M A env s e s.toks v k) (F : Fr g L s.heap m) (N : News g L s.heap news) (hL : env.locals = L)
    (hs : swapsWith e (some (.Name x p)) pos.line env = pure false)
    (h : Fr g L (asgH g L (setM m x v) news fun h' => Q .next { s with heap := h', toks := k + 1 }) (setM m x v) → News g L (asgH g L (setM m x v) news fun h' => Q .next { s with heap := h', toks := k + 1 }) news → Q .next { s with heap := (asgH g L (setM m x v) news fun h' => Q .next { s with heap := h', toks := k + 1 }), toks := k + 1 }) : wpAny M A (exec (.Assign [.Name x p] e pos) env) Q E s :=
  asg_loc hc he F N hL hs (asgH_ok h)
theorem st_loc0 {x : Str} {Q : Unit → Shared → Prop} {E : Value → Shared → Prop} (F : Fr g L s.heap m) (N : News g L s.heap news) (hL : env.locals = L) (hc : locB env x = true)
    (h : Fr g L (asgH g L (setM m x v) news fun h' => Q () { s with heap := h', toks := s.toks + 1 }) (setM m x v) → News g L (asgH g L (setM m x v) news fun h' => Q () { s with heap := h', toks := s.toks + 1 }) news → Q () { s with heap := (asgH g L (setM m x v) news fun h' => Q () { s with heap := h', toks := s.toks + 1 }), toks := s.toks + 1 }) : wpAny M A (storeName env x v) Q E s :=
  st_loc F N hL hc (asgH_ok h)
end
section
theorem dec_negI {x y : Int} (h : y ≤ x) : ¬ decide (x < y) = true := fun e => Int.not_lt.mpr h (of_decide_eq_true e)
theorem dec_negL {x y : Int} (h : y < x) : ¬ decide (x ≤ y) = true := fun e => Int.not_le.mpr h (of_decide_eq_true e)
theorem beq_negI {x y : Int} (h : x ≠ y) : ¬ (x == y) = true := fun e => h (beq_iff_eq.mp e)
theorem bne_posI {x y : Int} (h : x ≠ y) : (x != y) = true := bne_iff_ne.mpr h
theorem ar_tn1 (b : Nat) : ((b : Int) - 1).toNat = b - 1 := Int.toNat_sub b 1
theorem ar_tn2 (b : Nat) : ((b : Int) + 1).toNat = b + 1 := rfl
theorem ar_tn3 {b : Nat} (h : 2 ≤ b) : ¬ ((b : Int) - 1).toNat = 0 := by rw [ar_tn1]; exact Nat.sub_ne_zero_of_lt h
theorem ar_psL {a n : Nat} (h : a = 64 ∨ a = 128) (hn : Nat.ble n 64 = true) : n ≤ a := h.elim (fun e => e ▸ Nat.le_of_ble_eq_true hn) fun e => e ▸ Nat.le_trans (Nat.le_of_ble_eq_true hn) (by decide)
theorem ar_psU {a n : Nat} (h : a = 64 ∨ a = 128) (hn : Nat.ble 128 n = true) : a ≤ n := h.elim (fun e => e ▸ Nat.le_trans (by decide) (Nat.le_of_ble_eq_true hn)) fun e => e ▸ Nat.le_of_ble_eq_true hn
theorem ar_ps4 {a : Nat} (h : a = 64 ∨ a = 128) : 0 < a - 4 := h.elim (fun e => e ▸ by decide) fun e => e ▸ by decide
theorem ar_psz {a : Nat} (h : a = 64 ∨ a = 128) : (a : Int) < 1000 := Int.ofNat_lt.mpr (Nat.lt_of_le_of_lt (ar_psU h (n := 128) rfl) (by decide))
theorem ar_psz4 {a : Nat} (h : a = 64 ∨ a = 128) : (4 : Int) < a := Int.ofNat_lt.mpr (ar_psL h (n := 5) rfl)
variable {a b c n m : Nat}
theorem ar_lt (h : a < n) (hn : Nat.ble n m = true) : a < m := Nat.lt_of_lt_of_le h (Nat.le_of_ble_eq_true hn)
theorem ar_lt2 (h : a ≤ n) (hn : Nat.blt n m = true) : a < m := Nat.lt_of_le_of_lt h (Nat.le_of_ble_eq_true hn)
theorem ar_le (h : a < n) (hn : Nat.ble n m = true) : a ≤ m := Nat.le_of_lt (ar_lt h hn)
theorem ar_le2 (h : a ≤ n) (hn : Nat.ble n m = true) : a ≤ m := Nat.le_trans h (Nat.le_of_ble_eq_true hn)
theorem ar_lel (h1 : a ≤ b) (h2 : b < n) (hn : Nat.ble n m = true) : a < m := ar_lt (Nat.lt_of_le_of_lt h1 h2) hn
theorem ar_eql (h1 : a = b) (h2 : b < n) (hn : Nat.ble n m = true) : a < m := h1 ▸ ar_lt h2 hn
theorem ar_eqs (h1 : b = a) (h2 : b < n) (hn : Nat.ble n m = true) : a < m := h1 ▸ ar_lt h2 hn
theorem ar_eqL (h1 : a = b) (h2 : b ≤ n) (hn : Nat.blt n m = true) : a < m := h1 ▸ ar_lt2 h2 hn
theorem ar_eqM (h1 : a = b) (h2 : b ≤ n) (hn : Nat.ble n m = true) : a ≤ m := h1 ▸ ar_le2 h2 hn
theorem ar_lo (h : m ≤ a) (hn : Nat.ble n m = true) : n ≤ a := Nat.le_trans (Nat.le_of_ble_eq_true hn) h
theorem ar_loe (h1 : a = b) (h : m ≤ b) (hn : Nat.ble n m = true) : n ≤ a := h1 ▸ ar_lo h hn
theorem ar_nn (a : Nat) : (0 : Int) ≤ a := Int.natCast_nonneg a
theorem ar_neg (a : Nat) : -(2 ^ 64 : Int) < (a : Int) := Int.lt_of_lt_of_le (by decide) (Int.natCast_nonneg a)
theorem ar_neg1 (a : Nat) : -(2 ^ 64 : Int) < (a : Int) + 1 := Int.lt_of_lt_of_le (by decide) (Int.natCast_nonneg (a + 1))
theorem ar_zle (h : a ≤ b) : (a : Int) ≤ b := Int.ofNat_le.mpr h
theorem ar_zlt (h : a < b) : (a : Int) < b := Int.ofNat_lt.mpr h
theorem ar_zeq (h : a = b) : (a : Int) = b := congrArg Int.ofNat h
theorem ar_z2 (h : 2 ≤ a) : (2 : Int) ≤ a := Int.ofNat_le.mpr h
theorem ar_z1 (h : 1 ≤ a) : (1 : Int) ≤ a := Int.ofNat_le.mpr h
theorem ar_z0 (h : 0 < a) : (0 : Int) < a := Int.ofNat_lt.mpr h
theorem ar_zk (h : a < n) (hn : Nat.ble n 1000 = true) : (a : Int) < 1000 := Int.ofNat_lt.mpr (ar_lt h hn)
theorem ar_zh (h : a < n) (hn : Nat.ble n 100000 = true) : (a : Int) < 100000 := Int.ofNat_lt.mpr (ar_lt h hn)
theorem ar_zc (h : a < n) (hn : Nat.ble n 4294967296 = true) : (a : Int) < 4294967296 := Int.ofNat_lt.mpr (ar_lt h hn)
theorem ar_zkL (h : a ≤ n) (hn : Nat.blt n 1000 = true) : (a : Int) < 1000 := Int.ofNat_lt.mpr (ar_lt2 h hn)
theorem ar_z64 (h : a < n) (hn : Nat.ble n 18446744073709551616 = true) : (a : Int) < 2 ^ 64 := Int.ofNat_lt.mpr (ar_lt h hn)
theorem ar_z63 (h : a < n) (hn : Nat.ble n 9223372036854775808 = true) : (a : Int) < 2 ^ 63 := Int.ofNat_lt.mpr (ar_lt h hn)
theorem ar_pred (h : 0 < a) : a - 1 < a := Nat.sub_one_lt_of_lt h
theorem ar_predl (h : 0 < a) (h2 : a ≤ b) : a - 1 < b := Nat.lt_of_lt_of_le (Nat.sub_one_lt_of_lt h) h2
theorem ar_pred2 (h : 2 ≤ a ∧ a ≤ b) : a - 1 < b := ar_predl (Nat.lt_of_lt_of_le (by decide) h.1) h.2
theorem ar_pred3 (h : 2 ≤ a) (h2 : a ≤ b) : a - 1 < b := ar_predl (Nat.lt_of_lt_of_le (by decide) h) h2
theorem ar_tnl {x : Int} {b : Nat} (h0 : 0 ≤ x) (h : x < b) : x.toNat < b := (Int.toNat_lt h0).mpr h
theorem ar_part (h : 64 ≤ a) : 4 + min (a - 4) b ≤ a := Nat.le_trans (Nat.add_le_add_left (Nat.min_le_left _ _) 4) (Nat.le_of_eq (Nat.add_sub_cancel' (Nat.le_trans (by decide) h)))
theorem ar_z04 (h : 64 ≤ b) (e : a = b) : (0 + 4 : Int) ≤ a := Int.ofNat_le.mpr (Nat.le_trans (by decide) (e ▸ h))
theorem ar_zle2 (h : a ≤ c) (e : b = c) : (a : Int) ≤ b := Int.ofNat_le.mpr (e ▸ h)
theorem ar_zle3 (e : b = c) (h : 2 ≤ a ∧ a ≤ c) : (a : Int) ≤ b := Int.ofNat_le.mpr (e ▸ h.2)
theorem ar_zle4 (h : 2 ≤ a ∧ a ≤ b) : (a : Int) ≤ b := Int.ofNat_le.mpr h.2
theorem ar_z2A (h : 2 ≤ a ∧ a ≤ b) : (2 : Int) ≤ a := Int.ofNat_le.mpr h.1
theorem ar_zlt2 (h : a < c) (e : b = c) : (a : Int) < b := Int.ofNat_lt.mpr (e ▸ h)
theorem ar_ltE (e : b = c) (h : a < c) : a < b := e ▸ h
theorem ar_leE (e : b = c) (h : a ≤ c) : a ≤ b := e ▸ h
theorem ar_zkl (h1 : a ≤ b) (h2 : b < n) (hn : Nat.ble n 1000 = true) : (a : Int) < 1000 := Int.ofNat_lt.mpr (ar_lel h1 h2 hn)
theorem ar_zke (h1 : a = b) (h2 : b < n) (hn : Nat.ble n 1000 = true) : (a : Int) < 1000 := Int.ofNat_lt.mpr (ar_eql h1 h2 hn)
theorem ar_zhe (h1 : a = b) (h2 : b < n) (hn : Nat.ble n 100000 = true) : (a : Int) < 100000 := Int.ofNat_lt.mpr (ar_eql h1 h2 hn)
theorem ar_tnP {b n : Nat} (h : 2 ≤ b ∧ b ≤ n) : ((b : Int) - 1).toNat < n := by rw [ar_tn1]; exact ar_pred2 h
theorem ar_tnQ {b n : Nat} (h : 2 ≤ b) (h2 : b ≤ n) : ((b : Int) - 1).toNat < n := by rw [ar_tn1]; exact ar_pred3 h h2
theorem ar_tnA (b : Nat) : ((4 : Int) + b).toNat - 4 = b := by rw [show (4 : Int) + b = ((4 + b : Nat) : Int) from rfl, Int.toNat_natCast, Nat.add_sub_cancel_left]
theorem ar_unz (h : (a : Int) < (b : Nat)) : a < b := Int.ofNat_lt.mp h
theorem ar_unzE (e : c = b) (h : (a : Int) < (c : Nat)) : a < b := e ▸ Int.ofNat_lt.mp h
theorem ar_tnz {b n : Nat} (h0 : (2 : Int) ≤ b) (h : (b : Int) ≤ n) : ((b : Int) - 1).toNat < n := ar_tnQ (Int.ofNat_le.mp h0) (Int.ofNat_le.mp h)
theorem nd_cons {a : Addr × Obj} {r : List (Addr × Obj)} (h : a.1 ∉ r.map (·.1)) (h2 : (r.map (·.1)).Nodup) : ((a :: r).map (·.1)).Nodup := List.nodup_cons.mpr ⟨h, h2⟩
theorem ni_cons {a : Addr} {q : Addr × Obj} {r : List (Addr × Obj)} (h : @Ne Nat a q.1) (h2 : a ∉ r.map (·.1)) : a ∉ (q :: r).map (·.1) := notin_cons h h2
theorem ni_nil {a : Addr} : a ∉ ([] : List (Addr × Obj)).map (·.1) := fun h => nomatch h
end
-- LINES
local macro_rules | `(tactic| walk_at $s:str) => `(tactic| first | k_extra $s | fail "no word")
local macro_rules | `(tactic| walk_at "eval Name") => `(tactic| first | k_extra "z eval Name" | fail "no word")
local macro_rules | `(tactic| walk_at "ite") => `(tactic| first | k_extra "z ite" | fail "no word")
local macro_rules | `(tactic| walk_at "call ref") => `(tactic| first | k_extra "z call ref" | fail "no word")
local macro_rules | `(tactic| walk_at "getAttr ref") => `(tactic| first | k_extra "z getAttr ref" | fail "no word")
local macro_rules | `(tactic| walk_at "eval BinOp") => `(tactic| first | k_extra "z eval BinOp" | fail "no word")
local macro_rules | `(tactic| walk_at "eval Call Attribute") => `(tactic| first | k_extra "z eval Call Attribute" | fail "no word")
local macro_rules | `(tactic| walk_at "exec Return some") => `(tactic| first | k_extra "z exec Return some" | fail "no word")
local macro_rules | `(tactic| walk_at "isTrue Compare") => `(tactic| first | k_extra "z isTrue Compare" | fail "no word")
local macro_rules | `(tactic| walk_at "exec Assign") => `(tactic| first | k_extra "z exec Assign" | fail "no word")
local macro_rules | `(tactic| walk_at "subscriptTail") => `(tactic| first | k_extra "z subscriptTail" | fail "no word")
local macro_rules | `(tactic| walk_at "eval Call") => `(tactic| first | k_extra "z eval Call" | fail "no word")
local macro_rules | `(tactic| walk_at "storeName") => `(tactic| first | k_extra "z storeName" | fail "no word")
local macro_rules | `(tactic| walk_at "eval Lambda") => `(tactic| first | k_extra "z eval Lambda" | fail "no word")
local macro_rules | `(tactic| k_room) => `(tactic| k_extra "my k_room")
local macro_rules | `(tactic| k_all) => `(tactic| k_extra "my k_all")
local macro_rules | `(tactic| k_upd) => `(tactic| k_extra "my k_upd")
local macro_rules | `(tactic| k_updF) => `(tactic| k_extra "my k_updF")
local macro_rules | `(tactic| k_lt $h:ident) => `(tactic| (refine apI_lt $h ?_; clear $h; k_extra "my imp"))
local macro_rules | `(tactic| k_lt2 $h:ident) => `(tactic| (replace $h := ap_lt $h))
local macro_rules | `(tactic| k_in) => `(tactic| k_extra "my k_in")
local macro_rules | `(tactic| omega) => `(tactic| k_extra "my omega")
theorem words_01_2 : True := by
  k_with "my enter" => (refine' enterV ?zk1 ?zk2 ?zk3 ?zk4 ?zkz ?zk5 ?zk6 ?_ ?zc ?zc1 ?zc2 ?zc3 ; (case zk1 => assumption); (case zk2 => k_is); (case zk3 => k_is); (case zk4 => exact Room.lim (by assumption)); (case zkz => dsimp only [List.map, List.zip, List.zipWith]); (case zk5 => exact BindsTo.of_eq rfl); (case zk6 => exact locs rfl); (case zc => decide); (case zc1 => exact rfl); (case zc2 => exact rfl); (case zc3 => exact rfl); intro L' h₁ F N B X T env A' Qr Er)
  k_with "my enterD" => ((case zk1 => assumption); (case zk2 => k_is); (case zk3 => k_is); (case zk4 => exact Room.lim (by assumption)); (case zkz => dsimp only [List.map, List.zip, List.zipWith, List.cons_append, List.nil_append]); (case zk5 => exact BindsTo.of_defaults rfl (Frag.In.keeps (Pre.X (by assumption)) (Pre.S (by assumption)) 256 _ rfl) rfl rfl rfl); (case zk6 => exact locs rfl); (case zc => decide); (case zc1 => exact rfl); (case zc2 => exact rfl); (case zc3 => exact rfl); intro L' h₁ F N lt B X T; clear lt; (try dsimp only))
  k_with "my binds" => (intro L'; dsimp only [bindL, bindC]; (repeat' first | rw [if_pos (by rfl)] | rw [if_neg (fun h => by cases (show some NameKind.cell = some NameKind.local from h))]))
  k_with "my enterC" => (refine' enterCV ?zk1 ?zk2 ?zk3 ?zk4 ?zkz ?zk5 ?zkm ?zkc ?zk6 ?zkD ?_ ?zc1 ?zc2 ?zc3 ; (case zk1 => assumption); (case zk2 => k_is); (case zk3 => k_is); (case zk4 => exact Room.lim (by assumption)); (case zkz => dsimp only [List.map, List.zip, List.zipWith]); (case zk5 => exact BindsTo.of_eq rfl); (case zkm => k_extra "my binds"); (case zkc => k_extra "my binds"); (case zk6 => exact rfl); (case zkD => decide +kernel); (case zc1 => exact rfl); (case zc2 => exact rfl); (case zc3 => exact rfl); intro L' h₁ tk' cells' F N Y' lt B X T Qr Er; k_cells Y'; (refine ap2I lt ?_); clear lt; k_extra "my imp"; (try simp only [List.cons_append, List.nil_append] at N); (try dsimp only))
  k_with "my steps" => repeat' (k_extra "my nostop"; first | (k_unfold; (try dsimp only)) | walk1 | (dsimp only; walk1))
  k_with "my nostop" => ((fail_if_success (with_reducible show LCg.CompSrc _ _ _ _ _ _ _ _ _ _ _ _ _ _)); (fail_if_success (with_reducible show wpAny _ _ (pyIter _) (fun _ _ => LoopAtV _ _ _ _ _ _ _ _ _ _ _) _ _)); (fail_if_success (with_reducible show wpAny _ _ (exec (Stmt.While _ _ _ _) _) _ _ _)); (fail_if_success (with_reducible show wpAny _ _ (exec (Stmt.For _ _ _ _ _) _) _ _ _)); k_extra "my nostop2")
  k_with "newList" => (k_dflt ((with_reducible refine' newList_K ?zk1 ?zk2 ?_ ?zk3); (case zk3 => exact sz_lit rfl); (case zk1 => k_asm); (case zk2 => k_asm); k_whole); intro _ _ _ _ l1; (try k_lt l1); (try k_sweep))
  k_with "callWith" => ((with_reducible show wpAny _ _ (callWith _ (Value.builtin _) _ (backTo _ (starEach (_ :: _) _)) []) _ _ _); k_dflt (first | refine PyProof.Rows.callWith_builtin1 ?_ | refine PyProof.Rows.callWith_method1 ?_))
  k_with "z eval Call" => ((with_reducible show wpAny _ _ (eval (Expr.Call _ _ [] _) _) _ _ _); k_dflt (first | (k_here; k_compRoot) | refine PyProof.Rows.Call_ ?_))
  k_with "z eval Call Attribute" => ((with_reducible show wpAny _ _ (eval (Expr.Call (Expr.Attribute _ _ _) _ [] _) _) _ _ _); k_dflt (first | (k_here; k_compRoot) | refine PyProof.Rows.MethodCall_ ?_))
  k_with "z exec Assign" => ((with_reducible show wpAny _ _ (exec (Stmt.Assign [Expr.Name _ _] _ _) _) _ _ _); k_dflt (refine wpAny_Assign_Name ?_))
  k_with "my nostop2" => skip
  k_with "my cond" => (simp only [beq_iff_eq, bne_iff_ne, ne_eq, decide_eq_true_eq, decide_eq_false_iff_not, Bool.not_eq_true', Bool.not_eq_true, Bool.not_eq_false, beq_eq_false_iff_ne, Bool.not_not, Bool.not_true, Bool.not_false]; first | assumption | omega | (simp only [List.length_append, List.length_cons, List.length_nil, List.length_take, List.length_drop, List.length_replicate, List.length_set, List.length_map, List.length_range]; omega))
  k_with "z ite" => (k_dflt (first | refine PySem.W.ite_pos (by k_extra "my cond") ?_ | refine PySem.W.ite_neg (by k_extra "my cond") ?_))
  k_with "callWith ref" => ((with_reducible show wpAny _ _ (callWith _ _ _ (backTo _ (starEach (_ :: _) _)) []) _ _ _); k_dflt (refine' callWith_K ?zk1 ?zk2 ?_ ?zhe ?zhp; (case zk1 => k_asm); (case zk2 => k_is); (case zhe => exact rfl); (case zhp => exact rfl); k_whole))
  k_with "callWith ref" => ((with_reducible show wpAny _ _ (callWith _ _ _ (backTo _ (starEach [] _)) []) _ _ _); k_dflt (refine' callWith_K0 ?zk1 ?zk2 ?_; (case zk1 => exact Frag.In.keeps (by with_reducible assumption) (Fr.keep (by k_asm))); (case zk2 => k_is); k_whole))
  k_with "exec Raise" => (k_dflt ((exfalso; omega)))
  k_with "exec Raise some none" => (k_dflt ((exfalso; omega)))
  k_with "my sub" => first | exact sub_nil | (refine' sub_cons ?za ?zb; (case za => k_mem); (case zb => k_extra "my sub"))
  k_with "my post" => exact Post.done (by assumption) (by assumption) (by k_extra "my sub") (by k_extra "my nd")
  k_with "my pre0" => exact pre_pure (by assumption) (Around.frames_deeper (Below.stack (by assumption))) rfl rfl (by assumption) (by assumption) (by assumption) (by assumption)
  k_with "my depth" => exact Room.deeper (by assumption) (by decide)
  k_with "my k_room" => (have hRo := Room.depth (by assumption); (try simp only [depth_under_make, depth_under_kw, depth_in1, depth_deeper]); unfold recursionLimit; omega)
  k_with "my hh" => first | assumption | exact Room.hand (by assumption)
  k_with "my pre1" => (refine pre_call1 (by assumption) (Around.frames_deeper (Below.stack (by assumption))) rfl rfl (by assumption) (by assumption) (by assumption) (by assumption) (by k_mem))
  k_with "my back0" => ((with_reducible rename Post _ _ _ => P'); (refine' post_pure0K ?zF ?zN P' ?_; (case zF => k_asm); (case zN => k_asm)); clear P'; (intro F' N'); (try dsimp only); (try k_sweep))
  k_with "my back1" => ((with_reducible rename Post _ _ _ => P'); (refine' post_upd0K ?zF ?zN ?zU P' ?_; (case zF => k_asm); (case zN => k_asm); (case zU => k_upd)); clear P'; (intro F' N'); (try dsimp only); (try k_sweep))
  k_with "my aps" => repeat (first | (with_reducible rename (Ap _ _ ∧ _) => hcj; obtain ⟨_, _⟩ := hcj) | (with_reducible rename ((Ap _ _ ∧ _) ∧ _) => hcj; obtain ⟨_, _⟩ := hcj))
  k_with "my ne1" => first | exact Ap.ne (by with_reducible assumption) | exact Ap.en (by with_reducible assumption) | (refine neN ?_; (try dsimp only); omega)
  k_with "my k_all" => first | exact List.forall_mem_nil _ | (refine' List.forall_mem_cons.mpr ⟨?qa, ?qb⟩; (case qa => k_extra "my ne1"); (case qb => k_all))
  k_with "my k_upd" => first | (refine' Upd.head ?qa; (case qa => k_all)) | (refine' Upd.tail ?qa ?qb; (case qa => k_extra "my ne1"); (case qb => k_upd))
  k_with "my k_updF" => first | (refine' UpdF.head ?qa; (case qa => k_all)) | (refine' UpdF.tail ?qa ?qb; (case qa => k_extra "my ne1"); (case qb => k_updF))
  k_with "my notin" => first | exact notin_nil | (refine notin_cons (by k_extra "my ne1") ?_; k_extra "my notin") | fail "notin"
  k_with "my nd" => first | exact List.nodup_nil | (simp only [List.map_nil, List.map_cons, List.nodup_nil, List.nodup_cons, List.not_mem_nil, not_false_eq_true, and_self, and_true]; done) | (simp only [List.map_nil, List.map_cons, List.nodup_nil, List.nodup_cons, List.mem_cons, List.not_mem_nil, not_false_eq_true, or_false, not_or, and_true]; (repeat' apply And.intro); all_goals (k_extra "my ne1"))
  k_with "my imp" => ((dsimp only [ApI, ApNdI, Ap2I]); intros; (try (with_reducible refine apI_skip ?_)))
  k_with "my k_in" => first | with_reducible assumption | exact Frag.In.keeps (by with_reducible assumption) (Fr.keep (by with_reducible assumption))
  k_with "z eval Name" => (k_dflt (first | ((with_reducible refine' name_gl ?zpa ?zpb ?zpc ?zpd ?zpe ?zpf ?zpg ?zph ?_); (case zpa => with_reducible assumption); (case zpb => with_reducible assumption); (case zpc => k_asm); (case zpd => exact rfl); (case zpe => k_is); (case zpf => exact rfl); (case zpg => kernel_rfl); (case zph => kernel_rfl)) | ((with_reducible refine' name_gb ?zpa ?zpb ?zpc ?zpd ?zpi ?zpe ?zpj ?zpk ?zpf ?zpg ?zph ?_); (case zpa => with_reducible assumption); (case zpb => with_reducible assumption); (case zpc => k_asm); (case zpd => exact rfl); (case zpi => exact rfl); (case zpe => k_is); (case zpj => boot_fast); (case zpk => decide); (case zpf => exact rfl); (case zpg => kernel_rfl); (case zph => kernel_rfl))); k_whole)
  k_with "z eval Name" => (k_dflt ((with_reducible refine' name_loc ?zpa ?zpb ?zpc ?zpd ?_); (case zpa => with_reducible assumption); (case zpb => exact Eq.refl (some _)); (case zpc => exact rfl); (case zpd => exact Eq.refl true); k_whole))
  k_with "execs cons" => (k_dflt (refine execs_next ?_); intro ns')
  k_with "NextQ" => (first | with_reducible refine next_go ?_ | with_reducible refine next_ret ?_ | with_reducible refine next_cont ?_ | with_reducible refine next_brk ?_)
  k_with "CallR" => (first | (with_reducible refine call_ret ?_; intro cs') | with_reducible refine call_err ?_)
  k_with "my attr" => first | assumption | fail "attr"
  k_with "my meth" => fail "meth"
  k_with "my evA" => fail "evA"
  k_with "my ev" => first | (apply ev_loc; (with_reducible assumption); (exact Eq.refl (some _)); (exact rfl); (exact Eq.refl true)) | exact ev_int | (apply ev_bin; (k_extra "my ev"); (k_extra "my ev"); first | exact bin_add | exact bin_sub) | k_extra "my evA" | fail "ev"
  k_with "my evl" => first | exact evl_nil | (apply evl_cons; (k_extra "my ev"); (k_extra "my evl"); (exact rfl)) | fail "evl"
  k_with "my cmp" => first | exact cmp_lt | exact cmp_eq | exact cmp_gt | exact cmp_ne | exact cmp_le | exact cmp_ge | fail "cmp"
  k_with "z isTrue Compare" => (k_dflt ((with_reducible refine' isT_cmp ?zpa ?zpb ?zpc ?zpd ?_); (case zpa => k_extra "my ev"); (case zpb => k_extra "my ev"); (case zpc => k_extra "my cmp"); (case zpd => exact rfl); k_whole; (try dsimp only)))
  k_with "z exec Assign" => ((first | with_reducible show wpAny _ _ (exec (Stmt.Assign [Expr.Name _ _] (Expr.Name _ _) _) _) _ _ _ | with_reducible show wpAny _ _ (exec (Stmt.Assign [Expr.Name _ _] (Expr.Constant _ _ _) _) _) _ _ _ | with_reducible show wpAny _ _ (exec (Stmt.Assign [Expr.Name _ _] (Expr.BinOp _ _ _ _) _) _) _ _ _ | with_reducible show wpAny _ _ (exec (Stmt.Assign [Expr.Name _ _] (Expr.Attribute _ _ _) _) _) _ _ _); (k_dflt ((with_reducible refine' asg_loc ?zpa ?zpb ?zpc ?zpd ?zpe ?zpf ?_); (case zpa => exact Eq.refl true); (case zpb => k_extra "my ev"); (case zpc => with_reducible assumption); (case zpd => with_reducible assumption); (case zpe => exact rfl); (case zpf => exact rfl); k_whole)); (intro h' m' F' N'; k_sweep))
  k_with "z exec Return some" => (k_dflt ((with_reducible refine' ret_ev ?zpa ?_); (case zpa => k_extra "my ev"); k_whole))
  k_with "eval Attribute" => (k_dflt ((with_reducible refine' ev_use ?zpa ?_); (case zpa => k_extra "my ev"); k_whole))
  k_with "z eval BinOp" => (k_dflt ((with_reducible refine' ev_use ?zpa ?_); (case zpa => k_extra "my ev"); k_whole))
  k_with "z storeName" => (k_dflt ((with_reducible refine' st_loc ?zpa ?zpb ?zpc ?zpd ?_); (case zpa => with_reducible assumption); (case zpb => with_reducible assumption); (case zpc => exact rfl); (case zpd => exact Eq.refl true); k_whole); (intro h' m' F' N'; k_sweep))
  k_with "my ctx" => (generalize Ctx.w _ = w, Ctx.A _ = A, Ctx.base _ = base, Ctx.g _ = g, Ctx.outer _ = outer, Ctx.s _ = s, Ctx.p _ = p, Ctx.loose _ = loose, Ctx.mean _ = mean, Ctx.mg _ = mg, Ctx.mb _ = mb, Ctx.R _ = R)
  k_with "my zetaE" => (refine ((?_ : True → _) trivial); refine ((?zF : ∀ {R : Result → Shared → Prop} {w : World} {A : Around} {qual : Str} {scope : Scope} {L' f : Addr} {cdv : Value} {body : List Stmt} {S : Shared}, (let env := envOf qual scope L' f cdv
        let A' := A.deeper env
        let Qr : Flow → Shared → Prop := fun fl s' => R (.ok (.ret (match fl with | .ret v => v | _ => .none))) s'
        let Er : Value → Shared → Prop := fun e s' => wpAny (model PySem.Challenge.rw_nt0105_01.row.prog w) A' (leaving env e) (fun _ s'' => R (.error e) s'') (fun e' s'' => R (.error e') s'') s'
        True → wpAny (model PySem.Challenge.rw_nt0105_01.row.prog w) A' (execs body env) Qr Er S) → True → wpAny (model PySem.Challenge.rw_nt0105_01.row.prog w) (A.deeper (envOf qual scope L' f cdv)) (execs body (envOf qual scope L' f cdv)) (fun fl s' => R (.ok (.ret (match fl with | .ret v => v | _ => .none))) s') (fun e s' => wpAny (model PySem.Challenge.rw_nt0105_01.row.prog w) (A.deeper (envOf qual scope L' f cdv)) (leaving (envOf qual scope L' f cdv) e) (fun _ s'' => R (.error e) s'') (fun e' s'' => R (.error e') s'') s') S) ?_); (case zF => exact fun f => f))
  k_with "my enterX" => (refine' enterW ?zk1 ?zk2 ?zk3 ?zk4 ?zkz ?zk5 ?zk6 ?_ ?zc ?zc1 ?zc2 ?zc3 ; (case zk1 => assumption); (case zk2 => k_is); (case zk3 => k_is); (case zk4 => exact Room.lim (by assumption)); (case zkz => dsimp only [List.map, List.zip, List.zipWith]); (case zk5 => exact BindsTo.of_eq rfl); (case zk6 => exact locs rfl); (case zc => decide); (case zc1 => exact rfl); (case zc2 => exact rfl); (case zc3 => exact rfl); (first | (refine (?zcG1 : CloT _ ?zcH1); refine @(allE2 ?_); apply ?zcH1) | (refine (?zcG21 : CloT _ ?zcH21); refine @(allE2 ?_); apply ?zcH21)); intro L' h₁; intro F N B X T; k_extra "my zetaE"; intro env A' Qr Er hTr; clear hTr)
  k_with "my zetaEC" => (refine ((?_ : True → _) trivial); refine ((?zF : ∀ {R : Result → Shared → Prop} {w : World} {A : Around} {qual : Str} {scope : Scope} {L' f : Addr} {cdv : Value} {body : List Stmt} {S : Shared}, (let Qr : Flow → Shared → Prop := fun fl s' => R (.ok (.ret (match fl with | .ret v => v | _ => .none))) s'; let Er : Value → Shared → Prop := fun e s' => wpAny (model PySem.Challenge.rw_nt0105_01.row.prog w) (A.deeper (envOfC qual scope L' f cdv)) (leaving (envOfC qual scope L' f cdv) e) (fun _ s'' => R (.error e) s'') (fun e' s'' => R (.error e') s'') s'; True → wpAny (model PySem.Challenge.rw_nt0105_01.row.prog w) (A.deeper (envOfC qual scope L' f cdv)) (execs body (envOfC qual scope L' f cdv)) Qr Er S) → True → wpAny (model PySem.Challenge.rw_nt0105_01.row.prog w) (A.deeper (envOfC qual scope L' f cdv)) (execs body (envOfC qual scope L' f cdv)) (fun fl s' => R (.ok (.ret (match fl with | .ret v => v | _ => .none))) s') (fun e s' => wpAny (model PySem.Challenge.rw_nt0105_01.row.prog w) (A.deeper (envOfC qual scope L' f cdv)) (leaving (envOfC qual scope L' f cdv) e) (fun _ s'' => R (.error e) s'') (fun e' s'' => R (.error e') s'') s') S) ?_); (case zF => exact fun f => f))
  k_with "my enterCX" => (refine' enterC ?zk1 ?zk2 ?zk3 ?zk4 ?zkz ?zk5 ?zkm ?zkc ?zk6 ?zkD ?_ ?zc1 ?zc2 ?zc3 ; (case zk1 => assumption); (case zk2 => k_is); (case zk3 => k_is); (case zk4 => exact Room.lim (by assumption)); (case zkz => dsimp only [List.map, List.zip, List.zipWith]); (case zk5 => exact BindsTo.of_eq rfl); (case zkm => k_extra "my binds"); (case zkc => k_extra "my binds"); (case zk6 => exact rfl); (case zkD => decide +kernel); (case zc1 => exact rfl); (case zc2 => exact rfl); (case zc3 => exact rfl); (first | (refine (?zcG2 : CloT _ ?zcH2); refine @(allE4 ?_); apply ?zcH2) | (refine (?zcG22 : CloT _ ?zcH22); refine @(allE4 ?_); apply ?zcH22)); intro L' h₁ tk' cells'; intro F N Y' lt B X T; k_extra "my zetaEC"; intro Qr Er hTr; clear hTr; k_cells Y'; (refine ap2I lt ?_); clear lt; k_extra "my imp"; (try simp only [List.cons_append, List.nil_append] at N); (try dsimp only))
  k_with "my enterDX" => ((case zk1 => assumption); (case zk2 => k_is); (case zk3 => k_is); (case zk4 => exact Room.lim (by assumption)); (case zkz => dsimp only [List.map, List.zip, List.zipWith, List.cons_append, List.nil_append]); (case zk5 => exact BindsTo.of_defaults rfl (Frag.In.keeps (Pre.X (by assumption)) (Pre.S (by assumption)) 256 _ rfl) rfl rfl rfl); (case zk6 => exact locs rfl); (case zc => decide); (case zc1 => exact rfl); (case zc2 => exact rfl); (case zc3 => exact rfl); refine (?zcG3 : CloT _ ?zcH3); refine @(allE2 ?_); apply ?zcH3; intro L' h₁; intro F N lt B X T; clear lt; (try dsimp only))
  k_with "my arith2" => with_reducible first | (refine ar_lt (n := 900) ?_ rfl; (with_reducible assumption)) | (refine ar_lt (n := 1000) ?_ rfl; (with_reducible assumption)) | (refine ar_lt (n := 200) ?_ rfl; (with_reducible assumption)) | (refine ar_lt (n := 120) ?_ rfl; (with_reducible assumption)) | (refine ar_lt (n := 100000) ?_ rfl; (with_reducible assumption)) | (refine ar_lt (n := 400) ?_ rfl; (with_reducible assumption)) | (refine ar_lt (n := 600) ?_ rfl; (with_reducible assumption)) | (refine ar_lt2 (n := 128) ?_ rfl; (with_reducible assumption)) | (refine' ar_lel (n := 900) ?za ?zb rfl; (case zb => (with_reducible assumption)); (case za => (with_reducible assumption))) | (refine' ar_lel (n := 200) ?za ?zb rfl; (case zb => (with_reducible assumption)); (case za => (with_reducible assumption))) | (refine' ar_eql (n := 900) ?za ?zb rfl; (case zb => (with_reducible assumption)); (case za => (with_reducible assumption))) | (refine' ar_eql (n := 1000) ?za ?zb rfl; (case zb => (with_reducible assumption)); (case za => (with_reducible assumption))) | (refine' ar_eql (n := 200) ?za ?zb rfl; (case zb => (with_reducible assumption)); (case za => (with_reducible assumption))) | (refine' ar_eqL (n := 128) ?za ?zb rfl; (case zb => (with_reducible assumption)); (case za => (with_reducible assumption))) | (apply ar_psL; (with_reducible assumption); (exact rfl)) | (refine' ar_predl ?za ?zb; (case za => (with_reducible assumption)); (case zb => (with_reducible assumption))) | (refine' ar_pred3 ?za ?zb; (case za => (with_reducible assumption)); (case zb => (with_reducible assumption))) | (refine ar_pred2 ?_; (with_reducible assumption)) | (refine ar_unz ?_; (with_reducible assumption)) | (refine' ar_unzE ?za ?zb; (case za => (with_reducible assumption)); (case zb => (with_reducible assumption))) | (refine' ar_tnl ?za ?zb; (case za => (with_reducible assumption)); (case zb => (with_reducible assumption))) | (refine ar_pred ?_; (with_reducible assumption)) | (refine ar_ps4 ?_; (with_reducible assumption)) | (refine ar_tnP ?_; (with_reducible assumption)) | (refine' ar_tnQ ?za ?zb; (case za => (with_reducible assumption)); (case zb => (with_reducible assumption))) | (refine' ar_ltE ?za ?zb; (case za => (with_reducible assumption)); (case zb => (with_reducible assumption))) | fail "ar"
  k_with "my arith3" => with_reducible first | exact Nat.zero_le _ | (refine ar_le (n := 1000) ?_ rfl; (with_reducible assumption)) | (refine ar_le (n := 900) ?_ rfl; (with_reducible assumption)) | (refine ar_le (n := 100000) ?_ rfl; (with_reducible assumption)) | (refine ar_le (n := 600) ?_ rfl; (with_reducible assumption)) | (refine ar_le2 (n := 128) ?_ rfl; (with_reducible assumption)) | (refine' ar_eqM (n := 128) ?za ?zb rfl; (case zb => (with_reducible assumption)); (case za => (with_reducible assumption))) | (refine ar_lo (m := 64) ?_ rfl; (with_reducible assumption)) | (refine ar_lo (m := 2) ?_ rfl; (with_reducible assumption)) | (refine' ar_loe (m := 64) ?za ?zb rfl; (case zb => (with_reducible assumption)); (case za => (with_reducible assumption))) | (apply ar_psL; (with_reducible assumption); (exact rfl)) | (apply ar_psU; (with_reducible assumption); (exact rfl)) | (refine ar_part ?_; (with_reducible assumption)) | (refine' ar_leE ?za ?zb; (case za => (with_reducible assumption)); (case zb => (with_reducible assumption))) | fail "ar"
  k_with "my arith4" => with_reducible first | (refine ar_zk (n := 900) ?_ rfl; (with_reducible assumption)) | (refine ar_zk (n := 1000) ?_ rfl; (with_reducible assumption)) | (refine ar_zk (n := 200) ?_ rfl; (with_reducible assumption)) | (refine ar_zk (n := 120) ?_ rfl; (with_reducible assumption)) | (refine ar_zh (n := 900) ?_ rfl; (with_reducible assumption)) | (refine ar_zh (n := 1000) ?_ rfl; (with_reducible assumption)) | (refine ar_zh (n := 600) ?_ rfl; (with_reducible assumption)) | (refine ar_zh (n := 200) ?_ rfl; (with_reducible assumption)) | (refine ar_zc (n := 900) ?_ rfl; (with_reducible assumption)) | (refine ar_zkL (n := 128) ?_ rfl; (with_reducible assumption)) | (refine' ar_zkl (n := 900) ?za ?zb rfl; (case zb => (with_reducible assumption)); (case za => (with_reducible assumption))) | (refine' ar_zke (n := 900) ?za ?zb rfl; (case zb => (with_reducible assumption)); (case za => (with_reducible assumption))) | (refine' ar_zhe (n := 900) ?za ?zb rfl; (case zb => (with_reducible assumption)); (case za => (with_reducible assumption))) | (refine ar_z63 (n := 900) ?_ rfl; (with_reducible assumption)) | (refine ar_z63 (n := 1000) ?_ rfl; (with_reducible assumption)) | (refine ar_z64 (n := 900) ?_ rfl; (with_reducible assumption)) | (refine ar_z64 (n := 1000) ?_ rfl; (with_reducible assumption)) | (refine ar_psz ?_; (with_reducible assumption)) | (refine ar_psz4 ?_; (with_reducible assumption)) | exact ar_neg _ | exact ar_neg1 _ | (refine ar_z0 ?_; (with_reducible assumption)) | (refine ar_zlt ?_; (with_reducible assumption)) | (refine' ar_zlt2 ?za ?zb; (case zb => (with_reducible assumption)); (case za => (with_reducible assumption))) | fail "ar"
  k_with "my arith5" => with_reducible first | exact Int.le_refl _ | exact ar_nn _ | (refine ar_z2 ?_; (with_reducible assumption)) | (refine ar_z2A ?_; (with_reducible assumption)) | (refine ar_z1 ?_; (with_reducible assumption)) | (refine ar_zle ?_; (with_reducible assumption)) | (refine' ar_z04 ?za ?zb; (case za => (with_reducible assumption)); (case zb => (with_reducible assumption))) | (refine' ar_zle2 ?za ?zb; (case zb => (with_reducible assumption)); (case za => (with_reducible assumption))) | (refine' ar_zle3 ?za ?zb; (case za => (with_reducible assumption)); (case zb => (with_reducible assumption))) | (refine ar_zle4 ?_; (with_reducible assumption)) | fail "ar"
  k_with "my arith" => first | with_reducible assumption | (with_reducible show @LT.lt Nat _ _ _; k_extra "my arith2") | (with_reducible show @LE.le Nat _ _ _; k_extra "my arith3") | (with_reducible show @LT.lt Int _ _ _; k_extra "my arith4") | (with_reducible show @LE.le Int _ _ _; k_extra "my arith5") | (with_reducible show @Eq Nat _ _; first | exact ar_tn1 _ | exact ar_tn2 _ | exact ar_tnA _ | fail "ar") | (with_reducible show ¬ @Eq Nat _ _; apply ar_tn3; (with_reducible assumption)) | fail "ar"
  k_with "my omega" => first | k_extra "my arith" | lia
  k_with "my nd" => first | exact List.nodup_nil | (refine nd_cons ?_ ?_; k_extra "my ni"; k_extra "my nd") | fail "nd"
  k_with "my ni" => first | exact ni_nil | (refine ni_cons (by k_extra "my ne1") ?_; k_extra "my ni") | fail "ni"
  k_with "execs nil" => (with_reducible refine wpAny_execs_nil ?_)
  k_with "z ite" => (k_dflt (first | (with_reducible refine PySem.W.ite_pos (decide_eq_true ?za) ?_; (case za => k_extra "my arith")) | (with_reducible refine PySem.W.ite_neg (dec_negI ?za) ?_; (case za => k_extra "my arith")) | (with_reducible refine PySem.W.ite_neg (dec_negL ?za) ?_; (case za => k_extra "my arith")) | (with_reducible refine PySem.W.ite_neg (beq_negI ?za) ?_; (case za => with_reducible assumption)) | (with_reducible refine PySem.W.ite_pos (bne_posI ?za) ?_; (case za => with_reducible assumption)) | fail "ite"))
  k_with "z ite" => (k_closed; k_dflt (first | refine PySem.W.ite_pos (by decide) ?_ | refine PySem.W.ite_neg (by decide) ?_))
  trivial
-- END LINES

section
open KBw
noncomputable def b1 (n : Nat) : List UInt8 := [UInt8.ofNat n]
noncomputable def b2 (n : Nat) : List UInt8 := [UInt8.ofNat (n / 256), UInt8.ofNat n]
noncomputable def b4 (n : Nat) : List UInt8 := [UInt8.ofNat (n / 256 / 256 / 256), UInt8.ofNat (n / 256 / 256), UInt8.ofNat (n / 256), UInt8.ofNat n]
theorem b1_len (n : Nat) : (b1 n).length = 1 := rfl
theorem b2_len (n : Nat) : (b2 n).length = 2 := rfl
theorem b4_len (n : Nat) : (b4 n).length = 4 := rfl
noncomputable def be (l : List UInt8) : Nat := l.foldl (fun a b => a * 256 + b.toNat) 0

theorem n_subm (a m : Nat) : a - min a m = a - m := by
  rcases Nat.le_total a m with h | h
  · rw [Nat.min_eq_left h, Nat.sub_self, Nat.sub_eq_zero_of_le h]
  · rw [Nat.min_eq_right h]
theorem n_L1 {a c m : Nat} (h : a ≤ c) : a - min a m ≤ c - m := by rw [n_subm]; exact Nat.sub_le_sub_right h m
theorem n_L3 {a m : Nat} (h0 : 0 < a) (hm : 0 < m) : a - min a m < a := Nat.sub_lt h0 (Nat.lt_min.mpr ⟨h0, hm⟩)
theorem n_L2 {p b d m : Nat} (hm : 0 < m) (h : p + b ≤ d) (hb : 0 < b) : p + 1 + (b - min b m) ≤ d := Nat.le_trans (by rw [Nat.add_assoc, Nat.add_comm 1]; exact Nat.add_le_add_left (n_L3 hb hm) p) h
theorem n_zsub {a b : Nat} (h : b ≤ a) : ((a : Int) - (b : Nat)) = ((a - b : Nat) : Int) := (Int.ofNat_sub h).symm
theorem n_ps4z {ps : Nat} (h : 4 ≤ ps) : ((ps : Int) - 4) = ((ps - 4 : Nat) : Int) := n_zsub h
theorem n_c3 {a q : Nat} (h : 0 < a) : a + q - 1 = (a - 1) + q := Nat.sub_add_comm h
theorem n_c1 {a q : Nat} (hq : q < a) : a + q - 1 = (a - q + q - 1) + q := by rw [Nat.sub_add_cancel (Nat.le_of_lt hq)]; exact n_c3 (Nat.lt_of_le_of_lt (Nat.zero_le q) hq)
theorem n_c2 {a q : Nat} (h : a ≤ q) : a - q + q - 1 = q - 1 := by rw [Nat.sub_eq_zero_of_le h, Nat.zero_add]
theorem n_ceil {a ps : Nat} (h : 4 < ps) : ((a : Int) + ((ps : Int) - 4) - 1) = ((a + (ps - 4) - 1 : Nat) : Int) := by
  rw [n_ps4z (Nat.le_of_lt h)]
  exact n_zsub (a := a + (ps - 4)) (b := 1) (Nat.le_trans (Nat.sub_pos_of_lt h) (Nat.le_add_left _ _))
theorem n_lb1 {q i : Nat} : ((i : Int) * (q : Nat)).toNat = i * q := by rw [← Int.natCast_mul, Int.toNat_natCast]
theorem n_lb2 {q i : Nat} : (((i : Int) + 1) * (q : Nat)).toNat = (i + 1) * q := n_lb1 (i := i + 1)
theorem n_step {q i : Nat} : (i + 1) * q - i * q = q := by rw [Nat.add_mul, Nat.one_mul, Nat.add_sub_cancel_left]
theorem n_sub2 {a b c : Nat} (h : a - b = c + 1) : a - (b + 1) = c := by rw [Nat.sub_add_eq, h]; rfl
theorem n_pos4 {ps : Nat} (h : 64 ≤ ps) : 0 < ps - 4 := Nat.sub_pos_of_lt (Nat.lt_of_lt_of_le (by decide) h)
theorem n_five {a q : Nat} (h : a < 4 * q) : a + q - 1 < 5 * q := Nat.lt_of_le_of_lt (Nat.sub_le _ _) (by rw [Nat.succ_mul 4 q]; exact Nat.add_lt_add_right h q)
theorem n_p1 {i j T : Nat} (h0 : 0 < j) (h : i + j + 1 ≤ T) : i + (j - 1) + 2 ≤ T := by
  cases j with
  | zero => cases h0
  | succ n => exact h
theorem n_p2 {i j x T : Nat} (h0 : 0 < j) (h : i + j + x ≤ T) : i + (j - 1) + (x + 1) ≤ T := by
  cases j with
  | zero => cases h0
  | succ n => exact Nat.le_trans (Nat.le_of_eq (Nat.succ_add_eq_add_succ (i + n) x).symm) h
theorem n_p3 {a b x T : Nat} (h0 : 0 < a) (h : a + b + x ≤ T) : a - 1 + b + (x + 1) ≤ T := by
  rw [Nat.add_comm (a - 1)]
  rw [Nat.add_comm a] at h
  exact n_p2 h0 h
theorem n_46 {a : Nat} : a - (4 + (a - 4)) = 0 := Nat.sub_eq_zero_of_le (Nat.sub_le_iff_le_add'.mp (Nat.le_refl _))
theorem bInts_inj : ∀ {l l' : List UInt8}, l.map (fun c => (c.toNat : Int)) = l'.map (fun c => (c.toNat : Int)) → l = l'
  | [], [], _ => rfl
  | [], _ :: _, h => by simp at h
  | _ :: _, [], h => by simp at h
  | a :: r, b :: r', h => by
    simp only [List.map_cons, List.cons.injEq] at h
    have h1 : a.toNat = b.toNat := by omega
    rw [UInt8.toNat_inj.mp h1, bInts_inj h.2]
theorem of_bInts {b : Array UInt8} {l : List UInt8} (h : bInts b = l.map (fun c => (c.toNat : Int))) : b = l.toArray := by
  have : b.toList = l := bInts_inj h
  rw [← this]
theorem b4_ints (n : Nat) : (KTBy.little 4 (n : Int)).reverse = (b4 n).map (fun c => (c.toNat : Int)) := by
  simp only [KTBy.little, List.reverse_cons, List.reverse_nil, List.nil_append, List.cons_append, b4, List.map_cons, List.map_nil, UInt8.toNat_ofNat']
  have e : (2 : Nat) ^ 8 = 256 := by decide
  simp only [e]
  refine congr (congrArg _ ?_) (congr (congrArg _ ?_) (congr (congrArg _ ?_) (congr (congrArg _ ?_) rfl))) <;> omega
theorem b2_ints (n : Nat) : (KTBy.little 2 (n : Int)).reverse = (b2 n).map (fun c => (c.toNat : Int)) := by
  simp only [KTBy.little, List.reverse_cons, List.reverse_nil, List.nil_append, List.cons_append, b2, List.map_cons, List.map_nil, UInt8.toNat_ofNat']
  have e : (2 : Nat) ^ 8 = 256 := by decide
  simp only [e]
  refine congr (congrArg _ ?_) (congr (congrArg _ ?_) rfl) <;> omega
theorem b1_ints (n : Nat) : (KTBy.little 1 (n : Int)).reverse = (b1 n).map (fun c => (c.toNat : Int)) := by
  simp only [KTBy.little, List.reverse_cons, List.reverse_nil, List.nil_append, b1, List.map_cons, List.map_nil, UInt8.toNat_ofNat']
  have e : (2 : Nat) ^ 8 = 256 := by decide
  simp only [e]
  refine congr (congrArg _ ?_) rfl <;> omega
theorem be_b4 {n : Nat} (h : n < 4294967296) : be (b4 n) = n := by
  have e : (2 : Nat) ^ 8 = 256 := by decide
  simp only [be, b4, List.foldl_cons, List.foldl_nil, UInt8.toNat_ofNat', e]
  omega
theorem be_b2 {n : Nat} (h : n < 65536) : be (b2 n) = n := by
  have e : (2 : Nat) ^ 8 = 256 := by decide
  simp only [be, b2, List.foldl_cons, List.foldl_nil, UInt8.toNat_ofNat', e]
  omega
theorem be_value (l : List UInt8) : KFB.value (bInts l.toArray) = (be l : Int) := (KFB.fold_cast l 0).symm

variable {prog : Program} {w : World} {A : Around} {E : Value → Shared → Prop} {s : Shared} {value slice : PySem.Expr} {b : List UInt8} {t : Tok} {h₀ : Heap} {L : Addr} {m : PySem.Str → Option Value} {news : List (Addr × Obj)} {l u : Value} {lo hi : Option Int} {Q : Value → Shared → Prop}
noncomputable def cutL (b : List UInt8) (lo hi : Option Int) : List UInt8 := (b.drop (lo.elim 0 (clipAt b.length))).take (hi.elim b.length (clipAt b.length) - lo.elim 0 (clipAt b.length))
theorem my_slice (hF : Fr h₀ L s.heap m) (hN : News h₀ L s.heap news) (hl : IsPart l lo) (hu : IsPart u hi) (hz : b.length ≤ 16777216)
    (h : ∀ h' t' k, Fr h₀ L h' m → News h₀ L h' news → Q (.bytes (cutL b lo hi).toArray t') { s with heap := h', toks := k })
    (hs : subscripted slice false (.bytes b.toArray t) (.ref s.heap.objs.size) = operate [.ref s.heap.objs.size, .bytes b.toArray t] (getItem (.bytes b.toArray t) (.ref s.heap.objs.size)) := by with_unfolding_all rfl)
    (ht : ∀ r, letTemporaryGo value (.bytes b.toArray t) r = pure () := by intro _; with_unfolding_all rfl) :
    wpAny (model prog w) A (subscriptTail value slice (.bytes b.toArray t) (.ref s.heap.objs.size)) Q E { s with heap := s.heap.push { cls := .type "slice", data := .fields #[l, u, .none] } } :=
  KBc.slice_K hF hN rfl hl hu (by rw [KBw.ints_length, List.size_toArray]; exact hz) (fun h' t' k F' N' _ => by
    rw [KBc.picked_eq, List.size_toArray]; exact h h' t' k F' N') hs ht
theorem clipAt_pos {n : Nat} {a : Int} (h0 : 0 ≤ a) : clipAt n a = min a.toNat n := by
  have h := clipAt_min (n := n) h0
  split at h <;> omega
theorem cutL_from {a : Int} (h0 : 0 ≤ a) : cutL b (some a) none = b.drop a.toNat := by
  unfold cutL
  simp only [Option.elim]
  rw [clipAt_pos h0, kmk_drop_min]
  rw [List.take_of_length_le]
  rw [List.length_drop]; exact Nat.sub_le_sub_left (Nat.min_le_left _ _) _
theorem cutL_to {a : Int} (h0 : 0 ≤ a) : cutL b none (some a) = b.take a.toNat := by
  unfold cutL
  simp only [Option.elim]
  rw [clipAt_pos h0, Nat.sub_zero, List.drop_zero, kmk_take_min]
theorem min_cut (x y n : Nat) : min (min y n - min x n) (n - x) = min (y - x) (n - x) := by
  rcases Nat.le_total y n with h | h <;> rcases Nat.le_total x n with g | g
  · rw [Nat.min_eq_left h, Nat.min_eq_left g]
  · rw [Nat.sub_eq_zero_of_le g, Nat.min_zero, Nat.min_zero]
  · rw [Nat.min_eq_right h, Nat.min_eq_left g, Nat.min_self, Nat.min_eq_right (Nat.sub_le_sub_right h x)]
  · rw [Nat.sub_eq_zero_of_le g, Nat.min_zero, Nat.min_zero]
theorem cutL_run {a c : Int} (h0 : 0 ≤ a) (h1 : 0 ≤ c) : cutL b (some a) (some c) = (b.drop a.toNat).take (c.toNat - a.toNat) := by
  unfold cutL
  simp only [Option.elim]
  rw [clipAt_pos h0, clipAt_pos h1, kmk_drop_min]
  apply List.take_eq_take_iff.mpr
  rw [List.length_drop]
  exact min_cut _ _ _
theorem my_slice_from {x : Int} {tx : Tok} (h0 : 0 ≤ x) (hF : Fr h₀ L s.heap m) (hN : News h₀ L s.heap news) (hz : b.length ≤ 16777216)
    (h : ∀ h' t' k, Fr h₀ L h' m → News h₀ L h' news → Q (.bytes (b.drop x.toNat).toArray t') { s with heap := h', toks := k })
    (hs : subscripted slice false (.bytes b.toArray t) (.ref s.heap.objs.size) = operate [.ref s.heap.objs.size, .bytes b.toArray t] (getItem (.bytes b.toArray t) (.ref s.heap.objs.size)) := by with_unfolding_all rfl)
    (ht : ∀ r, letTemporaryGo value (.bytes b.toArray t) r = pure () := by intro _; with_unfolding_all rfl) :
    wpAny (model prog w) A (subscriptTail value slice (.bytes b.toArray t) (.ref s.heap.objs.size)) Q E { s with heap := s.heap.push { cls := .type "slice", data := .fields #[.int x tx, .none, .none] } } :=
  my_slice hF hN (.int _ _) .none hz (fun h' t' k F N => by rw [cutL_from h0]; exact h h' t' k F N) hs ht
theorem my_slice_to {x : Int} {tx : Tok} (h0 : 0 ≤ x) (hF : Fr h₀ L s.heap m) (hN : News h₀ L s.heap news) (hz : b.length ≤ 16777216)
    (h : ∀ h' t' k, Fr h₀ L h' m → News h₀ L h' news → Q (.bytes (b.take x.toNat).toArray t') { s with heap := h', toks := k })
    (hs : subscripted slice false (.bytes b.toArray t) (.ref s.heap.objs.size) = operate [.ref s.heap.objs.size, .bytes b.toArray t] (getItem (.bytes b.toArray t) (.ref s.heap.objs.size)) := by with_unfolding_all rfl)
    (ht : ∀ r, letTemporaryGo value (.bytes b.toArray t) r = pure () := by intro _; with_unfolding_all rfl) :
    wpAny (model prog w) A (subscriptTail value slice (.bytes b.toArray t) (.ref s.heap.objs.size)) Q E { s with heap := s.heap.push { cls := .type "slice", data := .fields #[.none, .int x tx, .none] } } :=
  my_slice hF hN .none (.int _ _) hz (fun h' t' k F N => by rw [cutL_to h0]; exact h h' t' k F N) hs ht
theorem my_slice_run {x y : Int} {tx ty : Tok} (h0 : 0 ≤ x) (h1 : 0 ≤ y) (hF : Fr h₀ L s.heap m) (hN : News h₀ L s.heap news) (hz : b.length ≤ 16777216)
    (h : ∀ h' t' k, Fr h₀ L h' m → News h₀ L h' news → Q (.bytes ((b.drop x.toNat).take (y.toNat - x.toNat)).toArray t') { s with heap := h', toks := k })
    (hs : subscripted slice false (.bytes b.toArray t) (.ref s.heap.objs.size) = operate [.ref s.heap.objs.size, .bytes b.toArray t] (getItem (.bytes b.toArray t) (.ref s.heap.objs.size)) := by with_unfolding_all rfl)
    (ht : ∀ r, letTemporaryGo value (.bytes b.toArray t) r = pure () := by intro _; with_unfolding_all rfl) :
    wpAny (model prog w) A (subscriptTail value slice (.bytes b.toArray t) (.ref s.heap.objs.size)) Q E { s with heap := s.heap.push { cls := .type "slice", data := .fields #[.int x tx, .int y ty, .none] } } :=
  my_slice hF hN (.int _ _) (.int _ _) hz (fun h' t' k F N => by rw [cutL_run h0 h1]; exact h h' t' k F N) hs ht
theorem my_to4 {n : Nat} {t u v : Tok} (h1 : n < 4294967296) (h : ∀ t' k', Q (.bytes (b4 n).toArray t') { s with toks := k' }) :
    wpAny (model prog w) A (call (.builtin "int.to_bytes") [.int (n : Int) t, .int 4 u, .str (PySem.Str.ofString "big") v]) Q E s :=
  KTBy.to_big (k := 4) (B := 4294967296) (by decide) (by decide) (by omega) (by omega) (fun b t' k' hb _ => by rw [b4_ints] at hb; rw [of_bInts hb]; exact h t' k')
theorem my_to2 {n : Nat} {t u v : Tok} (h1 : n < 65536) (h : ∀ t' k', Q (.bytes (b2 n).toArray t') { s with toks := k' }) :
    wpAny (model prog w) A (call (.builtin "int.to_bytes") [.int (n : Int) t, .int 2 u, .str (PySem.Str.ofString "big") v]) Q E s :=
  KTBy.to_big (k := 2) (B := 65536) (by decide) (by decide) (by omega) (by omega) (fun b t' k' hb _ => by rw [b2_ints] at hb; rw [of_bInts hb]; exact h t' k')
theorem my_to1 {n : Nat} {t u v : Tok} (h1 : n < 256) (h : ∀ t' k', Q (.bytes (b1 n).toArray t') { s with toks := k' }) :
    wpAny (model prog w) A (call (.builtin "int.to_bytes") [.int (n : Int) t, .int 1 u, .str (PySem.Str.ofString "big") v]) Q E s :=
  KTBy.to_big (k := 1) (B := 256) (by decide) (by decide) (by omega) (by omega) (fun b t' k' hb _ => by rw [b1_ints] at hb; rw [of_bInts hb]; exact h t' k')
theorem my_from {x : Addr} {u : Tok} (N : News h₀ L s.heap news) (hm : (x, KFB.bound) ∈ news) (hl : b.length ≤ 8)
    (h : ∀ t' k, Q (.int (be b : Int) t') { s with toks := k }) : wpAny (model prog w) A (call (.ref x) [.bytes b.toArray t, .str (PySem.Str.ofString "big") u]) Q E s :=
  KFB.call_big N hm rfl (by rw [KBw.ints_length, List.size_toArray]; exact hl) (fun t' k => by rw [be_value]; exact h t' k)
theorem my_len (hfit : b.length ≤ 16777216) (h : ∀ t' k, Q (.int (b.length : Nat) t') { s with toks := k }) : wpAny (model prog w) A (call (.builtin "len") [.bytes b.toArray t]) Q E s :=
  KBw.len_K rfl (by rw [KBw.ints_length, List.size_toArray]; omega) (by rw [KBw.ints_length, List.size_toArray]; exact h _ _)
theorem my_add {c : List UInt8} {u : Tok} (hz : b.length + c.length ≤ 16777216) (h : ∀ t' k, Q (.bytes (b ++ c).toArray t') { s with toks := k }) : wpAny (model prog w) A (binaryOp .Add (.bytes b.toArray t) (.bytes c.toArray u)) Q E s :=
  KBy.add_bytes (by rw [List.size_toArray, List.size_toArray]; exact hz) (fun t' k => by rw [List.append_toArray]; exact h t' k)
theorem my_mod_small {a c : Int} {u : Tok} (h0 : 0 ≤ a) (h1 : a < c) (h : ∀ t' k, Q (.int a t') { s with toks := k }) : wpAny (model prog w) A (binaryOp .Mod (.int a t) (.int c u)) Q E s :=
  mod_int' (by omega) (by rw [Int.fmod_eq_emod_of_nonneg _ (by omega), Int.emod_eq_of_lt h0 h1]; exact h _ _)
theorem my_mod {a c : Int} {u : Tok} (h1 : 0 < c) (h : ∀ t' k, Q (.int (a % c) t') { s with toks := k }) : wpAny (model prog w) A (binaryOp .Mod (.int a t) (.int c u)) Q E s :=
  mod_int' (by omega) (by rw [Int.fmod_eq_emod_of_nonneg _ (by omega)]; exact h _ _)
theorem my_div {a c : Int} {u : Tok} (h1 : 0 < c) (h2 : c < 1073741824) (h : ∀ t' k, Q (.int (a / c) t') { s with toks := k }) : wpAny (model prog w) A (binaryOp .FloorDiv (.int a t) (.int c u)) Q E s :=
  floordiv_int (by omega) (by rw [Int.fdiv_eq_ediv_of_nonneg _ (by omega)]; exact h _ _) (Or.inl (PyProof.noPylong_small (by omega)))
theorem my_pow {a n c : Int} {u : Tok} (hn : 0 ≤ n) (hn2 : n ≤ 100) (ha : a.natAbs < 2 ^ 64) (hc : a ^ n.toNat = c) (h : ∀ t' k, Q (.int c t') { s with toks := k }) : wpAny (model prog w) A (binaryOp .Pow (.int a t) (.int n u)) Q E s :=
  pow_int_small hn (by omega) ha (by rw [hc]; exact h _ _)
theorem no_bytes_int : typeLookup (.type "int") "__bytes__" = pure none := by rw [typeLookup_type, builtinLookup_eq_fast]; kernel_rfl
theorem has_bytes_bytes : typeLookup (.type "bytes") "__bytes__" = pure (some (.builtin "bytes.__bytes__")) := by rw [typeLookup_type, builtinLookup_eq_fast]; kernel_rfl
theorem notStr_int (a : Int) (t : Tok) : isInstance (.int a t) (.type "str") = pure false := by
  show (do isSubtype (← typeOf (.int a t)) (.type "str")) = _
  first | rfl | kernel_rfl | (rw [isSubtype_type]; kernel_rfl)
theorem my_bytes_int_new {c : Int} (h0 : 0 ≤ c) (h1 : c < 100000) (hQ : ∀ t' k, Q (.bytes (List.replicate c.toNat (0 : UInt8)).toArray t') { s with toks := k }) :
    codeAny (model prog w) A (.call (.builtin "bytes.__new__") ⟨[.type "bytes", .int c t], []⟩) (wants Q E) s := by
  refine codeAny_of_tree ?_
  show wpAny _ A.in1 (do checkBuiltinCall "bytes.__new__" ⟨[.type "bytes", .int c t], []⟩; again (.builtin "bytes.__new__" ⟨[.type "bytes", .int c t], []⟩)) _ _ s
  refine wpAny_bind (wpAny_of_eq (F.bm_newCall _) (wpAny_pure ⟨plainId_quiet F.bm_plain _, codeAny_builtin F.bm_entry ?_⟩))
  rw [Around.under_plainId F.bm_plain _]
  have hT : s.TypeIs (.int c t) "int" := typeIs_int s c t
  unfold Builtin.«bytes.__new__»
  refine wpAny_bind (wpAny_of_eq (a := true) rfl ?_)
  refine bm_if_false rfl ?_
  refine wpAny_bind (wpAny_of_eq F.bm_sub ?_)
  refine bm_if_false rfl ?_
  refine wpAny_bind (wpAny_of_eq (F.bm_bind _) ?_)
  refine wpAny_bind (wpAny_of_eq (a := ()) rfl ?_)
  refine wpAny_bind (wpAny_of_eq (a := ()) rfl ?_)
  refine bm_if_false rfl ?_
  refine wpAny_bind (wpAny_specialOf hT no_bytes_int ?_)
  refine wpAny_bind (wpAny_of_eq (a := false) rfl ?_)
  refine bm_if_false rfl ?_
  refine wpAny_bind (wpAny_specialOf hT F.slot_int_index.lookup ?_)
  refine bm_if_false rfl ?_
  refine wpAny_bind (wpAny_of_eq (a := .ok c) rfl ?_)
  refine bm_if_false (by show (!(Builtin.Bytes.fitsIndex c)) = false; unfold Builtin.Bytes.fitsIndex; rw [decide_eq_true (show -(2 ^ 63 : Int) ≤ c by omega), decide_eq_true (show c < 2 ^ 63 by omega)]; rfl) ?_
  refine wpAny_ite_false (decide_eq_false (show ¬ (c < 0) by omega)) ?_
  refine wpAny_ite_false (decide_eq_false (show ¬ (c > 2 ^ 63 - 34) by omega)) ?_
  refine bm_if_false (KBy.tooLong_not (by omega)) ?_
  refine wpAny_bind (wpAny_rule ?_)
  refine wpAny_bind (wpAny_mkBytes ?_ (by rw [Array.size_replicate, sizeLine_eq]; omega))
  exact wpAny_pure (by rw [show (List.replicate c.toNat (0 : UInt8)).toArray = Array.replicate c.toNat 0 from by simp] at hQ; exact hQ _ _)
theorem my_bytes_int {c : Int} (h0 : 0 ≤ c) (h1 : c < 100000) (hQ : ∀ t' k, Q (.bytes (List.replicate c.toNat (0 : UInt8)).toArray t') { s with toks := k }) :
    wpAny (model prog w) A (call (.type "bytes") [.int c t]) Q E s := by
  refine callType_codes (Q₁ := fun obj s₁ => s₁.TypeIs obj "bytes" ∧ Q obj s₁) F.bm_called (F.bm_typeCall _) F.entry_object_init
    (my_bytes_int_new h0 h1 fun t' k => ⟨PySem.W.typeIs_bytes _ _ _, hQ t' k⟩) fun obj s₁ h₁ => ?_
  exact ⟨h₁.1, F.args_object_init_2 obj _, object_init_meets F.bm_called.init.lookup F.bm_called.made (by decide) prog w A.in1 _ s₁ ⟨h₁.1, rfl, h₁.2⟩⟩
theorem my_bytes_bytes_new {c : Array UInt8} (hQ : ∀ t' k, Q (.bytes c t') { s with toks := k }) :
    codeAny (model prog w) A (.call (.builtin "bytes.__new__") ⟨[.type "bytes", .bytes c t], []⟩) (wants Q E) s := by
  refine codeAny_of_tree ?_
  show wpAny _ A.in1 (do checkBuiltinCall "bytes.__new__" ⟨[.type "bytes", .bytes c t], []⟩; again (.builtin "bytes.__new__" ⟨[.type "bytes", .bytes c t], []⟩)) _ _ s
  refine wpAny_bind (wpAny_of_eq (F.bm_newCall _) (wpAny_pure ⟨plainId_quiet F.bm_plain _, codeAny_builtin F.bm_entry ?_⟩))
  rw [Around.under_plainId F.bm_plain _]
  have hT : s.TypeIs (.bytes c t) "bytes" := PySem.W.typeIs_bytes s c t
  unfold Builtin.«bytes.__new__»
  refine wpAny_bind (wpAny_of_eq (a := true) rfl ?_)
  refine bm_if_false rfl ?_
  refine wpAny_bind (wpAny_of_eq F.bm_sub ?_)
  refine bm_if_false rfl ?_
  refine wpAny_bind (wpAny_of_eq (F.bm_bind _) ?_)
  refine wpAny_bind (wpAny_of_eq (a := ()) rfl ?_)
  refine wpAny_bind (wpAny_of_eq (a := ()) rfl ?_)
  refine bm_if_false rfl ?_
  refine wpAny_bind (wpAny_specialOf hT has_bytes_bytes ?_)
  refine wpAny_bind (wpAny_rule ?_)
  refine wpAny_bind (wpAny_typeOf hT ?_)
  refine bm_if_true rfl ?_
  exact wpAny_pure (hQ t s.toks)
theorem my_bytes_bytes {c : Array UInt8} (hQ : ∀ t' k, Q (.bytes c t') { s with toks := k }) : wpAny (model prog w) A (call (.type "bytes") [.bytes c t]) Q E s := by
  refine callType_codes (Q₁ := fun obj s₁ => s₁.TypeIs obj "bytes" ∧ Q obj s₁) F.bm_called (F.bm_typeCall _) F.entry_object_init
    (my_bytes_bytes_new fun t' k => ⟨PySem.W.typeIs_bytes _ _ _, hQ t' k⟩) fun obj s₁ h₁ => ?_
  exact ⟨h₁.1, F.args_object_init_2 obj _, object_init_meets F.bm_called.init.lookup F.bm_called.made (by decide) prog w A.in1 _ s₁ ⟨h₁.1, rfl, h₁.2⟩⟩
theorem my_beq {c d : Array UInt8} {u : Tok} (e : c = d) (h : Q (.bool true) s) : wpAny (model prog w) A (compareOp .Eq (.bytes c t) (.bytes d u)) Q E s := by
  subst e
  exact eq_bytes (by simpa using h)
theorem my_bne {c d : Array UInt8} {u : Tok} (e : c = d) (h : Q (.bool false) s) : wpAny (model prog w) A (compareOp .NotEq (.bytes c t) (.bytes d u)) Q E s := by
  subst e
  exact ne_bytes (by simpa using h)
end
-- LINES
theorem words_02_3 : True := by
  k_with "my same" => first | with_reducible rfl | k_dflt (exact congrArg List.toArray (by assumption)) | k_dflt (exact (congrArg List.toArray (by assumption)).symm)
  k_with "compareOp Eq bytes bytes" => (k_dflt (refine my_beq (by k_extra "my same") ?_))
  k_with "compareOp NotEq bytes bytes" => (k_dflt (refine my_bne (by k_extra "my same") ?_))
  k_with "call type:bytes" => (k_dflt (((with_reducible show wpAny _ _ (call (Value.type "bytes") [Value.int _ _]) _ _ _); (refine my_bytes_int (by k_extra "my size") (by k_extra "my size") ?_); intro t' k')))
  k_with "call type:bytes" => (k_dflt (((with_reducible show wpAny _ _ (call (Value.type "bytes") [Value.bytes _ _]) _ _ _); (refine my_bytes_bytes ?_); intro t' k')))
  k_with "binaryOp Pow int int" => (k_dflt (((first | refine my_pow (c := 4294967296) (by decide) (by decide) (by decide) (by decide) ?_ | refine my_pow (c := 65536) (by decide) (by decide) (by decide) (by decide) ?_ | refine my_pow (c := 256) (by decide) (by decide) (by decide) (by decide) ?_ | refine my_pow (c := 1000000000000000000) (by decide) (by decide) (by decide) (by decide) ?_); intro t' k')))
  k_with "binaryOp Mod int int" => (k_dflt (((first | refine my_mod_small (by omega) (by omega) ?_ | refine my_mod (by omega) ?_); intro t' k')))
  k_with "binaryOp FloorDiv int int" => (k_dflt (((refine my_div (by omega) (by omega) ?_); intro t' k')))
  k_with "my size" => first | omega | (simp only [b1_len, b2_len, b4_len, List.length_append, List.length_cons, List.length_nil, List.length_take, List.length_drop, List.length_replicate]; omega)
  k_with "z subscriptTail" => (k_dflt (((with_reducible show wpAny _ _ (subscriptTail _ (Expr.Slice _ _ none _) (Value.bytes (List.toArray _) _) (Value.ref _)) _ _ _); (with_reducible rename Fr _ _ _ _ => F'); (with_reducible rename News _ _ _ _ => N'); (first | ((with_reducible show wpAny _ _ (subscriptTail _ (Expr.Slice (some _) (some _) none _) _ _) _ _ _); refine my_slice_run (s := ⟨_, _, _, _, _⟩) (by omega) (by omega) F' N' (by k_extra "my size") ?_) | ((with_reducible show wpAny _ _ (subscriptTail _ (Expr.Slice (some _) none none _) _ _) _ _ _); refine my_slice_from (s := ⟨_, _, _, _, _⟩) (by omega) F' N' (by k_extra "my size") ?_) | ((with_reducible show wpAny _ _ (subscriptTail _ (Expr.Slice none (some _) none _) _ _) _ _ _); refine my_slice_to (s := ⟨_, _, _, _, _⟩) (by omega) F' N' (by k_extra "my size") ?_)); intro h' t' k' F' N'; (try simp only [Int.toNat_natCast, Int.reduceToNat, List.length_nil, List.length_cons, Nat.zero_add, Nat.sub_zero, List.drop_zero, Int.natCast_zero, Int.toNat_zero]); (try dsimp only); (try k_sweep))))
  k_with "call builtin:int.to_bytes" => (k_dflt (((first | refine my_to4 (by k_extra "my size") ?_ | refine my_to2 (by k_extra "my size") ?_ | refine my_to1 (by k_extra "my size") ?_); intro t' k')))
  k_with "z call ref" => (k_dflt ((kfb_any; (with_reducible show wpAny _ _ (call (Value.ref _) [Value.bytes (List.toArray _) _, Value.str _ _]) _ _ _); (refine my_from (by k_asm) (by k_mem) (by k_extra "my size") ?_); intro t' k')))
  k_with "call builtin:len" => (k_dflt (((with_reducible show wpAny _ _ (call (Value.builtin "len") [Value.bytes (List.toArray _) _]) _ _ _); (refine my_len (by k_extra "my size") ?_); intro t' k')))
  k_with "binaryOp Add bytes bytes" => (k_dflt (((with_reducible show wpAny _ _ (binaryOp Operator.Add (Value.bytes (List.toArray _) _) (Value.bytes (List.toArray _) _)) _ _ _); (refine my_add (by k_extra "my size") ?_); intro t' k')))
  k_with "binaryOp Add bytes bytes" => ((fail_if_success (with_reducible show wpAny _ _ (binaryOp Operator.Add (Value.bytes (List.toArray _) _) _) _ _ _)); k_dflt (((show wpAny _ _ (binaryOp Operator.Add (Value.bytes (List.toArray []) _) (Value.bytes (List.toArray _) _)) _ _ _); (refine my_add (by k_extra "my size") ?_); intro t' k'; (try rw [List.nil_append]))))
  trivial
-- END LINES

-- LINES
theorem words_03_4 : True := by
  k_with "my size" => ((simp only [List.length_take, List.length_drop]); exact Nat.le_trans (Nat.min_le_left _ _) (by assumption))
  trivial
-- END LINES
section
variable {w : World} {A : Around} {base g : Heap} {outer : List Env} {s : Shared} {mn : List (Addr × Obj)}
  {p : Program} {loose : List Str} {mean : ExcName → Option Value} {mg mb : Str → Option Value} {R : Result → Shared → Prop}

theorem chain_length_spec {ps sz : Int} {t1 t2 : Tok}
  (P : Pre p loose mean mg mb w A base outer g s []) (hd : Room A 0) (hps : 4 < ps) (hps2 : ps < 1000) (hsz : 0 ≤ sz) (hsz2 : sz < 100000)
  (k : ∀ t h' tk, Post g h' [] → R (.ok (.ret (.int ((sz + (ps-4) - 1) / (ps-4)) t))) { s with heap := h', toks := tk }) :
  codeAny (model PySem.Challenge.rw_nt0105_01.row.prog w) A (.call (.ref 187) ⟨[.int ps t1, .int sz t2], []⟩) R s := by
  k_extra "my enter"
  k_extra "my steps"
  exact k _ _ _ (by k_extra "my post")

theorem leaves_room_spec {ps : Int} {t1 : Tok}
  (P : Pre p loose mean mg mb w A base outer g s []) (hd : Room A 0) 
  (k : ∀ t h' tk, Post g h' [] → R (.ok (.ret (.int ((ps-8) / 4) t))) { s with heap := h', toks := tk }) :
  codeAny (model PySem.Challenge.rw_nt0105_01.row.prog w) A (.call (.ref 86) ⟨[.int ps t1], []⟩) R s := by
  k_extra "my enter"
  k_extra "my steps"
  exact k _ _ _ (by k_extra "my post")

theorem is_page_size_spec {ps : Int} {t1 : Tok}
  (P : Pre p loose mean mg mb w A base outer g s []) (hd : Room A 0) (h1 : 64 ≤ ps) (h2 : ps ≤ 128)
  (k : ∀ h' tk, Post g h' [] → R (.ok (.ret (.bool true))) { s with heap := h', toks := tk }) :
  codeAny (model PySem.Challenge.rw_nt0105_01.row.prog w) A (.call (.ref 248) ⟨[.int ps t1], []⟩) R s := by
  k_extra "my enter"
  k_extra "my steps"
  have e : decide (ps ≤ 32768) = true := decide_eq_true (by omega)
  rw [e]
  exact k _ _ (by k_extra "my post")

theorem four_spec {n : Nat} {t1 : Tok}
  (P : Pre p loose mean mg mb w A base outer g s []) (hd : Room A 0) (h2 : n < 4294967296)
  (k : ∀ t h' tk, Post g h' [] → R (.ok (.ret (.bytes (b4 n).toArray t))) { s with heap := h', toks := tk }) :
  codeAny (model PySem.Challenge.rw_nt0105_01.row.prog w) A (.call (.ref 79) ⟨[.int (n : Int) t1], []⟩) R s := by
  k_extra "my enter"
  k_extra "my steps"
  exact k _ _ _ (by k_extra "my post")

theorem number_at_spec {l : List UInt8} {a : Int} {t0 t1 : Tok}
  (P : Pre p loose mean mg mb w A base outer g s []) (hd : Room A 0) (h0 : 0 ≤ a) (h1 : a + 4 ≤ l.length) (hb : l.length < 1000)
  (k : ∀ t h' tk, Post g h' [] → R (.ok (.ret (.int (be ((l.drop a.toNat).take 4) : Int) t))) { s with heap := h', toks := tk }) :
  codeAny (model PySem.Challenge.rw_nt0105_01.row.prog w) A (.call (.ref 72) ⟨[.bytes l.toArray t0, .int a t1], []⟩) R s := by
  k_extra "my enter"
  have e : (a + 4).toNat - a.toNat = 4 := by rw [Int.toNat_add h0 (by decide)]; exact Nat.add_sub_cancel_left ..
  have e8 : (a + 4).toNat - a.toNat ≤ 8 := by rw [e]; decide
  k_extra "my steps"
  rw [e]
  exact k _ _ _ (by k_extra "my post")

theorem get_number_spec {l : List UInt8} {a n : Int} {t0 t1 t2 : Tok}
  (P : Pre p loose mean mg mb w A base outer g s []) (hd : Room A 0) (h0 : 0 ≤ a) (hn : 0 ≤ n) (hn8 : n ≤ 8) (h1 : a + n ≤ l.length) (hb : l.length < 1000)
  (k : ∀ t h' tk, Post g h' [] → R (.ok (.ret (.int (be ((l.drop a.toNat).take n.toNat) : Int) t))) { s with heap := h', toks := tk }) :
  codeAny (model PySem.Challenge.rw_nt0105_01.row.prog w) A (.call (.ref 241) ⟨[.bytes l.toArray t0, .int a t1, .int n t2], []⟩) R s := by
  k_extra "my enter"
  have e : (a + n).toNat - a.toNat = n.toNat := by rw [Int.toNat_add h0 hn, Nat.add_sub_cancel_left]
  have e8 : (a + n).toNat - a.toNat ≤ 8 := by rw [e]; omega
  k_extra "my steps"
  rw [e]
  exact k _ _ _ (by k_extra "my post")

theorem put4_spec {n : Nat} {t1 t2 : Tok}
  (P : Pre p loose mean mg mb w A base outer g s []) (hd : Room A 0) (h2 : n < 4294967296)
  (k : ∀ t h' tk, Post g h' [] → R (.ok (.ret (.bytes (b4 n).toArray t))) { s with heap := h', toks := tk }) :
  codeAny (model PySem.Challenge.rw_nt0105_01.row.prog w) A (.call (.ref 234) ⟨[.int (n : Int) t1, .int 4 t2], []⟩) R s := by
  k_extra "my enter"
  k_extra "my steps"
  exact k _ _ _ (by k_extra "my post")

theorem put2_spec {n : Nat} {t1 t2 : Tok}
  (P : Pre p loose mean mg mb w A base outer g s []) (hd : Room A 0) (h2 : n < 65536)
  (k : ∀ t h' tk, Post g h' [] → R (.ok (.ret (.bytes (b2 n).toArray t))) { s with heap := h', toks := tk }) :
  codeAny (model PySem.Challenge.rw_nt0105_01.row.prog w) A (.call (.ref 234) ⟨[.int (n : Int) t1, .int 2 t2], []⟩) R s := by
  k_extra "my enter"
  k_extra "my steps"
  exact k _ _ _ (by k_extra "my post")

theorem put1_spec {n : Nat} {t1 t2 : Tok}
  (P : Pre p loose mean mg mb w A base outer g s []) (hd : Room A 0) (h2 : n < 256)
  (k : ∀ t h' tk, Post g h' [] → R (.ok (.ret (.bytes (b1 n).toArray t))) { s with heap := h', toks := tk }) :
  codeAny (model PySem.Challenge.rw_nt0105_01.row.prog w) A (.call (.ref 234) ⟨[.int (n : Int) t1, .int 1 t2], []⟩) R s := by
  k_extra "my enter"
  k_extra "my steps"
  exact k _ _ _ (by k_extra "my post")
end

section
inductive BytesAre : List Value → List (List UInt8) → Prop
  | nil : BytesAre [] []
  | cons (l : List UInt8) (t : Tok) {vs P} : BytesAre vs P → BytesAre (.bytes l.toArray t :: vs) (l :: P)
theorem BytesAre.length {vs : List Value} {P : List (List UInt8)} (h : BytesAre vs P) : vs.length = P.length := by
  induction h with
  | nil => rfl
  | cons l t _ ih => rw [List.length_cons, List.length_cons, ih]
theorem BytesAre.get {vs : List Value} {P : List (List UInt8)} (h : BytesAre vs P) : ∀ {i : Nat} {l : List UInt8}, P[i]? = some l → ∃ t, vs[i]? = some (.bytes l.toArray t) := by
  induction h with
  | nil => intro i l e; simp at e
  | cons l t _ ih =>
    intro i l' e
    cases i with
    | zero => simp at e; subst e; exact ⟨t, rfl⟩
    | succ i => simp at e ⊢; exact ih e
theorem BytesAre.set {vs : List Value} {P : List (List UInt8)} (h : BytesAre vs P) : ∀ (i : Nat) (l : List UInt8) (t : Tok), BytesAre (vs.set i (.bytes l.toArray t)) (P.set i l) := by
  induction h with
  | nil => intro i l t; exact .nil
  | cons l t r ih =>
    intro i l' t'
    cases i with
    | zero => exact .cons _ _ r
    | succ i => exact .cons _ _ (ih i l' t')
theorem BytesAre.snoc {vs : List Value} {P : List (List UInt8)} (h : BytesAre vs P) (l : List UInt8) (t : Tok) : BytesAre (vs ++ [.bytes l.toArray t]) (P ++ [l]) := by
  induction h with
  | nil => exact .cons _ _ .nil
  | cons l' t' _ ih => exact .cons _ _ ih
theorem ints_snoc {vs : List Value} {ns : List Int} (h : IntsAre vs ns) (k : Int) (t : Tok) : IntsAre (vs ++ [.int k t]) (ns ++ [k]) := by
  induction h with
  | nil => exact .cons _ _ .nil
  | cons n t' _ ih => exact .cons _ _ ih
theorem ints_get {vs : List Value} {P : List Int} (h : IntsAre vs P) : ∀ {i : Nat} {l : Int}, P[i]? = some l → ∃ t, vs[i]? = some (.int l t) := by
  induction h with
  | nil => intro i l e; simp at e
  | cons l t _ ih =>
    intro i l' e
    cases i with
    | zero => simp at e; subst e; exact ⟨t, rfl⟩
    | succ i => simp at e ⊢; exact ih e

variable {prog : Program} {w : World} {A : Around} {E : Value → Shared → Prop} {s : Shared} {value slice : PySem.Expr} {h₀ : Heap} {L l D x : Addr} {m : PySem.Str → Option Value} {news news' : List (Addr × Obj)} {Q : Value → Shared → Prop} {vs : List Value} {n : Nat} {k : Int} {u : Tok} {v : Value}

theorem isl_news {h : Heap} (N : News h₀ L h news) (hm : (l, listOf vs.toArray n) ∈ news) : h.IsList l vs.toArray := PySem.IsL.isList (n := n) (N _ hm).1
theorem isl_got {g : Heap} (h : g.get? l = some (listOf vs.toArray n)) : g.IsList l vs.toArray := PySem.IsL.isList (n := n) h
theorem isl_base {g h : Heap} (k : ∀ b o, g.get? b = some o → h.get? b = some o) (hl : g.IsList l vs.toArray) : h.IsList l vs.toArray := let ⟨o, ho, r⟩ := hl; ⟨o, k _ _ ho, r⟩
theorem inst_base {g h : Heap} {C dx : Addr} {od : Obj} (k : ∀ b o, g.get? b = some o → h.get? b = some o) (h1 : g.get? x = some (instObj C dx)) (h2 : g.get? dx = some od) : InstAt h x (instObj C dx) C (some od) := ⟨k _ _ h1, rfl, rfl, k _ _ h2⟩

theorem inst_mix {g h : Heap} {C dx L : Addr} {od : Obj} {news : List (Addr × Obj)} (k : ∀ b o, g.get? b = some o → h.get? b = some o) (N : News g L h news) (h1 : g.get? x = some (instObj C dx)) (h2 : (dx, od) ∈ news) : InstAt h x (instObj C dx) C (some od) := ⟨k _ _ h1, rfl, rfl, (N _ h2).1⟩
theorem my_lenL (hl : s.heap.IsList l vs.toArray) (hz : vs.length < 1000000) (h : ∀ t' k, Q (.int (vs.length : Nat) t') { s with toks := k }) : wpAny (model prog w) A (call (.builtin "len") [.ref l]) Q E s :=
  len_list hl (by rw [List.size_toArray]; omega) (by rw [List.size_toArray]; exact h _ _)
theorem my_bitem {P : List (List UInt8)} {b : List UInt8} (hl : s.heap.IsList l vs.toArray) (hP : BytesAre vs P) (h0 : 0 ≤ k) (hfit : k < 1000000) (hx : P[k.toNat]? = some b) (h : ∀ t, Q (.bytes b.toArray t) s)
    (hs : subscripted slice false (.ref l) (.int k u) = operate [.ref l, .int k u] (getItem (.ref l) (.int k u)) := by with_unfolding_all rfl) (hg : ∀ r, letTemporaryGo value (.ref l) r = pure () := by intro _; with_unfolding_all rfl) :
    wpAny (model prog w) A (subscriptTail value slice (.ref l) (.int k u)) Q E s := by
  obtain ⟨t, ht⟩ := hP.get hx
  exact item_listL hl h0 (by omega) ht (h t) hs hg
theorem my_iitem {P : List Int} {b : Int} (hl : s.heap.IsList l vs.toArray) (hP : IntsAre vs P) (h0 : 0 ≤ k) (hfit : k < 1000000) (hx : P[k.toNat]? = some b) (h : ∀ t, Q (.int b t) s)
    (hs : subscripted slice false (.ref l) (.int k u) = operate [.ref l, .int k u] (getItem (.ref l) (.int k u)) := by with_unfolding_all rfl) (hg : ∀ r, letTemporaryGo value (.ref l) r = pure () := by intro _; with_unfolding_all rfl) :
    wpAny (model prog w) A (subscriptTail value slice (.ref l) (.int k u)) Q E s := by
  obtain ⟨t, ht⟩ := ints_get hP hx
  exact item_listL hl h0 (by omega) ht (h t) hs hg
theorem my_setL {Q : Unit → Shared → Prop} (F : Fr h₀ L s.heap m) (N : News h₀ L s.heap news) (U : Upd D (listOf vs.toArray n) (listOf (vs.set k.toNat v).toArray n) news news') (h0 : 0 ≤ k) (h1 : k < vs.length) (hfit : k < 1000000)
    (h : ∀ h', Fr h₀ L h' m → News h₀ L h' news' → Q () { s with heap := h' }) : wpAny (model prog w) A (setItem (.ref D) (.int k u) v) Q E s := by
  obtain ⟨pre, post, rfl, rfl, a, b⟩ := U.split
  have z := N (D, listOf vs.toArray n) (List.mem_append.mpr (.inr (.head _)))
  refine ki_setAt z.1 h0 (by omega) (by rw [List.size_toArray]; omega) (h _ (F.change (Heap.SameBut.update ..) z.2.1 z.2.2) (ki_turn _ N a b ?_ ?_))
  · show vs.toArray.setIfInBounds k.toNat v = (vs.set k.toNat v).toArray
    apply Array.toList_inj.mp
    simp
  · simp
theorem my_appendL (F : Fr h₀ L s.heap m) (N : News h₀ L s.heap news) (U : Upd D (listOf vs.toArray n) (listOf (vs ++ [v]).toArray (n + 1)) news news') (hz : vs.length < 1000000)
    (h : ∀ h', Fr h₀ L h' m → News h₀ L h' news' → Q .none { s with heap := h' }) : wpAny (model prog w) A (call (.builtin "list.append") [.ref D, v]) Q E s :=
  append_K F N (by rw [List.push_toArray]; exact U) h (by rw [List.size_toArray, sizeLine_eq]; omega)
theorem my_eqNil {b : Addr} (hl : s.heap.IsList l vs.toArray) (hb : s.heap.IsList b #[]) (hu : A.units < cLine) (h : Q (.bool (decide (vs = []))) s) : wpAny (model prog w) A (compareOp .Eq (.ref l) (.ref b)) Q E s := by
  refine cmp_ofEq ?_
  cases vs with
  | nil => exact PySem.SeqAt.RcAt.lists hl hb rfl hu (e := fun _ => true) (fun j h1 => absurd h1 (by simp)) prog w E Q h
  | cons x r => exact PySem.SeqAt.RcAt.lists_lengths hl hb (by simp) hu prog w E Q (by simpa using h)
theorem my_neNil {b : Addr} (hl : s.heap.IsList l vs.toArray) (hb : s.heap.IsList b #[]) (hu : A.units < cLine) (h : Q (.bool (!decide (vs = []))) s) : wpAny (model prog w) A (compareOp .NotEq (.ref l) (.ref b)) Q E s := by
  refine cmp_ofNotEq ?_
  cases vs with
  | nil => exact PySem.SeqAt.RcNeAt.lists hl hb rfl hu (e := fun _ => true) (fun j h1 => absurd h1 (by simp)) prog w E Q h
  | cons x r => exact PySem.SeqAt.RcNeAt.lists_lengths hl hb (by simp) hu prog w E Q (by simpa using h)
end
section
variable {w : World} {prog : Program} {A : Around} {env : Env} {s : Shared} {g : Heap} {L a : Addr} {m : Str → Option Value}
structure Attr (prog : Program) (w : World) (g : Heap) (a : Addr) (x : Str) (v : Value) : Prop where
  go : ∀ {A : Around} {E : Value → Shared → Prop} {s : Shared} {Q : Value → Shared → Prop}, g.StaysIn s.heap → Q v { s with toks := s.toks + 1 } → wpAny (model prog w) A (getAttr (.ref a) x true) Q E s
structure Meth (prog : Program) (w : World) (g : Heap) (a : Addr) (x : Str) (f : Addr) : Prop where
  keep : keepIn (K w.params) (.ref f) = true
  go : ∀ {A : Around} {E : Value → Shared → Prop} {s : Shared} {pl : Sem Bool} {Q : Value × List Value → Shared → Prop}, g.StaysIn s.heap → Q (.ref f, [.ref a]) s → wpAny (model prog w) A (getMethod (.ref a) x pl) Q E s
theorem ev_attr {e : PySem.Expr} {x : Str} {pos : Pos} {v : Value} {k k1 : Nat} (h1 : Ev (model prog w) A env s e k (.ref a) k1) (F : Fr g L s.heap m) (hA : Attr prog w g a x v)
    (he : eval (.Attribute e x pos) env = (do
      let o ← eval e env
      standAt pos.atName
      let r ← holding [o] (getAttr o x true)
      letTemporaryGo e o r
      pure r)) : Ev (model prog w) A env s (.Attribute e x pos) k v (k1 + 1) := ⟨fun h =>
  Attribute_any_ (s := { s with toks := k }) (h1.go (hA.go (s := { s with toks := k1 }) F.keep h)) he⟩
theorem callM {recv : PySem.Expr} {x : Str} {apos pos : Pos} {args : List PySem.Expr} {pl : Sem Bool} {f : Addr} {k1 k2 : Nat} {vs : List Value} {Q E : Value → Shared → Prop}
    (hr : Ev (model prog w) A env s recv s.toks (.ref a) k1) (F : Fr g L s.heap m) (X : (K w.params).In g) (hm : Meth prog w g a x f) (ha : EvL (model prog w) A env s args k1 vs k2)
    (he : eval (.Call (.Attribute recv x apos) args [] pos) env = (do
      let ov ← eval recv env
      standAt apos.atName
      let (f, first) ← holding [ov] (getMethod ov x pl)
      callWith pos f first (backTo pos (starEach args env)) []))
    (h : wpAny (model prog w) A (call (.ref f) (.ref a :: vs)) Q E { s with toks := k2 }) : wpAny (model prog w) A (eval (.Call (.Attribute recv x apos) args [] pos) env) Q E s := by
  refine MethodCall_ (hr.go (hm.go (s := { s with toks := k1 }) F.keep ?_)) he
  have Xs := X.keeps F.keep
  match args, ha with
  | [], ha =>
    refine callWith_K0 (s := { s with toks := k1 }) Xs hm.keep ?_
    obtain ⟨rfl, rfl⟩ := ha.nil rfl
    exact h
  | e :: r, ha => exact callWith_K (s := { s with toks := k1 }) X hm.keep (ha.run pos ⟨Xs, h⟩) (ha.head e r rfl) (ha.tail pos e r rfl)
end
section
variable {w : World} {prog : Program} {A : Around} {env : Env} {s : Shared} {g : Heap} {L a C d f : Addr} {m : Str → Option Value} {es : List DictEntry} {n : Nat} {x : Str} {v : Value} {news : List (Addr × Obj)}
noncomputable def ownA (P : Params) (C : Addr) (x : Str) : Bool := plainGet (K P) C x && hasDictIn (K P) C && (match findIn (K P) (.ref C) x with | some attr => noGet (K P) attr | none => false)
noncomputable def clsM (P : Params) (C : Addr) (x : Str) (f : Addr) : Bool := plainGet (K P) C x && isFn (K P) (.ref f) && keepIn (K P) (.ref f)
theorem meth_use {pl : Sem Bool} {E : Value → Shared → Prop} {Q : Value × List Value → Shared → Prop} (F : Fr g L s.heap m) (hm : Meth prog w g a x f) (h : Q (.ref f, [.ref a]) s) : wpAny (model prog w) A (getMethod (.ref a) x pl) Q E s := hm.go F.keep h
theorem attr_use {E Q : Value → Shared → Prop} (F : Fr g L s.heap m) (hA : Attr prog w g a x v) (h : Q v { s with toks := s.toks + 1 }) : wpAny (model prog w) A (getAttr (.ref a) x true) Q E s := hA.go F.keep h
theorem own_get {s : Shared} {E Q} {A : Around} {ox} (X : (K w.params).In s.heap) (I : InstAt s.heap a ox C (some (dictOf es n))) (hc : ownA w.params C x = true) (hl : getL x es = some (some v)) (hv : handedIn v = true) (h : Q v { s with toks := s.toks + 1 }) :
    wpAny (model prog w) A (getAttr (.ref a) x true) Q E s := by
  unfold ownA at hc
  rw [Bool.and_eq_true, Bool.and_eq_true] at hc
  obtain ⟨⟨h1, h2⟩, h3⟩ := hc
  split at h3
  · rename_i attr ha
    exact get_value X I (plainGet_of h1).1 (findObj_own h2 ha h3 hl) hv h
  · cases h3
theorem attr_of (X : (K w.params).In g) (h1 : g.get? a = some (instObj C d)) (h2 : g.get? d = some (dictOf es n)) (hc : ownA w.params C x = true) (hl : getL x es = some (some v)) (hv : handedIn v = true) : Attr prog w g a x v :=
  ⟨fun st h => own_get (X.keeps st) (inst_base st h1 h2) hc hl hv h⟩
theorem meth_of (X : (K w.params).In g) (h1 : g.get? a = some (instObj C d)) (h2 : g.get? d = some (dictOf es n)) (hf : findIn (K w.params) (.ref C) x = some (some (.ref f))) (hc : clsM w.params C x f = true) (hl : getL x es = some none) : Meth prog w g a x f := by
  unfold clsM at hc
  rw [Bool.and_eq_true, Bool.and_eq_true] at hc
  obtain ⟨⟨c1, c2⟩, c3⟩ := hc
  exact ⟨c3, fun st h => method_fn (X.keeps st) (inst_base st h1 h2) (plainGet_of c1).1 (plainGet_of c1).2 hf (beq_iff_eq.mp c2) (by show (lookIn x (dictOf es n)).map _ = _; rw [lookIn_dict, hl]; rfl) h⟩
theorem ev_attrN {e : PySem.Expr} {pos : Pos} {k k1 : Nat} (h1 : Ev (model prog w) A env s e k (.ref a) k1) (F : Fr g L s.heap m) (N : News g L s.heap news) (X : (K w.params).In g) (m1 : (a, instObj C d) ∈ news) (m2 : (d, dictOf es n) ∈ news)
    (hc : ownA w.params C x = true) (hl : getL x es = some (some v)) (hv : handedIn v = true)
    (he : eval (.Attribute e x pos) env = (do
      let o ← eval e env
      standAt pos.atName
      let r ← holding [o] (getAttr o x true)
      letTemporaryGo e o r
      pure r)) : Ev (model prog w) A env s (.Attribute e x pos) k v (k1 + 1) := ⟨fun h =>
  Attribute_any_ (s := { s with toks := k }) (h1.go (own_get (s := { s with toks := k1 }) (X.keeps F.keep) (InstAt.of_news N m1 m2) hc hl hv h)) he⟩
end
-- LINES
local macro_rules | `(tactic| k_inst) => `(tactic| k_extra "my k_inst")
theorem words_04_5 : True := by
  k_with "my isl" => first | (with_reducible assumption) | exact isl_news (by k_asm) (by k_mem) | exact isl_base (Fr.keep (by k_asm)) (by assumption)
  k_with "my k_inst" => first | exact inst_base (Fr.keep (by k_asm)) (by assumption) (by assumption) | (refine' inst_mix ?zk ?zN ?zh1 ?zh2; (case zN => k_asm); (case zk => exact Fr.keep (by k_asm)); (case zh1 => assumption); (case zh2 => k_mem))
  k_with "my len" => first | omega | (simp only [List.length_append, List.length_cons, List.length_nil, List.length_take, List.length_drop, List.length_replicate, List.length_set, List.length_map, List.length_range]; omega) | ((try simp only [BytesAre.length (by assumption)]); (try simp only [IntsAre.length (by assumption)]); (try simp only [List.length_append, List.length_cons, List.length_nil, List.length_take, List.length_drop, List.length_replicate, List.length_set, List.length_map, List.length_range]); omega)
  k_with "call builtin:len" => (k_dflt (((with_reducible show wpAny _ _ (call (Value.builtin "len") [Value.ref _]) _ _ _); (refine my_lenL (by k_extra "my isl") (by k_extra "my len") ?_); intro t' k')))
  k_with "call builtin:list.append" => ((with_reducible show wpAny _ _ (call (Value.builtin _) [Value.ref _, _]) _ _ _); k_dflt (refine' my_appendL ?zk1 ?zk2 ?zk3 ?zz ?_; (case zk1 => k_asm); (case zk2 => k_asm); (case zk3 => k_upd); (case zz => k_extra "my len"); k_whole); intro h' F' N'; (try k_sweep))
  k_with "setItem ref int" => ((with_reducible show wpAny _ _ (setItem (Value.ref _) (Value.int _ _) _) _ _ _); k_dflt (refine' my_setL ?zk1 ?zk2 ?zk3 ?zk4 ?zk5 ?zk6 ?_; (case zk1 => k_asm); (case zk2 => k_asm); (case zk3 => k_upd); (case zk4 => omega); (case zk5 => k_extra "my len"); (case zk6 => omega); k_whole); intro h' F' N'; (try k_sweep))
  k_with "subscriptTail Attribute" => (k_dflt ((refine PySem.W.kba_turn (value' := PySem.Expr.Name (PySem.Str.ofString "_") ⟨0, 0, 0, 0⟩) (fun _ => rfl) ?_); (try k_extra "z subscriptTail")))
  k_with "z subscriptTail" => ((with_reducible show wpAny _ _ (subscriptTail _ _ (Value.ref _) (Value.int _ _)) _ _ _); k_dflt ((first | refine' my_bitem ?zk1 ?zk2 ?zk3 ?zk4 ?zk5 ?_ | refine' my_iitem ?zk1 ?zk2 ?zk3 ?zk4 ?zk5 ?_); (case zk1 => k_extra "my isl"); (case zk2 => with_reducible assumption); (case zk3 => omega); (case zk4 => omega); (case zk5 => assumption); k_whole; (intro t')))
  k_with "my units" => first | exact Room.unitsD' (by assumption) | exact Room.unitsD (by assumption)
  k_with "compareOp Eq ref ref" => (k_dflt (refine my_eqNil (by k_extra "my isl") (by k_extra "my isl") (by k_extra "my units") ?_))
  k_with "compareOp NotEq ref ref" => (k_dflt (refine my_neNil (by k_extra "my isl") (by k_extra "my isl") (by k_extra "my units") ?_))
  k_with "my evA" => first | (apply ev_attr; (k_extra "my ev"); (with_reducible assumption); (k_extra "my attr"); (exact rfl)) | (apply ev_attrN; (k_extra "my ev"); (with_reducible assumption); (with_reducible assumption); (with_reducible assumption); k_mem; k_mem; kernel_rfl; (exact Eq.refl (some (some _))); (exact rfl); (exact rfl)) | fail "evA"
  k_with "getMethod ref" => (k_dflt ((with_reducible refine' meth_use ?zpa ?zpb ?_); (case zpa => with_reducible assumption); (case zpb => k_extra "my meth"); k_whole))
  k_with "z getAttr ref" => (k_dflt ((with_reducible refine' attr_use ?zpa ?zpb ?_); (case zpa => with_reducible assumption); (case zpb => k_extra "my attr"); k_whole))
  k_with "z eval Call Attribute" => (k_dflt ((with_reducible refine' callM ?zpa ?zpb ?zpc ?zpd ?zpe ?zpf ?_); (case zpa => k_extra "my ev"); (case zpb => with_reducible assumption); (case zpc => with_reducible assumption); (case zpd => k_extra "my meth"); (case zpe => k_extra "my evl"); (case zpf => exact rfl); k_whole))
  trivial
-- END LINES

section
noncomputable def IsStore (g : Heap) (st pg : Addr) (ps : Int) : Prop := ∃ std sp a1 a2 a3 k1 k2 k3 t n, g.get? st = some (instObj 386 std) ∧
  g.get? std = some (dictOf [⟨a1, .str (Str.ofString "page_size") k1, .int ps t⟩, ⟨a2, .str (Str.ofString "pages") k2, .ref pg⟩, ⟨a3, .str (Str.ofString "spare") k3, .ref sp⟩] n)
theorem IsStore.keeps {g h : Heap} {st pg : Addr} {ps : Int} (S : IsStore g st pg ps) (k : g.StaysIn h) : IsStore h st pg ps := by
  obtain ⟨std, sp, a1, a2, a3, k1, k2, k3, t, n, h1, h2⟩ := S
  exact ⟨std, sp, a1, a2, a3, k1, k2, k3, t, n, k _ _ h1, k _ _ h2⟩
end
section
variable {w : World} {prog : Program} {g : Heap} {f : Addr} {x : Str} {st pg fl : Addr} {ps : Int}
theorem IsStore.ex (S : IsStore g st pg ps) : ∃ t, ∃ std sp a1 a2 a3 k1 k2 k3 n, g.get? st = some (instObj 386 std) ∧
  g.get? std = some (dictOf [⟨a1, .str (Str.ofString "page_size") k1, .int ps t⟩, ⟨a2, .str (Str.ofString "pages") k2, .ref pg⟩, ⟨a3, .str (Str.ofString "spare") k3, .ref sp⟩] n) := by
  obtain ⟨std, sp, a1, a2, a3, k1, k2, k3, t, n, h1, h2⟩ := S
  exact ⟨t, std, sp, a1, a2, a3, k1, k2, k3, n, h1, h2⟩
noncomputable def IsStore.tok (S : IsStore g st pg ps) : Tok := Classical.choose S.ex
theorem IsStore.psz (S : IsStore g st pg ps) (X : (K w.params).In g) : Attr prog w g st "page_size" (.int ps S.tok) := by
  obtain ⟨std, sp, a1, a2, a3, k1, k2, k3, n, h1, h2⟩ := Classical.choose_spec S.ex
  exact attr_of X h1 h2 (by kernel_rfl) rfl rfl
theorem IsStore.pgs (S : IsStore g st pg ps) (X : (K w.params).In g) : Attr prog w g st "pages" (.ref pg) := by
  obtain ⟨std, sp, a1, a2, a3, k1, k2, k3, t, n, h1, h2⟩ := S
  exact attr_of X h1 h2 (by kernel_rfl) rfl rfl
theorem IsStore.meth (S : IsStore g st pg ps) (X : (K w.params).In g) (hf : findIn (K w.params) (.ref 386) x = some (some (.ref f))) (hc : clsM w.params 386 x f = true) (hx : (x == ("page_size" : Str) || x == ("pages" : Str) || x == ("spare" : Str)) = false) : Meth prog w g st x f := by
  obtain ⟨std, sp, a1, a2, a3, k1, k2, k3, t, n, h1, h2⟩ := S
  rw [Bool.or_eq_false_iff, Bool.or_eq_false_iff] at hx
  refine meth_of X h1 h2 hf hc ?_
  have e : ∀ (y : Str) (t : Tok), (x == y) = false → (Value.str y t).isStr x = false := fun y t h => by
    first
    | exact h
    | (rw [beq_eq_false_iff_ne] at h; simp only [Value.isStr]; simpa using fun q => h q.symm)
    | (rw [beq_eq_false_iff_ne] at h; simp only [Value.isStr]; simpa using h)
  unfold getL
  simp only [List.find?, e _ _ hx.1.1, e _ _ hx.1.2, e _ _ hx.2]
  rfl
end
-- LINES
theorem words_05_6 : True := by
  k_with "my attr" => first | exact IsStore.pgs (by assumption) (by assumption) | exact IsStore.psz (by assumption) (by assumption)
  k_with "my meth" => exact IsStore.meth (by assumption) (by assumption) (by k_is) (by kernel_rfl) (by kernel_rfl)
  trivial
-- END LINES
section

variable {w : World} {A : Around} {base g : Heap} {outer : List Env} {s : Shared} {mn : List (Addr × Obj)}
  {p : Program} {loose : List Str} {mean : ExcName → Option Value} {mg mb : Str → Option Value} {R : Result → Shared → Prop}
  {st pg : Addr} {ps : Int} {vs : List Value} {n : Nat} {P : List (List UInt8)}

theorem page_count_spec (H : Pre p loose mean mg mb w A base outer g s []) (hd : Room A 0) (S : IsStore g st pg ps) (hpg : g.get? pg = some (listOf vs.toArray n)) (hn : vs.length < 1000)
  (k : ∀ t h' tk, Post g h' [] → R (.ok (.ret (.int (vs.length : Nat) t))) { s with heap := h', toks := tk }) :
  codeAny (model PySem.Challenge.rw_nt0105_01.row.prog w) A (.call (.ref 306) ⟨[.ref st], []⟩) R s := by
  have hpl := isl_got hpg
  k_extra "my enter"
  k_extra "my steps"
  exact k _ _ _ (by k_extra "my post")

theorem read_page_spec {page : Int} {t1 : Tok} {b : List UInt8} (H : Pre p loose mean mg mb w A base outer g s []) (hd : Room A 0) (S : IsStore g st pg ps) (hpg : g.get? pg = some (listOf vs.toArray n)) (hP : BytesAre vs P) (hn : P.length < 1000)
  (h1 : 1 ≤ page) (h2 : page ≤ P.length) (hb : P[(page - 1).toNat]? = some b)
  (k : ∀ t h' tk, Post g h' [] → R (.ok (.ret (.bytes b.toArray t))) { s with heap := h', toks := tk }) :
  codeAny (model PySem.Challenge.rw_nt0105_01.row.prog w) A (.call (.ref 313) ⟨[.ref st, .int page t1], []⟩) R s := by
  have hl := hP.length
  have hpl := isl_got hpg
  k_extra "my enter"
  k_extra "my steps"
  exact k _ _ _ (by k_extra "my post")

theorem extend_spec (H : Pre p loose mean mg mb w A base outer g s [(pg, listOf vs.toArray n)]) (hd : Room A 0) (S : IsStore g st pg ps) (hn : vs.length < 1000) (hps : 0 ≤ ps) (hps2 : ps < 1000)
  (k : ∀ t t' h' tk, Post g h' [(pg, listOf (vs ++ [Value.bytes (List.replicate ps.toNat 0).toArray t']).toArray (n + 1))] → R (.ok (.ret (.int (vs.length + 1 : Nat) t))) { s with heap := h', toks := tk }) :
  codeAny (model PySem.Challenge.rw_nt0105_01.row.prog w) A (.call (.ref 327) ⟨[.ref st], []⟩) R s := by
  k_extra "my enter"
  k_extra "my steps"
  simp only [List.length_append, List.length_cons, List.length_nil]
  exact k _ _ _ _ (by k_extra "my post")

theorem write_base_spec {page : Int} {t1 t2 : Tok} {b : List UInt8} (H : Pre p loose mean mg mb w A base outer g s [(pg, listOf vs.toArray n)]) (hd : Room A 0) (S : IsStore g st pg ps) (hn : vs.length < 1000)
  (h1 : 1 ≤ page) (h2 : page ≤ vs.length) (hb : (b.length : Int) = ps) (hps : ps < 1000)
  (k : ∀ t' h' tk, Post g h' [(pg, listOf (vs.set (page - 1).toNat (Value.bytes b.toArray t')).toArray n)] → R (.ok (.ret .none)) { s with heap := h', toks := tk }) :
  codeAny (model PySem.Challenge.rw_nt0105_01.row.prog w) A (.call (.ref 320) ⟨[.ref st, .int page t1, .bytes b.toArray t2], []⟩) R s := by
  k_extra "my enter"
  k_extra "my steps"
  exact k _ _ _ (by k_extra "my post")
end
-- LINES
theorem words_05_7 : True := by
  k_with "my stays0" => exact Fr.keep (by k_asm)
  k_with "my got" => first | assumption | exact (News.get (by k_asm) (by k_mem)) | exact Fr.keep (by k_asm) _ _ (by assumption)
  k_with "my stays1" => exact stays_call1 (by k_asm) (by k_asm) (by k_mem)
  k_with "z call ref" => ((with_reducible show wpAny _ _ (call (Value.ref 306) _) _ _ _); refine my_call ?_; k_dflt (refine' page_count_spec ?zH ?zd (IsStore.keeps ?zS ?zS2) ?zgot ?zn ?_; (case zS => assumption); (case zH => k_extra "my pre0"); (case zS2 => k_extra "my stays0"); (case zgot => k_extra "my got"); (case zd => k_extra "my depth"); (case zn => k_extra "my len")); intro t' h' tk' P'; k_extra "my back0")
  k_with "z call ref" => ((with_reducible show wpAny _ _ (call (Value.ref 313) _) _ _ _); refine my_call ?_; k_dflt (refine' read_page_spec ?zH ?zd (IsStore.keeps ?zS ?zS2) ?zgot ?zP ?zn ?zh1 ?zh2 ?zhb ?_; (case zS => assumption); (case zH => k_extra "my pre0"); (case zS2 => k_extra "my stays0"); (case zgot => k_extra "my got"); (case zd => k_extra "my depth"); (case zP => with_reducible assumption); (case zn => k_extra "my len"); (case zh1 => omega); (case zh2 => k_extra "my len"); (case zhb => assumption)); intro t' h' tk' P'; k_extra "my back0")
  k_with "z call ref" => ((with_reducible show wpAny _ _ (call (Value.ref 327) _) _ _ _); refine my_call ?_; k_dflt (refine' extend_spec ?zH ?zd (IsStore.keeps ?zS ?zS2) ?zn ?zp1 ?zp2 ?_; (case zS => assumption); (case zH => k_extra "my pre1"); (case zS2 => k_extra "my stays1"); (case zd => k_extra "my depth"); (case zn => k_extra "my len"); (case zp1 => omega); (case zp2 => omega)); intro t' u' h' tk' P'; k_extra "my back1")
  k_with "z call ref" => ((with_reducible show wpAny _ _ (call (Value.ref 320) _) _ _ _); refine my_call ?_; k_dflt (refine' write_base_spec ?zH ?zd (IsStore.keeps ?zS ?zS2) ?zn ?zh1 ?zh2 ?zhb ?zp2 ?_; (case zS => assumption); (case zH => k_extra "my pre1"); (case zS2 => k_extra "my stays1"); (case zd => k_extra "my depth"); (case zn => k_extra "my len"); (case zh1 => omega); (case zh2 => omega); (case zhb => k_extra "my len"); (case zp2 => omega)); intro t' h' tk' P'; k_extra "my back1")
  trivial
-- END LINES

section
variable {w : World} {A : Around} {base g : Heap} {outer : List Env} {s : Shared} {mn : List (Addr × Obj)}
  {p : Program} {loose : List Str} {mean : ExcName → Option Value} {mg mb : Str → Option Value} {R : Result → Shared → Prop}
  {st pg : Addr} {ps : Int} {vs : List Value} {n : Nat} {P : List (List UInt8)}

theorem swrite_spec {page : Int} {t1 t2 : Tok} {b : List UInt8} (H : Pre p loose mean mg mb w A base outer g s [(pg, listOf vs.toArray n)]) (hd : Room A 1) (S : IsStore g st pg ps) (hP : BytesAre vs P) (hn : P.length < 1000)
  (h1 : 2 ≤ page) (h2 : page ≤ P.length) (hb : (b.length : Int) = ps) (hps : ps < 1000)
  (k : ∀ vs' h' tk, BytesAre vs' (P.set (page - 1).toNat b) → Post g h' [(pg, listOf vs'.toArray n)] → R (.ok (.ret .none)) { s with heap := h', toks := tk }) :
  codeAny (model PySem.Challenge.rw_nt0105_01.row.prog w) A (.call (.ref 362) ⟨[.ref st, .int page t1, .bytes b.toArray t2], []⟩) R s := by
  revert w A base g outer s p loose mean mg mb R st pg ps vs n P page t1 t2 b; refine @(close10 ?_); generalize cx10 _ = X; k_extra "my ctx"; generalize X.2.1 = st, X.2.2.1 = pg, X.2.2.2.1 = ps, X.2.2.2.2.1 = vs, X.2.2.2.2.2.1 = n, X.2.2.2.2.2.2.1 = P, X.2.2.2.2.2.2.2.1 = page, X.2.2.2.2.2.2.2.2.1 = t1, X.2.2.2.2.2.2.2.2.2.1 = t2, X.2.2.2.2.2.2.2.2.2.2 = b; intro H hd S hP hn h1 h2 hb hps k
  have S' := S
  have hl := hP.length
  obtain ⟨b0, hb0⟩ : ∃ b0, P[(page - 1).toNat]? = some b0 := ⟨_, List.getElem?_eq_getElem (by omega)⟩
  k_extra "my enterX"
  k_extra "my steps"
  exact k _ _ _ (hP.set _ _ _) (by k_extra "my post")
end

section
noncomputable def MAG : List UInt8 := [112, 97, 103, 101, 98, 97, 115, 101]
noncomputable def hdrL (ps pc ft fc : Nat) : List UInt8 := MAG ++ b2 ps ++ b4 0 ++ b4 pc ++ b4 ft ++ b4 fc ++ b4 0 ++ b1 0 ++ b1 0
theorem hdrL_length (ps pc ft fc : Nat) : (hdrL ps pc ft fc).length = 32 := rfl
noncomputable abbrev hdrD (a1 a2 a3 a4 a5 a6 a7 a8 : Int) (k1 k2 k3 k4 k5 k6 k7 k8 t1 t2 t3 t4 t5 t6 t7 t8 : Tok) (ps cc pc ft fc sc wl uv : Int) : Obj := dictOf
  [⟨a1, .str (Str.ofString "page_size") k1, .int ps t1⟩, ⟨a2, .str (Str.ofString "change_counter") k2, .int cc t2⟩, ⟨a3, .str (Str.ofString "page_count") k3, .int pc t3⟩, ⟨a4, .str (Str.ofString "free_trunk") k4, .int ft t4⟩,
   ⟨a5, .str (Str.ofString "free_count") k5, .int fc t5⟩, ⟨a6, .str (Str.ofString "schema_cookie") k6, .int sc t6⟩, ⟨a7, .str (Str.ofString "wal") k7, .int wl t7⟩, ⟨a8, .str (Str.ofString "user_version") k8, .int uv t8⟩] 8

variable {prog : Program} {w : World} {A : Around} {E : Value → Shared → Prop} {s : Shared} {value slice : PySem.Expr} {b : List UInt8} {t : Tok} {Q : Value → Shared → Prop}
theorem my_zero {i : Int} {ui : Tok} (hf : b.length < 1000) (h0 : 0 ≤ i) (hx : b[i.toNat]? = some 0) (h : ∀ t' k, Q (.int 0 t') { s with toks := k })
    (hs : subscripted slice false (.bytes b.toArray t) (.int i ui) = operate [.bytes b.toArray t, .int i ui] (getItem (.bytes b.toArray t) (.int i ui)) := by with_unfolding_all rfl)
    (ht : ∀ r, letTemporaryGo value (.bytes b.toArray t) r = pure () := by intro _; with_unfolding_all rfl) : wpAny (model prog w) A (subscriptTail value slice (.bytes b.toArray t) (.int i ui)) Q E s := by
  have hlt : i.toNat < b.length := (List.getElem?_eq_some_iff.mp hx).1
  refine KBw.item_K (ks := b.map fun c => (c.toNat : Int)) rfl (by rw [List.length_map]; omega) h0 (by rw [List.length_map]; omega) ?_ hs ht
  intro t' k _ _
  have e : (b.map fun c => (c.toNat : Int)).getD i.toNat 0 = 0 := by
    rw [List.getD_eq_getElem?_getD, List.getElem?_map, hx]; rfl
  rw [e]; exact h t' k
end
-- LINES
theorem words_07_8 : True := by
  k_with "z subscriptTail" => (k_dflt (((with_reducible show wpAny _ _ (subscriptTail _ _ (Value.bytes (List.toArray _) _) (Value.int _ _)) _ _ _); (refine my_zero (by omega) (by omega) (by assumption) ?_); intro t' k')))
  k_with "z call ref" => ((with_reducible show wpAny _ _ (call (Value.ref 72) _) _ _ _); refine my_call ?_; k_dflt (refine' number_at_spec ?zH ?zd ?zh0 ?zh1 ?zhb ?_; (case zH => k_extra "my pre0"); (case zd => k_extra "my depth"); (case zh0 => omega); (case zh1 => k_extra "my len"); (case zhb => k_extra "my len")); intro t' h' tk' P'; k_extra "my back0"; (try simp only [Int.reduceToNat]))
  k_with "z call ref" => ((with_reducible show wpAny _ _ (call (Value.ref 241) _) _ _ _); refine my_call ?_; k_dflt (refine' get_number_spec ?zH ?zd ?zh0 ?zh2 ?zh3 ?zh1 ?zhb ?_; (case zH => k_extra "my pre0"); (case zd => k_extra "my depth"); (case zh0 => omega); (case zh2 => omega); (case zh3 => omega); (case zh1 => k_extra "my len"); (case zhb => k_extra "my len")); intro t' h' tk' P'; k_extra "my back0"; (try simp only [Int.reduceToNat]))
  k_with "z call ref" => ((with_reducible show wpAny _ _ (call (Value.ref 248) _) _ _ _); refine my_call ?_; k_dflt (refine' is_page_size_spec ?zH ?zd ?zh0 ?zh2 ?_; (case zH => k_extra "my pre0"); (case zd => k_extra "my depth"); (case zh0 => omega); (case zh2 => omega)); intro h' tk' P'; k_extra "my back0")
  k_with "z call ref" => ((with_reducible show wpAny _ _ (call (Value.ref 187) _) _ _ _); refine my_call ?_; k_dflt (refine' chain_length_spec ?zH ?zd ?zh0 ?zh1 ?zh2 ?zh3 ?_; (case zH => k_extra "my pre0"); (case zd => k_extra "my depth"); (case zh0 => omega); (case zh1 => omega); (case zh2 => omega); (case zh3 => omega)); intro t' h' tk' P'; k_extra "my back0")
  k_with "z call ref" => ((with_reducible show wpAny _ _ (call (Value.ref 86) _) _ _ _); refine my_call ?_; k_dflt (refine' leaves_room_spec ?zH ?zd ?_; (case zH => k_extra "my pre0"); (case zd => k_extra "my depth")); intro t' h' tk' P'; k_extra "my back0")
  k_with "z call ref" => ((with_reducible show wpAny _ _ (call (Value.ref 79) [Value.int _ _]) _ _ _); refine my_call ?_; k_dflt (refine' four_spec ?zH ?zd ?zh2 ?_; (case zH => k_extra "my pre0"); (case zd => k_extra "my depth"); (case zh2 => omega)); intro t' h' tk' P'; k_extra "my back0")
  k_with "z call ref" => ((with_reducible show wpAny _ _ (call (Value.ref 234) _) _ _ _); refine my_call ?_; k_dflt ((first | refine' put4_spec ?zH ?zd ?zh2 ?_ | refine' put2_spec ?zH ?zd ?zh2 ?_ | refine' put1_spec ?zH ?zd ?zh2 ?_); (case zH => k_extra "my pre0"); (case zd => k_extra "my depth"); (case zh2 => omega)); intro t' h' tk' P'; k_extra "my back0")
  trivial
-- END LINES
section
variable {prog : Program} {w : World} {A : Around} {E : Value → Shared → Prop} {s : Shared} {h₀ : Heap} {L : Addr} {m : Str → Option Value} {env : Env}
theorem comp_ind {elt : PySem.Expr} {x : Str} {scope : Scope} {cl : List (Str × Addr)} {S : List (Addr × Obj) → Prop} {P : Nat → Value → Prop} {Fin : List Value → List (Addr × Obj) → Prop} {n : Nat}
    (J : Nat → List Value → List (Addr × Obj) → Prop)
    (step : ∀ i v ys news I oI C oC D m₂ h tk (E' : Value → Shared → Prop), i < n → P i v → J i ys news → LCg.NsObj oC m₂ → m₂ x = some v → Fr h₀ L h m → News h₀ L h ((I, oI) :: (C, oC) :: (D, LCg.lst ys) :: news) → LCg.Off3 I C D news → ((@Ne Nat I C) ∧ (@Ne Nat I D) ∧ (@Ne Nat C D)) →
      wpAny (model prog w) A (eval elt (compEnvC scope cl C env)) (LCg.CompEnd h₀ L m { s with heap := h, toks := tk } I oI C oC D (LCg.lst ys) S (fun y news' => J (i + 1) (ys ++ [y]) news')) E' { s with heap := h, toks := tk })
    (fin : ∀ ys news, J n ys news → Fin ys news) : ∀ k i ys news, i + k = n → J i ys news → LCg.CompRest prog w A h₀ L m env elt x scope cl s S P Fin k i ys news
  | 0, i, ys, news, e, j => LCg.CompRest.zero (fin _ _ (by rw [Nat.add_zero] at e; subst e; exact j))
  | k + 1, i, ys, news, e, j => LCg.CompRest.succ fun v I oI C oC D m₂ h tk E' hv hC hx F N off ne =>
    wpAny_mono (step i v ys news I oI C oC D m₂ h tk E' (by omega) hv j hC hx F N off ne) (fun y s₂ ⟨h', tk', news', e', F', N', o', S', r⟩ => ⟨h', tk', news', e', F', N', o', S', comp_ind J step fin k (i + 1) _ _ (by omega) r⟩) fun _ _ x => x
theorem comp_fix {elt : PySem.Expr} {x : Str} {scope : Scope} {cl : List (Str × Addr)} {S : List (Addr × Obj) → Prop} {P : Nat → Value → Prop} {Fin : List Value → List (Addr × Obj) → Prop} {n : Nat} {news : List (Addr × Obj)}
    (J : Nat → List Value → Prop) (j0 : J 0 [])
    (step : ∀ i v ys I oI C oC D m₂ h tk (E' : Value → Shared → Prop), i < n → P i v → J i ys → LCg.NsObj oC m₂ → m₂ x = some v → Fr h₀ L h m → News h₀ L h ((I, oI) :: (C, oC) :: (D, LCg.lst ys) :: news) → LCg.Off3 I C D news → ((@Ne Nat I C) ∧ (@Ne Nat I D) ∧ (@Ne Nat C D)) →
      wpAny (model prog w) A (eval elt (compEnvC scope cl C env)) (LCg.CompEnd h₀ L m { s with heap := h, toks := tk } I oI C oC D (LCg.lst ys) S (fun y news' => news' = news ∧ J (i + 1) (ys ++ [y]))) E' { s with heap := h, toks := tk })
    (fin : ∀ ys, J n ys → Fin ys news) : LCg.CompRest prog w A h₀ L m env elt x scope cl s S P Fin n 0 [] news :=
  comp_ind (fun i ys nw => nw = news ∧ J i ys) (fun i v ys nw I oI C oC D m₂ h tk E' hi hv hj hC hx F N off ne => by
    obtain ⟨rfl, j⟩ := hj
    exact step i v ys I oI C oC D m₂ h tk E' hi hv j hC hx F N off ne) (fun ys nw hj => by obtain ⟨rfl, j⟩ := hj; exact fin ys j) n 0 [] news (Nat.zero_add n) ⟨rfl, j0⟩
end
section
variable {w : World} {A A₀ : Around} {base g : Heap} {outer : List Env} {s : Shared} {news : List (Addr × Obj)}
  {p : Program} {loose : List Str} {mean : ExcName → Option Value} {mg mb : Str → Option Value} {Q : Value → Shared → Prop} {E : Value → Shared → Prop}
theorem frames_make {C : Addr} {rest : List Value} : (A.under (.builtin "type.__call__" ⟨.ref C :: rest, []⟩)).frames = A.frames := by
  show pushEnvs (Code.envs (.builtin "type.__call__" ⟨.ref C :: rest, []⟩)) A.frames = A.frames
  have : Code.envs (.builtin "type.__call__" ⟨.ref C :: rest, []⟩) = [] := rfl
  rw [this, pushEnvs_eq]
  cases A.frames <;> rfl
theorem Room.make {k j : Nat} {C : Addr} {rest : List Value} (r : Room A k) (h : j < k) : Room (A.under (.builtin "type.__call__" ⟨.ref C :: rest, []⟩)) j :=
  ⟨r.handled, by have := r.depth; rw [depth_under_make]; omega, by have := r.units; rw [PyProof.Rows.units_under_make]; omega⟩
theorem make_G {C fI : Addr} {rest : List Value} {env : Env} {L : Addr} {m : Str → Option Value} {k : Nat} (B₀ : Below A₀ base outer g) (hA : A.frames = some (env :: outer)) (hfr : env.frame = some L) (hck : env.scope.kind = .function)
    (X : (K w.params).In g) (T : Top p loose mean mg mb g) (F : Fr g L s.heap m) (N : News g L s.heap news)
    (hm : makesIn (K w.params) C = true) (hi : findIn (K w.params) (.ref C) "__init__" = some (some (.ref fI))) (hf : isFn (K w.params) (.ref fI) = true) (hr : Room A (k + 1)) (OD : Obj → Prop)
    (init : ∀ (A' : Around) (g' : Heap) (s' : Shared) (x dx : Addr) (R : Result → Shared → Prop), Pre p loose mean mg mb w A' base (env :: outer) g' s' [(x, instObj C dx), (dx, emptyDict)] → Room A' k → @LT.lt Nat _ dx x →
      (∀ od h' tk, OD od → Post g' h' [(x, instObj C dx), (dx, od)] → R (.ok (.ret .none)) { s' with heap := h', toks := tk }) →
      codeAny (model PySem.Challenge.rw_nt0105_01.row.prog w) A' (.call (.ref fI) ⟨.ref x :: rest, []⟩) R s')
    (h : ∀ x dx od h' tk, OD od → Fr g L h' m → News g L h' ((x, instObj C dx) :: (dx, od) :: news) → (∀ p ∈ news, p.1 < dx) → dx < x → Q (.ref x) { s with heap := h', toks := tk }) :
    wpAny (model PySem.Challenge.rw_nt0105_01.row.prog w) A (call (.ref C) rest) Q E s := by
  refine call_cls F X N hm hi hf fun x dx h' F' N' lt1 lt2 => ?_
  have P := pre_call (A := A.under (.builtin "type.__call__" ⟨.ref C :: rest, []⟩)) (s := { s with heap := h' }) B₀ (frames_make.trans hA) hfr hck X T F' N' (mn := [(x, instObj C dx), (dx, emptyDict)])
    (fun q hq => by
      rcases List.mem_cons.mp hq with rfl | hq
      · exact .head _
      · rw [List.mem_singleton.mp hq]; exact .tail _ (.head _))
  refine init _ _ _ x dx _ P (hr.make (Nat.lt_succ_self _)) lt2 fun od h'' tk ho P' => ⟨rfl, ?_⟩
  obtain ⟨F'', N'', _⟩ := post_call F' N' (others := news) (fun q hq => by
      rcases List.mem_cons.mp hq with rfl | hq
      · exact .head _
      · rw [List.mem_singleton.mp hq]; exact .tail _ (.head _)) P' (fun q hq => ⟨.tail _ (.tail _ hq), fun hm => by
        have l := lt1 q hq
        rcases List.mem_cons.mp hm with e | hm
        · have e' : q.1 = x := e
          rw [e'] at l
          exact absurd l (Nat.not_lt.mpr (Nat.le_of_lt lt2))
        · rw [List.mem_singleton.mp hm] at l; exact Nat.lt_irrefl _ l⟩)
  exact h x dx od h'' tk ho F'' N'' lt1 lt2
end
inductive IsHdr (c1 c2 c3 c4 c5 c6 c7 c8 : Int) (od : Obj) : Prop
  | mk : ∀ (a1 a2 a3 a4 a5 a6 a7 a8 : Int) (k1 k2 k3 k4 k5 k6 k7 k8 t1 t2 t3 t4 t5 t6 t7 t8 : Tok), od = hdrD a1 a2 a3 a4 a5 a6 a7 a8 k1 k2 k3 k4 k5 k6 k7 k8 t1 t2 t3 t4 t5 t6 t7 t8 c1 c2 c3 c4 c5 c6 c7 c8 → IsHdr c1 c2 c3 c4 c5 c6 c7 c8 od
section
variable {w : World} {A : Around} {base g : Heap} {outer : List Env} {s : Shared} {mn : List (Addr × Obj)}
  {p : Program} {loose : List Str} {mean : ExcName → Option Value} {mg mb : Str → Option Value} {R : Result → Shared → Prop}
  {st pg : Addr} {vs : List Value} {n : Nat} {P : List (List UInt8)}
theorem header_init {x dx : Addr} {c1 c2 c3 c4 c5 c6 c7 c8 : Int} {t1 t2 t3 t4 t5 t6 t7 t8 : Tok} (H : Pre p loose mean mg mb w A base outer g s [(x, instObj 281 dx), (dx, emptyDict)]) (hd : Room A 0) (hxd : @LT.lt Nat _ dx x)
  (k : ∀ a1 a2 a3 a4 a5 a6 a7 a8 k1 k2 k3 k4 k5 k6 k7 k8 h' tk, Post g h' [(x, instObj 281 dx), (dx, hdrD a1 a2 a3 a4 a5 a6 a7 a8 k1 k2 k3 k4 k5 k6 k7 k8 t1 t2 t3 t4 t5 t6 t7 t8 c1 c2 c3 c4 c5 c6 c7 c8)] → R (.ok (.ret .none)) { s with heap := h', toks := tk }) :
  codeAny (model PySem.Challenge.rw_nt0105_01.row.prog w) A (.call (.ref 263) ⟨[.ref x, .int c1 t1, .int c2 t2, .int c3 t3, .int c4 t4, .int c5 t5, .int c6 t6, .int c7 t7, .int c8 t8], []⟩) R s := by
  revert w A base g outer s p loose mean mg mb R x dx c1 c2 c3 c4 c5 c6 c7 c8 t1 t2 t3 t4 t5 t6 t7 t8; refine @(close4 ?_); generalize cx4 _ = X; k_extra "my ctx"; generalize X.2.1 = x, X.2.2.1 = dx, X.2.2.2.1 = c1, X.2.2.2.2 = c2; refine (?zcG4 : CloT _ ?zcH4); refine @(allE14 ?_); apply ?zcH4; intro c3 c4 c5 c6 c7 c8 t1 t2 t3 t4 t5 t6 t7 t8; intro H hd hxd k
  refine' enter (dfl := []) ?zk1 ?zk2 ?zk3 ?zk4 ?zkz ?zk5 ?zk6 ?_ ?zc ?zc1 ?zc2 ?zc3
  k_extra "my enterDX"
  k_extra "my steps"
  exact k _ _ _ _ _ _ _ _ _ _ _ _ _ _ _ _ _ _ (by k_extra "my post")
theorem header_init1 {x dx : Addr} {c1 : Int} {t1 : Tok} (H : Pre p loose mean mg mb w A base outer g s [(x, instObj 281 dx), (dx, emptyDict)]) (hd : Room A 0) (hxd : @LT.lt Nat _ dx x)
  (k : ∀ a1 a2 a3 a4 a5 a6 a7 a8 k1 k2 k3 k4 k5 k6 k7 k8 h' tk, Post g h' [(x, instObj 281 dx), (dx, hdrD a1 a2 a3 a4 a5 a6 a7 a8 k1 k2 k3 k4 k5 k6 k7 k8 t1 535 536 537 538 539 540 541 c1 0 0 0 0 0 0 0)] → R (.ok (.ret .none)) { s with heap := h', toks := tk }) :
  codeAny (model PySem.Challenge.rw_nt0105_01.row.prog w) A (.call (.ref 263) ⟨[.ref x, .int c1 t1], []⟩) R s := by
  revert w A base g outer s p loose mean mg mb R x dx c1 t1; refine @(close4 ?_); generalize cx4 _ = X; k_extra "my ctx"; generalize X.2.1 = x, X.2.2.1 = dx, X.2.2.2.1 = c1, X.2.2.2.2 = t1; intro H hd hxd k
  refine' enter (dfl := [.int 0 535, .int 0 536, .int 0 537, .int 0 538, .int 0 539, .int 0 540, .int 0 541]) ?zk1 ?zk2 ?zk3 ?zk4 ?zkz ?zk5 ?zk6 ?_ ?zc ?zc1 ?zc2 ?zc3
  k_extra "my enterDX"
  k_extra "my steps"
  exact k _ _ _ _ _ _ _ _ _ _ _ _ _ _ _ _ _ _ (by k_extra "my post")
theorem make_header8 {env : Env} {L : Addr} {m : Str → Option Value} {news : List (Addr × Obj)} {A₀ : Around} {Q : Value → Shared → Prop} {E : Value → Shared → Prop} {c1 c2 c3 c4 c5 c6 c7 c8 : Int} {t1 t2 t3 t4 t5 t6 t7 t8 : Tok} (B₀ : Below A₀ base outer g) (hA : A.frames = some (env :: outer)) (hfr : env.frame = some L) (hck : env.scope.kind = .function)
    (X : (K w.params).In g) (T : Top p loose mean mg mb g) (F : Fr g L s.heap m) (N : News g L s.heap news) (hr : Room A 1)
    (h : ∀ x dx a1 a2 a3 a4 a5 a6 a7 a8 k1 k2 k3 k4 k5 k6 k7 k8 t1 t2 t3 t4 t5 t6 t7 t8 h' tk, Fr g L h' m → News g L h' ((x, instObj 281 dx) :: (dx, hdrD a1 a2 a3 a4 a5 a6 a7 a8 k1 k2 k3 k4 k5 k6 k7 k8 t1 t2 t3 t4 t5 t6 t7 t8 c1 c2 c3 c4 c5 c6 c7 c8) :: news) → (∀ p ∈ news, p.1 < dx) → dx < x → Q (.ref x) { s with heap := h', toks := tk }) :
    wpAny (model PySem.Challenge.rw_nt0105_01.row.prog w) A (call (.ref 281) [.int c1 t1, .int c2 t2, .int c3 t3, .int c4 t4, .int c5 t5, .int c6 t6, .int c7 t7, .int c8 t8]) Q E s := by
  refine make_G (k := 0) B₀ hA hfr hck X T F N (by k_is) (by k_is) (by k_is) hr (IsHdr c1 c2 c3 c4 c5 c6 c7 c8) ?_ ?_
  · intro A' g' s' x dx R' P' hr' hxd k'
    exact header_init P' hr' hxd (fun a1 a2 a3 a4 a5 a6 a7 a8 k1 k2 k3 k4 k5 k6 k7 k8 h' tk P'' => k' _ _ _ ⟨_, _, _, _, _, _, _, _, _, _, _, _, _, _, _, _, _, _, _, _, _, _, _, _, rfl⟩ P'')
  · rintro x dx od h' tk ⟨a1, a2, a3, a4, a5, a6, a7, a8, k1, k2, k3, k4, k5, k6, k7, k8, t1, t2, t3, t4, t5, t6, t7, t8, rfl⟩ F' N' l1 l2
    exact h x dx a1 a2 a3 a4 a5 a6 a7 a8 k1 k2 k3 k4 k5 k6 k7 k8 t1 t2 t3 t4 t5 t6 t7 t8 h' tk F' N' l1 l2
theorem make_header1 {env : Env} {L : Addr} {m : Str → Option Value} {news : List (Addr × Obj)} {A₀ : Around} {Q : Value → Shared → Prop} {E : Value → Shared → Prop} {c1 : Int} {t1 : Tok} (B₀ : Below A₀ base outer g) (hA : A.frames = some (env :: outer)) (hfr : env.frame = some L) (hck : env.scope.kind = .function)
    (X : (K w.params).In g) (T : Top p loose mean mg mb g) (F : Fr g L s.heap m) (N : News g L s.heap news) (hr : Room A 1)
    (h : ∀ x dx a1 a2 a3 a4 a5 a6 a7 a8 k1 k2 k3 k4 k5 k6 k7 k8 t1 t2 t3 t4 t5 t6 t7 t8 h' tk, Fr g L h' m → News g L h' ((x, instObj 281 dx) :: (dx, hdrD a1 a2 a3 a4 a5 a6 a7 a8 k1 k2 k3 k4 k5 k6 k7 k8 t1 t2 t3 t4 t5 t6 t7 t8 c1 0 0 0 0 0 0 0) :: news) → (∀ p ∈ news, p.1 < dx) → dx < x → Q (.ref x) { s with heap := h', toks := tk }) :
    wpAny (model PySem.Challenge.rw_nt0105_01.row.prog w) A (call (.ref 281) [.int c1 t1]) Q E s := by
  refine make_G (k := 0) B₀ hA hfr hck X T F N (by k_is) (by k_is) (by k_is) hr (IsHdr c1 0 0 0 0 0 0 0) ?_ ?_
  · intro A' g' s' x dx R' P' hr' hxd k'
    exact header_init1 P' hr' hxd (fun a1 a2 a3 a4 a5 a6 a7 a8 k1 k2 k3 k4 k5 k6 k7 k8 h' tk P'' => k' _ _ _ ⟨_, _, _, _, _, _, _, _, _, _, _, _, _, _, _, _, _, _, _, _, _, _, _, _, rfl⟩ P'')
  · rintro x dx od h' tk ⟨a1, a2, a3, a4, a5, a6, a7, a8, k1, k2, k3, k4, k5, k6, k7, k8, t1, t2, t3, t4, t5, t6, t7, t8, rfl⟩ F' N' l1 l2
    exact h x dx a1 a2 a3 a4 a5 a6 a7 a8 k1 k2 k3 k4 k5 k6 k7 k8 t1 t2 t3 t4 t5 t6 t7 t8 h' tk F' N' l1 l2
end
-- LINES
theorem words_07_9 : True := by
  k_with "my made" => (intro x' dx' a1' a2' a3' a4' a5' a6' a7' a8' k1' k2' k3' k4' k5' k6' k7' k8' t1' t2' t3' t4' t5' t6' t7' t8' h' tk' F' N' l1' l2'; (try k_lt l1'); (try k_lt2 l2'); (try k_sweep))
  k_with "z call ref" => ((with_reducible show wpAny _ _ (call (Value.ref 281) [_, _, _, _, _, _, _, _]) _ _ _); (try simp only [Int.reduceToNat, List.getD_cons_succ, List.getD_cons_zero, UInt8.toNat_zero, Int.natCast_zero, *]); k_dflt (refine' make_header8 ?zB ?zhA ?zhfr ?zhck ?zX ?zT ?zF ?zN ?zhr ?_; (case zB => assumption); (case zhA => exact Around.frames_deeper (Below.stack (by assumption))); (case zhfr => rfl); (case zhck => rfl); (case zX => assumption); (case zT => assumption); (case zF => k_asm); (case zN => k_asm); (case zhr => k_extra "my depth"); k_extra "my made"))
  k_with "z call ref" => ((with_reducible show wpAny _ _ (call (Value.ref 281) [_]) _ _ _); k_dflt (refine' make_header1 ?zB ?zhA ?zhfr ?zhck ?zX ?zT ?zF ?zN ?zhr ?_; (case zB => assumption); (case zhA => exact Around.frames_deeper (Below.stack (by assumption))); (case zhfr => rfl); (case zhck => rfl); (case zX => assumption); (case zT => assumption); (case zF => k_asm); (case zN => k_asm); (case zhr => k_extra "my depth"); k_extra "my made"))
  trivial
-- END LINES
section
variable {w : World} {A : Around} {base g : Heap} {outer : List Env} {s : Shared} {mn : List (Addr × Obj)}
  {p : Program} {loose : List Str} {mean : ExcName → Option Value} {mg mb : Str → Option Value} {R : Result → Shared → Prop}
theorem unpack_spec {l : List UInt8} {t0 : Tok} (H : Pre p loose mean mg mb w A base outer g s []) (hd : Room A 2)
  (hl : 32 ≤ l.length) (hl2 : l.length < 1000) (hm : l.take 8 = MAG) (h1 : 64 ≤ be ((l.drop 8).take 2)) (h2 : be ((l.drop 8).take 2) ≤ 128) (h30 : l[30]? = some 0) (h31 : l[31]? = some 0)
  (k : ∀ x dx a1 a2 a3 a4 a5 a6 a7 a8 k1 k2 k3 k4 k5 k6 k7 k8 t1 t2 t3 t4 t5 t6 t7 t8 h' tk, Post g h' [(x, instObj 281 dx), (dx, hdrD a1 a2 a3 a4 a5 a6 a7 a8 k1 k2 k3 k4 k5 k6 k7 k8 t1 t2 t3 t4 t5 t6 t7 t8 (be ((l.drop 8).take 2)) (be ((l.drop 10).take 4)) (be ((l.drop 14).take 4)) (be ((l.drop 18).take 4)) (be ((l.drop 22).take 4)) (be ((l.drop 26).take 4)) 0 0)] →
    R (.ok (.ret (.ref x))) { s with heap := h', toks := tk }) :
  codeAny (model PySem.Challenge.rw_nt0105_01.row.prog w) A (.call (.ref 275) ⟨[.bytes l.toArray t0], []⟩) R s := by
  revert w A base g outer s p loose mean mg mb R l t0; refine @(close2 ?_); generalize cx2 _ = X; k_extra "my ctx"; generalize X.2.1 = l, X.2.2 = t0; intro H hd hl hl2 hm h1 h2 h30 h31 k
  k_extra "my enterCX"
  k_extra "my steps"
  refine LCg.CompSrc.range (n := 5) (by k_extra "my hh") (by assumption) (by assumption) (by assumption) (by decide) (by decide) (by decide) ?_
  intro g'
  refine comp_fix (fun i ys => IntsAre ys ((List.range i).map fun j => (be ((l.drop (10 + 4 * j)).take 4) : Int))) .nil ?_ ?_
  · intro i v ys I oI C oC D m₂ h tk E' hi hv hj hC hx F N off ne
    obtain ⟨t, rfl⟩ := hv
    rw [Int.zero_add] at hx
    have e1 : (10 + 4 * (i : Int)).toNat = 10 + 4 * i := by omega
    k_extra "my steps"
    rw [e1]
    refine LCg.CompEnd.intro (by k_asm) (by k_asm) _ (fun p hp => hp) off trivial ⟨rfl, ?_⟩
    rw [List.range_succ, List.map_append]
    exact ints_snoc hj _ _
  intro ys hj D h tk F N off
  have e0 : l.getD 30 0 = 0 := by rw [List.getD_eq_getElem?_getD, h30]; rfl
  have e1 : l.getD 31 0 = 0 := by rw [List.getD_eq_getElem?_getD, h31]; rfl
  have hj' : IntsAre ys [(be ((l.drop 10).take 4) : Int), (be ((l.drop 14).take 4) : Int), (be ((l.drop 18).take 4) : Int), (be ((l.drop 22).take 4) : Int), (be ((l.drop 26).take 4) : Int)] := hj
  k_extra "my steps"
  exact k _ _ _ _ _ _ _ _ _ _ _ _ _ _ _ _ _ _ _ _ _ _ _ _ _ _ _ _ (by k_extra "my post")
end

section
noncomputable def NeAll (d : Nat) : List (Addr × Obj) → Prop
  | [] => True
  | p :: r => (@Ne Nat d p.1) ∧ NeAll d r
noncomputable def NeAll2 : List (Addr × Obj) → List (Addr × Obj) → Prop
  | [], _ => True
  | p :: r, l => NeAll p.1 l ∧ NeAll2 r l
noncomputable def NdAll : List (Addr × Obj) → Prop
  | [] => True
  | p :: r => NeAll p.1 r ∧ NdAll r
theorem neAll_of {d : Nat} : ∀ {l : List (Addr × Obj)}, (∀ r ∈ l, d ≠ r.1) → NeAll d l
  | [], _ => trivial
  | _ :: _, h => ⟨h _ (.head _), neAll_of fun r hr => h r (.tail _ hr)⟩
theorem neAll2_of : ∀ {a l : List (Addr × Obj)}, (∀ q ∈ a, ∀ r ∈ l, q.1 ≠ r.1) → NeAll2 a l
  | [], _, _ => trivial
  | _ :: _, _, h => ⟨neAll_of (h _ (.head _)), neAll2_of fun q hq => h q (.tail _ hq)⟩
theorem ndAll_of : ∀ {l : List (Addr × Obj)}, (l.map (·.1)).Nodup → NdAll l
  | [], _ => trivial
  | _ :: _, h => by
    rw [List.map_cons, List.nodup_cons] at h
    exact ⟨neAll_of fun r hr e => h.1 (e ▸ List.mem_map_of_mem hr), ndAll_of h.2⟩
end
-- LINES
theorem words_08_10 : True := by
  k_with "my ne" => ((try simp only [NdAll, NeAll, NeAll2, and_true, List.cons_append, List.nil_append] at *))
  k_with "my backN" => ((with_reducible rename Post _ _ _ => P'); (refine' post_pureB ?zF ?zN P' ?_); (case zF => k_asm); (case zN => k_asm); clear P'; (intro F' N'); k_extra "my imp"; (try dsimp only [List.cons_append, List.nil_append] at N'); (try dsimp only); (try k_sweep))
  k_with "z call ref" => ((with_reducible show wpAny _ _ (call (Value.ref 275) _) _ _ _); refine my_call ?_; k_dflt (refine' unpack_spec ?zH ?zd ?zh0 ?zh1 ?zh2 ?zh3 ?zh4 ?zh5 ?zh6 ?_; (case zH => k_extra "my pre0"); (case zd => k_extra "my depth"); (case zh0 => k_extra "my len"); (case zh1 => k_extra "my len"); (case zh2 => assumption); (case zh3 => omega); (case zh4 => omega); (case zh5 => assumption); (case zh6 => assumption)); intro x' dx' a1' a2' a3' a4' a5' a6' a7' a8' k1' k2' k3' k4' k5' k6' k7' k8' t1' t2' t3' t4' t5' t6' t7' t8' h' tk' P'; k_extra "my backN")
  trivial
-- END LINES
noncomputable def eps23 {α1 α2 α3 α4 α5 α6 α7 α8 α9 α10 α11 α12 α13 α14 α15 α16 α17 α18 α19 α20 α21 α22 α23 : Type} {i : Nonempty (α1 × α2 × α3 × α4 × α5 × α6 × α7 × α8 × α9 × α10 × α11 × α12 × α13 × α14 × α15 × α16 × α17 × α18 × α19 × α20 × α21 × α22 × α23)} (p : α1 → α2 → α3 → α4 → α5 → α6 → α7 → α8 → α9 → α10 → α11 → α12 → α13 → α14 → α15 → α16 → α17 → α18 → α19 → α20 → α21 → α22 → α23 → Prop) : α1 × α2 × α3 × α4 × α5 × α6 × α7 × α8 × α9 × α10 × α11 × α12 × α13 × α14 × α15 × α16 × α17 × α18 × α19 × α20 × α21 × α22 × α23 := @Classical.epsilon _ i fun x => ¬ p x.1 x.2.1 x.2.2.1 x.2.2.2.1 x.2.2.2.2.1 x.2.2.2.2.2.1 x.2.2.2.2.2.2.1 x.2.2.2.2.2.2.2.1 x.2.2.2.2.2.2.2.2.1 x.2.2.2.2.2.2.2.2.2.1 x.2.2.2.2.2.2.2.2.2.2.1 x.2.2.2.2.2.2.2.2.2.2.2.1 x.2.2.2.2.2.2.2.2.2.2.2.2.1 x.2.2.2.2.2.2.2.2.2.2.2.2.2.1 x.2.2.2.2.2.2.2.2.2.2.2.2.2.2.1 x.2.2.2.2.2.2.2.2.2.2.2.2.2.2.2.1 x.2.2.2.2.2.2.2.2.2.2.2.2.2.2.2.2.1 x.2.2.2.2.2.2.2.2.2.2.2.2.2.2.2.2.2.1 x.2.2.2.2.2.2.2.2.2.2.2.2.2.2.2.2.2.2.1 x.2.2.2.2.2.2.2.2.2.2.2.2.2.2.2.2.2.2.2.1 x.2.2.2.2.2.2.2.2.2.2.2.2.2.2.2.2.2.2.2.2.1 x.2.2.2.2.2.2.2.2.2.2.2.2.2.2.2.2.2.2.2.2.2.1 x.2.2.2.2.2.2.2.2.2.2.2.2.2.2.2.2.2.2.2.2.2.2
theorem allE23 {α1 α2 α3 α4 α5 α6 α7 α8 α9 α10 α11 α12 α13 α14 α15 α16 α17 α18 α19 α20 α21 α22 α23 : Type} [i : Nonempty (α1 × α2 × α3 × α4 × α5 × α6 × α7 × α8 × α9 × α10 × α11 × α12 × α13 × α14 × α15 × α16 × α17 × α18 × α19 × α20 × α21 × α22 × α23)] {p : α1 → α2 → α3 → α4 → α5 → α6 → α7 → α8 → α9 → α10 → α11 → α12 → α13 → α14 → α15 → α16 → α17 → α18 → α19 → α20 → α21 → α22 → α23 → Prop} (h : p (eps23 (i := i) p).1 (eps23 (i := i) p).2.1 (eps23 (i := i) p).2.2.1 (eps23 (i := i) p).2.2.2.1 (eps23 (i := i) p).2.2.2.2.1 (eps23 (i := i) p).2.2.2.2.2.1 (eps23 (i := i) p).2.2.2.2.2.2.1 (eps23 (i := i) p).2.2.2.2.2.2.2.1 (eps23 (i := i) p).2.2.2.2.2.2.2.2.1 (eps23 (i := i) p).2.2.2.2.2.2.2.2.2.1 (eps23 (i := i) p).2.2.2.2.2.2.2.2.2.2.1 (eps23 (i := i) p).2.2.2.2.2.2.2.2.2.2.2.1 (eps23 (i := i) p).2.2.2.2.2.2.2.2.2.2.2.2.1 (eps23 (i := i) p).2.2.2.2.2.2.2.2.2.2.2.2.2.1 (eps23 (i := i) p).2.2.2.2.2.2.2.2.2.2.2.2.2.2.1 (eps23 (i := i) p).2.2.2.2.2.2.2.2.2.2.2.2.2.2.2.1 (eps23 (i := i) p).2.2.2.2.2.2.2.2.2.2.2.2.2.2.2.2.1 (eps23 (i := i) p).2.2.2.2.2.2.2.2.2.2.2.2.2.2.2.2.2.1 (eps23 (i := i) p).2.2.2.2.2.2.2.2.2.2.2.2.2.2.2.2.2.2.1 (eps23 (i := i) p).2.2.2.2.2.2.2.2.2.2.2.2.2.2.2.2.2.2.2.1 (eps23 (i := i) p).2.2.2.2.2.2.2.2.2.2.2.2.2.2.2.2.2.2.2.2.1 (eps23 (i := i) p).2.2.2.2.2.2.2.2.2.2.2.2.2.2.2.2.2.2.2.2.2.1 (eps23 (i := i) p).2.2.2.2.2.2.2.2.2.2.2.2.2.2.2.2.2.2.2.2.2.2) : ∀ x1 x2 x3 x4 x5 x6 x7 x8 x9 x10 x11 x12 x13 x14 x15 x16 x17 x18 x19 x20 x21 x22 x23, p x1 x2 x3 x4 x5 x6 x7 x8 x9 x10 x11 x12 x13 x14 x15 x16 x17 x18 x19 x20 x21 x22 x23 := fun x1 x2 x3 x4 x5 x6 x7 x8 x9 x10 x11 x12 x13 x14 x15 x16 x17 x18 x19 x20 x21 x22 x23 => Classical.byContradiction fun nx =>
  @Classical.epsilon_spec _ (fun x : α1 × α2 × α3 × α4 × α5 × α6 × α7 × α8 × α9 × α10 × α11 × α12 × α13 × α14 × α15 × α16 × α17 × α18 × α19 × α20 × α21 × α22 × α23 => ¬ p x.1 x.2.1 x.2.2.1 x.2.2.2.1 x.2.2.2.2.1 x.2.2.2.2.2.1 x.2.2.2.2.2.2.1 x.2.2.2.2.2.2.2.1 x.2.2.2.2.2.2.2.2.1 x.2.2.2.2.2.2.2.2.2.1 x.2.2.2.2.2.2.2.2.2.2.1 x.2.2.2.2.2.2.2.2.2.2.2.1 x.2.2.2.2.2.2.2.2.2.2.2.2.1 x.2.2.2.2.2.2.2.2.2.2.2.2.2.1 x.2.2.2.2.2.2.2.2.2.2.2.2.2.2.1 x.2.2.2.2.2.2.2.2.2.2.2.2.2.2.2.1 x.2.2.2.2.2.2.2.2.2.2.2.2.2.2.2.2.1 x.2.2.2.2.2.2.2.2.2.2.2.2.2.2.2.2.2.1 x.2.2.2.2.2.2.2.2.2.2.2.2.2.2.2.2.2.2.1 x.2.2.2.2.2.2.2.2.2.2.2.2.2.2.2.2.2.2.2.1 x.2.2.2.2.2.2.2.2.2.2.2.2.2.2.2.2.2.2.2.2.1 x.2.2.2.2.2.2.2.2.2.2.2.2.2.2.2.2.2.2.2.2.2.1 x.2.2.2.2.2.2.2.2.2.2.2.2.2.2.2.2.2.2.2.2.2.2) ⟨(x1, x2, x3, x4, x5, x6, x7, x8, x9, x10, x11, x12, x13, x14, x15, x16, x17, x18, x19, x20, x21, x22, x23), nx⟩ h
section
variable {prog : Program} {w : World} {A : Around} {E : Value → Shared → Prop} {s : Shared} {env : Env} {target : PySem.Expr} {body : List Stmt} {Q : Flow → Shared → Prop} {g₀ : Heap} {m₀ : Str → Option Value}
noncomputable def TurnEndG (L I : Addr) (oI : Obj) (stored : List Str) (m₀ : Str → Option Value) (J : Heap → List (Str × Value) → List (Addr × Obj) → Prop) (s s₂ : Shared) : Prop :=
  ∃ g h tk m ps led news, s₂ = { s with heap := h, toks := tk } ∧ Fr g L h m ∧ News g L h news ∧ (I, oI) ∈ news ∧ (∀ q ∈ led, q ∈ news) ∧ NeAll I led ∧ (∀ q ∈ ps, m q.1 = some q.2) ∧
    (∀ z, (∀ q ∈ ps, z ≠ q.1) → stored.contains z = false → m z = m₀ z) ∧ J g ps led
noncomputable def TurnPostG (L I : Addr) (oI : Obj) (stored : List Str) (m₀ : Str → Option Value) (J : Heap → List (Str × Value) → List (Addr × Obj) → Prop) (s : Shared) (Q : Flow → Shared → Prop) (f : Flow) (s₂ : Shared) : Prop :=
  match f with
  | .ret v => Q (.ret v) s₂
  | .brk => Q .next s₂
  | _ => TurnEndG L I oI stored m₀ J s s₂
noncomputable abbrev stB (stored : List Str) (u m₀ : Str → Option Value) : Str → Option Value := fun z => if stored.contains z then u z else m₀ z
theorem NeAll.all {d : Nat} : ∀ {l : List (Addr × Obj)}, NeAll d l → ∀ p ∈ l, p.1 ≠ d
  | [], _, _, hp => nomatch hp
  | q :: r, h, p, hp => by
    rcases List.mem_cons.mp hp with e | hp
    · rw [e]; exact fun e' => h.1 e'.symm
    · exact NeAll.all h.2 p hp
theorem stB_eq {ps : List (Str × Value)} {stored : List Str} {m₁ : Str → Option Value} (h1 : ∀ q ∈ ps, m₁ q.1 = some q.2) (h2 : ∀ z, (∀ q ∈ ps, z ≠ q.1) → stored.contains z = false → m₁ z = m₀ z) : m₁ = kstB (stB stored m₁ m₀) ps := by
  funext z
  refine (kstB_eq h1 fun hn => ?_).symm
  show (if stored.contains z then m₁ z else m₀ z) = m₁ z
  cases h3 : stored.contains z with
  | true => simp
  | false => simp only [Bool.false_eq_true, if_false]; exact (h2 z hn h3).symm
theorem loop_G {I : Addr} {src : List (Addr × Obj)} {n : Nat} {P : Nat → Value → Prop} {St : Nat → Heap → Prop} {stored : List Str} {oI₀ : Obj} {h₀ : Heap} {tk₀ : Nat} {ps₀ : List (Str × Value)} {led₀ : List (Addr × Obj)} (J : Nat → Heap → List (Str × Value) → List (Addr × Obj) → Prop)
    (W : Walks prog w A I (I :: src.map (·.1)) [I] n P St)
    (hgo : ∀ i v (s : Shared) (Q : Unit → Shared → Prop) (E : Value → Shared → Prop), St i s.heap → Q () s → wpAny (model prog w) A (letOwnedTupleGo target (.ref I) v) Q E s)
    (hob : ∀ i h, St i h → ∃ o, h.get? I = some o)
    (hsrc : ∀ i g ps led h m, J i g ps led → Fr g env.locals h m → News g env.locals h led → ∀ q ∈ src, h.get? q.1 = some q.2)
    (st₀ : St 0 h₀) (F : Fr g₀ env.locals h₀ m₀) (N : News g₀ env.locals h₀ ((I, oI₀) :: led₀)) (hne : NeAll I led₀) (hps : ∀ q ∈ ps₀, m₀ q.1 = some q.2) (j0 : J 0 g₀ ps₀ led₀)
    (turn : ∀ i v g ps led u h tk oI, i < n → P i v → J i g ps led → Fr g env.locals h (kstB (stB stored u m₀) ps) → News g env.locals h ((I, oI) :: led) → NeAll I led →
      wpAny (model prog w) A (assign target env v) (fun _ s₃ => wpAny (model prog w) A (execs body env) (TurnPostG env.locals I oI stored m₀ (J (i + 1)) s Q) E s₃) E { s with heap := h, toks := tk })
    (done : ∀ g ps led u h tk, J n g ps led → Fr g env.locals h (kstB (stB stored u m₀) ps) → News g env.locals h led → Q .next { s with heap := h, toks := tk })
    (hE : PassesOwn (model prog w) A env E) :
    codeAny (model prog w) A (.forLoop target (.ref I) body [] env) (fun r s' => match r with | .ok f => Q f s' | .error e => cameBackBy (model prog w) A env E e s') { s with heap := h₀, toks := tk₀ } := by
  revert prog w A E s env target body Q g₀ m₀ I src n P St stored oI₀ h₀ tk₀ ps₀ led₀ J; refine (?zcG5 : CloT _ ?zcH5); refine @(allE23 (i := ⟨(default, world0, {}, default, {}, default, default, default, default, default, default, default, default, default, default, default, default, default, default, default, default, default, default)⟩) ?_); apply ?zcH5; intro prog w A E s env target body Q g₀ m₀ I src n P St stored oI₀ h₀ tk₀ ps₀ led₀ J; intro W hgo hob hsrc st₀ F N hne hps j0 turn done hE
  refine codeAny_forLoop_any (fun k s' => ∃ i g h tk m ps led oI, s' = { s with heap := h, toks := tk } ∧ i ≤ n ∧ k = n - i ∧ St i h ∧ Fr g env.locals h m ∧ News g env.locals h ((I, oI) :: led) ∧ NeAll I led ∧ (∀ q ∈ ps, m q.1 = some q.2) ∧
    (∀ z, (∀ q ∈ ps, z ≠ q.1) → stored.contains z = false → m z = m₀ z) ∧ J i g ps led) ?_ n
    ⟨0, g₀, h₀, tk₀, m₀, ps₀, led₀, oI₀, rfl, Nat.zero_le _, rfl, st₀, F, N, hne, hps, fun _ _ _ => rfl, j0⟩
  rintro k s' ⟨i, g, h, tk, m, ps, led, oI, rfl, hi, rfl, st, F, N, hne, hps, hms, hJ⟩
  have hIL := (N _ (.head _)).2.1
  have hIg := (N _ (.head _)).2.2
  have next : ∀ h₁ : Heap, (∀ b o, b ∉ [I] → h.get? b = some o → h₁.get? b = some o) → Fr g env.locals h₁ m ∧ News g env.locals h₁ led := fun h₁ hk =>
    ⟨⟨F.ns.at' fun o e => hk _ o (fun hm => hIL (List.mem_singleton.mp hm).symm) e, fun b o e => hk b o (fun hm => by rw [List.mem_singleton.mp hm, hIg] at e; cases e) (F.keep b o e), F.above⟩,
      fun p hp => ⟨hk _ _ (fun hm => hne.all p hp (List.mem_singleton.mp hm)) (N p (.tail _ hp)).1, (N p (.tail _ hp)).2⟩⟩
  by_cases hlt : i < n
  · refine W.item i _ _ _ hlt st fun v h₁ tk₁ hP st₁ hk₁ => ?_
    obtain ⟨F₁, N₁⟩ := next h₁ hk₁
    obtain ⟨oI₁, hoI⟩ := hob _ _ st₁
    have em := stB_eq hps hms
    have F₂ := F₁
    rw [em] at F₂
    refine hgo (i + 1) v _ _ _ st₁ (wpAny_mono (turn i v g ps led m h₁ tk₁ oI₁ hlt hP hJ F₂ (fun p hp => by
      rcases List.mem_cons.mp hp with rfl | hp
      · exact ⟨hoI, hIL, hIg⟩
      · exact N₁ p hp) hne) (fun _ s₂ h₂ => wpAny_mono h₂ (fun f s₃ h₃ => ?_) hE) hE)
    have fin : TurnEndG env.locals I oI₁ stored m₀ (J (i + 1)) s s₃ → ∃ m_1, m_1 < n - i ∧ ∃ i g h tk m ps led oI, s₃ = { s with heap := h, toks := tk } ∧ i ≤ n ∧ m_1 = n - i ∧ St i h ∧ Fr g env.locals h m ∧ News g env.locals h ((I, oI) :: led) ∧ NeAll I led ∧ (∀ q ∈ ps, m q.1 = some q.2) ∧
      (∀ z, (∀ q ∈ ps, z ≠ q.1) → stored.contains z = false → m z = m₀ z) ∧ J i g ps led := by
      rintro ⟨g', h', tk', m', ps', led', news', rfl, F', N', hmI, hsub, hne', hps', hms', hJ'⟩
      have Nl : News g' env.locals h' led' := fun p hp => N' p (hsub p hp)
      refine ⟨n - (i + 1), Nat.sub_succ_lt_self _ _ (by assumption), i + 1, g', h', tk', m', ps', led', oI₁, rfl, hlt, rfl, ?_, F', ?_, hne', hps', hms', hJ'⟩
      · refine W.frame _ _ _ st₁ fun b hb o e => ?_
        rcases List.mem_cons.mp hb with rfl | hb
        · rw [hoI] at e
          cases e
          exact (N' _ hmI).1
        · obtain ⟨q, hq, rfl⟩ := List.mem_map.mp hb
          have e1 := hsrc _ _ _ _ _ _ hJ F₁ N₁ q hq
          have e2 := hsrc _ _ _ _ _ _ hJ' F' Nl q hq
          rw [e1] at e
          cases e
          exact e2
      · intro p hp
        rcases List.mem_cons.mp hp with rfl | hp
        · exact N' _ hmI
        · exact Nl p hp
    cases f with
    | ret v => exact h₃
    | brk => exact h₃
    | cont => exact fin h₃
    | next => exact fin h₃
  · have hin : i = n := by omega
    subst hin
    refine W.done _ _ _ st fun h₁ tk₁ hk₁ => wpAny_execs_nil ?_
    obtain ⟨F₁, N₁⟩ := next h₁ hk₁
    rw [stB_eq hps hms] at F₁
    exact done g ps led m h₁ tk₁ hJ F₁ N₁
theorem TurnEndG.intro {L I : Addr} {oI : Obj} {stored : List Str} {J : Heap → List (Str × Value) → List (Addr × Obj) → Prop} {g h : Heap} {tk : Nat} {m : Str → Option Value} {ps : List (Str × Value)} {led news : List (Addr × Obj)} (hJ : J g ps led)
    (F : Fr g L h m) (N : News g L h news) (hI : (I, oI) ∈ news) (hsub : ∀ q ∈ led, q ∈ news) (hne : NeAll I led) (hps : ∀ q ∈ ps, m q.1 = some q.2)
    (hms : ∀ z, (∀ q ∈ ps, z ≠ q.1) → stored.contains z = false → m z = m₀ z) : TurnEndG L I oI stored m₀ J s { s with heap := h, toks := tk } := ⟨g, h, tk, m, ps, led, news, rfl, F, N, hI, hsub, hne, hps, hms, hJ⟩
noncomputable def LoopHere (prog : Program) (w : World) (A : Around) (env : Env) (target : PySem.Expr) (body : List Stmt) (Q : Flow → Shared → Prop) (E : Value → Shared → Prop) (it : Value) (s₂ : Shared) : Prop :=
  codeAny (model prog w) A (.forLoop target it body [] env) (fun r s' => match r with | .ok f => Q f s' | .error e => cameBackBy (model prog w) A env E e s') s₂
theorem For_here {iter : PySem.Expr} {pos : Pos}
    (h : wpAny (model prog w) A (eval iter env) (fun xv s₁ => wpAny (model prog w) A (pyIter xv) (fun it s₂ => LoopHere prog w A env target body Q E it s₂) E s₁) E s)
    (hs : ∀ x, foldedSetIterable iter env x = pure x := by intro _; rfl) :
    wpAny (model prog w) A (exec (.For target iter body [] pos) env) Q E s := wpAny_For h hs
theorem neAll_lt {d : Nat} : ∀ {l : List (Addr × Obj)}, (∀ p ∈ l, @LT.lt Nat _ p.1 d) → NeAll d l
  | [], _ => trivial
  | _ :: _, h => ⟨Nat.ne_of_gt (h _ (.head _)), neAll_lt fun r hr => h r (.tail _ hr)⟩
theorem for_list {stored : List Str} {L : Addr} {ps₀ : List (Str × Value)} {led₀ : List (Addr × Obj)} {l : Addr} {vs : List Value} {nl : Nat} (J : Nat → Heap → List (Str × Value) → List (Addr × Obj) → Prop)
    (hh : A.handled = none) (F : Fr g₀ L s.heap m₀) (N : News g₀ L s.heap led₀)
    (hsrc : ∀ i g ps led h m, J i g ps led → Fr g L h m → News g L h led → h.get? l = some (listOf vs.toArray nl))
    (hps : ∀ q ∈ ps₀, m₀ q.1 = some q.2) (j0 : J 0 g₀ ps₀ led₀)
    (turn : ∀ i v g ps led u h tk I oI, i < vs.length → vs[i]? = some v → J i g ps led → Fr g L h (kstB (stB stored u m₀) ps) → News g L h ((I, oI) :: led) → NeAll I led →
      wpAny (model prog w) A (assign target env v) (fun _ s₃ => wpAny (model prog w) A (execs body env) (TurnPostG L I oI stored m₀ (J (i + 1)) s Q) E s₃) E { s with heap := h, toks := tk })
    (done : ∀ g ps led u h tk, J vs.length g ps led → Fr g L h (kstB (stB stored u m₀) ps) → News g L h led → Q .next { s with heap := h, toks := tk })
    (hE : PassesOwn (model prog w) A env E := by passes_own) (hL : env.locals = L := by rfl) :
    wpAny (model prog w) A (pyIter (.ref l)) (fun it s₂ => LoopHere prog w A env target body Q E it s₂) E s := by
  subst hL
  have hl := hsrc _ _ _ _ _ _ j0 F N
  have hlt : l < s.heap.objs.size := Heap.lt_size hl
  have hl' : s.heap.IsList l vs.toArray := PySem.IsL.isList (n := nl) hl
  refine wpAny_pyIter_list hl' ?_
  refine loop_G (src := [(l, listOf vs.toArray nl)]) (n := vs.length) J (Walks.list hh s.heap.objs.size l (Nat.ne_of_lt hlt) vs.toArray) (fun i v s Q E st q => letGo_listiter st.1 q) (fun i h st => ?_) (fun i g ps led h m hj F N q hq => ?_)
    ⟨⟨_, Heap.get?_push_size _ rfl, rfl, rfl⟩, hl'.at fun o e => Heap.get?_push_of_some _ e⟩ (F.push _) (N.push F _) (neAll_lt fun p hp => Heap.lt_size (N p hp).1) hps j0 ?_ done hE
  · obtain ⟨it, hit, _⟩ := st.1
    exact ⟨it, hit⟩
  · rw [List.mem_singleton.mp hq]
    exact hsrc _ _ _ _ _ _ hj F N
  · intro i v g ps led u h tk oI hi hP
    exact turn i v g ps led u h tk _ oI hi (by simpa using hP)
theorem for_tup {stored : List Str} {L : Addr} {ps₀ : List (Str × Value)} {led₀ : List (Addr × Obj)} {l : Addr} {vs : List Value} {nl : Nat} (J : Nat → Heap → List (Str × Value) → List (Addr × Obj) → Prop)
    (hh : A.handled = none) (F : Fr g₀ L s.heap m₀) (N : News g₀ L s.heap led₀)
    (hsrc : ∀ i g ps led h m, J i g ps led → Fr g L h m → News g L h led → h.get? l = some { cls := .type "tuple", data := .seq vs.toArray nl })
    (hps : ∀ q ∈ ps₀, m₀ q.1 = some q.2) (j0 : J 0 g₀ ps₀ led₀)
    (turn : ∀ i v g ps led u h tk I oI, i < vs.length → vs[i]? = some v → J i g ps led → Fr g L h (kstB (stB stored u m₀) ps) → News g L h ((I, oI) :: led) → NeAll I led →
      wpAny (model prog w) A (assign target env v) (fun _ s₃ => wpAny (model prog w) A (execs body env) (TurnPostG L I oI stored m₀ (J (i + 1)) s Q) E s₃) E { s with heap := h, toks := tk })
    (done : ∀ g ps led u h tk, J vs.length g ps led → Fr g L h (kstB (stB stored u m₀) ps) → News g L h led → Q .next { s with heap := h, toks := tk })
    (hE : PassesOwn (model prog w) A env E := by passes_own) (hL : env.locals = L := by rfl) :
    wpAny (model prog w) A (pyIter (.ref l)) (fun it s₂ => LoopHere prog w A env target body Q E it s₂) E s := by
  subst hL
  have hl := hsrc _ _ _ _ _ _ j0 F N
  have hlt : l < s.heap.objs.size := Heap.lt_size hl
  have hl' : s.heap.IsTuple l vs.toArray := ⟨_, hl, rfl, nl, rfl⟩
  refine wpAny_pyIter_tuple hl' ?_
  refine loop_G (src := [(l, { cls := .type "tuple", data := .seq vs.toArray nl })]) (n := vs.length) J (Walks.tuple hh s.heap.objs.size l (Nat.ne_of_lt hlt) vs.toArray) (fun i v s Q E st q => letGo_tupleiter st.1 q) (fun i h st => ?_) (fun i g ps led h m hj F N q hq => ?_)
    ⟨⟨_, Heap.get?_push_size _ rfl, rfl, rfl⟩, hl'.at fun o e => Heap.get?_push_of_some _ e⟩ (F.push _) (N.push F _) (neAll_lt fun p hp => Heap.lt_size (N p hp).1) hps j0 ?_ done hE
  · obtain ⟨it, hit, _⟩ := st.1
    exact ⟨it, hit⟩
  · rw [List.mem_singleton.mp hq]
    exact hsrc _ _ _ _ _ _ hj F N
  · intro i v g ps led u h tk oI hi hP
    exact turn i v g ps led u h tk _ oI hi (by simpa using hP)
theorem for_tupK {stored : List Str} {L : Addr} {ps₀ : List (Str × Value)} {led₀ : List (Addr × Obj)} {l : Addr} {vs : List Value} {nl : Nat} (J : Nat → List (Str × Value) → Prop)
    (hh : A.handled = none) (F : Fr g₀ L s.heap m₀) (N : News g₀ L s.heap led₀)
    (hm : (l, ({ cls := .type "tuple", data := .seq vs.toArray nl } : Obj)) ∈ led₀)
    (hps : ∀ q ∈ ps₀, m₀ q.1 = some q.2) (j0 : J 0 ps₀)
    (turn : ∀ i v ps u h tk I oI, i < vs.length → vs[i]? = some v → J i ps → Fr g₀ L h (kstB (stB stored u m₀) ps) → News g₀ L h ((I, oI) :: led₀) → NeAll I led₀ →
      wpAny (model prog w) A (assign target env v) (fun _ s₃ => wpAny (model prog w) A (execs body env) (TurnPostG L I oI stored m₀ (fun g ps led => g = g₀ ∧ led = led₀ ∧ J (i + 1) ps) s Q) E s₃) E { s with heap := h, toks := tk })
    (done : ∀ ps u h tk, J vs.length ps → Fr g₀ L h (kstB (stB stored u m₀) ps) → News g₀ L h led₀ → Q .next { s with heap := h, toks := tk })
    (hE : PassesOwn (model prog w) A env E := by passes_own) (hL : env.locals = L := by rfl) :
    wpAny (model prog w) A (pyIter (.ref l)) (fun it s₂ => LoopHere prog w A env target body Q E it s₂) E s := by
  refine for_tup (stored := stored) (ps₀ := ps₀) (vs := vs) (nl := nl) (fun i g ps led => g = g₀ ∧ led = led₀ ∧ J i ps) hh F N ?_ hps ⟨rfl, rfl, j0⟩ ?_ ?_ hE hL
  · rintro i g ps led h m ⟨rfl, rfl, _⟩ _ N
    exact (N _ hm).1
  · rintro i v g ps led u h tk I oI hi hv ⟨rfl, rfl, j⟩ F N ne
    exact turn i v ps u h tk I oI hi hv j F N ne
  · rintro g ps led u h tk ⟨rfl, rfl, j⟩ F N
    exact done ps u h tk j F N
theorem for_listK {stored : List Str} {L : Addr} {ps₀ : List (Str × Value)} {led₀ : List (Addr × Obj)} {l : Addr} {vs : List Value} {nl : Nat} (J : Nat → List (Str × Value) → Prop)
    (hh : A.handled = none) (F : Fr g₀ L s.heap m₀) (N : News g₀ L s.heap led₀)
    (hm : (l, listOf vs.toArray nl) ∈ led₀)
    (hps : ∀ q ∈ ps₀, m₀ q.1 = some q.2) (j0 : J 0 ps₀)
    (turn : ∀ i v ps u h tk I oI, i < vs.length → vs[i]? = some v → J i ps → Fr g₀ L h (kstB (stB stored u m₀) ps) → News g₀ L h ((I, oI) :: led₀) → NeAll I led₀ →
      wpAny (model prog w) A (assign target env v) (fun _ s₃ => wpAny (model prog w) A (execs body env) (TurnPostG L I oI stored m₀ (fun g ps led => g = g₀ ∧ led = led₀ ∧ J (i + 1) ps) s Q) E s₃) E { s with heap := h, toks := tk })
    (done : ∀ ps u h tk, J vs.length ps → Fr g₀ L h (kstB (stB stored u m₀) ps) → News g₀ L h led₀ → Q .next { s with heap := h, toks := tk })
    (hE : PassesOwn (model prog w) A env E := by passes_own) (hL : env.locals = L := by rfl) :
    wpAny (model prog w) A (pyIter (.ref l)) (fun it s₂ => LoopHere prog w A env target body Q E it s₂) E s := by
  refine for_list (stored := stored) (ps₀ := ps₀) (vs := vs) (nl := nl) (fun i g ps led => g = g₀ ∧ led = led₀ ∧ J i ps) hh F N ?_ hps ⟨rfl, rfl, j0⟩ ?_ ?_ hE hL
  · rintro i g ps led h m ⟨rfl, rfl, _⟩ _ N
    exact (N _ hm).1
  · rintro i v g ps led u h tk I oI hi hv ⟨rfl, rfl, j⟩ F N ne
    exact turn i v ps u h tk I oI hi hv j F N ne
  · rintro g ps led u h tk ⟨rfl, rfl, j⟩ F N
    exact done ps u h tk j F N
end
-- LINES
theorem words_08_11 : True := by
  k_with "my nostop2" => (fail_if_success (with_reducible show wpAny _ _ (pyIter _) (fun _ _ => LoopHere _ _ _ _ _ _ _ _ _ _) _ _))
  k_with "my stored" => (intro z h2 h3; first
    | rfl
    | ((try simp only [List.forall_mem_cons, List.not_mem_nil, false_implies, implies_true, and_true, ne_eq] at h2); (try simp only [List.contains_cons, List.contains_nil, Bool.or_false, Bool.or_eq_false_iff, beq_eq_false_iff_ne, ne_eq] at h3); (simp +zetaDelta [h2, h3, kstB, stB]; done)))
  k_with "my ps" => first | exact List.forall_mem_nil _ | (refine List.forall_mem_cons.mpr ⟨by rfl, ?_⟩; k_extra "my ps")
  k_with "my turn" => ((show TurnEndG _ _ _ _ _ _ _ _); (try dsimp only); k_dflt (refine' TurnEndG.intro ?zj ?zF ?zN ?zI ?zsub ?zne ?zps ?zms); (case zF => k_asm); (case zN => k_asm); (case' zj => skip))
  k_with "my turned" => ((case zI => k_mem); (case zsub => k_extra "my sub"); (case zne => k_extra "my neAll"); (case zps => k_extra "my ps"); (case zms => k_extra "my stored"))
  k_with "my neAll" => ((try simp only [NeAll, and_true]); first | exact trivial | ((repeat' apply And.intro); all_goals (k_extra "my ne1")))
  k_with "my loopstop" => skip
  k_with "my steps" => repeat' (k_extra "my nostop"; k_extra "my loopstop"; first | (k_unfold; (try dsimp only)) | walk1 | (dsimp only; walk1))
  k_with "my apne" => ((replace ne := apAll_of fun r hr => (NeAll.all ne r hr).symm); (simp only [ApAll, and_true] at ne); k_extra "my aps")
  trivial
-- END LINES

section
variable {prog : Program} {w : World} {A : Around} {E : Value → Shared → Prop} {s : Shared} {b c : List UInt8} {t u : Tok} {Q : Value → Shared → Prop}
theorem noI_bytes_add : typeLookup (.type "bytes") (dunderI "add") = pure none := by rw [typeLookup_type, builtinLookup_eq_fast]; kernel_rfl
theorem my_iadd (hsz : b.length + c.length ≤ 16777216) (h : ∀ t' k, Q (.bytes (b ++ c).toArray t') { s with toks := k }) : wpAny (model prog w) A (inplaceOp .Add (.bytes b.toArray t) (.bytes c.toArray u)) Q E s := by
  refine iconcat_gives (typeIs_bytes s _ t) (typeIs_bytes s _ u) noI_bytes_add KBy.noFill_bytes_add KBy.seq_bytes_add FB.slot_bytes_add FB.entry_bytes_add (FB.args_bytes_add_2 _ _) (KBy.gives_bytes_add (KBy.tooLong_not (by rw [List.size_toArray, List.size_toArray]; exact hsz))) ?_
  cases b with
  | nil => exact h u s.toks
  | cons b0 br =>
    cases c with
    | nil =>
      have h' := h t s.toks
      rw [List.append_nil] at h'
      exact h'
    | cons c0 cr =>
      exact ⟨by rw [Array.size_append, sizeLine_eq, List.size_toArray, List.size_toArray]; exact hsz, by rw [List.append_toArray]; exact h s.toks (s.toks + 1)⟩
end
-- LINES
theorem words_09_12 : True := by
  k_with "inplaceOp Add bytes bytes" => (k_dflt (((refine my_iadd (by k_extra "my size") ?_); intro t' k')))
  trivial
-- END LINES
section
variable {w : World} {A : Around} {base g : Heap} {outer : List Env} {s : Shared}
  {p : Program} {loose : List Str} {mean : ExcName → Option Value} {mg mb : Str → Option Value} {R : Result → Shared → Prop}
  {st pg : Addr} {vs : List Value} {n : Nat} {P : List (List UInt8)} {x dx : Addr} {a1 a2 a3 a4 a5 a6 a7 a8 : Int} {k1 k2 k3 k4 k5 k6 k7 k8 t1 t2 t3 t4 t5 t6 t7 t8 : Tok} {ps pc ft fc : Nat}

noncomputable def hdrI (ps pc ft fc : Nat) : Nat → List UInt8
  | 0 => MAG ++ b2 ps
  | 1 => MAG ++ b2 ps ++ b4 0
  | 2 => MAG ++ b2 ps ++ b4 0 ++ b4 pc
  | 3 => MAG ++ b2 ps ++ b4 0 ++ b4 pc ++ b4 ft
  | 4 => MAG ++ b2 ps ++ b4 0 ++ b4 pc ++ b4 ft ++ b4 fc
  | _ => MAG ++ b2 ps ++ b4 0 ++ b4 pc ++ b4 ft ++ b4 fc ++ b4 0
noncomputable def fiveN (pc ft fc : Nat) : Nat → Nat
  | 1 => pc
  | 2 => ft
  | 3 => fc
  | _ => 0
theorem hdrI_succ (i : Nat) (h : i < 5) : hdrI ps pc ft fc (i + 1) = hdrI ps pc ft fc i ++ b4 (fiveN pc ft fc i) := by
  rcases i with _ | _ | _ | _ | _ | i <;> first | rfl | omega
theorem hdrI_length (i : Nat) (h : i ≤ 5) : (hdrI ps pc ft fc i).length = 10 + 4 * i := by
  rcases i with _ | _ | _ | _ | _ | _ | i <;> first | rfl | omega
theorem pack_spec (H : Pre p loose mean mg mb w A base outer g s []) (hd : Room A 1) (hx : g.get? x = some (instObj 281 dx))
  (hdx : g.get? dx = some (hdrD a1 a2 a3 a4 a5 a6 a7 a8 k1 k2 k3 k4 k5 k6 k7 k8 t1 t2 t3 t4 t5 t6 t7 t8 ps (0 : Nat) pc ft fc (0 : Nat) (0 : Nat) (0 : Nat))) (h1 : ps < 65536) (h2 : pc < 4294967296) (h3 : ft < 4294967296) (h4 : fc < 4294967296)
  (k : ∀ t h' tk, Post g h' [] → R (.ok (.ret (.bytes (hdrL ps pc ft fc).toArray t))) { s with heap := h', toks := tk }) :
  codeAny (model PySem.Challenge.rw_nt0105_01.row.prog w) A (.call (.ref 270) ⟨[.ref x], []⟩) R s := by
  revert w A base g outer s p loose mean mg mb R x dx a1 a2 a3 a4 a5 a6 a7 a8 k1 k2 k3 k4 k5 k6 k7 k8 t1 t2 t3 t4 t5 t6 t7 t8 ps pc ft fc; refine @(close2 ?_); generalize cx2 _ = X; k_extra "my ctx"; generalize X.2.1 = x, X.2.2 = dx; intro a1 a2 a3 a4 a5 a6 a7 a8 k1 k2 k3 k4 k5 k6 k7 k8 t1 t2 t3 t4 t5 t6 t7 t8 ps pc ft fc; intro H hd hx hdx h1 h2 h3 h4 k
  k_extra "my enterX"
  k_extra "my steps"
  refine For_here ?_
  k_extra "my steps"
  try dsimp only
  refine for_tupK (stored := [Str.ofString "number"]) (ps₀ := [(Str.ofString "found", .bytes (hdrI ps pc ft fc 0).toArray _)]) (fun i ps' => ∃ t, ps' = [(Str.ofString "found", .bytes (hdrI ps pc ft fc i).toArray t)]) (by k_extra "my hh") (by k_asm) (by k_asm) (by k_mem) (by k_extra "my ps") ⟨_, rfl⟩ ?_ ?_
  · rintro i v ps' u h tk I oI hi hv ⟨t, rfl⟩ F N ne
    have hi' : i < 5 := hi
    obtain ⟨t, rfl⟩ : ∃ t, v = .int (fiveN pc ft fc i : Nat) t := by
      rcases i with _ | _ | _ | _ | _ | i <;> first | omega | exact ⟨_, (Option.some.inj hv).symm⟩
    have hf : fiveN pc ft fc i < 4294967296 := by
      rcases i with _ | _ | _ | _ | _ | i <;> simp only [fiveN] <;> omega
    have hlen := hdrI_length (ps := ps) (pc := pc) (ft := ft) (fc := fc) i (by omega)
    clear hi hv
    k_extra "my apne"
    k_extra "my steps"
    rw [hdrI_succ i hi']
    k_extra "my turn"
    refine ⟨rfl, rfl, ?_, rfl⟩
    k_extra "my turned"
  · rintro ps' u h tk ⟨t, rfl⟩ F N
    have hlen := hdrI_length (ps := ps) (pc := pc) (ft := ft) (fc := fc) 5 (by omega)
    try dsimp only
    k_extra "my steps"
    exact k _ _ _ (by k_extra "my post")
end

section
theorem hdr_take8 (ps pc ft fc : Nat) (r : List UInt8) : (hdrL ps pc ft fc ++ r).take 8 = MAG := rfl
theorem hdr_ps (ps pc ft fc : Nat) (r : List UInt8) : ((hdrL ps pc ft fc ++ r).drop 8).take 2 = b2 ps := rfl
theorem hdr_cc (ps pc ft fc : Nat) (r : List UInt8) : ((hdrL ps pc ft fc ++ r).drop 10).take 4 = b4 0 := rfl
theorem hdr_pc (ps pc ft fc : Nat) (r : List UInt8) : ((hdrL ps pc ft fc ++ r).drop 14).take 4 = b4 pc := rfl
theorem hdr_ft (ps pc ft fc : Nat) (r : List UInt8) : ((hdrL ps pc ft fc ++ r).drop 18).take 4 = b4 ft := rfl
theorem hdr_fc (ps pc ft fc : Nat) (r : List UInt8) : ((hdrL ps pc ft fc ++ r).drop 22).take 4 = b4 fc := rfl
theorem hdr_sc (ps pc ft fc : Nat) (r : List UInt8) : ((hdrL ps pc ft fc ++ r).drop 26).take 4 = b4 0 := rfl
theorem hdr_30 (ps pc ft fc : Nat) (r : List UInt8) : (hdrL ps pc ft fc ++ r)[30]? = some 0 := rfl
theorem hdr_31 (ps pc ft fc : Nat) (r : List UInt8) : (hdrL ps pc ft fc ++ r)[31]? = some 0 := rfl
theorem hdr_drop (ps pc ft fc : Nat) (r : List UInt8) : (hdrL ps pc ft fc ++ r).drop 32 = r := rfl
variable {w : World} {A : Around} {base g : Heap} {outer : List Env} {s : Shared}
  {p : Program} {loose : List Str} {mean : ExcName → Option Value} {mg mb : Str → Option Value} {R : Result → Shared → Prop}
  {st pg : Addr} {vs : List Value} {n : Nat} {P : List (List UInt8)} {x dx : Addr} {ps pc ft fc : Nat} {rest : List UInt8}

theorem read_header_spec (H : Pre p loose mean mg mb w A base outer g s []) (hd : Room A 3) (S : IsStore g st pg (ps : Int)) (hpg : g.get? pg = some (listOf vs.toArray n)) (hP : BytesAre vs P) (hn : P.length < 1000)
  (h0 : P[0]? = some (hdrL ps pc ft fc ++ rest)) (hr : rest.length < 500) (hp1 : 64 ≤ ps) (hp2 : ps ≤ 128) (hpc : pc < 4294967296) (hft : ft < 4294967296) (hfc : fc < 4294967296)
  (k : ∀ x dx a1 a2 a3 a4 a5 a6 a7 a8 k1 k2 k3 k4 k5 k6 k7 k8 t1 t2 t3 t4 t5 t6 t7 t8 h' tk, Post g h' [(x, instObj 281 dx), (dx, hdrD a1 a2 a3 a4 a5 a6 a7 a8 k1 k2 k3 k4 k5 k6 k7 k8 t1 t2 t3 t4 t5 t6 t7 t8 (ps : Nat) (0 : Nat) (P.length : Nat) (ft : Nat) (fc : Nat) (0 : Nat) (0 : Nat) (0 : Nat))] →
    R (.ok (.ret (.ref x))) { s with heap := h', toks := tk }) :
  codeAny (model PySem.Challenge.rw_nt0105_01.row.prog w) A (.call (.ref 376) ⟨[.ref st], []⟩) R s := by
  revert w A base g outer s p loose mean mg mb R st pg vs n P ps pc ft fc rest; refine @(close10 ?_); generalize cx10 _ = X; k_extra "my ctx"; generalize X.2.1 = st, X.2.2.1 = pg, X.2.2.2.1 = vs, X.2.2.2.2.1 = n, X.2.2.2.2.2.1 = P, X.2.2.2.2.2.2.1 = ps, X.2.2.2.2.2.2.2.1 = pc, X.2.2.2.2.2.2.2.2.1 = ft, X.2.2.2.2.2.2.2.2.2.1 = fc, X.2.2.2.2.2.2.2.2.2.2 = rest; intro H hd S hpg hP hn h0 hr hp1 hp2 hpc hft hfc k
  have S' := S
  have hl := hP.length
  have hpl := isl_got hpg
  have hv : vs ≠ [] := fun e => by rw [e] at hl; rw [List.getElem?_eq_none (by rw [← hl]; exact Nat.zero_le _)] at h0; cases h0
  have e8 := hdr_take8 ps pc ft fc rest
  have eps := (congrArg be (hdr_ps ps pc ft fc rest)).trans (be_b2 (by omega))
  have ecc := (congrArg be (hdr_cc ps pc ft fc rest)).trans (be_b4 (by omega))
  have eft := (congrArg be (hdr_ft ps pc ft fc rest)).trans (be_b4 hft)
  have efc := (congrArg be (hdr_fc ps pc ft fc rest)).trans (be_b4 hfc)
  have esc := (congrArg be (hdr_sc ps pc ft fc rest)).trans (be_b4 (by omega))
  have hlen : (hdrL ps pc ft fc ++ rest).length = 32 + rest.length := by rw [List.length_append]; rfl
  have h30 := hdr_30 ps pc ft fc rest
  have h31 := hdr_31 ps pc ft fc rest
  generalize hL : hdrL ps pc ft fc ++ rest = l at *
  k_extra "my enterX"
  k_extra "my steps"
  with_reducible rename News _ _ _ _ => N'
  rw [eps, ecc, eft, efc, esc, hl] at N'
  exact k _ _ _ _ _ _ _ _ _ _ _ _ _ _ _ _ _ _ _ _ _ _ _ _ _ _ _ _ (by k_extra "my post")

theorem read_header0_spec (H : Pre p loose mean mg mb w A base outer g s []) (hd : Room A 3) (S : IsStore g st pg (ps : Int)) (hpg : g.get? pg = some (listOf #[] n))
  (k : ∀ x dx a1 a2 a3 a4 a5 a6 a7 a8 k1 k2 k3 k4 k5 k6 k7 k8 t1 t2 t3 t4 t5 t6 t7 t8 h' tk, Post g h' [(x, instObj 281 dx), (dx, hdrD a1 a2 a3 a4 a5 a6 a7 a8 k1 k2 k3 k4 k5 k6 k7 k8 t1 t2 t3 t4 t5 t6 t7 t8 (ps : Nat) (0 : Nat) (0 : Nat) (0 : Nat) (0 : Nat) (0 : Nat) (0 : Nat) (0 : Nat))] →
    R (.ok (.ret (.ref x))) { s with heap := h', toks := tk }) :
  codeAny (model PySem.Challenge.rw_nt0105_01.row.prog w) A (.call (.ref 376) ⟨[.ref st], []⟩) R s := by
  revert w A base g outer s p loose mean mg mb R st pg n ps; refine @(close4 ?_); generalize cx4 _ = X; k_extra "my ctx"; generalize X.2.1 = st, X.2.2.1 = pg, X.2.2.2.1 = n, X.2.2.2.2 = ps; intro H hd S hpg k
  have S' := S
  have hpl : g.IsList pg (List.toArray []) := isl_got hpg
  k_extra "my enterX"
  k_extra "my steps"
  exact k _ _ _ _ _ _ _ _ _ _ _ _ _ _ _ _ _ _ _ _ _ _ _ _ _ _ _ _ (by k_extra "my post")
end

-- LINES
theorem words_11_13 : True := by
  k_with "my size" => (simp only [hdrL_length, List.length_drop, List.length_replicate]; omega)
  k_with "z call ref" => ((with_reducible show wpAny _ _ (call (Value.ref 270) _) _ _ _); refine my_call ?_; k_dflt (refine' pack_spec ?zH ?zd ?zgot ?zgot2 ?zh1 ?zh2 ?zh3 ?zh4 ?_; (case zH => k_extra "my pre0"); (case zd => k_extra "my depth"); (case zgot => k_extra "my got"); (case zgot2 => k_extra "my got"); (case zh1 => omega); (case zh2 => k_extra "my len"); (case zh3 => omega); (case zh4 => omega)); intro t' h' tk' P'; k_extra "my back0")
  trivial
-- END LINES
section
variable {w : World} {A : Around} {base g : Heap} {outer : List Env} {s : Shared}
  {p : Program} {loose : List Str} {mean : ExcName → Option Value} {mg mb : Str → Option Value} {R : Result → Shared → Prop}
  {st pg : Addr} {vs : List Value} {n : Nat} {P : List (List UInt8)} {x dx : Addr} {ps : Nat} {b0 : List UInt8} {a1 a2 a3 a4 a5 a6 a7 a8 : Int} {k1 k2 k3 k4 k5 k6 k7 k8 t1 t2 t3 t4 t5 t6 t7 t8 : Tok} {c1 c3 c4 c5 : Int}

theorem write_header_spec (H : Pre p loose mean mg mb w A base outer g s [(pg, listOf vs.toArray n), (dx, hdrD a1 a2 a3 a4 a5 a6 a7 a8 k1 k2 k3 k4 k5 k6 k7 k8 t1 t2 t3 t4 t5 t6 t7 t8 c1 (0 : Nat) c3 c4 c5 (0 : Nat) (0 : Nat) (0 : Nat))]) (hpd : @Ne Nat pg dx) (hx : g.get? x = some (instObj 281 dx)) (hd : Room A 3) (S : IsStore g st pg (ps : Int)) (hP : BytesAre vs P) (hn : P.length < 1000)
  (h0 : P[0]? = some b0) (hr : b0.length < 500) (hp2 : ps ≤ 128) (h4 : 0 ≤ c4) (h4' : c4 < 4294967296) (h5 : 0 ≤ c5) (h5' : c5 < 4294967296)
  (k : ∀ vs' h' tk, BytesAre vs' (P.set 0 (hdrL ps P.length c4.toNat c5.toNat ++ b0.drop 32)) → Post g h' [(pg, listOf vs'.toArray n)] →
    R (.ok (.ret .none)) { s with heap := h', toks := tk }) :
  codeAny (model PySem.Challenge.rw_nt0105_01.row.prog w) A (.call (.ref 383) ⟨[.ref st, .ref x], []⟩) R s := by
  have S' := S
  have hl := hP.length
  have hlt : 0 < P.length := (List.getElem?_eq_some_iff.mp h0).1
  have hv : vs ≠ [] := fun e => by rw [e] at hl; exact absurd hlt (by rw [← hl]; exact Nat.lt_irrefl 0)
  obtain ⟨ft, rfl⟩ := Int.eq_ofNat_of_zero_le h4
  obtain ⟨fc, rfl⟩ := Int.eq_ofNat_of_zero_le h5
  rw [Int.toNat_natCast, Int.toNat_natCast] at k
  have hhl := hdrL_length ps vs.length ft fc
  k_extra "my enter"
  k_extra "my steps"
  rw [← hl] at k
  exact k _ _ _ (hP.set _ _ _) (by k_extra "my post")
theorem write_header0_spec (H : Pre p loose mean mg mb w A base outer g s [(pg, listOf (List.toArray []) n), (dx, hdrD a1 a2 a3 a4 a5 a6 a7 a8 k1 k2 k3 k4 k5 k6 k7 k8 t1 t2 t3 t4 t5 t6 t7 t8 (ps : Nat) (0 : Nat) (0 : Nat) (0 : Nat) (0 : Nat) (0 : Nat) (0 : Nat) (0 : Nat))]) (hpd : @Ne Nat pg dx) (hx : g.get? x = some (instObj 281 dx)) (hd : Room A 3) (S : IsStore g st pg (ps : Int))
  (hp1 : 32 ≤ ps) (hp2 : ps ≤ 128)
  (k : ∀ vs' h' tk, BytesAre vs' [hdrL ps 1 0 0 ++ List.replicate (ps - 32) 0] → Post g h' [(pg, listOf vs'.toArray (n + 1))] →
    R (.ok (.ret .none)) { s with heap := h', toks := tk }) :
  codeAny (model PySem.Challenge.rw_nt0105_01.row.prog w) A (.call (.ref 383) ⟨[.ref st, .ref x], []⟩) R s := by
  have S' := S
  have hhl := hdrL_length ps 1 0 0
  k_extra "my enter"
  k_extra "my steps"
  with_reducible rename News _ _ _ _ => N'
  have e : ((List.replicate (ps : Int).toNat (0 : UInt8)).drop 32) = List.replicate (ps - 32) 0 := by rw [Int.toNat_natCast, List.drop_replicate]
  rw [← e] at k
  refine' k [Value.bytes (hdrL ps 1 0 0 ++ List.drop 32 (List.replicate (ps : Int).toNat 0)).toArray _] _ _ (BytesAre.cons _ _ .nil) ?z
  case z => k_extra "my post"
end
-- LINES
theorem words_11_14 : True := by
  k_with "z call ref" => ((with_reducible show wpAny _ _ (call (Value.ref 376) _) _ _ _); refine my_call ?_; k_dflt (refine' read_header_spec ?zH ?zd (IsStore.keeps ?zS ?zS2) ?zgot ?zP ?zn ?zh0 ?zh1 ?zh2 ?zh3 ?zh4 ?zh5 ?zh6 ?_; (case zS => assumption); (case zH => k_extra "my pre0"); (case zS2 => k_extra "my stays0"); (case zgot => k_extra "my got"); (case zd => k_extra "my depth"); (case zP => with_reducible assumption); (case zn => k_extra "my len"); (case zh0 => assumption); (case zh1 => omega); (case zh2 => omega); (case zh3 => omega); (case zh4 => omega); (case zh5 => omega); (case zh6 => omega)); intro x' dx' a1' a2' a3' a4' a5' a6' a7' a8' k1' k2' k3' k4' k5' k6' k7' k8' t1' t2' t3' t4' t5' t6' t7' t8' h' tk' P'; k_extra "my backN")
  trivial
-- END LINES

section
open Builtin
theorem slot_bytes_join : Slot "bytes" "join" "bytes.join" :=
  .of (owner := "bytes") (n := "join") (by rw [typeLookup_type, builtinLookup_eq_fast]; kernel_rfl) (by decide +kernel) (by decide +kernel) (by decide +kernel)
    (by first | exact .inl (by decide +kernel) | exact .inr (by decide +kernel)) (by rw [isSubtype_type]; kernel_rfl)
theorem type_bytes_join : typeOf (.builtin "bytes.join") = pure (.type "method_descriptor") := by show builtinType _ = _; rw [builtinType_eq_fast]; kernel_rfl
theorem entry_bytes_join : entryFor table "bytes.join" = some Builtin.«bytes.join» := entryFor_of_tree (by kernel_rfl)
theorem args_bytes_join (a b : Value) : argsOk "bytes.join" ⟨[a, b], []⟩ := by
  unfold argsOk; rw [signature?_of (id := "bytes.join") (n := ['n', 'i', 'o', 'j']) (o := ['s', 'e', 't', 'y', 'b']) (by kernel_rfl) FB.owner_bytes]; kernel_rfl
theorem joined_nil (P : List (List UInt8)) : Bytes.joined #[] (P.map List.toArray) = P.flatten.toArray := by
  have key : ∀ (P : List (List UInt8)) (k : Nat) (acc : List UInt8), ((P.map List.toArray).zipIdx k).foldl (fun out (x : Array UInt8 × Nat) => (if x.2 > 0 then out ++ #[] else out) ++ x.1) acc.toArray = (acc ++ P.flatten).toArray := by
    intro P
    induction P with
    | nil => intro k acc; simp
    | cons l r ih =>
      intro k acc
      rw [List.map_cons, List.zipIdx_cons, List.foldl_cons]
      have e : ((if k > 0 then acc.toArray ++ #[] else acc.toArray) ++ l.toArray : Array UInt8) = (acc ++ l).toArray := by
        rw [Array.append_empty, ite_self]; simp
      show List.foldl _ ((if k > 0 then acc.toArray ++ #[] else acc.toArray) ++ l.toArray) _ = _
      rw [e, ih, List.flatten_cons, List.append_assoc]
  exact key P 0 []
theorem joinItems_list {M : Model} {A : Around} {E : Value → Shared → Prop} {s : Shared} {a : Addr} {its : Array Value} {Q : Value → Shared → Prop} (hl : s.heap.IsList a its) (h : Q (.ref a) s) : wpAny M A (Bytes.joinItems (.ref a)) Q E s := by
  unfold Bytes.joinItems
  refine wpAny_bind (wpAny_typeOf (Heap.IsList.typeIs hl) ?_)
  exact bm_if_true rfl (wpAny_pure h)
theorem seqItems_list {M : Model} {A : Around} {E : Value → Shared → Prop} {s : Shared} {a : Addr} {its : Array Value} {Q : Option (Array Value) → Shared → Prop} (hl : s.heap.IsList a its) (h : Q (some its) s) : wpAny M A (seqItems? (.ref a)) Q E s := by
  obtain ⟨o, ho, hc, n, hd⟩ := hl
  show wpAny M A (load a >>= fun o => match o.data with | .seq xs _ => pure (some xs) | _ => pure none) Q E s
  refine wpAny_bind (wpAny_load ho ?_)
  rw [hd]
  exact wpAny_pure h
theorem take_eq {id : String} {b : Array UInt8} {t : Tok} : Bytes.takeBuffer? id (.bytes b t) 0 = pure (some (b, none)) := by
  unfold Bytes.takeBuffer?
  rw [KBy.special_eq KBy.look_buffer, KBy.own_buffer]
  show (do let r ← Bytes.buffer? id (.bytes b t) (full := (0 : Int) == Bytes.fullReadOnly); pure (r.map (·, none))) = _
  have e : ((0 : Int) == Bytes.fullReadOnly) = false := by decide +kernel
  rw [e, KBy.buffer_eq]
  rfl
theorem takeQ_eq {id : String} {b : Array UInt8} {t : Tok} : Bytes.takeBufferQuiet? id (.bytes b t) 0 = pure (some (b, none)) := by
  unfold Bytes.takeBufferQuiet?
  rw [take_eq]
  rfl
theorem letGo_wp {M : Model} {A : Around} {E : Value → Shared → Prop} {s : Shared} {Q : Unit → Shared → Prop} (keep : List Value) : ∀ l : List Value, Q () s → wpAny M A (Bytes.joinLetGo (l.map fun v => (v, none)) keep) Q E s
  | [], h => wpAny_pure h
  | v :: r, h => by
    show wpAny M A (do
      if let some w := (none : Option Value) then holding (v :: w :: (keep ++ (r.map fun v => (v, (none : Option Value))).flatMap fun (y, u) => y :: u.toList)) (Bytes.giveBack w)
      PySem.letGo (v :: (none : Option Value).toList) (keep ++ (r.map fun v => (v, (none : Option Value))).flatMap fun (y, u) => y :: u.toList)
      Bytes.joinLetGo (r.map fun v => (v, none)) keep) Q E s
    refine wpAny_bind ?_
    show wpAny M A (do holding ([] ++ _) point; PySem.letGo [] _) _ E s
    refine wpAny_bind (wpAny_holding (wpAny_point ?_))
    exact wpAny_pure (letGo_wp keep r h)
theorem noHeap {vs : List Value} {P : List (List UInt8)} (hP : BytesAre vs P) : ∀ i : Nat, ((vs.take i).map fun v => (v, (none : Option Value))).any (·.1.onHeap) = false := by
  induction hP with
  | nil => intro i; simp
  | cons l t _ ih =>
    intro i
    cases i with
    | zero => rfl
    | succ i => rw [List.take_succ_cons, List.map_cons, List.any_cons, ih i]; rfl
theorem flatten_sum (P : List (List UInt8)) : (P.map List.toArray).toArray.foldl (fun x1 x2 => x1 + x2.size) 0 = P.flatten.length := by
  have key : ∀ (P : List (List UInt8)) (k : Nat), (P.map List.toArray).foldl (fun x1 x2 => x1 + x2.size) k = k + P.flatten.length := by
    intro P
    induction P with
    | nil => intro k; rfl
    | cons l r ih =>
      intro k
      rw [List.map_cons, List.foldl_cons, ih, List.flatten_cons, List.length_append, List.size_toArray, Nat.add_assoc]
  rw [List.foldl_toArray, key, Nat.zero_add]
theorem BytesAre.at {vs : List Value} {P : List (List UInt8)} (h : BytesAre vs P) : ∀ (i : Nat), i < vs.length → ∃ (l : List UInt8) (t : Tok), vs[i]? = some (.bytes l.toArray t) ∧ P[i]? = some l := by
  induction h with
  | nil => intro i h; exact absurd h (Nat.not_lt_zero _)
  | cons l t _ ih =>
    intro i h
    cases i with
    | zero => exact ⟨l, t, rfl, rfl⟩
    | succ i => exact ih i (Nat.lt_of_succ_lt_succ h)
theorem join_loop {M : Model} {A : Around} {E : Value → Shared → Prop} {s : Shared} {vs : List Value} {P : List (List UInt8)} (hP : BytesAre vs P) {f : Nat → (Array (Array UInt8) × List (Value × Option Value)) → Sem (ForInStep (Array (Array UInt8) × List (Value × Option Value)))} {Q : (Array (Array UInt8) × List (Value × Option Value)) → Shared → Prop} {n : Nat} (hn : n = vs.length)
    (hf : ∀ (i : Nat) (l : List UInt8) (t : Tok) (parts : Array (Array UInt8)) (tk : List (Value × Option Value)), vs[i]? = some (.bytes l.toArray t) → tk.any (·.1.onHeap) = false → wpAny M A (f i (parts, tk)) (fun r s' => r = .yield (parts.push l.toArray, tk ++ [(.bytes l.toArray t, none)]) ∧ s' = s) E s)
    (hQ : Q ((P.map List.toArray).toArray, vs.map fun v => (v, none)) s) : wpAny M A (forIn (List.range' 0 n 1) ((#[], []) : Array (Array UInt8) × List (Value × Option Value)) f) Q E s := by
  subst hn
  refine wpAny_forIn_list f (fun rest b s' => ∃ i, i ≤ vs.length ∧ rest = List.range' i (vs.length - i) 1 ∧ b = (((P.take i).map List.toArray).toArray, (vs.take i).map fun v => (v, none)) ∧ s' = s) Q ?_ ?_ _ _ ⟨0, Nat.zero_le _, rfl, rfl, rfl⟩
  · rintro x rest b s' ⟨i, hi, hr, rfl, rfl⟩
    obtain ⟨k, hk⟩ : ∃ k, vs.length - i = k + 1 := by
      cases e : vs.length - i with
      | zero => rw [e] at hr; cases hr
      | succ k => exact ⟨k, rfl⟩
    rw [hk, List.range'_succ] at hr
    injection hr with hx hr
    subst hx hr
    obtain ⟨l, t, hv, hp⟩ := hP.at x (by omega)
    refine wpAny_mono (hf x l t _ _ hv (noHeap hP x)) (fun r s₂ h => ?_) fun _ _ h => h
    obtain ⟨rfl, rfl⟩ := h
    refine ⟨x + 1, by omega, by rw [n_sub2 (by assumption)], ?_, rfl⟩
    rw [List.take_add_one, List.take_add_one, hv, hp]
    simp
  · rintro b s' ⟨i, hi, hr, rfl, rfl⟩
    have e : i = vs.length := by
      cases e : vs.length - i with
      | zero => omega
      | succ k => rw [e, List.range'_succ] at hr; cases hr
    subst e
    rw [List.take_length, hP.length, List.take_length]
    exact hQ
theorem getD_arr {vs : List Value} {i : Nat} {v : Value} (h : vs[i]? = some v) : vs.toArray.getD i Value.none = v := by
  rw [Array.getD_eq_getD_getElem?, List.getElem?_toArray, h]; rfl
theorem meets_join {a : Addr} {vs : List Value} {P : List (List UInt8)} {t : Tok} (hP : BytesAre vs P) (hz : P.flatten.length ≤ 16777216) :
    Meets («bytes.join» ⟨[.bytes (List.toArray []) t, .ref a], []⟩) (fun _ R s => s.heap.IsList a vs.toArray ∧ ∀ t' k, R (.ok (.ret (.bytes P.flatten.toArray t'))) { s with toks := k }) := by
  refine .of_wp fun prog w A R s hS => ?_
  obtain ⟨hl, h⟩ := hS
  unfold «bytes.join» Bytes.joinM
  refine wpAny_bind (wpAny_of_eq (a := (Value.bytes (List.toArray []) t, Value.ref a)) rfl ?_)
  refine bm_if_true rfl ?_
  refine wpAny_bind (joinItems_list hl ?_)
  refine wpAny_bind (seqItems_list hl ?_)
  refine bm_if_true rfl ?_
  have hP' := hP
  rcases hP with _ | ⟨l, t', _ | ⟨l2, t2, r⟩⟩
  case cons.nil =>
    refine wpAny_bind (wpAny_typeOf (typeIs_bytes _ _ _) ?_)
    refine bm_if_true rfl ?_
    refine wpAny_bind (wpAny_rule ?_)
    refine wpAny_pure ⟨_, rfl, ?_⟩
    have := h t' s.toks
    rw [show [l].flatten = l from by simp] at this
    exact this
  all_goals
    refine wpAny_bind ?_
    rw [Std.Legacy.Range.forIn_eq_forIn_range']
    refine join_loop hP' (by simp [Std.Legacy.Range.size]) (fun i l' t'' parts tk hv ha => ?_) ?_
    · refine wpAny_bind (seqItems_list hl ?_)
      try dsimp only
      rw [getD_arr hv]
      refine bm_if_false (by rw [ha]; rfl) ?_
      refine wpAny_bind (wpAny_holding (wpAny_of_eq takeQ_eq ?_))
      refine wpAny_bind (seqItems_list hl ?_)
      refine bm_if_false (by simp) ?_
      exact wpAny_pure ⟨rfl, rfl⟩
    · refine wpAny_bind (wpAny_of_eq (a := #[]) rfl ?_)
      refine bm_if_false ?_ ?_
      · rw [show ((#[] : Array UInt8).size * _) = 0 from Nat.zero_mul _, flatten_sum]
        exact KBy.tooLong_not hz
      rw [show (Bytes.joined #[] _) = _ from joined_nil _]
      refine wpAny_bind (wpAny_mkBytes ?_ (by rw [List.size_toArray, sizeLine_eq]; exact hz))
      refine wpAny_bind (wpAny_holding (wpAny_point ?_))
      refine wpAny_bind (letGo_wp _ _ ?_)
      exact wpAny_pure ⟨_, rfl, h _ _⟩
variable {prog : Program} {w : World} {A : Around} {E : Value → Shared → Prop} {s : Shared}
theorem my_join {a : Addr} {vs : List Value} {P : List (List UInt8)} {t : Tok} {Q : Value → Shared → Prop} (hl : s.heap.IsList a vs.toArray) (hP : BytesAre vs P) (hz : P.flatten.length ≤ 16777216) (h : ∀ t' k, Q (.bytes P.flatten.toArray t') { s with toks := k }) :
    wpAny (model prog w) A (call (.builtin "bytes.join") [.bytes (List.toArray []) t, .ref a]) Q E s :=
  call_meets slot_bytes_join (typeIs_bytes _ _ _) entry_bytes_join (args_bytes_join _ _) (meets_join hP hz) ⟨hl, h⟩
theorem range_count {b : Int} {n : Nat} (h : b = (n : Int)) : Builtin.Range.rangeSize 0 b 1 = (n : Int) := by
  subst h
  unfold Builtin.Range.rangeSize
  simp
  omega
theorem fitsLong {b : Int} (h0 : 0 ≤ b) (h1 : b < 1000000) : Builtin.Range.rangeFitsLong b = true := by
  unfold Builtin.Range.rangeFitsLong
  rw [decide_eq_true (show -(2 ^ 63) ≤ b by omega), decide_eq_true (show b < 2 ^ 63 by omega)]; rfl
theorem range_small {b : Int} (h0 : 0 ≤ b) (h1 : b < 1000000) : Builtin.Range.small 0 b 1 = true := by
  obtain ⟨n, rfl⟩ := Int.eq_ofNat_of_zero_le h0
  have hb := fitsLong h0 h1
  have hz := fitsLong (b := 0) (by omega) (by omega)
  have ho := fitsLong (b := 1) (by omega) (by omega)
  unfold Builtin.Range.small
  rw [range_count rfl, hb, hz, ho]
  simp
  exact .inr hb
theorem isTup_base {g h : Heap} {T : Addr} {its : List Value} {n : Nat} (k : ∀ b o, g.get? b = some o → h.get? b = some o) (e : g.get? T = some { cls := .type "tuple", data := .seq its.toArray n }) : IsTup h T its.toArray := ⟨_, k _ _ e, rfl, n, rfl⟩
theorem join_method {M : Model} {b : Array UInt8} {t : Tok} {pl : Sem Bool} {Q : Value × List Value → Shared → Prop} (h : Q (.builtin "bytes.join", [.bytes b t]) s) : wpAny M A (getMethod (.bytes b t) "join" pl) Q E s := by
  with_reducible exact KBd.method_of (.bytes b t) (typeIs_bytes _ _ _) slot_bytes_join type_bytes_join KBd.noRef h
end
-- LINES
theorem words_12_15 : True := by
  k_with "getMethod bytes" => (with_reducible refine join_method ?_)
  k_with "my tup" => first | (with_reducible assumption) | exact News.isTup (by k_asm) (by k_mem) | exact isTup_base (Fr.keep (by k_asm)) (by assumption)
  k_with "unpackItems ref" => (k_dflt (refine' unpackItemsN_ ?zk1 ?zk2 ?zk3 ?zk4 ?zk5 ?_; (case zk1 => k_asm); (case zk2 => k_asm); (case zk3 => k_extra "my tup"); (case zk4 => k_extra "my hh"); (case zk5 => exact rfl); k_whole); intro h' F' N'; (try k_sweep))
  k_with "assign Tuple" => ((with_reducible show wpAny _ _ (assign (Expr.Tuple _ _ _) _ (Value.ref _)) _ _ _); k_dflt (refine' unpackN_ ?zk1 ?zk2 ?zk3 ?zk4 ?zk5 ?zk6 ?_; (case zk1 => k_asm); (case zk2 => k_asm); (case zk3 => k_extra "my tup"); (case zk4 => k_extra "my hh"); (case zk5 => exact rfl); (case zk6 => exact rfl); k_whole); intro h' F' N'; (try k_sweep))
  k_with "eval ListComp" => (k_dflt (refine LCg.ListComp_U (F₀ := by k_asm) (by with_unfolding_all rfl) (by decide) (by rfl) (by decide) (by rfl) ?_))
  k_with "exec Assign cons ListComp" => (k_dflt (refine LCg.Assign_ListComp_U (F₀ := by k_asm) (by rfl) (by with_unfolding_all rfl) (by with_unfolding_all rfl) (by decide) (by rfl) (by decide) (by rfl) (by rfl) (by rfl) ?_))
  k_with "my small" => exact range_small (by omega) (by omega)
  k_with "my count" => exact range_count (by omega)
  k_with "my flat" => first | omega | assumption
  k_with "call builtin:bytes.join" => (k_dflt (refine' my_join ?zl ?zP ?zz ?_; (case zl => k_extra "my isl"); (case zP => with_reducible assumption); (case zz => k_extra "my flat")); intro t' k')
  trivial
-- END LINES

section
noncomputable def trunkL (ps nxt : Nat) (lv : List Nat) : List UInt8 := b4 nxt ++ b4 lv.length ++ lv.flatMap b4 ++ List.replicate (ps - (8 + 4 * lv.length)) 0
theorem flat4_len (lv : List Nat) : (lv.flatMap b4).length = 4 * lv.length := by
  induction lv with
  | nil => rfl
  | cons a r ih => rw [List.flatMap_cons, List.length_append, ih, b4_len, List.length_cons]; omega
theorem trunkL_len {ps nxt : Nat} {lv : List Nat} (h : 8 + 4 * lv.length ≤ ps) : (trunkL ps nxt lv).length = ps := by
  unfold trunkL
  rw [List.length_append, List.length_append, List.length_append, b4_len, b4_len, flat4_len, List.length_replicate]; omega
theorem trunk_nxt (ps nxt : Nat) (lv : List Nat) : ((trunkL ps nxt lv).drop 0).take 4 = b4 nxt := rfl
theorem trunk_many (ps nxt : Nat) (lv : List Nat) : ((trunkL ps nxt lv).drop 4).take 4 = b4 lv.length := rfl
theorem flat4_at (r : List UInt8) : ∀ (lv : List Nat) (k : Nat) (h : k < lv.length), ((lv.flatMap b4 ++ r).drop (4 * k)).take 4 = b4 lv[k]
  | a :: lv, 0, _ => rfl
  | a :: lv, k + 1, h => by
    have e : 4 * (k + 1) = 4 * k + 4 := by omega
    have e2 : List.drop (4 * k + 4) ((a :: lv).flatMap b4 ++ r) = List.drop (4 * k) (lv.flatMap b4 ++ r) := rfl
    rw [e, e2, flat4_at r lv k (Nat.lt_of_succ_lt_succ h)]
    rfl
theorem trunk_leaf (ps nxt : Nat) (lv : List Nat) (k : Nat) (h : k < lv.length) : ((trunkL ps nxt lv).drop (8 + 4 * k)).take 4 = b4 lv[k] := by
  have e : 8 + 4 * k = 4 * k + 8 := by omega
  have e2 : List.drop (4 * k + 8) (trunkL ps nxt lv) = List.drop (4 * k) (lv.flatMap b4 ++ List.replicate (ps - (8 + 4 * lv.length)) 0) := rfl
  rw [e, e2, flat4_at _ lv k h]
noncomputable def IsFree (g : Heap) (fl st : Addr) : Prop := ∃ fd a1 k1 n, g.get? fl = some (instObj 155 fd) ∧ g.get? fd = some (dictOf [⟨a1, .str (Str.ofString "pager") k1, .ref st⟩] n)
theorem IsFree.keeps {g h : Heap} {fl st : Addr} (S : IsFree g fl st) (k : g.StaysIn h) : IsFree h fl st := by
  obtain ⟨fd, a1, k1, n, h1, h2⟩ := S
  exact ⟨fd, a1, k1, n, k _ _ h1, k _ _ h2⟩
noncomputable abbrev nInts (l : List Nat) : List Int := l.map fun (n : Nat) => (n : Int)
end
section
variable {w : World} {prog : Program} {g : Heap} {f : Addr} {x : Str} {st pg fl : Addr} {ps : Int}
theorem IsFree.meth (S : IsFree g fl st) (X : (K w.params).In g) (hf : findIn (K w.params) (.ref 155) x = some (some (.ref f))) (hc : clsM w.params 155 x f = true) (hx : (x == ("pager" : Str)) = false) : Meth prog w g fl x f := by
  obtain ⟨fd, a1, k1, n, h1, h2⟩ := S
  refine meth_of X h1 h2 hf hc ?_
  have e : ∀ (y : Str) (t : Tok), (x == y) = false → (Value.str y t).isStr x = false := fun y t h => by
    first
    | exact h
    | (rw [beq_eq_false_iff_ne] at h; simp only [Value.isStr]; simpa using fun q => h q.symm)
    | (rw [beq_eq_false_iff_ne] at h; simp only [Value.isStr]; simpa using h)
  unfold getL
  simp only [List.find?, e _ _ hx]
  rfl
theorem IsFree.pgr (S : IsFree g fl st) (X : (K w.params).In g) : Attr prog w g fl "pager" (.ref st) := by
  obtain ⟨fd, a1, k1, n, h1, h2⟩ := S
  exact attr_of X h1 h2 (by kernel_rfl) rfl rfl
end
-- LINES
theorem words_13_16 : True := by
  k_with "my attr" => exact IsFree.pgr (by assumption) (by assumption)
  k_with "my meth" => exact IsFree.meth (by assumption) (by assumption) (by k_is) (by kernel_rfl) (by kernel_rfl)
  trivial
-- END LINES
section

variable {w : World} {A : Around} {base g : Heap} {outer : List Env} {s : Shared}
  {p : Program} {loose : List Str} {mean : ExcName → Option Value} {mg mb : Str → Option Value} {R : Result → Shared → Prop}
  {st pg fl : Addr} {vs : List Value} {n : Nat} {P : List (List UInt8)} {ps nxt : Nat} {lv : List Nat}

theorem look_at_spec {page : Int} {t1 : Tok} (H : Pre p loose mean mg mb w A base outer g s []) (hd : Room A 1) (IF : IsFree g fl st) (S : IsStore g st pg (ps : Int)) (hpg : g.get? pg = some (listOf vs.toArray n)) (hn : vs.length < 1000)
  (h1 : 2 ≤ page) (h2 : page ≤ vs.length)
  (k : ∀ h' tk, Post g h' [] → R (.ok (.ret .none)) { s with heap := h', toks := tk }) :
  codeAny (model PySem.Challenge.rw_nt0105_01.row.prog w) A (.call (.ref 107) ⟨[.ref fl, .int page t1], []⟩) R s := by
  have S' := S
  have hpl := isl_got hpg
  k_extra "my enter"
  k_extra "my steps"
  exact k _ _ (by k_extra "my post")
end
-- LINES
theorem words_13_17 : True := by
  k_with "z call ref" => ((with_reducible show wpAny _ _ (call (Value.ref 107) _) _ _ _); refine my_call ?_; k_dflt (refine' look_at_spec ?zH ?zd (IsFree.keeps ?zIF ?zS2) (IsStore.keeps ?zS ?zS2') ?zgot ?zn ?zh1 ?zh2 ?_; (case zS => assumption); (case zIF => assumption); (case zH => k_extra "my pre0"); (case zS2 => k_extra "my stays0"); (case zS2' => k_extra "my stays0"); (case zgot => k_extra "my got"); (case zd => k_extra "my depth"); (case zn => k_extra "my len"); (case zh1 => omega); (case zh2 => omega)); intro h' tk' P'; k_extra "my back0")
  trivial
-- END LINES
section
variable {w : World} {A : Around} {base g : Heap} {outer : List Env} {s : Shared}
  {p : Program} {loose : List Str} {mean : ExcName → Option Value} {mg mb : Str → Option Value} {R : Result → Shared → Prop}
  {st pg fl : Addr} {vs : List Value} {n : Nat} {P : List (List UInt8)} {ps nxt : Nat} {lv : List Nat}
theorem read_trunk_spec {page : Int} {t1 : Tok} (H : Pre p loose mean mg mb w A base outer g s []) (hd : Room A 2) (IF : IsFree g fl st) (S : IsStore g st pg (ps : Int)) (hpg : g.get? pg = some (listOf vs.toArray n)) (hP : BytesAre vs P) (hn : P.length < 1000)
  (h1 : 2 ≤ page) (h2 : page ≤ P.length) (hb : P[(page - 1).toNat]? = some (trunkL ps nxt lv)) (hlv : 8 + 4 * lv.length ≤ ps) (hps : ps ≤ 128) (hnx : nxt < 4294967296) (hall : ∀ x ∈ lv, x < 4294967296)
  (k : ∀ T l ys ny t h' tk, IntsAre ys (nInts lv) → Post g h' [(T, { cls := .type "tuple", data := .seq [.int (nxt : Int) t, .ref l].toArray }), (l, listOf ys.toArray ny)] → R (.ok (.ret (.ref T))) { s with heap := h', toks := tk }) :
  codeAny (model PySem.Challenge.rw_nt0105_01.row.prog w) A (.call (.ref 112) ⟨[.ref fl, .int page t1], []⟩) R s := by
  revert w A base g outer s p loose mean mg mb R st pg fl vs n P ps nxt lv page t1; refine @(close11 ?_); generalize cx11 _ = X; k_extra "my ctx"; generalize X.2.1 = st, X.2.2.1 = pg, X.2.2.2.1 = fl, X.2.2.2.2.1 = vs, X.2.2.2.2.2.1 = n, X.2.2.2.2.2.2.1 = P, X.2.2.2.2.2.2.2.1 = ps, X.2.2.2.2.2.2.2.2.1 = nxt, X.2.2.2.2.2.2.2.2.2.1 = lv, X.2.2.2.2.2.2.2.2.2.2.1 = page, X.2.2.2.2.2.2.2.2.2.2.2 = t1; intro H hd IF S hpg hP hn h1 h2 hb hlv hps hnx hall k
  have S' := S
  have IF' := IF
  have hpl := isl_got hpg
  have hl := hP.length
  have e1 := (congrArg be (trunk_nxt ps nxt lv)).trans (be_b4 hnx)
  have e2 := (congrArg be (trunk_many ps nxt lv)).trans (be_b4 (by omega))
  have e3 := trunkL_len (nxt := nxt) hlv
  have e4 := trunk_leaf ps nxt lv
  generalize trunkL ps nxt lv = oc at *
  k_extra "my enterCX"
  k_extra "my steps"
  refine LCg.CompSrc.range (n := lv.length) (by k_extra "my hh") (by assumption) (by assumption) (by assumption) (by k_extra "my small") (by k_extra "my count") (by rw [sizeLine_eq]; omega) ?_
  intro g'
  refine comp_fix (fun i ys => IntsAre ys (nInts (lv.take i))) .nil ?_ ?_
  · intro i v ys I oI C oC D m₂ h tk E' hi hv hj hC hx F N off ne
    obtain ⟨t, rfl⟩ := hv
    rw [Int.zero_add] at hx
    have ei : (8 + 4 * (i : Int)).toNat = 8 + 4 * i := by omega
    k_extra "my steps"
    rw [ei, e4 i hi, be_b4 (hall _ (List.getElem_mem _))]
    refine LCg.CompEnd.intro (by k_asm) (by k_asm) _ (fun p hp => hp) off trivial ⟨rfl, ?_⟩
    rw [List.take_add_one, List.getElem?_eq_getElem hi, nInts, List.map_append]
    exact ints_snoc hj _ _
  intro ys hj D h tk F N off
  rw [List.take_length] at hj
  k_extra "my steps"
  with_reducible rename News _ _ _ _ => N'
  rw [e1] at N'
  exact k _ _ _ _ _ _ _ hj (by k_extra "my post")
end

-- LINES
theorem words_14_18 : True := by
  k_with "my got1" => exact hideAll_get _ (by k_extra "my got") (by k_extra "my notin")
  k_with "z call ref" => ((with_reducible show wpAny _ _ (call (Value.ref 362) _) _ _ _); refine my_call ?_; k_dflt (refine' swrite_spec ?zH ?zd (IsStore.keeps ?zS ?zS2) ?zP ?zn ?zh1 ?zh2 ?zhb ?zp2 ?_; (case zS => assumption); (case zH => k_extra "my pre1"); (case zS2 => k_extra "my stays1"); (case zd => k_extra "my depth"); (case zP => with_reducible assumption); (case zn => k_extra "my len"); (case zh1 => omega); (case zh2 => omega); (case zhb => k_extra "my blen"); (case zp2 => omega)); intro vs' h' tk' hP' P'; k_extra "my back1")
  k_with "my blen" => first | omega | (simp only [b1_len, b2_len, b4_len, List.length_append, List.length_cons, List.length_nil, List.length_take, List.length_drop, List.length_replicate]; omega)
  trivial
-- END LINES
section
variable {w : World} {A : Around} {base g : Heap} {outer : List Env} {s : Shared}
  {p : Program} {loose : List Str} {mean : ExcName → Option Value} {mg mb : Str → Option Value} {R : Result → Shared → Prop}
  {st pg fl l : Addr} {vs lvs : List Value} {n m : Nat} {P : List (List UInt8)} {ps nxt : Nat} {lv : List Nat}
theorem flat_b4 (lv : List Nat) : (lv.map b4).flatten = lv.flatMap b4 := by
  induction lv with
  | nil => rfl
  | cons a r ih => rw [List.map_cons, List.flatten_cons, ih, List.flatMap_cons]
theorem nInts_get {lvs : List Value} {lv : List Nat} (h : IntsAre lvs (nInts lv)) {i : Nat} {v : Value} (hv : lvs.toArray[i]? = some v) : ∃ (hi : i < lv.length) (t : Tok), v = .int (lv[i] : Nat) t := by
  have hv' : lvs[i]? = some v := by simpa using hv
  have hl := h.length
  rw [List.length_map] at hl
  have hi : i < lv.length := by have := (List.getElem?_eq_some_iff.mp hv').1; omega
  obtain ⟨t, ht⟩ := ints_get h (i := i) (l := (lv[i] : Nat)) (by rw [List.getElem?_map, List.getElem?_eq_getElem hi]; rfl)
  exact ⟨hi, t, Option.some.inj (hv'.symm.trans ht)⟩
theorem write_trunk_spec {page : Int} {t1 t2 : Tok} (H : Pre p loose mean mg mb w A base outer g s [(pg, listOf vs.toArray n)]) (hd : Room A 2) (IF : IsFree g fl st) (S : IsStore g st pg (ps : Int)) (hP : BytesAre vs P) (hn : P.length < 1000)
  (hlg : g.get? l = some (listOf lvs.toArray m)) (hlI : IntsAre lvs (nInts lv))
  (h1 : 2 ≤ page) (h2 : page ≤ P.length) (hlv : 8 + 4 * lv.length ≤ ps) (hps : ps ≤ 128) (hnx : nxt < 4294967296) (hall : ∀ x ∈ lv, x < 4294967296)
  (k : ∀ vs' h' tk, BytesAre vs' (P.set (page - 1).toNat (trunkL ps nxt lv)) → Post g h' [(pg, listOf vs'.toArray n)] → R (.ok (.ret .none)) { s with heap := h', toks := tk }) :
  codeAny (model PySem.Challenge.rw_nt0105_01.row.prog w) A (.call (.ref 117) ⟨[.ref fl, .int page t1, .int (nxt : Int) t2, .ref l], []⟩) R s := by
  revert w A base g outer s p loose mean mg mb R st pg fl l vs lvs n m P ps nxt lv page t1 t2; refine @(close6 ?_); generalize cx6 _ = X; k_extra "my ctx"; generalize X.2.1 = st, X.2.2.1 = pg, X.2.2.2.1 = fl, X.2.2.2.2.1 = l, X.2.2.2.2.2.1 = vs, X.2.2.2.2.2.2 = lvs; refine @(allE9 ?_); generalize eps9 _ = X; generalize X.1 = n, X.2.1 = m, X.2.2.1 = P, X.2.2.2.1 = ps, X.2.2.2.2.1 = nxt, X.2.2.2.2.2.1 = lv, X.2.2.2.2.2.2.1 = page, X.2.2.2.2.2.2.2.1 = t1, X.2.2.2.2.2.2.2.2 = t2; intro H hd IF S hP hn hlg hlI h1 h2 hlv hps hnx hall k
  have S' := S
  have IF' := IF
  have hll := isl_got hlg
  have hl := hP.length
  have hlen := hlI.length
  rw [List.length_map] at hlen
  k_extra "my enterX"
  k_extra "my steps"
  refine LCg.CompSrc.base (its := lvs.toArray) (by k_extra "my hh") (by k_asm) (by k_asm) hll (by rw [List.size_toArray, sizeLine_eq]; omega) ?_
  intro g'
  rw [List.size_toArray]
  refine comp_fix (fun i ys => BytesAre ys ((lv.take i).map b4)) .nil ?_ ?_
  · intro i v ys I oI C oC D m₂ h tk E' hi hv hj hC hx F N off ne
    obtain ⟨hi', t', rfl⟩ := nInts_get hlI hv
    have hx4 := hall _ (List.getElem_mem hi')
    k_extra "my steps"
    refine LCg.CompEnd.intro (by k_asm) (by k_asm) _ (fun p hp => hp) off (.inl hll) ⟨rfl, ?_⟩
    rw [List.take_add_one, List.getElem?_eq_getElem hi', List.map_append]
    exact hj.snoc _ _
  intro ys hj D h tk F N off
  rw [hlen, List.take_length] at hj
  simp only [LCg.Off1, and_true] at off
  have hflat : ((lv.map b4).flatten).length ≤ 16777216 := by rw [flat_b4, flat4_len]; omega
  have hfl4 : ((lv.map b4).flatten).length = 4 * lv.length := by rw [flat_b4, flat4_len]
  have e1 : ((ps : Int) - ((b4 nxt ++ b4 lvs.length ++ (lv.map b4).flatten).length : Nat)).toNat = ps - (8 + 4 * lv.length) := by
    rw [List.length_append, List.length_append, b4_len, b4_len, hfl4]; exact Int.toNat_sub _ _
  k_extra "my steps"
  rw [e1, hlen, flat_b4] at *
  exact k _ _ _ (by assumption) (by k_extra "my post")
end

section
noncomputable abbrev FLt := List (Nat × List Nat)
noncomputable def flNxt : FLt → Nat
  | [] => 0
  | (t, _) :: _ => t
noncomputable def flPages : FLt → List Nat
  | [] => []
  | (t, lv) :: r => (t :: lv) ++ flPages r
noncomputable def Trunks (P : List (List UInt8)) (ps : Nat) : FLt → Prop
  | [] => True
  | (t, lv) :: r => (2 ≤ t ∧ t ≤ P.length ∧ P[t - 1]? = some (trunkL ps (flNxt r) lv) ∧ 8 + 4 * lv.length ≤ ps ∧ ∀ x ∈ lv, 2 ≤ x ∧ x ≤ P.length) ∧ Trunks P ps r
theorem Trunks.mem {P : List (List UInt8)} {ps : Nat} : ∀ {F : FLt}, Trunks P ps F → ∀ x ∈ flPages F, 2 ≤ x ∧ x ≤ P.length
  | [], _, _, h => nomatch h
  | (t, lv) :: r, h, x, hx => by
    rcases List.mem_append.mp hx with hx | hx
    · rcases List.mem_cons.mp hx with rfl | hx
      · exact ⟨h.1.1, h.1.2.1⟩
      · exact h.1.2.2.2.2 x hx
    · exact Trunks.mem h.2 x hx
theorem Trunks.nxt {P : List (List UInt8)} {ps : Nat} {F : FLt} (h : Trunks P ps F) : flNxt F ≤ P.length := by
  cases F with
  | nil => exact Nat.zero_le _
  | cons q r => exact h.1.2.1
theorem Trunks.of {P P' : List (List UInt8)} {ps : Nat} (hl : P.length ≤ P'.length) : ∀ {F : FLt}, Trunks P ps F → (∀ t ∈ flPages F, P'[t - 1]? = P[t - 1]?) → Trunks P' ps F
  | [], _, _ => trivial
  | (t, lv) :: r, h, e => ⟨⟨h.1.1, Nat.le_trans h.1.2.1 hl, (e t (List.mem_append_left _ (.head _))).trans h.1.2.2.1, h.1.2.2.2.1, fun x hx => ⟨(h.1.2.2.2.2 x hx).1, Nat.le_trans (h.1.2.2.2.2 x hx).2 hl⟩⟩,
    Trunks.of hl h.2 fun t ht => e t (List.mem_append_right _ ht)⟩
structure Db (P : List (List UInt8)) (ps : Nat) (F : FLt) : Prop where
  psz : ps = 64 ∨ ps = 128
  small : P.length < 900
  head : ∃ pc rest, pc < 4294967296 ∧ rest.length < 400 ∧ P[0]? = some (hdrL ps pc (flNxt F) (flPages F).length ++ rest)
  tr : Trunks P ps F
  nd : (flPages F).Nodup
theorem nodup_len {l : List Nat} {n : Nat} (h : l.Nodup) (hb : ∀ x ∈ l, x ≤ n) : l.length ≤ n + 1 := by
  have hs : l ⊆ List.range (n + 1) := fun x hx => List.mem_range.mpr (Nat.lt_succ_of_le (hb x hx))
  have := h.length_le_of_subset hs
  rwa [List.length_range] at this
theorem Db.cnt {P : List (List UInt8)} {ps : Nat} {F : FLt} (D : Db P ps F) : (flPages F).length ≤ P.length + 1 := nodup_len D.nd fun x hx => (D.tr.mem x hx).2
theorem Db.pos {P : List (List UInt8)} {ps : Nat} {F : FLt} (D : Db P ps F) : 0 < P.length := by
  obtain ⟨pc, rest, _, _, h⟩ := D.head
  exact (List.getElem?_eq_some_iff.mp h).1
theorem Db.grow {P : List (List UInt8)} {ps : Nat} {F : FLt} (D : Db P ps F) (b : List UInt8) (hs : P.length + 1 < 900) : Db (P ++ [b]) ps F := by
  obtain ⟨pc, rest, h1, h2, h3⟩ := D.head
  refine ⟨D.psz, by rw [List.length_append]; exact hs, ⟨pc, rest, h1, h2, by rw [List.getElem?_append_left D.pos]; exact h3⟩, D.tr.of (by rw [List.length_append]; omega) fun t ht => ?_, D.nd⟩
  have := D.tr.mem t ht
  exact List.getElem?_append_left (by omega)
theorem Db.put {P : List (List UInt8)} {ps : Nat} {F : FLt} (D : Db P ps F) {i : Nat} (b : List UInt8) (h0 : i ≠ 0) (hf : i + 1 ∉ flPages F) : Db (P.set i b) ps F := by
  obtain ⟨pc, rest, h1, h2, h3⟩ := D.head
  refine ⟨D.psz, by rw [List.length_set]; exact D.small, ⟨pc, rest, h1, h2, by rw [List.getElem?_set_ne h0]; exact h3⟩, D.tr.of (by rw [List.length_set]; exact Nat.le_refl _) fun t ht => ?_, D.nd⟩
  have := D.tr.mem t ht
  exact List.getElem?_set_ne fun e => hf (by rw [e, show t - 1 + 1 = t by omega]; exact ht)
theorem head_new {P : List (List UInt8)} {ps ft fc : Nat} {b0 : List UInt8} (h0 : P[0]? = some b0) (hb : b0.length < 432) (hn : P.length < 900) :
    ∃ pc rest, pc < 4294967296 ∧ rest.length < 400 ∧ (P.set 0 (hdrL ps P.length ft fc ++ b0.drop 32))[0]? = some (hdrL ps pc ft fc ++ rest) := by
  have := (List.getElem?_eq_some_iff.mp h0).1
  exact ⟨P.length, b0.drop 32, by omega, by rw [List.length_drop]; omega, List.getElem?_set_self this⟩
theorem Trunks.head {P : List (List UInt8)} {ps : Nat} {F : FLt} (h : Trunks P ps F) (b : List UInt8) : Trunks (P.set 0 b) ps F :=
  h.of (by rw [List.length_set]; exact Nat.le_refl _) fun t ht => by
    have := h.mem t ht
    exact List.getElem?_set_ne (by omega)
theorem Db.take0 {P : List (List UInt8)} {ps t : Nat} {r : FLt} (D : Db P ps ((t, []) :: r)) {b0 : List UInt8} (h0 : P[0]? = some b0) (hb : b0.length < 432) :
    Db (P.set 0 (hdrL ps P.length (flNxt r) ((flPages ((t, []) :: r)).length - 1) ++ b0.drop 32)) ps r := by
  have hn := D.small
  refine ⟨D.psz, by rw [List.length_set]; exact hn, ?_, D.tr.2.head _, (List.nodup_cons.mp D.nd).2⟩
  exact head_new h0 hb hn
theorem Db.take1 {P : List (List UInt8)} {ps t : Nat} {lv : List Nat} {r : FLt} (D : Db P ps ((t, lv) :: r)) (hlv : lv ≠ []) {b0 : List UInt8} (h0 : P[0]? = some b0) (hb : b0.length < 432) :
    Db ((P.set (t - 1) (trunkL ps (flNxt r) lv.dropLast)).set 0 (hdrL ps P.length t ((flPages ((t, lv) :: r)).length - 1) ++ b0.drop 32)) ps ((t, lv.dropLast) :: r) := by
  have hn := D.small
  obtain ⟨⟨a1, a2, a3, a4, a5⟩, a6⟩ := D.tr
  have nd := D.nd
  have sub : ∀ x ∈ lv.dropLast, x ∈ lv := fun x hx => List.dropLast_subset lv hx
  have hll : lv.dropLast.length = lv.length - 1 := List.length_dropLast
  have hpos : 0 < lv.length := List.length_pos_iff.mpr hlv
  have hlen : (flPages ((t, lv.dropLast) :: r)).length = (flPages ((t, lv) :: r)).length - 1 := by
    show ((t :: lv.dropLast) ++ flPages r).length = ((t :: lv) ++ flPages r).length - 1
    rw [List.length_append, List.length_append, List.length_cons, List.length_cons, hll]; omega
  refine ⟨D.psz, by rw [List.length_set, List.length_set]; exact hn, ?_, ?_, ?_⟩
  · have e : ((P.set (t - 1) (trunkL ps (flNxt r) lv.dropLast))[0]?) = some b0 := by rw [List.getElem?_set_ne (by omega)]; exact h0
    have := head_new (ps := ps) (ft := t) (fc := (flPages ((t, lv) :: r)).length - 1) e hb (by rw [List.length_set]; exact hn)
    rw [List.length_set] at this
    rw [hlen]
    exact this
  · refine Trunks.head ?_ _
    refine ⟨⟨a1, by rw [List.length_set]; exact a2, List.getElem?_set_self (by omega), by omega, fun x hx => by rw [List.length_set]; exact a5 x (sub x hx)⟩, a6.of (by rw [List.length_set]; exact Nat.le_refl _) fun x hx => ?_⟩
    have hx2 := a6.mem x hx
    refine List.getElem?_set_ne fun e => ?_
    have hx3 : x = t := by omega
    subst hx3
    exact (List.nodup_append.mp nd).2.2 x (.head _) x hx rfl
  · refine nd.sublist ?_
    exact ((List.dropLast_sublist lv).cons_cons t).append (List.Sublist.refl _)
end

section
inductive Rest (as : List Addr) : List (Addr × Obj) → List (Addr × Obj) → Prop
  | nil : Rest as [] []
  | keep {p r r'} : p.1 ∉ as → Rest as r r' → Rest as (p :: r) (p :: r')
  | skip {p r r'} : Rest as r r' → Rest as (p :: r) r'
theorem Rest.mem {as : List Addr} {l l' : List (Addr × Obj)} (h : Rest as l l') : ∀ q ∈ l', q ∈ l ∧ q.1 ∉ as := by
  induction h with
  | nil => intro q hq; exact nomatch hq
  | keep hn _ ih =>
    intro q hq
    rcases List.mem_cons.mp hq with rfl | hq
    · exact ⟨.head _, hn⟩
    · exact ⟨.tail _ (ih q hq).1, (ih q hq).2⟩
  | skip _ ih => exact fun q hq => ⟨.tail _ (ih q hq).1, (ih q hq).2⟩
theorem post_rest {g h h' : Heap} {L : Addr} {m : Str → Option Value} {news mn mn' others : List (Addr × Obj)} (F : Fr g L h m) (N : News g L h news) (hs : ∀ q ∈ mn, q ∈ news) (P : Post (hideAll h (mn.map (·.1))) h' mn')
    (ho : Rest (mn.map (·.1)) news others) : Fr g L h' m ∧ News g L h' (mn' ++ others) ∧ ∀ q ∈ mn', ∀ r ∈ others, q.1 ≠ r.1 := post_call F N hs P ho.mem
theorem post_restK {C : Prop} {g h h' : Heap} {L : Addr} {m : Str → Option Value} {news mn mn' others : List (Addr × Obj)} (F : Fr g L h m) (N : News g L h news) (hs : ∀ q ∈ mn, q ∈ news) (P : Post (hideAll h (mn.map (·.1))) h' mn')
    (ho : Rest (mn.map (·.1)) news others) (k : Fr g L h' m → News g L h' (mn' ++ others) → NdAll mn' → NeAll2 mn' others → C) : C :=
  let ⟨a, b, c⟩ := post_rest F N hs P ho
  k a b (ndAll_of P.nd) (neAll2_of c)
theorem post_restA {C : Prop} {g h h' : Heap} {L : Addr} {m : Str → Option Value} {news mn mn' others : List (Addr × Obj)} (F : Fr g L h m) (N : News g L h news) (hs : ∀ q ∈ mn, q ∈ news) (P : Post (hideAll h (mn.map (·.1))) h' mn')
    (ho : Rest (mn.map (·.1)) news others) (k : Fr g L h' m → News g L h' (mn' ++ others) → ApNd mn' → ApAll2 mn' others → C) : C :=
  let ⟨a, b, c⟩ := post_rest F N hs P ho
  k a b (apNd_of P.nd) (apAll2_of c)
theorem post_restB {C : Prop} {g h h' : Heap} {L : Addr} {m : Str → Option Value} {news mn mn' others : List (Addr × Obj)} (F : Fr g L h m) (N : News g L h news) (hs : ∀ q ∈ mn, q ∈ news) (P : Post (hideAll h (mn.map (·.1))) h' mn')
    (ho : Rest (mn.map (·.1)) news others) (k : Fr g L h' m → News g L h' (mn' ++ others) → ApNdI mn' (Ap2I mn' others C)) : C :=
  let ⟨a, b, c⟩ := post_rest F N hs P ho
  ap2I c (apNdI P.nd (k a b))
theorem stays_call {g h : Heap} {L : Addr} {m : Str → Option Value} {news mn : List (Addr × Obj)} (F : Fr g L h m) (N : News g L h news) (hs : ∀ q ∈ mn, q ∈ news) : g.StaysIn (hideAll h (mn.map (·.1))) := fun b o e =>
  hideAll_get _ (F.keep b o e) fun hb => by
    obtain ⟨p, hp, rfl⟩ := List.mem_map.mp hb
    rw [(N p (hs p hp)).2.2] at e; cases e
theorem ints_nil {vs : List Value} (h : IntsAre vs (nInts [])) : vs = [] := by cases h; rfl
theorem ints_ne {vs : List Value} {lv : List Nat} (h : IntsAre vs (nInts lv)) (hn : lv ≠ []) : ¬ vs = [] := fun e => by
  subst e
  cases lv with
  | nil => exact hn rfl
  | cons a r => cases h
section
variable {prog : Program} {w : World} {A : Around} {E : Value → Shared → Prop} {s : Shared} {value slice : PySem.Expr} {h₀ : Heap} {L l : Addr} {m : Str → Option Value} {news : List (Addr × Obj)} {Q : Value → Shared → Prop} {vs : List Value} {li : List Nat} {a : Nat} {u : Tok}
theorem my_ilast (hl : s.heap.IsList l vs.toArray) (hP : IntsAre vs (nInts (li ++ [a]))) (h : ∀ t, Q (.int (a : Int) t) s)
    (hs : subscripted slice false (.ref l) (.int (-1) u) = operate [.ref l, .int (-1) u] (getItem (.ref l) (.int (-1) u)) := by with_unfolding_all rfl) (hg : ∀ r, letTemporaryGo value (.ref l) r = pure () := by intro _; with_unfolding_all rfl) :
    wpAny (model prog w) A (subscriptTail value slice (.ref l) (.int (-1) u)) Q E s := by
  have hlen := hP.length
  rw [List.length_map, List.length_append] at hlen
  have hle : vs.length = li.length + 1 := hlen
  obtain ⟨t, ht⟩ := ints_get hP (i := li.length) (l := (a : Int)) (by rw [List.getElem?_map, List.getElem?_append_right (Nat.le_refl _), Nat.sub_self]; rfl)
  refine subscriptTail_builtin hl.typeIs slot_list_getitem.lookup (wpAny_getItem_list_neg hl (by omega) (by rw [List.size_toArray]; omega) (by omega) (x := .int (a : Int) t) ?_ (h t)) hs hg
  rw [List.size_toArray, show ((-1 : Int) + (vs.length : Nat)).toNat = li.length by omega]
  simpa using ht
theorem my_init (F : Fr h₀ L s.heap m) (N : News h₀ L s.heap news) (hl : s.heap.IsList l vs.toArray) (hP : IntsAre vs (nInts (li ++ [a]))) (hz : vs.length < 1000000)
    (h : ∀ D zs h', IntsAre zs (nInts li) → (∀ p ∈ news, p.1 < D) → Fr h₀ L h' m → News h₀ L h' ((D, listOf zs.toArray 0) :: news) → Q (.ref D) { s with heap := h' })
    (hs : subscripted slice false (.ref l) (.ref s.heap.objs.size) = operate [.ref s.heap.objs.size, .ref l] (getItem (.ref l) (.ref s.heap.objs.size)) := by with_unfolding_all rfl)
    (ht : ∀ r, letTemporaryGo value (.ref l) r = pure () := by intro _; with_unfolding_all rfl) :
    wpAny (model prog w) A (subscriptTail value slice (.ref l) (.ref s.heap.objs.size)) Q E { s with heap := s.heap.push { cls := .type "slice", data := .fields #[.none, .int (-1) u, .none] } } := by
  refine slice_list F N hl .none (.int _ _) (fun h' F' N' => ?_) hs ht (by rw [List.size_toArray, sizeLine_eq]; omega)
  have hk := kmk_upto_neg (y := -1) hP (by omega)
  rw [show nInts (li ++ [a]) = nInts li ++ nInts [a] from List.map_append .., show (-(-1 : Int)).toNat = 1 from rfl, List.length_append, List.length_map, List.length_map, show li.length + [a].length - 1 = li.length by simp, List.take_append_of_le_length (by rw [List.length_map]; exact Nat.le_refl _), List.take_of_length_le (by rw [List.length_map]; exact Nat.le_refl _)] at hk
  exact h _ _ h' hk (fun p hp => Nat.lt_succ_of_lt (Heap.lt_size (N p hp).1)) F' (by rw [Array.toArray_toList]; exact N')
end
end
-- LINES
theorem words_16_19 : True := by
  k_with "my cond" => (simp only [beq_iff_eq, bne_iff_ne, ne_eq, decide_eq_true_eq, decide_eq_false_iff_not, Bool.not_eq_true', Bool.not_eq_true, Bool.not_eq_false, beq_eq_false_iff_ne, Bool.not_not, Bool.not_true, Bool.not_false]; first | exact ints_nil (by assumption) | exact ints_ne (by assumption) (by assumption))
  k_with "subscriptTail Name UnaryOp ref int" => ((with_reducible show wpAny _ _ (subscriptTail _ _ (Value.ref _) (Value.int (-1) _)) _ _ _); k_dflt (refine' my_ilast ?zl ?zP ?_; (case zl => k_extra "my isl"); (case zP => assumption)); intro t')
  k_with "subscriptTail Name Slice ref ref" => ((with_reducible show wpAny _ _ (subscriptTail _ (Expr.Slice none (some (Expr.UnaryOp _ _ _)) none _) (Value.ref _) (Value.ref _)) _ _ _); k_dflt (refine' my_init (s := ⟨_, _, _, _, _⟩) ?zF ?zN ?zl ?zP ?zz ?_; (case zF => k_asm); (case zN => k_asm); (case zl => k_extra "my isl"); (case zP => assumption); (case zz => k_extra "my len")); intro D' zs' h' hI' lt' F' N'; (try k_lt lt'); (try dsimp only); (try k_sweep))
  k_with "my rest" => first | exact Rest.nil | (refine' Rest.keep ?za ?zb; (case za => k_extra "my notin"); (case zb => k_extra "my rest")) | (refine' Rest.skip ?zb; (case zb => k_extra "my rest")) | fail "rest"
  k_with "my preM" => (refine pre_call (by assumption) (Around.frames_deeper (Below.stack (by assumption))) rfl rfl (by assumption) (by assumption) (by assumption) (by assumption) (by k_extra "my sub"))
  k_with "my staysM" => exact stays_call (by k_asm) (by k_asm) (by k_extra "my sub")
  k_with "my gotM" => exact hideAll_get _ (by k_extra "my got") (by k_extra "my notin")
  k_with "my backM" => ((with_reducible rename Post _ _ _ => P'); (refine' post_restB ?zF ?zN ?zs P' ?zr ?_); (case zF => k_asm); (case zN => k_asm); (case zs => k_extra "my sub"); (case zr => k_extra "my rest"); clear P'; (intro F' N'); k_extra "my imp"; (try dsimp only [List.cons_append, List.nil_append] at N'); (try dsimp only); (try k_sweep))
  k_with "z call ref" => ((with_reducible show wpAny _ _ (call (Value.ref 112) _) _ _ _); refine my_call ?_; k_dflt (refine' read_trunk_spec ?zH ?zd (IsFree.keeps ?zIF ?zS2) (IsStore.keeps ?zS ?zS2') ?zgot ?zP ?zn ?zh1 ?zh2 ?zhb ?zh3 ?zh4 ?zh5 ?zh6 ?_; (case zS => assumption); (case zIF => assumption); (case zH => k_extra "my pre0"); (case zS2 => k_extra "my stays0"); (case zS2' => k_extra "my stays0"); (case zgot => k_extra "my got"); (case zd => k_extra "my depth"); (case zP => with_reducible assumption); (case zn => k_extra "my len"); (case zh1 => omega); (case zh2 => omega); (case zhb => assumption); (case zh3 => omega); (case zh4 => omega); (case zh5 => omega); (case zh6 => assumption)); intro T' l' ys' ny' t' h' tk' hI' P'; (have hL' := IntsAre.length hI'); (rw [List.length_map] at hL'); k_extra "my backN")
  k_with "z call ref" => ((with_reducible show wpAny _ _ (call (Value.ref 117) _) _ _ _); refine my_call ?_; k_dflt (refine' write_trunk_spec ?zH ?zd (IsFree.keeps ?zIF ?zS2) (IsStore.keeps ?zS ?zS2') ?zP ?zn ?zgot ?zI ?zh1 ?zh2 ?zh3 ?zh4 ?zh5 ?zh6 ?_; (case zS => assumption); (case zIF => assumption); (case zH => k_extra "my pre1"); (case zS2 => k_extra "my stays1"); (case zS2' => k_extra "my stays1"); (case zgot => k_extra "my gotM"); (case zd => k_extra "my depth"); (case zP => with_reducible assumption); (case zn => k_extra "my len"); (case zI => assumption); (case zh1 => omega); (case zh2 => omega); (case zh3 => k_extra "my len"); (case zh4 => omega); (case zh5 => omega); (case zh6 => assumption)); intro vs' h' tk' hP' P'; k_extra "my back1")
  k_with "z call ref" => ((with_reducible show wpAny _ _ (call (Value.ref 383) _) _ _ _); refine my_call ?_; k_dflt (refine' write_header_spec ?zH ?zpd ?zgot ?zd (IsStore.keeps ?zS ?zS2) ?zP ?zn ?zh0 ?zh1 ?zh2 ?zh3 ?zh4 ?zh5 ?zh6 ?_; (case zS => assumption); (case zH => k_extra "my preM"); (case zgot => k_extra "my gotM"); (case zpd => k_extra "my ne1"); (case zS2 => k_extra "my staysM"); (case zd => k_extra "my depth"); (case zP => with_reducible assumption); (case zn => k_extra "my len"); (case zh0 => assumption); (case zh1 => omega); (case zh2 => omega); (case zh3 => omega); (case zh4 => omega); (case zh5 => omega); (case zh6 => omega)); intro vs' h' tk' hP' P'; k_dflt (k_extra "my backM"))
  trivial
-- END LINES
section
noncomputable def TakeR (P : List (List UInt8)) (ps : Nat) (F : FLt) (P' : List (List UInt8)) (F' : FLt) (pgn : Nat) : Prop :=
  Db P' ps F' ∧ (∀ i, i ≠ 0 → i + 1 ∉ flPages F → i < P.length → P'[i]? = P[i]?) ∧ ((F = [] ∧ F' = [] ∧ pgn = P.length + 1 ∧ P'.length = P.length + 1) ∨ (P'.length = P.length ∧ (flPages F).Perm (pgn :: flPages F')))
variable {w : World} {A : Around} {base g : Heap} {outer : List Env} {s : Shared}
  {p : Program} {loose : List Str} {mean : ExcName → Option Value} {mg mb : Str → Option Value} {R : Result → Shared → Prop}
  {st pg fl : Addr} {vs : List Value} {n : Nat} {P : List (List UInt8)} {ps : Nat} {F : FLt}
theorem take_spec0 (H : Pre p loose mean mg mb w A base outer g s [(pg, listOf vs.toArray n)]) (hd : Room A 5) (IF : IsFree g fl st) (S : IsStore g st pg (ps : Int)) (hP : BytesAre vs P) (D : Db P ps []) (hs : P.length + 1 < 900)
  (k : ∀ vs' P' F' n' (pgn : Nat) t h' tk, BytesAre vs' P' → TakeR P ps [] P' F' pgn → Post g h' [(pg, listOf vs'.toArray n')] → R (.ok (.ret (.int (pgn : Int) t))) { s with heap := h', toks := tk }) :
  codeAny (model PySem.Challenge.rw_nt0105_01.row.prog w) A (.call (.ref 131) ⟨[.ref fl], []⟩) R s := by
  revert w A base g outer s p loose mean mg mb R st pg fl vs n P ps; refine @(close7 ?_); generalize cx7 _ = X; k_extra "my ctx"; generalize X.2.1 = st, X.2.2.1 = pg, X.2.2.2.1 = fl, X.2.2.2.2.1 = vs, X.2.2.2.2.2.1 = n, X.2.2.2.2.2.2.1 = P, X.2.2.2.2.2.2.2 = ps; intro H hd IF S hP D hs k
  have S' := S
  have IF' := IF
  have hl := hP.length
  obtain ⟨pc, rest, hpc, hrest, hh0⟩ := D.head
  have hps := D.psz
  have hcnt := D.cnt
  have hz : (hdrL ps pc (flNxt []) (flPages []).length ++ rest).length = 32 + rest.length := by rw [List.length_append]; rfl
  simp only [flNxt, flPages, List.length_nil] at hh0 hz
  k_extra "my enterX"
  k_extra "my steps"
  exact k _ _ [] _ (vs.length + 1) _ _ _ (hP.snoc _ _) ⟨D.grow _ hs, fun i _ _ h => List.getElem?_append_left h, .inl ⟨rfl, rfl, by rw [hl], by rw [List.length_append]; rfl⟩⟩ (by k_extra "my post")
theorem take_spec1 {tn : Nat} {r : FLt} (H : Pre p loose mean mg mb w A base outer g s [(pg, listOf vs.toArray n)]) (hd : Room A 5) (IF : IsFree g fl st) (S : IsStore g st pg (ps : Int)) (hP : BytesAre vs P) (D : Db P ps ((tn, []) :: r)) (hs : P.length + 1 < 900)
  (k : ∀ vs' P' F' n' (pgn : Nat) t h' tk, BytesAre vs' P' → TakeR P ps ((tn, []) :: r) P' F' pgn → Post g h' [(pg, listOf vs'.toArray n')] → R (.ok (.ret (.int (pgn : Int) t))) { s with heap := h', toks := tk }) :
  codeAny (model PySem.Challenge.rw_nt0105_01.row.prog w) A (.call (.ref 131) ⟨[.ref fl], []⟩) R s := by
  revert w A base g outer s p loose mean mg mb R st pg fl vs n P ps tn r; refine @(close9 ?_); generalize cx9 _ = X; k_extra "my ctx"; generalize X.2.1 = st, X.2.2.1 = pg, X.2.2.2.1 = fl, X.2.2.2.2.1 = vs, X.2.2.2.2.2.1 = n, X.2.2.2.2.2.2.1 = P, X.2.2.2.2.2.2.2.1 = ps, X.2.2.2.2.2.2.2.2.1 = tn, X.2.2.2.2.2.2.2.2.2 = r; intro H hd IF S hP D hs k
  have S' := S
  have IF' := IF
  have hl := hP.length
  obtain ⟨pc, rest, hpc, hrest, hh0⟩ := D.head
  have hps := D.psz
  have hcnt := D.cnt
  have hz : (hdrL ps pc (flNxt ((tn, []) :: r)) (flPages ((tn, []) :: r)).length ++ rest).length = 32 + rest.length := by rw [List.length_append]; rfl
  obtain ⟨⟨a1, a2, a3, a4, a5⟩, a6⟩ := D.tr
  have hcn : 1 ≤ (flPages ((tn, []) :: r)).length := by show 1 ≤ ((tn :: []) ++ flPages r).length; rw [List.length_append, List.length_cons]; omega
  have hnr := a6.nxt
  have hall : ∀ x ∈ [], x < 4294967296 := fun x hx => by have := a5 x hx; omega
  have hb : P[((tn : Int) - 1).toNat]? = some (trunkL ps (flNxt r) []) := by rw [show ((tn : Int) - 1).toNat = tn - 1 by omega]; exact a3
  simp only [flNxt] at hh0 hz
  generalize hfc : (flPages ((tn, []) :: r)).length = fc at *
  k_extra "my enterX"
  k_extra "my steps"
  with_reducible rename BytesAre _ (List.set _ _ _) => hB
  have e5 : ((fc : Int) - 1).toNat = fc - 1 := by omega
  rw [e5, Int.toNat_natCast] at hB
  have D' := D.take0 hh0 (by omega)
  rw [hfc] at D'
  exact k _ _ r _ tn _ _ _ hB ⟨D', fun i h _ _ => List.getElem?_set_ne (Ne.symm h), .inr ⟨List.length_set .., List.Perm.refl _⟩⟩ (by k_extra "my post")
theorem take_spec2 {tn : Nat} {r : FLt} {li : List Nat} {a : Nat} (H : Pre p loose mean mg mb w A base outer g s [(pg, listOf vs.toArray n)]) (hd : Room A 5) (IF : IsFree g fl st) (S : IsStore g st pg (ps : Int)) (hP : BytesAre vs P) (D : Db P ps ((tn, li ++ [a]) :: r)) (hs : P.length + 1 < 900)
  (k : ∀ vs' P' F' n' (pgn : Nat) t h' tk, BytesAre vs' P' → TakeR P ps ((tn, li ++ [a]) :: r) P' F' pgn → Post g h' [(pg, listOf vs'.toArray n')] → R (.ok (.ret (.int (pgn : Int) t))) { s with heap := h', toks := tk }) :
  codeAny (model PySem.Challenge.rw_nt0105_01.row.prog w) A (.call (.ref 131) ⟨[.ref fl], []⟩) R s := by
  revert w A base g outer s p loose mean mg mb R st pg fl vs n P ps tn r li a; refine @(close11 ?_); generalize cx11 _ = X; k_extra "my ctx"; generalize X.2.1 = st, X.2.2.1 = pg, X.2.2.2.1 = fl, X.2.2.2.2.1 = vs, X.2.2.2.2.2.1 = n, X.2.2.2.2.2.2.1 = P, X.2.2.2.2.2.2.2.1 = ps, X.2.2.2.2.2.2.2.2.1 = tn, X.2.2.2.2.2.2.2.2.2.1 = r, X.2.2.2.2.2.2.2.2.2.2.1 = li, X.2.2.2.2.2.2.2.2.2.2.2 = a; intro H hd IF S hP D hs k
  have S' := S
  have IF' := IF
  have hl := hP.length
  obtain ⟨pc, rest, hpc, hrest, hh0⟩ := D.head
  have hps := D.psz
  have hcnt := D.cnt
  have hz : (hdrL ps pc (flNxt ((tn, li ++ [a]) :: r)) (flPages ((tn, li ++ [a]) :: r)).length ++ rest).length = 32 + rest.length := by rw [List.length_append]; rfl
  obtain ⟨⟨a1, a2, a3, a4, a5⟩, a6⟩ := D.tr
  have hcn : 1 ≤ (flPages ((tn, li ++ [a]) :: r)).length := by show 1 ≤ ((tn :: (li ++ [a])) ++ flPages r).length; rw [List.length_append, List.length_cons]; omega
  have hnr := a6.nxt
  have hall : ∀ x ∈ li ++ [a], x < 4294967296 := fun x hx => by have := a5 x hx; omega
  have hb : P[((tn : Int) - 1).toNat]? = some (trunkL ps (flNxt r) (li ++ [a])) := by rw [show ((tn : Int) - 1).toNat = tn - 1 by omega]; exact a3
  simp only [flNxt] at hh0 hz
  have etn : ((tn : Int) - 1).toNat = tn - 1 := by omega
  have hne : li ++ [a] ≠ [] := by simp
  have hall' : ∀ x ∈ li, x < 4294967296 := fun x hx => hall x (List.mem_append_left _ hx)
  have ha := a5 a (by simp)
  have hll : (li ++ [a]).length = li.length + 1 := by simp
  generalize hfc : (flPages ((tn, li ++ [a]) :: r)).length = fc at *
  have hs0 : (P.set ((tn : Int) - 1).toNat (trunkL ps (flNxt r) li))[0]? = some (hdrL ps pc tn fc ++ rest) := by rw [List.getElem?_set_ne (by omega)]; exact hh0
  k_extra "my enterX"
  k_extra "my steps"
  with_reducible rename BytesAre _ (List.set (List.set _ _ _) _ _) => hB
  have e5 : ((fc : Int) - 1).toNat = fc - 1 := by omega
  rw [e5, Int.toNat_natCast, List.length_set, etn] at hB
  have D' := D.take1 hne hh0 (by omega)
  rw [hfc, List.dropLast_concat] at D'
  refine k _ _ ((tn, li) :: r) _ a _ _ _ hB ⟨D', fun i h hi _ => ?_, .inr ⟨by rw [List.length_set, List.length_set], ?_⟩⟩ (by k_extra "my post")
  · rw [List.getElem?_set_ne (Ne.symm h), List.getElem?_set_ne fun e => hi ?_]
    rw [← e, show tn - 1 + 1 = tn by omega]
    exact List.mem_append_left _ (.head _)
  · show ((tn :: (li ++ [a])) ++ flPages r).Perm (a :: ((tn :: li) ++ flPages r))
    rw [show (tn :: (li ++ [a])) ++ flPages r = (tn :: li) ++ a :: flPages r by simp]
    exact List.perm_middle
theorem take_spec (H : Pre p loose mean mg mb w A base outer g s [(pg, listOf vs.toArray n)]) (hd : Room A 5) (IF : IsFree g fl st) (S : IsStore g st pg (ps : Int)) (hP : BytesAre vs P) (D : Db P ps F) (hs : P.length + 1 < 900)
  (k : ∀ vs' P' F' n' (pgn : Nat) t h' tk, BytesAre vs' P' → TakeR P ps F P' F' pgn → Post g h' [(pg, listOf vs'.toArray n')] → R (.ok (.ret (.int (pgn : Int) t))) { s with heap := h', toks := tk }) :
  codeAny (model PySem.Challenge.rw_nt0105_01.row.prog w) A (.call (.ref 131) ⟨[.ref fl], []⟩) R s := by
  match F, D with
  | [], D => exact take_spec0 H hd IF S hP D hs k
  | (tn, lv) :: r, D =>
    rcases List.eq_nil_or_concat lv with rfl | ⟨li, a, rfl⟩
    · exact take_spec1 H hd IF S hP D hs k
    · rw [List.concat_eq_append] at D k
      exact take_spec2 H hd IF S hP D hs k
end

section
variable {prog : Program} {w : World} {A : Around} {E : Value → Shared → Prop} {s : Shared} {h₀ : Heap} {L a b : Addr} {m : Str → Option Value} {news : List (Addr × Obj)} {Q : Value → Shared → Prop} {vs ws : List Value} {la lb : List Nat}
theorem my_cat (F : Fr h₀ L s.heap m) (N : News h₀ L s.heap news) (ha : s.heap.IsList a vs.toArray) (hb : s.heap.IsList b ws.toArray) (hi : IntsAre vs (nInts la)) (hj : IntsAre ws (nInts lb)) (hz : la.length + lb.length < 1000000)
    (h : ∀ D zs h', Fr h₀ L h' m → News h₀ L h' ((D, listOf zs.toArray 0) :: news) → (∀ p ∈ news, p.1 < D) → IntsAre zs (nInts (la ++ lb)) → Q (.ref D) { s with heap := h' }) :
    wpAny (model prog w) A (binaryOp .Add (.ref a) (.ref b)) Q E s :=
  kmk_add_ints F N ha hb hi hj (fun D zs h' F' N' l hz => h D zs h' F' N' l (by rw [nInts, List.map_append]; exact hz)) (by rw [List.length_map, List.length_map, sizeLine_eq]; omega)
theorem ints_one (n : Nat) (t : Tok) : IntsAre [.int (n : Int) t] (nInts [n]) := .cons _ _ .nil
end
-- LINES
theorem words_17_20 : True := by
  k_with "my nints" => first | assumption | exact ints_one _ _ | exact IntsAre.nil
  k_with "binaryOp Add ref ref" => (k_dflt (refine' my_cat ?zF ?zN ?za ?zb ?zi ?zj ?zz ?_; (case zF => k_asm); (case zN => k_asm); (case za => k_extra "my isl"); (case zb => k_extra "my isl"); (case zi => k_extra "my nints"); (case zj => k_extra "my nints"); (case zz => k_extra "my len")); intro D' zs' h' F' N' l1' hI'; (try k_lt l1'); (try k_sweep))
  trivial
-- END LINES
section
theorem Db.give0 {P : List (List UInt8)} {ps pn : Nat} {F : FLt} (D : Db P ps F) (h2 : 2 ≤ pn) (hl : pn ≤ P.length) (hn : pn ∉ flPages F) {b0 : List UInt8} (h0 : P[0]? = some b0) (hb : b0.length < 432) :
    Db ((P.set (pn - 1) (trunkL ps (flNxt F) [])).set 0 (hdrL ps P.length pn ((flPages F).length + 1) ++ b0.drop 32)) ps ((pn, []) :: F) := by
  have hs := D.small
  have hp : 8 ≤ ps := by rcases D.psz with h | h <;> omega
  refine ⟨D.psz, by rw [List.length_set, List.length_set]; exact hs, ?_, ?_, List.nodup_cons.mpr ⟨hn, D.nd⟩⟩
  · have e : ((P.set (pn - 1) (trunkL ps (flNxt F) []))[0]?) = some b0 := by rw [List.getElem?_set_ne (by omega)]; exact h0
    have := head_new (ps := ps) (ft := pn) (fc := (flPages F).length + 1) e hb (by rw [List.length_set]; exact hs)
    rw [List.length_set] at this
    exact this
  · refine Trunks.head ?_ _
    refine ⟨⟨h2, by rw [List.length_set]; exact hl, List.getElem?_set_self (by omega), hp, fun x hx => nomatch hx⟩, D.tr.of (by rw [List.length_set]; exact Nat.le_refl _) fun x hx => ?_⟩
    have hx2 := D.tr.mem x hx
    refine List.getElem?_set_ne fun e => hn ?_
    rw [show pn = x by omega]
    exact hx
theorem Db.give1 {P : List (List UInt8)} {ps pn t : Nat} {lv : List Nat} {r : FLt} (D : Db P ps ((t, lv) :: r)) (h2 : 2 ≤ pn) (hl : pn ≤ P.length) (hn : pn ∉ flPages ((t, lv) :: r)) (hr : 8 + 4 * lv.length + 4 ≤ ps) {b0 : List UInt8} (h0 : P[0]? = some b0) (hb : b0.length < 432) :
    Db ((P.set (t - 1) (trunkL ps (flNxt r) (lv ++ [pn]))).set 0 (hdrL ps P.length t ((flPages ((t, lv) :: r)).length + 1) ++ b0.drop 32)) ps ((t, lv ++ [pn]) :: r) ∧ (flPages ((t, lv ++ [pn]) :: r)).Perm (pn :: flPages ((t, lv) :: r)) := by
  have hs := D.small
  obtain ⟨⟨a1, a2, a3, a4, a5⟩, a6⟩ := D.tr
  have hp : (flPages ((t, lv ++ [pn]) :: r)).Perm (pn :: flPages ((t, lv) :: r)) := by
    show ((t :: (lv ++ [pn])) ++ flPages r).Perm (pn :: ((t :: lv) ++ flPages r))
    rw [show (t :: (lv ++ [pn])) ++ flPages r = (t :: lv) ++ pn :: flPages r by simp]
    exact List.perm_middle
  refine ⟨⟨D.psz, by rw [List.length_set, List.length_set]; exact hs, ?_, ?_, hp.nodup_iff.mpr (List.nodup_cons.mpr ⟨hn, D.nd⟩)⟩, hp⟩
  · have e : ((P.set (t - 1) (trunkL ps (flNxt r) (lv ++ [pn])))[0]?) = some b0 := by rw [List.getElem?_set_ne (by omega)]; exact h0
    have := head_new (ps := ps) (ft := t) (fc := (flPages ((t, lv) :: r)).length + 1) e hb (by rw [List.length_set]; exact hs)
    rw [List.length_set] at this
    rw [hp.length_eq]
    exact this
  · refine Trunks.head ?_ _
    refine ⟨⟨a1, by rw [List.length_set]; exact a2, List.getElem?_set_self (by omega), by rw [List.length_append, List.length_singleton]; omega, fun x hx => ?_⟩, a6.of (by rw [List.length_set]; exact Nat.le_refl _) fun x hx => ?_⟩
    · rw [List.length_set]
      rcases List.mem_append.mp hx with hx | hx
      · exact a5 x hx
      · rw [List.mem_singleton.mp hx]; exact ⟨h2, hl⟩
    · have hx2 := a6.mem x hx
      refine List.getElem?_set_ne fun e => ?_
      have hx3 : x = t := by omega
      subst hx3
      exact (List.nodup_append.mp D.nd).2.2 x (.head _) x hx rfl
noncomputable def GiveR (P : List (List UInt8)) (ps : Nat) (F : FLt) (P' : List (List UInt8)) (F' : FLt) (pn : Nat) : Prop :=
  Db P' ps F' ∧ P'.length = P.length ∧ (∀ i, i ≠ 0 → i + 1 ∉ flPages F → i + 1 ≠ pn → P'[i]? = P[i]?) ∧ (flPages F').Perm (pn :: flPages F)
variable {w : World} {A : Around} {base g : Heap} {outer : List Env} {s : Shared}
  {p : Program} {loose : List Str} {mean : ExcName → Option Value} {mg mb : Str → Option Value} {R : Result → Shared → Prop}
  {st pg fl : Addr} {vs : List Value} {n : Nat} {P : List (List UInt8)} {ps pn tn : Nat} {t0 : Tok} {F r : FLt} {lv : List Nat}
theorem give_specA (H : Pre p loose mean mg mb w A base outer g s [(pg, listOf vs.toArray n)]) (hd : Room A 5) (IF : IsFree g fl st) (S : IsStore g st pg (ps : Int)) (hP : BytesAre vs P) (D : Db P ps []) (h2 : 2 ≤ pn) (hpl : pn ≤ P.length)
  (k : ∀ vs' P' F' h' tk, BytesAre vs' P' → GiveR P ps [] P' F' pn → Post g h' [(pg, listOf vs'.toArray n)] → R (.ok (.ret .none)) { s with heap := h', toks := tk }) :
  codeAny (model PySem.Challenge.rw_nt0105_01.row.prog w) A (.call (.ref 138) ⟨[.ref fl, .int (pn : Int) t0], []⟩) R s := by
  revert w A base g outer s p loose mean mg mb R st pg fl vs n P ps pn t0; refine @(close9 ?_); generalize cx9 _ = X; k_extra "my ctx"; generalize X.2.1 = st, X.2.2.1 = pg, X.2.2.2.1 = fl, X.2.2.2.2.1 = vs, X.2.2.2.2.2.1 = n, X.2.2.2.2.2.2.1 = P, X.2.2.2.2.2.2.2.1 = ps, X.2.2.2.2.2.2.2.2.1 = pn, X.2.2.2.2.2.2.2.2.2 = t0; intro H hd IF S hP D h2 hpl k
  have S' := S
  have IF' := IF
  have hl := hP.length
  obtain ⟨pc, rest, hpc, hrest, hh0⟩ := D.head
  have hps := D.psz
  have hsm := D.small
  have hz : (hdrL ps pc (flNxt []) (flPages []).length ++ rest).length = 32 + rest.length := by rw [List.length_append]; rfl
  simp only [flNxt, flPages, List.length_nil] at hh0 hz
  have hs0 : (P.set ((pn : Int) - 1).toNat (trunkL ps 0 []))[0]? = some (hdrL ps pc 0 0 ++ rest) := by rw [List.getElem?_set_ne (by omega)]; exact hh0
  have hI0 : IntsAre [] (nInts []) := .nil
  have hall : ∀ x ∈ ([] : List Nat), x < 4294967296 := fun x hx => nomatch hx
  k_extra "my enterX"
  k_extra "my steps"
  with_reducible rename BytesAre _ (List.set (List.set _ _ _) _ _) => hB
  have D' := D.give0 h2 hpl (fun h => nomatch h) hh0 (by omega)
  rw [List.length_set, show ((pn : Int) - 1).toNat = pn - 1 by omega] at hB
  exact k _ _ [(pn, [])] _ _ hB ⟨D', by rw [List.length_set, List.length_set], fun i h _ hi => by rw [List.getElem?_set_ne (Ne.symm h), List.getElem?_set_ne (by omega)], List.Perm.refl _⟩ (by k_extra "my post")
theorem give_specB (H : Pre p loose mean mg mb w A base outer g s [(pg, listOf vs.toArray n)]) (hd : Room A 5) (IF : IsFree g fl st) (S : IsStore g st pg (ps : Int)) (hP : BytesAre vs P) (D : Db P ps ((tn, lv) :: r)) (h2 : 2 ≤ pn) (hpl : pn ≤ P.length) (hnf : pn ∉ flPages ((tn, lv) :: r))
  (hr : 8 + 4 * lv.length + 4 ≤ ps)
  (k : ∀ vs' P' F' h' tk, BytesAre vs' P' → GiveR P ps ((tn, lv) :: r) P' F' pn → Post g h' [(pg, listOf vs'.toArray n)] → R (.ok (.ret .none)) { s with heap := h', toks := tk }) :
  codeAny (model PySem.Challenge.rw_nt0105_01.row.prog w) A (.call (.ref 138) ⟨[.ref fl, .int (pn : Int) t0], []⟩) R s := by
  revert w A base g outer s p loose mean mg mb R st pg fl vs n P ps pn tn t0 r lv; refine @(close12 ?_); generalize cx12 _ = X; k_extra "my ctx"; generalize X.2.1 = st, X.2.2.1 = pg, X.2.2.2.1 = fl, X.2.2.2.2.1 = vs, X.2.2.2.2.2.1 = n, X.2.2.2.2.2.2.1 = P, X.2.2.2.2.2.2.2.1 = ps, X.2.2.2.2.2.2.2.2.1 = pn, X.2.2.2.2.2.2.2.2.2.1 = tn, X.2.2.2.2.2.2.2.2.2.2.1 = t0, X.2.2.2.2.2.2.2.2.2.2.2.1 = r, X.2.2.2.2.2.2.2.2.2.2.2.2 = lv; intro H hd IF S hP D h2 hpl hnf hr k
  have S' := S
  have IF' := IF
  have hl := hP.length
  obtain ⟨pc, rest, hpc, hrest, hh0⟩ := D.head
  have hps := D.psz
  have hsm := D.small
  have hcnt := D.cnt
  have hz : (hdrL ps pc (flNxt ((tn, lv) :: r)) (flPages ((tn, lv) :: r)).length ++ rest).length = 32 + rest.length := by rw [List.length_append]; rfl
  obtain ⟨⟨a1, a2, a3, a4, a5⟩, a6⟩ := D.tr
  have hnr := a6.nxt
  have hall : ∀ x ∈ lv, x < 4294967296 := fun x hx => by have := a5 x hx; omega
  have hall' : ∀ x ∈ lv ++ [pn], x < 4294967296 := fun x hx => by
    rcases List.mem_append.mp hx with hx | hx
    · exact hall x hx
    · rw [List.mem_singleton.mp hx]; omega
  have hb : P[((tn : Int) - 1).toNat]? = some (trunkL ps (flNxt r) lv) := by rw [show ((tn : Int) - 1).toNat = tn - 1 by omega]; exact a3
  simp only [flNxt] at hh0 hz
  generalize hfc : (flPages ((tn, lv) :: r)).length = fc at *
  have hs0 : (P.set ((tn : Int) - 1).toNat (trunkL ps (flNxt r) (lv ++ [pn])))[0]? = some (hdrL ps pc tn fc ++ rest) := by rw [List.getElem?_set_ne (by omega)]; exact hh0
  k_extra "my enterX"
  k_extra "my steps"
  with_reducible rename BytesAre _ (List.set (List.set _ _ _) _ _) => hB
  have e5 : ((fc : Int) + 1).toNat = fc + 1 := by omega
  rw [e5, Int.toNat_natCast, List.length_set, show ((tn : Int) - 1).toNat = tn - 1 by omega] at hB
  have D' := D.give1 h2 hpl hnf hr hh0 (by omega)
  rw [hfc] at D'
  refine k _ _ ((tn, lv ++ [pn]) :: r) _ _ hB ⟨D'.1, by rw [List.length_set, List.length_set], fun i h hi _ => ?_, D'.2⟩ (by k_extra "my post")
  rw [List.getElem?_set_ne (Ne.symm h), List.getElem?_set_ne fun e => hi ?_]
  rw [← e, show tn - 1 + 1 = tn by omega]
  exact List.mem_append_left _ (.head _)
theorem give_specC (H : Pre p loose mean mg mb w A base outer g s [(pg, listOf vs.toArray n)]) (hd : Room A 5) (IF : IsFree g fl st) (S : IsStore g st pg (ps : Int)) (hP : BytesAre vs P) (D : Db P ps ((tn, lv) :: r)) (h2 : 2 ≤ pn) (hpl : pn ≤ P.length) (hnf : pn ∉ flPages ((tn, lv) :: r))
  (hr : ps < 8 + 4 * lv.length + 4)
  (k : ∀ vs' P' F' h' tk, BytesAre vs' P' → GiveR P ps ((tn, lv) :: r) P' F' pn → Post g h' [(pg, listOf vs'.toArray n)] → R (.ok (.ret .none)) { s with heap := h', toks := tk }) :
  codeAny (model PySem.Challenge.rw_nt0105_01.row.prog w) A (.call (.ref 138) ⟨[.ref fl, .int (pn : Int) t0], []⟩) R s := by
  revert w A base g outer s p loose mean mg mb R st pg fl vs n P ps pn tn t0 r lv; refine @(close12 ?_); generalize cx12 _ = X; k_extra "my ctx"; generalize X.2.1 = st, X.2.2.1 = pg, X.2.2.2.1 = fl, X.2.2.2.2.1 = vs, X.2.2.2.2.2.1 = n, X.2.2.2.2.2.2.1 = P, X.2.2.2.2.2.2.2.1 = ps, X.2.2.2.2.2.2.2.2.1 = pn, X.2.2.2.2.2.2.2.2.2.1 = tn, X.2.2.2.2.2.2.2.2.2.2.1 = t0, X.2.2.2.2.2.2.2.2.2.2.2.1 = r, X.2.2.2.2.2.2.2.2.2.2.2.2 = lv; intro H hd IF S hP D h2 hpl hnf hr k
  have S' := S
  have IF' := IF
  have hl := hP.length
  obtain ⟨pc, rest, hpc, hrest, hh0⟩ := D.head
  have hps := D.psz
  have hsm := D.small
  have hcnt := D.cnt
  have hz : (hdrL ps pc (flNxt ((tn, lv) :: r)) (flPages ((tn, lv) :: r)).length ++ rest).length = 32 + rest.length := by rw [List.length_append]; rfl
  obtain ⟨⟨a1, a2, a3, a4, a5⟩, a6⟩ := D.tr
  have hnr := a6.nxt
  have hall : ∀ x ∈ lv, x < 4294967296 := fun x hx => by have := a5 x hx; omega
  have hI0 : IntsAre [] (nInts []) := .nil
  have hall0 : ∀ x ∈ ([] : List Nat), x < 4294967296 := fun x hx => nomatch hx
  have hb : P[((tn : Int) - 1).toNat]? = some (trunkL ps (flNxt r) lv) := by rw [show ((tn : Int) - 1).toNat = tn - 1 by omega]; exact a3
  simp only [flNxt] at hh0 hz
  generalize hfc : (flPages ((tn, lv) :: r)).length = fc at *
  have hs0 : (P.set ((pn : Int) - 1).toNat (trunkL ps tn []))[0]? = some (hdrL ps pc tn fc ++ rest) := by rw [List.getElem?_set_ne (by omega)]; exact hh0
  k_extra "my enterX"
  k_extra "my steps"
  with_reducible rename BytesAre _ (List.set (List.set _ _ _) _ _) => hB
  have e5 : ((fc : Int) + 1).toNat = fc + 1 := by omega
  rw [e5, Int.toNat_natCast, List.length_set, show ((pn : Int) - 1).toNat = pn - 1 by omega] at hB
  have D' := D.give0 h2 hpl hnf hh0 (by omega)
  rw [hfc] at D'
  exact k _ _ ((pn, []) :: (tn, lv) :: r) _ _ hB ⟨D', by rw [List.length_set, List.length_set], fun i h _ hi => by rw [List.getElem?_set_ne (Ne.symm h), List.getElem?_set_ne (by omega)], List.Perm.refl _⟩ (by k_extra "my post")
theorem give_spec (H : Pre p loose mean mg mb w A base outer g s [(pg, listOf vs.toArray n)]) (hd : Room A 5) (IF : IsFree g fl st) (S : IsStore g st pg (ps : Int)) (hP : BytesAre vs P) (D : Db P ps F) (h2 : 2 ≤ pn) (hpl : pn ≤ P.length) (hnf : pn ∉ flPages F)
  (k : ∀ vs' P' F' h' tk, BytesAre vs' P' → GiveR P ps F P' F' pn → Post g h' [(pg, listOf vs'.toArray n)] → R (.ok (.ret .none)) { s with heap := h', toks := tk }) :
  codeAny (model PySem.Challenge.rw_nt0105_01.row.prog w) A (.call (.ref 138) ⟨[.ref fl, .int (pn : Int) t0], []⟩) R s := by
  match F, D, hnf with
  | [], D, _ => exact give_specA H hd IF S hP D h2 hpl k
  | (tn, lv) :: r, D, hnf =>
    by_cases hr : 8 + 4 * lv.length + 4 ≤ ps
    · exact give_specB H hd IF S hP D h2 hpl hnf hr k
    · exact give_specC H hd IF S hP D h2 hpl hnf (by omega) k
end

@[irreducible] noncomputable def eps18 {α1 α2 α3 α4 α5 α6 α7 α8 α9 α10 α11 α12 α13 α14 α15 α16 α17 α18 : Type} {i : Nonempty (α1 × α2 × α3 × α4 × α5 × α6 × α7 × α8 × α9 × α10 × α11 × α12 × α13 × α14 × α15 × α16 × α17 × α18)} (p : α1 → α2 → α3 → α4 → α5 → α6 → α7 → α8 → α9 → α10 → α11 → α12 → α13 → α14 → α15 → α16 → α17 → α18 → Prop) : α1 × α2 × α3 × α4 × α5 × α6 × α7 × α8 × α9 × α10 × α11 × α12 × α13 × α14 × α15 × α16 × α17 × α18 := @Classical.epsilon _ i fun x => ¬ p x.1 x.2.1 x.2.2.1 x.2.2.2.1 x.2.2.2.2.1 x.2.2.2.2.2.1 x.2.2.2.2.2.2.1 x.2.2.2.2.2.2.2.1 x.2.2.2.2.2.2.2.2.1 x.2.2.2.2.2.2.2.2.2.1 x.2.2.2.2.2.2.2.2.2.2.1 x.2.2.2.2.2.2.2.2.2.2.2.1 x.2.2.2.2.2.2.2.2.2.2.2.2.1 x.2.2.2.2.2.2.2.2.2.2.2.2.2.1 x.2.2.2.2.2.2.2.2.2.2.2.2.2.2.1 x.2.2.2.2.2.2.2.2.2.2.2.2.2.2.2.1 x.2.2.2.2.2.2.2.2.2.2.2.2.2.2.2.2.1 x.2.2.2.2.2.2.2.2.2.2.2.2.2.2.2.2.2
theorem allE18 {α1 α2 α3 α4 α5 α6 α7 α8 α9 α10 α11 α12 α13 α14 α15 α16 α17 α18 : Type} [i : Nonempty (α1 × α2 × α3 × α4 × α5 × α6 × α7 × α8 × α9 × α10 × α11 × α12 × α13 × α14 × α15 × α16 × α17 × α18)] {p : α1 → α2 → α3 → α4 → α5 → α6 → α7 → α8 → α9 → α10 → α11 → α12 → α13 → α14 → α15 → α16 → α17 → α18 → Prop} (h : p (eps18 (i := i) p).1 (eps18 (i := i) p).2.1 (eps18 (i := i) p).2.2.1 (eps18 (i := i) p).2.2.2.1 (eps18 (i := i) p).2.2.2.2.1 (eps18 (i := i) p).2.2.2.2.2.1 (eps18 (i := i) p).2.2.2.2.2.2.1 (eps18 (i := i) p).2.2.2.2.2.2.2.1 (eps18 (i := i) p).2.2.2.2.2.2.2.2.1 (eps18 (i := i) p).2.2.2.2.2.2.2.2.2.1 (eps18 (i := i) p).2.2.2.2.2.2.2.2.2.2.1 (eps18 (i := i) p).2.2.2.2.2.2.2.2.2.2.2.1 (eps18 (i := i) p).2.2.2.2.2.2.2.2.2.2.2.2.1 (eps18 (i := i) p).2.2.2.2.2.2.2.2.2.2.2.2.2.1 (eps18 (i := i) p).2.2.2.2.2.2.2.2.2.2.2.2.2.2.1 (eps18 (i := i) p).2.2.2.2.2.2.2.2.2.2.2.2.2.2.2.1 (eps18 (i := i) p).2.2.2.2.2.2.2.2.2.2.2.2.2.2.2.2.1 (eps18 (i := i) p).2.2.2.2.2.2.2.2.2.2.2.2.2.2.2.2.2) : ∀ x1 x2 x3 x4 x5 x6 x7 x8 x9 x10 x11 x12 x13 x14 x15 x16 x17 x18, p x1 x2 x3 x4 x5 x6 x7 x8 x9 x10 x11 x12 x13 x14 x15 x16 x17 x18 := fun x1 x2 x3 x4 x5 x6 x7 x8 x9 x10 x11 x12 x13 x14 x15 x16 x17 x18 => Classical.byContradiction fun nx => by
  with_unfolding_all exact @Classical.epsilon_spec _ (fun x : α1 × α2 × α3 × α4 × α5 × α6 × α7 × α8 × α9 × α10 × α11 × α12 × α13 × α14 × α15 × α16 × α17 × α18 => ¬ p x.1 x.2.1 x.2.2.1 x.2.2.2.1 x.2.2.2.2.1 x.2.2.2.2.2.1 x.2.2.2.2.2.2.1 x.2.2.2.2.2.2.2.1 x.2.2.2.2.2.2.2.2.1 x.2.2.2.2.2.2.2.2.2.1 x.2.2.2.2.2.2.2.2.2.2.1 x.2.2.2.2.2.2.2.2.2.2.2.1 x.2.2.2.2.2.2.2.2.2.2.2.2.1 x.2.2.2.2.2.2.2.2.2.2.2.2.2.1 x.2.2.2.2.2.2.2.2.2.2.2.2.2.2.1 x.2.2.2.2.2.2.2.2.2.2.2.2.2.2.2.1 x.2.2.2.2.2.2.2.2.2.2.2.2.2.2.2.2.1 x.2.2.2.2.2.2.2.2.2.2.2.2.2.2.2.2.2) ⟨(x1, x2, x3, x4, x5, x6, x7, x8, x9, x10, x11, x12, x13, x14, x15, x16, x17, x18), nx⟩ h
section
variable {prog : Program} {w : World} {A : Around} {E : Value → Shared → Prop} {s : Shared} {env : Env} {target : PySem.Expr} {body : List Stmt} {Q : Flow → Shared → Prop} {g₀ : Heap} {m₀ : Str → Option Value}
theorem for_listF {stored : List Str} {L : Addr} {ps₀ : List (Str × Value)} {led₀ : List (Addr × Obj)} {l : Addr} {vs : List Value} {nl : Nat} (J : Nat → List (Str × Value) → List (Addr × Obj) → Prop)
    (hh : A.handled = none) (F : Fr g₀ L s.heap m₀) (N : News g₀ L s.heap led₀)
    (hm : ∀ i ps led, J i ps led → (l, listOf vs.toArray nl) ∈ led)
    (hps : ∀ q ∈ ps₀, m₀ q.1 = some q.2) (j0 : J 0 ps₀ led₀)
    (turn : ∀ i v ps led u h tk I oI, i < vs.length → vs[i]? = some v → J i ps led → Fr g₀ L h (kstB (stB stored u m₀) ps) → News g₀ L h ((I, oI) :: led) → NeAll I led →
      wpAny (model prog w) A (assign target env v) (fun _ s₃ => wpAny (model prog w) A (execs body env) (TurnPostG L I oI stored m₀ (fun g ps led => g = g₀ ∧ J (i + 1) ps led) s Q) E s₃) E { s with heap := h, toks := tk })
    (done : ∀ ps led u h tk, J vs.length ps led → Fr g₀ L h (kstB (stB stored u m₀) ps) → News g₀ L h led → Q .next { s with heap := h, toks := tk })
    (hE : PassesOwn (model prog w) A env E := by passes_own) (hL : env.locals = L := by rfl) :
    wpAny (model prog w) A (pyIter (.ref l)) (fun it s₂ => LoopHere prog w A env target body Q E it s₂) E s := by
  refine for_list (stored := stored) (ps₀ := ps₀) (vs := vs) (nl := nl) (fun i g ps led => g = g₀ ∧ J i ps led) hh F N ?_ hps ⟨rfl, j0⟩ ?_ ?_ hE hL
  · rintro i g ps led h m ⟨rfl, j⟩ _ N
    exact (N _ (hm _ _ _ j)).1
  · rintro i v g ps led u h tk I oI hi hv ⟨rfl, j⟩ F N ne
    exact turn i v ps led u h tk I oI hi hv j F N ne
  · rintro g ps led u h tk ⟨rfl, j⟩ F N
    exact done ps led u h tk j F N
noncomputable def WEndG (g : Heap) (L : Addr) (stored : List Str) (m₀ : Str → Option Value) (J : List (Str × Value) → List (Addr × Obj) → Prop) (s s₂ : Shared) : Prop :=
  ∃ h tk m ps led news, s₂ = { s with heap := h, toks := tk } ∧ Fr g L h m ∧ News g L h news ∧ (∀ q ∈ led, q ∈ news) ∧ (∀ q ∈ ps, m q.1 = some q.2) ∧
    (∀ z, (∀ q ∈ ps, z ≠ q.1) → stored.contains z = false → m z = m₀ z) ∧ J ps led
noncomputable def WPostG (g : Heap) (L : Addr) (stored : List Str) (m₀ : Str → Option Value) (J : List (Str × Value) → List (Addr × Obj) → Prop) (s : Shared) (Q : Flow → Shared → Prop) (f : Flow) (s₂ : Shared) : Prop :=
  match f with
  | .ret v => Q (.ret v) s₂
  | .brk => Q .next s₂
  | _ => WEndG g L stored m₀ J s s₂
theorem WEndG.intro {g h : Heap} {L : Addr} {stored : List Str} {J : List (Str × Value) → List (Addr × Obj) → Prop} {tk : Nat} {m : Str → Option Value} {ps : List (Str × Value)} {led news : List (Addr × Obj)} (hJ : J ps led)
    (F : Fr g L h m) (N : News g L h news) (hsub : ∀ q ∈ led, q ∈ news) (hps : ∀ q ∈ ps, m q.1 = some q.2)
    (hms : ∀ z, (∀ q ∈ ps, z ≠ q.1) → stored.contains z = false → m z = m₀ z) : WEndG g L stored m₀ J s { s with heap := h, toks := tk } := ⟨h, tk, m, ps, led, news, rfl, F, N, hsub, hps, hms, hJ⟩
theorem while_G {test : PySem.Expr} {pos : Pos} {stored : List Str} {L : Addr} {ps₀ : List (Str × Value)} {led₀ : List (Addr × Obj)} {n₀ : Nat} (J : Nat → List (Str × Value) → List (Addr × Obj) → Prop)
    (F : Fr g₀ L s.heap m₀) (N : News g₀ L s.heap led₀) (hps : ∀ q ∈ ps₀, m₀ q.1 = some q.2) (j0 : J n₀ ps₀ led₀)
    (turn : ∀ n ps led u h tk, J n ps led → Fr g₀ L h (kstB (stB stored u m₀) ps) → News g₀ L h led →
      wpAny (model prog w) A (isTrue test env (eval test env)) (fun b s₂ =>
        if b = true then wpAny (model prog w) A (execs body env) (WPostG g₀ L stored m₀ (fun ps led => ∃ n', n' < n ∧ J n' ps led) s Q) E s₂ else Q .next s₂) E { s with heap := h, toks := tk })
    (hE : PassesOwn (model prog w) A env E := by passes_own) (hL : env.locals = L := by rfl) :
    wpAny (model prog w) A (exec (.While test body [] pos) env) Q E s := by
  revert prog w A E s env body Q g₀ m₀ test pos stored L ps₀ led₀ n₀ J; refine (?zcG7 : CloT _ ?zcH7); refine @(allE18 (i := ⟨(default, world0, {}, default, {}, default, default, default, default, default, default, default, default, default, default, default, default, default)⟩) ?_); apply ?zcH7; intro prog w A E s env body Q g₀ m₀ test pos stored L ps₀ led₀ n₀ J; intro F N hps j0 turn hE hL
  subst hL
  refine wpAny_While (codeAny_whileLoop (fun n s' => ∃ h tk m ps led, s' = { s with heap := h, toks := tk } ∧ Fr g₀ env.locals h m ∧ News g₀ env.locals h led ∧ (∀ q ∈ ps, m q.1 = some q.2) ∧
    (∀ z, (∀ q ∈ ps, z ≠ q.1) → stored.contains z = false → m z = m₀ z) ∧ J n ps led) ?_ n₀ ⟨s.heap, s.toks, m₀, ps₀, led₀, rfl, F, N, hps, fun _ _ _ => rfl, j0⟩)
  rintro n s' ⟨h, tk, m, ps, led, rfl, F, N, hps, hms, hJ⟩
  have em := stB_eq hps hms
  have F₂ := F
  rw [em] at F₂
  refine wpAny_mono (turn n ps led m h tk hJ F₂ N) (fun b s₂ h₂ => ?_) hE
  cases b with
  | false =>
    simp only [Bool.false_eq_true, if_false] at h₂ ⊢
    exact wpAny_execs_nil h₂
  | true =>
    simp only [if_true] at h₂ ⊢
    refine wpAny_mono h₂ (fun f s₃ h₃ => ?_) hE
    have fin : WEndG g₀ env.locals stored m₀ (fun ps led => ∃ n', n' < n ∧ J n' ps led) s s₃ → ∃ m_1, m_1 < n ∧ ∃ h tk m ps led, s₃ = { s with heap := h, toks := tk } ∧ Fr g₀ env.locals h m ∧ News g₀ env.locals h led ∧ (∀ q ∈ ps, m q.1 = some q.2) ∧
      (∀ z, (∀ q ∈ ps, z ≠ q.1) → stored.contains z = false → m z = m₀ z) ∧ J m_1 ps led := by
      rintro ⟨h', tk', m', ps', led', news', rfl, F', N', hsub, hps', hms', n', hn, hJ'⟩
      exact ⟨n', hn, h', tk', m', ps', led', rfl, F', fun q hq => N' q (hsub q hq), hps', hms', hJ'⟩
    cases f with
    | ret v => exact h₃
    | brk => exact h₃
    | cont => exact fin h₃
    | next => exact fin h₃
end
-- LINES
theorem words_18_21 : True := by
  k_with "my wturn" => ((show WEndG _ _ _ _ _ _ _); (try dsimp only); k_dflt (refine' WEndG.intro ?yj ?yF ?yN ?ysub ?yps ?yms); (case yF => k_asm); (case yN => k_asm); (case' yj => skip))
  k_with "my wturned" => ((case ysub => k_extra "my sub"); (case yps => k_extra "my ps"); (case yms => k_extra "my stored"))
  trivial
-- END LINES

section
variable {w : World} {A : Around} {base g : Heap} {outer : List Env} {s : Shared}
  {p : Program} {loose : List Str} {mean : ExcName → Option Value} {mg mb : Str → Option Value} {R : Result → Shared → Prop}
  {st pg fl : Addr} {vs : List Value} {n : Nat} {P : List (List UInt8)} {ps : Nat} {F : FLt}
theorem count_spec (H : Pre p loose mean mg mb w A base outer g s []) (hd : Room A 4) (IF : IsFree g fl st) (S : IsStore g st pg (ps : Int)) (hpg : g.get? pg = some (listOf vs.toArray n)) (hP : BytesAre vs P) (D : Db P ps F)
  (k : ∀ t h' tk, Post g h' [] → R (.ok (.ret (.int ((flPages F).length : Nat) t))) { s with heap := h', toks := tk }) :
  codeAny (model PySem.Challenge.rw_nt0105_01.row.prog w) A (.call (.ref 124) ⟨[.ref fl], []⟩) R s := by
  have S' := S
  have IF' := IF
  obtain ⟨pc, rest, hpc, hrest, hh0⟩ := D.head
  have hl := hP.length
  have hps := D.psz
  have hsm := D.small
  have hcnt := D.cnt
  have hnx := D.tr.nxt
  generalize hfc : (flPages F).length = fc at *
  k_extra "my enter"
  k_extra "my steps"
  exact k _ _ _ (by k_extra "my post")
theorem flPages_app : ∀ (a b : FLt), flPages (a ++ b) = flPages a ++ flPages b
  | [], _ => rfl
  | (t, lv) :: r, b => by
    show (t :: lv) ++ flPages (r ++ b) = ((t :: lv) ++ flPages r) ++ flPages b
    rw [flPages_app r b, List.append_assoc]
theorem Trunks.suffix {P : List (List UInt8)} {ps : Nat} : ∀ {a b : FLt}, Trunks P ps (a ++ b) → Trunks P ps b
  | [], _, h => h
  | (_, _) :: _, _, h => Trunks.suffix h.2
end
-- LINES
theorem words_19_22 : True := by
  k_with "my cond" => (simp only [beq_iff_eq, bne_iff_ne, bne_eq_false_iff_eq, Bool.not_eq_false', ne_eq, decide_eq_true_eq, decide_eq_false_iff_not, Bool.not_eq_true', Bool.not_eq_true, Bool.not_eq_false, beq_eq_false_iff_ne, Bool.not_not, Bool.not_true, Bool.not_false]; omega)
  k_with "z call ref" => ((with_reducible show wpAny _ _ (call (Value.ref 124) _) _ _ _); refine my_call ?_; k_dflt (refine' count_spec ?zH ?zd (IsFree.keeps ?zIF ?zS2) (IsStore.keeps ?zS ?zS2') ?zgot ?zP ?zD ?_; (case zS => assumption); (case zIF => assumption); (case zH => k_extra "my pre0"); (case zS2 => k_extra "my stays0"); (case zS2' => k_extra "my stays0"); (case zgot => k_extra "my got"); (case zd => k_extra "my depth"); (case zP => with_reducible assumption); (case zD => assumption)); intro t' h' tk' P'; k_extra "my back0")
  trivial
-- END LINES
inductive FoundJ (w : World) (done l : List Nat) (f met D' : Addr) (zs' : List Value) (i : Nat) (ps' : List (Str × Value)) (led : List (Addr × Obj)) : Prop
  | mk : ∀ (fvs : List Value) (nf : Nat) (so : Obj), IntsAre fvs (nInts (done ++ l.take i)) → so.SetObjOf (intKind PySem.Challenge.rw_nt0105_01.row.prog w) (fun k => decide (k ∈ nInts (done ++ l.take i))) (done ++ l.take i).length → ps' = [] → led = [(f, listOf fvs.toArray nf), (met, so), (D', listOf zs'.toArray 0)] → FoundJ w done l f met D' zs' i ps' led
inductive PagesJ (w : World) (F : FLt) (n : Nat) (ps' : List (Str × Value)) (led : List (Addr × Obj)) : Prop
  | mk : ∀ (pre rem : FLt) (f met : Addr) (fvs : List Value) (nf : Nat) (so : Obj) (tt : Tok), n = rem.length → F = pre ++ rem → IntsAre fvs (nInts (flPages pre)) → so.SetObjOf (intKind PySem.Challenge.rw_nt0105_01.row.prog w) (fun k => decide (k ∈ nInts (flPages pre))) (flPages pre).length → ps' = [(Str.ofString "trunk", .int (flNxt rem : Nat) tt), (Str.ofString "found", .ref f), (Str.ofString "met", .ref met)] → led = [(f, listOf fvs.toArray nf), (met, so)] → @Ne Nat f met → PagesJ w F n ps' led
section
variable {w : World} {A : Around} {base g : Heap} {outer : List Env} {s : Shared}
  {p : Program} {loose : List Str} {mean : ExcName → Option Value} {mg mb : Str → Option Value} {R : Result → Shared → Prop}
  {st pg fl : Addr} {vs : List Value} {n : Nat} {P : List (List UInt8)} {ps : Nat} {F : FLt}
theorem pages_spec (H : Pre p loose mean mg mb w A base outer g s []) (hd : Room A 5) (IF : IsFree g fl st) (S : IsStore g st pg (ps : Int)) (hpg : g.get? pg = some (listOf vs.toArray n)) (hP : BytesAre vs P) (D : Db P ps F)
  (k : ∀ f fvs nf h' tk, IntsAre fvs (nInts (flPages F)) → Post g h' [(f, listOf fvs.toArray nf)] → R (.ok (.ret (.ref f))) { s with heap := h', toks := tk }) :
  codeAny (model PySem.Challenge.rw_nt0105_01.row.prog w) A (.call (.ref 145) ⟨[.ref fl], []⟩) R s := by
  revert w A base g outer s p loose mean mg mb R st pg fl vs n P ps F; refine @(close8 ?_); generalize cx8 _ = X; k_extra "my ctx"; generalize X.2.1 = st, X.2.2.1 = pg, X.2.2.2.1 = fl, X.2.2.2.2.1 = vs, X.2.2.2.2.2.1 = n, X.2.2.2.2.2.2.1 = P, X.2.2.2.2.2.2.2.1 = ps, X.2.2.2.2.2.2.2.2 = F; intro H hd IF S hpg hP D k
  have S' := S
  have IF' := IF
  obtain ⟨pc, rest, hpc, hrest, hh0⟩ := D.head
  have hl := hP.length
  have hps := D.psz
  have hsm := D.small
  have hcnt := D.cnt
  have hnx := D.tr.nxt
  k_extra "my enterX"
  k_extra "my steps"
  with_reducible rename News _ _ _ _ => N'
  with_reducible rename Fr _ _ _ _ => F'
  refine' while_G (stored := [Str.ofString "following", Str.ofString "leaves", Str.ofString "page"]) (n₀ := F.length) (ps₀ := [(Str.ofString "trunk", .int (flNxt F : Nat) _), (Str.ofString "found", .ref _), (Str.ofString "met", .ref _)])
    (led₀ := [(_, listOf (List.toArray []) 0), (_, _)])
    (fun n ps' led => PagesJ w F n ps' led)
    F' ?vN ?vps ?vj ?vturn
  case vps => k_extra "my ps"
  case vj =>
    refine' ⟨[], F, ?ff, ?fm, [], 0, ?fs, ?ft, rfl, rfl, .nil, ?fA, ?fB, ?fC, ?fD⟩
    case fB => exact rfl
    case fA => assumption
    case fC => exact rfl
    case fD => first | omega | k_extra "my ne1"
  case vN => exact N'.perm (by k_extra "my sub")
  rintro n ps' led u h tk ⟨pre, rem, f, met, fvs, nf, so, tt, rfl, hF, hfv, hso, rfl, rfl, hne⟩ Fw Nw
  clear F' N'
  have hfl := hfv.length
  rw [List.length_map] at hfl
  have hcl := congrArg List.length (congrArg flPages hF)
  rw [flPages_app, List.length_append] at hcl
  match rem, hF with
  | [], hF =>
    obtain rfl : F = pre := by rw [hF, List.append_nil]
    dsimp only [flNxt] at Fw
    have hnn : (nInts (flPages F)).length = (flPages F).length := List.length_map ..
    k_extra "my steps"
    exact k _ _ _ _ _ hfv (by k_extra "my post")
  | (tn, lv) :: r, hF =>
    obtain ⟨⟨a1, a2, a3, a4, a5⟩, a6⟩ := Trunks.suffix (hF ▸ D.tr)
    have hnr := a6.nxt
    have hall : ∀ x ∈ lv, x < 4294967296 := fun x hx => by have := a5 x hx; omega
    have hb : P[((tn : Int) - 1).toNat]? = some (trunkL ps (flNxt r) lv) := by rw [show ((tn : Int) - 1).toNat = tn - 1 by omega]; exact a3
    dsimp only [flNxt] at Fw
    have hnd := D.nd
    rw [hF, flPages_app] at hnd
    k_extra "my steps"
    refine For_here ?_
    k_extra "my steps"
    try dsimp only
    have hzl := hI'.length
    rw [List.length_map] at hzl
    refine' for_listF (stored := [Str.ofString "page"]) (ps₀ := []) (led₀ := [(f, listOf fvs.toArray nf), (met, so), (D', listOf zs'.toArray 0)])
      (FoundJ w (flPages pre) (tn :: lv) f met D' zs') ?wh F' (News.perm N' ?ws) ?wa ?wb ?wc ?wd ?we
    case wh => k_extra "my hh"
    case ws => k_extra "my sub"
    case wa => rintro i ps' led ⟨_, _, _, _, _, _, rfl⟩; exact .tail _ (.tail _ (.head _))
    case wb => exact List.forall_mem_nil _
    case wc => exact ⟨fvs, nf, so, by rw [List.take_zero, List.append_nil]; exact hfv, by rw [List.take_zero, List.append_nil]; exact hso, rfl, rfl⟩
    case wd =>
      rintro i v ps' led u h tk I oI hi hv ⟨fvs, nf, so, hfv, hso, rfl, rfl⟩ Fw Nw ne
      obtain ⟨hi', t', rfl⟩ := nInts_get hI' (by simpa using hv)
      have hx : ([tn] ++ lv)[i] ∈ tn :: lv := List.getElem_mem hi'
      have hxb : 2 ≤ ([tn] ++ lv)[i] ∧ ([tn] ++ lv)[i] ≤ P.length := by
        rcases List.mem_cons.mp hx with e | hx
        · rw [e]; exact ⟨a1, a2⟩
        · exact a5 _ hx
      have hts : (tn :: lv).take (i + 1) = (tn :: lv).take i ++ [([tn] ++ lv)[i]] := by
        rw [List.take_add_one]
        exact congrArg _ (congrArg Option.toList (List.getElem?_eq_getElem hi'))
      have hnm : ¬ ((([tn] ++ lv)[i] : Nat) : Int) ∈ nInts (flPages pre ++ (tn :: lv).take i) := by
        intro hm
        obtain ⟨y, hy, e⟩ := List.mem_map.mp hm
        have e' : y = ([tn] ++ lv)[i] := by omega
        subst e'
        have h2 : (flPages pre ++ ((tn :: lv).take i ++ (tn :: lv).drop i)).Nodup := by
          rw [List.take_append_drop]
          exact (List.nodup_append.mp (List.append_assoc .. ▸ hnd : ((flPages pre ++ (tn :: lv)) ++ flPages r).Nodup)).1
        rw [← List.append_assoc] at h2
        refine (List.nodup_append.mp h2).2.2 _ hy _ ?_ rfl
        rw [List.drop_eq_getElem_cons (show i < (tn :: lv).length from hi')]
        exact List.mem_cons_self
      have hcn : (flPages pre ++ (tn :: lv).take i).length ≤ 1000 := by
        have : ((tn :: lv).take i).length ≤ (flPages ((tn, lv) :: r)).length := by
          refine Nat.le_trans (List.length_take_le' _ _) ?_
          show _ ≤ ((tn :: lv) ++ flPages r).length
          rw [List.length_append (as := tn :: lv)]; omega
        rw [List.length_append]; omega
      have hds : flPages pre ++ (tn :: lv).take (i + 1) = (flPages pre ++ (tn :: lv).take i) ++ [([tn] ++ lv)[i]] := by rw [hts, List.append_assoc]
      generalize ([tn] ++ lv)[i] = x at *
      generalize flPages pre ++ (tn :: lv).take i = done at *
      k_extra "my apne"
      k_extra "my steps"
      with_reducible rename Obj.SetObjOf _ _ _ _ => hs2
      rw [show (fun k' => decide (k' ∈ nInts done) || decide (k' = (x : Int))) = fun k' => decide (k' ∈ nInts (done ++ [x])) from by
        funext k'
        rw [nInts, nInts, List.map_append]
        simp, if_neg (by simpa using hnm)] at hs2
      have hfv2 : ∀ t, IntsAre (fvs ++ [.int (x : Int) t]) (nInts (done ++ [x])) := fun t => by rw [nInts, List.map_append]; exact ints_snoc hfv _ t
      rw [show done.length + 1 = (done ++ [x]).length by rw [List.length_append]; rfl] at hs2
      have hfv3 : ∀ t, IntsAre (fvs ++ [.int (x : Int) t]) (nInts (flPages pre ++ (tn :: lv).take (i + 1))) := fun t => by rw [hds]; exact hfv2 t
      k_extra "my turn"
      refine' ⟨rfl, _, _, _, hfv3 _, by rw [hds]; exact hs2, rfl, rfl⟩
      k_extra "my turned"
    case we =>
      rintro ps' led u h tk ⟨fvs, nf, so, hfv, hso, rfl, rfl⟩ Fw Nw
      rw [hzl, show (tn :: lv).take ([tn] ++ lv).length = tn :: lv from List.take_length (l := tn :: lv)] at hfv hso
      clear hI'
      try dsimp only
      k_extra "my steps"
      have hpp : flPages (pre ++ [(tn, lv)]) = flPages pre ++ (tn :: lv) := by
        rw [flPages_app]
        show _ ++ ((tn :: lv) ++ []) = _
        rw [List.append_nil]
      rw [← hpp] at hfv hso
      k_extra "my wturn"
      refine' ⟨r.length, Nat.lt_succ_self _, pre ++ [(tn, lv)], r, _, _, _, _, _, _, rfl, by rw [hF, List.append_assoc]; rfl, hfv, hso, rfl, rfl, hne⟩
      k_extra "my wturned"
end
-- LINES
theorem words_19_23 : True := by
  k_with "z call ref" => ((with_reducible show wpAny _ _ (call (Value.ref 145) _) _ _ _); refine my_call ?_; k_dflt (refine' pages_spec ?zH ?zd (IsFree.keeps ?zIF ?zS2) (IsStore.keeps ?zS ?zS2') ?zgot ?zP ?zD ?_; (case zS => assumption); (case zIF => assumption); (case zH => k_extra "my pre0"); (case zS2 => k_extra "my stays0"); (case zS2' => k_extra "my stays0"); (case zgot => k_extra "my got"); (case zd => k_extra "my depth"); (case zP => with_reducible assumption); (case zD => assumption)); intro f' fvs' nf' h' tk' hI' P'; (have hL' := IntsAre.length hI'); (rw [List.length_map] at hL'); k_extra "my backN")
  trivial
-- END LINES

section
noncomputable def linkL (ps nxt : Nat) (part : List UInt8) : List UInt8 := b4 nxt ++ part ++ List.replicate (ps - (4 + part.length)) 0
theorem linkL_len {ps nxt : Nat} {part : List UInt8} (h : 4 + part.length ≤ ps) : (linkL ps nxt part).length = ps := by
  unfold linkL
  rw [List.length_append, List.length_append, b4_len, List.length_replicate]; omega
theorem link_nxt (ps nxt : Nat) (part : List UInt8) : ((linkL ps nxt part).drop 0).take 4 = b4 nxt := rfl
theorem link_part (ps nxt : Nat) (part : List UInt8) : (linkL ps nxt part).drop 4 = part ++ List.replicate (ps - (4 + part.length)) 0 := by
  unfold linkL
  rw [List.append_assoc]; rfl
noncomputable def hd0 : List Nat → Nat
  | [] => 0
  | a :: _ => a
noncomputable def Chain (P : List (List UInt8)) (ps : Nat) : List Nat → List UInt8 → Prop
  | [], o => o = []
  | pn :: r, o => (o ≠ [] ∧ 2 ≤ pn ∧ pn ≤ P.length ∧ P[pn - 1]? = some (linkL ps (hd0 r) (o.take (ps - 4)))) ∧ Chain P ps r (o.drop (ps - 4))
theorem Chain.mem {P : List (List UInt8)} {ps : Nat} : ∀ {l : List Nat} {o : List UInt8}, Chain P ps l o → ∀ x ∈ l, 2 ≤ x ∧ x ≤ P.length
  | [], _, _, _, h => nomatch h
  | pn :: r, o, h, x, hx => by
    rcases List.mem_cons.mp hx with rfl | hx
    · exact ⟨h.1.2.1, h.1.2.2.1⟩
    · exact Chain.mem h.2 x hx
theorem Chain.of {P P' : List (List UInt8)} {ps : Nat} (hl : P.length ≤ P'.length) : ∀ {l : List Nat} {o : List UInt8}, Chain P ps l o → (∀ t ∈ l, P'[t - 1]? = P[t - 1]?) → Chain P' ps l o
  | [], _, h, _ => h
  | pn :: r, o, h, e => ⟨⟨h.1.1, h.1.2.1, Nat.le_trans h.1.2.2.1 hl, (e pn (.head _)).trans h.1.2.2.2⟩, Chain.of hl h.2 fun t ht => e t (.tail _ ht)⟩
theorem Chain.head {P : List (List UInt8)} {ps : Nat} {l : List Nat} {o : List UInt8} (h : Chain P ps l o) : hd0 l ≤ P.length := by
  cases l with
  | nil => exact Nat.zero_le _
  | cons a r => exact h.1.2.2.1
theorem nodup_bound {l : List Nat} {n : Nat} (h : l.Nodup) (hb : ∀ x ∈ l, 2 ≤ x ∧ x ≤ n) : l.length ≤ n + 1 := nodup_len h fun x hx => (hb x hx).2

variable {w : World} {A : Around} {base g : Heap} {outer : List Env} {s : Shared}
  {p : Program} {loose : List Str} {mean : ExcName → Option Value} {mg mb : Str → Option Value} {R : Result → Shared → Prop}
  {st pg : Addr} {vs : List Value} {n : Nat} {P : List (List UInt8)} {ps : Nat} {pgs : List Nat} {o : List UInt8}
theorem look_at_link_spec {page : Int} {t1 : Tok} (H : Pre p loose mean mg mb w A base outer g s []) (hd : Room A 1) (S : IsStore g st pg (ps : Int)) (hpg : g.get? pg = some (listOf vs.toArray n)) (hn : vs.length < 1000)
  (h1 : 2 ≤ page) (h2 : page ≤ vs.length)
  (k : ∀ h' tk, Post g h' [] → R (.ok (.ret .none)) { s with heap := h', toks := tk }) :
  codeAny (model PySem.Challenge.rw_nt0105_01.row.prog w) A (.call (.ref 199) ⟨[.ref st, .int page t1], []⟩) R s := by
  revert w A base g outer s p loose mean mg mb R st pg vs n ps page t1; refine @(close7 ?_); generalize cx7 _ = X; k_extra "my ctx"; generalize X.2.1 = st, X.2.2.1 = pg, X.2.2.2.1 = vs, X.2.2.2.2.1 = n, X.2.2.2.2.2.1 = ps, X.2.2.2.2.2.2.1 = page, X.2.2.2.2.2.2.2 = t1; intro H hd S hpg hn h1 h2 k
  have S' := S
  have hpl := isl_got hpg
  k_extra "my enterX"
  k_extra "my steps"
  exact k _ _ (by k_extra "my post")
end
-- LINES
theorem words_20_24 : True := by
  k_with "my cond" => (simp only [beq_iff_eq, bne_iff_ne, bne_eq_false_iff_eq, Bool.not_eq_false', ne_eq, decide_eq_true_eq, decide_eq_false_iff_not, Bool.not_eq_true', Bool.not_eq_true, Bool.not_eq_false, beq_eq_false_iff_ne, Bool.not_not, Bool.not_true, Bool.not_false]; first | assumption | omega)
  k_with "my stored" => (intro z h2 h3; first
    | rfl
    | ((try simp only [List.forall_mem_cons, List.not_mem_nil, false_implies, implies_true, and_true, ne_eq] at h2); (try simp only [List.contains_cons, List.contains_nil, Bool.or_false, Bool.or_eq_false_iff, beq_eq_false_iff_ne, ne_eq] at h3); (simp only [h2, h3, kstB, stB, List.contains_cons, List.contains_nil, Bool.or_false, Bool.or_eq_true, beq_iff_eq, or_self, if_false, if_true]) <;> rfl)
    | fail "stored")
  k_with "z call ref" => ((with_reducible show wpAny _ _ (call (Value.ref 199) _) _ _ _); refine my_call ?_; k_dflt (refine' look_at_link_spec ?zH ?zd (IsStore.keeps ?zS ?zS2) ?zgot ?zn ?zh1 ?zh2 ?_; (case zS => assumption); (case zH => k_extra "my pre0"); (case zS2 => k_extra "my stays0"); (case zgot => k_extra "my got"); (case zd => k_extra "my depth"); (case zn => k_extra "my len"); (case zh1 => omega); (case zh2 => omega)); intro h' tk' P'; k_extra "my back0")
  trivial
-- END LINES
inductive LinksJ (w : World) (P : List (List UInt8)) (ps : Nat) (pgs : List Nat) (n : Nat) (ps' : List (Str × Value)) (led : List (Addr × Obj)) : Prop
  | mk : ∀ (pre rem : List Nat) (o' : List UInt8) (f met : Addr) (fvs : List Value) (nf : Nat) (so : Obj) (tt : Tok), n = rem.length → pgs = pre ++ rem → Chain P ps rem o' → IntsAre fvs (nInts pre) → so.SetObjOf (intKind PySem.Challenge.rw_nt0105_01.row.prog w) (fun k => decide (k ∈ nInts pre)) pre.length → ps' = [(Str.ofString "page", .int (hd0 rem : Nat) tt), (Str.ofString "pages", .ref f), (Str.ofString "met", .ref met)] → led = [(f, listOf fvs.toArray nf), (met, so)] → @Ne Nat f met → LinksJ w P ps pgs n ps' led
section
variable {w : World} {A : Around} {base g : Heap} {outer : List Env} {s : Shared}
  {p : Program} {loose : List Str} {mean : ExcName → Option Value} {mg mb : Str → Option Value} {R : Result → Shared → Prop}
  {st pg : Addr} {vs : List Value} {n : Nat} {P : List (List UInt8)} {ps : Nat} {pgs : List Nat} {o : List UInt8}
theorem set_snoc {prog : Program} {so : Obj} {done : List Nat} {x : Nat} (h : so.SetObjOf (intKind prog w) (fun k' => decide (k' ∈ nInts done) || decide (k' = (x : Int))) (if decide ((x : Int) ∈ nInts done) = true then done.length else done.length + 1)) (hnm : ¬ (x : Int) ∈ nInts done) :
    so.SetObjOf (intKind prog w) (fun k' => decide (k' ∈ nInts (done ++ [x]))) (done ++ [x]).length := by
  rw [show (fun k' => decide (k' ∈ nInts done) || decide (k' = (x : Int))) = fun k' => decide (k' ∈ nInts (done ++ [x])) from by
    funext k'
    rw [nInts, nInts, List.map_append]
    simp, if_neg (by simpa using hnm)] at h
  rw [List.length_append]
  exact h
theorem ints_snocN {fvs : List Value} {done : List Nat} (h : IntsAre fvs (nInts done)) (x : Nat) (t : Tok) : IntsAre (fvs ++ [.int (x : Int) t]) (nInts (done ++ [x])) := by
  rw [nInts, List.map_append]
  exact ints_snoc h _ t
theorem chain_pages_spec {t1 : Tok} (H : Pre p loose mean mg mb w A base outer g s []) (hd : Room A 2) (S : IsStore g st pg (ps : Int)) (hpg : g.get? pg = some (listOf vs.toArray n)) (hP : BytesAre vs P) (hn : P.length < 900) (hps : 64 ≤ ps) (hps2 : ps ≤ 128)
  (C : Chain P ps pgs o) (hnd : pgs.Nodup)
  (k : ∀ f fvs nf h' tk, IntsAre fvs (nInts pgs) → Post g h' [(f, listOf fvs.toArray nf)] → R (.ok (.ret (.ref f))) { s with heap := h', toks := tk }) :
  codeAny (model PySem.Challenge.rw_nt0105_01.row.prog w) A (.call (.ref 227) ⟨[.ref st, .int (hd0 pgs : Nat) t1], []⟩) R s := by
  revert w A base g outer s p loose mean mg mb R st pg vs n P ps pgs o t1; refine @(close9 ?_); generalize cx9 _ = X; k_extra "my ctx"; generalize X.2.1 = st, X.2.2.1 = pg, X.2.2.2.1 = vs, X.2.2.2.2.1 = n, X.2.2.2.2.2.1 = P, X.2.2.2.2.2.2.1 = ps, X.2.2.2.2.2.2.2.1 = pgs, X.2.2.2.2.2.2.2.2.1 = o, X.2.2.2.2.2.2.2.2.2 = t1; intro H hd S hpg hP hn hps hps2 C hnd k
  have S' := S
  have hl := hP.length
  have hcb := nodup_bound hnd C.mem
  k_extra "my enterX"
  k_extra "my steps"
  with_reducible rename News _ _ _ _ => N'
  with_reducible rename Fr _ _ _ _ => F'
  refine' while_G (stored := [Str.ofString "octets"]) (n₀ := pgs.length) (ps₀ := [(Str.ofString "page", .int (hd0 pgs : Nat) _), (Str.ofString "pages", .ref _), (Str.ofString "met", .ref _)])
    (led₀ := [(_, listOf (List.toArray []) 0), (_, _)])
    (fun n ps' led => LinksJ w P ps pgs n ps' led)
    F' ?vN ?vps ?vj ?vturn
  case vps => k_extra "my ps"
  case vj =>
    refine' ⟨[], pgs, o, ?ff, ?fm, [], 0, ?fs, ?ft, rfl, rfl, C, .nil, ?fA, ?fB, ?fC, ?fD⟩
    case fB => exact rfl
    case fA => assumption
    case fC => exact rfl
    case fD => first | omega | k_extra "my ne1"
  case vN => exact N'.perm (by k_extra "my sub")
  rintro n ps' led u h tk ⟨pre, rem, o', f, met, fvs, nf, so, tt, rfl, hF, hC, hfv, hso, rfl, rfl, hne⟩ Fw Nw
  clear F' N'
  have hfl := hfv.length
  rw [List.length_map] at hfl
  have hcl := congrArg List.length hF
  rw [List.length_append] at hcl
  match rem, hF, hC with
  | [], hF, hC =>
    obtain rfl : pgs = pre := by rw [hF, List.append_nil]
    dsimp only [hd0] at Fw
    k_extra "my steps"
    exact k _ _ _ _ _ hfv (by k_extra "my post")
  | x :: r, hF, hC =>
    obtain ⟨⟨a0, a1, a2, a3⟩, a6⟩ := hC
    have hnr := a6.head
    have e1 := (congrArg be (link_nxt ps (hd0 r) (o'.take (ps - 4)))).trans (be_b4 (by omega))
    have e3 := linkL_len (ps := ps) (nxt := hd0 r) (part := o'.take (ps - 4)) (by rw [List.length_take]; omega)
    have hb : P[((x : Int) - 1).toNat]? = some (linkL ps (hd0 r) (o'.take (ps - 4))) := by rw [show ((x : Int) - 1).toNat = x - 1 by omega]; exact a3
    have hnm : ¬ (x : Int) ∈ nInts pre := fun hm => by
      obtain ⟨y, hy, e⟩ := List.mem_map.mp hm
      rw [hF] at hnd
      exact (List.nodup_append.mp hnd).2.2 _ hy _ (.head _) (by omega)
    generalize linkL ps (hd0 r) (o'.take (ps - 4)) = oc at *
    dsimp only [hd0] at Fw
    k_extra "my steps"
    with_reducible rename Fr _ _ _ _ => F2
    with_reducible rename Obj.SetObjOf _ _ _ _ => hs2
    (try dsimp +zetaDelta only at F2)
    rw [e1] at F2
    k_extra "my wturn"
    refine' ⟨r.length, Nat.lt_succ_self _, pre ++ [x], r, _, _, _, _, _, _, _, rfl, by rw [hF, List.append_assoc]; rfl, a6, ints_snocN hfv x _, set_snoc hs2 hnm, rfl, rfl, hne⟩
    k_extra "my wturned"
end
-- LINES
theorem words_20_25 : True := by
  k_with "z call ref" => ((with_reducible show wpAny _ _ (call (Value.ref 227) _) _ _ _); refine my_call ?_; k_dflt (refine' chain_pages_spec ?zH ?zd (IsStore.keeps ?zS ?zS2) ?zgot ?zP ?zn ?zh1 ?zh2 ?zC ?znd ?_; (case zS => assumption); (case zH => k_extra "my pre0"); (case zS2 => k_extra "my stays0"); (case zgot => k_extra "my got"); (case zd => k_extra "my depth"); (case zP => with_reducible assumption); (case zn => omega); (case zh1 => omega); (case zh2 => omega); (case zC => assumption); (case znd => assumption)); intro f' fvs' nf' h' tk' hI' P'; (have hL' := IntsAre.length hI'); (rw [List.length_map] at hL'); k_extra "my backN")
  trivial
-- END LINES

section
variable {prog : Program} {w : World} {A : Around} {E : Value → Shared → Prop} {s : Shared} {env : Env} {body : List Stmt} {Q : Flow → Shared → Prop} {g₀ : Heap} {m₀ : Str → Option Value}
theorem for_rangeF {x : Str} {px : Pos} {stored : List Str} {L : Addr} {ps₀ : List (Str × Value)} {led₀ : List (Addr × Obj)} {r : Addr} {b : Int} {t₁ u₁ v₁ : Tok} {n : Nat} (J : Nat → List (Str × Value) → List (Addr × Obj) → Prop)
    (hh : A.handled = none) (F : Fr g₀ L s.heap m₀) (N : News g₀ L s.heap led₀) (hr : IsRange s.heap r 0 b 1 t₁ u₁ v₁) (hb : b = (n : Int)) (hz : n < 1000000)
    (hps : ∀ q ∈ ps₀, m₀ q.1 = some q.2) (j0 : J 0 ps₀ led₀)
    (turn : ∀ i t ps led u h tk I oI, i < n → J i ps led → Fr g₀ L h (kstB (stB stored u m₀) ps) → News g₀ L h ((I, oI) :: led) → NeAll I led →
      wpAny (model prog w) A (assign (.Name x px) env (.int (i : Int) t)) (fun _ s₃ => wpAny (model prog w) A (execs body env) (TurnPostG L I oI stored m₀ (fun g ps led => g = g₀ ∧ J (i + 1) ps led) s Q) E s₃) E { s with heap := h, toks := tk })
    (done : ∀ ps led u h tk, J n ps led → Fr g₀ L h (kstB (stB stored u m₀) ps) → News g₀ L h led → Q .next { s with heap := h, toks := tk })
    (hE : PassesOwn (model prog w) A env E := by passes_own) (hL : env.locals = L := by rfl) :
    wpAny (model prog w) A (pyIter (.ref r)) (fun it s₂ => LoopHere prog w A env (.Name x px) body Q E it s₂) E s := by
  subst hL
  refine wpAny_pyIter_range hr (range_small (by omega) (by omega)) ?_
  rw [range_count hb]
  refine loop_G (stored := stored) (ps₀ := ps₀) (src := []) (n := n) (fun i g ps led => g = g₀ ∧ J i ps led) (LCg.range_walks hh 0 n) (fun i v s Q E st q => wpAny_pure q) (fun i h st => ⟨_, st⟩) (fun i g ps led h m hj F N q hq => nomatch hq)
    (by show IsRangeIter _ _ _ _ _; simpa using Heap.get?_push_size _ rfl) (F.push _) (N.push F _) (neAll_lt fun p hp => Heap.lt_size (N p hp).1) hps ⟨rfl, j0⟩ ?_ ?_ hE
  · rintro i v g ps led u h tk oI hi ⟨t, rfl⟩ ⟨rfl, j⟩ F N ne
    rw [Int.zero_add]
    exact turn i t ps led u h tk _ oI hi j F N ne
  · rintro g ps led u h tk ⟨rfl, j⟩ F N
    exact done ps led u h tk j F N
variable {l : Addr} {vs : List Value} {la : List Nat} {k : Int} {t : Tok} {Q : Value → Shared → Prop}
theorem any_mem (ns : List Int) (k : Int) : ns.any (· == k) = decide (k ∈ ns) := by
  induction ns with
  | nil => rfl
  | cons a r ih =>
    rw [List.any_cons, ih]
    by_cases h : a = k
    · subst h; simp
    · simp [h, show ¬ k = a from fun e => h e.symm]
theorem my_in {s : Shared} (hl : s.heap.IsList l vs.toArray) (hi : IntsAre vs (nInts la)) (h : Q (.bool (decide (k ∈ nInts la))) s) : wpAny (model prog w) A (compareOp .In (.int k t) (.ref l)) Q E s :=
  in_list_ints hl hi (by rw [any_mem]; exact h)
theorem my_notin {s : Shared} (hl : s.heap.IsList l vs.toArray) (hi : IntsAre vs (nInts la)) (h : Q (.bool (!decide (k ∈ nInts la))) s) : wpAny (model prog w) A (compareOp .NotIn (.int k t) (.ref l)) Q E s :=
  notin_list_ints hl hi (by rw [any_mem]; exact h)
end
-- LINES
theorem words_21_26 : True := by
  k_with "my ints" => first | (with_reducible assumption) | exact IntsAre.nil | exact ints_one _ _
  k_with "compareOp In int ref" => (k_dflt (refine' my_in ?zl ?zi ?_; (case zl => k_extra "my isl"); (case zi => assumption)))
  k_with "compareOp NotIn int ref" => (k_dflt (refine' my_notin ?zl ?zi ?_; (case zl => k_extra "my isl"); (case zi => assumption)))
  trivial
-- END LINES
section
theorem Chain.len {P : List (List UInt8)} {ps : Nat} (hps : 4 < ps) : ∀ {l : List Nat} {o : List UInt8}, Chain P ps l o → l.length = (o.length + (ps - 4) - 1) / (ps - 4)
  | [], o, h => by
    have h' : o = [] := h
    subst h'
    rw [List.length_nil, List.length_nil, Nat.div_eq_of_lt (by omega)]
  | pn :: r, o, h => by
    have ih := Chain.len hps h.2
    have h0 : 0 < o.length := List.length_pos_iff.mpr h.1.1
    rw [List.length_cons, ih, List.length_drop]
    have hq0 : 0 < ps - 4 := by omega
    clear ih h
    generalize ps - 4 = q at *
    rcases Nat.lt_or_ge q o.length with hq | hq
    · rw [n_c1 hq, Nat.add_div_right _ hq0]
    · rw [n_c2 hq, Nat.div_eq_of_lt (show q - 1 < q by omega), n_c3 h0, Nat.add_div_right _ hq0, Nat.div_eq_of_lt (show o.length - 1 < q by omega)]
variable {w : World} {A : Around} {base g : Heap} {outer : List Env} {s : Shared}
  {p : Program} {loose : List Str} {mean : ExcName → Option Value} {mg mb : Str → Option Value} {R : Result → Shared → Prop}
  {st pg : Addr} {vs : List Value} {n : Nat} {P : List (List UInt8)} {ps : Nat} {pgs : List Nat} {o : List UInt8}
theorem Chain.get {P : List (List UInt8)} {ps : Nat} : ∀ {l : List Nat} {o : List UInt8} (_ : Chain P ps l o) (i : Nat) (h : i < l.length), ∃ part, part.length ≤ ps - 4 ∧ P[l[i] - 1]? = some (linkL ps (hd0 (l.drop (i + 1))) part)
  | pn :: r, o, c, 0, _ => ⟨o.take (ps - 4), by rw [List.length_take]; omega, c.1.2.2.2⟩
  | pn :: r, o, c, i + 1, h => Chain.get c.2 i (Nat.lt_of_succ_lt_succ h)
theorem hd0_drop : ∀ (l : List Nat) (i : Nat) (h : i < l.length), hd0 (l.drop i) = l[i]
  | a :: r, 0, _ => rfl
  | a :: r, i + 1, h => hd0_drop r i (Nat.lt_of_succ_lt_succ h)
theorem hd0_end (l : List Nat) : hd0 (l.drop l.length) = 0 := by rw [List.drop_length]; rfl
theorem not_in_take {l : List Nat} (h : l.Nodup) (i : Nat) (hi : i < l.length) : ¬ ((l[i] : Nat) : Int) ∈ nInts (l.take i) := fun hm => by
  obtain ⟨y, hy, e⟩ := List.mem_map.mp hm
  have e' : y = l[i] := by omega
  subst e'
  have h2 : (l.take i ++ l.drop i).Nodup := by rw [List.take_append_drop]; exact h
  refine (List.nodup_append.mp h2).2.2 _ hy _ ?_ rfl
  rw [List.drop_eq_getElem_cons hi]
  exact List.mem_cons_self
theorem take_next {l : List Nat} (i : Nat) (hi : i < l.length) : l.take (i + 1) = l.take i ++ [l[i]] := by
  rw [List.take_add_one, List.getElem?_eq_getElem hi]; rfl
theorem chain_of_size_spec {sz : Int} {t1 t2 : Tok} (H : Pre p loose mean mg mb w A base outer g s []) (hd : Room A 2) (S : IsStore g st pg (ps : Int)) (hpg : g.get? pg = some (listOf vs.toArray n)) (hP : BytesAre vs P) (hn : P.length < 900) (hps : 64 ≤ ps) (hps2 : ps ≤ 128)
  (C : Chain P ps pgs o) (hnd : pgs.Nodup) (hsz : sz = (o.length : Int)) (hol : o.length < 100000)
  (k : ∀ f fvs nf h' tk, IntsAre fvs (nInts pgs) → Post g h' [(f, listOf fvs.toArray nf)] → R (.ok (.ret (.ref f))) { s with heap := h', toks := tk }) :
  codeAny (model PySem.Challenge.rw_nt0105_01.row.prog w) A (.call (.ref 213) ⟨[.ref st, .int (hd0 pgs : Nat) t1, .int sz t2], []⟩) R s := by
  revert w A base g outer s p loose mean mg mb R st pg vs n P ps pgs o sz t1 t2; refine @(close11 ?_); generalize cx11 _ = X; k_extra "my ctx"; generalize X.2.1 = st, X.2.2.1 = pg, X.2.2.2.1 = vs, X.2.2.2.2.1 = n, X.2.2.2.2.2.1 = P, X.2.2.2.2.2.2.1 = ps, X.2.2.2.2.2.2.2.1 = pgs, X.2.2.2.2.2.2.2.2.1 = o, X.2.2.2.2.2.2.2.2.2.1 = sz, X.2.2.2.2.2.2.2.2.2.2.1 = t1, X.2.2.2.2.2.2.2.2.2.2.2 = t2; intro H hd S hpg hP hn hps hps2 C hnd hsz hol k
  have S' := S
  have hl := hP.length
  have hcb := nodup_bound hnd C.mem
  have hcl := C.len (by omega)
  subst hsz
  have hcd : ((o.length : Int) + ((ps : Int) - 4) - 1) / ((ps : Int) - 4) = (pgs.length : Nat) := by
    rw [hcl, Int.natCast_ediv]
    congr 1 <;> omega
  k_extra "my enterX"
  k_extra "my steps"
  refine For_here ?_
  k_extra "my steps"
  with_reducible rename News _ _ _ _ => N'
  with_reducible rename Fr _ _ _ _ => F'
  refine' for_rangeF (n := pgs.length) (stored := [Str.ofString "k"]) (ps₀ := [(Str.ofString "page", .int (hd0 (pgs.drop 0) : Nat) _), (Str.ofString "pages", .ref _)]) (led₀ := [(_, listOf (List.toArray []) 0)])
    (fun i ps' led => ∃ (f : Addr) (fvs : List Value) (nf : Nat) (tt : Tok), IntsAre fvs (nInts (pgs.take i)) ∧ ps' = [(Str.ofString "page", .int (hd0 (pgs.drop i) : Nat) tt), (Str.ofString "pages", .ref f)] ∧ led = [(f, listOf fvs.toArray nf)])
    ?vh F' ?vN (by assumption) hcd (by omega) ?vps ?vj ?vt ?vd
  case vh => k_extra "my hh"
  case vps => k_extra "my ps"
  case vj =>
    refine' ⟨?ff, [], 0, ?ft, .nil, ?fB, ?fC⟩
    case fB => exact rfl
    case fC => exact rfl
  case vN => exact N'.perm (by k_extra "my sub")
  case vt =>
    rintro i ti ps' led u h tk I oI hi ⟨f, fvs, nf, tt, hfv, rfl, rfl⟩ Fw Nw ne
    clear F' N'
    obtain ⟨part, hp1, hp2⟩ := C.get i hi
    have hnr : hd0 (pgs.drop (i + 1)) ≤ P.length := by
      rcases Nat.lt_or_ge (i + 1) pgs.length with h | h
      · rw [hd0_drop _ _ h]; exact (C.mem _ (List.getElem_mem h)).2
      · rw [List.drop_eq_nil_of_le h]; exact Nat.zero_le _
    have e1 := (congrArg be (link_nxt ps (hd0 (pgs.drop (i + 1))) part)).trans (be_b4 (by omega))
    have e3 := linkL_len (ps := ps) (nxt := hd0 (pgs.drop (i + 1))) (part := part) (by omega)
    have hx := C.mem _ (List.getElem_mem hi)
    have hb : P[((pgs[i] : Int) - 1).toNat]? = some (linkL ps (hd0 (pgs.drop (i + 1))) part) := by rw [show ((pgs[i] : Int) - 1).toNat = pgs[i] - 1 by omega]; exact hp2
    have hnm := not_in_take hnd i hi
    have htn := take_next i hi
    rw [hd0_drop _ _ hi] at Fw
    have hfl := hfv.length
    rw [List.length_map, List.length_take] at hfl
    generalize linkL ps (hd0 (pgs.drop (i + 1))) part = oc at *
    generalize pgs[i] = x at *
    k_extra "my apne"
    k_extra "my steps"
    with_reducible rename Fr _ _ _ _ => F2
    (try dsimp +zetaDelta only at F2)
    rw [e1] at F2
    rw [htn]
    k_extra "my turn"
    refine' ⟨rfl, _, _, _, _, ints_snocN hfv x _, rfl, rfl⟩
    k_extra "my turned"
  case vd =>
    rintro ps' led u h tk ⟨f, fvs, nf, tt, hfv, rfl, rfl⟩ Fw Nw
    clear F' N'
    rw [List.take_length] at hfv
    rw [hd0_end] at Fw
    try dsimp only
    k_extra "my steps"
    exact k _ _ _ _ _ hfv (by k_extra "my post")
end

-- LINES
theorem words_22_27 : True := by
  k_with "z call ref" => ((with_reducible show wpAny _ _ (call (Value.ref 213) _) _ _ _); refine my_call ?_; k_dflt (refine' chain_of_size_spec ?zH ?zd (IsStore.keeps ?zS ?zS2) ?zgot ?zP ?zn ?zh1 ?zh2 ?zC ?znd ?zsz ?zol ?_; (case zS => assumption); (case zH => k_extra "my pre0"); (case zS2 => k_extra "my stays0"); (case zgot => k_extra "my got"); (case zd => k_extra "my depth"); (case zP => with_reducible assumption); (case zn => omega); (case zh1 => omega); (case zh2 => omega); (case zC => assumption); (case znd => assumption); (case zsz => first | rfl | omega); (case zol => omega)); intro f' fvs' nf' h' tk' hI' P'; (have hL' := IntsAre.length hI'); (rw [List.length_map] at hL'); k_extra "my backN")
  trivial
-- END LINES
inductive ReadJ (P : List (List UInt8)) (ps sz : Nat) (o : List UInt8) (left : Nat) (ps' : List (Str × Value)) (led : List (Addr × Obj)) : Prop
  | mk : ∀ (rem : List Nat) (o' : List UInt8) (f : Addr) (pvs : List Value) (parts : List (List UInt8)) (nf : Nat) (tt tl : Tok), Chain P ps rem o' → left ≤ o'.length → o'.length ≤ o.length → BytesAre pvs parts → parts.flatten ++ o'.take left = o.take sz → parts.length + left ≤ sz → ps' = [(Str.ofString "page", .int (hd0 rem : Nat) tt), (Str.ofString "left", .int (left : Nat) tl), (Str.ofString "parts", .ref f)] → led = [(f, listOf pvs.toArray nf)] → ReadJ P ps sz o left ps' led
section
theorem part_is {ps nxt : Nat} {o' : List UInt8} {left : Nat} (hps : 4 ≤ ps) (hl : left ≤ o'.length) :
    ((linkL ps nxt (o'.take (ps - 4))).drop 4).take ((4 + (left : Int)).toNat - 4) = o'.take (min left (ps - 4)) := by
  rw [link_part, ar_tnA]
  rcases Nat.le_total left (ps - 4) with h | h
  · rw [List.take_append_of_le_length (by rw [List.length_take]; omega), List.take_take]
  · have e : (o'.take (ps - 4)).length = ps - 4 := by rw [List.length_take]; omega
    rw [e, n_46, List.replicate_zero, List.append_nil, List.take_take]
theorem part_rest {q left : Nat} {o' : List UInt8} (hl : left ≤ o'.length) : o'.take (min left q) ++ (o'.drop q).take (left - min left q) = o'.take left := by
  rcases Nat.le_total left q with h | h
  · rw [Nat.min_eq_left h, Nat.sub_self, List.take_zero, List.append_nil]
  · rw [Nat.min_eq_right h]
    conv => rhs; rw [← Nat.add_sub_cancel' h, List.take_add]
variable {w : World} {A : Around} {base g : Heap} {outer : List Env} {s : Shared}
  {p : Program} {loose : List Str} {mean : ExcName → Option Value} {mg mb : Str → Option Value} {R : Result → Shared → Prop}
  {st pg : Addr} {vs : List Value} {n : Nat} {P : List (List UInt8)} {ps : Nat} {pgs : List Nat} {o : List UInt8}
theorem read_chain_spec {sz : Nat} {t1 t2 : Tok} (H : Pre p loose mean mg mb w A base outer g s []) (hd : Room A 2) (S : IsStore g st pg (ps : Int)) (hpg : g.get? pg = some (listOf vs.toArray n)) (hP : BytesAre vs P) (hn : P.length < 900) (hps : 64 ≤ ps) (hps2 : ps ≤ 128)
  (C : Chain P ps pgs o) (hsz : sz ≤ o.length) (hol : o.length < 100000)
  (k : ∀ t h' tk, Post g h' [] → R (.ok (.ret (.bytes (o.take sz).toArray t))) { s with heap := h', toks := tk }) :
  codeAny (model PySem.Challenge.rw_nt0105_01.row.prog w) A (.call (.ref 206) ⟨[.ref st, .int (hd0 pgs : Nat) t1, .int (sz : Int) t2], []⟩) R s := by
  revert w A base g outer s p loose mean mg mb R st pg vs n P ps pgs o sz t1 t2; refine @(close11 ?_); generalize cx11 _ = X; k_extra "my ctx"; generalize X.2.1 = st, X.2.2.1 = pg, X.2.2.2.1 = vs, X.2.2.2.2.1 = n, X.2.2.2.2.2.1 = P, X.2.2.2.2.2.2.1 = ps, X.2.2.2.2.2.2.2.1 = pgs, X.2.2.2.2.2.2.2.2.1 = o, X.2.2.2.2.2.2.2.2.2.1 = sz, X.2.2.2.2.2.2.2.2.2.2.1 = t1, X.2.2.2.2.2.2.2.2.2.2.2 = t2; intro H hd S hpg hP hn hps hps2 C hsz hol k
  have S' := S
  have hl := hP.length
  k_extra "my enterX"
  k_extra "my steps"
  with_reducible rename News _ _ _ _ => N'
  with_reducible rename Fr _ _ _ _ => F'
  refine' while_G (stored := [Str.ofString "octets", Str.ofString "part"]) (n₀ := sz) (ps₀ := [(Str.ofString "page", .int (hd0 pgs : Nat) _), (Str.ofString "left", .int (sz : Nat) _), (Str.ofString "parts", .ref _)]) (led₀ := [(_, listOf (List.toArray []) 0)])
    (fun left ps' led => ReadJ P ps sz o left ps' led)
    F' ?vN ?vps ?vj ?vturn
  case vps => k_extra "my ps"
  case vj =>
    refine' ⟨pgs, o, ?ff, [], [], 0, ?ft, ?fl, C, hsz, Nat.le_refl _, .nil, rfl, by rw [List.length_nil]; omega, ?fB, ?fC⟩
    case fB => exact rfl
    case fC => exact rfl
  case vN => exact N'.perm (by k_extra "my sub")
  rintro left ps' led u h tk ⟨rem, o', f, pvs, parts, nf, tt, tl, hC, hle, hoo, hB, hfl, hpl, rfl, rfl⟩ Fw Nw
  clear F' N'
  have hbl := hB.length
  rcases Nat.eq_zero_or_pos left with h0 | hpos
  · subst h0
    rw [List.take_zero, List.append_nil] at hfl
    have hflat : parts.flatten.length ≤ 16777216 := by rw [hfl, List.length_take]; omega
    k_extra "my steps"
    rw [hfl]
    exact k _ _ _ (by k_extra "my post")
  · match rem, hC with
    | [], hC =>
      have hC' : o' = [] := hC
      rw [hC', List.length_nil] at hle
      omega
    | x :: r, hC =>
      obtain ⟨⟨a0, a1, a2, a3⟩, a6⟩ := hC
      have hnr := a6.head
      have e1 := (congrArg be (link_nxt ps (hd0 r) (o'.take (ps - 4)))).trans (be_b4 (by omega))
      have e3 := linkL_len (ps := ps) (nxt := hd0 r) (part := o'.take (ps - 4)) (by rw [List.length_take]; omega)
      have e4 := part_is (ps := ps) (nxt := hd0 r) (by omega) hle
      have hb : P[((x : Int) - 1).toNat]? = some (linkL ps (hd0 r) (o'.take (ps - 4))) := by rw [ar_tn1]; exact a3
      generalize linkL ps (hd0 r) (o'.take (ps - 4)) = oc at *
      dsimp only [hd0] at Fw
      k_extra "my steps"
      with_reducible rename Fr _ _ _ _ => F2
      with_reducible rename News _ _ _ _ => N2
      have hml : (o'.take (min left (ps - 4))).length = min left (ps - 4) := by rw [List.length_take]; omega
      (try dsimp +zetaDelta only at F2)
      rw [e1, e4, hml, n_zsub (Nat.min_le_left _ _)] at F2
      rw [e4] at N2
      have hpr := part_rest (q := ps - 4) hle
      have hB2 := fun t => hB.snoc (o'.take (min left (ps - 4))) t
      k_extra "my wturn"
      refine' ⟨left - min left (ps - 4), n_L3 hpos (n_pos4 (by assumption)), r, o'.drop (ps - 4), _, _, _, _, _, _, a6, by rw [List.length_drop]; exact n_L1 hle, by rw [List.length_drop]; exact Nat.le_trans (Nat.sub_le _ _) hoo, hB2 _, by rw [List.flatten_append, List.append_assoc]; simpa [hpr] using hfl, by rw [List.length_append, List.length_singleton]; exact n_L2 (n_pos4 (by assumption)) hpl hpos, rfl, rfl⟩
      k_extra "my wturned"
end

-- LINES
theorem words_23_28 : True := by
  k_with "my turnB" => ((show TurnEndG _ _ _ _ _ _ _ _); (try dsimp only); k_dflt (refine' TurnEndG.intro ?xj ?xF ?xN ?xI ?xsub ?xne ?xps ?xms); (case xF => k_asm); (case xN => k_asm); (case' xj => skip))
  k_with "my turnedB" => ((case xI => k_mem); (case xsub => k_extra "my sub"); (case xne => k_extra "my neAll"); (case xps => k_extra "my ps"); (case xms => k_extra "my stored"))
  k_with "my stepsI" => repeat' (k_extra "my nostop"; k_extra "my loopstop"; (fail_if_success (with_reducible show wpAny _ _ (eval (Expr.IfExp _ _ _ _) _) _ _ _)); first | walk1 | (dsimp only; walk1))
  k_with "my stepsC" => repeat' ((fail_if_success (with_reducible show LCg.CompEnd _ _ _ _ _ _ _ _ _ _ _ _ _ _)); k_extra "my nostop"; k_extra "my loopstop"; first | walk1 | (dsimp only; walk1))
  k_with "z call ref" => ((with_reducible show wpAny _ _ (call (Value.ref 206) _) _ _ _); refine my_call ?_; k_dflt (refine' read_chain_spec ?zH ?zd (IsStore.keeps ?zS ?zS2) ?zgot ?zP ?zn ?zh1 ?zh2 ?zC ?zsz ?zol ?_; (case zS => assumption); (case zH => k_extra "my pre0"); (case zS2 => k_extra "my stays0"); (case zgot => k_extra "my got"); (case zd => k_extra "my depth"); (case zP => with_reducible assumption); (case zn => omega); (case zh1 => omega); (case zh2 => omega); (case zC => assumption); (case zsz => first | assumption | omega); (case zol => omega)); intro t' h' tk' P'; k_extra "my back0")
  k_with "z subscriptTail" => ((with_reducible show wpAny _ _ (subscriptTail _ _ (Value.ref _) (Value.int _ _)) _ _ _); k_dflt (refine' my_iitem ?zk1 ?zk2 ?zk3 ?zk4 ?zk5 ?_; (case zk1 => k_extra "my isl"); (case zk2 => assumption); (case zk3 => omega); (case zk4 => omega); (case zk5 => assumption); k_whole); intro t')
  k_with "subscriptTail Name Name ref int" => ((with_reducible show wpAny _ _ (subscriptTail _ _ (Value.ref _) (Value.int _ _)) _ _ _); k_dflt (refine' my_iitem ?zk1 ?zk2 ?zk3 ?zk4 ?zk5 ?_; (case zk1 => k_extra "my isl"); (case zk2 => assumption); (case zk3 => omega); (case zk4 => omega); (case zk5 => assumption); k_whole); intro t')
  k_with "subscriptTail Name BinOp ref int" => ((with_reducible show wpAny _ _ (subscriptTail _ _ (Value.ref _) (Value.int _ _)) _ _ _); k_dflt (refine' my_iitem ?zk1 ?zk2 ?zk3 ?zk4 ?zk5 ?_; (case zk1 => k_extra "my isl"); (case zk2 => assumption); (case zk3 => omega); (case zk4 => omega); (case zk5 => assumption); k_whole); intro t')
  k_with "subscriptTail Name Constant ref int" => ((with_reducible show wpAny _ _ (subscriptTail _ _ (Value.ref _) (Value.int _ _)) _ _ _); k_dflt (refine' my_iitem ?zk1 ?zk2 ?zk3 ?zk4 ?zk5 ?_; (case zk1 => k_extra "my isl"); (case zk2 => assumption); (case zk3 => omega); (case zk4 => omega); (case zk5 => assumption); k_whole); intro t')
  k_with "z call ref" => ((with_reducible show wpAny _ _ (call (Value.ref 79) [Value.int 0 _]) _ _ _); refine my_call ?_; k_dflt (refine' four_spec (n := 0) ?zH ?zd ?zh2 ?_; (case zH => k_extra "my pre0"); (case zd => k_extra "my depth"); (case zh2 => omega)); intro t' h' tk' P'; k_extra "my back0")
  k_with "z call ref" => ((with_reducible show wpAny _ _ (call (Value.ref 131) _) _ _ _); refine my_call ?_; k_dflt (refine' take_spec ?zH ?zd (IsFree.keeps ?zIF ?zS2) (IsStore.keeps ?zS ?zS2') ?zP ?zD ?zs ?_; (case zS => assumption); (case zIF => assumption); (case zH => k_extra "my pre1"); (case zS2 => k_extra "my stays1"); (case zS2' => k_extra "my stays1"); (case zd => k_extra "my depth"); (case zP => with_reducible assumption); (case zD => assumption); (case zs => omega)); intro vs' P' F' n' pn' t' h' tk' hB' hT' P'; k_extra "my back1")
  k_with "z call ref" => ((with_reducible show wpAny _ _ (call (Value.ref 138) _) _ _ _); refine my_call ?_; k_dflt (refine' give_spec ?zH ?zd (IsFree.keeps ?zIF ?zS2) (IsStore.keeps ?zS ?zS2') ?zP ?zD ?zh1 ?zh2 ?zh3 ?_; (case zS => assumption); (case zIF => assumption); (case zH => k_extra "my pre1"); (case zS2 => k_extra "my stays1"); (case zS2' => k_extra "my stays1"); (case zd => k_extra "my depth"); (case zP => with_reducible assumption); (case zD => assumption); (case zh1 => omega); (case zh2 => omega); (case zh3 => assumption)); intro vs' Pg' Fg' h' tk' hB' hG' P'; k_extra "my back1")
  trivial
-- END LINES
section
noncomputable def IsPool (g : Heap) (pool fl st : Addr) : Prop := ∃ pd a1 a2 k1 k2 n, g.get? pool = some (instObj 176 pd) ∧ g.get? pd = some (dictOf [⟨a1, .str (Str.ofString "pager") k1, .ref st⟩, ⟨a2, .str (Str.ofString "free") k2, .ref fl⟩] n)
theorem IsPool.keeps {g h : Heap} {pool fl st : Addr} (S : IsPool g pool fl st) (k : g.StaysIn h) : IsPool h pool fl st := by
  obtain ⟨pd, a1, a2, k1, k2, n, h1, h2⟩ := S
  exact ⟨pd, a1, a2, k1, k2, n, k _ _ h1, k _ _ h2⟩
theorem IsPool.pgr {w : World} {prog : Program} {g : Heap} {pool fl st : Addr} (S : IsPool g pool fl st) (X : (K w.params).In g) : Attr prog w g pool "pager" (.ref st) := by
  obtain ⟨pd, a1, a2, k1, k2, n, h1, h2⟩ := S
  exact attr_of X h1 h2 (by kernel_rfl) rfl rfl
theorem IsPool.fre {w : World} {prog : Program} {g : Heap} {pool fl st : Addr} (S : IsPool g pool fl st) (X : (K w.params).In g) : Attr prog w g pool "free" (.ref fl) := by
  obtain ⟨pd, a1, a2, k1, k2, n, h1, h2⟩ := S
  exact attr_of X h1 h2 (by kernel_rfl) rfl rfl
end
-- LINES
theorem words_23_29 : True := by
  k_with "my attr" => first | exact IsPool.pgr (by assumption) (by assumption) | exact IsPool.fre (by assumption) (by assumption)
  trivial
-- END LINES
section
noncomputable def TakesR (P : List (List UInt8)) (ps : Nat) (F : FLt) (ts : List Nat) (P' : List (List UInt8)) (F' : FLt) : Prop :=
  Db P' ps F' ∧ (∀ i, i ≠ 0 → i + 1 ∉ flPages F → i < P.length → P'[i]? = P[i]?) ∧
    ∃ a m, ts = a ++ (List.range m).map (P.length + 1 + ·) ∧ (flPages F).Perm (a ++ flPages F') ∧ P'.length = P.length + m ∧ (m ≠ 0 → F' = [])
theorem TakesR.nil {P : List (List UInt8)} {ps : Nat} {F : FLt} (D : Db P ps F) : TakesR P ps F [] P F :=
  ⟨D, fun _ _ _ _ => rfl, [], 0, rfl, List.Perm.refl _, rfl, fun h => absurd rfl h⟩
theorem TakesR.snoc {P P' P'' : List (List UInt8)} {ps pn : Nat} {F F' F'' : FLt} {ts : List Nat} (h : TakesR P ps F ts P' F') (t : TakeR P' ps F' P'' F'' pn) : TakesR P ps F (ts ++ [pn]) P'' F'' := by
  obtain ⟨D, fr, a, m, rfl, hp, hl, hm⟩ := h
  obtain ⟨D', fr', ht⟩ := t
  refine ⟨D', fun i h0 hf hi => ?_, ?_⟩
  · refine (fr' i h0 (fun h => hf (hp.mem_iff.mpr (List.mem_append_right _ h))) (by omega)).trans (fr i h0 hf hi)
  · rcases ht with ⟨rfl, rfl, rfl, hl'⟩ | ⟨hl', hp'⟩
    · refine ⟨a, m + 1, ?_, hp, by omega, fun _ => rfl⟩
      rw [List.range_succ, List.map_append, ← List.append_assoc, hl]
      congr 1
      show [P.length + m + 1] = [P.length + 1 + m]
      congr 1; omega
    · have h0 : m = 0 := Nat.eq_zero_of_not_pos fun hpos => by
        rw [hm (by omega)] at hp'
        exact absurd hp'.length_eq (by simp [flPages])
      subst h0
      refine ⟨a ++ [pn], 0, by simp, ?_, by omega, fun h => absurd rfl h⟩
      rw [List.append_assoc]
      exact hp.trans (List.Perm.append_left a hp')
theorem TakesR.pages {P P' : List (List UInt8)} {ps : Nat} {F F' : FLt} {ts : List Nat} (D : Db P ps F) (h : TakesR P ps F ts P' F') : (ts ++ flPages F').Nodup ∧ (∀ x ∈ ts, 2 ≤ x ∧ x ≤ P'.length) ∧ (∀ x ∈ ts, x ∈ flPages F ∨ P.length < x) := by
  obtain ⟨D', _, a, m, rfl, hp, hl, hm⟩ := h
  have hpos := D.pos
  have hnd := hp.nodup_iff.mp D.nd
  have ha : ∀ x ∈ a, x ∈ flPages F := fun x hx => hp.mem_iff.mpr (List.mem_append_left _ hx)
  have hr : ∀ x ∈ (List.range m).map (P.length + 1 + ·), P.length < x ∧ x ≤ P'.length := fun x hx => by
    obtain ⟨j, hj, rfl⟩ := List.mem_map.mp hx
    have := List.mem_range.mp hj
    constructor <;> omega
  refine ⟨?_, fun x hx => ?_, fun x hx => ?_⟩
  · rcases Nat.eq_zero_or_pos m with rfl | hpos
    · simpa using hnd
    · rw [hm (by omega)] at hnd ⊢
      rw [flPages, List.append_nil] at hnd ⊢
      refine List.nodup_append.mpr ⟨hnd, ?_, fun x hx y hy e => ?_⟩
      · exact (List.pairwise_map.mpr (List.nodup_range.imp fun h e => h (by omega)))
      · have h1 := (D.tr.mem x (ha x hx)).2
        have h2 := (hr y hy).1
        omega
  · rcases List.mem_append.mp hx with hx | hx
    · have := D.tr.mem x (ha x hx); omega
    · have := hr x hx; omega
  · rcases List.mem_append.mp hx with hx | hx
    · exact .inl (ha x hx)
    · exact .inr (hr x hx).1
variable {w : World} {A : Around} {base g : Heap} {outer : List Env} {s : Shared}
  {p : Program} {loose : List Str} {mean : ExcName → Option Value} {mg mb : Str → Option Value} {R : Result → Shared → Prop}
  {st pg fl pool : Addr} {vs : List Value} {n : Nat} {P : List (List UInt8)} {ps : Nat} {F : FLt} {o : List UInt8}
theorem link_bytes {ps i nx : Nat} {o : List UInt8} (hps : 4 ≤ ps) :
    b4 nx ++ (o.drop ((i : Int) * ((ps : Int) - 4)).toNat).take ((((i : Int) + 1) * ((ps : Int) - 4)).toNat - ((i : Int) * ((ps : Int) - 4)).toNat) ++
      List.replicate ((ps : Int) - 4 - (((o.drop ((i : Int) * ((ps : Int) - 4)).toNat).take ((((i : Int) + 1) * ((ps : Int) - 4)).toNat - ((i : Int) * ((ps : Int) - 4)).toNat)).length : Nat)).toNat 0 = linkL ps nx ((o.drop (i * (ps - 4))).take (ps - 4)) := by
  rw [n_ps4z hps, n_lb1, n_lb2, n_step]
  unfold linkL
  congr 2
  rw [Int.toNat_sub, Nat.sub_sub]
theorem write_step {ts : List Nat} {P2 P' : List (List UInt8)} {i : Nat} {L : Nat → List UInt8} {b : List UInt8} (hnd : ts.Nodup) (hi : i < ts.length) (hge : ∀ x ∈ ts, 2 ≤ x ∧ x ≤ P'.length) (hP2 : P2.length = P'.length)
    (hw : ∀ j (hj : j < ts.length), j < i → P2[ts[j] - 1]? = some (L j)) (hfr : ∀ q, (∀ x ∈ ts, q ≠ x - 1) → P2[q]? = P'[q]?) (hb : b = L i) :
    (∀ j (hj : j < ts.length), j < i + 1 → (P2.set (ts[i] - 1) b)[ts[j] - 1]? = some (L j)) ∧ (∀ q, (∀ x ∈ ts, q ≠ x - 1) → (P2.set (ts[i] - 1) b)[q]? = P'[q]?) := by
  have hxi := hge _ (List.getElem_mem hi)
  refine ⟨fun j hj h => ?_, fun q hq => ?_⟩
  · rcases Nat.lt_or_ge j i with h1 | h1
    · have hxj := hge _ (List.getElem_mem hj)
      rw [List.getElem?_set_ne]
      · exact hw j hj h1
      · intro e
        have e2 : ts[i] = ts[j] := by omega
        exact absurd ((List.getElem_inj hnd).mp e2) (by omega)
    · have : j = i := by omega
      subst this
      rw [List.getElem?_set_self (by omega), hb]
  · rw [List.getElem?_set_ne fun e => hq _ (List.getElem_mem hi) e.symm]
    exact hfr q hq
theorem chain_build {P2 : List (List UInt8)} {ps : Nat} (hq : 0 < ps - 4) : ∀ (ts : List Nat) (o : List UInt8), ts.length = (o.length + (ps - 4) - 1) / (ps - 4) → (∀ x ∈ ts, 2 ≤ x ∧ x ≤ P2.length) →
    (∀ j (hj : j < ts.length), P2[ts[j] - 1]? = some (linkL ps (hd0 (ts.drop (j + 1))) ((o.drop (j * (ps - 4))).take (ps - 4)))) → Chain P2 ps ts o
  | [], o, hl, _, _ => by
    show o = []
    rcases Nat.eq_zero_or_pos o.length with h | h
    · exact List.length_eq_zero_iff.mp h
    · rw [List.length_nil, n_c3 h, Nat.add_div_right _ hq] at hl
      exact absurd hl.symm (Nat.succ_ne_zero _)
  | x :: r, o, hl, hx, hw => by
    have h0 : 0 < o.length := Nat.pos_of_ne_zero fun e => by
      rw [e, Nat.zero_add, Nat.div_eq_of_lt (by omega), List.length_cons] at hl
      exact absurd hl (Nat.succ_ne_zero _)
    refine ⟨⟨fun e => by rw [e] at h0; exact absurd h0 (Nat.lt_irrefl 0), (hx x (.head _)).1, (hx x (.head _)).2, ?_⟩, chain_build hq r (o.drop (ps - 4)) ?_ (fun y hy => hx y (.tail _ hy)) fun j hj => ?_⟩
    · have := hw 0 (Nat.zero_lt_succ _)
      rwa [Nat.zero_mul, List.drop_zero] at this
    · rw [List.length_cons] at hl
      rw [List.length_drop]
      clear hw hx
      generalize ps - 4 = q at *
      rcases Nat.lt_or_ge q o.length with h | h
      · rw [n_c1 h, Nat.add_div_right _ hq] at hl
        exact Nat.add_right_cancel hl
      · rw [n_c3 h0, Nat.add_div_right _ hq, Nat.div_eq_of_lt (show o.length - 1 < q by omega)] at hl
        rw [n_c2 h, Nat.div_eq_of_lt (show q - 1 < q by omega)]
        omega
    · have := hw (j + 1) (Nat.succ_lt_succ hj)
      rw [List.drop_drop, show (ps - 4) + j * (ps - 4) = (j + 1) * (ps - 4) by rw [Nat.add_mul, Nat.one_mul, Nat.add_comm]]
      exact this
theorem Db.same {P P' : List (List UInt8)} {ps : Nat} {F : FLt} (D : Db P ps F) (hl : P'.length = P.length) (h0 : P'[0]? = P[0]?) (h : ∀ t ∈ flPages F, P'[t - 1]? = P[t - 1]?) : Db P' ps F := by
  obtain ⟨pc, rest, h1, h2, h3⟩ := D.head
  exact ⟨D.psz, by rw [hl]; exact D.small, ⟨pc, rest, h1, h2, h0.trans h3⟩, D.tr.of (by omega) h, D.nd⟩
theorem TakesR.same {P P' P2 : List (List UInt8)} {ps : Nat} {F F' : FLt} {ts : List Nat} (D : Db P ps F) (h : TakesR P ps F ts P' F') (hl : P2.length = P'.length) (hfr : ∀ q, (∀ x ∈ ts, q ≠ x - 1) → P2[q]? = P'[q]?) : TakesR P ps F ts P2 F' := by
  obtain ⟨hnd, hb, hin⟩ := h.pages D
  obtain ⟨D', fr, a, m, ha, hp, hlen, hm⟩ := h
  refine ⟨D'.same hl (hfr 0 fun x hx e => by have := hb x hx; omega) fun t ht => hfr _ fun x hx e => ?_, fun i h0 hf hi => ?_, a, m, ha, hp, by omega, hm⟩
  · have h1 := hb x hx
    have h2 := D'.tr.mem t ht
    exact (List.nodup_append.mp hnd).2.2 x hx t ht (by omega)
  · rw [hfr i fun x hx e => ?_]
    · exact fr i h0 hf hi
    · have h1 := hb x hx
      rcases hin x hx with h | h
      · exact hf (by rw [e, show x - 1 + 1 = x by omega]; exact h)
      · omega
noncomputable def WriteR (P : List (List UInt8)) (ps : Nat) (F : FLt) (o : List UInt8) (P' : List (List UInt8)) (F' : FLt) (ts : List Nat) : Prop :=
  TakesR P ps F ts P' F' ∧ Chain P' ps ts o ∧ ts.Nodup
theorem part_le {ps i c : Nat} (h : ps = 64 ∨ ps = 128) : min ((((i : Int) + 1) * ((ps : Int) - 4)).toNat - ((i : Int) * ((ps : Int) - 4)).toNat) c ≤ ps - 4 := by
  rw [n_ps4z (ar_psL h rfl), n_lb1, n_lb2, n_step]
  exact Nat.min_le_left _ _
theorem part_g0 {ps m : Nat} (h : ps = 64 ∨ ps = 128) (hm : m ≤ ps - 4) : 4 + m + (((ps : Int) - 4) - (m : Int)).toNat = ps := by
  rw [n_ps4z (ar_psL h rfl), Int.toNat_sub, Nat.add_assoc, Nat.add_sub_cancel' hm, Nat.add_sub_cancel' (ar_psL h rfl)]
theorem part_g1 {ps m : Nat} (h : ps = 64 ∨ ps = 128) (hm : m ≤ ps - 4) : 4 + m + (((ps : Int) - 4) - (m : Int)).toNat ≤ 16777216 := by rw [part_g0 h hm]; exact ar_psU h rfl
theorem part_g2 {ps m : Nat} (h : ps = 64 ∨ ps = 128) (hm : m ≤ ps - 4) : ((4 + m + (((ps : Int) - 4) - (m : Int)).toNat : Nat) : Int) = (ps : Int) := congrArg Int.ofNat (part_g0 h hm)
theorem part_g3 {ps m : Nat} (h : ps = 64 ∨ ps = 128) (hm : m ≤ ps - 4) : (0 : Int) ≤ ((ps : Int) - 4) - (m : Int) := by rw [n_ps4z (ar_psL h rfl)]; exact Int.sub_nonneg_of_le (Int.ofNat_le.mpr hm)
theorem part_g4 {ps m : Nat} (h : ps = 64 ∨ ps = 128) (hm : m ≤ ps - 4) : m ≤ 16777216 := Nat.le_trans hm (Nat.le_trans (Nat.sub_le _ _) (ar_psU h rfl))
theorem part_g5 {ps m : Nat} (h : ps = 64 ∨ ps = 128) (hm : m ≤ ps - 4) : 4 + m ≤ 16777216 := Nat.le_trans (Nat.add_le_add_left hm 4) (Nat.le_trans (Nat.le_of_eq (Nat.add_sub_cancel' (ar_psL h rfl))) (ar_psU h rfl))
end
-- LINES
theorem words_23_30 : True := by
  k_with "my part" => ((simp only [b4_len, List.length_append, List.length_cons, List.length_nil, List.length_take, List.length_drop, List.length_replicate]); first | exact part_g1 (by assumption) (part_le (by assumption)) | exact part_g2 (by assumption) (part_le (by assumption)) | exact part_g3 (by assumption) (part_le (by assumption)) | exact part_g4 (by assumption) (part_le (by assumption)) | exact part_g5 (by assumption) (part_le (by assumption)) | fail "part")
  k_with "my len" => k_extra "my part"
  k_with "my size" => k_extra "my part"
  k_with "my blen" => k_extra "my part"
  trivial
-- END LINES
inductive IntAt (S : Shared) (n : Nat) (v : Value) (s' : Shared) : Prop
  | mk : ∀ t tk, v = .int (n : Nat) t → s' = { S with toks := tk } → IntAt S n v s'
theorem int_cut {M : Model} {A : Around} {x : Sem Value} {Q : Value → Shared → Prop} {E : Value → Shared → Prop} {S : Shared} (n : Nat) (a : wpAny M A x (IntAt S n) E S) (b : ∀ t tk, Q (.int (n : Nat) t) { S with toks := tk }) : wpAny M A x Q E S :=
  wpAny_mono a (fun v s' h => by obtain ⟨t, tk, rfl, rfl⟩ := h; exact b t tk) fun _ _ e => e
inductive TookJ (P : List (List UInt8)) (ps : Nat) (F : FLt) (pg c : Addr) (oc : Obj) (i : Nat) (ys : List Value) (news : List (Addr × Obj)) : Prop
  | mk : ∀ (vs' : List Value) (P' : List (List UInt8)) (F' : FLt) (n' : Nat) (ts : List Nat), news = [(c, oc), (pg, listOf vs'.toArray n')] → BytesAre vs' P' → TakesR P ps F ts P' F' → IntsAre ys (nInts ts) → ts.length = i → P'.length ≤ P.length + i → TookJ P ps F pg c oc i ys news
inductive WroteJ (P' : List (List UInt8)) (ps : Nat) (o : List UInt8) (ts : List Nat) (pg Dl : Addr) (n' : Nat) (ys : List Value) (i : Nat) (ps' : List (Str × Value)) (led : List (Addr × Obj)) : Prop
  | mk : ∀ (vs2 : List Value) (P2 : List (List UInt8)), BytesAre vs2 P2 → P2.length = P'.length → (∀ j (hj : j < ts.length), j < i → P2[ts[j] - 1]? = some (linkL ps (hd0 (ts.drop (j + 1))) ((o.drop (j * (ps - 4))).take (ps - 4)))) →
        (∀ q, (∀ x ∈ ts, q ≠ x - 1) → P2[q]? = P'[q]?) → ps' = [] → led = [(pg, listOf vs2.toArray n'), (Dl, LCg.lst ys)] → WroteJ P' ps o ts pg Dl n' ys i ps' led
section
variable {w : World} {A : Around} {base g : Heap} {outer : List Env} {s : Shared}
  {p : Program} {loose : List Str} {mean : ExcName → Option Value} {mg mb : Str → Option Value} {R : Result → Shared → Prop}
  {st pg fl pool : Addr} {vs : List Value} {n : Nat} {P : List (List UInt8)} {ps : Nat} {F : FLt} {o : List UInt8}
theorem write_chain_spec {t1 : Tok} (H : Pre p loose mean mg mb w A base outer g s [(pg, listOf vs.toArray n)]) (hd : Room A 6) (IP : IsPool g pool fl st) (IF : IsFree g fl st) (S : IsStore g st pg (ps : Int)) (hP : BytesAre vs P) (D : Db P ps F)
  (hol : o.length < 600) (hs : P.length + 20 < 900)
  (k : ∀ vs' P' F' n' ts t h' tk, BytesAre vs' P' → WriteR P ps F o P' F' ts → Post g h' [(pg, listOf vs'.toArray n')] → R (.ok (.ret (.int (hd0 ts : Nat) t))) { s with heap := h', toks := tk }) :
  codeAny (model PySem.Challenge.rw_nt0105_01.row.prog w) A (.call (.ref 192) ⟨[.ref pool, .bytes o.toArray t1], []⟩) R s := by
  revert w A base g outer s p loose mean mg mb R st pg fl pool vs n P ps F o t1; refine @(close11 ?_); generalize cx11 _ = X; k_extra "my ctx"; generalize X.2.1 = st, X.2.2.1 = pg, X.2.2.2.1 = fl, X.2.2.2.2.1 = pool, X.2.2.2.2.2.1 = vs, X.2.2.2.2.2.2.1 = n, X.2.2.2.2.2.2.2.1 = P, X.2.2.2.2.2.2.2.2.1 = ps, X.2.2.2.2.2.2.2.2.2.1 = F, X.2.2.2.2.2.2.2.2.2.2.1 = o, X.2.2.2.2.2.2.2.2.2.2.2 = t1; intro H hd IP IF S hP D hol hs k
  have S' := S
  have IF' := IF
  have IP' := IP
  have hl := hP.length
  have hps := D.psz
  have hcd : ((o.length : Int) + ((ps : Int) - 4) - 1) / ((ps : Int) - 4) = (((o.length + (ps - 4) - 1) / (ps - 4) : Nat) : Int) := by
    rw [n_ceil (ar_psL hps rfl), n_ps4z (ar_psL hps rfl), ← Int.natCast_ediv]
  k_extra "my enterCX"
  k_extra "my steps"
  generalize hcn : (o.length + (ps - 4) - 1) / (ps - 4) = cn at *
  have hcn2 : cn ≤ 12 := by
    rw [← hcn]
    refine Nat.le_of_lt_succ ((Nat.div_lt_iff_lt_mul (by omega)).mpr ?_)
    rcases hps with rfl | rfl <;> omega
  with_reducible rename Obj.data _ = Data.cell _ => hcell
  rw [if_pos rfl] at hcell
  rename Obj => oc
  refine LCg.CompSrc.range (n := cn) (by k_extra "my hh") (by assumption) (by assumption) (by assumption) (by k_extra "my small") (range_count hcd) (by rw [sizeLine_eq]; omega) ?_
  intro g'
  refine comp_ind (n := cn) (TookJ P ps F pg (L' + 1) oc) ?_ ?_ cn 0 [] _ (Nat.zero_add _) ⟨vs, P, F, n, [], rfl, hP, TakesR.nil D, .nil, rfl, Nat.le_refl _⟩
  · rintro i v ys news I oI C oC Dl m₂ h tk E' hi hv ⟨vs', P', F', n', ts, rfl, hB, hT, hI, hlen, hgr⟩ hC hx Fw Nw off ne
    have D' := hT.1
    have hl' := hB.length
    simp only [LCg.Off3, and_true] at off
    k_extra "my stepsC"
    refine LCg.CompEnd.intro (S := fun _ => True) (by k_asm) (by k_asm) [(L' + 1, oc), (pg, listOf vs'.toArray n')] (fun p hp => hp) (by simp only [LCg.Off3, and_true]; exact off) trivial ?_
    have hT2 := hT.snoc hT'
    refine ⟨_, _, _, _, ts ++ [pn'], rfl, hB', hT2, ints_snocN hI _ _, by rw [List.length_append, hlen]; rfl, ?_⟩
    rcases hT'.2.2 with ⟨_, _, _, e⟩ | ⟨e, _⟩ <;> omega
  · rintro ys news ⟨vs', P', F', n', ts, rfl, hB, hT, hI, hlen, hgr⟩ Dl h tk Fw Nw off
    simp only [LCg.Off1, and_true] at off
    have hlI := hI.length
    rw [List.length_map] at hlI
    k_extra "my steps"
    refine For_here ?_
    k_extra "my steps"
    with_reducible rename IntsAre _ (nInts ts) => hI
    have hTp := TakesR.pages D hT
    with_reducible rename News _ _ _ _ => N'
    with_reducible rename Fr _ _ _ _ => F'
    refine' for_rangeF (n := ts.length) (stored := [Str.ofString "k", Str.ofString "following", Str.ofString "part"]) (ps₀ := []) (led₀ := [(pg, listOf vs'.toArray n'), (Dl, LCg.lst ys)])
      (WroteJ P' ps o ts pg Dl n' ys)
      ?vh F' ?vN (by assumption) (by rw [List.length_map]) (by omega) ?vps ?vj ?vt ?vd
    case vh => k_extra "my hh"
    case vps => exact List.forall_mem_nil _
    case vj => exact ⟨vs', P', hB, rfl, fun j hj h => absurd h (Nat.not_lt_zero _), fun _ _ => rfl, rfl, rfl⟩
    case vN => exact N'.perm (by k_extra "my sub")
    case vt =>
      rintro i ti ps' led u h tk I oI hi ⟨vs2, P2, hB2, hP2, hw, hfr, rfl, rfl⟩ Fw Nw ne
      clear F' N'
      have hx1 : (nInts ts)[((i : Int)).toNat]? = some ((ts[i] : Nat) : Int) := by
        rw [show ((i : Int)).toNat = i by omega, List.getElem?_map, List.getElem?_eq_getElem hi]; rfl
      have hxb := hTp.2.1 _ (List.getElem_mem hi)
      have hl2 := hB2.length
      have hm0 : 0 ≤ (i : Int) * ((ps : Int) - 4) := Int.mul_nonneg (by omega) (by omega)
      have hm1 : 0 ≤ ((i : Int) + 1) * ((ps : Int) - 4) := Int.mul_nonneg (by omega) (by omega)
      have hm2 : ((i : Int) + 1) * ((ps : Int) - 4) = (i : Int) * ((ps : Int) - 4) + ((ps : Int) - 4) := by rw [Int.add_mul, Int.one_mul]
      k_extra "my apne"
      k_extra "my stepsI"
      refine int_cut (hd0 (ts.drop (i + 1))) ?va ?vb
      case va =>
        rcases Nat.lt_or_ge (i + 1) ts.length with hlt | hge
        · have hx2 : (nInts ts)[((i : Int) + 1).toNat]? = some ((ts[i + 1] : Nat) : Int) := by
            rw [ar_tn2, List.getElem?_map, List.getElem?_eq_getElem hlt]; rfl
          have hxb2 := hTp.2.1 _ (List.getElem_mem hlt)
          k_extra "my steps"
          exact ⟨_, _, by rw [hd0_drop _ _ hlt], rfl⟩
        · k_extra "my steps"
          exact ⟨_, _, by rw [List.drop_eq_nil_of_le hge]; rfl, rfl⟩
      case vb =>
        intro tf tkf
        have hfo : hd0 (ts.drop (i + 1)) < 4294967296 := by
          rcases Nat.lt_or_ge (i + 1) ts.length with hlt | hge
          · have hxb2 := hTp.2.1 _ (List.getElem_mem hlt)
            rw [hd0_drop _ _ hlt]
            omega
          · rw [List.drop_eq_nil_of_le hge]; decide
        generalize hfd : hd0 (ts.drop (i + 1)) = fo at hfo ⊢
        k_extra "my steps"
        with_reducible rename BytesAre _ (List.set _ _ _) => hB3
        rw [link_bytes (by omega), ar_tn1] at hB3
        have hws := write_step (b := linkL ps fo ((o.drop (i * (ps - 4))).take (ps - 4))) (L := fun j => linkL ps (hd0 (ts.drop (j + 1))) ((o.drop (j * (ps - 4))).take (ps - 4))) (List.nodup_append.mp hTp.1).1 hi hTp.2.1 hP2 hw hfr (by rw [hfd])
        k_extra "my turn"
        refine' ⟨rfl, _, _, hB3, by rw [List.length_set]; exact hP2, hws.1, hws.2, rfl, rfl⟩
        k_extra "my turned"
    case vd =>
      rintro ps' led u h tk ⟨vs2, P2, hB2, hP2, hw, hfr, rfl, rfl⟩ Fw Nw
      clear F' N'
      have hC := chain_build (P2 := P2) (ps := ps) (by omega) ts o (by rw [hlen, hcn]) (fun x hx => by rw [hP2]; exact hTp.2.1 x hx) (fun j hj => hw j hj hj)
      have hT2 := TakesR.same D hT hP2 hfr
      have hnd := (List.nodup_append.mp hTp.1).1
      rcases ts with _ | ⟨x, r⟩
      · cases hI
        k_extra "my steps"
        exact k _ _ _ _ [] _ _ _ hB2 ⟨hT2, hC, hnd⟩ (by k_extra "my post")
      · have hne := ints_ne hI (by simp)
        have hx1 : (nInts (x :: r))[(0 : Int).toNat]? = some (x : Int) := rfl
        k_extra "my steps"
        exact k _ _ _ _ (x :: r) _ _ _ hB2 ⟨hT2, hC, hnd⟩ (by k_extra "my post")
end

-- LINES
theorem words_24_31 : True := by
  k_with "z call ref" => ((with_reducible show wpAny _ _ (call (Value.ref 192) _) _ _ _); refine my_call ?_; k_dflt (refine' write_chain_spec ?zH ?zd ?zIP ?zIF ?zS ?zP ?zD ?zol ?zs ?_; (case zH => k_extra "my pre1"); (case zIP => exact IsPool.keeps (by assumption) (by k_extra "my stays1")); (case zIF => exact IsFree.keeps (by assumption) (by k_extra "my stays1")); (case zS => exact IsStore.keeps (by assumption) (by k_extra "my stays1")); (case zd => k_extra "my depth"); (case zP => with_reducible assumption); (case zD => assumption); (case zol => omega); (case zs => omega)); intro vs' P' F' n' ts' t' h' tk' hB' hW' P'; k_extra "my back1")
  trivial
-- END LINES
section
noncomputable def GivesR (P : List (List UInt8)) (ps : Nat) (F : FLt) (ts : List Nat) (P' : List (List UInt8)) (F' : FLt) : Prop :=
  Db P' ps F' ∧ P'.length = P.length ∧ (∀ i, i ≠ 0 → i + 1 ∉ flPages F → i + 1 ∉ ts → P'[i]? = P[i]?) ∧ (flPages F').Perm (ts ++ flPages F)
theorem GivesR.nil {P : List (List UInt8)} {ps : Nat} {F : FLt} (D : Db P ps F) : GivesR P ps F [] P F := ⟨D, rfl, fun _ _ _ _ => rfl, List.Perm.refl _⟩
theorem GivesR.snoc {P P' P'' : List (List UInt8)} {ps pn : Nat} {F F' F'' : FLt} {ts : List Nat} (h : GivesR P ps F ts P' F') (t : GiveR P' ps F' P'' F'' pn) : GivesR P ps F (ts ++ [pn]) P'' F'' := by
  obtain ⟨D, hl, fr, hp⟩ := h
  obtain ⟨D', hl', fr', hp'⟩ := t
  refine ⟨D', hl'.trans hl, fun i h0 hf hi => ?_, ?_⟩
  · rw [List.mem_append, List.mem_singleton, not_or] at hi
    refine (fr' i h0 (fun h => ?_) hi.2).trans (fr i h0 hf hi.1)
    rcases List.mem_append.mp (hp.mem_iff.mp h) with h | h
    · exact hi.1 h
    · exact hf h
  · rw [List.append_assoc]
    exact hp'.trans ((hp.cons pn).trans List.perm_middle.symm)
variable {w : World} {A : Around} {base g : Heap} {outer : List Env} {s : Shared}
  {p : Program} {loose : List Str} {mean : ExcName → Option Value} {mg mb : Str → Option Value} {R : Result → Shared → Prop}
  {st pg fl pool : Addr} {vs : List Value} {n : Nat} {P : List (List UInt8)} {ps : Nat} {F : FLt} {o : List UInt8} {pgs : List Nat}
theorem free_chain_spec {sz : Int} {t1 t2 : Tok} (H : Pre p loose mean mg mb w A base outer g s [(pg, listOf vs.toArray n)]) (hd : Room A 6) (IP : IsPool g pool fl st) (IF : IsFree g fl st) (S : IsStore g st pg (ps : Int)) (hP : BytesAre vs P) (D : Db P ps F)
  (C : Chain P ps pgs o) (hnd : (pgs ++ flPages F).Nodup) (hsz : sz = (o.length : Int)) (hol : o.length < 100000)
  (k : ∀ vs' P' F' t h' tk, BytesAre vs' P' → GivesR P ps F pgs P' F' → Post g h' [(pg, listOf vs'.toArray n)] → R (.ok (.ret (.int (pgs.length : Nat) t))) { s with heap := h', toks := tk }) :
  codeAny (model PySem.Challenge.rw_nt0105_01.row.prog w) A (.call (.ref 220) ⟨[.ref pool, .int (hd0 pgs : Nat) t1, .int sz t2], []⟩) R s := by
  revert w A base g outer s p loose mean mg mb R st pg fl pool vs n P ps F o pgs sz t1 t2; refine @(close5 ?_); generalize cx5 _ = X; k_extra "my ctx"; generalize X.2.1 = st, X.2.2.1 = pg, X.2.2.2.1 = fl, X.2.2.2.2.1 = pool, X.2.2.2.2.2 = vs; refine (?zcG8 : CloT _ ?zcH8); refine @(allE9 ?_); apply ?zcH8; intro n P ps F o pgs sz t1 t2; intro H hd IP IF S hP D C hnd hsz hol k
  have S' := S
  have IF' := IF
  have IP' := IP
  have hl := hP.length
  have hps := D.psz
  have hsm := D.small
  have hndp := (List.nodup_append.mp hnd).1
  have hcb := nodup_bound hndp C.mem
  have hnn : (nInts pgs).length = pgs.length := List.length_map ..
  k_extra "my enterX"
  k_extra "my steps"
  refine For_here ?_
  k_extra "my steps"
  with_reducible rename News _ _ _ _ => N'
  with_reducible rename Fr _ _ _ _ => F'
  refine' for_listF (stored := [Str.ofString "page"]) (ps₀ := []) (led₀ := [(f', listOf fvs'.toArray nf'), (pg, listOf vs.toArray n)])
    (fun i ps' led => ∃ (vs2 : List Value) (P2 : List (List UInt8)) (F2 : FLt), BytesAre vs2 P2 ∧ GivesR P ps F (pgs.take i) P2 F2 ∧ ps' = [] ∧ led = [(f', listOf fvs'.toArray nf'), (pg, listOf vs2.toArray n)])
    ?vh F' ?vN ?vm ?vps ?vj ?vt ?vd
  case vh => k_extra "my hh"
  case vps => exact List.forall_mem_nil _
  case vm => rintro i ps' led ⟨_, _, _, _, _, _, rfl⟩; exact .head _
  case vj => exact ⟨vs, P, F, hP, GivesR.nil D, rfl, rfl⟩
  case vN => exact N'.perm (by k_extra "my sub")
  case vt =>
    rintro i v ps' led u h tk I oI hi hv ⟨vs2, P2, F2, hB2, hG, rfl, rfl⟩ Fw Nw ne
    clear F' N'
    obtain ⟨hi', t', rfl⟩ := nInts_get hI' (by simpa using hv)
    have hx := C.mem _ (List.getElem_mem hi')
    have hP2 := hG.2.1
    have D2 := hG.1
    have htn := take_next i hi'
    have hnf : pgs[i] ∉ flPages F2 := fun hm => by
      rcases List.mem_append.mp (hG.2.2.2.mem_iff.mp hm) with h | h
      · exact not_in_take hndp i hi' (List.mem_map_of_mem h)
      · exact (List.nodup_append.mp hnd).2.2 _ (List.getElem_mem hi') _ h rfl
    generalize pgs[i] = x at *
    k_extra "my apne"
    k_extra "my steps"
    have hG2 := hG.snoc hG'
    rw [htn]
    k_extra "my turn"
    refine' ⟨rfl, _, _, _, hB', hG2, rfl, rfl⟩
    k_extra "my turned"
  case vd =>
    rintro ps' led u h tk ⟨vs2, P2, F2, hB2, hG, rfl, rfl⟩ Fw Nw
    clear F' N'
    rw [hL', List.take_length] at hG
    try dsimp only
    k_extra "my steps"
    first | rw [hL'] | rw [hnn]
    exact k _ _ _ _ _ _ hB2 hG (by k_extra "my post")
end
-- LINES
theorem words_24_32 : True := by
  k_with "z call ref" => ((with_reducible show wpAny _ _ (call (Value.ref 220) _) _ _ _); refine my_call ?_; k_dflt (refine' free_chain_spec ?zH ?zd ?zIP ?zIF ?zS ?zP ?zD ?zC ?znd ?zsz ?zol ?_; (case zH => k_extra "my pre1"); (case zIP => exact IsPool.keeps (by assumption) (by k_extra "my stays1")); (case zIF => exact IsFree.keeps (by assumption) (by k_extra "my stays1")); (case zS => exact IsStore.keeps (by assumption) (by k_extra "my stays1")); (case zd => k_extra "my depth"); (case zP => with_reducible assumption); (case zD => assumption); (case zC => assumption); (case znd => assumption); (case zsz => first | rfl | omega); (case zol => omega)); intro vs' Pg' Fg' t' h' tk' hB' hG' P'; k_extra "my back1")
  trivial
-- END LINES

section
variable {prog : Program} {w : World} {A : Around} {E : Value → Shared → Prop} {s : Shared} {value slice : PySem.Expr} {h₀ : Heap} {L l D : Addr} {m : Str → Option Value} {news news' : List (Addr × Obj)} {Q : Value → Shared → Prop} {n : Nat} {u : Tok} {x y v : Value}
theorem my_two0 (hl : s.heap.IsList l (List.toArray [x, y])) (h : Q x s)
    (hs : subscripted slice false (.ref l) (.int 0 u) = operate [.ref l, .int 0 u] (getItem (.ref l) (.int 0 u)) := by with_unfolding_all rfl) (hg : ∀ r, letTemporaryGo value (.ref l) r = pure () := by intro _; with_unfolding_all rfl) :
    wpAny (model prog w) A (subscriptTail value slice (.ref l) (.int 0 u)) Q E s := item_listL hl (by omega) (by omega) rfl h hs hg
theorem my_two1 (hl : s.heap.IsList l (List.toArray [x, y])) (h : Q y s)
    (hs : subscripted slice false (.ref l) (.int 1 u) = operate [.ref l, .int 1 u] (getItem (.ref l) (.int 1 u)) := by with_unfolding_all rfl) (hg : ∀ r, letTemporaryGo value (.ref l) r = pure () := by intro _; with_unfolding_all rfl) :
    wpAny (model prog w) A (subscriptTail value slice (.ref l) (.int 1 u)) Q E s := item_listL hl (by omega) (by omega) rfl h hs hg
theorem my_put0 {Q : Unit → Shared → Prop} (F : Fr h₀ L s.heap m) (N : News h₀ L s.heap news) (U : Upd D (listOf (List.toArray [x, y]) n) (listOf (List.toArray [v, y]) n) news news')
    (h : ∀ h', Fr h₀ L h' m → News h₀ L h' news' → Q () { s with heap := h' }) : wpAny (model prog w) A (setItem (.ref D) (.int 0 u) v) Q E s :=
  my_setL (vs := [x, y]) F N U (by omega) (by show (0 : Int) < (2 : Nat); omega) (by omega) h
theorem my_put1 {Q : Unit → Shared → Prop} (F : Fr h₀ L s.heap m) (N : News h₀ L s.heap news) (U : Upd D (listOf (List.toArray [x, y]) n) (listOf (List.toArray [x, v]) n) news news')
    (h : ∀ h', Fr h₀ L h' m → News h₀ L h' news' → Q () { s with heap := h' }) : wpAny (model prog w) A (setItem (.ref D) (.int 1 u) v) Q E s :=
  my_setL (vs := [x, y]) F N U (by omega) (by show (1 : Int) < (2 : Nat); omega) (by omega) h
end
-- LINES
theorem words_25_33 : True := by
  k_with "subscriptTail Name Constant ref int" => ((with_reducible show wpAny _ _ (subscriptTail _ _ (Value.ref _) (Value.int 0 _)) _ _ _); k_dflt (refine' my_two0 ?zl ?_; (case zl => k_extra "my isl"); k_whole))
  k_with "subscriptTail Name Constant ref int" => ((with_reducible show wpAny _ _ (subscriptTail _ _ (Value.ref _) (Value.int 1 _)) _ _ _); k_dflt (refine' my_two1 ?zl ?_; (case zl => k_extra "my isl"); k_whole))
  k_with "setItem ref int" => ((with_reducible show wpAny _ _ (setItem (Value.ref _) (Value.int 0 _) _) _ _ _); k_dflt (refine' my_put0 ?zk1 ?zk2 ?zk3 ?_; (case zk1 => k_asm); (case zk2 => k_asm); (case zk3 => k_upd); k_whole); intro h' F' N'; (try k_sweep))
  k_with "setItem ref int" => ((with_reducible show wpAny _ _ (setItem (Value.ref _) (Value.int 1 _) _) _ _ _); k_dflt (refine' my_put1 ?zk1 ?zk2 ?zk3 ?_; (case zk1 => k_asm); (case zk2 => k_asm); (case zk3 => k_upd); k_whole); intro h' F' N'; (try k_sweep))
  trivial
-- END LINES
section
variable {w : World} {A : Around} {base g : Heap} {outer : List Env} {s : Shared}
  {p : Program} {loose : List Str} {mean : ExcName → Option Value} {mg mb : Str → Option Value} {R : Result → Shared → Prop}
noncomputable def SrcOk (o : Obj) : Prop := ∃ (a b : Int) (ta tb : Tok) (n : Nat), o = listOf (List.toArray [.int a ta, .int b tb]) n ∧ 0 ≤ a ∧ 0 ≤ b ∧ b < 2147483647
theorem draw_spec {src : Addr} {so : Obj} {many : Int} {t1 : Tok} (H : Pre p loose mean mg mb w A base outer g s [(src, so)]) (hd : Room A 0) (hs : SrcOk so) (h1 : 0 < many) (h2 : many < 100000)
  (k : ∀ so' (r : Nat) t h' tk, SrcOk so' → (r : Int) < many → Post g h' [(src, so')] → R (.ok (.ret (.int (r : Int) t))) { s with heap := h', toks := tk }) :
  codeAny (model PySem.Challenge.rw_nt0105_01.row.prog w) A (.call (.ref 402) ⟨[.ref src, .int many t1], []⟩) R s := by
  revert w A base g outer s p loose mean mg mb R src so many t1; refine @(close4 ?_); generalize cx4 _ = X; k_extra "my ctx"; generalize X.2.1 = src, X.2.2.1 = so, X.2.2.2.1 = many, X.2.2.2.2 = t1; intro H hd hs h1 h2 k
  obtain ⟨a, b, ta, tb, n, rfl, ha, hb, hb2⟩ := hs
  rcases (show 0 < a ∨ a = 0 by omega) with h0 | rfl
  · k_extra "my enterX"
    k_extra "my steps"
    have e : a % many = ((a % many).toNat : Int) := by have := Int.emod_nonneg a (show many ≠ 0 by omega); omega
    have hd0 := Int.ediv_nonneg ha (show 0 ≤ many by omega)
    have hlt := Int.emod_lt_of_pos a h1
    try dsimp only
    rw [e]
    refine' k (listOf (List.toArray [.int (a / many) ?vt, .int b tb]) n) (a % many).toNat _ _ _ ⟨_, _, _, _, _, rfl, hd0, hb, hb2⟩ (by omega) ?vp
    case vp => k_extra "my post"
  · k_extra "my enter"
    k_extra "my steps"
    generalize hc : (b * 48271 + 11) % 2147483647 = c at *
    have hc0 : 0 ≤ c := by omega
    have hc1 : c < 2147483647 := by omega
    generalize hz : c * c % 2147483629 / 16 = z at *
    have e : z % many = ((z % many).toNat : Int) := by have := Int.emod_nonneg z (show many ≠ 0 by omega); omega
    have hlt := Int.emod_lt_of_pos z h1
    rw [e]
    refine' k (listOf (List.toArray [.int 0 ta, .int c ?xt]) n) (z % many).toNat _ _ _ ⟨_, _, _, _, _, rfl, Int.le_refl _, hc0, hc1⟩ (by omega) ?xp
    case xp => k_extra "my post"
end
-- LINES
theorem words_25_34 : True := by
  k_with "z call ref" => ((with_reducible show wpAny _ _ (call (Value.ref 402) _) _ _ _); refine my_call ?_; k_dflt (refine' draw_spec ?zH ?zd ?zs ?zh1 ?zh2 ?_; (case zH => k_extra "my pre1"); (case zd => k_extra "my depth"); (case zs => assumption); (case zh1 => k_extra "my len"); (case zh2 => k_extra "my len")); intro so' r' t' h' tk' hs' hr' P'; k_extra "my back1")
  trivial
-- END LINES

section
variable {w : World} {A : Around} {base g : Heap} {outer : List Env} {s : Shared}
  {p : Program} {loose : List Str} {mean : ExcName → Option Value} {mg mb : Str → Option Value} {R : Result → Shared → Prop}
-- LINES
theorem words_26_35 : True := by
  k_with "call type:bytes" => ((with_reducible show wpAny _ _ (call (Value.type _) [Value.ref _]) _ _ _); k_dflt (refine' bytes_K ?zF ?zN ?zl ?zi ?zr ?zz ?zh ?_; (case zF => k_asm); (case zN => k_asm); (case zl => k_extra "my isl"); (case zi => with_reducible assumption); (case zr => with_reducible assumption); (case zz => (rw [sizeLine_eq]; first | omega | fail "size")); (case zh => k_extra "my hh"); k_whole); intro h' t' k' F' N' hB'; (try k_sweep))
  trivial
-- END LINES
theorem ints_len {vs : List Value} {ns : List Int} (h : IntsAre vs ns) : vs.length = ns.length := h.length
theorem octets_spec {src : Addr} {so : Obj} {many : Int} {t1 : Tok} (H : Pre p loose mean mg mb w A base outer g s [(src, so)]) (hd : Room A 1) (hs : SrcOk so) (h1 : 0 ≤ many) (h2 : many < 100000)
  (k : ∀ so' (o : List UInt8) t h' tk, SrcOk so' → (o.length : Int) = many → Post g h' [(src, so')] → R (.ok (.ret (.bytes o.toArray t))) { s with heap := h', toks := tk }) :
  codeAny (model PySem.Challenge.rw_nt0105_01.row.prog w) A (.call (.ref 407) ⟨[.ref src, .int many t1], []⟩) R s := by
  revert w A base g outer s p loose mean mg mb R src so many t1; refine @(close4 ?_); generalize cx4 _ = X; k_extra "my ctx"; generalize X.2.1 = src, X.2.2.1 = so, X.2.2.2.1 = many, X.2.2.2.2 = t1; intro H hd hs h1 h2 k
  k_extra "my enterCX"
  k_extra "my steps"
  refine LCg.CompSrc.range (n := many.toNat) (by k_extra "my hh") (by assumption) (by assumption) (by assumption) (by k_extra "my small") (by k_extra "my count") (by rw [sizeLine_eq]; omega) ?_
  intro g'
  refine comp_fix (fun i ys => ∃ ns : List Int, IntsAre ys ns ∧ ns.length = i ∧ ∀ n ∈ ns, 0 ≤ n ∧ n < 256) ⟨[], .nil, rfl, fun _ h => nomatch h⟩ ?_ ?_
  · intro i v ys I oI C oC D m₂ h tk E' hi hv hj hC hx F N off ne
    obtain ⟨t, rfl⟩ := hv
    obtain ⟨ns, hI, hn, hb⟩ := hj
    rw [Int.zero_add] at hx
    k_extra "my steps"
    refine LCg.CompEnd.intro (by k_asm) (by k_asm) _ (fun p hp => hp) off trivial ⟨rfl, ns ++ [_], ints_snoc hI _ _, by rw [List.length_append, hn]; rfl, fun n hn => ?_⟩
    rcases List.mem_append.mp hn with hn | hn
    · exact hb n hn
    · rw [List.mem_singleton.mp hn]
      have a := Int.emod_nonneg
      constructor
      · exact Int.emod_nonneg _ (by omega)
      · exact Int.lt_trans (Int.emod_lt_of_pos _ (by omega)) (by omega)
  intro ys hj D h tk F N off
  obtain ⟨ns, hI, hn, hb⟩ := hj
  have hyl := ints_len hI
  k_extra "my steps"
  refine' k _ _ _ _ _ ?ws ?wl (by k_extra "my post")
  case ws => assumption
  case wl => rw [List.length_map]; omega
end
-- LINES
theorem words_26_36 : True := by
  k_with "z call ref" => ((with_reducible show wpAny _ _ (call (Value.ref 407) _) _ _ _); refine my_call ?_; k_dflt (refine' octets_spec ?zH ?zd ?zs ?zh1 ?zh2 ?_; (case zH => k_extra "my pre1"); (case zd => k_extra "my depth"); (case zs => assumption); (case zh1 => k_extra "my len"); (case zh2 => k_extra "my len")); intro so' oc' t' h' tk' hs' hol' P'; k_extra "my back1")
  trivial
-- END LINES

section
variable {prog : Program} {w : World} {A : Around} {E : Value → Shared → Prop} {s : Shared} {value slice : PySem.Expr} {h₀ : Heap} {L l : Addr} {m : Str → Option Value} {news : List (Addr × Obj)} {Q : Value → Shared → Prop} {vs : List Value} {ns : List Int} {u : Tok} {k : Int} {v : Value} {r : List Value}
theorem my_upto (F : Fr h₀ L s.heap m) (N : News h₀ L s.heap news) (hl : s.heap.IsList l vs.toArray) (hP : IntsAre vs ns) (hz : vs.length < 1000000) (hk : 0 ≤ k)
    (h : ∀ D zs h', IntsAre zs (ns.take k.toNat) → (∀ p ∈ news, p.1 < D) → Fr h₀ L h' m → News h₀ L h' ((D, listOf zs.toArray 0) :: news) → Q (.ref D) { s with heap := h' })
    (hs : subscripted slice false (.ref l) (.ref s.heap.objs.size) = operate [.ref s.heap.objs.size, .ref l] (getItem (.ref l) (.ref s.heap.objs.size)) := by with_unfolding_all rfl)
    (ht : ∀ r, letTemporaryGo value (.ref l) r = pure () := by intro _; with_unfolding_all rfl) :
    wpAny (model prog w) A (subscriptTail value slice (.ref l) (.ref s.heap.objs.size)) Q E { s with heap := s.heap.push { cls := .type "slice", data := .fields #[.none, .int k u, .none] } } := by
  refine slice_list F N hl .none (.int _ _) (fun h' F' N' => ?_) hs ht (by rw [List.size_toArray, sizeLine_eq]; omega)
  exact h _ _ h' (kmk_upto hP hk) (fun p hp => Nat.lt_succ_of_lt (Heap.lt_size (N p hp).1)) F' (by rw [Array.toArray_toList]; exact N')
theorem my_first (hl : s.heap.IsList l (List.toArray (v :: r))) (hz : r.length < 1000000) (h : Q v s)
    (hs : subscripted slice false (.ref l) (.int 0 u) = operate [.ref l, .int 0 u] (getItem (.ref l) (.int 0 u)) := by with_unfolding_all rfl) (hg : ∀ r, letTemporaryGo value (.ref l) r = pure () := by intro _; with_unfolding_all rfl) :
    wpAny (model prog w) A (subscriptTail value slice (.ref l) (.int 0 u)) Q E s := item_listL hl (by omega) (by omega) rfl h hs hg
end
-- LINES
theorem words_27_37 : True := by
  k_with "subscriptTail Name Slice ref ref" => ((with_reducible show wpAny _ _ (subscriptTail _ (Expr.Slice none (some (Expr.Constant _ _)) none _) (Value.ref _) (Value.ref _)) _ _ _); k_dflt (refine' my_upto (s := ⟨_, _, _, _, _⟩) ?zF ?zN ?zl ?zP ?zz ?zk ?_; (case zF => k_asm); (case zN => k_asm); (case zl => k_extra "my isl"); (case zP => assumption); (case zz => k_extra "my len"); (case zk => omega)); intro D' zs' h' hI' lt' F' N'; (try k_lt lt'); (try dsimp only); (try k_sweep))
  k_with "subscriptTail Name Constant ref int" => ((with_reducible show wpAny _ _ (subscriptTail _ _ (Value.ref _) (Value.int 0 _)) _ _ _); k_dflt (refine' my_first ?zl ?zz ?_; (case zl => k_extra "my isl"); (case zz => k_extra "my len"); k_whole))
  trivial
-- END LINES
inductive IntZ (S : Shared) (n : Int) (v : Value) (s' : Shared) : Prop
  | mk : ∀ t tk, v = .int n t → s' = { S with toks := tk } → IntZ S n v s'
theorem int_cutZ {M : Model} {A : Around} {x : Sem Value} {Q : Value → Shared → Prop} {E : Value → Shared → Prop} {S : Shared} (n : Int) (a : wpAny M A x (IntZ S n) E S) (b : ∀ t tk, Q (.int n t) { S with toks := tk }) : wpAny M A x Q E S :=
  wpAny_mono a (fun v s' h => by obtain ⟨t, tk, rfl, rfl⟩ := h; exact b t tk) fun _ _ e => e
inductive MixJ (i : Nat) (ps : List (Str × Value)) : Prop
  | mk : ∀ (m : Int) (t : Tok), 0 ≤ m → m < 2147483647 → ps = [(Str.ofString "mixed", .int m t)] → MixJ i ps
section
variable {w : World} {A : Around} {base g : Heap} {outer : List Env} {s : Shared}
  {p : Program} {loose : List Str} {mean : ExcName → Option Value} {mg mb : Str → Option Value} {R : Result → Shared → Prop}
theorem source_spec {l : Addr} {svs : List Value} {ns : List Int} (H : Pre p loose mean mg mb w A base outer g s []) (hd : Room A 0) (hpl : g.IsList l svs.toArray) (hi : IntsAre svs ns) (hn : svs.length < 1000)
  (k : ∀ D so h' tk, SrcOk so → Post g h' [(D, so)] → R (.ok (.ret (.ref D))) { s with heap := h', toks := tk }) :
  codeAny (model PySem.Challenge.rw_nt0105_01.row.prog w) A (.call (.ref 395) ⟨[.ref l], []⟩) R s := by
  revert w A base g outer s p loose mean mg mb R l svs ns; refine @(close3 ?_); generalize cx3 _ = X; k_extra "my ctx"; generalize X.2.1 = l, X.2.2.1 = svs, X.2.2.2 = ns; intro H hd hpl hi hn k
  have hi0 := hi
  k_extra "my enterX"
  k_extra "my stepsI"
  refine int_cutZ (ns.headD 0) ?ia ?ib
  case ia =>
    cases hi with
    | nil =>
      k_extra "my steps"
      exact ⟨_, _, rfl, rfl⟩
    | cons c t hi =>
      have hn' := hn
      rw [List.length_cons] at hn'
      k_extra "my steps"
      exact ⟨_, _, rfl, rfl⟩
  case ib =>
    intro tc tkc
    generalize ns.headD 0 = c0
    k_extra "my steps"
    refine For_here ?_
    k_extra "my steps"
    with_reducible rename News _ _ _ _ => N'
    with_reducible rename Fr _ _ _ _ => F'
    with_reducible rename IntsAre _ (List.take _ _) => hIt
    refine' for_listK (stored := [Str.ofString "one"]) (ps₀ := [(Str.ofString "mixed", .int ?wm ?wtt)]) (led₀ := [(?wD, listOf ?wws 0)]) MixJ
      ?wh F' N' ?wmm ?wps ?wj ?wturn ?wdone
    case wmm => exact List.mem_singleton.mpr rfl
    case wh => k_extra "my hh"
    case wps => k_extra "my ps"
    case wj =>
      refine ⟨_, _, ?_, ?_, rfl⟩
      all_goals
        simp only [decide_eq_true_eq]
        first | omega | (split <;> split <;> omega)
    case wturn =>
      rintro i v ps u h tk I oI hi hv ⟨m, tm, hm0, hm1, rfl⟩ Fw Nw ne
      clear F' N'
      obtain ⟨x, tx, rfl, hx⟩ := IntsAre.at hIt i v hv
      k_extra "my apne"
      k_extra "my steps"
      k_extra "my turnB"
      refine' ⟨rfl, rfl, _, _, ?wb1, ?wb2, rfl⟩
      k_extra "my turnedB"
      case wb1 => exact Int.emod_nonneg _ (by omega)
      case wb2 => exact Int.emod_lt_of_pos _ (by omega)
    case wdone =>
      rintro ps u h tk ⟨m, tm, hm0, hm1, rfl⟩ Fw Nw
      clear F' N'
      try dsimp only
      k_extra "my steps"
      refine' k _ _ _ _ ⟨_, _, _, _, _, rfl, ?wc1, hm0, hm1⟩ (by k_extra "my post")
      case wc1 => refine Int.mul_nonneg ?_ ?_ <;> split <;> omega
end
-- LINES
theorem words_27_38 : True := by
  k_with "z call ref" => ((with_reducible show wpAny _ _ (call (Value.ref 395) _) _ _ _); refine my_call ?_; k_dflt (refine' source_spec ?zH ?zd ?zg ?zi ?zn ?_; (case zH => k_extra "my pre0"); (case zg => k_extra "my isl"); (case zd => k_extra "my depth"); (case zi => with_reducible assumption); (case zn => k_extra "my len")); intro D' so' h' tk' hs' P'; k_extra "my backN")
  trivial
-- END LINES

section
variable {prog : Program} {w : World} {A : Around} {E : Value → Shared → Prop} {s : Shared} {a₀ : Array Keyed} {pn : Array (Nat × Nat × Nat)}
section
variable {β γ : Type} {c : Prop} {x y : StateT SortSt Sem γ} {Q : γ → SortSt → Prop} {st z : SortSt}
theorem wpS_if [Decidable c] (h1 : c → wpS (model prog w) A E s x Q st) (h2 : ¬ c → wpS (model prog w) A E s y Q st) : wpS (model prog w) A E s (if c then x else y) Q st := by
  split
  · exact h1 (by assumption)
  · exact h2 (by assumption)
theorem wpS_ifp [Decidable c] (hc : c) (h : wpS (model prog w) A E s x Q st) : wpS (model prog w) A E s (if c then x else y) Q st := by rw [if_pos hc]; exact h
theorem wpS_ifn [Decidable c] (hc : ¬ c) (h : wpS (model prog w) A E s y Q st) : wpS (model prog w) A E s (if c then x else y) Q st := by rw [if_neg hc]; exact h
noncomputable def StepC (I : Nat → β → Prop) (P : β → Prop) (i : Nat) : ForInStep β → Prop
  | .done c => P c
  | .yield c => I (i + 1) c
theorem wpS_rangeC {a b : Nat} {f : Nat → β → StateT SortSt Sem (ForInStep β)} {g : β → StateT SortSt Sem γ} {c : β} (I : Nat → β → Prop) (P : β → Prop)
    (hstep : ∀ i c, i < b → I i c → wpS (model prog w) A E s (f i c) (fun r z => st = z ∧ StepC I P i r) st) (hend : ∀ c, I (max a b) c → P c) (h : I a c) (k : ∀ c, P c → wpS (model prog w) A E s (g c) Q st) :
    wpS (model prog w) A E s (forIn [a:b] c f >>= g) Q st := by
  refine wpS_bind (wpS_mono (wpS_forRange (I := fun x c z => st = z ∧ I x c) (Q := fun c z => st = z ∧ P c) (fun i c z _ hi h => ?_) (fun c z h => ⟨h.1, hend c h.2⟩) ⟨rfl, h⟩) fun c z h => ?_)
  · obtain ⟨rfl, h⟩ := h
    refine wpS_mono (hstep i c hi h) fun r z h => ?_
    obtain ⟨rfl, h⟩ := h
    cases r with
    | done c => exact ⟨rfl, h⟩
    | yield c => exact ⟨rfl, h⟩
  · obtain ⟨rfl, h⟩ := h
    exact k c h
end
theorem mid_lt {l h : Nat} (hh : ¬ l ≥ h) : l + (h - l) / 2 < h := Nat.add_lt_of_lt_sub' (Nat.div_lt_self (Nat.sub_pos_of_lt (Nat.lt_of_not_le hh)) (by decide))
theorem mid_up {l h n x : Nat} (hx : h - l ≤ n - x) : h - (l + (h - l) / 2 + 1) ≤ n - (x + 1) := by rw [Nat.add_assoc, ← Nat.sub_sub]; exact Nat.le_trans (Nat.sub_le_sub_left (Nat.le_add_left 1 _) _) (Nat.sub_le_sub_right hx 1)
theorem mid_dn {l h n x : Nat} (hh : ¬ l ≥ h) (hx : h - l ≤ n - x) : l + (h - l) / 2 - l ≤ n - (x + 1) := by rw [Nat.add_sub_cancel_left]; exact Nat.le_trans (Nat.le_sub_one_of_lt (Nat.div_lt_self (Nat.sub_pos_of_lt (Nat.lt_of_not_le hh)) (by decide))) (Nat.sub_le_sub_right hx 1)
theorem half_eq {l r : Nat} (h : l ≤ r) : (l + r) / 2 = l + (r - l) / 2 := by
  rw [show l + r = (r - l) + 2 * l by omega, Nat.add_mul_div_left _ _ (by decide), Nat.add_comm]
noncomputable def SortedR (xs : Array Keyed) (i j : Nat) : Prop := ∀ p q, i ≤ p → p ≤ q → q < j → PyProof.Rows.K xs p ≤ PyProof.Rows.K xs q
noncomputable def Same (xs ys : Array Keyed) (lo : Nat) : Prop := ∀ k, k < lo → PyProof.Rows.K xs k = PyProof.Rows.K ys k
structure SB (a₀ : Array Keyed) (pn : Array (Nat × Nat × Nat)) (st : SortSt) : Prop where
  perm : (arrOf st).Perm a₀
  kind : kindOf st = oneType'
  failed : failedOf st = none
  pend : pendingOf st = pn
theorem SB.base {st : SortSt} (h : SB a₀ pn st) : SBase a₀ (setPending st #[]) := ⟨h.perm, h.kind, h.failed, rfl⟩
theorem SB.size {st : SortSt} (h : SB a₀ pn st) : (arrOf st).size = a₀.size := h.perm.size_eq
theorem SB.arr {st : SortSt} (h : SB a₀ pn st) {xs : Array Keyed} (hp : xs.Perm (arrOf st)) : SB a₀ pn (setArr st xs) := ⟨hp.trans h.perm, h.kind, h.failed, h.pend⟩
theorem SortedR.one {xs : Array Keyed} {i j : Nat} (h : j ≤ i + 1) : SortedR xs i j := fun p q h1 h2 h3 => by
  have : p = q := by omega
  subst this; exact Int.le_refl _
theorem sb_lt {st : SortSt} {i j : Nat} {Q : Option Bool → SortSt → Prop} (hB : SB a₀ pn st) (h0 : IntKeys a₀) (hi : i < a₀.size) (hj : j < a₀.size)
    (h : Q (some (decide (PyProof.Rows.K (arrOf st) i < PyProof.Rows.K (arrOf st) j))) st) : wpS (model prog w) A E s (ltAt' i j) Q st := by
  obtain ⟨t, p, e1⟩ := hB.base.at h0 hi
  obtain ⟨u, q, e2⟩ := hB.base.at h0 hj
  exact wpS_ltAt hB.kind e1 e2 h
theorem sb_cmp {γ : Type} {st : SortSt} {i j : Nat} {g : Option Bool → StateT SortSt Sem γ} {Q : γ → SortSt → Prop} (hB : SB a₀ pn st) (h0 : IntKeys a₀) (hi : i < a₀.size) (hj : j < a₀.size)
    (h1 : PyProof.Rows.K (arrOf st) i < PyProof.Rows.K (arrOf st) j → wpS (model prog w) A E s (g (some true)) Q st) (h2 : ¬ PyProof.Rows.K (arrOf st) i < PyProof.Rows.K (arrOf st) j → wpS (model prog w) A E s (g (some false)) Q st) : wpS (model prog w) A E s (ltAt' i j >>= g) Q st := by
  refine wpS_bind (sb_lt hB h0 hi hj ?_)
  by_cases h : PyProof.Rows.K (arrOf st) i < PyProof.Rows.K (arrOf st) j
  · rw [decide_eq_true h]; exact h1 h
  · rw [decide_eq_false h]; exact h2 h
theorem bubble_in {xs : Array Keyed} {lo k l : Nat} (hk : lo + k < xs.size) (hl : l ≤ k) (hs : SortedR xs lo (lo + k)) (h1 : ∀ i, i < l → PyProof.Rows.K xs (lo + i) ≤ PyProof.Rows.K xs (lo + k)) (h2 : ∀ i, l ≤ i → i < k → PyProof.Rows.K xs (lo + k) < PyProof.Rows.K xs (lo + i)) :
    SortedR (bubble xs (lo + k) (k - l)) lo (lo + (k + 1)) ∧ Same (bubble xs (lo + k) (k - l)) xs lo := by
  have e0 : lo + k - (k - l) = lo + l := by rw [Nat.add_sub_assoc (Nat.sub_le _ _), Nat.sub_sub_self hl]
  have kb := K_bubble hk (Nat.le_trans (Nat.sub_le k l) (Nat.le_add_left k lo))
  rw [e0] at kb
  refine ⟨fun p q hp hpq hq => ?_, fun j hj => ?_⟩
  · obtain ⟨a, rfl⟩ := Nat.exists_eq_add_of_le hp
    obtain ⟨b, rfl⟩ := Nat.exists_eq_add_of_le (Nat.le_trans hp hpq)
    have hab := Nat.le_of_add_le_add_left hpq
    have hbk : b ≤ k := Nat.le_of_lt_succ (Nat.lt_of_add_lt_add_left hq)
    have lowK : ∀ i, i < l → PyProof.Rows.K (bubble xs (lo + k) (k - l)) (lo + i) = PyProof.Rows.K xs (lo + i) := fun i hi => by
      rw [kb, if_neg (by omega), if_neg (by omega)]
    have atK : PyProof.Rows.K (bubble xs (lo + k) (k - l)) (lo + l) = PyProof.Rows.K xs (lo + k) := by rw [kb, if_pos rfl]
    have upK : ∀ i, l ≤ i → i < k → PyProof.Rows.K (bubble xs (lo + k) (k - l)) (lo + (i + 1)) = PyProof.Rows.K xs (lo + i) := fun i h3 h4 => by
      rw [kb, if_neg (by omega), if_pos ⟨by omega, by omega⟩]; rfl
    have srt : ∀ i j, i ≤ j → j < k → PyProof.Rows.K xs (lo + i) ≤ PyProof.Rows.K xs (lo + j) := fun i j h3 h4 => hs _ _ (Nat.le_add_right _ _) (Nat.add_le_add_left h3 lo) (Nat.add_lt_add_left h4 lo)
    clear kb hs hk hp hpq hq e0
    rcases Nat.lt_trichotomy b l with g | g | g
    · rw [lowK b g, lowK a (Nat.lt_of_le_of_lt hab g)]
      exact srt a b hab (Nat.lt_of_lt_of_le g hl)
    · subst g
      rw [atK]
      rcases Nat.lt_or_eq_of_le hab with g | g
      · rw [lowK a g]; exact h1 a g
      · rw [g, atK]; exact Int.le_refl _
    · obtain ⟨c, rfl⟩ : ∃ c, b = c + 1 := ⟨b - 1, by omega⟩
      rw [upK c (Nat.le_of_lt_succ g) hbk]
      rcases Nat.lt_trichotomy a l with g2 | g2 | g2
      · rw [lowK a g2]; exact srt a c (Nat.le_trans (Nat.le_of_lt g2) (Nat.le_of_lt_succ g)) hbk
      · rw [g2, atK]; exact Int.le_of_lt (h2 c (Nat.le_of_lt_succ g) hbk)
      · obtain ⟨d, rfl⟩ : ∃ d, a = d + 1 := ⟨a - 1, by omega⟩
        rw [upK d (Nat.le_of_lt_succ g2) (Nat.lt_of_le_of_lt (Nat.le_of_succ_le_succ hab) hbk)]
        exact srt d c (Nat.le_of_succ_le_succ hab) hbk
  · rw [kb, if_neg (by omega), if_neg (by omega)]
structure Fit (xs : Array Keyed) (lo k l r : Nat) : Prop where
  le : l ≤ r
  rk : r ≤ k
  h1 : ∀ i, i < l → PyProof.Rows.K xs (lo + i) ≤ PyProof.Rows.K xs (lo + k)
  h2 : ∀ i, r ≤ i → i < k → PyProof.Rows.K xs (lo + k) < PyProof.Rows.K xs (lo + i)
theorem Fit.dn {xs : Array Keyed} {lo k l r m : Nat} (f : Fit xs lo k l r) (hs : SortedR xs lo (lo + k)) (h1 : l ≤ m) (h2 : m < r) (hc : PyProof.Rows.K xs (lo + k) < PyProof.Rows.K xs (lo + m)) : Fit xs lo k l m :=
  ⟨h1, Nat.le_trans (Nat.le_of_lt h2) f.rk, f.h1, fun i b1 b2 => Int.lt_of_lt_of_le hc (hs _ _ (Nat.le_add_right _ _) (Nat.add_le_add_left b1 lo) (Nat.add_lt_add_left b2 lo))⟩
theorem Fit.up {xs : Array Keyed} {lo k l r m : Nat} (f : Fit xs lo k l r) (hs : SortedR xs lo (lo + k)) (h2 : m < r) (hc : ¬ PyProof.Rows.K xs (lo + k) < PyProof.Rows.K xs (lo + m)) : Fit xs lo k (m + 1) r :=
  ⟨h2, f.rk, fun i b1 => Int.le_trans (hs _ (lo + m) (Nat.le_add_right _ _) (Nat.add_le_add_left (Nat.le_of_lt_succ b1) lo) (Nat.add_lt_add_left (Nat.lt_of_lt_of_le h2 f.rk) lo)) (Int.not_lt.mp hc), f.h2⟩
structure KS (a₀ : Array Keyed) (pn : Array (Nat × Nat × Nat)) (st st' : SortSt) (lo k : Nat) : Prop where
  b : SB a₀ pn st'
  s : SortedR (arrOf st') lo (lo + k)
  z : Same (arrOf st') (arrOf st) lo
theorem sb_binary {st : SortSt} {lo n ok : Nat} {Q : Bool → SortSt → Prop} (h0 : IntKeys a₀) (hn : lo + n ≤ a₀.size) (hok : ok ≤ n) (hB : SB a₀ pn st) (hs : SortedR (arrOf st) lo (lo + ok))
    (h : ∀ st', SB a₀ pn st' → SortedR (arrOf st') lo (lo + n) → Same (arrOf st') (arrOf st) lo → Q true st') : wpS (model prog w) A E s (binarySort' lo n ok) Q st := by
  refine wpS_bind (wpS_mono (wpS_forRange (I := fun k c st' => c.1 = none ∧ KS a₀ pn st st' lo (min k n)) (Q := fun c st' => c.1 = none ∧ KS a₀ pn st st' lo n) ?step ?fin ⟨rfl, hB, ?init, fun _ _ => rfl⟩) ?post)
  case init =>
    rcases Nat.eq_zero_or_pos ok with e | e
    · subst e
      exact SortedR.one (Nat.add_le_add_left (Nat.min_le_left _ _) lo)
    · rw [Nat.max_eq_left e, Nat.min_eq_left hok]; exact hs
  case fin =>
    intro c st' hc
    rw [Nat.min_eq_right (Nat.le_max_right _ _)] at hc
    exact hc
  case post =>
    intro c st' hc
    obtain ⟨r, u⟩ := c
    have hr : r = none := hc.1
    subst hr
    exact wpS_pure (h st' hc.2.b hc.2.s hc.2.z)
  case step =>
    intro k c st' _ hkn hc
    have hK := hc.2
    rw [Nat.min_eq_left (Nat.le_of_lt hkn)] at hK
    clear hc
    extract_lets +onlyGivenNames -merge -underBinder l r
    have hik : ∀ i, i ≤ k → lo + i < a₀.size := fun i hi => Nat.lt_of_lt_of_le (Nat.add_lt_add_left (Nat.lt_of_le_of_lt hi hkn) lo) hn
    refine wpS_rangeC (I := fun x c => c.1 = none ∧ Fit (arrOf st') lo k c.2.1 c.2.2 ∧ c.2.2 - c.2.1 ≤ k - x) (P := fun c => c.1 = none ∧ Fit (arrOf st') lo k c.2.1 c.2.1) ?_ ?_ ⟨rfl, ⟨Nat.zero_le _, Nat.le_refl _, fun i hi => (nomatch hi), fun i h1 h2 => absurd h2 (Nat.not_lt_of_le h1)⟩, Nat.le_refl _⟩ ?_
    · intro x c _ hc
      extract_lets +onlyGivenNames -merge -underBinder s1 l r
      have f : Fit (arrOf st') lo k l r := hc.2.1
      have hm : r - l ≤ k - x := hc.2.2
      refine wpS_if (fun c1 => wpS_pure ⟨rfl, rfl, Nat.le_refl _, Nat.le_trans f.le f.rk, f.h1, fun i b1 => f.h2 i (Nat.le_trans c1 b1)⟩) (fun c1 => ?_)
      extract_lets +onlyGivenNames -merge -underBinder m
      have hm0 : m = l + (r - l) / 2 := half_eq f.le
      have h3 := mid_lt c1
      have h4 := mid_dn c1 hm
      have h5 := mid_up hm
      rw [← hm0] at h3 h4 h5
      have h6 : l ≤ m := hm0 ▸ Nat.le_add_right _ _
      clear_value m
      exact sb_cmp hK.b h0 (hik k (Nat.le_refl _)) (hik m (Nat.le_trans (Nat.le_of_lt h3) f.rk)) (fun hc => wpS_ifp rfl (wpS_pure ⟨rfl, rfl, f.dn hK.s h6 h3 hc, h4⟩)) (fun hc => wpS_ifn (fun e => by cases e) (wpS_pure ⟨rfl, rfl, f.up hK.s h3 hc, h5⟩))
    · intro c hc
      have h1 := hc.2.1.le
      have h2 := Nat.le_trans hc.2.2 (Nat.le_of_eq (Nat.sub_eq_zero_of_le (Nat.le_max_right 0 k)))
      have e : c.2.2 = c.2.1 := Nat.le_antisymm (Nat.le_of_sub_eq_zero (Nat.eq_zero_of_le_zero h2)) h1
      exact ⟨hc.1, e ▸ hc.2.1⟩
    · intro c hc
      extract_lets +onlyGivenNames -merge -underBinder r s1 l
      have hr : r = none := hc.1
      clear_value r
      subst hr
      have f : Fit (arrOf st') lo k l l := hc.2
      clear hc
      have hb := bubble_in (xs := arrOf st') (lo := lo) (k := k) (by rw [hK.b.size]; exact hik k (Nat.le_refl _)) f.rk hK.s f.h1 f.h2
      refine wpS_bind (wpS_modify (wpS_pure ⟨rfl, hK.b.arr (bubble_perm _ _ _), ?_, ?_⟩))
      · rw [Nat.min_eq_left hkn]
        show SortedR (bubble (arrOf st') (lo + k) (lo + k - (lo + l))) _ _
        rw [Nat.add_sub_add_left]
        exact hb.1
      · show Same (bubble (arrOf st') (lo + k) (lo + k - (lo + l))) _ _
        rw [Nat.add_sub_add_left]
        exact fun j hj => (hb.2 j hj).trans (hK.z j hj)
end
section
noncomputable def upL (lo a nrem : Nat) : StateT SortSt Sem AscSt :=
  forIn [a:nrem] ((none, a) : AscSt) fun _ z => do
    let x ← ltAt' (lo + z.snd) (lo + z.snd - 1)
    match x with
    | some b => if b = true then pure (ForInStep.done (none, z.snd)) else pure (ForInStep.yield (none, z.snd + 1))
    | _ => pure (ForInStep.done (some none, z.snd))
noncomputable def endL (lo n nrem : Nat) : StateT SortSt Sem (Option Nat) := do
  reverseSlice' lo (lo + n)
  let z ← upL lo n nrem
  match z.fst with
  | some r => pure r
  | none => pure (some z.snd)
noncomputable def downL (lo n nrem : Nat) : StateT SortSt Sem DescSt :=
  forIn [n:nrem] ((none, n, 0) : DescSt) fun _ z => do
    let x ← ltAt' (lo + z.snd.fst) (lo + z.snd.fst - 1)
    match x with
    | some b =>
      if b = true then
        if z.snd.snd > 0 then do
          reverseSlice' (lo + z.snd.fst - (z.snd.snd + 1)) (lo + z.snd.fst)
          pure (ForInStep.yield (none, z.snd.fst + 1, 0))
        else pure (ForInStep.yield (none, z.snd.fst + 1, 0))
      else do
        let x ← ltAt' (lo + z.snd.fst - 1) (lo + z.snd.fst)
        match x with
        | some c => if c = true then pure (ForInStep.done (none, z.snd.fst, z.snd.snd)) else pure (ForInStep.yield (none, z.snd.fst + 1, z.snd.snd + 1))
        | _ => pure (ForInStep.done (some none, z.snd.fst, z.snd.snd))
    | _ => pure (ForInStep.done (some none, z.snd.fst, z.snd.snd))
noncomputable def fallL (lo n nrem : Nat) : StateT SortSt Sem (Option Nat) := do
  liftM (rule "list.sort.descending-run")
  let z ← downL lo (n + 1) nrem
  match z.fst with
  | some r => pure r
  | none =>
    if z.snd.snd > 0 then do
      reverseSlice' (lo + z.snd.fst - (z.snd.snd + 1)) (lo + z.snd.fst)
      endL lo z.snd.fst nrem
    else endL lo z.snd.fst nrem
theorem count_eq (lo nrem : Nat) : countRun' lo nrem = (do
    let z ← upL lo 1 nrem
    match z.fst with
    | some r => pure r
    | none =>
      if (z.snd == nrem) = true then pure (some z.snd)
      else if z.snd > 1 then do
        let x ← ltAt' lo (lo + z.snd - 1)
        match x with
        | some b => if b = true then pure (some z.snd) else do
            reverseSlice' lo (lo + z.snd)
            fallL lo z.snd nrem
        | _ => pure none
      else fallL lo z.snd nrem) := by
  have e1 : ∀ (n : Nat) (k : AscSt → StateT SortSt Sem (Option Nat)), (∀ r m, k (r, m) = match r with | some r => pure r | none => pure (some m)) → (reverseSlice' lo (lo + n) >>= fun _ => upL lo n nrem >>= k) = endL lo n nrem := fun n k hk =>
    congrArg (bind (reverseSlice' lo (lo + n))) (funext fun _ => congrArg (bind (upL lo n nrem)) (funext fun ⟨r, m⟩ => hk r m))
  have e2 : ∀ (n : Nat) (k : DescSt → StateT SortSt Sem (Option Nat)), (∀ r m q, k (r, m, q) = match r with | some r => pure r | none => if q > 0 then (reverseSlice' (lo + m - (q + 1)) (lo + m) >>= fun _ => endL lo m nrem) else endL lo m nrem) →
      (liftM (rule "list.sort.descending-run") >>= fun _ => downL lo (n + 1) nrem >>= k) = fallL lo n nrem := fun n k hk =>
    congrArg (bind (liftM (rule "list.sort.descending-run"))) (funext fun _ => congrArg (bind (downL lo (n + 1) nrem)) (funext fun ⟨r, m, q⟩ => hk r m q))
  rw [countRun'_eq]
  refine congrArg (bind (upL lo 1 nrem)) (funext fun z => ?_)
  obtain ⟨r, n⟩ := z
  cases r with
  | some r => rfl
  | none =>
    try dsimp only
    split
    · rfl
    split
    · refine congrArg (bind (ltAt' lo (lo + n - 1))) (funext fun x => ?_)
      cases x with
      | none => rfl
      | some b =>
        try dsimp only
        split
        · rfl
        refine congrArg (bind (reverseSlice' lo (lo + n))) (funext fun _ => ?_)
        refine e2 n _ fun r m q => ?_
        cases r with
        | some r => rfl
        | none =>
          try dsimp only
          split
          · exact congrArg (bind (reverseSlice' (lo + m - (q + 1)) (lo + m))) (funext fun _ => e1 m _ fun r m => by cases r <;> rfl)
          · exact e1 m _ fun r m => by cases r <;> rfl
    · refine e2 n _ fun r m q => ?_
      cases r with
      | some r => rfl
      | none =>
        try dsimp only
        split
        · exact congrArg (bind (reverseSlice' (lo + m - (q + 1)) (lo + m))) (funext fun _ => e1 m _ fun r m => by cases r <;> rfl)
        · exact e1 m _ fun r m => by cases r <;> rfl
variable {prog : Program} {w : World} {A : Around} {E : Value → Shared → Prop} {s : Shared} {a₀ : Array Keyed} {pn : Array (Nat × Nat × Nat)}
theorem mirror_same {xs : Array Keyed} {i j lo : Nat} (hj : j ≤ xs.size) (hi : lo ≤ i) : Same (mirror xs i j ((j - i) / 2)) xs lo := fun k hk => by rw [K_mirror hj, if_neg (by omega)]
theorem SortedR.snoc {xs : Array Keyed} {lo n : Nat} (h1 : 1 ≤ n) (h : SortedR xs lo (lo + n)) (hl : ¬ PyProof.Rows.K xs (lo + n) < PyProof.Rows.K xs (lo + n - 1)) : SortedR xs lo (lo + (n + 1)) := fun p q hp hpq hq => by
  rcases Nat.lt_or_ge q (lo + n) with g | g
  · exact h p q hp hpq g
  · obtain rfl : q = lo + n := by omega
    rcases Nat.lt_or_ge p (lo + n) with g' | g'
    · exact Int.le_trans (h p (lo + n - 1) hp (by omega) (by omega)) (Int.not_lt.mp hl)
    · obtain rfl : p = lo + n := by omega
      exact Int.le_refl _
theorem up_ok {st : SortSt} {lo a nrem : Nat} {Q : AscSt → SortSt → Prop} (h0 : IntKeys a₀) (hn : lo + nrem ≤ a₀.size) (ha : 1 ≤ a) (han : a ≤ nrem) (hB : SB a₀ pn st) (hs : SortedR (arrOf st) lo (lo + a))
    (h : ∀ n, a ≤ n → n ≤ nrem → SortedR (arrOf st) lo (lo + n) → (n = nrem ∨ PyProof.Rows.K (arrOf st) (lo + n) < PyProof.Rows.K (arrOf st) (lo + n - 1)) → Q (none, n) st) :
    wpS (model prog w) A E s (upL lo a nrem) Q st := by
  unfold upL
  refine wpS_forRange (I := fun x c st' => st' = st ∧ c = (none, x) ∧ SortedR (arrOf st) lo (lo + x)) ?_ ?_ ⟨rfl, rfl, hs⟩
  · rintro x c st' hax hxn ⟨rfl, rfl, hs'⟩
    have hx : lo + x < a₀.size := Nat.lt_of_lt_of_le (Nat.add_lt_add_left hxn lo) hn
    exact sb_cmp hB h0 hx (Nat.lt_of_le_of_lt (Nat.sub_le _ _) hx) (fun hc => wpS_ifp rfl (wpS_pure (h x hax (Nat.le_of_lt hxn) hs' (.inr hc)))) (fun hc => wpS_ifn (fun e => by cases e) (wpS_pure ⟨rfl, rfl, hs'.snoc (Nat.le_trans ha hax) hc⟩))
  · rintro c st' ⟨rfl, rfl, hs'⟩
    rw [Nat.max_eq_right han] at hs' ⊢
    exact h nrem han (Nat.le_refl _) hs' (.inl rfl)
noncomputable def FallR (xs : Array Keyed) (lo n : Nat) : Prop := ∀ i j, i ≤ j → j < n → PyProof.Rows.K xs (lo + j) ≤ PyProof.Rows.K xs (lo + i)
theorem FallR.snoc {xs : Array Keyed} {lo n : Nat} (h1 : 1 ≤ n) (h : FallR xs lo n) (hl : PyProof.Rows.K xs (lo + n) ≤ PyProof.Rows.K xs (lo + n - 1)) : FallR xs lo (n + 1) := fun i j hij hj => by
  rcases Nat.lt_or_ge j n with g | g
  · exact h i j hij g
  · obtain rfl : j = n := by omega
    rcases Nat.lt_or_ge i j with g' | g'
    · have := h i (j - 1) (by omega) (by omega)
      rw [show lo + (j - 1) = lo + j - 1 by omega] at this
      exact Int.le_trans hl this
    · obtain rfl : i = j := by omega
      exact Int.le_refl _
theorem turn_at {lo n p : Nat} (h1 : lo ≤ p) (h2 : p < lo + n) : lo + (lo + n) - 1 - p = lo + (lo + n - 1 - p) := by
  rw [Nat.add_sub_assoc (Nat.succ_le_of_lt (Nat.lt_of_le_of_lt (Nat.zero_le p) h2)), Nat.add_sub_assoc (Nat.le_sub_one_of_lt h2)]
theorem turn_lt {lo n p : Nat} (h1 : lo ≤ p) (h2 : p < lo + n) : lo + n - 1 - p < n := by omega
theorem FallR.turn {xs : Array Keyed} {lo n : Nat} (h : FallR xs lo n) (hz : lo + n ≤ xs.size) : SortedR (mirror xs lo (lo + n) ((lo + n - lo) / 2)) lo (lo + n) := fun p q hp hpq hq => by
  rw [K_mirror hz, K_mirror hz, if_pos ⟨hp, Nat.lt_of_le_of_lt hpq hq⟩, if_pos ⟨Nat.le_trans hp hpq, hq⟩, turn_at hp (Nat.lt_of_le_of_lt hpq hq), turn_at (Nat.le_trans hp hpq) hq]
  exact h _ _ (Nat.sub_le_sub_left hpq _) (turn_lt hp (Nat.lt_of_le_of_lt hpq hq))
theorem end_ok {st : SortSt} {lo n nrem : Nat} {Q : Option Nat → SortSt → Prop} (h0 : IntKeys a₀) (hn : lo + nrem ≤ a₀.size) (h1 : 1 ≤ n) (hnn : n ≤ nrem) (hB : SB a₀ pn st) (hs : FallR (arrOf st) lo n)
    (h : ∀ m st', SB a₀ pn st' → 1 ≤ m → m ≤ nrem → SortedR (arrOf st') lo (lo + m) → Same (arrOf st') (arrOf st) lo → Q (some m) st') : wpS (model prog w) A E s (endL lo n nrem) Q st := by
  unfold endL
  have hsz : lo + n ≤ (arrOf st).size := by rw [hB.size]; omega
  refine wpS_bind (wpS_reverse ?_)
  have hB' := hB.arr (mirror_perm (arrOf st) lo (lo + n) ((lo + n - lo) / 2))
  exact wpS_bind (up_ok h0 hn h1 hnn hB' (hs.turn hsz) fun m a1 a2 a3 _ => wpS_pure (h m _ hB' (by omega) a2 a3 (mirror_same hsz (Nat.le_refl _))))
theorem level_same {xs : Array Keyed} {i j : Nat} (hj : j ≤ xs.size) (he : ∀ k, i ≤ k → k < j → PyProof.Rows.K xs k = PyProof.Rows.K xs (j - 1)) (k : Nat) : PyProof.Rows.K (mirror xs i j ((j - i) / 2)) k = PyProof.Rows.K xs k := by
  rw [K_mirror hj]
  split
  · rw [he _ (by omega) (by omega), he k (by omega) (by omega)]
  · rfl
theorem FallR.of {xs ys : Array Keyed} {lo n : Nat} (h : FallR xs lo n) (e : ∀ k, PyProof.Rows.K ys k = PyProof.Rows.K xs k) : FallR ys lo n := fun i j a b => by rw [e, e]; exact h i j a b
noncomputable def Level (xs : Array Keyed) (lo m q : Nat) : Prop := q + 1 ≤ m ∧ ∀ i, lo + m - (q + 1) ≤ i → i < lo + m → PyProof.Rows.K xs i = PyProof.Rows.K xs (lo + m - 1)
theorem Level.one {xs : Array Keyed} {lo m : Nat} (h : 1 ≤ m) : Level xs lo m 0 := ⟨h, fun i a b => by rw [show i = lo + m - 1 by omega]⟩
theorem down_ok {st : SortSt} {lo n nrem : Nat} {Q : DescSt → SortSt → Prop} (h0 : IntKeys a₀) (hn : lo + nrem ≤ a₀.size) (h1 : 1 ≤ n) (hnn : n ≤ nrem) (hB : SB a₀ pn st) (hs : FallR (arrOf st) lo n)
    (h : ∀ m q st', SB a₀ pn st' → n ≤ m → m ≤ nrem → FallR (arrOf st') lo m → Level (arrOf st') lo m q → Same (arrOf st') (arrOf st) lo → Q (none, m, q) st') : wpS (model prog w) A E s (downL lo n nrem) Q st := by
  unfold downL
  refine wpS_forRange (I := fun x c st' => ∃ q, c = (none, x, q) ∧ SB a₀ pn st' ∧ FallR (arrOf st') lo x ∧ Level (arrOf st') lo x q ∧ Same (arrOf st') (arrOf st) lo) ?_ ?_ ⟨0, rfl, hB, hs, Level.one h1, fun _ _ => rfl⟩
  · rintro x c st' hax hxn ⟨q, rfl, hB', hs', hq, hz⟩
    have hx : lo + x < a₀.size := Nat.lt_of_lt_of_le (Nat.add_lt_add_left hxn lo) hn
    have hx1 := Nat.lt_of_le_of_lt (Nat.sub_le _ 1) hx
    have h1x := Nat.le_trans h1 hax
    refine sb_cmp hB' h0 hx hx1 (fun hc => wpS_ifp rfl ?_) (fun hc => wpS_ifn (fun e => by cases e) ?_)
    · have hf := hs'.snoc h1x (Int.le_of_lt hc)
      have e := level_same (by rw [hB'.size]; exact Nat.le_of_lt hx) hq.2
      exact wpS_if (fun hq0 => wpS_bind (wpS_reverse (wpS_pure ⟨0, rfl, hB'.arr (mirror_perm _ _ _ _), hf.of e, Level.one (Nat.succ_le_succ (Nat.zero_le x)), fun k hk => (e k).trans (hz k hk)⟩)))
        (fun hq0 => wpS_pure ⟨0, rfl, hB', hf, Level.one (Nat.succ_le_succ (Nat.zero_le x)), hz⟩)
    · refine sb_cmp hB' h0 hx1 hx (fun hd => wpS_ifp rfl (wpS_pure (h x q st' hB' hax (Nat.le_of_lt hxn) hs' hq hz))) (fun hd => wpS_ifn (fun e => by cases e) ?_)
      have he : PyProof.Rows.K (arrOf st') (lo + x) = PyProof.Rows.K (arrOf st') (lo + x - 1) := Int.le_antisymm (Int.not_lt.mp hd) (Int.not_lt.mp hc)
      refine wpS_pure ⟨q + 1, rfl, hB', hs'.snoc h1x (Int.le_of_eq he), ⟨Nat.succ_le_succ hq.1, fun i a b => ?_⟩, hz⟩
      show _ = PyProof.Rows.K _ (lo + x)
      rcases Nat.lt_or_eq_of_le (Nat.le_of_lt_succ b) with g | g
      · rw [he]; exact hq.2 i (Nat.succ_sub_succ (lo + x) (q + 1) ▸ a) g
      · exact congrArg (PyProof.Rows.K (arrOf st')) g
  · rintro c st' ⟨q, rfl, hB', hs', hq, hz⟩
    rw [Nat.max_eq_right hnn] at hs' hq ⊢
    exact h nrem q st' hB' hnn (Nat.le_refl _) hs' hq hz
theorem fall_ok {st : SortSt} {lo n nrem : Nat} {Q : Option Nat → SortSt → Prop} (h0 : IntKeys a₀) (hn : lo + nrem ≤ a₀.size) (hnn : n + 1 ≤ nrem) (hB : SB a₀ pn st) (hs : FallR (arrOf st) lo (n + 1))
    (h : ∀ m st', SB a₀ pn st' → 1 ≤ m → m ≤ nrem → SortedR (arrOf st') lo (lo + m) → Same (arrOf st') (arrOf st) lo → Q (some m) st') : wpS (model prog w) A E s (fallL lo n nrem) Q st := by
  unfold fallL
  refine wpS_bind (wpS_lift (wpAny_rule ⟨rfl, ?_⟩))
  refine wpS_bind (down_ok h0 hn (by omega) hnn hB hs fun m q st' hB' a1 a2 a3 a4 a5 => ?_)
  have e := level_same (by rw [hB'.size]; exact Nat.le_trans (Nat.add_le_add_left a2 lo) hn) a4.2
  have h1m := Nat.le_trans (Nat.succ_le_succ (Nat.zero_le n)) a1
  exact wpS_if (fun hq => wpS_bind (wpS_reverse (end_ok h0 hn h1m a2 (hB'.arr (mirror_perm _ _ _ _)) (a3.of e) fun m st2 b1 b2 b3 b4 b5 => h m st2 b1 b2 b3 b4 fun k hk => (b5 k hk).trans ((e k).trans (a5 k hk)))))
    (fun hq => end_ok h0 hn h1m a2 hB' a3 fun m st2 b1 b2 b3 b4 b5 => h m st2 b1 b2 b3 b4 fun k hk => (b5 k hk).trans (a5 k hk))
theorem count_ok {st : SortSt} {lo nrem : Nat} {Q : Option Nat → SortSt → Prop} (h0 : IntKeys a₀) (hn : lo + nrem ≤ a₀.size) (h1 : 1 ≤ nrem) (hB : SB a₀ pn st)
    (h : ∀ m st', SB a₀ pn st' → 1 ≤ m → m ≤ nrem → SortedR (arrOf st') lo (lo + m) → Same (arrOf st') (arrOf st) lo → Q (some m) st') : wpS (model prog w) A E s (countRun' lo nrem) Q st := by
  rw [count_eq]
  refine wpS_bind (up_ok h0 hn (Nat.le_refl 1) h1 hB (SortedR.one (by omega)) fun n n1 n2 n3 n4 => ?_)
  refine wpS_if (fun hnn => wpS_pure (h n st hB n1 n2 n3 fun _ _ => rfl)) (fun hnn => ?_)
  have hnn : n ≠ nrem := fun e => hnn (beq_iff_eq.mpr e)
  have hlt := n4.resolve_left hnn
  have hn2 : n + 1 ≤ nrem := Nat.lt_of_le_of_ne n2 hnn
  have hz : lo + n ≤ a₀.size := Nat.le_trans (Nat.add_le_add_left n2 lo) hn
  have hp : lo < lo + n := Nat.lt_add_of_pos_right n1
  refine wpS_if (fun hg => sb_cmp hB h0 (Nat.lt_of_lt_of_le hp hz) (Nat.lt_of_lt_of_le (Nat.sub_lt (Nat.lt_of_le_of_lt (Nat.zero_le _) hp) Nat.one_pos) hz) (fun hr => wpS_ifp rfl (wpS_pure (h n st hB n1 n2 n3 fun _ _ => rfl))) (fun hr => wpS_ifn (fun e => by cases e) ?_)) (fun hg => ?_)
  · have hall : ∀ k, lo ≤ k → k < lo + n → PyProof.Rows.K (arrOf st) k = PyProof.Rows.K (arrOf st) (lo + n - 1) := fun k a b =>
      Int.le_antisymm (n3 k (lo + n - 1) a (Nat.le_sub_one_of_lt b) (Nat.sub_lt (Nat.lt_of_le_of_lt (Nat.zero_le _) hp) Nat.one_pos)) (Int.le_trans (Int.not_lt.mp hr) (n3 lo k (Nat.le_refl _) a b))
    have e := level_same (by rw [hB.size]; exact hz) hall
    refine wpS_bind (wpS_reverse (fall_ok h0 hn hn2 (hB.arr (mirror_perm _ _ _ _)) ?_ fun m st2 b1 b2 b3 b4 b5 => h m st2 b1 b2 b3 b4 fun k hk => (b5 k hk).trans (e k)))
    refine FallR.of (FallR.snoc n1 (fun i j a b => ?_) (Int.le_of_lt hlt)) e
    rw [hall (lo + j) (Nat.le_add_right _ _) (Nat.add_lt_add_left b lo), hall (lo + i) (Nat.le_add_right _ _) (Nat.add_lt_add_left (Nat.lt_of_le_of_lt a b) lo)]
    exact Int.le_refl _
  · obtain rfl : n = 1 := Nat.le_antisymm (Nat.le_of_not_lt hg) n1
    refine fall_ok h0 hn hn2 hB (FallR.snoc (Nat.le_refl 1) (fun i j a b => ?_) (Int.le_of_lt hlt)) h
    rw [Nat.eq_zero_of_le_zero (Nat.le_of_lt_succ b), Nat.eq_zero_of_le_zero (Nat.le_trans a (Nat.le_of_lt_succ b))]
    exact Int.le_refl _
end

section
variable {prog : Program} {w : World} {A : Around} {E : Value → Shared → Prop} {s : Shared} {a₀ : Array Keyed} {pn : Array (Nat × Nat × Nat)}
noncomputable def gallop' : Bool → Keyed → Array Keyed → Nat → Nat → Nat → StateT SortSt Sem (Option Nat) := sortPriv% PySem.Builtin.gallop
noncomputable def Kd (p : Keyed) : Int := numOf p.1
noncomputable def KeyInt (p : Keyed) : Prop := ∃ n t, p.1 = .int n t
theorem lt_ok {st : SortSt} {x y : Keyed} {Q : Option Bool → SortSt → Prop} (hk : kindOf st = oneType') (hx : KeyInt x) (hy : KeyInt y) (h : Q (some (decide (Kd x < Kd y))) st) : wpS (model prog w) A E s (lt' x y) Q st := by
  obtain ⟨a, t, ha⟩ := hx
  obtain ⟨b, u, hb⟩ := hy
  rw [lt'_eq]
  refine wpS_bind (wpS_get ?_)
  rw [hk, keyLt'_oneType, ha, hb]
  refine wpS_bind (wpS_lift (wpAny_attempt (oneLt_int ⟨rfl, ?_⟩)))
  have e1 : Kd x = a := by unfold Kd; rw [ha]; rfl
  have e2 : Kd y = b := by unfold Kd; rw [hb]; rfl
  rw [e1, e2] at h
  exact wpS_pure h
theorem elem_ok {st : SortSt} {arr : Array Keyed} {i : Nat} {x : Keyed} {Q : Keyed → SortSt → Prop} (hx : arr[i]? = some x) (h : Q x st) : wpS (model prog w) A E s (elem' arr i) Q st := by
  rw [elem'_eq, hx]
  exact wpS_pure h
structure Cut (b : Nat → Bool) (n lo hi : Nat) : Prop where
  le : lo ≤ hi
  le2 : hi ≤ n
  t : ∀ i, i < lo → b i = true
  f : ∀ i, hi ≤ i → i < n → b i = false
structure Out (n : Nat) (ok : Nat → Prop) (x la o : Nat) : Prop where
  lt : la < o
  bx : x + 1 ≤ o
  ok : ok la
theorem out_lt {o : Nat} : o < 2 * o + 1 := by omega
theorem out_x {x o : Nat} (h : x + 1 ≤ o) : x + 1 + 1 ≤ 2 * o + 1 := by omega
theorem cut_right {b : Nat → Bool} {n hint la o : Nat} (mono : ∀ i j, i ≤ j → j < n → b j = true → b i = true) (down : ∀ i j, i ≤ j → j < n → b i = false → b j = false) (hh : hint < n) (h1 : la < o) (h2 : hint + la < n) (h3 : b (hint + la) = true) (h4 : n - hint ≤ o ∨ b (hint + o) = false) :
    Cut b n (hint + la + 1) (hint + min o (n - hint)) := by
  refine ⟨Nat.add_le_add_left (Nat.le_min.mpr ⟨h1, Nat.le_sub_of_add_le (by omega)⟩) hint, Nat.le_trans (Nat.add_le_add_left (Nat.min_le_right _ _) _) (Nat.le_of_eq (Nat.add_sub_cancel' (Nat.le_of_lt hh))), fun i hi => mono i (hint + la) (Nat.le_of_lt_succ hi) h2 h3, fun i g1 g2 => ?_⟩
  by_cases ho : n - hint ≤ o
  · rw [Nat.min_eq_right ho, Nat.add_sub_cancel' (Nat.le_of_lt hh)] at g1
    exact absurd g2 (Nat.not_lt_of_le g1)
  · rw [Nat.min_eq_left (Nat.le_of_lt (Nat.lt_of_not_le ho))] at g1
    exact down (hint + o) i g1 g2 (h4.resolve_left ho)
theorem cut_left {b : Nat → Bool} {n hint la o : Nat} (mono : ∀ i j, i ≤ j → j < n → b j = true → b i = true) (down : ∀ i j, i ≤ j → j < n → b i = false → b j = false) (hh : hint < n) (h1 : la < o) (h2 : la ≤ hint) (h3 : b (hint - la) = false) (h4 : hint + 1 ≤ o ∨ b (hint - o) = true) :
    Cut b n (hint + 1 - min o (hint + 1)) (hint - la) := by
  refine ⟨Nat.le_trans (Nat.sub_le_sub_left (Nat.le_min.mpr ⟨h1, Nat.succ_le_succ h2⟩) (hint + 1)) (Nat.le_of_eq (Nat.succ_sub_succ hint la)), Nat.le_trans (Nat.sub_le _ _) (Nat.le_of_lt hh), fun i hi => ?_, fun i g1 g2 => down (hint - la) i g1 g2 h3⟩
  by_cases ho : hint + 1 ≤ o
  · rw [Nat.min_eq_right ho, Nat.sub_self] at hi
    cases hi
  · rw [Nat.min_eq_left (Nat.le_of_lt (Nat.lt_of_not_le ho))] at hi
    exact mono i (hint - o) (Nat.le_sub_of_add_le (Nat.le_of_lt_succ (Nat.add_lt_of_lt_sub hi))) (Nat.lt_of_le_of_lt (Nat.sub_le _ _) hh) (h4.resolve_left ho)
theorem gallop_ok {st : SortSt} {left : Bool} {key : Keyed} {arr : Array Keyed} {base n hint : Nat} {Q : Option Nat → SortSt → Prop} (hk : kindOf st = oneType') (hkey : KeyInt key) (hall : ∀ p ∈ arr.toList, KeyInt p)
    (hsz : base + n ≤ arr.size) (hh : hint < n) (hs : SortedR arr base (base + n))
    (b : Nat → Bool) (hb : ∀ i, b i = if left then decide (PyProof.Rows.K arr (base + i) < Kd key) else !decide (Kd key < PyProof.Rows.K arr (base + i)))
    (h : ∀ m, m ≤ n → (∀ i, i < m → b i = true) → (∀ i, m ≤ i → i < n → b i = false) → Q (some m) st) : wpS (model prog w) A E s (gallop' left key arr base n hint) Q st := by
  have hat : ∀ i, i < n → ∃ x, arr[base + i]? = some x ∧ KeyInt x ∧ Kd x = PyProof.Rows.K arr (base + i) := fun i hi => by
    have e : arr[base + i]? = some arr[base + i] := getElem?_pos arr (base + i) (by omega)
    exact ⟨_, e, hall _ (by simp), by rw [PyProof.Rows.K, e]; rfl⟩
  have mono : ∀ i j, i ≤ j → j < n → b j = true → b i = true := fun i j hij hj hbj => by
    have hm := hs (base + i) (base + j) (by omega) (by omega) (by omega)
    rw [hb] at hbj ⊢
    cases left with
    | true => simp only [if_true, decide_eq_true_eq] at hbj ⊢; omega
    | false => simp only [Bool.false_eq_true, if_false, Bool.not_eq_true', decide_eq_false_iff_not] at hbj ⊢; omega
  have bey : ∀ {γ : Type} i, i < n → ∀ (g : Option Bool → StateT SortSt Sem γ) (Q' : γ → SortSt → Prop), wpS (model prog w) A E s (g (some (b i))) Q' st → wpS (model prog w) A E s ((do
      let x ← elem' arr (base + i)
      if left = true then lt' x key else return (← lt' key x).map (!·)) >>= g) Q' st := fun i hi g Q' hq => by
    obtain ⟨x, e1, e2, e3⟩ := hat i hi
    refine wpS_bind (wpS_bind (elem_ok e1 ?_))
    have hbi := hb i
    rw [← e3] at hbi
    rw [hbi] at hq
    cases left with
    | true => exact lt_ok hk e2 hkey hq
    | false => exact wpS_bind (lt_ok hk hkey e2 (wpS_pure hq))
  have down : ∀ i j, i ≤ j → j < n → b i = false → b j = false := fun i j hij hj hbi => by
    cases e : b j with
    | false => rfl
    | true => rw [mono i j hij hj e] at hbi; cases hbi
  clear hat hb hs hsz hall hkey hk
  refine bey hint hh _ _ ?_
  dsimp -zeta only
  extract_lets +onlyGivenNames -merge -underBinder jp
  have hj : ∀ la o lo hi, Cut b n lo hi → wpS (model prog w) A E s (jp () la o lo hi) Q st := by
    intro la o lo hi hc
    refine wpS_rangeC (I := fun x c => c.1 = none ∧ Cut b n c.2.1 c.2.2 ∧ c.2.2 - c.2.1 ≤ n - x) (P := fun c => c.1 = none ∧ Cut b n c.2.2 c.2.2) ?_ ?_ ⟨rfl, hc, Nat.le_trans (Nat.sub_le _ _) hc.le2⟩ ?_
    · intro x c hx h
      extract_lets +onlyGivenNames -merge -underBinder s1 lo hi
      have hc : Cut b n lo hi := h.2.1
      have hm : hi - lo ≤ n - x := h.2.2
      refine wpS_if (fun c4 => wpS_pure ⟨rfl, rfl, Nat.le_refl _, hc.le2, fun i hi => hc.t i (Nat.lt_of_lt_of_le hi c4), hc.f⟩) (fun c4 => ?_)
      extract_lets +onlyGivenNames -merge -underBinder m
      have hlt : m < hi := mid_lt c4
      refine bey m (Nat.lt_of_lt_of_le hlt hc.le2) _ _ ?_
      dsimp -zeta only
      exact wpS_if (fun e => wpS_pure ⟨rfl, rfl, ⟨hlt, hc.le2, fun i hi => mono i m (Nat.le_of_lt_succ hi) (Nat.lt_of_lt_of_le hlt hc.le2) e, hc.f⟩, mid_up hm⟩)
        (fun e => wpS_pure ⟨rfl, rfl, ⟨Nat.le_add_right _ _, Nat.le_trans (Nat.le_of_lt hlt) hc.le2, hc.t, fun i h1 h2 => down m i h1 h2 (Bool.not_eq_true _ ▸ e)⟩, mid_dn c4 hm⟩)
    · intro c h
      have h1 := h.2.1.le
      have h2 := Nat.le_trans h.2.2 (Nat.le_of_eq (Nat.sub_eq_zero_of_le (Nat.le_max_right 0 n)))
      have e : c.2.1 = c.2.2 := Nat.le_antisymm h1 (Nat.le_of_sub_eq_zero (Nat.eq_zero_of_le_zero h2))
      exact ⟨h.1, Nat.le_refl _, h.2.1.le2, e ▸ h.2.1.t, h.2.1.f⟩
    · intro c hp
      extract_lets +onlyGivenNames -merge -underBinder r s1 hi
      have hr : r = none := hp.1
      clear_value r
      subst hr
      exact wpS_pure (h _ hp.2.le2 hp.2.t hp.2.f)
  clear_value jp
  clear h
  refine wpS_if (fun hb0 => ?_) (fun hb0 => ?_)
  · extract_lets +onlyGivenNames -merge -underBinder maxofs
    refine wpS_rangeC (I := fun x c => c.1 = none ∧ Out n (fun la => hint + la < n ∧ b (hint + la) = true) x c.2.1 c.2.2) (P := fun c => c.1 = none ∧ Out n (fun la => hint + la < n ∧ b (hint + la) = true) 0 c.2.1 c.2.2 ∧ (maxofs ≤ c.2.2 ∨ b (hint + c.2.2) = false)) ?_ ?_ ⟨rfl, Nat.zero_lt_one, Nat.le_refl _, hh, hb0⟩ ?_
    · intro x c hx h
      extract_lets +onlyGivenNames -merge -underBinder s1 la o
      have ho : Out n (fun la => hint + la < n ∧ b (hint + la) = true) x la o := h.2
      have h0 : Out n (fun la => hint + la < n ∧ b (hint + la) = true) 0 la o := ⟨ho.lt, Nat.le_trans (Nat.succ_le_succ (Nat.zero_le x)) ho.bx, ho.ok⟩
      refine wpS_if (fun c1 => wpS_pure ⟨rfl, rfl, h0, .inl c1⟩) (fun c1 => ?_)
      have hlt : hint + o < n := Nat.add_lt_of_lt_sub' (Nat.lt_of_not_le c1)
      refine bey (hint + o) hlt _ _ ?_
      dsimp -zeta only
      refine wpS_if (fun e => wpS_pure ⟨rfl, rfl, h0, .inr (Bool.not_eq_true' _ ▸ e)⟩) (fun e => ?_)
      exact wpS_pure ⟨rfl, rfl, out_lt, out_x ho.bx, hlt, by simpa using e⟩
    · intro c h
      exact ⟨h.1, ⟨h.2.lt, Nat.le_trans (Nat.succ_le_succ (Nat.zero_le _)) h.2.bx, h.2.ok⟩, .inl (Nat.le_trans (Nat.sub_le _ _) (Nat.le_trans (Nat.le_trans (Nat.le_max_right 0 n) (Nat.le_succ _)) h.2.bx))⟩
    · intro c hp
      extract_lets +onlyGivenNames -merge -underBinder r s1 la o
      have hr : r = none := hp.1
      clear_value r
      subst hr
      refine hj _ _ _ _ (cut_right mono down hh hp.2.1.lt hp.2.1.ok.1 hp.2.1.ok.2 hp.2.2)
  · extract_lets +onlyGivenNames -merge -underBinder maxofs
    refine wpS_rangeC (I := fun x c => c.1 = none ∧ Out n (fun la => la ≤ hint ∧ b (hint - la) = false) x c.2.1 c.2.2) (P := fun c => c.1 = none ∧ Out n (fun la => la ≤ hint ∧ b (hint - la) = false) 0 c.2.1 c.2.2 ∧ (maxofs ≤ c.2.2 ∨ b (hint - c.2.2) = true)) ?_ ?_ ⟨rfl, Nat.zero_lt_one, Nat.le_refl _, Nat.zero_le _, Bool.not_eq_true _ ▸ hb0⟩ ?_
    · intro x c hx h
      extract_lets +onlyGivenNames -merge -underBinder s1 la o
      have ho : Out n (fun la => la ≤ hint ∧ b (hint - la) = false) x la o := h.2
      have h0 : Out n (fun la => la ≤ hint ∧ b (hint - la) = false) 0 la o := ⟨ho.lt, Nat.le_trans (Nat.succ_le_succ (Nat.zero_le x)) ho.bx, ho.ok⟩
      refine wpS_if (fun c1 => wpS_pure ⟨rfl, rfl, h0, .inl c1⟩) (fun c1 => ?_)
      refine bey (hint - o) (Nat.lt_of_le_of_lt (Nat.sub_le _ _) hh) _ _ ?_
      dsimp -zeta only
      refine wpS_if (fun e => wpS_pure ⟨rfl, rfl, h0, .inr e⟩) (fun e => ?_)
      exact wpS_pure ⟨rfl, rfl, out_lt, out_x ho.bx, Nat.le_of_lt_succ (Nat.lt_of_not_le c1), Bool.not_eq_true _ ▸ e⟩
    · intro c h
      exact ⟨h.1, ⟨h.2.lt, Nat.le_trans (Nat.succ_le_succ (Nat.zero_le _)) h.2.bx, h.2.ok⟩, .inl (Nat.le_trans hh (Nat.le_trans (Nat.le_trans (Nat.le_max_right 0 n) (Nat.le_succ _)) h.2.bx))⟩
    · intro c hp
      extract_lets +onlyGivenNames -merge -underBinder r s1 la o
      have hr : r = none := hp.1
      clear_value r
      subst hr
      refine hj _ _ _ _ (cut_left mono down hh hp.2.1.lt hp.2.1.ok.1 hp.2.1.ok.2 hp.2.2)

end

section
noncomputable def Up (l : List Keyed) : Prop := l.Pairwise fun x y => Kd x ≤ Kd y
structure MI (la lb : List Keyed) (out : List Keyed) (ra rb : List Keyed) : Prop where
  perm : (out ++ (ra ++ rb)).Perm (la ++ lb)
  up : Up out
  ua : Up ra
  ub : Up rb
  le : ∀ x ∈ out, ∀ y ∈ ra ++ rb, Kd x ≤ Kd y
variable {la lb out ra rb : List Keyed} {x : Keyed}
theorem Up.app {a b : List Keyed} (h1 : Up a) (h2 : Up b) (h : ∀ x ∈ a, ∀ y ∈ b, Kd x ≤ Kd y) : Up (a ++ b) := List.pairwise_append.mpr ⟨h1, h2, h⟩
theorem MI.runA {ka : List Keyed} (m : MI la lb out (ka ++ ra) rb) (h : ∀ x ∈ ka, ∀ y ∈ rb, Kd x ≤ Kd y) : MI la lb (out ++ ka) ra rb := by
  obtain ⟨u1, u2, u3⟩ := List.pairwise_append.mp m.ua
  refine ⟨?_, m.up.app u1 fun x hx y hy => m.le x hx y (by simp [hy]), u2, m.ub, fun x hx y hy => ?_⟩
  · have := m.perm
    simp only [List.append_assoc] at this ⊢
    exact this
  · rcases List.mem_append.mp hx with hx | hx
    · refine m.le x hx y ?_
      rcases List.mem_append.mp hy with hy | hy <;> simp [hy]
    · rcases List.mem_append.mp hy with hy | hy
      · exact u3 x hx y hy
      · exact h x hx y hy
theorem MI.runB {kb : List Keyed} (m : MI la lb out ra (kb ++ rb)) (h : ∀ x ∈ kb, ∀ y ∈ ra, Kd x ≤ Kd y) : MI la lb (out ++ kb) ra rb := by
  obtain ⟨u1, u2, u3⟩ := List.pairwise_append.mp m.ub
  refine ⟨?_, m.up.app u1 fun x hx y hy => m.le x hx y (by simp [hy]), m.ua, u2, fun x hx y hy => ?_⟩
  · refine List.Perm.trans ?_ m.perm
    rw [List.append_assoc]
    refine List.Perm.append_left out ?_
    rw [← List.append_assoc, ← List.append_assoc]
    exact List.Perm.append_right rb List.perm_append_comm
  · rcases List.mem_append.mp hx with hx | hx
    · refine m.le x hx y ?_
      rcases List.mem_append.mp hy with hy | hy <;> simp [hy]
    · rcases List.mem_append.mp hy with hy | hy
      · exact h x hx y hy
      · exact u3 x hx y hy
noncomputable def Merged (la lb out : List Keyed) : Prop := out.Perm (la ++ lb) ∧ Up out
theorem MI.endA (m : MI la lb out ra []) : Merged la lb (out ++ ra) := ⟨by have := m.perm; rwa [List.append_nil] at this, m.up.app m.ua fun x hx y hy => m.le x hx y (by simp [hy])⟩
theorem MI.endB (m : MI la lb out [] rb) : Merged la lb (out ++ rb) := ⟨m.perm, m.up.app m.ub fun x hx y hy => m.le x hx y (by simp [hy])⟩
theorem MI.lastA (m : MI la lb out [x] rb) (h : ∀ y ∈ rb, Kd y ≤ Kd x) : Merged la lb (out ++ rb ++ [x]) := by
  have m' : MI la lb (out ++ rb) [x] [] := MI.runB (rb := []) (by rw [List.append_nil]; exact m) fun y hy z hz => by rw [List.mem_singleton.mp hz]; exact h y hy
  exact m'.endA
theorem up_head {r : List Keyed} (h : Up (x :: r)) : ∀ y ∈ x :: r, Kd x ≤ Kd y := fun y hy => by
  rcases List.mem_cons.mp hy with rfl | hy
  · exact Int.le_refl _
  · exact (List.pairwise_cons.mp h).1 y hy
theorem MI.stepA (m : MI la lb out (x :: ra) rb) (h : ∀ y ∈ rb, Kd x ≤ Kd y) : MI la lb (out ++ [x]) ra rb := MI.runA (ka := [x]) m fun z hz y hy => by rw [List.mem_singleton.mp hz]; exact h y hy
theorem MI.stepB (m : MI la lb out ra (x :: rb)) (h : ∀ y ∈ ra, Kd x ≤ Kd y) : MI la lb (out ++ [x]) ra rb := MI.runB (kb := [x]) m fun z hz y hy => by rw [List.mem_singleton.mp hz]; exact h y hy
theorem MI.winB {y : Keyed} (m : MI la lb out (x :: ra) (y :: rb)) (h : Kd y < Kd x) : MI la lb (out ++ [y]) (x :: ra) rb := m.stepB fun z hz => by
  have := up_head m.ua z hz
  omega
theorem MI.winA {y : Keyed} (m : MI la lb out (x :: ra) (y :: rb)) (h : ¬ Kd y < Kd x) : MI la lb (out ++ [x]) ra (y :: rb) := m.stepA fun z hz => by
  have := up_head m.ub z hz
  omega
end
section
variable {prog : Program} {w : World} {A : Around} {E : Value → Shared → Prop} {s : Shared} {a₀ : Array Keyed} {pn : Array (Nat × Nat × Nat)}
noncomputable def mergeLo' : Array Keyed → Array Keyed → StateT SortSt Sem (Array Keyed) := sortPriv% PySem.Builtin.mergeLo
structure Like (st st' : SortSt) : Prop where
  kind : kindOf st' = kindOf st
  arr : arrOf st' = arrOf st
  pend : pendingOf st' = pendingOf st
  failed : failedOf st' = failedOf st
theorem Like.rfl' (st : SortSt) : Like st st := ⟨rfl, rfl, rfl, rfl⟩
theorem Like.trans' {s1 s2 s3 : SortSt} (h1 : Like s1 s2) (h2 : Like s2 s3) : Like s1 s3 := ⟨h2.kind.trans h1.kind, h2.arr.trans h1.arr, h2.pend.trans h1.pend, h2.failed.trans h1.failed⟩
noncomputable def MX (a b out : Array Keyed) (ia ib : Nat) : Prop := MI a.toList b.toList out.toList (a.toList.drop ia) (b.toList.drop ib)
variable {a b out : Array Keyed} {ia ib k : Nat}
theorem drop_at {l : Array Keyed} {i : Nat} (h : i < l.size) : l.toList.drop i = l[i] :: l.toList.drop (i + 1) := by
  rw [List.drop_eq_getElem_cons (by simpa using h)]
  simp
theorem ext_toList (l : Array Keyed) (i j : Nat) : (l.extract i j).toList = (l.toList.drop i).take (j - i) := by simp [List.extract]
theorem ext_all (l : Array Keyed) (i : Nat) : (l.extract i).toList = l.toList.drop i := by
  rw [ext_toList, List.take_of_length_le (by simp)]
theorem drop_split (l : List Keyed) (i k : Nat) : l.drop i = (l.drop i).take k ++ l.drop (i + k) := by
  rw [← List.drop_drop, List.take_append_drop]
theorem mem_take_drop {l : Array Keyed} {i k : Nat} {x : Keyed} (h : x ∈ (l.toList.drop i).take k) : ∃ j, j < k ∧ ∃ hj : i + j < l.size, x = l[i + j] := by
  obtain ⟨j, hj, rfl⟩ := List.mem_iff_getElem.mp h
  rw [List.length_take, List.length_drop, Array.length_toList] at hj
  exact ⟨j, Nat.lt_of_lt_of_le hj (Nat.min_le_left _ _), Nat.add_lt_of_lt_sub' (Nat.lt_of_lt_of_le hj (Nat.min_le_right _ _)), by simp⟩
theorem mem_drop {l : Array Keyed} {i : Nat} {x : Keyed} (h : x ∈ l.toList.drop i) : ∃ j, ∃ hj : i + j < l.size, x = l[i + j] := by
  obtain ⟨j, hj, rfl⟩ := List.mem_iff_getElem.mp h
  rw [List.length_drop, Array.length_toList] at hj
  exact ⟨j, by omega, by simp⟩
theorem MX.runA (m : MX a b out ia ib) (h : ∀ j, j < k → ∀ hj : ia + j < a.size, ∀ y ∈ b.toList.drop ib, Kd a[ia + j] ≤ Kd y) : MX a b (out ++ a.extract ia (ia + k)) (ia + k) ib := by
  unfold MX at m ⊢
  rw [Array.toList_append, ext_toList, show ia + k - ia = k by omega]
  rw [drop_split a.toList ia k] at m
  refine MI.runA m fun x hx y hy => ?_
  obtain ⟨j, hj, hj2, rfl⟩ := mem_take_drop hx
  exact h j hj hj2 y hy
theorem MX.runB (m : MX a b out ia ib) (h : ∀ j, j < k → ∀ hj : ib + j < b.size, ∀ y ∈ a.toList.drop ia, Kd b[ib + j] ≤ Kd y) : MX a b (out ++ b.extract ib (ib + k)) ia (ib + k) := by
  unfold MX at m ⊢
  rw [Array.toList_append, ext_toList, show ib + k - ib = k by omega]
  rw [drop_split b.toList ib k] at m
  refine MI.runB m fun x hx y hy => ?_
  obtain ⟨j, hj, hj2, rfl⟩ := mem_take_drop hx
  exact h j hj hj2 y hy
theorem MX.stepA (m : MX a b out ia ib) (hi : ia < a.size) (h : ∀ y ∈ b.toList.drop ib, Kd a[ia] ≤ Kd y) : MX a b (out.push a[ia]) (ia + 1) ib := by
  unfold MX at m ⊢
  rw [Array.toList_push]
  rw [drop_at hi] at m
  exact MI.stepA m h
theorem MX.stepB (m : MX a b out ia ib) (hi : ib < b.size) (h : ∀ y ∈ a.toList.drop ia, Kd b[ib] ≤ Kd y) : MX a b (out.push b[ib]) ia (ib + 1) := by
  unfold MX at m ⊢
  rw [Array.toList_push]
  rw [drop_at hi] at m
  exact MI.stepB m h
theorem MX.upA (m : MX a b out ia ib) (hi : ia < a.size) : ∀ y ∈ a.toList.drop ia, Kd a[ia] ≤ Kd y := fun y hy => by
  have u := m.ua
  rw [drop_at hi] at u hy
  exact up_head u y hy
theorem MX.upB (m : MX a b out ia ib) (hi : ib < b.size) : ∀ y ∈ b.toList.drop ib, Kd b[ib] ≤ Kd y := fun y hy => by
  have u := m.ub
  rw [drop_at hi] at u hy
  exact up_head u y hy
theorem MX.winB (m : MX a b out ia ib) (hi : ia < a.size) (hj : ib < b.size) (h : Kd b[ib] < Kd a[ia]) : MX a b (out.push b[ib]) ia (ib + 1) := m.stepB hj fun y hy => by
  have := m.upA hi y hy
  omega
theorem MX.winA (m : MX a b out ia ib) (hi : ia < a.size) (hj : ib < b.size) (h : ¬ Kd b[ib] < Kd a[ia]) : MX a b (out.push a[ia]) (ia + 1) ib := m.stepA hi fun y hy => by
  have := m.upB hj y hy
  omega
theorem MX.doneB (m : MX a b out ia ib) (h : ib = b.size) : Merged a.toList b.toList (out ++ a.extract ia ++ b.extract ib).toList := by
  subst h
  unfold MX at m
  have e : b.toList.drop b.size = [] := List.drop_eq_nil_of_le (by simp)
  rw [Array.toList_append, Array.toList_append, ext_all, ext_all, e]
  rw [e] at m
  rw [List.append_nil]
  exact m.endA
theorem MX.doneA (m : MX a b out ia ib) (h : ia = a.size) : Merged a.toList b.toList (out ++ a.extract ia ++ b.extract ib).toList := by
  subst h
  unfold MX at m
  rw [Array.toList_append, Array.toList_append, ext_all, ext_all]
  have e : a.toList.drop a.size = [] := List.drop_eq_nil_of_le (by simp)
  rw [e] at m ⊢
  rw [List.append_nil]
  exact m.endB
theorem MX.lastA (m : MX a b out ia ib) (h : ia + 1 = a.size) (hl : ∀ y ∈ b.toList, ∀ x ∈ a.toList.drop ia, Kd y ≤ Kd x) : Merged a.toList b.toList (out ++ b.extract ib ++ a.extract ia).toList := by
  unfold MX at m
  rw [Array.toList_append, Array.toList_append, ext_all, ext_all]
  have e := drop_at (l := a) (i := ia) (by omega)
  rw [List.drop_eq_nil_of_le (i := ia + 1) (by simp; omega)] at e
  rw [e] at m hl ⊢
  exact m.lastA fun y hy => hl y (List.mem_of_mem_drop hy) _ (.head _)
end

section
variable {prog : Program} {w : World} {A : Around} {E : Value → Shared → Prop} {s : Shared} {a₀ : Array Keyed} {pn : Array (Nat × Nat × Nat)}
theorem Kof {a : Array Keyed} {i : Nat} (h : i < a.size) : PyProof.Rows.K a i = Kd a[i] := by rw [PyProof.Rows.K, getElem?_pos a i h]; rfl
theorem Up.R {a : Array Keyed} (h : Up a.toList) {i j : Nat} (hj : j ≤ a.size) : SortedR a i j := fun p q h1 h2 h3 => by
  rcases Nat.lt_or_ge p q with g | g
  · rw [Kof (by omega), Kof (by omega)]
    have := List.pairwise_iff_getElem.mp h p q (by simp; omega) (by simp; omega) g
    simpa using this
  · rw [show p = q by omega]; exact Int.le_refl _
noncomputable def setMinGallop' : Nat → StateT SortSt Sem Unit := sortPriv% PySem.Builtin.setMinGallop
variable {α γ : Type} {c : Prop} {x y : StateT SortSt Sem γ} {Q : γ → SortSt → Prop} {st z : SortSt}
theorem wpS_set {g : Nat} {f : Unit → StateT SortSt Sem γ} (hL : Like st z) (h : ∀ z', Like st z' → wpS (model prog w) A E s (f ⟨⟩) Q z') : wpS (model prog w) A E s (setMinGallop' g >>= f) Q z :=
  wpS_bind (wpS_modify (h _ ⟨hL.kind, hL.arr, hL.pend, hL.failed⟩))
theorem mgU [Decidable c] {jp : Unit → Nat → StateT SortSt Sem γ} {m n : Nat} (h : ∀ g, wpS (model prog w) A E s (jp () g) Q st) : wpS (model prog w) A E s (if c then jp () m else jp () n) Q st := by split <;> exact h _
theorem gap {jp : Unit → Array Keyed → Nat → StateT SortSt Sem γ} (P : Array Keyed → Nat → Prop) (tail : ∀ o i, P o i → wpS (model prog w) A E s (jp () o i) Q st) (use : (∀ o i, P o i → wpS (model prog w) A E s (jp () o i) Q st) → wpS (model prog w) A E s x Q st) : wpS (model prog w) A E s x Q st := use tail
theorem neb {a b : Nat} (h : ¬ (a == b) = true) : a ≠ b := fun e => h (beq_iff_eq.mpr e)
theorem elemB {arr : Array Keyed} {i : Nat} {f : Keyed → StateT SortSt Sem γ} (hi : i < arr.size) (h : wpS (model prog w) A E s (f arr[i]) Q st) : wpS (model prog w) A E s (elem' arr i >>= f) Q st := wpS_bind (elem_ok (getElem?_pos arr i hi) h)
theorem cmpB {a b : Array Keyed} {i j : Nat} {g : Option Bool → StateT SortSt Sem γ} (hk : kindOf st = oneType') (ha : ∀ p ∈ a.toList, KeyInt p) (hb : ∀ p ∈ b.toList, KeyInt p) (hi : i < a.size) (hj : j < b.size)
    (h1 : Kd b[j] < Kd a[i] → wpS (model prog w) A E s (g (some true)) Q st) (h2 : ¬ Kd b[j] < Kd a[i] → wpS (model prog w) A E s (g (some false)) Q st) :
    wpS (model prog w) A E s (elem' b j >>= fun y => elem' a i >>= fun x => lt' y x >>= g) Q st := by
  refine elemB hj (elemB hi (wpS_bind (lt_ok hk (hb _ (by simp)) (ha _ (by simp)) ?_)))
  by_cases h : Kd b[j] < Kd a[i]
  · rw [decide_eq_true h]; exact h1 h
  · rw [decide_eq_false h]; exact h2 h
theorem galB {left : Bool} {ka arr : Array Keyed} {j i : Nat} {g : Option Nat → StateT SortSt Sem γ} (hk : kindOf st = oneType') (hkk : ∀ p ∈ ka.toList, KeyInt p) (hall : ∀ p ∈ arr.toList, KeyInt p) (hj : j < ka.size) (hi : i < arr.size) (ua : Up arr.toList)
    (h : ∀ k, (∀ t, t < k → ∀ ht : i + t < arr.size, Kd arr[i + t] ≤ Kd ka[j]) → (∀ y ∈ arr.toList.drop (i + k), Kd ka[j] ≤ Kd y) → i + k ≤ arr.size → wpS (model prog w) A E s (g (some k)) Q st) :
    wpS (model prog w) A E s (elem' ka j >>= fun x => gallop' left x arr i (arr.size - i) 0 >>= g) Q st := by
  refine elemB hj (wpS_bind (gallop_ok hk (hkk _ (by simp)) hall (by omega) (by omega) (ua.R (by omega)) _ (fun _ => rfl) fun k k1 k2 k3 => h k (fun t h1 h2 => ?_) (fun y hy => ?_) (by omega)))
  · have := k2 t h1
    rw [Kof h2] at this
    cases left
    · rw [if_neg (by decide), Bool.not_eq_true'] at this
      exact Int.not_lt.mp (of_decide_eq_false this)
    · rw [if_pos rfl] at this
      exact Int.le_of_lt (of_decide_eq_true this)
  · obtain ⟨t, ht, rfl⟩ := mem_drop hy
    have := k3 (k + t) (by omega) (by omega)
    rw [← Nat.add_assoc, Kof ht] at this
    cases left
    · rw [if_neg (by decide), Bool.not_eq_false'] at this
      exact Int.le_of_lt (of_decide_eq_true this)
    · rw [if_pos rfl] at this
      exact Int.not_lt.mp (of_decide_eq_false this)
noncomputable def MloS (a b : Array Keyed) : Prop := ∀ {prog : Program} {w : World} {A : Around} {E : Value → Shared → Prop} {s : Shared} {st : SortSt} {Q : Array Keyed → SortSt → Prop}, kindOf st = oneType' → (∀ p ∈ a.toList, KeyInt p) → (∀ p ∈ b.toList, KeyInt p) → Up a.toList → Up b.toList →
    0 < a.size → ∀ hb1 : 0 < b.size, (∀ x ∈ a.toList, Kd b[0] ≤ Kd x) → (∀ y ∈ b.toList, ∀ i, i + 1 = a.size → ∀ x ∈ a.toList.drop i, Kd y ≤ Kd x) →
    (∀ out st', Like st st' → Merged a.toList b.toList out.toList → Q out st') → wpS (model prog w) A E s (mergeLo' a b) Q st
noncomputable def abL : Array Keyed × Array Keyed := @Classical.epsilon _ ⟨(#[], #[])⟩ fun c => ¬ MloS c.1 c.2
@[irreducible] noncomputable def aL : Array Keyed := abL.1
@[irreducible] noncomputable def bL : Array Keyed := abL.2
noncomputable def sst0 : SortSt := SortSt.mk' oneType' #[] #[] 7 none
structure LS (st y : SortSt) (n : Nat) (r : Option (Array Keyed)) (out : Array Keyed) (ia ib : Nat) : Prop where
  r0 : r = none
  like : Like st y
  m : MX aL bL out ia ib
  d1 : ia + 1 < aL.size
  d2 : ib < bL.size
  d3 : n ≤ ia + ib
noncomputable def QS (st y : SortSt) (n : Nat) (r : Option (Array Keyed)) (out : Array Keyed) (ia ib : Nat) : Prop := match r with
  | some x => Like st y ∧ Merged aL.toList bL.toList x.toList
  | none => LS st y n none out ia ib
theorem QS.ret {n : Nat} {x out : Array Keyed} {ia ib : Nat} (h : Like st z) (m : Merged aL.toList bL.toList x.toList) : QS st z n (some x) out ia ib := ⟨h, m⟩
theorem QS.of {n n' : Nat} {r : Option (Array Keyed)} {out : Array Keyed} {ia ib : Nat} (h : LS st z n r out ia ib) (hn : n' ≤ n) : QS st z n' r out ia ib := by
  have e := h.r0
  subst e
  exact ⟨rfl, h.like, h.m, h.d1, h.d2, Nat.le_trans hn h.d3⟩
theorem mlo_c : MloS aL bL := by
  (refine (?zdG1 : CloT _ ?zdH1); refine @(allE7 (i := ⟨(default, world0, {}, fun _ _ => True, {}, sst0, fun _ _ => True)⟩) ?_); apply ?zdH1; intro prog w A E s st Q)
  intro hk ha hb ua ub ha1 hb1 hf hl h
  refine wpS_bind (wpS_lift (wpAny_rule ⟨rfl, ?_⟩))
  extract_lets +onlyGivenNames -merge -underBinder total done lastOfA
  refine elemB hb1 ?_
  extract_lets +onlyGivenNames -merge -underBinder out ia ib
  have m1 : MX aL bL out ia ib := MX.stepB (ia := 0) (ib := 0) (out := #[]) ⟨by simp, List.Pairwise.nil, ua, ub, fun x hx => by simp at hx⟩ hb1 hf
  refine wpS_if (fun c1 => wpS_pure (h _ _ (Like.rfl' st) (m1.doneB (eq_of_beq c1)))) (fun c1 => ?_)
  refine wpS_if (fun c2 => wpS_pure (h _ _ (Like.rfl' st) (m1.lastA (eq_of_beq c2) fun y hy => hl y hy 0 (eq_of_beq c2)))) (fun c2 => ?_)
  have h0 : LS st st 1 none out ia ib := ⟨rfl, Like.rfl' st, m1, Nat.lt_of_le_of_ne ha1 (neb c2), Nat.lt_of_le_of_ne hb1 (neb c1), Nat.le_refl _⟩
  clear m1 c1 c2
  refine wpS_bind (wpS_get ?_)
  extract_lets +onlyGivenNames -merge -underBinder mg
  refine wpS_bind (wpS_mono (wpS_forRange (I := fun x c y => LS st y (x + 1) c.1 c.2.1 c.2.2.1 c.2.2.2.1) (Q := fun c y => ∃ r, c.1 = some r ∧ Like st y ∧ Merged aL.toList bL.toList r.toList) ?outer ?ofin h0) ?opost)
  case ofin =>
    intro c y h
    have h1 := h.d1
    have h2 := h.d2
    have h3 : aL.size + bL.size + 1 ≤ _ := Nat.le_trans (Nat.succ_le_succ (Nat.le_max_right 0 _)) h.d3
    omega
  case opost =>
    intro c y hq
    extract_lets +onlyGivenNames -merge -underBinder r
    obtain ⟨x, hr, hL, hm⟩ := hq
    have hr' : r = some x := hr
    clear_value r
    subst hr'
    exact wpS_pure (h _ _ hL hm)
  case outer =>
    intro x c y _ _ h
    extract_lets +onlyGivenNames -merge -underBinder s1 out s2 ia s3 ib mg ac bc
    refine wpS_bind (wpS_mono (wpS_forRange (I := fun x c y => LS st y (ia + ib + x) c.1 c.2.1 c.2.2.1 c.2.2.2.1) (Q := fun c y => QS st y (ia + ib + 1) c.1 c.2.1 c.2.2.1 c.2.2.2.1) ?in1 ?fin1 ⟨rfl, h.like, h.m, h.d1, h.d2, Nat.le_refl _⟩) ?post1)
    case fin1 => exact fun c y h => QS.of h (Nat.add_le_add_left (Nat.le_trans (Nat.le_trans ha1 (Nat.le_add_right _ _)) (Nat.le_max_right 0 _)) _)
    case in1 =>
      intro x c y _ _ h
      extract_lets +onlyGivenNames -merge -underBinder s1 out' s2 ia' s3 ib' s4 ac bc
      have m : MX aL bL out' ia' ib' := h.m
      have d1 : ia' + 1 < aL.size := h.d1
      have d2 : ib' < bL.size := h.d2
      have d3 : ia + ib + x ≤ ia' + ib' := h.d3
      refine cmpB (h.like.kind.trans hk) ha hb (Nat.lt_of_succ_lt d1) d2 (fun hw => wpS_ifp rfl ?_) (fun hw => wpS_ifn (fun e => by cases e) ?_)
      · refine elemB d2 ?_
        extract_lets +onlyGivenNames -merge -underBinder out2 ib2 bc2 ac2
        have m2 : MX aL bL out2 ia' ib2 := m.winB (Nat.lt_of_succ_lt d1) d2 hw
        refine wpS_if (fun c3 => wpS_pure (QS.ret h.like (m2.doneB (eq_of_beq c3)))) (fun c3 => ?_)
        have c3' : ib2 < bL.size := Nat.lt_of_le_of_ne d2 (neb c3)
        have d4 : ia + ib + (x + 1) ≤ ia' + ib2 := Nat.succ_le_succ d3
        exact wpS_if (fun c4 => wpS_pure (QS.of ⟨rfl, h.like, m2, d1, c3', d4⟩ (Nat.add_le_add_left (Nat.succ_le_succ (Nat.zero_le x)) _))) (fun c4 => wpS_pure ⟨rfl, h.like, m2, d1, c3', d4⟩)
      · refine elemB (Nat.lt_of_succ_lt d1) ?_
        extract_lets +onlyGivenNames -merge -underBinder out2 ia2 ac2 bc2
        have m2 : MX aL bL out2 ia2 ib' := m.winA (Nat.lt_of_succ_lt d1) d2 hw
        refine wpS_if (fun c3 => wpS_pure (QS.ret h.like (m2.lastA (eq_of_beq c3) fun y hy => hl y hy _ (eq_of_beq c3)))) (fun c3 => ?_)
        have c3' : ia2 + 1 < aL.size := Nat.lt_of_le_of_ne d1 (neb c3)
        have d4 : ia + ib + (x + 1) ≤ ia2 + ib' := Nat.le_trans (Nat.succ_le_succ d3) (Nat.le_of_eq (Nat.succ_add ia' ib').symm)
        exact wpS_if (fun c4 => wpS_pure (QS.of ⟨rfl, h.like, m2, c3', d2, d4⟩ (Nat.add_le_add_left (Nat.succ_le_succ (Nat.zero_le x)) _))) (fun c4 => wpS_pure ⟨rfl, h.like, m2, c3', d2, d4⟩)
    case post1 =>
      intro c y hq
      have h3 : x + 1 ≤ ia + ib := h.d3
      clear h
      extract_lets +onlyGivenNames -merge -underBinder r s1 out' s2 ia' s3 ib' s4 ac bc
      have hq : QS st y (ia + ib + 1) r out' ia' ib' := hq
      clear_value r
      rcases r with _ | r
      rotate_left
      · exact wpS_pure ⟨_, rfl, hq.1, hq.2⟩
      have p : LS st y (ia + ib + 1) none out' ia' ib' := hq
      clear hq
      refine wpS_bind (wpS_lift (wpAny_rule ⟨rfl, ?_⟩))
      extract_lets +onlyGivenNames -merge -underBinder mg2
      refine wpS_bind (wpS_mono (wpS_forRange (I := fun _ c y => LS st y (ia + ib + 1) c.1 c.2.1 c.2.2.1 c.2.2.2.1) (Q := fun c y => QS st y (ia + ib + 1) c.1 c.2.1 c.2.2.1 c.2.2.2.1) ?in2 (fun c y h => QS.of h (Nat.le_refl _)) p) ?post2)
      case post2 =>
        intro c y hq
        extract_lets +onlyGivenNames -merge -underBinder r s1 out3 s2 ia3 s3 ib3 s4 mg3
        have hq : QS st y (ia + ib + 1) r out3 ia3 ib3 := hq
        clear_value r
        rcases r with _ | r
        rotate_left
        · exact wpS_pure ⟨_, rfl, hq.1, hq.2⟩
        have p : LS st y (ia + ib + 1) none out3 ia3 ib3 := hq
        clear hq
        exact wpS_set p.like fun z' hL' => wpS_pure ⟨rfl, hL', p.m, p.d1, p.d2, Nat.le_trans (Nat.succ_le_succ h3) p.d3⟩
      case in2 =>
        intro x c y _ _ h
        extract_lets +onlyGivenNames -merge -underBinder s1 out s2 i s3 j s4 mg s5 ac bc jp
        have m : MX aL bL out i j := h.m
        have d1 : i + 1 < aL.size := h.d1
        have d2 : j < bL.size := h.d2
        have d3 : ia + ib + 1 ≤ i + j := h.d3
        refine mgU (jp := jp) fun g => wpS_set h.like fun y3 hL => galB (hL.kind.trans hk) hb ha d2 (Nat.lt_of_succ_lt d1) ua fun k k1 k2 k3 => ?_
        dsimp -zeta only
        extract_lets +onlyGivenNames -merge -underBinder ac jp2
        have m2 := m.runA (k := k) fun t h1 h2 y hy => Int.le_trans (k1 t h1 h2) (m.upB d2 y hy)
        refine gap (jp := jp2) (fun o i => MX aL bL o i j ∧ i + 1 < aL.size ∧ ia + ib + 1 ≤ i + j ∧ ∀ y ∈ aL.toList.drop i, Kd (bL[j]'d2) ≤ Kd y) (fun o1 i1 q => ?_) fun hj => wpS_if (fun c5 => ?_) fun c5 => hj _ _ ⟨m, d1, d3, fun y hy => k2 y (by rw [Nat.eq_zero_of_not_pos c5]; exact hy)⟩
        rotate_left
        · extract_lets +onlyGivenNames -merge -underBinder out4 i4
          refine wpS_if (fun c => wpS_pure (QS.ret hL (m2.lastA (eq_of_beq c) fun y hy => hl y hy _ (eq_of_beq c)))) fun c6 => wpS_if (fun c => wpS_pure (QS.ret hL (m2.doneA (eq_of_beq c)))) fun c7 => hj _ _ ⟨m2, ?_, ?_, k2⟩
          · exact Nat.lt_of_le_of_ne (Nat.lt_of_le_of_ne k3 (neb c7)) (neb c6)
          · exact Nat.le_trans d3 (Nat.add_le_add_right (Nat.le_add_right i k) j)
        clear m2 m d1 d3 k1 k2 k3
        have m := q.1
        have d1 := q.2.1
        have d3 := q.2.2.1
        have k2 := q.2.2.2
        clear q
        refine elemB d2 ?_
        extract_lets +onlyGivenNames -merge -underBinder out5 j5
        have m3 : MX aL bL out5 i1 j5 := m.stepB d2 k2
        refine wpS_if (fun c => wpS_pure (QS.ret hL (m3.doneB (eq_of_beq c)))) (fun c7 => ?_)
        have d5 : j5 < bL.size := Nat.lt_of_le_of_ne d2 (neb c7)
        have d6 : ia + ib + 1 ≤ i1 + j5 := Nat.le_trans d3 (Nat.le_succ _)
        clear m k2 d3 c7
        refine galB (hL.kind.trans hk) ha hb (Nat.lt_of_succ_lt d1) d5 ub fun l l1 l2 l3 => ?_
        dsimp -zeta only
        extract_lets +onlyGivenNames -merge -underBinder bc jp3
        have m4 := m3.runB (k := l) fun t h1 h2 y hy => Int.le_trans (l1 t h1 h2) (m3.upA (Nat.lt_of_succ_lt d1) y hy)
        refine gap (jp := jp3) (fun o j => MX aL bL o i1 j ∧ j < bL.size ∧ ia + ib + 1 ≤ i1 + j ∧ ∀ y ∈ bL.toList.drop j, Kd (aL[i1]'(Nat.lt_of_succ_lt d1)) ≤ Kd y) (fun o2 j2 q => ?_) fun hj => wpS_if (fun c8 => ?_) fun c8 => hj _ _ ⟨m3, d5, d6, fun y hy => l2 y (by rw [Nat.eq_zero_of_not_pos c8]; exact hy)⟩
        rotate_left
        · extract_lets +onlyGivenNames -merge -underBinder out6 j6
          exact wpS_if (fun c => wpS_pure (QS.ret hL (m4.doneB (eq_of_beq c)))) fun c9 => hj _ _ ⟨m4, Nat.lt_of_le_of_ne l3 (neb c9), Nat.le_trans d6 (Nat.add_le_add_left (Nat.le_add_right _ _) _), l2⟩
        clear m4 m3 d5 d6 l1 l2 l3
        refine elemB (Nat.lt_of_succ_lt d1) ?_
        extract_lets +onlyGivenNames -merge -underBinder out7 i7
        have m5 : MX aL bL out7 i7 j2 := q.1.stepA (Nat.lt_of_succ_lt d1) q.2.2.2
        refine wpS_if (fun c => wpS_pure (QS.ret hL (m5.lastA (eq_of_beq c) fun y hy => hl y hy _ (eq_of_beq c)))) (fun c9 => ?_)
        have e : LS st y3 (ia + ib + 1) none out7 i7 j2 := ⟨rfl, hL, m5, Nat.lt_of_le_of_ne d1 (neb c9), q.2.1, Nat.le_trans q.2.2.1 (Nat.add_le_add_right (Nat.le_succ _) _)⟩
        exact wpS_if (fun c => wpS_pure e) fun c => wpS_pure e
theorem mlo_all (a b : Array Keyed) : MloS a b := by
  apply Classical.byContradiction
  intro hn
  have h := @Classical.epsilon_spec _ (fun c : Array Keyed × Array Keyed => ¬ MloS c.1 c.2) ⟨(a, b), hn⟩
  have c := @mlo_c
  unfold aL bL abL at c
  exact h @c
theorem mlo_ok {st : SortSt} {a b : Array Keyed} {Q : Array Keyed → SortSt → Prop} (hk : kindOf st = oneType') (ha : ∀ p ∈ a.toList, KeyInt p) (hb : ∀ p ∈ b.toList, KeyInt p) (ua : Up a.toList) (ub : Up b.toList)
    (ha1 : 0 < a.size) (hb1 : 0 < b.size) (hf : ∀ x ∈ a.toList, Kd b[0] ≤ Kd x) (hl : ∀ y ∈ b.toList, ∀ i, i + 1 = a.size → ∀ x ∈ a.toList.drop i, Kd y ≤ Kd x)
    (h : ∀ out st', Like st st' → Merged a.toList b.toList out.toList → Q out st') : wpS (model prog w) A E s (mergeLo' a b) Q st :=
  mlo_all a b hk ha hb ua ub ha1 hb1 hf hl h
end

section
structure MH (la lb : List Keyed) (out : List Keyed) (ra rb : List Keyed) : Prop where
  perm : (ra ++ rb ++ out).Perm (la ++ lb)
  up : Up out
  ua : Up ra
  ub : Up rb
  le : ∀ y ∈ ra ++ rb, ∀ x ∈ out, Kd y ≤ Kd x
variable {la lb out ra rb : List Keyed} {x : Keyed}
theorem MH.runA {ka : List Keyed} (m : MH la lb out (ra ++ ka) rb) (h : ∀ y ∈ rb, ∀ x ∈ ka, Kd y ≤ Kd x) : MH la lb (ka ++ out) ra rb := by
  obtain ⟨u1, u2, u3⟩ := List.pairwise_append.mp m.ua
  refine ⟨?_, Up.app u2 m.up fun x hx y hy => m.le x (by simp [hx]) y hy, u1, m.ub, fun y hy x hx => ?_⟩
  · refine List.Perm.trans ?_ m.perm
    rw [← List.append_assoc]
    refine List.Perm.append_right out ?_
    rw [List.append_assoc, List.append_assoc]
    exact List.Perm.append_left ra List.perm_append_comm
  · rcases List.mem_append.mp hx with hx | hx
    · rcases List.mem_append.mp hy with hy | hy
      · exact u3 y hy x hx
      · exact h y hy x hx
    · refine m.le y ?_ x hx
      rcases List.mem_append.mp hy with hy | hy <;> simp [hy]
theorem MH.runB {kb : List Keyed} (m : MH la lb out ra (rb ++ kb)) (h : ∀ y ∈ ra, ∀ x ∈ kb, Kd y ≤ Kd x) : MH la lb (kb ++ out) ra rb := by
  obtain ⟨u1, u2, u3⟩ := List.pairwise_append.mp m.ub
  refine ⟨?_, Up.app u2 m.up fun x hx y hy => m.le x (by simp [hx]) y hy, m.ua, u1, fun y hy x hx => ?_⟩
  · refine List.Perm.trans ?_ m.perm
    simp
  · rcases List.mem_append.mp hx with hx | hx
    · rcases List.mem_append.mp hy with hy | hy
      · exact h y hy x hx
      · exact u3 y hy x hx
    · refine m.le y ?_ x hx
      rcases List.mem_append.mp hy with hy | hy <;> simp [hy]
theorem MH.endB (m : MH la lb out [] rb) : Merged la lb (rb ++ out) := ⟨m.perm, m.ub.app m.up fun x hx y hy => m.le x (by simp [hx]) y hy⟩
theorem MH.endA (m : MH la lb out ra []) : Merged la lb (ra ++ out) := ⟨by have := m.perm; rwa [List.append_nil] at this, m.ua.app m.up fun x hx y hy => m.le x (by simp [hx]) y hy⟩
theorem MH.firstB (m : MH la lb out ra [x]) (h : ∀ y ∈ ra, Kd x ≤ Kd y) : Merged la lb ([x] ++ (ra ++ out)) := by
  have m' : MH la lb (ra ++ out) [] [x] := MH.runA (ra := []) m fun y hy z hz => by rw [List.mem_singleton.mp hy]; exact h z hz
  exact m'.endB
noncomputable def MY (a b out : Array Keyed) (na nb : Nat) : Prop := MH a.toList b.toList out.toList.reverse (a.toList.take na) (b.toList.take nb)
variable {a b out : Array Keyed} {na nb k : Nat}
theorem take_split (l : List Keyed) {i k : Nat} (h : k ≤ i) : l.take i = l.take k ++ (l.drop k).take (i - k) := by
  conv => lhs; rw [show i = k + (i - k) by omega, List.take_add]
theorem ext_zero (l : Array Keyed) (k : Nat) : (l.extract 0 k).toList = l.toList.take k := by rw [ext_toList, List.drop_zero, Nat.sub_zero]
theorem take_last {l : Array Keyed} {i : Nat} (h : i < l.size) : l.toList.take (i + 1) = l.toList.take i ++ [l[i]] := by
  rw [List.take_add_one, List.getElem?_eq_getElem (by simpa using h)]
  simp
theorem mem_take {l : Array Keyed} {i : Nat} {x : Keyed} (h : x ∈ l.toList.take i) : ∃ j, j < i ∧ ∃ hj : j < l.size, x = l[j] := by
  obtain ⟨j, hj, rfl⟩ := List.mem_iff_getElem.mp h
  rw [List.length_take, Array.length_toList] at hj
  exact ⟨j, by omega, by omega, by simp⟩
theorem MY.runA (m : MY a b out na nb) (hk : k ≤ na) (h : ∀ y ∈ b.toList.take nb, ∀ j, k ≤ j → j < na → ∀ hj : j < a.size, Kd y ≤ Kd a[j]) : MY a b (out ++ (a.extract k na).reverse) k nb := by
  unfold MY at m ⊢
  rw [Array.toList_append, List.reverse_append, Array.toList_reverse, List.reverse_reverse, ext_toList]
  rw [take_split a.toList hk] at m
  refine MH.runA m fun y hy x hx => ?_
  obtain ⟨j, hj, hj2, rfl⟩ := mem_take_drop hx
  exact h y hy _ (by omega) (by omega) hj2
theorem MY.runB (m : MY a b out na nb) (hk : k ≤ nb) (h : ∀ y ∈ a.toList.take na, ∀ j, k ≤ j → j < nb → ∀ hj : j < b.size, Kd y ≤ Kd b[j]) : MY a b (out ++ (b.extract k nb).reverse) na k := by
  unfold MY at m ⊢
  rw [Array.toList_append, List.reverse_append, Array.toList_reverse, List.reverse_reverse, ext_toList]
  rw [take_split b.toList hk] at m
  refine MH.runB m fun y hy x hx => ?_
  obtain ⟨j, hj, hj2, rfl⟩ := mem_take_drop hx
  exact h y hy _ (by omega) (by omega) hj2
theorem MY.stepA (m : MY a b out (na + 1) nb) (hi : na < a.size) (h : ∀ y ∈ b.toList.take nb, Kd y ≤ Kd a[na]) : MY a b (out.push a[na]) na nb := by
  unfold MY at m ⊢
  rw [Array.toList_push, List.reverse_append]
  rw [take_last hi] at m
  exact MH.runA m fun y hy x hx => by rw [List.mem_singleton.mp hx]; exact h y hy
theorem MY.stepB (m : MY a b out na (nb + 1)) (hi : nb < b.size) (h : ∀ y ∈ a.toList.take na, Kd y ≤ Kd b[nb]) : MY a b (out.push b[nb]) na nb := by
  unfold MY at m ⊢
  rw [Array.toList_push, List.reverse_append]
  rw [take_last hi] at m
  exact MH.runB m fun y hy x hx => by rw [List.mem_singleton.mp hx]; exact h y hy
theorem MY.upA (m : MY a b out (na + 1) nb) (hi : na < a.size) : ∀ y ∈ a.toList.take (na + 1), Kd y ≤ Kd a[na] := fun y hy => by
  have u := m.ua
  rw [take_last hi] at u hy
  obtain ⟨_, _, u3⟩ := List.pairwise_append.mp u
  rcases List.mem_append.mp hy with hy | hy
  · exact u3 y hy _ (.head _)
  · rw [List.mem_singleton.mp hy]; exact Int.le_refl _
theorem MY.upB (m : MY a b out na (nb + 1)) (hi : nb < b.size) : ∀ y ∈ b.toList.take (nb + 1), Kd y ≤ Kd b[nb] := fun y hy => by
  have u := m.ub
  rw [take_last hi] at u hy
  obtain ⟨_, _, u3⟩ := List.pairwise_append.mp u
  rcases List.mem_append.mp hy with hy | hy
  · exact u3 y hy _ (.head _)
  · rw [List.mem_singleton.mp hy]; exact Int.le_refl _
theorem MY.winA (m : MY a b out (na + 1) (nb + 1)) (hi : na < a.size) (hj : nb < b.size) (h : Kd b[nb] < Kd a[na]) : MY a b (out.push a[na]) na (nb + 1) := m.stepA hi fun y hy => by
  have := m.upB hj y hy
  omega
theorem MY.winB (m : MY a b out (na + 1) (nb + 1)) (hi : na < a.size) (hj : nb < b.size) (h : ¬ Kd b[nb] < Kd a[na]) : MY a b (out.push b[nb]) (na + 1) nb := m.stepB hj fun y hy => by
  have := m.upA hi y hy
  omega
theorem MY.doneA (m : MY a b out na nb) (h : na = 0) : Merged a.toList b.toList (a.extract 0 na ++ b.extract 0 nb ++ out.reverse).toList := by
  subst h
  unfold MY at m
  rw [Array.toList_append, Array.toList_append, ext_zero, ext_zero, Array.toList_reverse, List.take_zero, List.nil_append]
  rw [List.take_zero] at m
  exact m.endB
theorem MY.doneB (m : MY a b out na nb) (h : nb = 0) : Merged a.toList b.toList (a.extract 0 na ++ b.extract 0 nb ++ out.reverse).toList := by
  subst h
  unfold MY at m
  rw [Array.toList_append, Array.toList_append, ext_zero, ext_zero, Array.toList_reverse, List.take_zero, List.append_nil]
  rw [List.take_zero] at m
  exact m.endA
theorem MY.firstB (m : MY a b out na nb) (h : nb = 1) (hi : 0 < b.size) (hf : ∀ x ∈ a.toList, Kd b[0] ≤ Kd x) : Merged a.toList b.toList (b.extract 0 nb ++ a.extract 0 na ++ out.reverse).toList := by
  subst h
  unfold MY at m
  rw [Array.toList_append, Array.toList_append, ext_zero, ext_zero, Array.toList_reverse]
  have e := take_last hi
  rw [Nat.zero_add, List.take_zero, List.nil_append] at e
  rw [e] at m ⊢
  rw [List.append_assoc]
  exact m.firstB fun y hy => hf y (List.mem_of_mem_take hy)
end

section
variable {prog : Program} {w : World} {A : Around} {E : Value → Shared → Prop} {s : Shared} {a₀ : Array Keyed} {pn : Array (Nat × Nat × Nat)}
variable {γ : Type} {x : StateT SortSt Sem γ} {Q : γ → SortSt → Prop} {st z : SortSt}
noncomputable def mergeHi' : Array Keyed → Array Keyed → StateT SortSt Sem (Array Keyed) := sortPriv% PySem.Builtin.mergeHi
theorem gap2 {jp : Unit → Nat → Array Keyed → StateT SortSt Sem γ} (P : Nat → Array Keyed → Prop) (tail : ∀ i o, P i o → wpS (model prog w) A E s (jp () i o) Q st) (use : (∀ i o, P i o → wpS (model prog w) A E s (jp () i o) Q st) → wpS (model prog w) A E s x Q st) : wpS (model prog w) A E s x Q st := use tail
theorem galC {left : Bool} {ka arr : Array Keyed} {j n : Nat} {g : Option Nat → StateT SortSt Sem γ} (hk : kindOf st = oneType') (hkk : ∀ p ∈ ka.toList, KeyInt p) (hall : ∀ p ∈ arr.toList, KeyInt p) (hj : j < ka.size) (h0 : 0 < n) (hn : n ≤ arr.size) (ua : Up arr.toList)
    (h : ∀ m, (∀ y ∈ arr.toList.take m, Kd y ≤ Kd ka[j]) → (∀ t, m ≤ t → t < n → ∀ ht : t < arr.size, Kd ka[j] ≤ Kd arr[t]) → m ≤ n → wpS (model prog w) A E s (g (some m)) Q st) :
    wpS (model prog w) A E s (elem' ka j >>= fun x => gallop' left x arr 0 n (n - 1) >>= g) Q st := by
  refine elemB hj (wpS_bind (gallop_ok hk (hkk _ (by simp)) hall (by omega) (by omega) (ua.R (by omega)) _ (fun _ => rfl) fun k k1 k2 k3 => h k (fun y hy => ?_) (fun t h1 h2 h3 => ?_) k1))
  · obtain ⟨t, ht, ht2, rfl⟩ := mem_take hy
    have := k2 t ht
    rw [Nat.zero_add, Kof ht2] at this
    cases left
    · rw [if_neg (by decide), Bool.not_eq_true'] at this
      exact Int.not_lt.mp (of_decide_eq_false this)
    · rw [if_pos rfl] at this
      exact Int.le_of_lt (of_decide_eq_true this)
  · have := k3 t h1 h2
    rw [Nat.zero_add, Kof h3] at this
    cases left
    · rw [if_neg (by decide), Bool.not_eq_false'] at this
      exact Int.le_of_lt (of_decide_eq_true this)
    · rw [if_pos rfl] at this
      exact Int.not_lt.mp (of_decide_eq_false this)
theorem pre_lt {n m : Nat} (h0 : 0 < n) (h : n ≤ m) : n - 1 < m := Nat.lt_of_lt_of_le (Nat.sub_lt h0 Nat.one_pos) h
theorem MY.preA {a b out : Array Keyed} {na nb : Nat} (m : MY a b out na nb) (h0 : 0 < na) (hi : na ≤ a.size) (h : ∀ y ∈ b.toList.take nb, Kd y ≤ Kd (a[na - 1]'(pre_lt h0 hi))) : MY a b (out.push (a[na - 1]'(pre_lt h0 hi))) (na - 1) nb := by
  cases na with
  | zero => cases h0
  | succ n => exact m.stepA hi h
theorem MY.preB {a b out : Array Keyed} {na nb : Nat} (m : MY a b out na nb) (h0 : 0 < nb) (hi : nb ≤ b.size) (h : ∀ y ∈ a.toList.take na, Kd y ≤ Kd (b[nb - 1]'(pre_lt h0 hi))) : MY a b (out.push (b[nb - 1]'(pre_lt h0 hi))) na (nb - 1) := by
  cases nb with
  | zero => cases h0
  | succ n => exact m.stepB hi h
theorem MY.topA {a b out : Array Keyed} {na nb : Nat} (m : MY a b out na nb) (h0 : 0 < na) (hi : na ≤ a.size) : ∀ y ∈ a.toList.take na, Kd y ≤ Kd (a[na - 1]'(pre_lt h0 hi)) := by
  cases na with
  | zero => cases h0
  | succ n => exact m.upA hi
theorem MY.topB {a b out : Array Keyed} {na nb : Nat} (m : MY a b out na nb) (h0 : 0 < nb) (hi : nb ≤ b.size) : ∀ y ∈ b.toList.take nb, Kd y ≤ Kd (b[nb - 1]'(pre_lt h0 hi)) := by
  cases nb with
  | zero => cases h0
  | succ n => exact m.upB hi
noncomputable def MhiS (a b : Array Keyed) : Prop := ∀ {prog : Program} {w : World} {A : Around} {E : Value → Shared → Prop} {s : Shared} {st : SortSt} {Q : Array Keyed → SortSt → Prop}, kindOf st = oneType' → (∀ p ∈ a.toList, KeyInt p) → (∀ p ∈ b.toList, KeyInt p) → Up a.toList → Up b.toList →
    ∀ (ha1 : 0 < a.size) (hb1 : 0 < b.size), (∀ x ∈ a.toList, Kd b[0] ≤ Kd x) → (∀ y ∈ b.toList, Kd y ≤ Kd (a[a.size - 1]'(pre_lt ha1 (Nat.le_refl _)))) →
    (∀ out st', Like st st' → Merged a.toList b.toList out.toList → Q out st') → wpS (model prog w) A E s (mergeHi' a b) Q st
noncomputable def abH : Array Keyed × Array Keyed := @Classical.epsilon _ ⟨(#[], #[])⟩ fun c => ¬ MhiS c.1 c.2
@[irreducible] noncomputable def aH : Array Keyed := abH.1
@[irreducible] noncomputable def bH : Array Keyed := abH.2
structure HS (st y : SortSt) (T n : Nat) (r : Option (Array Keyed)) (out : Array Keyed) (na nb : Nat) : Prop where
  r0 : r = none
  like : Like st y
  m : MY aH bH out na nb
  d1 : 0 < na
  d2 : na < aH.size
  d3 : 1 < nb
  d4 : nb ≤ bH.size
  d5 : na + nb + n ≤ T
noncomputable def QH (st y : SortSt) (T n : Nat) (r : Option (Array Keyed)) (out : Array Keyed) (na nb : Nat) : Prop := match r with
  | some x => Like st y ∧ Merged aH.toList bH.toList x.toList
  | none => HS st y T n none out na nb
theorem QH.ret {T n : Nat} {x out : Array Keyed} {na nb : Nat} (h : Like st z) (m : Merged aH.toList bH.toList x.toList) : QH st z T n (some x) out na nb := ⟨h, m⟩
theorem QH.of {T n n' : Nat} {r : Option (Array Keyed)} {out : Array Keyed} {na nb : Nat} (h : HS st z T n r out na nb) (hn : n' ≤ n) : QH st z T n' r out na nb := by
  have e := h.r0
  subst e
  exact ⟨rfl, h.like, h.m, h.d1, h.d2, h.d3, h.d4, Nat.le_trans (Nat.add_le_add_left hn _) h.d5⟩
theorem mhi_c : MhiS aH bH := by
  (refine (?zdG2 : CloT _ ?zdH2); refine @(allE7 (i := ⟨(default, world0, {}, fun _ _ => True, {}, sst0, fun _ _ => True)⟩) ?_); apply ?zdH2; intro prog w A E s st Q)
  intro hk ha hb ua ub ha1 hb1 hf hl h
  refine wpS_bind (wpS_lift (wpAny_rule ⟨rfl, ?_⟩))
  extract_lets +onlyGivenNames -merge -underBinder total done firstOfB na nb
  have dn : na < aH.size := pre_lt ha1 (Nat.le_refl _)
  refine elemB dn ?_
  extract_lets +onlyGivenNames -merge -underBinder out
  have m0 : MY aH bH #[] aH.size bH.size := by
    have e1 : aH.toList.take aH.size = aH.toList := List.take_of_length_le (by simp)
    have e2 : bH.toList.take bH.size = bH.toList := List.take_of_length_le (by simp)
    unfold MY
    rw [e1, e2]
    exact ⟨by simp, List.Pairwise.nil, ua, ub, fun y hy x hx => by simp at hx⟩
  have m1 : MY aH bH out na nb := m0.preA ha1 (Nat.le_refl _) (fun y hy => hl y (List.mem_of_mem_take hy))
  refine wpS_if (fun c1 => wpS_pure (h _ _ (Like.rfl' st) (m1.doneA (eq_of_beq c1)))) (fun c1 => ?_)
  refine wpS_if (fun c2 => wpS_pure (h _ _ (Like.rfl' st) (m1.firstB (eq_of_beq c2) hb1 hf))) (fun c2 => ?_)
  have h0 : HS st st (aH.size + bH.size) 1 none out na nb := ⟨rfl, Like.rfl' st, m1, Nat.pos_of_ne_zero (neb c1), dn, Nat.lt_of_le_of_ne hb1 (Ne.symm (neb c2)), Nat.le_refl _, by show aH.size - 1 + bH.size + 1 ≤ _; omega⟩
  clear m0 m1 c1 c2
  refine wpS_bind (wpS_get ?_)
  extract_lets +onlyGivenNames -merge -underBinder mg
  refine wpS_bind (wpS_mono (wpS_forRange (I := fun x c y => HS st y (aH.size + bH.size) (x + 1) c.1 c.2.2.2.1 c.2.1 c.2.2.1) (Q := fun c y => ∃ r, c.1 = some r ∧ Like st y ∧ Merged aH.toList bH.toList r.toList) ?outer ?ofin h0) ?opost)
  case ofin =>
    intro c y h
    have h3 := Nat.le_trans (Nat.add_le_add_left (Nat.succ_le_succ (Nat.le_max_right 0 (aH.size + bH.size))) _) h.d5
    omega
  case opost =>
    intro c y hq
    extract_lets +onlyGivenNames -merge -underBinder r
    obtain ⟨x, hr, hL, hm⟩ := hq
    have hr' : r = some x := hr
    clear_value r
    subst hr'
    exact wpS_pure (h _ _ hL hm)
  case outer =>
    intro x c y _ _ h
    extract_lets +onlyGivenNames -merge -underBinder s1 na s2 nb s3 out mg ac bc
    refine wpS_bind (wpS_mono (wpS_forRange (I := fun x c y => HS st y (na + nb) x c.1 c.2.2.2.1 c.2.1 c.2.2.1) (Q := fun c y => QH st y (na + nb) 1 c.1 c.2.2.2.1 c.2.1 c.2.2.1) ?in1 ?fin1 ⟨rfl, h.like, h.m, h.d1, h.d2, h.d3, h.d4, Nat.le_refl _⟩) ?post1)
    case fin1 => exact fun c y h => QH.of h (Nat.le_trans (Nat.le_trans ha1 (Nat.le_add_right _ _)) (Nat.le_max_right 0 _))
    case in1 =>
      intro x c y _ _ h
      extract_lets +onlyGivenNames -merge -underBinder s1 na' s2 nb' s3 out' s4 ac bc
      have m : MY aH bH out' na' nb' := h.m
      have d1 : 0 < na' := h.d1
      have d2 : na' < aH.size := h.d2
      have d3 : 1 < nb' := h.d3
      have d4 : nb' ≤ bH.size := h.d4
      have d5 : na' + nb' + x ≤ na + nb := h.d5
      refine cmpB (h.like.kind.trans hk) ha hb (pre_lt d1 (Nat.le_of_lt d2)) (pre_lt (Nat.lt_of_succ_lt d3) d4) (fun hw => wpS_ifp rfl ?_) (fun hw => wpS_ifn (fun e => by cases e) ?_)
      · extract_lets +onlyGivenNames -merge -underBinder na2
        refine elemB (pre_lt d1 (Nat.le_of_lt d2)) ?_
        extract_lets +onlyGivenNames -merge -underBinder out2 ac2 bc2
        have m2 : MY aH bH out2 na2 nb' := m.preA d1 (Nat.le_of_lt d2) fun y hy => Int.le_trans (m.topB (Nat.lt_of_succ_lt d3) d4 y hy) (Int.le_of_lt hw)
        refine wpS_if (fun c3 => wpS_pure (QH.ret h.like (m2.doneA (eq_of_beq c3)))) (fun c3 => ?_)
        have e : HS st y (na + nb) (x + 1) none out2 na2 nb' := ⟨rfl, h.like, m2, Nat.pos_of_ne_zero (neb c3), Nat.lt_of_le_of_lt (Nat.sub_le _ _) d2, d3, d4, n_p3 d1 d5⟩
        exact wpS_if (fun c4 => wpS_pure (QH.of e (Nat.succ_le_succ (Nat.zero_le x)))) (fun c4 => wpS_pure e)
      · extract_lets +onlyGivenNames -merge -underBinder nb2
        refine elemB (pre_lt (Nat.lt_of_succ_lt d3) d4) ?_
        extract_lets +onlyGivenNames -merge -underBinder out2 bc2 ac2
        have m2 : MY aH bH out2 na' nb2 := m.preB (Nat.lt_of_succ_lt d3) d4 fun y hy => Int.le_trans (m.topA d1 (Nat.le_of_lt d2) y hy) (Int.not_lt.mp hw)
        refine wpS_if (fun c3 => wpS_pure (QH.ret h.like (m2.firstB (eq_of_beq c3) hb1 hf))) (fun c3 => ?_)
        have e : HS st y (na + nb) (x + 1) none out2 na' nb2 := ⟨rfl, h.like, m2, d1, d2, Nat.lt_of_le_of_ne (Nat.le_sub_of_add_le d3) (Ne.symm (neb c3)), Nat.le_trans (Nat.sub_le _ _) d4, n_p2 (Nat.lt_of_succ_lt d3) d5⟩
        exact wpS_if (fun c4 => wpS_pure (QH.of e (Nat.succ_le_succ (Nat.zero_le x)))) (fun c4 => wpS_pure e)
    case post1 =>
      intro c y hq
      have h3 : na + nb + (x + 1) ≤ aH.size + bH.size := h.d5
      clear h
      extract_lets +onlyGivenNames -merge -underBinder r s1 na' s2 nb' s3 out' s4 ac bc
      have hq : QH st y (na + nb) 1 r out' na' nb' := hq
      clear_value r
      rcases r with _ | r
      rotate_left
      · exact wpS_pure ⟨_, rfl, hq.1, hq.2⟩
      have p : HS st y (na + nb) 1 none out' na' nb' := hq
      clear hq
      refine wpS_bind (wpS_lift (wpAny_rule ⟨rfl, ?_⟩))
      extract_lets +onlyGivenNames -merge -underBinder mg2
      refine wpS_bind (wpS_mono (wpS_forRange (I := fun _ c y => HS st y (na + nb) 1 c.1 c.2.2.2.1 c.2.1 c.2.2.1) (Q := fun c y => QH st y (na + nb) 1 c.1 c.2.2.2.1 c.2.1 c.2.2.1) ?in2 (fun c y h => QH.of h (Nat.le_refl _)) p) ?post2)
      case post2 =>
        intro c y hq
        extract_lets +onlyGivenNames -merge -underBinder r s1 na3 s2 nb3 s3 out3 s4 mg3
        have hq : QH st y (na + nb) 1 r out3 na3 nb3 := hq
        clear_value r
        rcases r with _ | r
        rotate_left
        · exact wpS_pure ⟨_, rfl, hq.1, hq.2⟩
        have p : HS st y (na + nb) 1 none out3 na3 nb3 := hq
        clear hq
        exact wpS_set p.like fun z' hL' => wpS_pure ⟨rfl, hL', p.m, p.d1, p.d2, p.d3, p.d4, by
          have h4 : na3 + nb3 + 1 ≤ na + nb := p.d5
          show na3 + nb3 + (x + 1 + 1) ≤ _
          omega⟩
      case in2 =>
        intro x c y _ _ h
        extract_lets +onlyGivenNames -merge -underBinder s1 i s2 j s3 out s4 mg s5 ac bc jp
        have m : MY aH bH out i j := h.m
        have d1 : 0 < i := h.d1
        have d2 : i < aH.size := h.d2
        have d3 : 1 < j := h.d3
        have d4 : j ≤ bH.size := h.d4
        have d5 : i + j + 1 ≤ na + nb := h.d5
        have d6 : 0 < j := Nat.lt_of_succ_lt d3
        refine mgU (jp := jp) fun g => wpS_set h.like fun y3 hL => galC (hL.kind.trans hk) hb ha (pre_lt d6 d4) d1 (Nat.le_of_lt d2) ua fun k k1 k2 k3 => ?_
        dsimp -zeta only
        extract_lets +onlyGivenNames -merge -underBinder kk ac jp2
        have m2 := m.runA (k := k) k3 fun y hy t h1 h2 h3 => Int.le_trans (m.topB d6 d4 y hy) (k2 t h1 h2 h3)
        refine gap2 (jp := jp2) (fun i o => MY aH bH o i j ∧ 0 < i ∧ i < aH.size ∧ i + j + 1 ≤ na + nb ∧ ∀ y ∈ aH.toList.take i, Kd y ≤ Kd (bH[j - 1]'(pre_lt d6 d4))) (fun i1 o1 q => ?_) fun hj => wpS_if (fun c5 => ?_) fun c5 => hj _ _ ⟨m, d1, d2, d5, by rw [Nat.le_antisymm (Nat.le_of_sub_eq_zero (Nat.eq_zero_of_not_pos c5)) k3]; exact k1⟩
        rotate_left
        · extract_lets +onlyGivenNames -merge -underBinder out4 i4
          exact wpS_if (fun c => wpS_pure (QH.ret hL (m2.doneA (eq_of_beq c)))) fun c6 => hj _ _ ⟨m2, Nat.pos_of_ne_zero (neb c6), Nat.lt_of_le_of_lt k3 d2, Nat.le_trans (Nat.succ_le_succ (Nat.add_le_add_right k3 j)) d5, k1⟩
        clear m2 m d1 d2 d5 k1 k2 k3
        have d1 := q.2.1
        have d2 := q.2.2.1
        refine elemB (pre_lt d6 d4) ?_
        extract_lets +onlyGivenNames -merge -underBinder out5
        have m3 : MY aH bH out5 i1 (j - 1) := q.1.preB d6 d4 q.2.2.2.2
        refine wpS_if (fun c => wpS_pure (QH.ret hL (m3.firstB (eq_of_beq c) hb1 hf))) (fun c7 => ?_)
        have d7 : 1 < (j - 1) := Nat.lt_of_le_of_ne (Nat.le_sub_of_add_le d3) (Ne.symm (neb c7))
        have d8 : (j - 1) ≤ bH.size := Nat.le_trans (Nat.sub_le _ _) d4
        have d9 : i1 + (j - 1) + 2 ≤ na + nb := n_p1 d6 q.2.2.2.1
        clear q c7
        refine galC (hL.kind.trans hk) ha hb (pre_lt d1 (Nat.le_of_lt d2)) (Nat.lt_of_succ_lt d7) d8 ub fun l l1 l2 l3 => ?_
        dsimp -zeta only
        extract_lets +onlyGivenNames -merge -underBinder kk bc jp3
        have m4 := m3.runB (k := l) l3 fun y hy t h1 h2 h3 => Int.le_trans (m3.topA d1 (Nat.le_of_lt d2) y hy) (l2 t h1 h2 h3)
        refine gap2 (jp := jp3) (fun j o => MY aH bH o i1 j ∧ 1 < j ∧ j ≤ bH.size ∧ i1 + j + 2 ≤ na + nb ∧ ∀ y ∈ bH.toList.take j, Kd y ≤ Kd (aH[i1 - 1]'(pre_lt d1 (Nat.le_of_lt d2)))) (fun j2 o2 q => ?_) fun hj => wpS_if (fun c8 => ?_) fun c8 => hj _ _ ⟨m3, d7, d8, d9, by rw [Nat.le_antisymm (Nat.le_of_sub_eq_zero (Nat.eq_zero_of_not_pos c8)) l3]; exact l1⟩
        rotate_left
        · extract_lets +onlyGivenNames -merge -underBinder out6 j6
          exact wpS_if (fun c => wpS_pure (QH.ret hL (m4.firstB (eq_of_beq c) hb1 hf))) fun c9 => wpS_if (fun c => wpS_pure (QH.ret hL (m4.doneB (eq_of_beq c)))) fun c10 => hj _ _ ⟨m4, Nat.lt_of_le_of_ne (Nat.pos_of_ne_zero (neb c10)) (Ne.symm (neb c9)), Nat.le_trans l3 d8, Nat.le_trans (Nat.add_le_add_right (Nat.add_le_add_left l3 i1) 2) d9, l1⟩
        clear m4 m3 d7 d8 d9 l1 l2 l3
        refine elemB (pre_lt d1 (Nat.le_of_lt d2)) ?_
        extract_lets +onlyGivenNames -merge -underBinder out7
        have m5 : MY aH bH out7 (i1 - 1) j2 := q.1.preA d1 (Nat.le_of_lt d2) q.2.2.2.2
        refine wpS_if (fun c => wpS_pure (QH.ret hL (m5.doneA (eq_of_beq c)))) (fun c9 => ?_)
        have e : HS st y3 (na + nb) 1 none out7 (i1 - 1) j2 := ⟨rfl, hL, m5, Nat.pos_of_ne_zero (neb c9), Nat.lt_of_le_of_lt (Nat.sub_le _ _) d2, q.2.1, q.2.2.1, Nat.le_trans (Nat.succ_le_succ (Nat.add_le_add_right (Nat.sub_le i1 1) j2)) (Nat.le_of_succ_le q.2.2.2.1)⟩
        exact wpS_if (fun c => wpS_pure e) fun c => wpS_pure e
theorem mhi_all (a b : Array Keyed) : MhiS a b := by
  apply Classical.byContradiction
  intro hn
  have h := @Classical.epsilon_spec _ (fun c : Array Keyed × Array Keyed => ¬ MhiS c.1 c.2) ⟨(a, b), hn⟩
  have c := @mhi_c
  unfold aH bH abH at c
  exact h @c
theorem mhi_ok {st : SortSt} {a b : Array Keyed} {Q : Array Keyed → SortSt → Prop} (hk : kindOf st = oneType') (ha : ∀ p ∈ a.toList, KeyInt p) (hb : ∀ p ∈ b.toList, KeyInt p) (ua : Up a.toList) (ub : Up b.toList)
    (ha1 : 0 < a.size) (hb1 : 0 < b.size) (hf : ∀ x ∈ a.toList, Kd b[0] ≤ Kd x) (hl : ∀ y ∈ b.toList, Kd y ≤ Kd a[a.size - 1])
    (h : ∀ out st', Like st st' → Merged a.toList b.toList out.toList → Q out st') : wpS (model prog w) A E s (mergeHi' a b) Q st :=
  mhi_all a b hk ha hb ua ub ha1 hb1 hf hl h
end


section
theorem set_run (sa : Nat) : ∀ (l : List Keyed) (k : Nat) (xs : Array Keyed), sa + k + l.length ≤ xs.size →
    ((l.zipIdx k).foldl (fun (a : Array Keyed) (x : Keyed × Nat) => a.setIfInBounds (sa + x.2) x.1) xs).toList = xs.toList.take (sa + k) ++ l ++ xs.toList.drop (sa + k + l.length)
  | [], k, xs, _ => by simp
  | p :: l, k, xs, h => by
    rw [List.length_cons] at h
    rw [List.zipIdx_cons, List.foldl_cons]
    have hs : (xs.setIfInBounds (sa + k) p).size = xs.size := by simp
    rw [set_run sa l (k + 1) (xs.setIfInBounds (sa + k) p) (by rw [hs]; omega)]
    rw [Array.toList_setIfInBounds, List.length_cons]
    have e1 : (xs.toList.set (sa + k) p).take (sa + (k + 1)) = xs.toList.take (sa + k) ++ [p] := by
      rw [show sa + (k + 1) = sa + k + 1 by omega, List.take_add_one, List.getElem?_set_self (by simp; omega), List.take_set_of_le (Nat.le_refl _)]
      rfl
    have e2 : (xs.toList.set (sa + k) p).drop (sa + (k + 1) + l.length) = xs.toList.drop (sa + k + (l.length + 1)) := by
      rw [List.drop_set_of_lt (by omega)]
      congr 1
      omega
    rw [e1, e2, List.append_assoc, List.append_assoc, List.append_assoc]
    rfl
end
section
theorem glue {L1 L2 L3 L4 M : List Keyed} (u12 : Up (L1 ++ L2)) (u34 : Up (L3 ++ L4)) (h13 : ∀ x ∈ L1, ∀ y ∈ L3 ++ L4, Kd x ≤ Kd y) (h24 : ∀ x ∈ L2, ∀ y ∈ L4, Kd x ≤ Kd y) (m : Merged L2 L3 M) :
    (L1 ++ M ++ L4).Perm (L1 ++ L2 ++ (L3 ++ L4)) ∧ Up (L1 ++ M ++ L4) := by
  obtain ⟨a1, a2, a3⟩ := List.pairwise_append.mp u12
  obtain ⟨b1, b2, b3⟩ := List.pairwise_append.mp u34
  have mem : ∀ x ∈ M, x ∈ L2 ∨ x ∈ L3 := fun x hx => List.mem_append.mp (m.1.mem_iff.mp hx)
  refine ⟨?_, Up.app (Up.app a1 m.2 fun x hx y hy => ?_) b2 fun x hx y hy => ?_⟩
  · rw [List.append_assoc, List.append_assoc L1, ← List.append_assoc L2]
    exact List.Perm.append_left L1 (List.Perm.append_right L4 m.1)
  · rcases mem y hy with h | h
    · exact a3 x hx y h
    · exact h13 x hx y (List.mem_append_left _ h)
  · rcases List.mem_append.mp hx with hx | hx
    · exact h13 x hx y (List.mem_append_right _ hy)
    · rcases mem x hx with h | h
      · exact h24 x h y hy
      · exact b3 x h y hy
end
section
variable {prog : Program} {w : World} {A : Around} {E : Value → Shared → Prop} {s : Shared} {a₀ : Array Keyed}
theorem pend_one {x y z : Nat × Nat × Nat} : ((#[x, y]).setIfInBounds 0 z).eraseIdxIfInBounds (0 + 1) = #[z] := by
  apply Array.ext'
  simp [Array.eraseIdxIfInBounds]
theorem two_up {xs : Array Keyed} {n1 n2 : Nat} (s1 : SortedR xs 0 n1) (s2 : SortedR xs n1 (n1 + n2)) (h : ∀ i j, i < n1 → n1 ≤ j → j < n1 + n2 → PyProof.Rows.K xs i ≤ PyProof.Rows.K xs j) : SortedR xs 0 (n1 + n2) := fun p q h1 h2 h3 => by
  rcases Nat.lt_or_ge q n1 with g | g
  · exact s1 p q h1 h2 g
  · rcases Nat.lt_or_ge p n1 with g' | g'
    · exact h p q g' g h3
    · exact s2 p q g' h2 h3
theorem R_up {xs : Array Keyed} {i j : Nat} (hj : j ≤ xs.size) (h : SortedR xs i j) : Up ((xs.toList.drop i).take (j - i)) := List.pairwise_iff_getElem.mpr fun p q hp hq hpq => by
  rw [List.length_take, List.length_drop, Array.length_toList] at hp hq
  have gq := Nat.add_lt_of_lt_sub' (Nat.lt_of_lt_of_le hq (Nat.min_le_right _ _))
  have gp := Nat.lt_trans (Nat.add_lt_add_left hpq i) gq
  have := h (i + p) (i + q) (Nat.le_add_right _ _) (Nat.add_le_add_left (Nat.le_of_lt hpq) i) (Nat.add_lt_of_lt_sub' (Nat.lt_of_lt_of_le hq (Nat.min_le_left _ _)))
  rw [Kof gp, Kof gq] at this
  simpa using this
theorem wpS_put1 {γ : Type} {st z' : SortSt} {f : PUnit → StateT SortSt Sem γ} {Q : γ → SortSt → Prop} (h : ∀ z, z = z' → wpS (model prog w) A E s (f ⟨⟩) Q z) : wpS (model prog w) A E s ((set z' : StateT SortSt Sem PUnit) >>= f) Q st := wpS_bind (wpS_modify (f := fun _ => z') (h z' rfl))
theorem gapM {β γ : Type} {jp : β → StateT SortSt Sem γ} {x : StateT SortSt Sem γ} {Q : γ → SortSt → Prop} {st : SortSt} (P : β → SortSt → Prop) (tail : ∀ m z, P m z → wpS (model prog w) A E s (jp m) Q z) (use : (∀ m z, P m z → wpS (model prog w) A E s (jp m) Q z) → wpS (model prog w) A E s x Q st) : wpS (model prog w) A E s x Q st := use tail
theorem galF0 {γ : Type} {st : SortSt} {arr : Array Keyed} {j n : Nat} {g : Option Nat → StateT SortSt Sem γ} {Q : γ → SortSt → Prop} (hk : kindOf st = oneType') (hall : ∀ p ∈ arr.toList, KeyInt p) (hj : j < arr.size) (hsz : n ≤ arr.size) (hh : 0 < n) (hs : SortedR arr 0 n)
    (h : ∀ m, m ≤ n → (∀ t, t < m → PyProof.Rows.K arr t ≤ PyProof.Rows.K arr j) → (∀ t, m ≤ t → t < n → PyProof.Rows.K arr j ≤ PyProof.Rows.K arr t) → wpS (model prog w) A E s (g (some m)) Q st) :
    wpS (model prog w) A E s (elem' arr j >>= fun x => gallop' false x arr 0 n 0 >>= g) Q st := by
  refine elemB hj (wpS_bind (gallop_ok hk (hall _ (by simp)) hall (by omega) hh (by rw [Nat.zero_add]; exact hs) _ (fun _ => rfl) fun m m1 m2 m3 => h m m1 (fun t ht => ?_) (fun t h1 h2 => ?_)))
  · have := m2 t ht
    rw [if_neg (by decide), Nat.zero_add, Bool.not_eq_true'] at this
    rw [Kof hj]
    exact Int.not_lt.mp (of_decide_eq_false this)
  · have := m3 t h1 h2
    rw [if_neg (by decide), Nat.zero_add, Bool.not_eq_false'] at this
    rw [Kof hj]
    exact Int.le_of_lt (of_decide_eq_true this)
theorem galT {γ : Type} {st : SortSt} {arr : Array Keyed} {i j base n hint : Nat} {g : Option Nat → StateT SortSt Sem γ} {Q : γ → SortSt → Prop} (hk : kindOf st = oneType') (hall : ∀ p ∈ arr.toList, KeyInt p) (hij : i = j) (hj : j < arr.size) (hsz : base + n ≤ arr.size) (hh : hint < n) (hs : SortedR arr base (base + n))
    (h : ∀ m, m ≤ n → (∀ t, t < m → PyProof.Rows.K arr (base + t) < PyProof.Rows.K arr j) → (∀ t, m ≤ t → t < n → PyProof.Rows.K arr j ≤ PyProof.Rows.K arr (base + t)) → wpS (model prog w) A E s (g (some m)) Q st) :
    wpS (model prog w) A E s (elem' arr i >>= fun x => gallop' true x arr base n hint >>= g) Q st := by
  subst hij
  refine elemB hj (wpS_bind (gallop_ok hk (hall _ (by simp)) hall hsz hh hs _ (fun _ => rfl) fun m m1 m2 m3 => h m m1 (fun t ht => ?_) (fun t h1 h2 => ?_)))
  · have := m2 t ht
    rw [if_pos rfl] at this
    rw [Kof hj]
    exact of_decide_eq_true this
  · have := m3 t h1 h2
    rw [if_pos rfl] at this
    rw [Kof hj]
    exact Int.not_lt.mp (of_decide_eq_false this)
theorem mat_ok {st : SortSt} {n1 n2 p1 p2 : Nat} {Q : Bool → SortSt → Prop} (h0 : IntKeys a₀) (hB : SB a₀ #[(0, n1, p1), (n1, n2, p2)] st) (hn : n1 + n2 = a₀.size) (h1 : 0 < n1) (h2 : 0 < n2)
    (s1 : SortedR (arrOf st) 0 n1) (s2 : SortedR (arrOf st) n1 (n1 + n2))
    (h : ∀ st', SB a₀ #[(0, n1 + n2, p1)] st' → SortedR (arrOf st') 0 (n1 + n2) → Q true st') : wpS (model prog w) A E s (mergeAt' 0) Q st := by
  have hz : (arrOf st).size = n1 + n2 := hB.size.trans hn.symm
  have hall : ∀ p ∈ (arrOf st).toList, KeyInt p := fun p hp => h0 p ((Array.perm_iff_toList_perm.mp hB.perm).mem_iff.mp hp)
  have l1 : n1 < (arrOf st).size := hz ▸ Nat.lt_add_of_pos_right h2
  have l0 : n1 - 1 < (arrOf st).size := Nat.lt_of_le_of_lt (Nat.sub_le _ _) l1
  have e0 : (pendingOf st)[0]? = some (0, n1, p1) := by rw [hB.pend]; rfl
  have e1 : (pendingOf st)[0 + 1]? = some (n1, n2, p2) := by rw [hB.pend]; rfl
  have e2 : ((pendingOf st).setIfInBounds 0 (0, n1 + n2, p1)).eraseIdxIfInBounds (0 + 1) = #[(0, n1 + n2, p1)] := by rw [hB.pend]; exact pend_one
  refine wpS_bind (wpS_get ?_)
  rw [e0, e1]
  dsimp -zeta only
  refine wpS_put1 fun z hz1 => ?_
  have B1 : SB a₀ #[(0, n1 + n2, p1)] z := by subst hz1; exact ⟨hB.perm, hB.kind, hB.failed, e2⟩
  have ax : arrOf z = arrOf st := by subst hz1; rfl
  clear hz1 e0 e1 e2
  have hpm := hB.perm
  generalize hxs : arrOf st = xs at s1 s2 hz hall l1 l0 ax hpm
  refine galF0 (arr := arrOf st) B1.kind (by rw [hxs]; exact hall) (by rw [hxs]; exact l1) (by rw [hxs]; exact Nat.le_of_lt l1) h1 (by rw [hxs]; exact s1) fun k k1 kle kgt => ?_
  rw [hxs] at kle kgt
  dsimp -zeta only
  have z0 := Nat.zero_add k
  refine wpS_if (fun c1 => wpS_pure (h _ B1 (by rw [ax]; exact two_up s1 s2 fun i j hi hj hj2 => Int.le_trans (kle i (Nat.lt_of_lt_of_le hi (Nat.le_of_sub_eq_zero (eq_of_beq c1)))) (s2 n1 j (Nat.le_refl _) hj hj2)))) (fun c1 => ?_)
  have c1' : k < n1 := Nat.lt_of_sub_pos (Nat.pos_of_ne_zero (neb c1))
  refine galT (arr := arrOf st) (j := n1 - 1) B1.kind (by rw [hxs]; exact hall) (by rw [Nat.zero_add, Nat.add_sub_cancel' k1]) (by rw [hxs]; exact l0) (by rw [hxs]; exact Nat.le_of_eq hz.symm) (Nat.sub_lt h2 Nat.one_pos) (by rw [hxs]; exact s2) fun m m1 mlt mge => ?_
  rw [hxs] at mlt mge
  dsimp -zeta only
  refine wpS_if (fun c2 => wpS_pure (h _ B1 (by
    rw [ax]
    refine two_up s1 s2 fun i j hi hj hj2 => Int.le_trans (s1 i (n1 - 1) (Nat.zero_le _) (Nat.le_sub_one_of_lt hi) (Nat.sub_lt h1 Nat.one_pos)) ?_
    obtain ⟨t, rfl⟩ := Nat.exists_eq_add_of_le hj
    exact mge t (by rw [eq_of_beq c2]; exact Nat.zero_le _) (Nat.lt_of_add_lt_add_left hj2)))) (fun c2 => ?_)
  have c2' : ¬ m = 0 := neb c2
  clear c1 c2
  extract_lets +onlyGivenNames -merge -underBinder x y jp
  have hx : x = xs.extract k n1 := by show (arrOf st).extract (0 + k) n1 = _; rw [hxs, z0]
  have hy : y = xs.extract n1 (n1 + m) := by show (arrOf st).extract n1 (n1 + m) = _; rw [hxs]
  clear_value x y
  subst hx hy
  have x1 := ext_toList xs k n1
  have y1 := ext_toList xs n1 (n1 + m)
  rw [show n1 + m - n1 = m by omega] at y1
  have e12 := take_split xs.toList (i := n1) (k := k) (by omega)
  have e34 := drop_split xs.toList n1 m
  have u12 : Up (xs.toList.take n1) := by have := R_up (by omega) s1; rwa [List.drop_zero, Nat.sub_zero] at this
  have u34 : Up (xs.toList.drop n1) := by have := R_up (by omega) s2; rwa [show n1 + n2 - n1 = n2 by omega, List.take_of_length_le (by simp; omega)] at this
  rw [e12] at u12
  rw [e34] at u34
  have ux := (List.pairwise_append.mp u12).2.1
  have uy := (List.pairwise_append.mp u34).1
  have h13 : ∀ x ∈ xs.toList.take k, ∀ y ∈ (xs.toList.drop n1).take m ++ xs.toList.drop (n1 + m), Kd x ≤ Kd y := fun x hx y hy => by
    obtain ⟨t, ht, ht2, rfl⟩ := mem_take hx
    rw [← e34] at hy
    obtain ⟨v, hv, rfl⟩ := mem_drop hy
    have a1 := kle t ht
    have a2 := s2 n1 (n1 + v) (Nat.le_refl _) (by omega) (by omega)
    rw [Kof (by omega)] at a1
    rw [Kof (i := n1 + v) (by omega)] at a2
    exact Int.le_trans a1 a2
  have h24 : ∀ x ∈ (xs.toList.drop k).take (n1 - k), ∀ y ∈ xs.toList.drop (n1 + m), Kd x ≤ Kd y := fun x hx y hy => by
    obtain ⟨t, ht, ht2, rfl⟩ := mem_take_drop hx
    obtain ⟨v, hv, rfl⟩ := mem_drop hy
    have a1 := s1 (k + t) (n1 - 1) (by omega) (by omega) (by omega)
    have a2 := mge (m + v) (by omega) (by omega)
    rw [Kof (by omega)] at a1
    rw [← Nat.add_assoc, Kof (i := n1 + m + v) (by omega)] at a2
    exact Int.le_trans a1 a2
  have xz : (xs.extract k n1).size = n1 - k := by rw [← Array.length_toList, x1, List.length_take, List.length_drop, Array.length_toList]; omega
  have yz : (xs.extract n1 (n1 + m)).size = m := by rw [← Array.length_toList, y1, List.length_take, List.length_drop, Array.length_toList]; omega
  have y0 : (xs.extract n1 (n1 + m))[0]'(by omega) = xs[n1]'(by omega) := by simp
  have hX : ∀ p ∈ (xs.extract k n1).toList, KeyInt p := fun p hp => by
    rw [x1] at hp; exact hall p (List.mem_of_mem_drop (List.mem_of_mem_take hp))
  have hY : ∀ p ∈ (xs.extract n1 (n1 + m)).toList, KeyInt p := fun p hp => by
    rw [y1] at hp; exact hall p (List.mem_of_mem_drop (List.mem_of_mem_take hp))
  have hf : ∀ x ∈ (xs.extract k n1).toList, Kd ((xs.extract n1 (n1 + m))[0]'(by omega)) ≤ Kd x := fun x hx => by
    rw [x1] at hx
    obtain ⟨t, ht, ht2, rfl⟩ := mem_take_drop hx
    have := kgt (k + t) (by omega) (by omega)
    rw [Kof (by omega), Kof (i := k + t) (by omega)] at this
    rw [y0]; exact this
  have hlast : ∀ y ∈ (xs.extract n1 (n1 + m)).toList, Kd y ≤ Kd (xs[n1 - 1]'(by omega)) := fun y hy => by
    rw [y1] at hy
    obtain ⟨t, ht, ht2, rfl⟩ := mem_take_drop hy
    have := mlt t ht
    rw [Kof (by omega), Kof (i := n1 - 1) (by omega)] at this
    omega
  have back : ∀ M : Array Keyed, Merged (xs.extract k n1).toList (xs.extract n1 (n1 + m)).toList M.toList → ∀ R : Array Keyed, R.toList = xs.toList.take k ++ M.toList ++ xs.toList.drop (n1 + m) → R.Perm a₀ ∧ SortedR R 0 (n1 + n2) := fun M hM R hR => by
    rw [x1, y1] at hM
    obtain ⟨g1, g2⟩ := glue u12 u34 h13 h24 hM
    rw [← e12, ← e34, List.take_append_drop, ← hR] at g1
    rw [← hR] at g2
    have gp : R.Perm xs := Array.perm_iff_toList_perm.mpr g1
    exact ⟨gp.trans hpm, g2.R (by rw [gp.size_eq]; omega)⟩
  have run : ∀ M : Array Keyed, Merged (xs.extract k n1).toList (xs.extract n1 (n1 + m)).toList M.toList → (M.toList.zipIdx.foldl (fun (a : Array Keyed) (x : Keyed × Nat) => a.setIfInBounds (k + x.2) x.1) xs).toList = xs.toList.take k ++ M.toList ++ xs.toList.drop (n1 + m) := fun M hM => by
    have hl : M.toList.length = n1 - k + m := by rw [hM.1.length_eq, List.length_append, Array.length_toList, Array.length_toList, xz, yz]
    rw [set_run k M.toList 0 xs (by omega), hl]
    simp only [Nat.add_zero]
    rw [show k + (n1 - k + m) = n1 + m by omega]
  refine gapM (jp := jp) (fun M z' => Like z z' ∧ Merged (xs.extract k n1).toList (xs.extract n1 (n1 + m)).toList M.toList) (fun M z' q => ?_) fun hj => wpS_if (fun c3 => ?_) (fun c3 => ?_)
  · obtain ⟨g1, g2⟩ := back M q.2 _ (run M q.2)
    have hf := q.1.failed.trans B1.failed
    have ha := q.1.arr.trans ax
    refine wpS_bind (wpS_modify (wpS_bind (wpS_get (wpS_pure ?_))))
    show Q (failedOf z').isNone _
    rw [hf]
    refine h _ ⟨?_, q.1.kind.trans B1.kind, hf, q.1.pend.trans B1.pend⟩ ?_
    · show (M.toList.zipIdx.foldl (fun (a : Array Keyed) (x : Keyed × Nat) => a.setIfInBounds (0 + k + x.2) x.1) (arrOf z')).Perm a₀
      rw [ha, z0]; exact g1
    · show SortedR (M.toList.zipIdx.foldl (fun (a : Array Keyed) (x : Keyed × Nat) => a.setIfInBounds (0 + k + x.2) x.1) (arrOf z')) 0 (n1 + n2)
      rw [ha, z0]; exact g2
  · refine wpS_bind (mlo_ok B1.kind hX hY (by rw [x1]; exact ux) (by rw [y1]; exact uy) (by rw [xz]; exact Nat.sub_pos_of_lt c1') (by rw [yz]; exact Nat.pos_of_ne_zero c2') hf (fun y hy i hi x hx => ?_) fun M z' hL hM => hj _ _ ⟨hL, hM⟩)
    obtain ⟨v, hv, rfl⟩ := mem_drop hx
    have := hlast y hy
    simpa [show k + (i + v) = n1 - 1 by omega] using this
  · refine wpS_bind (mhi_ok B1.kind hX hY (by rw [x1]; exact ux) (by rw [y1]; exact uy) (by rw [xz]; exact Nat.sub_pos_of_lt c1') (by rw [yz]; exact Nat.pos_of_ne_zero c2') hf (fun y hy => ?_) fun M z' hL hM => hj _ _ ⟨hL, hM⟩)
    have := hlast y hy
    simpa [xz, show k + (n1 - k - 1) = n1 - 1 by omega] using this
end

section
variable {prog : Program} {w : World} {A : Around} {E : Value → Shared → Prop} {s : Shared} {a₀ : Array Keyed}
noncomputable def One (a₀ : Array Keyed) (st : SortSt) : Prop := ∃ p, SB a₀ #[(0, a₀.size, p)] st ∧ SortedR (arrOf st) 0 a₀.size
noncomputable def Two (a₀ : Array Keyed) (st : SortSt) : Prop := ∃ n1 n2 p, SB a₀ #[(0, n1, p), (n1, n2, 0)] st ∧ SortedR (arrOf st) 0 n1 ∧ SortedR (arrOf st) n1 (n1 + n2) ∧ n1 + n2 = a₀.size ∧ 0 < n1 ∧ 0 < n2
theorem SB.pushed {pn : Array (Nat × Nat × Nat)} {st : SortSt} {x : Nat × Nat × Nat} (h : SB a₀ pn st) : SB a₀ (pn.push x) (setPending st ((pendingOf st).push x)) := ⟨h.perm, h.kind, h.failed, by show (pendingOf st).push x = _; rw [h.pend]⟩
theorem R_keep {xs ys : Array Keyed} {i j : Nat} (h : SortedR xs i j) (e : Same ys xs j) : SortedR ys i j := fun p q a b c => by rw [e p (by omega), e q c]; exact h p q a b c
noncomputable def RunsS (a₀ : Array Keyed) : Prop := ∀ {prog : Program} {w : World} {A : Around} {E : Value → Shared → Prop} {s : Shared} {st : SortSt} {Q : Unit → SortSt → Prop}, IntKeys a₀ → SB a₀ #[] st → 64 ≤ a₀.size → a₀.size < 128 →
    (∀ st', (arrOf st').Perm a₀ → failedOf st' = none → SortedTo (arrOf st') a₀.size → Q () st') → wpS (model prog w) A E s sortRuns' Q st
noncomputable def aR0 : Array Keyed := @Classical.epsilon _ ⟨#[]⟩ fun c => ¬ RunsS c
@[irreducible] noncomputable def aR : Array Keyed := aR0
theorem gapN {γ : Type} {jp : Unit → Nat → StateT SortSt Sem γ} {x : StateT SortSt Sem γ} {Q : γ → SortSt → Prop} {st : SortSt} (P : Nat → SortSt → Prop) (tail : ∀ n z, P n z → wpS (model prog w) A E s (jp () n) Q z) (use : (∀ n z, P n z → wpS (model prog w) A E s (jp () n) Q z) → wpS (model prog w) A E s x Q st) : wpS (model prog w) A E s x Q st := use tail
inductive RI (mn x lo : Nat) (st : SortSt) : Prop
  | go : ∀ pn, SB aR pn st → lo < aR.size → (pn = #[] ∧ lo = 0 ∧ x = 0) ∨ (pn = #[(0, lo, 0)] ∧ SortedR (arrOf st) 0 lo ∧ mn ≤ lo ∧ x = 1) → RI mn x lo st
  | done : 1 ≤ x → lo = aR.size → (One aR st ∨ Two aR st) → RI mn x lo st
structure RN (pn : Array (Nat × Nat × Nat)) (st : SortSt) (mn lo n : Nat) (z : SortSt) : Prop where
  b : SB aR pn z
  s : SortedR (arrOf z) lo (lo + n)
  z : Same (arrOf z) (arrOf st) lo
  big : mn ≤ n ∨ lo + n = aR.size
  le : lo + n ≤ aR.size
  pos : 0 < n
theorem RI.first {x lo mn n : Nat} {st z : SortSt} (hx : x = 0) (h0 : lo = 0) (q : RN #[] st mn lo n z) : RI mn (x + 1) (lo + n) (setPending z ((pendingOf z).push (lo, n, 0))) := by
  subst hx
  subst h0
  have hs := q.s
  have hl := q.le
  have hb := q.big
  rw [Nat.zero_add n] at hs hl hb ⊢
  rcases Nat.lt_or_eq_of_le hl with g | g
  · exact .go _ q.b.pushed g (.inr ⟨rfl, hs, hb.resolve_right (Nat.ne_of_lt g), rfl⟩)
  · refine .done (Nat.le_refl _) g (.inl ⟨0, ?_, ?_⟩)
    · have h := q.b.pushed (x := (0, n, 0))
      rw [← g]; exact h
    · rw [← g]; exact hs
theorem RI.second {x mn lo n pw : Nat} {st z : SortSt} (hx : x = 1) (hmn : aR.size ≤ mn + mn) (q : RN #[(0, lo, 0)] st mn lo n z) (hs : SortedR (arrOf st) 0 lo) (hm : mn ≤ lo) (h0 : 0 < lo) :
    RI mn (x + 1) (lo + n) (setPending (setPending z ((pendingOf z).modify ((pendingOf z).size - 1) fun (st, len, _) => (st, len, pw))) ((pendingOf (setPending z ((pendingOf z).modify ((pendingOf z).size - 1) fun (st, len, _) => (st, len, pw)))).push (lo, n, 0))) := by
  subst hx
  have e : lo + n = aR.size := q.big.elim (fun h => Nat.le_antisymm q.le (Nat.le_trans hmn (Nat.add_le_add hm h))) id
  refine .done (Nat.succ_le_succ (Nat.zero_le 1)) e (.inr ⟨lo, n, pw, ⟨q.b.perm, q.b.kind, q.b.failed, ?_⟩, R_keep hs q.z, q.s, e, h0, q.pos⟩)
  show ((pendingOf z).modify ((pendingOf z).size - 1) fun (st, len, _) => (st, len, pw)).push (lo, n, 0) = _
  rw [q.b.pend]; rfl
theorem runs_c : RunsS aR := by
  (refine (?zdG3 : CloT _ ?zdH3); refine @(allE7 (i := ⟨(default, world0, {}, fun _ _ => True, {}, sst0, fun _ _ => True)⟩) ?_); apply ?zdH3; intro prog w A E s st Q)
  intro h0 hB h64 h128 h
  have hmr : minRun' aR.size aR.size 0 = aR.size / 2 + aR.size % 2 := by
    obtain ⟨f, hf⟩ : ∃ f, aR.size = f + 1 + 1 := ⟨aR.size - 2, by omega⟩
    have e1 : minRun' (f + 1 + 1) aR.size 0 = aR.size / 2 + max 0 (aR.size % 2) := by rw [minRun'_succ, if_neg (by omega), minRun'_succ, if_pos (by omega)]
    rw [← hf] at e1
    rw [e1, Nat.zero_max]
  refine wpS_bind (wpS_get ?_)
  extract_lets +onlyGivenNames -merge -underBinder size minrun lo0
  have hsize : size = aR.size := hB.size
  clear_value size
  subst hsize
  have hmn : minrun = aR.size / 2 + aR.size % 2 := hmr
  clear_value minrun
  have hmn2 : aR.size ≤ minrun + minrun := by omega
  have hm0 : 0 < minrun := by omega
  clear hmr hmn
  refine wpS_bind (wpS_mono (wpS_forRange (I := fun x c z => c.1 = none ∧ RI minrun x c.2 z) (Q := fun c z => c.1 = none ∧ (One aR z ∨ Two aR z)) ?step ?fin ⟨rfl, .go _ hB (Nat.lt_of_lt_of_le (by decide) h64) (.inl ⟨rfl, rfl, rfl⟩)⟩) ?post)
  case fin =>
    intro c z hc
    refine ⟨hc.1, ?_⟩
    rcases hc.2 with ⟨_, _, _, ⟨_, _, e⟩ | ⟨_, _, _, e⟩⟩ | ⟨_, _, h⟩
    · omega
    · omega
    · exact h
  case post =>
    intro c z hc
    extract_lets +onlyGivenNames -merge -underBinder r lo
    have hr : r = none := hc.1
    clear_value r
    subst hr
    refine wpS_bind (wpS_mono (wpS_forRange (I := fun x c z => c.1 = none ∧ (One aR z ∨ (x = 0 ∧ Two aR z))) (Q := fun c z => c.1 = none ∧ One aR z) ?st2 ?fi2 ⟨rfl, hc.2.imp id fun h => ⟨rfl, h⟩⟩) ?po2)
    case fi2 =>
      intro c z hc
      refine ⟨hc.1, hc.2.resolve_right fun h => ?_⟩
      have := h.1
      omega
    case po2 =>
      intro c z hc
      obtain ⟨r, u⟩ := c
      have hr : r = none := hc.1
      subst hr
      obtain ⟨p, hB2, hs2⟩ := hc.2
      exact wpS_pure (h _ hB2.perm hB2.failed fun i j hij hj => hs2 i j (Nat.zero_le _) hij hj)
    case st2 =>
      intro x c z _ _ hc
      refine wpS_bind (wpS_get ?_)
      extract_lets +onlyGivenNames -merge -underBinder p
      rcases hc.2 with hh | ⟨e, n1, n2, pp, hB2, t1, t2, t3, t4, t5⟩
      · have hp : p.size ≤ 1 := by
          obtain ⟨q, hB2, _⟩ := hh
          show (pendingOf z).size ≤ 1
          rw [hB2.pend]; exact Nat.le_refl 1
        exact wpS_ifp hp (wpS_pure ⟨rfl, hh⟩)
      · subst e
        have hp : p = #[(0, n1, pp), (n1, n2, 0)] := hB2.pend
        clear_value p
        subst hp
        refine wpS_ifn (Nat.not_le_of_lt (Nat.lt_succ_self 1)) (wpS_bind (mat_ok h0 hB2 t3 t4 t5 t1 t2 fun z2 hB3 hs3 => ?_))
        rw [t3] at hB3 hs3
        exact wpS_ifn (fun e => by cases e) (wpS_pure ⟨rfl, .inl ⟨pp, hB3, hs3⟩⟩)
  case step =>
    intro x c st' _ hx hc
    extract_lets +onlyGivenNames -merge -underBinder lo
    rcases (show RI minrun x lo st' from hc.2) with ⟨pn, hB', hlt, hp⟩ | ⟨h1, h2, hD⟩
    rotate_left
    · exact wpS_ifp (Nat.le_of_eq h2.symm) (wpS_pure ⟨rfl, hD⟩)
    refine wpS_ifn (Nat.not_le_of_lt hlt) (wpS_bind (count_ok h0 (Nat.le_of_eq (Nat.add_sub_cancel' (Nat.le_of_lt hlt))) (Nat.sub_pos_of_lt hlt) hB' fun m st2 hB2 a1 a2 a3 a4 => ?_))
    dsimp -zeta only
    extract_lets +onlyGivenNames -merge -underBinder n jp
    refine gapN (jp := jp) (RN pn st' minrun lo) (fun n z q => ?_) fun hj => wpS_if (fun c1 => ?_) fun c1 => hj _ _ ⟨hB2, a3, a4, .inl (Nat.le_of_not_lt c1), Nat.le_trans (Nat.add_le_add_left a2 lo) (Nat.le_of_eq (Nat.add_sub_cancel' (Nat.le_of_lt hlt))), a1⟩
    rotate_left
    · refine wpS_bind (wpS_lift (wpAny_rule ⟨rfl, ?_⟩))
      extract_lets +onlyGivenNames -merge -underBinder force
      have hf1 : m ≤ force := Nat.le_min.mpr ⟨a2, Nat.le_of_lt c1⟩
      have hf2 : lo + force ≤ aR.size := Nat.le_trans (Nat.add_le_add_left (Nat.min_le_left _ _) lo) (Nat.le_of_eq (Nat.add_sub_cancel' (Nat.le_of_lt hlt)))
      have hf3 : minrun ≤ force ∨ lo + force = aR.size := (Nat.le_total minrun (aR.size - lo)).elim (fun h => .inl (Nat.le_min.mpr ⟨h, Nat.le_refl _⟩)) fun h => .inr (by show lo + min (aR.size - lo) minrun = _; rw [Nat.min_eq_left h]; exact Nat.add_sub_cancel' (Nat.le_of_lt hlt))
      clear_value force
      exact wpS_bind (sb_binary h0 hf2 hf1 hB2 a3 fun st3 hB3 hs3 hz3 => wpS_ifn (fun e => by cases e) (hj force _ ⟨hB3, hs3, fun k hk => (hz3 k hk).trans (a4 k hk), hf3, hf2, Nat.lt_of_lt_of_le a1 hf1⟩))
    clear a1 a2 a3 a4 hB2
    refine wpS_bind (wpS_get ?_)
    extract_lets +onlyGivenNames -merge -underBinder jp2
    rcases hp with ⟨e1, e2, e3⟩ | ⟨e1, e2, e3, e4⟩
    · subst e1
      have hb : (pendingOf z).back? = none := by rw [q.b.pend]; rfl
      rw [hb]
      exact wpS_bind (wpS_modify (wpS_pure ⟨rfl, RI.first e3 e2 q⟩))
    · subst e1
      have hb : (pendingOf z).back? = some (0, lo, 0) := by rw [q.b.pend]; rfl
      rw [hb]
      dsimp -zeta only
      extract_lets +onlyGivenNames -merge -underBinder pw
      refine wpS_rangeC (I := fun _ c => c.1 = none) (P := fun c => c.1 = none) (fun y d _ hd => ?_) (fun _ h => h) rfl fun d hd => ?_
      · refine wpS_bind (wpS_get ?_)
        extract_lets +onlyGivenNames -merge -underBinder p
        have hp : p = #[(0, lo, 0)] := q.b.pend
        clear_value p
        subst hp
        exact wpS_pure ⟨rfl, rfl⟩
      · obtain ⟨d, u⟩ := d
        have hd : d = none := hd
        subst hd
        exact wpS_bind (wpS_modify (wpS_bind (wpS_modify (wpS_pure ⟨rfl, RI.second e4 hmn2 q e2 e3 (Nat.lt_of_lt_of_le hm0 e3)⟩))))
theorem runs_all (a : Array Keyed) : RunsS a := by
  apply Classical.byContradiction
  intro hn
  have h := @Classical.epsilon_spec _ (fun c : Array Keyed => ¬ RunsS c) ⟨a, hn⟩
  have c := @runs_c
  unfold aR aR0 at c
  exact h @c
theorem runs_ok {st : SortSt} {Q : Unit → SortSt → Prop} (h0 : IntKeys a₀) (hB : SB a₀ #[] st) (h64 : 64 ≤ a₀.size) (h128 : a₀.size < 128)
    (h : ∀ st', (arrOf st').Perm a₀ → failedOf st' = none → SortedTo (arrOf st') a₀.size → Q () st') : wpS (model prog w) A E s sortRuns' Q st :=
  runs_all a₀ h0 hB h64 h128 h
end
section
open Builtin
variable {prog : Program} {w : World} {A : Around} {E : Value → Shared → Prop} {s : Shared}
theorem sort_tree {a : Addr} {vs : List Value} {ns : List Int} {n : Nat} {P : PySem.Fin → Shared → Prop} (ho : s.heap.get? a = some (seqObj "list" vs.toArray n))
    (hI : IntsAre vs ns) (h64 : 64 ≤ vs.length) (h128 : vs.length < 128)
    (h : ∀ (out : Array Value) (ns' : List Int), IntsAre out.toList ns' → ns'.Perm ns → ns'.Pairwise (· ≤ ·) → P (.done (.ret .none)) { s with heap := sortedHeap s.heap a vs out }) :
    wpAny (model prog w) A (Builtin.«list.sort» ⟨[.ref a], []⟩) P E s := by
  rw [list_sort_plain]
  have ha : a < s.heap.objs.size := Heap.lt_size ho
  refine wpAny_bind (listItems_at ho rfl ?_)
  refine wpAny_bind (listUpdate_at ho rfl ?_ (hsz := by rw [List.size_toArray, sizeLine_eq]; omega))
  obtain ⟨e1, ho1⟩ : ∃ e1, (s.heap.update a (Obj.mapSeq fun _ => #[])).get? a = some (seqObj "list" #[] e1) := ⟨_, get?_update_seq ho (fun _ => #[])⟩
  refine wpAny_bind (seqEpoch_at ho1 rfl ?_)
  refine wpAny_bind (wpAny_newTuple ?_ (by show vs.length ≤ _; rw [sizeLine_eq]; omega))
  refine wpAny_bind (wpAny_newList ?_)
  refine wpAny_holding ?_
  have ho6 : (((s.heap.update a (Obj.mapSeq fun _ => #[])).push (seqObj "tuple" vs.toArray 0)).push (seqObj "list" #[] 0)).get? a = some (seqObj "list" #[] e1) := by
    rw [Heap.get?_push_ne _ _ _ (by rw [size_push', Heap.size_update]; exact Nat.ne_of_lt (Nat.lt_succ_of_lt ha)), Heap.get?_push_ne _ _ _ (by rw [Heap.size_update]; exact Nat.ne_of_lt ha)]
    exact ho1
  show wpAny (model prog w) A _ P E { s with heap := ((s.heap.update a (Obj.mapSeq fun _ => #[])).push (seqObj "tuple" vs.toArray 0)).push (seqObj "list" #[] 0) }
  try dsimp only
  have hsz : vs.toArray.size = vs.length := by simp
  have h2 : ¬ vs.toArray.size < 2 := by omega
  rw [if_neg h2, if_neg h2]
  obtain ⟨v₁, v₂, rest, rfl⟩ : ∃ v₁ v₂ rest, vs = v₁ :: v₂ :: rest := by
    match vs, h64 with
    | [], h => simp at h
    | [_], h => simp at h
    | v₁ :: v₂ :: rest, _ => exact ⟨v₁, v₂, rest, rfl⟩
  rw [keyKind_ints hI]
  refine wpAny_bind (wpAny_pure ?_)
  refine wpAny_bind (wpAny_mono (runs_ok (a₀ := pairsOf (v₁ :: v₂ :: rest)) (st := SortSt.mk' oneType' ((v₁ :: v₂ :: rest).toArray.zip (v₁ :: v₂ :: rest).toArray) #[] 7 none)
    (Q := fun _ st' => (arrOf st').Perm (pairsOf (v₁ :: v₂ :: rest)) ∧ failedOf st' = none ∧ SortedTo (arrOf st') (pairsOf (v₁ :: v₂ :: rest)).size)
    hI.intKeys ⟨Array.Perm.refl _, rfl, rfl, rfl⟩ (by rw [pairsOf_size]; exact h64) (by rw [pairsOf_size]; exact h128) fun st' a1 a2 a3 => ⟨a1, a2, a3⟩) ?_ fun _ _ e => e)
  rintro ⟨⟨⟩, st'⟩ s' ⟨rfl, hp, hf, hs⟩
  try dsimp only
  refine wpAny_bind (seqEpoch_at ho6 rfl ?_)
  refine wpAny_bind (listUpdate_at ho6 rfl ?_ (hsz2 := by refine Nat.le_trans (Nat.le_of_eq ((Array.size_map ..).trans (hp.size_eq.trans (pairsOf_size _)))) ?_; rw [sizeLine_eq]; omega))
  rw [hf]
  simp only [bne_self_eq_false, Bool.false_eq_true, if_false]
  obtain ⟨ns', h1, h2, h3⟩ := sorted_out hI hp hs
  exact wpAny_pure (h _ ns' h1 h2 h3)
theorem sort_call {l : Addr} {vs : List Value} {ns : List Int} {Q : Value → Shared → Prop} (hl : s.heap.IsList l vs.toArray) (hI : IntsAre vs ns) (h64 : 64 ≤ vs.length) (h128 : vs.length < 128)
    (h : ∀ (out : Array Value) (ns' : List Int), IntsAre out.toList ns' → ns'.Perm ns → ns'.Pairwise (· ≤ ·) → Q (.ref (s.heap.objs.size + 1)) { s with heap := sortedAll s.heap vs out }) :
    wpAny (model prog w) A (call (.builtin "sorted") [.ref l]) Q E s := by
  refine Calls.call_function_entry kind_sorted plain_sorted entry_sorted (args_sorted1 _) ?_
  unfold Builtin.«sorted»
  refine wpAny_bind (m := checkCount "sorted" 1 1 _) (wpAny_pure ?_)
  refine wpAny_bind (collect_list hl ?_ (by rw [sizeLine_eq]; omega))
  refine wpAny_bind (wpAny_newList ?_ (by show vs.length ≤ _; rw [sizeLine_eq]; omega))
  have hsz : ((s.heap.push (seqObj "list" #[] 0)).update s.heap.objs.size (Obj.mapSeq (· ++ vs.toArray))).objs.size = s.heap.objs.size + 1 := by
    rw [Heap.size_update, size_push']
  have hoL : (((s.heap.push (seqObj "list" #[] 0)).update s.heap.objs.size (Obj.mapSeq (· ++ vs.toArray))).push (seqObj "list" vs.toArray 0)).get? (s.heap.objs.size + 1) = some (seqObj "list" vs.toArray 0) := by
    rw [← hsz]; exact Heap.get?_push_size _ rfl
  show wpAny _ _ _ _ _ { s with heap := ((s.heap.push (seqObj "list" #[] 0)).update s.heap.objs.size (Obj.mapSeq (· ++ vs.toArray))).push (seqObj "list" vs.toArray 0) }
  rw [hsz]
  refine wpAny_bind (wpAny_holding (wpAny_call_entry slot_list_sort ⟨_, hoL, rfl⟩ entry_list_sort (sort_tree hoL hI h64 h128 fun out ns' a1 a2 a3 => ⟨_, rfl, ?_⟩) (args_list_sort _)))
  exact wpAny_pure ⟨_, rfl, h out ns' a1 a2 a3⟩
theorem my_sorted {h₀ : Heap} {L : Addr} {m : Str → Option Value} {news : List (Addr × Obj)} {l : Addr} {vs : List Value} {ns : List Int} {Q : Value → Shared → Prop}
    (F : Fr h₀ L s.heap m) (N : News h₀ L s.heap news) (hl : s.heap.IsList l vs.toArray) (hI : IntsAre vs ns) (h128 : ns.length < 128)
    (h : ∀ D vs' ns' c h', Fr h₀ L h' m → News h₀ L h' ((D, listOf vs'.toArray c) :: news) → (∀ q ∈ news, q.1 < D) → IntsAre vs' ns' → ns'.Perm ns → ns'.Pairwise (· ≤ ·) → Q (.ref D) { s with heap := h' }) :
    wpAny (model prog w) A (call (.builtin "sorted") [.ref l]) Q E s := by
  have e1 := IntsAre.length hI
  have lt : ∀ q ∈ news, q.1 < s.heap.objs.size + 1 := fun p hp => Nat.lt_succ_of_lt (Heap.lt_size (N p hp).1)
  rcases Nat.lt_or_ge vs.length 64 with h64 | h64
  · exact sorted_N F N hl hI h64 fun h' vs' ns' e F' N' a1 a2 a3 => h _ vs' ns' e h' F' N' lt a1 a2 a3
  · refine sort_call hl hI h64 (by omega) fun out ns' a1 a2 a3 => ?_
    obtain ⟨e, he⟩ := sortedAll_at s.heap vs out
    exact h _ out.toList ns' e _ (F.kept fun _ _ => sortedAll_old) (N.kept_cons F (fun _ _ => sortedAll_old) (Nat.le_succ _) he) lt a1 a2 a3
end
-- LINES
theorem words_35_39 : True := by
  k_with "call builtin:sorted" => ((with_reducible show wpAny _ _ (call (Value.builtin "sorted") [Value.ref _]) _ _ _); k_dflt (refine' my_sorted ?zF ?zN ?zl ?zi ?zz ?_; (case zF => k_asm); (case zN => k_asm); (case zl => k_extra "my isl"); (case zi => with_reducible assumption); (case zz => k_extra "my len")); intro D' zs' ns' c' h' F' N' lt' hI' hp' ho'; (try k_lt lt'); (try k_sweep))
  trivial
-- END LINES

-- LINES
theorem words_36_40 : True := by
  k_with "my wp" => first | with_reducible refine PySem.wpAny_pure ?_ | with_reducible refine PySem.wpAny_bind ?_ | with_reducible refine PySem.wpAny_rule ?_ | with_reducible refine PySem.wpAny_fresh' ?_ | with_reducible refine PySem.wpAny_alloc' ?_ | with_reducible refine PySem.wpAny_call ?_ | wp_delta | (with_reducible refine' PySem.wpAny_ite_false ?zi ?_; (case zi => exact rfl)) | (with_reducible refine' PySem.wpAny_ite_true ?zi ?_; (case zi => exact rfl)) | (with_reducible refine' PySem.wpAny_ite_false ?zi ?_; (case zi => (simp [*]; done))) | wp_step
  trivial
-- END LINES
noncomputable def mod0 : Model := model default world0
noncomputable def eps10 {α1 α2 α3 α4 α5 α6 α7 α8 α9 α10 : Type} {i : Nonempty (α1 × α2 × α3 × α4 × α5 × α6 × α7 × α8 × α9 × α10)} (p : α1 → α2 → α3 → α4 → α5 → α6 → α7 → α8 → α9 → α10 → Prop) : α1 × α2 × α3 × α4 × α5 × α6 × α7 × α8 × α9 × α10 := @Classical.epsilon _ i fun x => ¬ p x.1 x.2.1 x.2.2.1 x.2.2.2.1 x.2.2.2.2.1 x.2.2.2.2.2.1 x.2.2.2.2.2.2.1 x.2.2.2.2.2.2.2.1 x.2.2.2.2.2.2.2.2.1 x.2.2.2.2.2.2.2.2.2
theorem allE10 {α1 α2 α3 α4 α5 α6 α7 α8 α9 α10 : Type} [i : Nonempty (α1 × α2 × α3 × α4 × α5 × α6 × α7 × α8 × α9 × α10)] {p : α1 → α2 → α3 → α4 → α5 → α6 → α7 → α8 → α9 → α10 → Prop} (h : p (eps10 (i := i) p).1 (eps10 (i := i) p).2.1 (eps10 (i := i) p).2.2.1 (eps10 (i := i) p).2.2.2.1 (eps10 (i := i) p).2.2.2.2.1 (eps10 (i := i) p).2.2.2.2.2.1 (eps10 (i := i) p).2.2.2.2.2.2.1 (eps10 (i := i) p).2.2.2.2.2.2.2.1 (eps10 (i := i) p).2.2.2.2.2.2.2.2.1 (eps10 (i := i) p).2.2.2.2.2.2.2.2.2) : ∀ x1 x2 x3 x4 x5 x6 x7 x8 x9 x10, p x1 x2 x3 x4 x5 x6 x7 x8 x9 x10 := fun x1 x2 x3 x4 x5 x6 x7 x8 x9 x10 => Classical.byContradiction fun nx =>
  @Classical.epsilon_spec _ (fun x : α1 × α2 × α3 × α4 × α5 × α6 × α7 × α8 × α9 × α10 => ¬ p x.1 x.2.1 x.2.2.1 x.2.2.2.1 x.2.2.2.2.1 x.2.2.2.2.2.1 x.2.2.2.2.2.2.1 x.2.2.2.2.2.2.2.1 x.2.2.2.2.2.2.2.2.1 x.2.2.2.2.2.2.2.2.2) ⟨(x1, x2, x3, x4, x5, x6, x7, x8, x9, x10), nx⟩ h
section
open Builtin
variable {w : World} {A : Around} {h : Heap} {g : Array GenState} {d : Drawn} {t : Nat} {os : OsState} {R : Result → Shared → Prop}
noncomputable abbrev pg := PySem.Challenge.rw_nt0105_01.row.prog
noncomputable abbrev excObj (C a0 : Addr) (dd : Option Addr) : Obj := { cls := .ref C, dict := dd, data := .fields #[.ref a0, .none, .none, .none, .bool false, .none] }
noncomputable abbrev excTail : List Value := [.ref 38, .type "Exception", .type "BaseException", .type "object"]
noncomputable def ErrCls (h : Heap) (C : Addr) : Prop := ∃ nm q N bs sn sub ab col dd k0 k1 k2 k3 k5, h.get? C = some (excClassObj nm q C N bs excTail true sn sub ab col dd k0 k1 k2 k3 k5 "Exception.__new__")
theorem err51 (X : (K w.params).In h) : ErrCls h 51 := ⟨_, _, _, _, _, _, _, _, _, _, _, _, _, _, X 51 _ rfl⟩
theorem err63 (X : (K w.params).In h) : ErrCls h 63 := ⟨_, _, _, _, _, _, _, _, _, _, _, _, _, _, X 63 _ rfl⟩
theorem ErrCls.keeps {h h' : Heap} {C : Addr} (e : ErrCls h C) (k : h.StaysIn h') : ErrCls h' C := by
  obtain ⟨nm, q, N, bs, sn, sub, ab, col, dd, k0, k1, k2, k3, k5, hC⟩ := e
  exact ⟨nm, q, N, bs, sn, sub, ab, col, dd, k0, k1, k2, k3, k5, k _ _ hC⟩
theorem ErrCls.sub {M : Model} {C : Addr} {b : Value} {r : Bool} (e : ErrCls h C) (hr : (Value.ref C :: excTail).contains b = r) : Looks M h (isSubtype (.ref C) b) r := by
  obtain ⟨nm, q, N, bs, sn, sub, ab, col, dd, k0, k1, k2, k3, k5, hC⟩ := e
  rintro A Q E ⟨hp, g, d, t, os⟩ k z
  refine wpAny_isSubtype_exc (k _ _ hC) ?_
  rw [hr]; exact z
theorem ErrCls.made {M : Model} {C : Addr} (e : ErrCls h C) : Looks M h (Bind.madeBy (.ref C)) (some "Exception.__new__") := by
  obtain ⟨nm, q, N, bs, sn, sub, ab, col, dd, k0, k1, k2, k3, k5, hC⟩ := e
  rintro A Q E ⟨hp, g, d, t, os⟩ k z
  exact wpAny_madeBy_exc (k _ _ hC) z
theorem ErrCls.base {M : Model} {C : Addr} (e : ErrCls h C) : Looks M h (Bind.staticBase (.ref C)) (.ref C) := by
  obtain ⟨nm, q, N, bs, sn, sub, ab, col, dd, k0, k1, k2, k3, k5, hC⟩ := e
  rintro A Q E ⟨hp, g, d, t, os⟩ k z
  exact wpAny_staticBase_exc (k _ _ hC) z
theorem ErrCls.here {M : Model} {C : Addr} (e : ErrCls h C) {id : String} (hc : Manifest.canonical "Exception.__new__" = Manifest.canonical id) : Looks M h (Bind.madeHere id (.ref C)) () := by
  obtain ⟨nm, q, N, bs, sn, sub, ab, col, dd, k0, k1, k2, k3, k5, hC⟩ := e
  rintro A Q E ⟨hp, g, d, t, os⟩ k z
  exact wpAny_madeHere_exc hc (k _ _ hC) z
theorem err_B (C : Addr) : (Value.ref C :: excTail).contains (.type "Exception") = true := by rw [List.contains_cons]; simp
theorem err_A (C : Addr) : (Value.ref C :: excTail).contains (.type "AttributeError") = false := by rw [List.contains_cons]; rfl
theorem err_N (C : Addr) : (Value.ref C :: excTail).contains (.type "NameError") = false := by rw [List.contains_cons]; rfl
theorem err_X (C : Addr) : (Value.ref C :: excTail).contains (.type "BaseException") = true := by rw [List.contains_cons]; simp
theorem err_S (C : Addr) : (Value.ref C :: excTail).contains (.ref C) = true := by rw [List.contains_cons]; simp
theorem err_check {C : Addr} {M : Model} {E : Value → Shared → Prop} {rest : List Value} {Q : Unit → Shared → Prop} (e : ErrCls h C)
    (hq : Q () ⟨h, g, d, t, os⟩) : wpAny M A (checkBuiltinCall "Exception.__new__" ⟨.ref C :: rest, []⟩) Q E ⟨h, g, d, t, os⟩ := by
  revert A h g d t os C M E rest Q; refine (?zcG9 : CloT _ ?zcH9); refine @(allE11 (i := ⟨({}, default, default, {}, default, default, default, mod0, default, default, default)⟩) ?_); apply ?zcH9; intro A h g d t os C M E rest Q; intro e hq
  have F := PySem.F.excBase_Exception
  have hstar := F.noStar
  have s1 := e.sub (M := M) (err_B C)
  have s2 := e.made (M := M)
  have s3 := e.base (M := M)
  obtain ⟨nm, q, N, bs, sn, sub, ab, col, dd, k0, k1, k2, k3, k5, hC⟩ := e
  simp only [checkBuiltinCall, F.newKind, F.newSplit, F.newRow]
  repeat (first | simp only [bne_self_eq_false, Bool.false_eq_true, if_false] | lk)
  exact hq
theorem err_new {C : Addr} {rest : List Value} (e : ErrCls h C)
    (hq : R (.ok (.ret (.ref (h.objs.size + 1)))) ⟨(h.push { cls := .type "tuple", data := .seq rest.toArray }).push (excObj C h.objs.size none), g, d, t, os⟩) (hrest : rest.length ≤ sizeLine := by size_fits) :
    codeAny (model pg w) A (.builtin "Exception.__new__" ⟨.ref C :: rest, []⟩) R ⟨h, g, d, t, os⟩ := by
  revert w A h g d t os R C rest; refine (?zcG10 : CloT _ ?zcH10); refine @(allE10 (i := ⟨(world0, {}, default, default, {}, default, default, default, default, default)⟩) ?_); apply ?zcH10; intro w A h g d t os R C rest; intro e hq hrest
  have F := PySem.F.excBase_Exception
  have hends := F.ends
  have e' := e
  have cB := err_B C
  have cA := err_A C
  have cN := err_N C
  obtain ⟨nm, q, N, bs, sn, sub, ab, col, dd, k0, k1, k2, k3, k5, hC⟩ := e
  refine codeAny_builtinAt F.entry ?_
  unfold Builtin.«BaseException.__new__»
  refine PySem.wpAt_bind ?_
  show PySem.wpAt _ _ _ (stack >>= _) _ _ _
  refine PySem.wpAt_bind (PySem.wpAt_stack fun p below => PySem.wpAt_of_wpAny ?_)
  wp_walk
  refine PySem.wpAt_of_wpAny ?_
  rw [F.owner]
  repeat (first | with_reducible refine wpAny_madeHere_exc F.canon hC ?_ | with_reducible refine wpAny_loadPart_at hC ?_ | (with_reducible refine wpAny_isSubtype_exc hC ?_; first | rw [cB] | rw [cA] | rw [cN]) | k_extra "my wp")
  show R _ _
  rw [Heap.size_push]
  exact hq
end
section
open Builtin
variable {w : World} {A : Around} {h : Heap} {g : Array GenState} {d : Drawn} {t : Nat} {os : OsState} {R : Result → Shared → Prop}
theorem err_make {C : Addr} {rest : List Value} (e : ErrCls h C) (call : Looks (model pg w) h (specialOf (.ref C) "__call__") (some (.builtin "type.__call__"))) (typ : Looks (model pg w) h (isInstance (.ref C) (.type "type")) true)
    (hi : Looks (model pg w) h (typeLookup (.ref C) "__init__") (some (.ref 35))) (hb : ∀ self, Looks (model pg w) h (bindSpecial (.ref 35) self) (.ref 35, [self]))
    (hq : codeAny (model pg w) (A.under (.builtin "type.__call__" ⟨.ref C :: rest, []⟩)) (.call (.ref 35) ⟨.ref (h.objs.size + 1) :: rest, []⟩) (InitBack (h.objs.size + 1) R) ⟨(h.push { cls := .type "tuple", data := .seq rest.toArray }).push (excObj C h.objs.size none), g, d, t, os⟩)
    (hrest : rest.length ≤ sizeLine := by size_fits) : codeAny (model pg w) A (.call (.ref C) ⟨rest, []⟩) R ⟨h, g, d, t, os⟩ := by
  revert w A h g d t os R C rest; refine (?zcG11 : CloT _ ?zcH11); refine @(allE10 (i := ⟨(world0, {}, default, default, {}, default, default, default, default, default)⟩) ?_); apply ?zcH11; intro w A h g d t os R C rest; intro e call typ hi hb hq hrest
  have F := PySem.F.excBase_Exception
  have e' := e
  have made := e.made (M := model pg w)
  have self := e.sub (M := model pg w) (err_S C)
  obtain ⟨nm, q, N, bs, sn, sub, ab, col, dd, k0, k1, k2, k3, k5, hC⟩ := e
  refine codeAny_of_tree ?_
  show wpAny _ _ (callAny (.ref C) _) _ _ _
  refine nd_load hC ?_
  show wpAny _ _ (callAny.viaDunder (.ref C) _) _ _ _
  unfold callAny.viaDunder
  refine wpAny_bind (call.at ?_)
  try dsimp only
  rw [tc_bind]
  refine wpAny_bind (wpAny_pure (wpAny_bind (wpAny_pure ?_)))
  refine wpAny_pure (a := Fin.again (.call (.builtin "type.__call__") ⟨.ref C :: rest, []⟩)) (And.intro rfl ?_)
  refine codeAny_call_builtin_at (Code.quiet_builtin _ (by decide +kernel)) entry_typeCall ?_
  refine' check_slot ?zq1 ?zq2 ?zq3 ?zq4 ?_
  case zq1 => exact tc_kind
  case zq2 => exact tc_split
  case zq3 => exact typ
  case zq4 => exact tc_args (.ref C) rest []
  unfold Builtin.«type.__call__»
  have hm : Looks (model pg w) h (mroOf (.ref C)) (.ref C :: excTail) := ((Looks.ld (part := none) hC).andThen .now).andThen .now
  repeat (first | simp only [Bool.false_eq_true, if_false] | with_reducible refine wpAny_call ?_ | lk)
  refine codeAny_call_builtin_code (Code.quiet_builtin _ F.quiet) (err_check e' ?_)
  refine err_new e' ?_ hrest
  have k : ∀ b o, h.get? b = some o → ((h.push { cls := .type "tuple", data := .seq rest.toArray }).push (excObj C h.objs.size none)).get? b = some o := fun b o e => Heap.get?_push_of_some _ (Heap.get?_push_of_some _ e)
  have hx : ((h.push { cls := .type "tuple", data := .seq rest.toArray }).push (excObj C h.objs.size none)).get? (h.objs.size + 1) = some (excObj C h.objs.size none) := by heap_get
  have t1 : Looks (model pg w) ((h.push { cls := .type "tuple", data := .seq rest.toArray }).push (excObj C h.objs.size none)) (typeOf (.ref (h.objs.size + 1))) (.ref C) := (Looks.ld hx).andThen .now
  have s1 := self.keeps k
  have i1 := hi.keeps k
  have b1 := (hb (.ref (h.objs.size + 1))).keeps k
  unfold isInstance callSpecial? specialOf
  repeat (first | with_reducible refine wpAny_call ?_ | lk)
  refine codeAny_mono hq fun r s' z => ?_
  rcases r with e | (v | _ | _ | _) <;> first | exact z | exact z.elim | skip
  obtain ⟨rfl, z⟩ := z
  exact wpAny_pure (wpAny_pure z)
end
section
open Builtin Builtin.ObjectAttr
variable {w : World} {A : Around} {s : Shared} {R : Result → Shared → Prop}
theorem err_refuse (C : Addr) (self : Value) : refuseLoop self "__setattr__" (.ref C :: excTail) = pure () := by
  rw [refuseLoop_ref, refuseLoop_ref]; exact PySem.F.store_Exception.passes self
theorem set_exc {C x a0 : Addr} {v : Value} {E : Value → Shared → Prop} {Q : Unit → Shared → Prop} (X : (K w.params).In s.heap) (e : ErrCls s.heap C) (hs : findIn (K w.params) (.ref C) "__setattr__" = some (some (.builtin "object.__setattr__")))
    (hm : findIn (K w.params) (.ref C) "message" = some none) (hx : s.heap.get? x = some (excObj C a0 none))
    (h : ∀ h' tk dx, (∀ b o, b ≠ x → s.heap.get? b = some o → h'.get? b = some o) → h'.get? x = some (excObj C a0 (some dx)) → Q () { s with heap := h', toks := tk }) :
    wpAny (model pg w) A (setAttr (.ref x) "message" v) Q E s := by
  revert w A s C x a0 v E Q; refine (?zcG12 : CloT _ ?zcH12); refine @(allE9 (i := ⟨(world0, {}, {}, default, default, default, default, default, default)⟩) ?_); apply ?zcH12; intro w A s C x a0 v E Q; intro X e hs hm hx h
  have SF := PySem.F.store_object
  refine set_plain (ox := excObj C a0 none) (od := none) X ⟨hx, rfl, rfl, trivial⟩ hs ?_
  have t1 : Looks (model pg w) s.heap (typeOf (.ref x)) (.ref C) := (Looks.ld hx).andThen .now
  have sub : Looks (model pg w) s.heap (isInstance (.ref x) (.type "object")) true := t1.andThen (e.sub (by rw [List.contains_cons]; simp))
  obtain ⟨nm, q, N, bs, sn, sb, ab, col, dd, k0, k1, k2, k3, k5, hC⟩ := e
  refine codeAny_call_builtin SF.slot.plain SF.entry (@check_slot (model pg w) _ _ { s with toks := s.toks + 1 } "object.__setattr__" "object" "__setattr__" (.ref x) [.str "message" s.toks, v] [] _ SF.kind SF.split sub (SF.args (.ref x) (.str "message" s.toks) v) ?_)
  have hmr : Looks (model pg w) s.heap (mroOf (.ref C)) (.ref C :: excTail) := ((Looks.ld (part := none) hC).andThen .now).andThen .now
  have Xl := looks_findIn (M := model pg w) X hm
  rw [osa_eq, refuse_eq]
  obtain ⟨hp, g, d, t, os⟩ := s
  have here : ∀ {α : Type} {M : Model} {A : Around} {E : Value → Shared → Prop} {m : Sem α} {r : α} {Q : α → Shared → Prop}, Looks M hp m r → Q r ⟨hp, g, d, t + 1, os⟩ → wpAny M A m Q E ⟨hp, g, d, t + 1, os⟩ := fun L q => L _ _ _ _ (fun _ _ e => e) q
  refine wpAny_bind (wpAny_bind (here t1 (wpAny_bind (here hmr ?_))))
  rw [err_refuse]
  refine wpAny_pure (wpAny_bind (here t1 (wpAny_bind (here Xl (wpAny_bind (wpAny_pure ?_))))))
  try dsimp only
  unfold storeInOwnDict
  refine wpAny_bind (wpAny_pure ?_)
  refine wpAny_bind ?_
  unfold ownDictForStores instanceDict
  refine wpAny_bind (wpAny_loadPart hx ?_)
  try dsimp only
  refine wpAny_bind (wpAny_bind (wpAny_load hC (wpAny_pure ?_)))
  rw [if_neg (by simp), if_neg (by simp [typeHasDict])]
  have hx₁ : (hp.push { cls := .type "dict", data := .dict #[] }).get? x = some (excObj C a0 none) := Heap.get?_push_of_some _ hx
  have hxs : x ≠ hp.objs.size := Nat.ne_of_lt (Heap.lt_size hx)
  refine wpAny_bind (wpAny_alloc' ?_)
  refine wpAny_bind (wpAny_update' hx₁ ?_)
  refine wpAny_pure ?_
  have hgd : ((hp.push { cls := .type "dict", data := .dict #[] }).update x fun o => { cls := o.cls, dict := some hp.objs.size, data := o.data, slots := o.slots }).get? hp.objs.size
      = some { cls := .type "dict", data := .dict #[] } :=
    (Heap.get?_update_ne _ _ _ _ hxs.symm).trans (Heap.get?_push_at rfl rfl)
  have hnd : ((hp.push { cls := .type "dict", data := .dict #[] }).update x fun o => { cls := o.cls, dict := some hp.objs.size, data := o.data, slots := o.slots }).Ns hp.objs.size (fun _ => none) :=
    ⟨_, #[], _, hgd, rfl, fun e he => absurd he (by simp), fun _ => rfl⟩
  show wpAny _ _ (storeInDict hp.objs.size (.str "message" t) "message" v) _ _ _
  unfold storeInDict newKeyGuard
  refine wpAny_bind (wpAny_pure (wpAny_bind (wpAny_nsSet1 (Heap.Ns1.of_empty hnd) fun h' hn' hs => ?_)))
  obtain ⟨oD, esD, epD, hoD, hdD, hcD⟩ := hn'.count (Within.cons "message" v Within.nil)
  refine wpAny_bind (wpAny_lookBehind hoD (by rw [hdD]; exact pastItsLine_dict (Nat.le_trans hcD (by rw [List.length_cons, List.length_nil, sizeLine_eq]; omega))) ?_)
  refine wpAny_pure ?_
  refine h h' _ hp.objs.size (fun b o hb ho => ?_) ?_
  · exact (hs.2 b (Nat.ne_of_lt (Heap.lt_size ho))).trans ((Heap.get?_update_ne _ _ _ _ hb).trans (Heap.get?_push_of_some _ ho))
  · exact (hs.2 x hxs).trans (Heap.get?_update_self _ hx₁ rfl)
end
noncomputable def eps19 {α1 α2 α3 α4 α5 α6 α7 α8 α9 α10 α11 α12 α13 α14 α15 α16 α17 α18 α19 : Type} {i : Nonempty (α1 × α2 × α3 × α4 × α5 × α6 × α7 × α8 × α9 × α10 × α11 × α12 × α13 × α14 × α15 × α16 × α17 × α18 × α19)} (p : α1 → α2 → α3 → α4 → α5 → α6 → α7 → α8 → α9 → α10 → α11 → α12 → α13 → α14 → α15 → α16 → α17 → α18 → α19 → Prop) : α1 × α2 × α3 × α4 × α5 × α6 × α7 × α8 × α9 × α10 × α11 × α12 × α13 × α14 × α15 × α16 × α17 × α18 × α19 := @Classical.epsilon _ i fun x => ¬ p x.1 x.2.1 x.2.2.1 x.2.2.2.1 x.2.2.2.2.1 x.2.2.2.2.2.1 x.2.2.2.2.2.2.1 x.2.2.2.2.2.2.2.1 x.2.2.2.2.2.2.2.2.1 x.2.2.2.2.2.2.2.2.2.1 x.2.2.2.2.2.2.2.2.2.2.1 x.2.2.2.2.2.2.2.2.2.2.2.1 x.2.2.2.2.2.2.2.2.2.2.2.2.1 x.2.2.2.2.2.2.2.2.2.2.2.2.2.1 x.2.2.2.2.2.2.2.2.2.2.2.2.2.2.1 x.2.2.2.2.2.2.2.2.2.2.2.2.2.2.2.1 x.2.2.2.2.2.2.2.2.2.2.2.2.2.2.2.2.1 x.2.2.2.2.2.2.2.2.2.2.2.2.2.2.2.2.2.1 x.2.2.2.2.2.2.2.2.2.2.2.2.2.2.2.2.2.2
theorem allE19 {α1 α2 α3 α4 α5 α6 α7 α8 α9 α10 α11 α12 α13 α14 α15 α16 α17 α18 α19 : Type} [i : Nonempty (α1 × α2 × α3 × α4 × α5 × α6 × α7 × α8 × α9 × α10 × α11 × α12 × α13 × α14 × α15 × α16 × α17 × α18 × α19)] {p : α1 → α2 → α3 → α4 → α5 → α6 → α7 → α8 → α9 → α10 → α11 → α12 → α13 → α14 → α15 → α16 → α17 → α18 → α19 → Prop} (h : p (eps19 (i := i) p).1 (eps19 (i := i) p).2.1 (eps19 (i := i) p).2.2.1 (eps19 (i := i) p).2.2.2.1 (eps19 (i := i) p).2.2.2.2.1 (eps19 (i := i) p).2.2.2.2.2.1 (eps19 (i := i) p).2.2.2.2.2.2.1 (eps19 (i := i) p).2.2.2.2.2.2.2.1 (eps19 (i := i) p).2.2.2.2.2.2.2.2.1 (eps19 (i := i) p).2.2.2.2.2.2.2.2.2.1 (eps19 (i := i) p).2.2.2.2.2.2.2.2.2.2.1 (eps19 (i := i) p).2.2.2.2.2.2.2.2.2.2.2.1 (eps19 (i := i) p).2.2.2.2.2.2.2.2.2.2.2.2.1 (eps19 (i := i) p).2.2.2.2.2.2.2.2.2.2.2.2.2.1 (eps19 (i := i) p).2.2.2.2.2.2.2.2.2.2.2.2.2.2.1 (eps19 (i := i) p).2.2.2.2.2.2.2.2.2.2.2.2.2.2.2.1 (eps19 (i := i) p).2.2.2.2.2.2.2.2.2.2.2.2.2.2.2.2.1 (eps19 (i := i) p).2.2.2.2.2.2.2.2.2.2.2.2.2.2.2.2.2.1 (eps19 (i := i) p).2.2.2.2.2.2.2.2.2.2.2.2.2.2.2.2.2.2) : ∀ x1 x2 x3 x4 x5 x6 x7 x8 x9 x10 x11 x12 x13 x14 x15 x16 x17 x18 x19, p x1 x2 x3 x4 x5 x6 x7 x8 x9 x10 x11 x12 x13 x14 x15 x16 x17 x18 x19 := fun x1 x2 x3 x4 x5 x6 x7 x8 x9 x10 x11 x12 x13 x14 x15 x16 x17 x18 x19 => Classical.byContradiction fun nx =>
  @Classical.epsilon_spec _ (fun x : α1 × α2 × α3 × α4 × α5 × α6 × α7 × α8 × α9 × α10 × α11 × α12 × α13 × α14 × α15 × α16 × α17 × α18 × α19 => ¬ p x.1 x.2.1 x.2.2.1 x.2.2.2.1 x.2.2.2.2.1 x.2.2.2.2.2.1 x.2.2.2.2.2.2.1 x.2.2.2.2.2.2.2.1 x.2.2.2.2.2.2.2.2.1 x.2.2.2.2.2.2.2.2.2.1 x.2.2.2.2.2.2.2.2.2.2.1 x.2.2.2.2.2.2.2.2.2.2.2.1 x.2.2.2.2.2.2.2.2.2.2.2.2.1 x.2.2.2.2.2.2.2.2.2.2.2.2.2.1 x.2.2.2.2.2.2.2.2.2.2.2.2.2.2.1 x.2.2.2.2.2.2.2.2.2.2.2.2.2.2.2.1 x.2.2.2.2.2.2.2.2.2.2.2.2.2.2.2.2.1 x.2.2.2.2.2.2.2.2.2.2.2.2.2.2.2.2.2.1 x.2.2.2.2.2.2.2.2.2.2.2.2.2.2.2.2.2.2) ⟨(x1, x2, x3, x4, x5, x6, x7, x8, x9, x10, x11, x12, x13, x14, x15, x16, x17, x18, x19), nx⟩ h
section
variable {w : World} {A A₀ : Around} {base g : Heap} {outer : List Env} {s : Shared} {mn : List (Addr × Obj)}
  {p : Program} {loose : List Str} {mean : ExcName → Option Value} {mg mb : Str → Option Value} {R : Result → Shared → Prop}
theorem err_init {C x a0 : Addr} {v : Value} (H : Pre p loose mean mg mb w A base outer g s [(x, excObj C a0 none)]) (hd : Room A 0) (e : ErrCls g C) (hs : findIn (K w.params) (.ref C) "__setattr__" = some (some (.builtin "object.__setattr__")))
    (hm : findIn (K w.params) (.ref C) "message" = some none)
    (k : ∀ dx h' tk, Post g h' [(x, excObj C a0 (some dx))] → R (.ok (.ret .none)) { s with heap := h', toks := tk }) :
    codeAny (model PySem.Challenge.rw_nt0105_01.row.prog w) A (.call (.ref 35) ⟨[.ref x, v], []⟩) R s := by
  k_extra "my enter"
  k_extra "my steps"
  have z := N _ (.head _)
  refine set_exc (s := ⟨_, _, _, _, _⟩) (X.keeps F.keep) (e.keeps F.keep) hs hm z.1 fun h' tk dx hk hx' => ?_
  have F' : Fr g L' h' _ := ⟨F.ns.at' fun o e => hk _ o (fun q => z.2.1 q.symm) e, fun b o e => hk b o (fun q => by rw [q, z.2.2] at e; cases e) (F.keep b o e), F.above⟩
  have N' : News g L' h' [(x, excObj C a0 (some dx))] := fun q hq => by
    rw [List.mem_singleton.mp hq]; exact ⟨hx', z.2⟩
  clear F N
  try dsimp only
  k_extra "my steps"
  exact k _ _ _ (by k_extra "my post")
noncomputable def MadeX (h h' : Heap) (e C : Addr) : Prop := h.StaysIn h' ∧ h.get? e = none ∧ ∃ a0 dd, h'.get? e = some (excObj C a0 dd)
theorem make_X {C : Addr} {v : Value} {env : Env} {L : Addr} {m : Str → Option Value} {Q : Value → Shared → Prop} {E : Value → Shared → Prop} (B₀ : Below A₀ base outer g) (hA : A.frames = some (env :: outer)) (hfr : env.frame = some L) (hck : env.scope.kind = .function)
    (X : (K w.params).In g) (T : Top p loose mean mg mb g) (F : Fr g L s.heap m) (hC : C = 51 ∨ C = 63) (hr : Room A 1)
    (h : ∀ h' tk e, MadeX s.heap h' e C → Q (.ref e) { s with heap := h', toks := tk }) :
    wpAny (model PySem.Challenge.rw_nt0105_01.row.prog w) A (call (.ref C) [v]) Q E s := by
  revert w A A₀ base g outer s p loose mean mg mb C v env L m Q E; refine (?zcG13 : CloT _ ?zcH13); refine @(allE19 (i := ⟨(world0, {}, {}, default, default, default, {}, default, default, default, default, default, default, default, default, default, default, default, default)⟩) ?_); apply ?zcH13; intro w A A₀ base g outer s p loose mean mg mb C v env L m Q E; intro B₀ hA hfr hck X T F hC hr h
  obtain ⟨hh, gg, d, t, os⟩ := s
  have Xs : (K w.params).In hh := X.keeps F.keep
  have e : ErrCls hh C := by rcases hC with rfl | rfl; exact err51 Xs; exact err63 Xs
  have n1 := (News.nil (h₀ := g) (L := L) (h := hh)).push F { cls := .type "tuple", data := .seq [v].toArray }
  have F1 := F.push { cls := .type "tuple", data := .seq [v].toArray }
  have n2 := n1.push F1 (excObj C hh.objs.size none)
  have F2 := F1.push (excObj C hh.objs.size none)
  rw [Heap.size_push] at n2
  have k12 : hh.StaysIn ((hh.push { cls := .type "tuple", data := .seq [v].toArray }).push (excObj C hh.objs.size none)) := fun b o e => Heap.get?_push_of_some _ (Heap.get?_push_of_some _ e)
  have P := pre_call (A := A.under (.builtin "type.__call__" ⟨.ref C :: [v], []⟩)) (s := ⟨_, gg, d, t, os⟩) B₀ (frames_make.trans hA) hfr hck X T F2 n2 (mn := [(hh.objs.size + 1, excObj C hh.objs.size none)]) (fun q hq => by rw [List.mem_singleton.mp hq]; exact .head _)
  have eg : ErrCls (hideAll ((hh.push { cls := .type "tuple", data := .seq [v].toArray }).push (excObj C hh.objs.size none)) [hh.objs.size + 1]) C := by rcases hC with rfl | rfl; exact err51 P.X; exact err63 P.X
  have fin : ∀ dx h' tk, Post (hideAll ((hh.push { cls := .type "tuple", data := .seq [v].toArray }).push (excObj C hh.objs.size none)) [hh.objs.size + 1]) h' [(hh.objs.size + 1, excObj C hh.objs.size (some dx))] → Q (.ref (hh.objs.size + 1)) ⟨h', gg, d, tk, os⟩ := fun dx h' tk P' =>
    h h' tk _ ⟨fun b o e => P'.S b o (hideAll_get _ (k12 b o e) fun hb => by
      have := Heap.lt_size e
      rw [List.mem_singleton.mp hb] at this
      exact absurd this (Nat.not_lt.mpr (Nat.le_succ _))), Heap.get?_none_of_le (Nat.le_succ _), _, _, (P'.N _ (.head _)).1⟩
  refine wpAny_call ?_
  rcases hC with rfl | rfl
  · refine err_make e (looks_specialIn Xs (by k_is)) (looks_instIn Xs (by k_is)) (looks_findIn Xs (by k_is)) (fun self => bind_fn Xs self (by k_is)) ?_ (by rw [sizeLine_eq]; show 1 ≤ _; omega)
    exact err_init P (hr.make (Nat.lt_succ_self _)) eg (by k_is) (by k_is) fun dx h' tk P' => ⟨rfl, fin dx h' tk P'⟩
  · refine err_make e (looks_specialIn Xs (by k_is)) (looks_instIn Xs (by k_is)) (looks_findIn Xs (by k_is)) (fun self => bind_fn Xs self (by k_is)) ?_ (by rw [sizeLine_eq]; show 1 ≤ _; omega)
    exact err_init P (hr.make (Nat.lt_succ_self _)) eg (by k_is) (by k_is) fun dx h' tk P' => ⟨rfl, fin dx h' tk P'⟩
end
noncomputable def eps12 {α1 α2 α3 α4 α5 α6 α7 α8 α9 α10 α11 α12 : Type} {i : Nonempty (α1 × α2 × α3 × α4 × α5 × α6 × α7 × α8 × α9 × α10 × α11 × α12)} (p : α1 → α2 → α3 → α4 → α5 → α6 → α7 → α8 → α9 → α10 → α11 → α12 → Prop) : α1 × α2 × α3 × α4 × α5 × α6 × α7 × α8 × α9 × α10 × α11 × α12 := @Classical.epsilon _ i fun x => ¬ p x.1 x.2.1 x.2.2.1 x.2.2.2.1 x.2.2.2.2.1 x.2.2.2.2.2.1 x.2.2.2.2.2.2.1 x.2.2.2.2.2.2.2.1 x.2.2.2.2.2.2.2.2.1 x.2.2.2.2.2.2.2.2.2.1 x.2.2.2.2.2.2.2.2.2.2.1 x.2.2.2.2.2.2.2.2.2.2.2
theorem allE12 {α1 α2 α3 α4 α5 α6 α7 α8 α9 α10 α11 α12 : Type} [i : Nonempty (α1 × α2 × α3 × α4 × α5 × α6 × α7 × α8 × α9 × α10 × α11 × α12)] {p : α1 → α2 → α3 → α4 → α5 → α6 → α7 → α8 → α9 → α10 → α11 → α12 → Prop} (h : p (eps12 (i := i) p).1 (eps12 (i := i) p).2.1 (eps12 (i := i) p).2.2.1 (eps12 (i := i) p).2.2.2.1 (eps12 (i := i) p).2.2.2.2.1 (eps12 (i := i) p).2.2.2.2.2.1 (eps12 (i := i) p).2.2.2.2.2.2.1 (eps12 (i := i) p).2.2.2.2.2.2.2.1 (eps12 (i := i) p).2.2.2.2.2.2.2.2.1 (eps12 (i := i) p).2.2.2.2.2.2.2.2.2.1 (eps12 (i := i) p).2.2.2.2.2.2.2.2.2.2.1 (eps12 (i := i) p).2.2.2.2.2.2.2.2.2.2.2) : ∀ x1 x2 x3 x4 x5 x6 x7 x8 x9 x10 x11 x12, p x1 x2 x3 x4 x5 x6 x7 x8 x9 x10 x11 x12 := fun x1 x2 x3 x4 x5 x6 x7 x8 x9 x10 x11 x12 => Classical.byContradiction fun nx =>
  @Classical.epsilon_spec _ (fun x : α1 × α2 × α3 × α4 × α5 × α6 × α7 × α8 × α9 × α10 × α11 × α12 => ¬ p x.1 x.2.1 x.2.2.1 x.2.2.2.1 x.2.2.2.2.1 x.2.2.2.2.2.1 x.2.2.2.2.2.2.1 x.2.2.2.2.2.2.2.1 x.2.2.2.2.2.2.2.2.1 x.2.2.2.2.2.2.2.2.2.1 x.2.2.2.2.2.2.2.2.2.2.1 x.2.2.2.2.2.2.2.2.2.2.2) ⟨(x1, x2, x3, x4, x5, x6, x7, x8, x9, x10, x11, x12), nx⟩ h
section
variable {w : World} {A : Around} {s : Shared} {E : Value → Shared → Prop} {Q : Flow → Shared → Prop} {env : Env}
theorem raise_X {x : Str} {C : Addr} {np cpos pos : Pos} {arg : PySem.Expr} (hh : A.handled = none) 
    (h : wpAny (model PySem.Challenge.rw_nt0105_01.row.prog w) A (eval (.Name x np) env) (fun f s₁ => f = .ref C ∧ wpAny (model PySem.Challenge.rw_nt0105_01.row.prog w) A (eval arg env) (fun v s₂ => ErrCls s₂.heap C ∧
      wpAny (model PySem.Challenge.rw_nt0105_01.row.prog w) A (call (.ref C) [v]) (fun r s₃ => ∃ e, r = .ref e ∧ MadeX s₂.heap s₃.heap e C ∧ E (.ref e) s₃) E s₂) E s₁) E s)
    (he : starEach [arg] env = [(false, eval arg env)] := by rfl) :
    wpAny (model PySem.Challenge.rw_nt0105_01.row.prog w) A (exec (.Raise (some (.Call (.Name x np) [arg] [] cpos)) none pos) env) Q E s := by
  revert w A s E Q env x C np cpos pos arg; refine (?zcG14 : CloT _ ?zcH14); refine @(allE12 (i := ⟨(world0, {}, {}, default, default, default, default, default, default, default, default, default)⟩) ?_); apply ?zcH14; intro w A s E Q env x C np cpos pos arg; intro hh h he
  rw [arm_exec_Raise]
  have hplain : (backTo cpos (starEach [arg] env)).any (·.1) = false := by rw [he]; rfl
  simp only [evalOpt, Option.map]
  refine wpAny_bind (wpAny_standAt ?_)
  unfold raiseStmt
  refine wpAny_bind (wpAny_mono (Q := fun r s₃ => ∃ e a0 dd, r = .ref e ∧ ErrCls s₃.heap C ∧ s₃.heap.get? e = some (excObj C a0 dd) ∧ E (.ref e) s₃) ?_ (fun r s₃ h₃ => ?_) fun _ _ x => x)
  · refine wpAny_bind (wpAny_mono (wpAny_Call_ofName (wpAny_mono h (fun f s₁ h₁ => ?_) fun _ _ x => x)) (fun v s₃ h₃ => wpAny_bind (wpAny_standAt (wpAny_pure h₃))) fun _ _ x => x)
    obtain ⟨rfl, h₁⟩ := h₁
    unfold callWith
    refine wpAny_bind (wpAny_holding (wpAny_mono (Q := fun a s₂ => a.kw = [] ∧ ErrCls s₂.heap C ∧ wpAny (model PySem.Challenge.rw_nt0105_01.row.prog w) A (call (.ref C) a.pos) (fun r s₃ => ∃ e, r = .ref e ∧ MadeX s₂.heap s₃.heap e C ∧ E (.ref e) s₃) E s₂) ?_ (fun a s₂ h₂ => wpAny_bind (wpAny_standAt ?_)) fun _ _ x => x))
    · rw [he]
      exact Calls.evalArgs_plain (Calls.spliced_cons (wpAny_mono h₁ (fun v s₂ h₂ => Calls.spliced_nil ⟨rfl, h₂⟩) fun _ _ x => x))
    · obtain ⟨apos, akw⟩ := a
      obtain ⟨hkw, hC, h₂⟩ := h₂
      obtain rfl : akw = [] := hkw
      obtain ⟨hp, g, d, tk, os⟩ := s₂
      simp only [hplain]
      have hC' := hC
      obtain ⟨nm, q, N, bs, sn, sb, ab, col, dd, k0, k1, k2, k3, k5, hC⟩ := hC
      refine wpAny_bind (wpAny_keeperOf_exc hC ?_)
      refine wpAny_bind (wpAny_mono h₂ (fun r s₃ h₃ => wpAny_bind (wpAny_holding (wpAny_point (wpAny_pure ?_)))) fun _ _ x => x)
      obtain ⟨e, rfl, hm, hE⟩ := h₃
      obtain ⟨a0, dx, he⟩ := hm.2.2
      exact ⟨e, a0, dx, rfl, hC'.keeps hm.1, he, hE⟩
  · obtain ⟨e, a0, dd, rfl, hC, he, hE⟩ := h₃
    have cX := err_X C
    obtain ⟨nm, q, N, bs, sn, sb, ab, col, dd', k0, k1, k2, k3, k5, hC⟩ := hC
    obtain ⟨hp, g, d, tk, os⟩ := s₃
    repeat (first | with_reducible refine wpAny_loadPart_at he ?_ | with_reducible refine wpAny_loadPart_at hC ?_ | (with_reducible refine wpAny_isSubtype_exc hC ?_; rw [cX]) | k_extra "my wp")
    exact wpAny_raiseNew_none hh hE
end

section
noncomputable def RaisedX (base g : Heap) (l : List Env) (e C : Addr) (h : Heap) : Prop :=
  (∃ B a0, base.StaysIn B ∧ (∀ b o, g.get? b = some o → b ∉ l.filterMap (·.frame) → B.get? b = some o) ∧ Heap.FlyingW B l e (.ref C) a0 h) ∧ g.UpToSlots h
variable {M : Model} {A : Around} {E : Value → Shared → Prop} {s' : Shared} {base g g₂ h : Heap} {outer : List Env} {L e C : Addr} {m : Str → Option Value} {env : Env} {Q : Unit → Shared → Prop}
theorem frame_mem {b : Addr} (hf : env.frame = some L) (hm : b ∈ (env :: outer).filterMap (·.frame)) : b = L ∨ b ∈ outer.filterMap (·.frame) := by
  obtain ⟨env', he, hf'⟩ := List.mem_filterMap.mp hm
  rcases List.mem_cons.mp he with rfl | he
  · exact .inl (Option.some.inj (hf'.symm.trans hf))
  · exact .inr (List.mem_filterMap.mpr ⟨env', he, hf'⟩)
theorem leave_X (K : Below A base outer g) (hx : MadeX h s'.heap e C) (F : Fr g L h m) (hf : env.frame = some L) (hk : env.scope.kind = .function)
    (hQ : ∀ h', RaisedX base g outer e C h' → Q () { s' with heap := h' }) : wpAny M (A.deeper env) (leaving env (.ref e)) Q E s' := by
  have K' := pushX K F hf hk
  obtain ⟨hx1, hx2, a0, dd, hx3⟩ := hx
  have hin : ∀ v ∈ (env :: outer), ∀ b, v.frame = some b → b ∈ (env :: outer).filterMap (·.frame) := fun v he b hb => List.mem_filterMap.mpr ⟨v, he, hb⟩
  have st : base.StaysIn (hideAll h ((env :: outer).filterMap (·.frame))) := fun b o q => hideAll_get _ (K'.stays b o q) fun hm => by
    rw [(K'.frames.mem hm).1] at q; cases q
  have sg : ∀ b o, g.get? b = some o → b ∉ outer.filterMap (·.frame) → (hideAll h ((env :: outer).filterMap (·.frame))).get? b = some o := fun b o q nm => hideAll_get _ (F.keep b o q) fun hm => by
    rcases frame_mem hf hm with z | z
    · rw [z, kts_self F] at q; cases q
    · exact nm z
  have fresh : ∀ b, h.get? b = none → (hideAll h ((env :: outer).filterMap (·.frame))).get? b = none := fun b hb => by
    cases hq : (hideAll h ((env :: outer).filterMap (·.frame))).get? b with
    | none => rfl
    | some o' => have := of_hideAll _ hq; rw [hb] at this; cases this
  refine wpAny_leaving_firstW (a0 := .ref a0) (base := hideAll h ((env :: outer).filterMap (·.frame))) K'.stack ((funFrames_hide K'.frames hin).of_keeps fun b o hb _ => ⟨o, hx1 b o hb, rfl⟩) hf hx3 (fun b o hb => hx1 b o (of_hideAll _ hb)) (fresh e hx2) rfl rfl rfl fun h' hL => ?_
  obtain ⟨k1, ⟨_, _, k2⟩, k3, k4⟩ := hL
  exact hQ h' ⟨⟨_, _, st, sg, k1, fresh e hx2, k2, k3⟩, ((Heap.UpToSlots.of_keeps F.keep).trans (Heap.UpToSlots.of_keeps hx1)).trans k4⟩
theorem leave_onX (K : Below A base outer g) (F : Fr g L g₂ m) (R : RaisedX base g₂ (env :: outer) e C s'.heap) (hf : env.frame = some L)
    (hQ : ∀ h', RaisedX base g outer e C h' → Q () { s' with heap := h' }) : wpAny M (A.deeper env) (leaving env (.ref e)) Q E s' := by
  obtain ⟨⟨B, a0, hB, hBG, hfl⟩, hsm⟩ := R
  refine wpAny_leaves_onW (Around.frames_deeper K.stack) hf hfl fun h' x1 x2 => hQ h' ⟨⟨B, a0, hB, fun b o q nm => hBG b o (F.keep b o q) fun hm => ?_, x1⟩, (Heap.UpToSlots.of_keeps F.keep).trans (hsm.trans x2)⟩
  rcases frame_mem hf hm with z | z
  · rw [z, kts_self F] at q; cases q
  · exact nm z
end
-- LINES
theorem words_37_41 : True := by
  k_with "my raise" => ((with_reducible show wpAny _ _ (exec (Stmt.Raise (some (Expr.Call (Expr.Name _ _) [_] [] _)) none _) _) _ _ _); k_dflt (first
    | ((with_reducible show wpAny _ _ (exec (Stmt.Raise (some (Expr.Call (Expr.Name "CorruptError" _) _ _ _)) none _) _) _ _ _); refine' raise_X (C := 51) ?zhh ?_ ?zhe)
    | ((with_reducible show wpAny _ _ (exec (Stmt.Raise (some (Expr.Call (Expr.Name "MisuseError" _) _ _ _)) none _) _) _ _ _); refine' raise_X (C := 63) ?zhh ?_ ?zhe)); (case zhh => k_extra "my hh"); (case zhe => rfl))
  k_with "exec Raise some none" => (k_dflt (first | (exfalso; omega) | k_extra "my raise"))
  k_with "ErrCls" => (k_dflt (first | exact err51 (Frag.In.keeps (by assumption) (Fr.keep (by k_asm))) | exact err63 (Frag.In.keeps (by assumption) (Fr.keep (by k_asm)))))
  k_with "z call ref" => ((first | (with_reducible show wpAny _ _ (call (Value.ref 51) [_]) _ _ _) | (with_reducible show wpAny _ _ (call (Value.ref 63) [_]) _ _ _)); k_dflt (refine' make_X ?zB ?zA ?zfr ?zck ?zX ?zT ?zF ?zC ?zr ?_; (case zB => assumption); (case zA => exact Around.frames_deeper (Below.stack (by assumption))); (case zfr => rfl); (case zck => rfl); (case zX => assumption); (case zT => assumption); (case zF => k_asm); (case zC => first | exact Or.inl rfl | exact Or.inr rfl); (case zr => k_extra "my depth")); intro h' tk' e' M'; refine ⟨_, rfl, M', ?_⟩; (try dsimp only))
  k_with "leaving ref" => (k_dflt (refine' leave_X ?zK ?zM ?zF ?zf ?zk ?_; (case zK => assumption); (case zM => assumption); (case zF => assumption); (case zf => rfl); (case zk => rfl)); intro h' R'; (try dsimp only))
  trivial
-- END LINES
section
variable {w : World} {A : Around} {base g : Heap} {outer : List Env} {s : Shared}
  {p : Program} {loose : List Str} {mean : ExcName → Option Value} {mg mb : Str → Option Value} {R : Result → Shared → Prop}
  {st pg fl : Addr} {vs : List Value} {n : Nat} {P : List (List UInt8)} {ps : Nat}
theorem look_at_link_raise {t1 : Tok} (H : Pre p loose mean mg mb w A base outer g s []) (hd : Room A 2) (S : IsStore g st pg (ps : Int)) (hpg : g.get? pg = some (listOf vs.toArray n)) (hn : vs.length < 1000)
  (k : ∀ e h' tk, RaisedX base g outer e 51 h' → R (.error (.ref e)) { s with heap := h', toks := tk }) :
  codeAny (model PySem.Challenge.rw_nt0105_01.row.prog w) A (.call (.ref 199) ⟨[.ref st, .int 0 t1], []⟩) R s := by
  have S' := S
  have hpl := isl_got hpg
  k_extra "my enter"
  k_extra "my steps"
  exact k _ _ _ (by assumption)
end

section
variable {w : World} {A : Around} {base g : Heap} {outer : List Env} {s : Shared}
  {p : Program} {loose : List Str} {mean : ExcName → Option Value} {mg mb : Str → Option Value} {R : Result → Shared → Prop}
  {st pg fl : Addr} {vs : List Value} {n : Nat} {P : List (List UInt8)} {ps : Nat}
theorem give_raise {page : Int} {t0 : Tok} (H : Pre p loose mean mg mb w A base outer g s []) (hd : Room A 2) (IF : IsFree g fl st) (S : IsStore g st pg (ps : Int)) (hpg : g.get? pg = some (listOf vs.toArray n)) (hn : vs.length < 1000)
  (h0 : 0 ≤ page) (h1 : page < 1010) (hw : page < 2 ∨ vs.length < page)
  (k : ∀ e h' tk, RaisedX base g outer e 63 h' → R (.error (.ref e)) { s with heap := h', toks := tk }) :
  codeAny (model PySem.Challenge.rw_nt0105_01.row.prog w) A (.call (.ref 138) ⟨[.ref fl, .int page t0], []⟩) R s := by
  revert w A base g outer s p loose mean mg mb R st pg fl vs n ps page t0; refine @(close8 ?_); generalize cx8 _ = X; k_extra "my ctx"; generalize X.2.1 = st, X.2.2.1 = pg, X.2.2.2.1 = fl, X.2.2.2.2.1 = vs, X.2.2.2.2.2.1 = n, X.2.2.2.2.2.2.1 = ps, X.2.2.2.2.2.2.2.1 = page, X.2.2.2.2.2.2.2.2 = t0; intro H hd IF S hpg hn h0 h1 hw k
  have S' := S
  have IF' := IF
  have hpl := isl_got hpg
  k_extra "my enterX"
  k_extra "my steps"
  all_goals exact k _ _ _ (by assumption)
end
-- LINES
theorem words_38_42 : True := by
  k_with "leaving ref" => (k_dflt (refine' leave_onX ?zK ?zF ?zR ?zf ?_; (case zK => assumption); (case zR => assumption); (case zF => assumption); (case zf => rfl)); intro h' R'; (try dsimp only))
  k_with "z call ref" => ((with_reducible show wpAny _ _ (call (Value.ref 199) [_, Value.int 0 _]) _ _ _); refine my_call ?_; k_dflt (refine' look_at_link_raise ?zH ?zd (IsStore.keeps ?zS ?zS2) ?zgot ?zn ?_; (case zS => assumption); (case zH => k_extra "my pre0"); (case zS2 => k_extra "my stays0"); (case zgot => k_extra "my got"); (case zd => k_extra "my depth"); (case zn => k_extra "my len")); intro e' h' tk' R'; (try dsimp only))
  trivial
-- END LINES
section
variable {w : World} {A : Around} {base g : Heap} {outer : List Env} {s : Shared}
  {p : Program} {loose : List Str} {mean : ExcName → Option Value} {mg mb : Str → Option Value} {R : Result → Shared → Prop}
  {st pg : Addr} {vs : List Value} {n : Nat} {P : List (List UInt8)} {ps : Nat} {pgs : List Nat} {o : List UInt8}
theorem chain_of_size_raise {sz : Int} {m : Nat} {t1 t2 : Tok} (H : Pre p loose mean mg mb w A base outer g s []) (hd : Room A 3) (S : IsStore g st pg (ps : Int)) (hpg : g.get? pg = some (listOf vs.toArray n)) (hP : BytesAre vs P) (hn : P.length < 900) (hps : 64 ≤ ps) (hps2 : ps ≤ 128)
  (C : Chain P ps pgs o) (hnd : pgs.Nodup) (hsz0 : 0 ≤ sz) (hsz1 : sz < 100000) (hcd : (sz + ((ps : Int) - 4) - 1) / ((ps : Int) - 4) = (m : Nat)) (hm : m = pgs.length + 1 ∨ m + 1 = pgs.length)
  (k : ∀ e h' tk, RaisedX base g outer e 51 h' → R (.error (.ref e)) { s with heap := h', toks := tk }) :
  codeAny (model PySem.Challenge.rw_nt0105_01.row.prog w) A (.call (.ref 213) ⟨[.ref st, .int (hd0 pgs : Nat) t1, .int sz t2], []⟩) R s := by
  revert w A base g outer s p loose mean mg mb R st pg vs n P ps pgs o sz m t1 t2; refine @(close12 ?_); generalize cx12 _ = X; k_extra "my ctx"; generalize X.2.1 = st, X.2.2.1 = pg, X.2.2.2.1 = vs, X.2.2.2.2.1 = n, X.2.2.2.2.2.1 = P, X.2.2.2.2.2.2.1 = ps, X.2.2.2.2.2.2.2.1 = pgs, X.2.2.2.2.2.2.2.2.1 = o, X.2.2.2.2.2.2.2.2.2.1 = sz, X.2.2.2.2.2.2.2.2.2.2.1 = m, X.2.2.2.2.2.2.2.2.2.2.2.1 = t1, X.2.2.2.2.2.2.2.2.2.2.2.2 = t2; intro H hd S hpg hP hn hps hps2 C hnd hsz0 hsz1 hcd hm k
  have S' := S
  have hl := hP.length
  have hcb := nodup_bound hnd C.mem
  k_extra "my enterX"
  k_extra "my steps"
  refine For_here ?_
  k_extra "my steps"
  with_reducible rename News _ _ _ _ => N'
  with_reducible rename Fr _ _ _ _ => F'
  refine' for_rangeF (n := m) (stored := [Str.ofString "k"]) (ps₀ := [(Str.ofString "page", .int (hd0 (pgs.drop 0) : Nat) _), (Str.ofString "pages", .ref _)]) (led₀ := [(_, listOf (List.toArray []) 0)])
    (fun i ps' led => ∃ (f : Addr) (fvs : List Value) (nf : Nat) (tt : Tok), i ≤ pgs.length ∧ IntsAre fvs (nInts (pgs.take i)) ∧ ps' = [(Str.ofString "page", .int (hd0 (pgs.drop i) : Nat) tt), (Str.ofString "pages", .ref f)] ∧ led = [(f, listOf fvs.toArray nf)])
    ?vh F' ?vN (by assumption) hcd (by omega) ?vps ?vj ?vt ?vd
  case vh => k_extra "my hh"
  case vps => k_extra "my ps"
  case vj =>
    refine' ⟨?ff, [], 0, ?ft, Nat.zero_le _, .nil, ?fB, ?fC⟩
    case fB => exact rfl
    case fC => exact rfl
  case vN => exact N'.perm (by k_extra "my sub")
  case vt =>
    rintro i ti ps' led u h tk I oI hi0 ⟨f, fvs, nf, tt, hil, hfv, rfl, rfl⟩ Fw Nw ne
    clear F' N'
    have hfl := hfv.length
    rw [List.length_map, List.length_take] at hfl
    rcases Nat.lt_or_ge i pgs.length with hi | hge
    · obtain ⟨part, hp1, hp2⟩ := C.get i hi
      have hnr : hd0 (pgs.drop (i + 1)) ≤ P.length := by
        rcases Nat.lt_or_ge (i + 1) pgs.length with h | h
        · rw [hd0_drop _ _ h]; exact (C.mem _ (List.getElem_mem h)).2
        · rw [List.drop_eq_nil_of_le h]; exact Nat.zero_le _
      have e1 := (congrArg be (link_nxt ps (hd0 (pgs.drop (i + 1))) part)).trans (be_b4 (by omega))
      have e3 := linkL_len (ps := ps) (nxt := hd0 (pgs.drop (i + 1))) (part := part) (by omega)
      have hx := C.mem _ (List.getElem_mem hi)
      have hb : P[((pgs[i] : Int) - 1).toNat]? = some (linkL ps (hd0 (pgs.drop (i + 1))) part) := by rw [show ((pgs[i] : Int) - 1).toNat = pgs[i] - 1 by omega]; exact hp2
      have hnm := not_in_take hnd i hi
      have htn := take_next i hi
      rw [hd0_drop _ _ hi] at Fw
      generalize linkL ps (hd0 (pgs.drop (i + 1))) part = oc at *
      generalize pgs[i] = x at *
      k_extra "my apne"
      k_extra "my steps"
      with_reducible rename Fr _ _ _ _ => F2
      (try dsimp +zetaDelta only at F2)
      rw [e1] at F2
      rw [htn]
      k_extra "my turn"
      refine' ⟨rfl, _, _, _, _, hi, ints_snocN hfv x _, rfl, rfl⟩
      k_extra "my turned"
    · obtain rfl : i = pgs.length := by omega
      rw [hd0_end, Int.natCast_zero] at Fw
      k_extra "my apne"
      k_extra "my steps"
      exact k _ _ _ (by assumption)
  case vd =>
    rintro ps' led u h tk ⟨f, fvs, nf, tt, hil, hfv, rfl, rfl⟩ Fw Nw
    clear F' N'
    have hi : m < pgs.length := by omega
    have hx := C.mem _ (List.getElem_mem hi)
    rw [hd0_drop _ _ hi] at Fw
    generalize pgs[m] = x at *
    try dsimp only
    k_extra "my steps"
    exact k _ _ _ (by assumption)
end

inductive ReadRJ (P : List (List UInt8)) (ps sz : Nat) (pgs : List Nat) (left : Nat) (ps' : List (Str × Value)) (led : List (Addr × Obj)) : Prop
  | mk : ∀ (rem : List Nat) (o' : List UInt8) (f : Addr) (pvs : List Value) (nf : Nat) (tt tl : Tok), Chain P ps rem o' → left = rem.length * (ps - 4) + 1 → left ≤ sz → pvs.length + rem.length = pgs.length → ps' = [(Str.ofString "page", .int (hd0 rem : Nat) tt), (Str.ofString "left", .int (left : Nat) tl), (Str.ofString "parts", .ref f)] → led = [(f, listOf pvs.toArray nf)] → ReadRJ P ps sz pgs left ps' led
section
variable {w : World} {A : Around} {base g : Heap} {outer : List Env} {s : Shared}
  {p : Program} {loose : List Str} {mean : ExcName → Option Value} {mg mb : Str → Option Value} {R : Result → Shared → Prop}
  {st pg : Addr} {vs : List Value} {n : Nat} {P : List (List UInt8)} {ps : Nat} {pgs : List Nat} {o : List UInt8}
theorem part_full {ps nxt left : Nat} {part : List UInt8} (hp : 4 + part.length ≤ ps) (hl : ps - 4 ≤ left) :
    (((linkL ps nxt part).drop 4).take ((4 + (left : Int)).toNat - 4)).length = ps - 4 := by
  rw [link_part, ar_tnA, List.length_take, List.length_append, List.length_replicate]; omega
theorem read_chain_raise {sz : Nat} {t1 t2 : Tok} (H : Pre p loose mean mg mb w A base outer g s []) (hd : Room A 3) (S : IsStore g st pg (ps : Int)) (hpg : g.get? pg = some (listOf vs.toArray n)) (hP : BytesAre vs P) (hn : P.length < 900) (hps : 64 ≤ ps) (hps2 : ps ≤ 128)
  (C : Chain P ps pgs o) (hnd : pgs.Nodup) (hsz : sz = pgs.length * (ps - 4) + 1) (hol : sz < 200000)
  (k : ∀ e h' tk, RaisedX base g outer e 51 h' → R (.error (.ref e)) { s with heap := h', toks := tk }) :
  codeAny (model PySem.Challenge.rw_nt0105_01.row.prog w) A (.call (.ref 206) ⟨[.ref st, .int (hd0 pgs : Nat) t1, .int (sz : Int) t2], []⟩) R s := by
  revert w A base g outer s p loose mean mg mb R st pg vs n P ps pgs o sz t1 t2; refine @(close11 ?_); generalize cx11 _ = X; k_extra "my ctx"; generalize X.2.1 = st, X.2.2.1 = pg, X.2.2.2.1 = vs, X.2.2.2.2.1 = n, X.2.2.2.2.2.1 = P, X.2.2.2.2.2.2.1 = ps, X.2.2.2.2.2.2.2.1 = pgs, X.2.2.2.2.2.2.2.2.1 = o, X.2.2.2.2.2.2.2.2.2.1 = sz, X.2.2.2.2.2.2.2.2.2.2.1 = t1, X.2.2.2.2.2.2.2.2.2.2.2 = t2; intro H hd S hpg hP hn hps hps2 C hnd hsz hol k
  have S' := S
  have hl := hP.length
  have hcb := nodup_bound hnd C.mem
  k_extra "my enterX"
  k_extra "my steps"
  with_reducible rename News _ _ _ _ => N'
  with_reducible rename Fr _ _ _ _ => F'
  refine' while_G (stored := [Str.ofString "octets", Str.ofString "part"]) (n₀ := sz) (ps₀ := [(Str.ofString "page", .int (hd0 pgs : Nat) _), (Str.ofString "left", .int (sz : Nat) _), (Str.ofString "parts", .ref _)]) (led₀ := [(_, listOf (List.toArray []) 0)])
    (fun left ps' led => ReadRJ P ps sz pgs left ps' led)
    F' ?vN ?vps ?vj ?vturn
  case vps => k_extra "my ps"
  case vj =>
    refine' ⟨pgs, o, ?ff, [], 0, ?ft, ?fl, C, hsz, Nat.le_refl _, by rw [List.length_nil]; omega, ?fB, ?fC⟩
    case fB => exact rfl
    case fC => exact rfl
  case vN => exact N'.perm (by k_extra "my sub")
  rintro left ps' led u h tk ⟨rem, o', f, pvs, nf, tt, tl, hC, hle, hlz, hpl, rfl, rfl⟩ Fw Nw
  clear F' N'
  match rem, hC with
  | [], hC =>
    obtain rfl : left = 1 := by rw [hle, List.length_nil]; omega
    dsimp only [hd0] at Fw
    simp only [Int.natCast_zero] at Fw
    k_extra "my steps"
    exact k _ _ _ (by assumption)
  | x :: r, hC =>
    obtain ⟨⟨a0, a1, a2, a3⟩, a6⟩ := hC
    have hm : (r.length + 1) * (ps - 4) = r.length * (ps - 4) + (ps - 4) := by rw [Nat.add_mul, Nat.one_mul]
    rw [List.length_cons, hm] at hle
    rw [List.length_cons] at hpl
    generalize hrm : r.length * (ps - 4) = rm at *
    have hnr := a6.head
    have hpt : 4 + (o'.take (ps - 4)).length ≤ ps := by rw [List.length_take]; omega
    have e1 := (congrArg be (link_nxt ps (hd0 r) (o'.take (ps - 4)))).trans (be_b4 (by omega))
    have e3 := linkL_len (ps := ps) (nxt := hd0 r) (part := o'.take (ps - 4)) (by rw [List.length_take]; omega)
    have e4 := part_full (nxt := hd0 r) (left := left) hpt (by omega)
    have hb : P[((x : Int) - 1).toNat]? = some (linkL ps (hd0 r) (o'.take (ps - 4))) := by rw [ar_tn1]; exact a3
    generalize linkL ps (hd0 r) (o'.take (ps - 4)) = oc at *
    dsimp only [hd0] at Fw
    k_extra "my steps"
    with_reducible rename Fr _ _ _ _ => F2
    with_reducible rename News _ _ _ _ => N2
    (try dsimp +zetaDelta only at F2)
    rw [e1, e4, n_zsub (show ps - 4 ≤ left by omega)] at F2
    have g1 : left - (ps - 4) < left := by omega
    have g2 : left - (ps - 4) = r.length * (ps - 4) + 1 := by omega
    have g3 : left - (ps - 4) ≤ sz := by omega
    have g4 : ∀ v : Value, (pvs ++ [v]).length + r.length = pgs.length := fun v => by rw [List.length_append, List.length_singleton]; omega
    clear e1 e3 e4 hb a3
    k_extra "my wturn"
    refine' ⟨left - (ps - 4), g1, r, o'.drop (ps - 4), _, _, _, _, _, a6, g2, g3, g4 _, rfl, rfl⟩
    k_extra "my wturned"
end

section
variable {M : Model} {h : Heap} {g : Array GenState} {d : Drawn} {t : Nat} {os : OsState} {A : Around} {E : Value → Shared → Prop}
theorem err_matches {C C' e : Addr} {oe : Obj} {b : Bool} {Q : Bool → Shared → Prop} (hC : ErrCls h C) (hC' : ErrCls h C') (he : h.get? e = some oe) (hcls : oe.cls = .ref C) (hb : (Value.ref C :: excTail).contains (.ref C') = b)
    (hq : Q b ⟨h, g, d, t, os⟩) : wpAny M A (excMatches (.ref e) (.ref C')) Q E ⟨h, g, d, t, os⟩ := by
  have cB := err_X C'
  have f := tc_notTuple
  obtain ⟨nm, q, N, bs, sn, sb, ab, col, dd, k0, k1, k2, k3, k5, hC⟩ := hC
  obtain ⟨nm', q', N', bs', sn', sb', ab', col', dd', k0', k1', k2', k3', k5', hC'⟩ := hC'
  unfold excMatches
  repeat (first | (with_reducible refine wpAny_loadPart_at he ?_; rw [hcls]) | with_reducible refine wpAny_loadPart_at hC' ?_ | (with_reducible refine wpAny_isSubtype_exc hC' ?_; rw [cB]) | (with_reducible refine wpAny_isSubtype_exc hC ?_; rw [hb]) | k_extra "my wp")
  cases b <;> ((repeat k_extra "my wp"); exact hq)
end
section
variable {w : World} {A₀ : Around} {E : Value → Shared → Prop} {s s' : Shared} {base g G : Heap} {outer : List Env} {L a e C C' : Addr} {m : Str → Option Value} {name : Str} {scope : Scope} {cd : Value}
  {b₀ : Stmt} {suite : List Stmt} {pos np : Pos} {hs rest : List ExceptHandler} {Q : Flow → Shared → Prop}
  {p : Program} {loose : List Str} {mean : ExcName → Option Value} {mg mb : Str → Option Value} {x : Str}
theorem catch_1 (R : RaisedX base G (envOf name scope L a cd :: outer) e C s'.heap) (K : Below A₀ base outer g)
    (h : ∀ h', RaisedX base G (envOf name scope L a cd :: outer) e C h' → wpAny (model PySem.Challenge.rw_nt0105_01.row.prog w) (A₀.deeper (envOf name scope L a cd)) (handleBy (.ref e) (envOf name scope L a cd) hs) Q E { s' with heap := h' }) :
    wpAny (model PySem.Challenge.rw_nt0105_01.row.prog w) (A₀.deeper (envOf name scope L a cd)) (noteFrame (.ref e) (envOf name scope L a cd))
      (fun _ s₂ => wpAny (model PySem.Challenge.rw_nt0105_01.row.prog w) (A₀.deeper (envOf name scope L a cd)) (setFlight (.ref e) none) (fun _ s₃ =>
        wpAny (model PySem.Challenge.rw_nt0105_01.row.prog w) (A₀.deeper (envOf name scope L a cd)) (handleBy (.ref e) (envOf name scope L a cd) hs) Q E s₃) E s₂) E s' := by
  obtain ⟨⟨B, a0, hB, hBG, hfl⟩, hsm⟩ := R
  refine wpAny_looks_onW (Around.frames_deeper K.stack) rfl hfl fun h₄ hheld₄ hsm₄ => ?_
  refine wpAny_landsW hheld₄ fun h₅ hheld hsm₅ => ?_
  exact h h₅ ⟨⟨B, a0, hB, hBG, hheld⟩, (hsm.trans hsm₄).trans hsm₅⟩
theorem RaisedX.ground (R : RaisedX base G (envOf name scope L a cd :: outer) e C s.heap) (K : Below A₀ base outer g) (F : Fr g L G m) : ∃ g', KtsTurn (outer.filterMap (·.frame)) g g' ∧ Fr g' L s.heap m ∧ Below A₀ base outer g' := by
  obtain ⟨⟨B, a0, hB, hBG, hfl⟩, hsm⟩ := R
  exact kts_ground K F hBG hfl.1 hsm
theorem catch_miss (R : RaisedX base G (envOf name scope L a cd :: outer) e C s.heap) (K : Below A₀ base outer g) (F : Fr g L G m) (XB : (Mine.K w.params).In base) (TB : Top p loose mean mg mb base)
    (ex : nsIn (Mine.K w.params) mainGlobals x = some (some (.ref C'))) (hC : ErrCls base C) (hC' : ErrCls base C') (hb : (Value.ref C :: excTail).contains (.ref C') = false)
    (h : wpAny (model PySem.Challenge.rw_nt0105_01.row.prog w) (A₀.deeper (envOf name scope L a cd)) (handleBy (.ref e) (envOf name scope L a cd) rest) Q E s)
    (hk : scope.kind = .function := by rfl) (hx : (envOf name scope L a cd).kindOf x = some .globalImplicit := by rfl) (hd : (x == ("__debug__" : Str)) = false := by decide) :
    wpAny (model PySem.Challenge.rw_nt0105_01.row.prog w) (A₀.deeper (envOf name scope L a cd)) (handleBy (.ref e) (envOf name scope L a cd) (.ExceptHandler (some (.Name x np)) none (b₀ :: suite) pos :: rest)) Q E s := by
  obtain ⟨g₅, T₅, F₅, K₅⟩ := R.ground K F
  obtain ⟨⟨B, a0, hB, hBG, hfl⟩, hsm⟩ := R
  have X₅ := XB.keeps K₅.stays
  have P₅ : TopRead p loose mg mb g₅ := topRead_of (TB.keeps K₅.stays)
  obtain ⟨ob, hob, hobc⟩ := hfl.there
  have st : base.StaysIn s.heap := fun b o e => F₅.keep _ _ (K₅.stays _ _ e)
  refine wpAny_handleBy_cons (codeAny_handlers_test (name_K F₅ X₅ P₅ ex ?_ hk hx hd)) (by intro q; cases q)
  obtain ⟨hp, gg, d, t, os⟩ := s
  refine err_matches (hC.keeps st) (hC'.keeps st) hob hobc hb ?_
  exact h
theorem catch_hit (R : RaisedX base G (envOf name scope L a cd :: outer) e C s.heap) (K : Below A₀ base outer g) (F : Fr g L G m) (XB : (Mine.K w.params).In base) (TB : Top p loose mean mg mb base)
    (ex : nsIn (Mine.K w.params) mainGlobals x = some (some (.ref C))) (hC : ErrCls base C)
    (k : ∀ h' g', KtsTurn (outer.filterMap (·.frame)) g g' → Fr g' L h' m → Below A₀ base outer g' →
      wpAny (model PySem.Challenge.rw_nt0105_01.row.prog w) ((A₀.deeper (envOf name scope L a cd)).mark (some (.ref e))) (execs (b₀ :: suite) (envOf name scope L a cd)) Q E { s with heap := h' })
    (hk : scope.kind = .function := by rfl) (hx : (envOf name scope L a cd).kindOf x = some .globalImplicit := by rfl) (hd : (x == ("__debug__" : Str)) = false := by decide)
    (hE : PassesOwnAt (model PySem.Challenge.rw_nt0105_01.row.prog w) ((A₀.deeper (envOf name scope L a cd)).mark (some (.ref e))) (A₀.deeper (envOf name scope L a cd)) (envOf name scope L a cd) E := by passes_own) :
    wpAny (model PySem.Challenge.rw_nt0105_01.row.prog w) (A₀.deeper (envOf name scope L a cd)) (handleBy (.ref e) (envOf name scope L a cd) (.ExceptHandler (some (.Name x np)) none (b₀ :: suite) pos :: rest)) Q E s := by
  obtain ⟨g₅, T₅, F₅, K₅⟩ := R.ground K F
  have R' := R
  obtain ⟨⟨B, a0, hB, hBG, hfl⟩, hsm⟩ := R
  have X₅ := XB.keeps K₅.stays
  have P₅ : TopRead p loose mg mb g₅ := topRead_of (TB.keeps K₅.stays)
  obtain ⟨ob, hob, hobc⟩ := hfl.there
  have st : base.StaysIn s.heap := fun b o e => F₅.keep _ _ (K₅.stays _ _ e)
  refine wpAny_handleBy_cons (codeAny_handlers_test (name_K F₅ X₅ P₅ ex ?_ hk hx hd)) (by intro q; cases q)
  obtain ⟨hp, gg, d, t, os⟩ := s
  refine err_matches (hC.keeps st) (hC.keeps st) hob hobc (err_S C) (codeAny_handlers_suite ?_)
  refine lands_againW (s := ⟨hp, gg, d, t, os⟩) hfl fun h₆ hfl₆ hsm₆ => ?_
  obtain ⟨g₆, T₆, F₆, K₆⟩ := kts_ground K F hBG hfl₆.1 (hsm.trans hsm₆)
  exact wpAny_passesOwnAt hE (k h₆ g₆ T₆ F₆ K₆)
end

-- LINES
theorem words_41_43 : True := by
  k_with "exec Try" => (refine wpAny_Try_except ?_)
  k_with "callWith ref nil nil" => ((with_reducible show wpAny _ _ (callWith _ (Value.ref _) [] (backTo _ (starEach [] _)) []) _ _ _); k_dflt (refine callWith_F0 (q := _) (by with_reducible assumption) ?_))
  trivial
-- END LINES
section
variable {w : World} {A : Around} {base g : Heap} {outer : List Env} {s : Shared}
  {p : Program} {loose : List Str} {mean : ExcName → Option Value} {mg mb : Str → Option Value} {R : Result → Shared → Prop}
noncomputable def wordOf (C : Addr) : Str := if C = 63 then Str.ofString "misuse" else Str.ofString "corrupt"
theorem fnAt_keeps {f : Addr} {h h' : Heap} (x : FnAt f h) (k : h.StaysIn h') : FnAt f h' := by
  obtain ⟨oc, od, fd, sl, e⟩ := x
  exact ⟨oc, od, fd, sl, k _ _ e⟩
theorem refusal_spec {f C : Addr} {j : Nat} (H : Pre p loose mean mg mb w A base outer g s []) (hd : Room A (j + 1)) (XB : (K w.params).In base) (TB : Top p loose mean mg mb base) (hC : C = 51 ∨ C = 63) (hf : FnAt f g)
  (call : ∀ (A' : Around) (env' : Env) (g' : Heap) (s' : Shared) (R' : Result → Shared → Prop), Pre p loose mean mg mb w A' base (env' :: outer) g' s' [] → Room A' j → g.StaysIn g' →
    (∀ e h' tk, RaisedX base g' (env' :: outer) e C h' → R' (.error (.ref e)) { s' with heap := h', toks := tk }) → codeAny (model PySem.Challenge.rw_nt0105_01.row.prog w) A' (.call (.ref f) ⟨[], []⟩) R' s')
  (k : ∀ t g' h' tk, KtsTurn (outer.filterMap (·.frame)) g g' → Below A base outer g' → Post g' h' [] → R (.ok (.ret (.str (wordOf C) t))) { s with heap := h', toks := tk }) :
  codeAny (model PySem.Challenge.rw_nt0105_01.row.prog w) A (.call (.ref 414) ⟨[.ref f], []⟩) R s := by
  k_extra "my enter"
  have hf' := fnAt_keeps hf F.keep
  k_extra "my steps"
  refine wpAny_call ?_
  show codeAny _ _ (.call (.ref f) ⟨[], []⟩) _ _
  refine call _ _ h₁ ⟨h₁, s.gens, s.drawn, _, s.os⟩ _ (pre_pure (s := ⟨h₁, s.gens, s.drawn, _, s.os⟩) B (Around.frames_deeper B.stack) rfl rfl X T F N) (Room.deeper hd (Nat.lt_succ_self _)) F.keep fun e h' tk R' => ?_
  try dsimp only
  refine catch_1 R' B fun h' R' => ?_
  have e51 := err51 XB
  have e63 := err63 XB
  rcases hC with rfl | rfl
  · refine catch_miss R' B F XB TB (by k_is) e51 e63 (by rw [List.contains_cons]; rfl) ?_
    refine catch_hit R' B F XB TB (by k_is) e51 fun h' g' T' F' B' => ?_
    clear hf' F
    k_extra "my steps"
    exact k _ _ _ _ T' B' ⟨F'.keep, fun q hq => (nomatch hq), List.nodup_nil⟩
  · refine catch_hit R' B F XB TB (by k_is) e63 fun h' g' T' F' B' => ?_
    clear hf' F
    k_extra "my steps"
    exact k _ _ _ _ T' B' ⟨F'.keep, fun q hq => (nomatch hq), List.nodup_nil⟩
end

section
structure WInv (ps : Nat) (P : List (List UInt8)) (F : FLt) (frl : List Nat) (mkl : List (Nat × List UInt8)) (chl : List (List UInt8 × List Nat)) : Prop where
  db : Db P ps F
  fr : frl.Perm (flPages F)
  marks : ∀ x ∈ mkl, P[x.1 - 1]? = some x.2
  chains : ∀ x ∈ chl, Chain P ps x.2 x.1 ∧ x.2 ≠ [] ∧ x.1.length < 1000
  all : (frl ++ (mkl.map (·.1) ++ chl.flatMap (·.2))).Perm (List.range' 2 (P.length - 1))
variable {ps : Nat} {P P' : List (List UInt8)} {F F' : FLt} {frl : List Nat} {mkl : List (Nat × List UInt8)} {chl : List (List UInt8 × List Nat)}
theorem WInv.nodup (I : WInv ps P F frl mkl chl) : (frl ++ (mkl.map (·.1) ++ chl.flatMap (·.2))).Nodup := I.all.nodup_iff.mpr List.nodup_range'
theorem WInv.bound (I : WInv ps P F frl mkl chl) {x : Nat} (h : x ∈ frl ++ (mkl.map (·.1) ++ chl.flatMap (·.2))) : 2 ≤ x ∧ x ≤ P.length := by
  have := List.mem_range'.mp (I.all.mem_iff.mp h)
  obtain ⟨j, hj, rfl⟩ := this
  have := I.db.pos
  omega
theorem WInv.size (I : WInv ps P F frl mkl chl) : frl.length + (mkl.length + (chl.flatMap (·.2)).length) = P.length - 1 := by
  have := I.all.length_eq
  rwa [List.length_append, List.length_append, List.length_map, List.length_range'] at this
theorem nd_mid {a b : List Nat} {x : Nat} (h : (a ++ x :: b).Nodup) : x ∉ a ∧ x ∉ b ∧ ∀ y ∈ b, y ≠ x ∧ y ∉ a := by
  have h1 := List.nodup_append.mp h
  have h2 := List.nodup_cons.mp h1.2.1
  refine ⟨fun hx => h1.2.2 x hx x (.head _) rfl, h2.1, fun y hy => ⟨fun e => h2.1 (e ▸ hy), fun hx => h1.2.2 y hx y (.tail _ hy) rfl⟩⟩
theorem erase_perm {α : Type} : ∀ {l : List α} {i : Nat} {x : α}, l[i]? = some x → l.Perm (x :: l.eraseIdx i)
  | [], i, x, h => by simp at h
  | a :: l, 0, x, h => by simp at h; subst h; exact List.Perm.refl _
  | a :: l, i + 1, x, h => by
    have ih := erase_perm (l := l) (i := i) (x := x) (by simpa using h)
    exact (ih.cons a).trans (List.Perm.swap x a _)
theorem WInv.marked (I : WInv ps P F frl mkl chl) {x : Nat × List UInt8} (hx : x ∈ mkl) : 2 ≤ x.1 ∧ x.1 ≤ P.length ∧ x.1 ∉ flPages F := by
  have hm : x.1 ∈ mkl.map (·.1) ++ chl.flatMap (·.2) := List.mem_append_left _ (List.mem_map_of_mem hx)
  have hb := I.bound (List.mem_append_right _ hm)
  exact ⟨hb.1, hb.2, fun h => (List.nodup_append.mp I.nodup).2.2 _ (I.fr.mem_iff.mpr h) _ hm rfl⟩
theorem WInv.chained (I : WInv ps P F frl mkl chl) {x : List UInt8 × List Nat} (hx : x ∈ chl) {y : Nat} (hy : y ∈ x.2) : 2 ≤ y ∧ y ≤ P.length ∧ y ∉ flPages F := by
  have hm : y ∈ mkl.map (·.1) ++ chl.flatMap (·.2) := List.mem_append_right _ (List.mem_flatMap.mpr ⟨x, hx, hy⟩)
  have hb := I.bound (List.mem_append_right _ hm)
  exact ⟨hb.1, hb.2, fun h => (List.nodup_append.mp I.nodup).2.2 _ (I.fr.mem_iff.mpr h) _ hm rfl⟩
theorem WInv.give (I : WInv ps P F frl mkl chl) {i pn : Nat} {o : List UInt8} (hi : mkl[i]? = some (pn, o)) (G : GiveR P ps F P' F' pn) : WInv ps P' F' (frl ++ [pn]) (mkl.eraseIdx i) chl := by
  obtain ⟨D', hl, hfr, hp⟩ := G
  have hm := erase_perm hi
  have hall : (frl ++ (mkl.map (·.1) ++ chl.flatMap (·.2))).Perm (frl ++ pn :: ((mkl.eraseIdx i).map (·.1) ++ chl.flatMap (·.2))) := List.Perm.append_left _ ((hm.map _).append_right _)
  have hn := nd_mid (hall.nodup_iff.mp I.nodup)
  have same : ∀ y ∈ (mkl.eraseIdx i).map (·.1) ++ chl.flatMap (·.2), P'[y - 1]? = P[y - 1]? := fun y hy => by
    have h1 := hn.2.2 y hy
    have h2 := I.bound (hall.mem_iff.mpr (List.mem_append_right _ (.tail _ hy)))
    refine hfr _ (by omega) ?_ (by omega)
    rw [show y - 1 + 1 = y by omega]
    exact fun h => h1.2 (I.fr.mem_iff.mpr h)
  refine ⟨D', ?_, fun x hx => ?_, fun x hx => ?_, ?_⟩
  · exact (List.perm_append_singleton pn frl).trans ((I.fr.cons pn).trans hp.symm)
  · rw [same _ (List.mem_append_left _ (List.mem_map_of_mem hx))]
    exact I.marks x (List.mem_of_mem_eraseIdx hx)
  · obtain ⟨h1, h2⟩ := I.chains x hx
    exact ⟨h1.of (Nat.le_of_eq hl.symm) fun t ht => same t (List.mem_append_right _ (List.mem_flatMap.mpr ⟨x, hx, ht⟩)), h2⟩
  · rw [hl]
    refine List.Perm.trans ?_ (hall.symm.trans I.all)
    rw [List.append_assoc]; rfl
theorem takes_free (I : WInv ps P F frl mkl chl) {ts : List Nat} (T : TakesR P ps F ts P' F') : (frl.filter fun x => !ts.contains x).Perm (flPages F') := by
  obtain ⟨D', fr', a, m, rfl, hp, hl, hm⟩ := T
  have hnd := hp.nodup_iff.mp I.db.nd
  have hb : ∀ x ∈ flPages F', x ≤ P.length := fun x hx => (I.db.tr.mem x (hp.mem_iff.mpr (List.mem_append_right _ hx))).2
  refine ((I.fr.trans hp).filter _).trans ?_
  rw [List.filter_append, List.filter_eq_nil_iff.mpr, List.filter_eq_self.mpr]
  · exact List.Perm.refl _
  · intro x hx
    simp only [List.contains_eq_mem, Bool.not_eq_true', decide_eq_false_iff_not, List.mem_append, List.mem_map, List.mem_range, not_or, not_exists, not_and]
    exact ⟨fun h => (List.nodup_append.mp hnd).2.2 x h x hx rfl, fun j hj e => by have := hb x hx; omega⟩
  · intro x hx
    simp only [List.contains_eq_mem, Bool.not_eq_true', decide_eq_false_iff_not, Classical.not_not]
    exact List.mem_append_left _ hx
theorem takes_fresh (I : WInv ps P F frl mkl chl) {ts : List Nat} (T : TakesR P ps F ts P' F') : (ts.filter fun x => !frl.contains x) = List.range' (P.length + 1) (P'.length - P.length) ∧
    ts.length - (P'.length - P.length) = min ts.length frl.length ∧ P'.length - P.length ≤ ts.length ∧ P.length ≤ P'.length := by
  obtain ⟨D', fr', a, m, rfl, hp, hl, hm⟩ := T
  have e : P'.length - P.length = m := by omega
  rw [e, List.range'_eq_map_range]
  have hfl := (I.fr.trans hp).length_eq
  rw [List.length_append] at hfl
  refine ⟨?_, ?_, ?_, by omega⟩
  · rw [List.filter_append, List.filter_eq_nil_iff.mpr, List.filter_eq_self.mpr, List.nil_append]
    · intro x hx
      obtain ⟨j, hj, rfl⟩ := List.mem_map.mp hx
      simp only [List.contains_eq_mem, Bool.not_eq_true', decide_eq_false_iff_not]
      intro h
      have := (I.db.tr.mem _ (I.fr.mem_iff.mp h)).2
      omega
    · intro x hx
      simp only [List.contains_eq_mem, Bool.not_eq_true', decide_eq_false_iff_not, Classical.not_not]
      exact (I.fr.trans hp).mem_iff.mpr (List.mem_append_left _ hx)
  · rw [List.length_append, List.length_map, List.length_range]
    rcases Nat.eq_zero_or_pos m with rfl | h
    · omega
    · have := hm (by omega)
      subst this
      simp only [flPages, List.length_nil] at hfl
      omega
  · rw [List.length_append, List.length_map, List.length_range]; omega
theorem takes_all (I : WInv ps P F frl mkl chl) {ts : List Nat} (T : TakesR P ps F ts P' F') : ((frl.filter fun x => !ts.contains x) ++ (ts ++ (mkl.map (·.1) ++ chl.flatMap (·.2)))).Perm (List.range' 2 (P'.length - 1)) := by
  have hf := takes_free I T
  obtain ⟨D', fr', a, m, rfl, hp, hl, hm⟩ := T
  have hpos := I.db.pos
  have e : List.range' 2 (P'.length - 1) = List.range' 2 (P.length - 1) ++ (List.range m).map (P.length + 1 + ·) := by
    rw [← List.range'_eq_map_range, show P'.length - 1 = (P.length - 1) + m by omega, ← List.range'_append]
    congr 2
    omega
  rw [e]
  generalize (List.range m).map (P.length + 1 + ·) = r at hf ⊢
  generalize hX : mkl.map (·.1) ++ chl.flatMap (·.2) = X
  have hall := I.all
  rw [hX] at hall
  refine (List.Perm.append_right _ hf).trans (List.Perm.trans ?_ (List.Perm.append_right r (((I.fr.trans hp).append_right X).symm.trans hall)))
  have h1 : (flPages F' ++ (a ++ r ++ X)).Perm (flPages F' ++ a ++ X ++ r) := by
    rw [List.append_assoc a r X, List.append_assoc, List.append_assoc]
    exact List.Perm.append_left _ (List.Perm.append_left _ List.perm_append_comm)
  refine h1.trans (List.Perm.append_right r (List.Perm.append_right X List.perm_append_comm))
theorem takes_same (I : WInv ps P F frl mkl chl) {ts : List Nat} (T : TakesR P ps F ts P' F') {y : Nat} (hy : y ∈ mkl.map (·.1) ++ chl.flatMap (·.2)) : P'[y - 1]? = P[y - 1]? := by
  have hb := I.bound (List.mem_append_right _ hy)
  refine T.2.1 _ (by omega) (fun h => ?_) (by omega)
  rw [show y - 1 + 1 = y by omega] at h
  exact (List.nodup_append.mp I.nodup).2.2 _ (I.fr.mem_iff.mpr h) _ hy rfl
theorem WInv.taken (I : WInv ps P F frl mkl chl) {pn : Nat} {o : List UInt8} (T : TakesR P ps F [pn] P' F') : WInv ps (P'.set (pn - 1) o) F' (frl.filter fun x => !([pn] : List Nat).contains x) (mkl ++ [(pn, o)]) chl := by
  have hall := takes_all I T
  have hnd : ((frl.filter fun x => !([pn] : List Nat).contains x) ++ ([pn] ++ (mkl.map (·.1) ++ chl.flatMap (·.2)))).Nodup := hall.nodup_iff.mpr List.nodup_range'
  have hTp := T.pages I.db
  have hp := hTp.2.1 pn (.head _)
  have hn := nd_mid hnd
  have hnf : pn ∉ flPages F' := fun h => (List.nodup_append.mp hTp.1).2.2 pn (.head _) pn h rfl
  have same : ∀ y ∈ mkl.map (·.1) ++ chl.flatMap (·.2), (P'.set (pn - 1) o)[y - 1]? = P[y - 1]? := fun y hy => by
    have hb := I.bound (List.mem_append_right _ hy)
    have hne := (hn.2.2 y hy).1
    rw [List.getElem?_set_ne (by omega)]
    exact takes_same I T hy
  refine ⟨T.1.put o (by omega) (by rw [show pn - 1 + 1 = pn by omega]; exact hnf), takes_free I T, fun x hx => ?_, fun x hx => ?_, ?_⟩
  · rcases List.mem_append.mp hx with hx | hx
    · rw [same _ (List.mem_append_left _ (List.mem_map_of_mem hx))]; exact I.marks x hx
    · rw [List.mem_singleton.mp hx]; exact List.getElem?_set_self (by omega)
  · obtain ⟨h1, h2⟩ := I.chains x hx
    have hle := (takes_fresh I T).2.2.2
    exact ⟨h1.of (by rw [List.length_set]; exact hle) fun t ht => same t (List.mem_append_right _ (List.mem_flatMap.mpr ⟨x, hx, ht⟩)), h2⟩
  · rw [List.length_set]
    refine List.Perm.trans (List.Perm.append_left _ ?_) hall
    rw [List.map_append, List.append_assoc]
    exact List.perm_append_comm_assoc _ _ _
theorem WInv.written (I : WInv ps P F frl mkl chl) {ts : List Nat} {o : List UInt8} (T : TakesR P ps F ts P' F') (C : Chain P' ps ts o) (hne : ts ≠ []) (ho : o.length < 1000) : WInv ps P' F' (frl.filter fun x => !ts.contains x) mkl (chl ++ [(o, ts)]) := by
  have hle := (takes_fresh I T).2.2.2
  refine ⟨T.1, takes_free I T, fun x hx => ?_, fun x hx => ?_, ?_⟩
  · rw [takes_same I T (List.mem_append_left _ (List.mem_map_of_mem hx))]; exact I.marks x hx
  · rcases List.mem_append.mp hx with hx | hx
    · obtain ⟨h1, h2⟩ := I.chains x hx
      exact ⟨h1.of hle fun t ht => takes_same I T (List.mem_append_right _ (List.mem_flatMap.mpr ⟨x, hx, ht⟩)), h2⟩
    · rw [List.mem_singleton.mp hx]; exact ⟨C, hne, ho⟩
  · refine List.Perm.trans (List.Perm.append_left _ ?_) (takes_all I T)
    rw [List.flatMap_append, List.flatMap_cons, List.flatMap_nil, List.append_nil, ← List.append_assoc]
    exact List.perm_append_comm
theorem WInv.written0 (I : WInv ps P F frl mkl chl) (T : TakesR P ps F [] P' F') : WInv ps P' F' (frl.filter fun x => !([] : List Nat).contains x) mkl chl := by
  have hle := (takes_fresh I T).2.2.2
  refine ⟨T.1, takes_free I T, fun x hx => ?_, fun x hx => ?_, takes_all I T⟩
  · rw [takes_same I T (List.mem_append_left _ (List.mem_map_of_mem hx))]; exact I.marks x hx
  · obtain ⟨h1, h2⟩ := I.chains x hx
    exact ⟨h1.of hle fun t ht => takes_same I T (List.mem_append_right _ (List.mem_flatMap.mpr ⟨x, hx, ht⟩)), h2⟩
theorem WInv.freed (I : WInv ps P F frl mkl chl) {i : Nat} {o : List UInt8} {pgs : List Nat} (hi : chl[i]? = some (o, pgs)) (G : GivesR P ps F pgs P' F') : WInv ps P' F' (frl ++ pgs) mkl (chl.eraseIdx i) := by
  obtain ⟨D', hl, hfr, hp⟩ := G
  have hm := erase_perm hi
  have hall : (frl ++ (mkl.map (·.1) ++ chl.flatMap (·.2))).Perm ((frl ++ pgs) ++ (mkl.map (·.1) ++ (chl.eraseIdx i).flatMap (·.2))) := by
    rw [List.append_assoc]
    refine List.Perm.append_left _ ?_
    refine (List.Perm.append_left _ (hm.flatMap_right _)).trans ?_
    rw [List.flatMap_cons]
    exact List.perm_append_comm_assoc _ _ _
  have hn := hall.nodup_iff.mp I.nodup
  have same : ∀ y ∈ mkl.map (·.1) ++ (chl.eraseIdx i).flatMap (·.2), P'[y - 1]? = P[y - 1]? := fun y hy => by
    have h2 := I.bound (hall.mem_iff.mpr (List.mem_append_right _ hy))
    have hd : ∀ z ∈ frl ++ pgs, z ≠ y := fun z hz => (List.nodup_append.mp hn).2.2 z hz y hy
    refine hfr _ (by omega) ?_ ?_
    · rw [show y - 1 + 1 = y by omega]
      exact fun h => hd y (List.mem_append_left _ (I.fr.mem_iff.mpr h)) rfl
    · rw [show y - 1 + 1 = y by omega]
      exact fun h => hd y (List.mem_append_right _ h) rfl
  refine ⟨D', ?_, fun x hx => ?_, fun x hx => ?_, ?_⟩
  · exact List.perm_append_comm.trans ((I.fr.append_left pgs).trans hp.symm)
  · rw [same _ (List.mem_append_left _ (List.mem_map_of_mem hx))]; exact I.marks x hx
  · obtain ⟨h1, h2⟩ := I.chains x (List.mem_of_mem_eraseIdx hx)
    exact ⟨h1.of (Nat.le_of_eq hl.symm) fun t ht => same t (List.mem_append_right _ (List.mem_flatMap.mpr ⟨x, hx, ht⟩)), h2⟩
  · rw [hl]; exact hall.symm.trans I.all
theorem WInv.chl_len (I : WInv ps P F frl mkl chl) : chl.length ≤ (chl.flatMap (·.2)).length := by
  have h := I.chains
  clear I
  induction chl with
  | nil => exact Nat.zero_le _
  | cons a r ih =>
    have h1 := ih fun x hx => h x (.tail _ hx)
    have h2 : 0 < a.2.length := List.length_pos_iff.mpr (h a (.head _)).2.1
    rw [List.flatMap_cons, List.length_append, List.length_cons]
    omega
theorem WInv.chain_nd (I : WInv ps P F frl mkl chl) {x : List UInt8 × List Nat} (hx : x ∈ chl) : (x.2 ++ flPages F).Nodup := by
  have h1 := I.nodup
  have h2 : x.2.Sublist (chl.flatMap (·.2)) := by
    obtain ⟨a, b, rfl⟩ := List.append_of_mem hx
    rw [List.flatMap_append, List.flatMap_cons]
    exact (List.sublist_append_left _ _).trans (List.sublist_append_right _ _)
  have h3 : (frl ++ x.2).Nodup := h1.sublist ((List.Sublist.refl frl).append (h2.trans (List.sublist_append_right _ _)))
  exact (List.perm_append_comm.trans (I.fr.append_left x.2)).nodup_iff.mp h3
end

section
inductive Marks (Z : Addr → Obj → Prop) : List Value → List (Nat × List UInt8) → Prop
  | nil : Marks Z [] []
  | cons {T pn t o u n vs l} : Z T { cls := .type "tuple", data := .seq [.int (pn : Nat) t, .bytes (List.toArray o) u].toArray n } → Marks Z vs l → Marks Z (.ref T :: vs) ((pn, o) :: l)
inductive Chs (Z : Addr → Obj → Prop) : List Value → List (List UInt8 × List Nat) → Prop
  | nil : Chs Z [] []
  | cons {T o u f n fvs nf pgs vs l} : Z T { cls := .type "tuple", data := .seq [.bytes (List.toArray o) u, .ref f].toArray n } → Z f (listOf fvs.toArray nf) → IntsAre fvs (nInts pgs) → Chs Z vs l → Chs Z (.ref T :: vs) ((o, pgs) :: l)
theorem Marks.mono {Z Z' : Addr → Obj → Prop} (h : ∀ a o, Z a o → Z' a o) {vs l} (m : Marks Z vs l) : Marks Z' vs l := by
  induction m with
  | nil => exact .nil
  | cons z _ ih => exact .cons (h _ _ z) ih
theorem Chs.mono {Z Z' : Addr → Obj → Prop} (h : ∀ a o, Z a o → Z' a o) {vs l} (m : Chs Z vs l) : Chs Z' vs l := by
  induction m with
  | nil => exact .nil
  | cons z z2 i _ ih => exact .cons (h _ _ z) (h _ _ z2) i ih
theorem Marks.length {Z : Addr → Obj → Prop} {vs l} (m : Marks Z vs l) : vs.length = l.length := by
  induction m with
  | nil => rfl
  | cons _ _ ih => rw [List.length_cons, List.length_cons, ih]
theorem Chs.length {Z : Addr → Obj → Prop} {vs l} (m : Chs Z vs l) : vs.length = l.length := by
  induction m with
  | nil => rfl
  | cons _ _ _ _ ih => rw [List.length_cons, List.length_cons, ih]
theorem Marks.get {Z : Addr → Obj → Prop} {vs : List Value} {l : List (Nat × List UInt8)} (m : Marks Z vs l) : ∀ {i : Nat} {pn : Nat} {o : List UInt8}, l[i]? = some (pn, o) → ∃ T t u n, vs[i]? = some (.ref T) ∧ Z T { cls := .type "tuple", data := .seq [.int (pn : Nat) t, .bytes (List.toArray o) u].toArray n } := by
  induction m with
  | nil => intro i pn o e; simp at e
  | cons z _ ih =>
    intro i pn o e
    cases i with
    | zero => simp at e; obtain ⟨rfl, rfl⟩ := e; exact ⟨_, _, _, _, rfl, z⟩
    | succ i => exact ih e
theorem Marks.getK {C : Prop} {Z : Addr → Obj → Prop} {vs : List Value} {l : List (Nat × List UInt8)} (m : Marks Z vs l) {i : Nat} {pn : Nat} {o : List UInt8} (h : l[i]? = some (pn, o)) (k : ∀ (T : Addr) (t u : Tok) (n : Nat), vs[i]? = some (.ref T) → Z T { cls := .type "tuple", data := .seq [.int (pn : Nat) t, .bytes (List.toArray o) u].toArray n } → C) : C :=
  let ⟨T, t, u, n, a, b⟩ := m.get h; k T t u n a b
theorem Chs.get {Z : Addr → Obj → Prop} {vs : List Value} {l : List (List UInt8 × List Nat)} (m : Chs Z vs l) : ∀ {i : Nat} {o : List UInt8} {pgs : List Nat}, l[i]? = some (o, pgs) → ∃ T u f n fvs nf, vs[i]? = some (.ref T) ∧ Z T { cls := .type "tuple", data := .seq [.bytes (List.toArray o) u, .ref f].toArray n } ∧ Z f (listOf fvs.toArray nf) ∧ IntsAre fvs (nInts pgs) := by
  induction m with
  | nil => intro i pn o e; simp at e
  | cons z z2 iA _ ih =>
    intro i o pgs e
    cases i with
    | zero => simp at e; obtain ⟨rfl, rfl⟩ := e; exact ⟨_, _, _, _, _, _, rfl, z, z2, iA⟩
    | succ i => exact ih e
theorem Chs.getK {C : Prop} {Z : Addr → Obj → Prop} {vs : List Value} {l : List (List UInt8 × List Nat)} (m : Chs Z vs l) {i : Nat} {o : List UInt8} {pgs : List Nat} (h : l[i]? = some (o, pgs)) (k : ∀ (T : Addr) (u : Tok) (f : Addr) (n : Nat) (fvs : List Value) (nf : Nat), vs[i]? = some (.ref T) → Z T { cls := .type "tuple", data := .seq [.bytes (List.toArray o) u, .ref f].toArray n } → Z f (listOf fvs.toArray nf) → IntsAre fvs (nInts pgs) → C) : C :=
  let ⟨T, u, f, n, fvs, nf, a, b, c, d⟩ := m.get h; k T u f n fvs nf a b c d
theorem Marks.erase {Z : Addr → Obj → Prop} {vs l} (m : Marks Z vs l) : ∀ i, Marks Z (vs.eraseIdx i) (l.eraseIdx i) := by
  induction m with
  | nil => intro i; exact .nil
  | cons z r ih =>
    intro i
    cases i with
    | zero => exact r
    | succ i => exact .cons z (ih i)
theorem Chs.erase {Z : Addr → Obj → Prop} {vs l} (m : Chs Z vs l) : ∀ i, Chs Z (vs.eraseIdx i) (l.eraseIdx i) := by
  induction m with
  | nil => intro i; exact .nil
  | cons z z2 iA r ih =>
    intro i
    cases i with
    | zero => exact r
    | succ i => exact .cons z z2 iA (ih i)
theorem Marks.snoc {Z : Addr → Obj → Prop} {vs : List Value} {l : List (Nat × List UInt8)} (m : Marks Z vs l) {T : Addr} {pn : Nat} {t u : Tok} {o : List UInt8} {n : Nat} (z : Z T { cls := .type "tuple", data := .seq [.int (pn : Nat) t, .bytes (List.toArray o) u].toArray n }) : Marks Z (vs ++ [.ref T]) (l ++ [(pn, o)]) := by
  induction m with
  | nil => exact .cons z .nil
  | cons z' _ ih => exact .cons z' ih
theorem Chs.snoc {Z : Addr → Obj → Prop} {vs : List Value} {l : List (List UInt8 × List Nat)} (m : Chs Z vs l) {T f : Addr} {u : Tok} {o : List UInt8} {n nf : Nat} {fvs : List Value} {pgs : List Nat} (z : Z T { cls := .type "tuple", data := .seq [.bytes (List.toArray o) u, .ref f].toArray n }) (z2 : Z f (listOf fvs.toArray nf)) (iA : IntsAre fvs (nInts pgs)) : Chs Z (vs ++ [.ref T]) (l ++ [(o, pgs)]) := by
  induction m with
  | nil => exact .cons z z2 iA .nil
  | cons z' z2' iA' _ ih => exact .cons z' z2' iA' ih
end
section
variable {prog : Program} {w : World} {A : Around} {E : Value → Shared → Prop} {s : Shared} {h₀ : Heap} {L D : Addr} {m : Str → Option Value} {news news' : List (Addr × Obj)} {Q : Value → Shared → Prop} {vs : List Value} {n r : Nat} {u : Tok} {y : Value}
theorem cut_at : ∀ {vs : List Value} {r : Nat} {y : Value}, vs[r]? = some y → kl_cut vs r = some (vs.take r, y, vs.drop (r + 1))
  | [], r, y, h => by simp at h
  | a :: r, 0, y, h => by simp at h; subst h; rfl
  | a :: l, r + 1, y, h => by
    have ih := cut_at (vs := l) (r := r) (y := y) (by simpa using h)
    unfold kl_cut
    rw [ih]; rfl
theorem my_pop (F : Fr h₀ L s.heap m) (N : News h₀ L s.heap news) (U : Upd D (listOf vs.toArray n) (listOf (vs.eraseIdx r).toArray (n + 1)) news news') (hy : vs[r]? = some y) (hz : vs.length < 1000000)
    (h : ∀ h', Fr h₀ L h' m → News h₀ L h' news' → Q y { s with heap := h' }) : wpAny (model prog w) A (call (.builtin "list.pop") [.ref D, .int (r : Nat) u]) Q E s := by
  have hlt : r < vs.length := (List.getElem?_eq_some_iff.mp hy).1
  refine kl_popAt (k := r) (p := vs.take r) (q := vs.drop (r + 1)) F N ?_ ?_ (cut_at hy) (by rw [← List.eraseIdx_eq_take_drop_succ]; exact U) (by rw [sizeLine_eq]; show vs.length ≤ _; omega) h
  · unfold Builtin.List.listFitsIndex
    rw [decide_eq_true (show -(2 ^ 63 : Int) ≤ (r : Nat) by omega), decide_eq_true (show ((r : Nat) : Int) < 2 ^ 63 by omega)]; rfl
  · unfold seqIndex?
    simp only [if_neg (show ¬ ((r : Nat) : Int) < 0 by omega), List.size_toArray, decide_eq_true (show (0 : Int) ≤ (r : Nat) by omega), decide_eq_true (show ((r : Nat) : Int) < (vs.length : Nat) by omega)]
    simp
end
section
variable {prog : Program} {w : World} {A : Around} {E : Value → Shared → Prop} {s : Shared} {h₀ : Heap} {L D : Addr} {m : Str → Option Value} {news news' : List (Addr × Obj)} {Q : Value → Shared → Prop} {vs : List Value} {n r : Nat} {u : Tok} {Z : Addr → Obj → Prop}
theorem my_popM {l : List (Nat × List UInt8)} (F : Fr h₀ L s.heap m) (N : News h₀ L s.heap news) (U : Upd D (listOf vs.toArray n) (listOf (vs.eraseIdx r).toArray (n + 1)) news news') (M : Marks Z vs l) (hr : ((r : Nat) : Int) < (vs.length : Nat)) (hz : vs.length < 1000000)
    (h : ∀ T pn t o u n' h', l[r]? = some (pn, o) → Z T { cls := .type "tuple", data := .seq [.int (pn : Nat) t, .bytes (List.toArray o) u].toArray n' } → Fr h₀ L h' m → News h₀ L h' news' → Q (.ref T) { s with heap := h' }) :
    wpAny (model prog w) A (call (.builtin "list.pop") [.ref D, .int (r : Nat) u]) Q E s := by
  have hl := M.length
  have hr' : r < l.length := by omega
  obtain ⟨T, t, u', n', e, z⟩ := M.get (i := r) (pn := l[r].1) (o := l[r].2) (List.getElem?_eq_getElem hr')
  exact my_pop F N U e hz fun h' F' N' => h T _ t _ u' n' h' (List.getElem?_eq_getElem hr') z F' N'
theorem my_popC {l : List (List UInt8 × List Nat)} (F : Fr h₀ L s.heap m) (N : News h₀ L s.heap news) (U : Upd D (listOf vs.toArray n) (listOf (vs.eraseIdx r).toArray (n + 1)) news news') (M : Chs Z vs l) (hr : ((r : Nat) : Int) < (vs.length : Nat)) (hz : vs.length < 1000000)
    (h : ∀ T o u f n' fvs nf pgs h', l[r]? = some (o, pgs) → Z T { cls := .type "tuple", data := .seq [.bytes (List.toArray o) u, .ref f].toArray n' } → Z f (listOf fvs.toArray nf) → IntsAre fvs (nInts pgs) → Fr h₀ L h' m → News h₀ L h' news' → Q (.ref T) { s with heap := h' }) :
    wpAny (model prog w) A (call (.builtin "list.pop") [.ref D, .int (r : Nat) u]) Q E s := by
  have hl := M.length
  have hr' : r < l.length := by omega
  obtain ⟨T, u', f, n', fvs, nf, e, z, z2, i⟩ := M.get (i := r) (o := l[r].1) (pgs := l[r].2) (List.getElem?_eq_getElem hr')
  exact my_pop F N U e hz fun h' F' N' => h T _ u' f n' fvs nf _ h' (List.getElem?_eq_getElem hr') z z2 i F' N'
end
-- LINES
theorem words_44_44 : True := by
  k_with "call builtin:list.pop" => ((with_reducible show wpAny _ _ (call (Value.builtin _) [Value.ref _, Value.int _ _]) _ _ _); k_dflt (refine' my_popM ?zF ?zN ?zU ?zM ?zr ?zz ?_; (case zF => k_asm); (case zN => k_asm); (case zM => with_reducible assumption); (case zU => k_upd); (case zr => omega); (case zz => k_extra "my len"); k_whole); intro T' pn' t' oc' u' n' h' e' z' F' N'; (try dsimp only at z'); (try k_sweep))
  k_with "call builtin:list.pop" => ((with_reducible show wpAny _ _ (call (Value.builtin _) [Value.ref _, Value.int _ _]) _ _ _); k_dflt (refine' my_popC ?zF ?zN ?zU ?zM ?zr ?zz ?_; (case zF => k_asm); (case zN => k_asm); (case zM => with_reducible assumption); (case zU => k_upd); (case zr => omega); (case zz => k_extra "my len"); k_whole); intro T' oc' u' f' n' fvs' nf' pgs' h' e' z' z2' hI' F' N'; (try dsimp only at z' z2'); (try k_sweep))
  trivial
-- END LINES
section
noncomputable def IsWd (w : World) (wo : Obj) (fr mk ch : Addr) : Prop := wo.IsDictOf (PySem.strKind PySem.Challenge.rw_nt0105_01.row.prog w) [(Str.ofString "free", .ref fr), (Str.ofString "marked", .ref mk), (Str.ofString "chains", .ref ch)]
variable {w : World} {A : Around} {base g : Heap} {outer : List Env} {s : Shared}
  {p : Program} {loose : List Str} {mean : ExcName → Option Value} {mg mb : Str → Option Value} {R : Result → Shared → Prop}
  {st pg fl pool src wd fr mk ch : Addr} {so wo to : Obj} {vs fvs mvs cvs : List Value} {n nf nm nc : Nat} {P : List (List UInt8)} {ps : Nat} {F : FLt} {frl : List Nat} {mkl : List (Nat × List UInt8)} {chl : List (List UInt8 × List Nat)}
noncomputable abbrev led (src : Addr) (so : Obj) (pg : Addr) (vs : List Value) (n : Nat) (wd : Addr) (wo : Obj) (fr : Addr) (fvs : List Value) (nf : Nat) (mk : Addr) (mvs : List Value) (nm : Nat) (ch : Addr) (cvs : List Value) (nc : Nat) (to : Obj) : List (Addr × Obj) :=
  [(src, so), (pg, listOf vs.toArray n), (wd, wo), (fr, listOf fvs.toArray nf), (mk, listOf mvs.toArray nm), (ch, listOf cvs.toArray nc), (449, to)]
noncomputable abbrev qt (g : Heap) (outer : List Env) : Heap := hideAll g (outer.filterMap (·.frame))
theorem qt_stays (g : Heap) (outer : List Env) : (qt g outer).StaysIn g := fun _ _ e => of_hideAll _ e
noncomputable def lamQ : Str := (Str.ofString "_law_refused" ++ Str.ofString ".<locals>.") ++ Str.ofString "<lambda>"
noncomputable def TabOk (Z : Addr → Obj → Prop) (to : Obj) : Prop := ∃ ps, to = tabObj ps ∧ TriplesOk ps.toList ∧ ∀ pos, codeAmong pos ps.toList = none ∨ ∃ c' oc vs t, codeAmong pos ps.toList = some (.ref c') ∧ Z c' oc ∧ oc.data = .fields vs ∧ vs[1]? = some (.str lamQ t)
theorem TabOk.mono {Z Z' : Addr → Obj → Prop} (h : ∀ a o, Z a o → Z' a o) {to : Obj} (t : TabOk Z to) : TabOk Z' to := by
  obtain ⟨ps, e, t1, t2⟩ := t
  refine ⟨ps, e, t1, fun pos => (t2 pos).imp_right ?_⟩
  rintro ⟨c', oc, vs, t, h1, h2, h3, h4⟩
  exact ⟨c', oc, vs, t, h1, h _ _ h2, h3, h4⟩
structure WOk (w : World) (Z : Addr → Obj → Prop) (ps : Nat) (so : Obj) (vs : List Value) (wo : Obj) (fr : Addr) (fvs : List Value) (mk : Addr) (mvs : List Value) (ch : Addr) (cvs : List Value) (to : Obj) (P : List (List UInt8)) (F : FLt) (frl : List Nat) (mkl : List (Nat × List UInt8)) (chl : List (List UInt8 × List Nat)) : Prop where
  src : SrcOk so
  pages : BytesAre vs P
  wd : IsWd w wo fr mk ch
  free : IntsAre fvs (nInts frl)
  marks : Marks Z mvs mkl
  chains : Chs Z cvs chl
  table : TabOk Z to
  inv : WInv ps P F frl mkl chl
noncomputable def DeedP (f : Addr) (w : World) (A : Around) (base g : Heap) (outer : List Env) (s : Shared) (p : Program) (loose : List Str) (mean : ExcName → Option Value) (mg mb : Str → Option Value) (R : Result → Shared → Prop)
  (st pg fl pool src wd fr mk ch : Addr) (so wo to : Obj) (vs fvs mvs cvs : List Value) (n nf nm nc : Nat) (P : List (List UInt8)) (ps : Nat) (F : FLt) (frl : List Nat) (mkl : List (Nat × List UInt8)) (chl : List (List UInt8 × List Nat)) (Z : Addr → Obj → Prop) : Prop :=
  Pre p loose mean mg mb w A base outer g s (led src so pg vs n wd wo fr fvs nf mk mvs nm ch cvs nc to) → Room A 9 → (K w.params).In base → Top p loose mean mg mb base → ApNd (led src so pg vs n wd wo fr fvs nf mk mvs nm ch cvs nc to) →
  IsStore (qt g outer) st pg (ps : Int) → IsFree (qt g outer) fl st → IsPool (qt g outer) pool fl st → (∀ a o, Z a o → (qt g outer).get? a = some o) → WOk w Z ps so vs wo fr fvs mk mvs ch cvs to P F frl mkl chl → P.length < 200 →
  (∀ so' vs' n' wo' fr' fvs' nf' mvs' nm' cvs' nc' to' ex P' F' frl' mkl' chl' g' h' tk, WOk w (fun a o => Z a o ∨ (a, o) ∈ ex) ps so' vs' wo' fr' fvs' mk mvs' ch cvs' to' P' F' frl' mkl' chl' → P'.length ≤ P.length + 4 →
    KtsTurn (outer.filterMap (·.frame)) g g' → Below A base outer g' → Post g' h' (led src so' pg vs' n' wd wo' fr' fvs' nf' mk mvs' nm' ch cvs' nc' to' ++ ex) → R (.ok (.ret (.bool true))) { s with heap := h', toks := tk }) →
  codeAny (model PySem.Challenge.rw_nt0105_01.row.prog w) A (.call (.ref f) ⟨[.ref src, .ref pool, .ref wd], []⟩) R s
noncomputable def Deed (w : World) (f : Addr) : Prop := ∀ {A : Around} {base g : Heap} {outer : List Env} {s : Shared} {p : Program} {loose : List Str} {mean : ExcName → Option Value} {mg mb : Str → Option Value} {R : Result → Shared → Prop}
  {st pg fl pool src wd fr mk ch : Addr} {so wo to : Obj} {vs fvs mvs cvs : List Value} {n nf nm nc : Nat} {P : List (List UInt8)} {ps : Nat} {F : FLt} {frl : List Nat} {mkl : List (Nat × List UInt8)} {chl : List (List UInt8 × List Nat)} {Z : Addr → Obj → Prop}, DeedP f w A base g outer s p loose mean mg mb R st pg fl pool src wd fr mk ch so wo to vs fvs mvs cvs n nf nm nc P ps F frl mkl chl Z
theorem Marks.qt {g : Heap} {outer : List Env} {Z : Addr → Obj → Prop} {vs : List Value} {l : List (Nat × List UInt8)} (m : Marks Z vs l) (hZ : ∀ a o, Z a o → (qt g outer).get? a = some o) : Marks (fun a o => g.get? a = some o) vs l := m.mono fun a o z => of_hideAll _ (hZ a o z)
theorem Chs.qt {g : Heap} {outer : List Env} {Z : Addr → Obj → Prop} {vs : List Value} {l : List (List UInt8 × List Nat)} (m : Chs Z vs l) (hZ : ∀ a o, Z a o → (qt g outer).get? a = some o) : Chs (fun a o => g.get? a = some o) vs l := m.mono fun a o z => of_hideAll _ (hZ a o z)
end
set_option genInjectivity false in
set_option genSizeOf false in
structure DCtx : Type where
  w : World
  A : Around
  base : Heap
  g : Heap
  outer : List Env
  s : Shared
  p : Program
  loose : List Str
  mean : ExcName → Option Value
  mg : Str → Option Value
  mb : Str → Option Value
  R : Result → Shared → Prop
  st : Addr
  pg : Addr
  fl : Addr
  pool : Addr
  src : Addr
  wd : Addr
  fr : Addr
  mkA : Addr
  ch : Addr
  so : Obj
  wo : Obj
  to : Obj
  vs : List Value
  fvs : List Value
  mvs : List Value
  cvs : List Value
  n : Nat
  nf : Nat
  nm : Nat
  nc : Nat
  P : List (List UInt8)
  ps : Nat
  F : FLt
  frl : List Nat
  mkl : List (Nat × List UInt8)
  chl : List (List UInt8 × List Nat)
  Z : Addr → Obj → Prop
theorem dctx_ne : Nonempty DCtx := ⟨⟨world0, {}, default, default, [], {}, default, [], fun _ => none, fun _ => none, fun _ => none, fun _ _ => True, 0, 0, 0, 0, 0, 0, 0, 0, 0, default, default, default, [], [], [], [], 0, 0, 0, 0, [], 0, [], [], [], [], fun _ _ => True⟩⟩
noncomputable def cxD (Pr : World → Around → Heap → Heap → List Env → Shared → Program → List Str → (ExcName → Option Value) → (Str → Option Value) → (Str → Option Value) → (Result → Shared → Prop) → Addr → Addr → Addr → Addr → Addr → Addr → Addr → Addr → Addr → Obj → Obj → Obj → List Value → List Value → List Value → List Value → Nat → Nat → Nat → Nat → List (List UInt8) → Nat → FLt → List Nat → List (Nat × List UInt8) → List (List UInt8 × List Nat) → (Addr → Obj → Prop) → Prop) : DCtx := @Classical.epsilon _ dctx_ne fun c => ¬ Pr c.w c.A c.base c.g c.outer c.s c.p c.loose c.mean c.mg c.mb c.R c.st c.pg c.fl c.pool c.src c.wd c.fr c.mkA c.ch c.so c.wo c.to c.vs c.fvs c.mvs c.cvs c.n c.nf c.nm c.nc c.P c.ps c.F c.frl c.mkl c.chl c.Z
theorem closeD {Pr : World → Around → Heap → Heap → List Env → Shared → Program → List Str → (ExcName → Option Value) → (Str → Option Value) → (Str → Option Value) → (Result → Shared → Prop) → Addr → Addr → Addr → Addr → Addr → Addr → Addr → Addr → Addr → Obj → Obj → Obj → List Value → List Value → List Value → List Value → Nat → Nat → Nat → Nat → List (List UInt8) → Nat → FLt → List Nat → List (Nat × List UInt8) → List (List UInt8 × List Nat) → (Addr → Obj → Prop) → Prop} (h : Pr (cxD Pr).w (cxD Pr).A (cxD Pr).base (cxD Pr).g (cxD Pr).outer (cxD Pr).s (cxD Pr).p (cxD Pr).loose (cxD Pr).mean (cxD Pr).mg (cxD Pr).mb (cxD Pr).R (cxD Pr).st (cxD Pr).pg (cxD Pr).fl (cxD Pr).pool (cxD Pr).src (cxD Pr).wd (cxD Pr).fr (cxD Pr).mkA (cxD Pr).ch (cxD Pr).so (cxD Pr).wo (cxD Pr).to (cxD Pr).vs (cxD Pr).fvs (cxD Pr).mvs (cxD Pr).cvs (cxD Pr).n (cxD Pr).nf (cxD Pr).nm (cxD Pr).nc (cxD Pr).P (cxD Pr).ps (cxD Pr).F (cxD Pr).frl (cxD Pr).mkl (cxD Pr).chl (cxD Pr).Z) : ∀ w A base g outer s p loose mean mg mb R st pg fl pool src wd fr mkA ch so wo to vs fvs mvs cvs n nf nm nc P ps F frl mkl chl Z, Pr w A base g outer s p loose mean mg mb R st pg fl pool src wd fr mkA ch so wo to vs fvs mvs cvs n nf nm nc P ps F frl mkl chl Z := fun w A base g outer s p loose mean mg mb R st pg fl pool src wd fr mkA ch so wo to vs fvs mvs cvs n nf nm nc P ps F frl mkl chl Z => Classical.byContradiction fun nx =>
  @Classical.epsilon_spec _ (fun c : DCtx => ¬ Pr c.w c.A c.base c.g c.outer c.s c.p c.loose c.mean c.mg c.mb c.R c.st c.pg c.fl c.pool c.src c.wd c.fr c.mkA c.ch c.so c.wo c.to c.vs c.fvs c.mvs c.cvs c.n c.nf c.nm c.nc c.P c.ps c.F c.frl c.mkl c.chl c.Z) ⟨⟨w, A, base, g, outer, s, p, loose, mean, mg, mb, R, st, pg, fl, pool, src, wd, fr, mkA, ch, so, wo, to, vs, fvs, mvs, cvs, n, nf, nm, nc, P, ps, F, frl, mkl, chl, Z⟩, nx⟩ h
noncomputable def DeedS (f : Addr) (c : DCtx) : Prop := DeedP f c.w c.A c.base c.g c.outer c.s c.p c.loose c.mean c.mg c.mb c.R c.st c.pg c.fl c.pool c.src c.wd c.fr c.mkA c.ch c.so c.wo c.to c.vs c.fvs c.mvs c.cvs c.n c.nf c.nm c.nc c.P c.ps c.F c.frl c.mkl c.chl c.Z
noncomputable def dc (f : Addr) : DCtx := cxD (DeedP f)
theorem deed_of {f : Addr} (h : DeedS f (dc f)) (w : World) : Deed w f := fun {A} {base} {g} {outer} {s} {p} {loose} {mean} {mg} {mb} {R} {st} {pg} {fl} {pool} {src} {wd} {fr} {mkA} {ch} {so} {wo} {to} {vs} {fvs} {mvs} {cvs} {n} {nf} {nm} {nc} {P} {ps} {F} {frl} {mkl} {chl} {Z} => closeD (Pr := DeedP f) h w A base g outer s p loose mean mg mb R st pg fl pool src wd fr mkA ch so wo to vs fvs mvs cvs n nf nm nc P ps F frl mkl chl Z
-- LINES
theorem words_44_45 : True := by
  k_with "subscriptTail Name Constant ref str" => ((with_reducible show wpAny _ _ (subscriptTail _ _ (Value.ref _) (Value.str _ _)) _ _ _); k_dflt (refine' PySem.W.kda_item (knd := PySem.strKind _ _) ?zka ?zkb ?zkc ?zkd ?zke ?_; (case zka => k_asm); (case zkb => k_mem); (case zkc => k_asm); (case zkd => exact PySem.strKind_is _ _ _ _); (case zke => rfl)))
  k_with "my dctx" => (unfold DeedS; k_extra "my dgen"; unfold DeedP)
  k_with "my dgen" => generalize DCtx.w _ = w, DCtx.A _ = A, DCtx.base _ = base, DCtx.g _ = g, DCtx.outer _ = outer, DCtx.s _ = s, DCtx.p _ = p, DCtx.loose _ = loose, DCtx.mean _ = mean, DCtx.mg _ = mg, DCtx.mb _ = mb, DCtx.R _ = R, DCtx.st _ = st, DCtx.pg _ = pg, DCtx.fl _ = fl, DCtx.pool _ = pool, DCtx.src _ = src, DCtx.wd _ = wd, DCtx.fr _ = fr, DCtx.mkA _ = mk, DCtx.ch _ = ch, DCtx.so _ = so, DCtx.wo _ = wo, DCtx.to _ = to, DCtx.vs _ = vs, DCtx.fvs _ = fvs, DCtx.mvs _ = mvs, DCtx.cvs _ = cvs, DCtx.n _ = n, DCtx.nf _ = nf, DCtx.nm _ = nm, DCtx.nc _ = nc, DCtx.P _ = P, DCtx.ps _ = ps, DCtx.F _ = F, DCtx.frl _ = frl, DCtx.mkl _ = mkl, DCtx.chl _ = chl, DCtx.Z _ = Z
  trivial
-- END LINES

section
variable {w : World}
theorem given_deed_c : DeedS 433 (dc 433) := by
  k_extra "my dctx"; intro H hd XB TB hnd S IF IP hZ W hsz k
  have S' := S.keeps (qt_stays g outer)
  have IF' := IF.keeps (qt_stays g outer)
  have IP' := IP.keeps (qt_stays g outer)
  have hs := W.src
  have hP := W.pages
  have hwd := W.wd
  have hI := W.free
  have hM := W.marks.qt hZ
  have D := W.inv.db
  have hsize := W.inv.size
  have S' := S.keeps (qt_stays g outer)
  have IF' := IF.keeps (qt_stays g outer)
  have hml' := hM.length
  have hfl' := hI.length
  rw [List.length_map] at hfl'
  refine apNd_I hnd ?_
  dsimp only [led]
  k_extra "my imp"
  have hwd' := hwd
  unfold IsWd at hwd'
  dsimp only [led] at H
  rcases hmv : mvs with _ | ⟨mv0, mvr⟩
  · subst hmv
    k_extra "my enterX"
    k_extra "my steps"
    refine' k so vs ?_ wo fr fvs ?_ [] ?_ cvs ?_ to [] P F frl mkl chl g _ _ ⟨hs, hP, hwd, hI, W.marks.mono fun _ _ e => .inl e, W.chains.mono fun _ _ e => .inl e, W.table.mono fun _ _ e => .inl e, W.inv⟩ (by omega) KtsTurn.refl B ?wpost
    case wpost => simp only [led, List.cons_append, List.nil_append]; k_extra "my post"
  · have hne : ¬ mvs = [] := by rw [hmv]; simp
    have hpos : 0 < mvs.length := by rw [hmv]; simp
    clear hmv
    k_extra "my enterX"
    k_extra "my steps"
    have hpn := W.inv.marked (List.mem_of_getElem? (by assumption))
    obtain ⟨hpn1, hpn2, hpn3⟩ := hpn
    k_extra "my steps"
    with_reducible rename GiveR _ _ _ _ _ _ => hG
    with_reducible rename SrcOk _ => hs2
    with_reducible rename BytesAre _ _ => hB2
    have I' := W.inv.give (by assumption) hG
    have hm2 := W.marks.erase
    try dsimp only
    refine' k _ vs' _ wo fr (fvs ++ [Value.int (pn' : Nat) ?wt]) _ (mvs.eraseIdx r') _ cvs _ to [] Pg' Fg' _ _ chl g _ _ ⟨hs2, hB2, hwd, ints_snocN hI _ _, (W.marks.erase _).mono fun _ _ e => .inl e, W.chains.mono fun _ _ e => .inl e, W.table.mono fun _ _ e => .inl e, I'⟩ (by have := hG.2.1; omega) KtsTurn.refl B ?wpost
    case wpost => simp only [led, List.cons_append, List.nil_append]; k_extra "my post"
theorem given_deed : Deed w 433 := deed_of given_deed_c w
end

section
variable {prog : Program} {w : World} {A : Around} {E : Value → Shared → Prop} {s : Shared} {h₀ : Heap} {L r : Addr} {m : Str → Option Value} {news : List (Addr × Obj)} {env : Env} {a b : Int} {t₀ u₀ v₀ : Tok} {Q : Value → Shared → Prop}
theorem comp_indT {ct elt : PySem.Expr} {x : Str} {scope : Scope} {cl : List (Str × Addr)} {S : List (Addr × Obj) → Prop} {P : Nat → Value → Prop} {Fin : List Value → List (Addr × Obj) → Prop} {n : Nat} {news : List (Addr × Obj)}
    (J : Nat → List Value → Prop)
    (step : ∀ i v ys I oI C oC D m₂ h tk (E' : Value → Shared → Prop), i < n → P i v → J i ys → LCg.NsObj oC m₂ → m₂ x = some v → Fr h₀ L h m → News h₀ L h ((I, oI) :: (C, oC) :: (D, LCg.lst ys) :: news) → LCg.Off3 I C D news → ((@Ne Nat I C) ∧ (@Ne Nat I D) ∧ (@Ne Nat C D)) →
      wpAny (model prog w) A (isTrue ct (compEnvC scope cl C env) (eval ct (compEnvC scope cl C env))) (fun ok s' => if ok = true then
        wpAny (model prog w) A (eval elt (compEnvC scope cl C env)) (LCg.CompEnd h₀ L m { s with heap := h, toks := tk } I oI C oC D (LCg.lst ys) S (fun y news' => news' = news ∧ J (i + 1) (ys ++ [y]))) E' s'
        else LCg.CompEnd h₀ L m { s with heap := h, toks := tk } I oI C oC D (LCg.lst ys) S (fun _ news' => news' = news ∧ J (i + 1) ys) Value.none s') E' { s with heap := h, toks := tk })
    (fin : ∀ ys, J n ys → Fin ys news) : ∀ k i ys nw, i + k = n → nw = news ∧ J i ys → LCt.CompRestT prog w A h₀ L m env ct elt x scope cl s S P Fin k i ys nw
  | 0, i, ys, nw, e, j => LCt.CompRestT.zero (by rw [Nat.add_zero] at e; subst e; rw [j.1]; exact fin _ j.2)
  | k + 1, i, ys, nw, e, ⟨e1, j⟩ => LCt.CompRestT.succ fun v I oI C oC D m₂ h tk E' hv hC hx F N off ne => by
    subst e1
    refine wpAny_mono (step i v ys I oI C oC D m₂ h tk E' (by omega) hv j hC hx F N off ne) (fun ok s₁ z => ?_) fun _ _ x => x
    cases ok with
    | true =>
      simp only [if_true] at z ⊢
      exact wpAny_mono z (fun y s₂ ⟨h', tk', news', e', F', N', o', S', r⟩ => ⟨h', tk', news', e', F', N', o', S', comp_indT J step fin k (i + 1) _ _ (by omega) r⟩) fun _ _ x => x
    | false =>
      simp only [Bool.false_eq_true, if_false] at z ⊢
      obtain ⟨h', tk', news', e', F', N', o', S', r⟩ := z
      exact ⟨h', tk', news', e', F', N', o', S', comp_indT J step fin k (i + 1) _ _ (by omega) r⟩
theorem comp_fixT {ct elt : PySem.Expr} {x : Str} {scope : Scope} {cl : List (Str × Addr)} {S : List (Addr × Obj) → Prop} {P : Nat → Value → Prop} {Fin : List Value → List (Addr × Obj) → Prop} {n : Nat} {news : List (Addr × Obj)}
    (J : Nat → List Value → Prop) (j0 : J 0 [])
    (step : ∀ i v ys I oI C oC D m₂ h tk (E' : Value → Shared → Prop), i < n → P i v → J i ys → LCg.NsObj oC m₂ → m₂ x = some v → Fr h₀ L h m → News h₀ L h ((I, oI) :: (C, oC) :: (D, LCg.lst ys) :: news) → LCg.Off3 I C D news → ((@Ne Nat I C) ∧ (@Ne Nat I D) ∧ (@Ne Nat C D)) →
      wpAny (model prog w) A (isTrue ct (compEnvC scope cl C env) (eval ct (compEnvC scope cl C env))) (fun ok s' => if ok = true then
        wpAny (model prog w) A (eval elt (compEnvC scope cl C env)) (LCg.CompEnd h₀ L m { s with heap := h, toks := tk } I oI C oC D (LCg.lst ys) S (fun y news' => news' = news ∧ J (i + 1) (ys ++ [y]))) E' s'
        else LCg.CompEnd h₀ L m { s with heap := h, toks := tk } I oI C oC D (LCg.lst ys) S (fun _ news' => news' = news ∧ J (i + 1) ys) Value.none s') E' { s with heap := h, toks := tk })
    (fin : ∀ ys, J n ys → Fin ys news) : LCt.CompRestT prog w A h₀ L m env ct elt x scope cl s S P Fin n 0 [] news :=
  comp_indT J step fin n 0 [] news (Nat.zero_add n) ⟨rfl, j0⟩
theorem off_ap {D : Nat} : ∀ {l : List (Addr × Obj)}, LCg.Off1 D l → ApAll D l
  | [], _ => trivial
  | _ :: _, h => ⟨fun e => h.1 e.symm, off_ap h.2⟩
theorem sorted_eq : ∀ {a b : List Int}, a.Perm b → a.Pairwise (· ≤ ·) → b.Pairwise (· ≤ ·) → a = b
  | [], b, p, _, _ => (List.nil_perm.mp p).symm
  | x :: r, [], p, _, _ => absurd p.length_eq (by simp)
  | x :: r, y :: t, p, ha, hb => by
    have h1 := List.pairwise_cons.mp ha
    have h2 := List.pairwise_cons.mp hb
    have hx : y ≤ x := by
      rcases List.mem_cons.mp (p.mem_iff.mp (List.mem_cons_self ..)) with e | e
      · omega
      · exact h2.1 x e
    have hy : x ≤ y := by
      rcases List.mem_cons.mp (p.mem_iff.mpr (List.mem_cons_self ..)) with e | e
      · omega
      · exact h1.1 y e
    obtain rfl : x = y := by omega
    rw [sorted_eq (List.perm_cons _ |>.mp p) h1.2 h2.2]
theorem range_up (a n : Nat) : (nInts (List.range' a n)).Pairwise (· ≤ ·) := by
  rw [nInts, List.pairwise_map]
  exact (List.pairwise_lt_range' (s := a) (n := n)).imp fun h => by omega
theorem my_rangeL (hh : A.handled = none) (F : Fr h₀ L s.heap m) (N : News h₀ L s.heap news) (hr : IsRange s.heap r a b 1 t₀ u₀ v₀) (h0 : 0 ≤ a) (hab : a ≤ b) (hb : b < 1000000)
    (h : ∀ D us c h' tk, Fr h₀ L h' m → News h₀ L h' ((D, listOf (List.toArray us) c) :: news) → (∀ p ∈ news, p.1 < D) → IntsAre us (nInts (List.range' a.toNat (b - a).toNat)) → Q (.ref D) { s with heap := h', toks := tk }) :
    wpAny (model prog w) A (call (.type "list") [.ref r]) Q E s := by
  refine kll_range (n := (b - a).toNat) hh F N hr (small_one (by omega) (by omega) (by omega) (by omega)) ?_ (by omega) fun D us c h' tk F' N' l i => h D us c h' tk F' N' l ?_
  · rw [rangeSize_one]; omega
  · have e : rangeKs a (b - a).toNat = nInts (List.range' a.toNat (b - a).toNat) := by
      rw [rangeKs, nInts, List.range'_eq_map_range, List.map_map]
      refine List.map_congr_left fun j _ => ?_
      simp only [Function.comp]
      omega
    rw [← e]; exact i
end
-- LINES
theorem words_46_46 : True := by
  k_with "call builtin:min" => ((with_reducible show wpAny _ _ (call (Value.builtin "min") [Value.int _ _, Value.int _ _]) _ _ _); k_dflt (refine' min_two_N ?zh ?zF ?zN ?_; (case zh => k_extra "my hh"); (case zF => k_asm); (case zN => k_asm)); intro h' tk' F' N'; (try k_sweep))
  k_with "call type:list" => ((with_reducible show wpAny _ _ (call (Value.type "list") [Value.ref _]) _ _ _); k_dflt (refine' my_rangeL ?zh ?zF ?zN ?zr ?z0 ?z1 ?z2 ?_; (case zh => k_extra "my hh"); (case zF => k_asm); (case zN => k_asm); (case zr => assumption); (case z0 => k_extra "my len"); (case z1 => k_extra "my len"); (case z2 => k_extra "my len")); intro D' us' c' h' tk' F' N' lt' hI'; (try k_lt lt'); (try k_sweep))
  k_with "my condq" => (simp only [decide_eq_true_eq, decide_eq_false_iff_not, Bool.not_eq_true', Bool.not_eq_true, Bool.not_eq_false, Bool.not_not]; assumption)
  k_with "z ite" => ((first | (with_reducible show (if (!decide (_ ∈ _)) = true then _ else _)) | (with_reducible show (if decide (_ ∈ _) = true then _ else _)) | (with_reducible show (if (!decide (_ = [])) = true then _ else _)) | (with_reducible show (if decide (_ = []) = true then _ else _))); k_dflt (first | refine PySem.W.ite_pos (by k_extra "my condq") ?_ | refine PySem.W.ite_neg (by k_extra "my condq") ?_ | with_reducible refine split_not ?_ | (refine split_dec ?_ ?_ <;> intro _)))
  k_with "compareOp Eq ref ref" => (k_dflt (first | (refine' eq_intsK ?zl ?zi ?zl2 ?zi2 ?zu ?_; (case zl => k_extra "my isl"); (case zi => with_reducible assumption); (case zl2 => k_extra "my isl"); (case zi2 => with_reducible assumption); (case zu => k_extra "my units")) | (refine my_eqNil (by k_extra "my isl") (by k_extra "my isl") (by k_extra "my units") ?_)))
  k_with "compareOp NotEq ref ref" => (k_dflt (first | (refine' ne_intsK ?zl ?zi ?zl2 ?zi2 ?zu ?_; (case zl => k_extra "my isl"); (case zi => with_reducible assumption); (case zl2 => k_extra "my isl"); (case zi2 => with_reducible assumption); (case zu => k_extra "my units")) | (refine my_neNil (by k_extra "my isl") (by k_extra "my isl") (by k_extra "my units") ?_)))
  k_with "eval ListComp" => (k_dflt (refine LCt.ListComp_T (F₀ := by k_asm) (by with_unfolding_all rfl) (by decide) (by rfl) (by decide) (by rfl) ?_))
  k_with "exec Assign cons ListComp" => (k_dflt (refine LCt.Assign_ListComp_T (F₀ := by k_asm) (by rfl) (by with_unfolding_all rfl) (by with_unfolding_all rfl) (by decide) (by rfl) (by decide) (by rfl) (by rfl) (by rfl) ?_))
  k_with "exec Assign cons ListComp" => ((with_reducible show wpAny _ _ (exec (Stmt.Assign [Expr.Subscript _ _ _] _ _) _) _ _ _); with_reducible refine wpAny_Assign_Subscript ?_ ?_; rotate_left; with_unfolding_all rfl)
  k_with "my steps" => repeat' (k_extra "my nostop"; (fail_if_success (with_reducible show LCg.CompEnd _ _ _ _ _ _ _ _ _ _ _ _ _ _)); (fail_if_success (with_reducible show LCt.CompSrcT _ _ _ _ _ _ _ _ _ _ _ _ _ _ _)); first | (k_unfold; (try dsimp only)) | walk1 | (dsimp only; walk1))
  trivial
-- END LINES
section
variable {w : World} {A : Around} {base g : Heap} {outer : List Env} {s : Shared}
  {p : Program} {loose : List Str} {mean : ExcName → Option Value} {mg mb : Str → Option Value} {R : Result → Shared → Prop}
  {wd fr mk ch pgl : Addr} {wo : Obj} {fvs pvs : List Value} {nf np b m cnt : Nat} {frl ts : List Nat} {t1 t2 : Tok}
theorem new_spec (H : Pre p loose mean mg mb w A base outer g s [(wd, wo), (fr, listOf fvs.toArray nf)]) (hd : Room A 2) (hwf : Ap wd fr) (hwd : IsWd w wo fr mk ch) (hI : IntsAre fvs (nInts frl)) (hpg : g.get? pgl = some (listOf pvs.toArray np)) (hp : IntsAre pvs (nInts ts))
  (hfl : frl.length < 1000) (htl : ts.length < 100) (hb : b < 1000) (hfresh : (ts.filter fun x => !frl.contains x) = List.range' (b + 1) m) (hmin : ts.length - m = min ts.length frl.length) (hm : m ≤ ts.length) (hc : cnt = b + m)
  (k : ∀ D fvs' nf' wo' h' tk, IsWd w wo' D mk ch → IntsAre fvs' (nInts (frl.filter fun x => !ts.contains x)) → Post g h' [(wd, wo'), (D, listOf fvs'.toArray nf')] → R (.ok (.ret (.bool true))) { s with heap := h', toks := tk }) :
  codeAny (model PySem.Challenge.rw_nt0105_01.row.prog w) A (.call (.ref 419) ⟨[.ref wd, .ref pgl, .int (b : Int) t1, .int (cnt : Int) t2], []⟩) R s := by
  revert w A base g outer s p loose mean mg mb R wd fr mk ch pgl wo fvs pvs nf np b m cnt frl ts t1 t2; refine @(close8 ?_); generalize cx8 _ = X; k_extra "my ctx"; generalize X.2.1 = wd, X.2.2.1 = fr, X.2.2.2.1 = mk, X.2.2.2.2.1 = ch, X.2.2.2.2.2.1 = pgl, X.2.2.2.2.2.2.1 = wo, X.2.2.2.2.2.2.2.1 = fvs, X.2.2.2.2.2.2.2.2 = pvs; refine (?zcG15 : CloT _ ?zcH15); refine @(allE9 ?_); apply ?zcH15; intro nf np b m cnt frl ts t1 t2; intro H hd hwf hwd hI hpg hp hfl htl hb hfresh hmin hm hc k
  have hwd' := hwd
  unfold IsWd at hwd'
  have hpl := isl_got hpg
  have hll := hp.length
  have hfl' := hI.length
  rw [List.length_map] at hll hfl'
  k_extra "my enterCX"
  k_extra "my steps"
  refine LCt.CompSrcT.base (its := pvs.toArray) (by k_extra "my hh") (by k_asm) (by k_asm) hpl (by rw [List.size_toArray, sizeLine_eq]; omega) ?_
  intro g'
  rw [List.size_toArray]
  refine comp_fixT (fun i ys => IntsAre ys (nInts ((ts.take i).filter fun x => !frl.contains x))) .nil ?_ ?_
  · intro i v ys I oI C oC D m₂ h tk E' hi hv hj hC hx F N off ne
    obtain ⟨hi', t', rfl⟩ := nInts_get hp hv
    have hti := take_next i hi'
    generalize ts[i] = x at *
    k_extra "my steps"
    · have hx2 : x ∈ frl := by
        with_reducible rename ((_ : Int) ∈ nInts frl) => hx'
        obtain ⟨y, hy, e⟩ := List.mem_map.mp hx'
        obtain rfl : y = x := by omega
        exact hy
      refine LCg.CompEnd.intro (by k_asm) (by k_asm) _ (fun p hp => hp) off (.inl hpl) ⟨rfl, ?_⟩
      rw [hti, List.filter_append, List.filter_cons_of_neg (by simpa using hx2), List.filter_nil, List.append_nil]
      exact hj
    · with_reducible rename ¬ _ => hx'
      have hx2 : x ∉ frl := fun h => hx' (List.mem_map_of_mem h)
      refine LCg.CompEnd.intro (by k_asm) (by k_asm) _ (fun p hp => hp) off (.inl hpl) ⟨rfl, ?_⟩
      rw [hti, List.filter_append, List.filter_cons_of_pos (by simpa using hx2)]
      exact ints_snocN hj _ _
  intro ys hj D h tk F N off
  rw [hll, List.take_length, hfresh] at hj
  have hyl := hj.length
  rw [List.length_map, List.length_range'] at hyl
  have hrl : (nInts (List.range' (b + 1) m)).length = m := by rw [List.length_map, List.length_range']
  have off' := off_ap off
  clear off
  simp only [ApAll, and_true] at off'
  obtain ⟨_, _, _, _⟩ := off'
  k_extra "my steps"
  refine LCt.CompSrcT.ledger (by k_extra "my hh") (by k_asm) (by k_asm) (show (fr, listOf fvs.toArray nf) ∈ _ by k_mem) (by rw [List.size_toArray, sizeLine_eq]; omega) ?_
  intro g''
  rw [List.size_toArray]
  refine comp_fixT (fun i ys => IntsAre ys (nInts ((frl.take i).filter fun x => !ts.contains x))) .nil ?_ ?_
  · intro i v ys I oI C oC D2 m₂ h tk E' hi hv hj2 hC hx F2 N2 off2 ne
    obtain ⟨hi', t', rfl⟩ := nInts_get hI hv
    have hti := take_next i hi'
    generalize frl[i] = x at *
    k_extra "my steps"
    · have hx2 : x ∈ ts := by
        with_reducible rename ((_ : Int) ∈ nInts ts) => hx'
        obtain ⟨y, hy, e⟩ := List.mem_map.mp hx'
        obtain rfl : y = x := by omega
        exact hy
      refine LCg.CompEnd.intro (by k_asm) (by k_asm) _ (fun p hp => hp) off2 (.inr ⟨_, by k_mem, rfl, _, rfl⟩) ⟨rfl, ?_⟩
      rw [hti, List.filter_append, List.filter_cons_of_neg (by simpa using hx2), List.filter_nil, List.append_nil]
      exact hj2
    · with_reducible rename ¬ _ => hx'
      have hx2 : x ∉ ts := fun h => hx' (List.mem_map_of_mem h)
      refine LCg.CompEnd.intro (by k_asm) (by k_asm) _ (fun p hp => hp) off2 (.inr ⟨_, by k_mem, rfl, _, rfl⟩) ⟨rfl, ?_⟩
      rw [hti, List.filter_append, List.filter_cons_of_pos (by simpa using hx2)]
      exact ints_snocN hj2 _ _
  intro ys2 hj2 D2 h tk F2 N2 off2
  rw [hfl', List.take_length] at hj2
  have off' := off_ap off2
  clear off2
  simp only [ApAll, and_true] at off'
  obtain ⟨_, _, _, _, _⟩ := off'
  k_extra "my steps"
  · have e : (((cnt : Nat) : Int) == (b : Int) + (ys.length : Nat)) = true := by rw [beq_iff_eq]; omega
    rw [e]
    refine' k D2 ys2 _ _ _ _ ?w1 hj2 ?w2
    case w2 => k_extra "my post"
    case w1 => unfold IsWd; assumption
  · exfalso
    with_reducible rename ¬ _ => hne
    have e1 : ((b : Int) + 1).toNat = b + 1 := ar_tn2 b
    have e2 : ((b : Int) + 1 + (ys.length : Nat) - ((b : Int) + 1)).toNat = m := by rw [Int.add_comm ((b : Int) + 1) (ys.length : Nat), Int.add_sub_cancel, Int.toNat_natCast]; omega
    rw [e1, e2] at hne
    exact hne (sorted_eq hp' ho' (range_up _ _))
end

section
variable {w : World}
theorem taken_deed_c : DeedS 426 (dc 426) := by
  k_extra "my dctx"; intro H hd XB TB hnd S IF IP hZ W hsz k
  have S' := S.keeps (qt_stays g outer)
  have IF' := IF.keeps (qt_stays g outer)
  have IP' := IP.keeps (qt_stays g outer)
  have hs := W.src
  have hP := W.pages
  have hwd := W.wd
  have hI := W.free
  have hM := W.marks.qt hZ
  have D := W.inv.db
  have hsize := W.inv.size
  have S' := S.keeps (qt_stays g outer)
  have IF' := IF.keeps (qt_stays g outer)
  have hml' := hM.length
  have hl := hP.length
  have hfl' := hI.length
  rw [List.length_map] at hfl'
  refine apNd_I hnd ?_
  dsimp only [led]
  k_extra "my imp"
  have hwd' := hwd
  unfold IsWd at hwd'
  have hpsz := D.psz
  dsimp only [led] at H
  k_extra "my enterX"
  k_extra "my steps"
  with_reducible rename TakeR _ _ _ _ _ _ => hT
  have hTs := (TakesR.nil D).snoc hT
  rw [List.nil_append] at hTs
  have hTp := hTs.pages D
  have hpn := hTp.2.1 _ (.head _)
  obtain ⟨hpn1, hpn2⟩ := hpn
  have hfr := takes_fresh W.inv hTs
  obtain ⟨hfr1, hfr2, hfr3, hfr4⟩ := hfr
  have hfr5 := hfr3
  rw [List.length_singleton] at hfr5
  k_extra "my steps"
  have hl2 := BytesAre.length (by assumption : BytesAre _ (P'.set _ _))
  rw [List.length_set] at hl2
  rw [← hl] at hfr1 hfr2 hfr3 hfr4
  refine my_call ?_
  refine' new_spec (m := P'.length - vs.length) (ts := [pn']) ?wH ?wd ?wf hwd hI ?wg (ints_one _ _) (by omega) (by rw [List.length_singleton]; omega) (by omega) hfr1 hfr2 hfr3 ?wc ?wk
  case wH => k_extra "my preM"
  case wd => k_extra "my depth"
  case wf => assumption
  case wg => k_extra "my gotM"
  case wc => omega
  intro D2 fvs2 nf2 wo2 h2 tk2 hwd2 hI2 P2
  k_extra "my backM"
  have I' := W.inv.taken (o := oc') hTs
  rw [show ((pn' : Int) - 1).toNat = pn' - 1 by omega] at hP'
  refine' k so' vs' _ wo2 D2 fvs2 _ (mvs ++ [.ref ?wT]) _ cvs _ to [(?wT, { cls := .type "tuple", data := .seq [.int (pn' : Nat) ?wt, .bytes (List.toArray oc') ?wu].toArray })] _ _ _ _ _ g _ _ ⟨hs', hP', hwd2, hI2, (W.marks.mono fun _ _ e => .inl e).snoc (.inr (.head _)), W.chains.mono fun _ _ e => .inl e, W.table.mono fun _ _ e => .inl e, I'⟩ ?wl KtsTurn.refl B ?wpost
  case wpost => simp only [led, List.cons_append, List.nil_append]; k_extra "my post"
  case wl => rw [List.length_set]; omega
theorem taken_deed : Deed w 426 := deed_of taken_deed_c w
end

section
variable {prog : Program} {w : World} {A : Around} {E : Value → Shared → Prop} {s : Shared} {value slice : PySem.Expr} {l : Addr} {Q : Value → Shared → Prop} {vs : List Value} {k : Int} {u t : Tok}
noncomputable def MenuB (_ : Int) : Prop := True
theorem my_menu {b : Int} (_hb : MenuB b) (hl : s.heap.IsList l vs.toArray) (h0 : 0 ≤ k) (hk : k < (vs.length : Nat)) (hz : vs.length < 1000) (ha : ∀ v ∈ vs, ∃ i t, v = .int i t ∧ 0 ≤ i ∧ i < b) (h : ∀ i t, 0 ≤ i → i < b → Q (.int i t) s)
    (hs : subscripted slice false (.ref l) (.int k u) = operate [.ref l, .int k u] (getItem (.ref l) (.int k u)) := by with_unfolding_all rfl) (hg : ∀ r, letTemporaryGo value (.ref l) r = pure () := by intro _; with_unfolding_all rfl) :
    wpAny (model prog w) A (subscriptTail value slice (.ref l) (.int k u)) Q E s := by
  have hk' : k.toNat < vs.length := by omega
  obtain ⟨i, t, e, h1, h2⟩ := ha _ (List.getElem_mem hk')
  exact item_listL hl h0 (by omega) (x := .int i t) (by rw [List.getElem?_eq_getElem hk', e]) (h i t h1 h2) hs hg
theorem my_beqF {c d : List UInt8} (e : ¬ c = d) (h : Q (.bool false) s) : wpAny (model prog w) A (compareOp .Eq (.bytes c.toArray t) (.bytes d.toArray u)) Q E s :=
  eq_bytes (by
    have : (c == d) = false := by rw [beq_eq_false_iff_ne]; exact e
    show Q (.bool (c == d)) s
    rw [this]; exact h)
end
-- LINES
theorem words_48_47 : True := by
  k_with "my menu" => first | exact List.forall_mem_nil _ | (refine List.forall_mem_cons.mpr ⟨⟨_, _, rfl, by omega, by omega⟩, ?_⟩; k_extra "my menu")
  k_with "subscriptTail Name Call ref int" => ((with_reducible show wpAny _ _ (subscriptTail _ _ (Value.ref _) (Value.int _ _)) _ _ _); k_dflt (refine' my_menu ?zb ?zl ?z0 ?zk ?zz ?za ?_; (case zb => assumption); (case zl => k_extra "my isl"); (case z0 => omega); (case zk => k_extra "my len"); (case zz => k_extra "my len"); (case za => k_extra "my menu")); intro i' t' i0' i1')
  k_with "z call ref" => ((with_reducible show wpAny _ _ (call (Value.ref 192) _) _ _ _); refine my_call ?_; k_dflt (refine' write_chain_spec ?zH ?zd (IsPool.keeps ?zIP ?zS1) (IsFree.keeps ?zIF ?zS2) (IsStore.keeps ?zS ?zS3) ?zP ?zD ?zol ?zs ?_; (case zIP => assumption); (case zS => assumption); (case zIF => assumption); (case zH => k_extra "my pre1"); (case zS1 => k_extra "my stays1"); (case zS2 => k_extra "my stays1"); (case zS3 => k_extra "my stays1"); (case zd => k_extra "my depth"); (case zP => with_reducible assumption); (case zD => assumption); (case zol => omega); (case zs => omega)); intro vs' P' F' n' ts' t' h' tk' hB' hW' P'; k_extra "my back1")
  k_with "z call ref" => ((with_reducible show wpAny _ _ (call (Value.ref 220) _) _ _ _); refine my_call ?_; k_dflt (refine' free_chain_spec ?zH ?zd (IsPool.keeps ?zIP ?zS1) (IsFree.keeps ?zIF ?zS2) (IsStore.keeps ?zS ?zS3) ?zP ?zD ?zC ?znd ?zsz ?zol ?_; (case zIP => assumption); (case zS => assumption); (case zIF => assumption); (case zH => k_extra "my pre1"); (case zS1 => k_extra "my stays1"); (case zS2 => k_extra "my stays1"); (case zS3 => k_extra "my stays1"); (case zd => k_extra "my depth"); (case zP => with_reducible assumption); (case zD => assumption); (case zC => assumption); (case znd => assumption); (case zsz => first | rfl | omega); (case zol => omega)); intro vs' Pg' Fg' t' h' tk' hB' hG' P'; k_extra "my back1")
  k_with "compareOp Eq bytes bytes" => (k_dflt (first | (refine my_beq (by k_extra "my same") ?_) | (refine my_beqF (by assumption) ?_)))
  trivial
-- END LINES
section
variable {w : World}
theorem written_deed_c : DeedS 440 (dc 440) := by
  k_extra "my dctx"; intro H hd XB TB hnd S IF IP hZ W hsz k
  have S' := S.keeps (qt_stays g outer)
  have IF' := IF.keeps (qt_stays g outer)
  have IP' := IP.keeps (qt_stays g outer)
  have hs := W.src
  have hP := W.pages
  have hwd := W.wd
  have hI := W.free
  have hM := W.marks.qt hZ
  have D := W.inv.db
  have hsize := W.inv.size
  have hchl := W.inv.chl_len
  have hcl' := W.chains.length
  have S' := S.keeps (qt_stays g outer)
  have IF' := IF.keeps (qt_stays g outer)
  have IP' := IP.keeps (qt_stays g outer)
  have hml' := hM.length
  have hl := hP.length
  have hfl' := hI.length
  rw [List.length_map] at hfl'
  refine apNd_I hnd ?_
  dsimp only [led]
  k_extra "my imp"
  have hwd' := hwd
  unfold IsWd at hwd'
  have hpsz := D.psz
  dsimp only [led] at H
  have hmb : MenuB (4 * ((ps : Int) - 4)) := trivial
  k_extra "my enterX"
  k_extra "my steps"
  with_reducible rename BytesAre _ _ => hB
  obtain ⟨hT, hC, hnd2⟩ := (by assumption : WriteR _ _ _ _ _ _ _)
  have hcl := hC.len (by omega)
  have hcd : ((oc'.length : Int) + ((ps : Int) - 4) - 1) / ((ps : Int) - 4) = (ts'.length : Nat) := by
    rw [n_ceil (ar_psL D.psz rfl), n_ps4z (ar_psL D.psz rfl), ← Int.natCast_ediv, ← hcl]
  have hl4 : ts'.length ≤ 4 := by
    rw [hcl]
    have : (oc'.length + (ps - 4) - 1) / (ps - 4) < 5 := (Nat.div_lt_iff_lt_mul (ar_ps4 D.psz)).mpr (n_five (by rw [n_ps4z (ar_psL D.psz rfl)] at *; omega))
    omega
  have hTp := hT.pages D
  obtain ⟨hfr1, hfr2, hfr3, hfr4⟩ := takes_fresh W.inv hT
  have hl2 := hB.length
  have hbq : ((((hd0 ts' : Nat) : Int) == 0) != (oc'.toArray.toList == (#[] : Array UInt8).toList)) = false := by
    rcases ts' with _ | ⟨x, r⟩
    · have ho : oc' = [] := hC
      subst ho; rfl
    · have h1 := hC.1.1
      have h2 := hC.1.2.1
      have e1 : (((hd0 (x :: r) : Nat) : Int) == 0) = false := by rw [beq_eq_false_iff_ne]; show ((x : Nat) : Int) ≠ 0; omega
      have e2 : (oc'.toArray.toList == (#[] : Array UInt8).toList) = false := by rw [beq_eq_false_iff_ne]; exact h1
      rw [e1, e2]; rfl
  rw [← hl] at hfr1 hfr2 hfr3 hfr4
  k_extra "my steps"
  · with_reducible rename (_ = []) => hx
    have hts : ts' = [] := List.length_eq_zero_iff.mp (by rw [← hL', hx]; rfl)
    refine my_call ?_
    refine' new_spec (m := P'.length - vs.length) (ts := ts') ?wH ?wd ?wf hwd hI ?wg hI' (by omega) (by omega) (by omega) hfr1 hfr2 hfr3 ?wc ?wk
    case wH => k_extra "my preM"
    case wd => k_extra "my depth"
    case wf => assumption
    case wg => k_extra "my gotM"
    case wc => omega
    intro D2 fvs2 nf2 wo2 h2 tk2 hwd2 hI2 P2
    k_extra "my backM"
    subst hts
    refine' k _ vs' _ wo2 D2 fvs2 _ mvs _ cvs _ to [] _ _ _ _ _ g _ _ ⟨by assumption, hB, hwd2, hI2, W.marks.mono fun _ _ e => .inl e, W.chains.mono fun _ _ e => .inl e, W.table.mono fun _ _ e => .inl e, W.inv.written0 hT⟩ (by omega) KtsTurn.refl B ?wpost
    case wpost => simp only [led, List.cons_append, List.nil_append]; k_extra "my post"
  · with_reducible rename (¬ _ = []) => hx
    have hts : ts' ≠ [] := fun e => hx (List.length_eq_zero_iff.mp (by rw [hL', e]; rfl))
    refine my_call ?_
    refine' new_spec (m := P'.length - vs.length) (ts := ts') ?xH ?xd ?xf hwd hI ?xg hI' (by omega) (by omega) (by omega) hfr1 hfr2 hfr3 ?xc ?xk
    case xH => k_extra "my preM"
    case xd => k_extra "my depth"
    case xf => assumption
    case xg => k_extra "my gotM"
    case xc => omega
    intro D2 fvs2 nf2 wo2 h2 tk2 hwd2 hI2 P2
    k_extra "my backM"
    refine' k _ vs' _ wo2 D2 fvs2 _ mvs _ (cvs ++ [.ref ?vT]) _ to [(?vT, { cls := .type "tuple", data := .seq [.bytes (List.toArray oc') ?vu, .ref f'].toArray }), (f', listOf fvs'.toArray nf')] _ _ _ _ _ g _ _
      ⟨by assumption, hB, hwd2, hI2, W.marks.mono fun _ _ e => .inl e, (W.chains.mono fun _ _ e => .inl e).snoc (.inr (.head _)) (.inr (.tail _ (.head _))) hI', W.table.mono fun _ _ e => .inl e, W.inv.written hT hC hts (by omega)⟩ (by omega) KtsTurn.refl B ?vpost
    case vpost => simp only [led, List.cons_append, List.nil_append]; k_extra "my post"
theorem written_deed : Deed w 440 := deed_of written_deed_c w
end

section
variable {w : World}
theorem freed_deed_c : DeedS 447 (dc 447) := by
  k_extra "my dctx"; intro H hd XB TB hnd S IF IP hZ W hsz k
  have S' := S.keeps (qt_stays g outer)
  have IF' := IF.keeps (qt_stays g outer)
  have IP' := IP.keeps (qt_stays g outer)
  have hs := W.src
  have hP := W.pages
  have hwd := W.wd
  have hI := W.free
  have hC := W.chains.qt hZ
  have D := W.inv.db
  have hsize := W.inv.size
  have hchl := W.inv.chl_len
  have hcl' := hC.length
  have S' := S.keeps (qt_stays g outer)
  have IF' := IF.keeps (qt_stays g outer)
  have IP' := IP.keeps (qt_stays g outer)
  have hfl' := hI.length
  rw [List.length_map] at hfl'
  refine apNd_I hnd ?_
  dsimp only [led]
  k_extra "my imp"
  have hwd' := hwd
  unfold IsWd at hwd'
  dsimp only [led] at H
  rcases hcv : cvs with _ | ⟨cv0, cvr⟩
  · subst hcv
    k_extra "my enterX"
    k_extra "my steps"
    refine' k so vs ?_ wo fr fvs ?_ mvs ?_ [] ?_ to [] P F frl mkl chl g _ _ ⟨hs, hP, hwd, hI, W.marks.mono fun _ _ e => .inl e, W.chains.mono fun _ _ e => .inl e, W.table.mono fun _ _ e => .inl e, W.inv⟩ (by omega) KtsTurn.refl B ?wpost
    case wpost => simp only [led, List.cons_append, List.nil_append]; k_extra "my post"
  · have hne : ¬ cvs = [] := by rw [hcv]; simp
    have hpos : 0 < cvs.length := by rw [hcv]; simp
    clear hcv
    k_extra "my enterX"
    k_extra "my steps"
    with_reducible rename (chl[_]? = some _) => hce
    obtain ⟨hCh, hpne, hol⟩ := W.inv.chains _ (List.mem_of_getElem? hce)
    have hnd2 := W.inv.chain_nd (List.mem_of_getElem? hce)
    have hfl3 := isl_got z2'
    have hL3 := hI'.length
    rw [List.length_map] at hL3
    dsimp only at hCh hpne hol hnd2
    have hpl3 : pgs'.length < 1000 := by
      have h1 := nodup_bound (List.nodup_append.mp hnd2).1 hCh.mem
      omega
    have hx1 : (nInts pgs')[(0 : Int).toNat]? = some ((hd0 pgs' : Nat) : Int) := by
      rcases hpg : pgs' with _ | ⟨x, r⟩
      · exact absurd hpg hpne
      · rfl
    k_extra "my steps"
    with_reducible rename GivesR _ _ _ _ _ _ => hG
    have I' := W.inv.freed hce hG
    rw [show (((pgs'.length : Nat) : Int) == ((fvs'.length : Nat) : Int)) = true by rw [beq_iff_eq, hL3]]
    refine' k so' _ _ _ D' zs' _ mvs _ (cvs.eraseIdx r') _ to [] _ _ _ _ _ g _ _ ⟨hs', by assumption, ?w1, hI', W.marks.mono fun _ _ e => .inl e, (W.chains.erase _).mono fun _ _ e => .inl e, W.table.mono fun _ _ e => .inl e, I'⟩ (by have := hG.2.1; omega) KtsTurn.refl B ?wpost
    case wpost => simp only [led, List.cons_append, List.nil_append]; k_extra "my post"
    case w1 => unfold IsWd; assumption
theorem freed_deed : Deed w 447 := deed_of freed_deed_c w
end

section
theorem codeAmong_ext {pos pos' : Pos} {c : Value} (l : List Value) (h : TriplesOk l) :
    codeAmong pos' (l ++ [rawInt pos.line, rawInt pos.col, c]) = codeAmong pos' l ∨ codeAmong pos' (l ++ [rawInt pos.line, rawInt pos.col, c]) = some c := by
  fun_induction TriplesOk l with
  | case1 =>
    simp only [List.nil_append, codeAmong, rawInt]
    split
    · exact .inr rfl
    · exact .inl rfl
  | case2 a t b u x rest ih =>
    simp only [List.cons_append, codeAmong]
    split
    · exact .inl rfl
    · exact ih h
  | case3 l h1 h2 => exact h.elim
variable {prog : Program} {w : World} {A A₀ : Around} {base g g₂ h h' h₀ : Heap} {outer : List Env} {env : Env} {s : Shared} {L a : Addr} {m mg mb : Str → Option Value} {news mn' : List (Addr × Obj)}
  {p : Program} {loose : List Str} {mean : ExcName → Option Value} {R : Result → Shared → Prop} {E : Value → Shared → Prop} {cn name : Str} {cs scope : Scope} {ccd : Value} {cl : List (Str × Addr)}
theorem code_453 {h : Heap} (X : (K w.params).In h) : CodeHd h 453 449 :=
  ⟨_, _, _, _, _, _, _, _, _, X 453 _ rfl, rfl, rfl, rfl, rfl, rfl, rfl, rfl, rfl, by decide⟩
theorem lam_X {Q : Value → Shared → Prop} {c P : Addr} {to : Obj} {Z : Addr → Obj → Prop} {g : Obj → List (Addr × Obj)} {params : Arguments} {body : Expr} {pos : Pos} {firstLine : Nat} {clos : List (Str × Addr)}
    (F : Fr h₀ L s.heap m) (N : News h₀ L s.heap news) (T : Top p loose mean mg mb h₀) (C : CodeHd h₀ c P) (hcd : ccd = .ref c) (U : UpdF P to news g) (ht : TabOk Z to) (hZ : ∀ a o, Z a o → h₀.get? a = some o ∨ (a, o) ∈ news)
    (hcl : closureFor scope (envX cn cs L a ccd cl) = pure clos)
    (h : ∀ f c' oc vs t ctv x ox to' h' tk, Fr h₀ L h' m → News h₀ L h' ((f, kla_obj name lamQ params body scope clos ((mg "__name__").getD .none) c' ctv) :: (x, ox) :: g to') →
      h'.get? c' = some oc → oc.data = .fields vs → vs[1]? = some (.str lamQ t) → (∀ q ∈ news, q.1 < x) → x ≤ f → TabOk (fun b o => Z b o ∨ (b, o) ∈ [(x, ox)]) to' → Q (.ref f) { s with heap := h', toks := tk }) :
    wpAny (model prog w) A (makeFunction name lamQ params (.expr body) scope (envX cn cs L a ccd cl) [] [] [] pos firstLine) Q E s := by
  obtain ⟨ps, rfl, t1, t2⟩ := ht
  rcases t2 pos with hn | ⟨c', oc, vs, t, hs, hz, hd, hv⟩
  · refine kla_nest F N T C hcd U t1 hn hcl fun f c' oc vs t ctv h' tk F' N' hd hv l1 l2 => ?_
    refine h f c' oc vs t ctv c' oc _ h' tk F' N' (N' _ (.tail _ (.head _))).1 hd hv l1 (Nat.le_of_lt l2) ⟨_, rfl, ?_, fun pos' => ?_⟩
    · rw [Array.toList_append]; exact TriplesOk_snoc _ _ _ _ t1
    · rw [Array.toList_append]
      rcases codeAmong_ext (pos := pos) (pos' := pos') (c := .ref c') ps.toList t1 with e | e
      · rw [show (#[rawInt pos.line, rawInt pos.col, Value.ref c'] : Array Value).toList = [rawInt pos.line, rawInt pos.col, .ref c'] from rfl, e]
        rcases t2 pos' with h | ⟨c', oc, vs, t, h1, h2, h3, h4⟩
        · exact .inl h
        · exact .inr ⟨c', oc, vs, t, h1, .inl h2, h3, h4⟩
      · exact .inr ⟨c', oc, vs, t, e, .inr (List.mem_singleton.mpr rfl), hd, hv⟩
  · obtain ⟨own, rest, hnw, hg, h1, h2⟩ := U.split
    have hmem : (P, tabObj ps) ∈ news := by rw [hnw]; exact List.mem_append_right _ (.head _)
    refine kla_hit F N T C hcd hmem t1 hs hcl fun f ctv h' tk F' N' l1 => ?_
    have hc' : h'.get? c' = some oc := (hZ _ _ hz).elim (F'.keep _ _) fun hm => (N' _ (.tail _ hm)).1
    refine h f c' oc vs t ctv f (kla_obj name lamQ params body scope clos ((mg "__name__").getD .none) c' ctv) (tabObj ps) h' tk F' (fun q hq => ?_) hc' hd hv l1 (Nat.le_refl _) ⟨ps, rfl, t1, fun pos' => ?_⟩
    · rcases List.mem_cons.mp hq with rfl | hq
      · exact N' _ (.head _)
      · rcases List.mem_cons.mp hq with rfl | hq
        · exact N' _ (.head _)
        · rw [hg, ← hnw] at hq; exact N' _ (.tail _ hq)
    · rcases t2 pos' with h | ⟨c', oc, vs, t, h1, h2, h3, h4⟩
      · exact .inl h
      · exact .inr ⟨c', oc, vs, t, h1, .inl h2, h3, h4⟩
theorem lam_Y {Q : Value → Shared → Prop} {c P : Addr} {to : Obj} {Z : Addr → Obj → Prop} {ex : List (Addr × Obj)} {g : Obj → List (Addr × Obj)} {params : Arguments} {body : Expr} {pos : Pos} {firstLine : Nat} {clos : List (Str × Addr)}
    (F : Fr h₀ L s.heap m) (N : News h₀ L s.heap news) (T : Top p loose mean mg mb h₀) (C : CodeHd h₀ c P) (hcd : ccd = .ref c) (U : UpdF P to news g) (ht : TabOk (fun b o => Z b o ∨ (b, o) ∈ ex) to) (hst : ∀ b o, Z b o → h₀.get? b = some o) (hex : ∀ q ∈ ex, q ∈ news)
    (hcl : closureFor scope (envX cn cs L a ccd cl) = pure clos)
    (h : ∀ f c' oc vs t ctv x ox to' h' tk, Fr h₀ L h' m → News h₀ L h' ((f, kla_obj name lamQ params body scope clos ((mg "__name__").getD .none) c' ctv) :: (x, ox) :: g to') →
      h'.get? c' = some oc → oc.data = .fields vs → vs[1]? = some (.str lamQ t) → (∀ q ∈ news, q.1 < x) → TabOk (fun b o => Z b o ∨ (b, o) ∈ (x, ox) :: ex) to' → Q (.ref f) { s with heap := h', toks := tk }) :
    wpAny (model prog w) A (makeFunction name lamQ params (.expr body) scope (envX cn cs L a ccd cl) [] [] [] pos firstLine) Q E s :=
  lam_X F N T C hcd U ht (fun b o e => e.imp (hst b o) (hex _)) hcl fun f c' oc vs t ctv x ox to' h' tk F' N' h1 h2 h3 l1 _ hT => h f c' oc vs t ctv x ox to' h' tk F' N' h1 h2 h3 l1 (hT.mono fun b o e => by
    rcases e with (e | e) | e
    · exact .inl e
    · exact .inr (.tail _ e)
    · exact .inr (List.mem_singleton.mp e ▸ .head _))
theorem back_turn (K₀ : Below A₀ base outer g) (F : Fr g L h m) (N : News g L h news) (hfr : env.frame = some L) (T : KtsTurn ((env :: outer).filterMap (·.frame)) h g₂) (P : Post g₂ h' []) :
    ∃ g', KtsTurn (outer.filterMap (·.frame)) g g' ∧ Fr g' L h' m ∧ News g' L h' news ∧ Below A₀ base outer g' := by
  have e : (env :: outer).filterMap (·.frame) = L :: outer.filterMap (·.frame) := by rw [List.filterMap_cons, hfr]
  rw [e] at T
  have up : h.UpToSlots h' := fun b o q _ => by
    obtain ⟨sl, x⟩ := T.up q
    exact ⟨sl, P.S _ _ x⟩
  obtain ⟨g', T', F', B'⟩ := kts_ground (name := Str.ofString "") (scope := default) (a := 0) (cd := .none) K₀ F (fun b o q nm => T.other b o q (by simpa [envOf] using nm)) P.S up
  refine ⟨g', T', F', fun q hq => ?_, B'⟩
  have n := N q hq
  refine ⟨P.S _ _ (T.other _ _ n.1 fun hm => ?_), n.2.1, T'.none_ _ n.2.2⟩
  rcases List.mem_cons.mp hm with z | z
  · exact n.2.1 z
  · obtain ⟨_, o, ho, _⟩ := K₀.frames.mem z
    rw [n.2.2] at ho; cases ho
theorem back_turnK {C : Prop} (K₀ : Below A₀ base outer g) (F : Fr g L h m) (N : News g L h news) (hfr : env.frame = some L) (T : KtsTurn ((env :: outer).filterMap (·.frame)) h g₂) (P : Post g₂ h' [])
    (k : ∀ g', KtsTurn (outer.filterMap (·.frame)) g g' → Fr g' L h' m → News g' L h' news → Below A₀ base outer g' → C) : C := let ⟨g', a, b, c, d⟩ := back_turn K₀ F N hfr T P; k g' a b c d
theorem qt_turn (T : KtsTurn (outer.filterMap (·.frame)) g g₂) : (qt g outer).StaysIn g₂ := fun b o e => by
  refine T.other b o (of_hideAll _ e) fun hm => ?_
  rw [show (qt g outer).get? b = none from hideAll_none _ hm] at e; cases e
theorem enterL {qual : Str} {params : Arguments} {body : Expr} {pm ctv : Value} {c' f : Addr} {o oc : Obj} {vs : Array Value} {t : Tok} {mn : List (Addr × Obj)}
    (P : Pre p loose mean mg mb w A base outer g s mn) (ho : g.get? f = some o) (hob : o = kla_obj name qual params body scope cl pm c' ctv) (hoc : g.get? c' = some oc) (hd : oc.data = .fields vs) (hq : vs[1]? = some (.str qual t)) (hroom : A.depth < recursionLimit)
    (hbind : bindArgs (kla_fn name qual params body scope cl pm (.ref c') ctv) ⟨[], []⟩ = pure [])
    (h : ∀ L' h₁ tk, Fr g L' h₁ (fun y => ([] : List (Str × Value)).reverse.lookup y) → News g L' h₁ mn → (∀ q ∈ mn, q.1 < L') → Below A base outer g → (K w.params).In g → Top p loose mean mg mb g →
      wpAny (model PySem.Challenge.rw_nt0105_01.row.prog w) (A.deeper (envX qual scope L' f (.ref c') cl)) (eval body (envX qual scope L' f (.ref c') cl))
        (fun v s' => R (.ok (.ret v)) s')
        (fun e s' => wpAny (model PySem.Challenge.rw_nt0105_01.row.prog w) (A.deeper (envX qual scope L' f (.ref c') cl)) (leaving (envX qual scope L' f (.ref c') cl) e) (fun _ s'' => R (.error e) s'') (fun e' s'' => R (.error e') s'') s')
        { s with heap := h₁, toks := tk })
    (hcell : ∀ x ∈ scope.names, x.2 ≠ .cell)
    (hco : scope.isCoroutine = false) (hgen : scope.isGenerator = false) (hk : scope.kind = .function) : codeAny (model PySem.Challenge.rw_nt0105_01.row.prog w) A (.call (.ref f) ⟨[], []⟩) R s := by
  subst hob
  refine kla_callFunE hroom (P.S _ _ ho) rfl hco hgen rfl ⟨c', oc, vs, t, rfl, P.S _ _ hoc, hd, hq⟩ ?_
  rw [hbind]
  refine wpAny_pure (wpAny_newFunctionEnv hcell (fun _ h => nomatch h) (fun h₁ hns hsb => ⟨((P.T.nolimit).keeps P.S).fresh _ hsb, ?_⟩) hk)
  show codeAny _ _ (.expr body (envX qual scope s.heap.objs.size f (.ref c') cl)) _ _
  have hk₁ : ∀ b o, s.heap.get? b = some o → h₁.get? b = some o := fun b o e => hsb.extBut b o (Nat.ne_of_lt (Heap.lt_size e)) (Heap.get?_push_of_some _ e)
  exact kla_codeExpr (h _ h₁ _ ⟨hns, fun b o e => hk₁ b o (P.S b o e), P.Z⟩ (fun q hq => ⟨hk₁ _ _ (P.N q hq).1, Nat.ne_of_lt (Heap.lt_size (P.N q hq).1), (P.N q hq).2⟩) (fun q hq => Heap.lt_size (P.N q hq).1) P.B P.X P.T)
theorem name_FG {x : Str} {pos : Pos} {v : Value} {c : Addr} {o : Obj} {Q : Value → Shared → Prop} (F : Fr h₀ L s.heap m) (hc : cl.lookup x = some c) (hv : h₀.get? c = some o) (hd : o.data = .cell (some v)) (h : Q v s)
    (hk : cs.kind = .function) (hx : (envX cn cs L a ccd cl).kindOf x = some .free) (hb : (x == ("__debug__" : Str)) = false) (hn : (x == ("__classdict__" : Str)) = false) :
    wpAny (model prog w) A (eval (.Name x pos) (envX cn cs L a ccd cl)) Q E s := wpAny_Name (wpAny_loadName_free hk hx hc ⟨o, F.keep _ _ hv, hd⟩ h hn) hb
end
-- LINES
theorem words_50_48 : True := by
  k_with "my exsub" => k_extra "my sub"
  k_with "z eval Lambda" => ((with_reducible show wpAny _ _ (eval (Expr.Lambda _ _ _ _) _) _ _ _); (with_reducible rename TabOk _ _ => hTab); k_dflt (refine' kla_eval ?zd0 (lam_Y (P := 449) (c := 453) ?zF ?zN ?zT (code_453 ?zX) ?zcd ?zU hTab ?zst ?zex ?zcl ?_); (case zd0 => exact rfl); (case zF => k_asm); (case zN => k_asm); (case zT => assumption); (case zX => assumption); (case zcd => exact rfl); (case zst => assumption); (case zU => k_updF); (case zex => k_extra "my exsub"); (case zcl => exact rfl); k_whole); intro f' c' oc' vs' t' ct' x' ox' to' h' tk' F' N' hoc' hod' hov' lx' hTab'; clear hTab; (try dsimp only at N'); (try k_lt lx'); (try dsimp only))
  k_with "z eval Name" => ((with_reducible show wpAny _ _ (eval (Expr.Name _ _) (envX _ _ _ _ _ _)) _ _ _); k_dflt (refine' name_FG ?zF ?zc ?zv ?zd ?_ ?zk ?zx ?zb ?zn; (case zk => exact rfl); (case zx => exact rfl); (case zc => exact rfl); (case zF => k_asm); (case zv => assumption); (case zd => assumption); (case zb => decide); (case zn => decide); k_whole))
  trivial
-- END LINES

theorem news_tl {h₀ h : Heap} {L : Addr} {a : Addr × Obj} {l : List (Addr × Obj)} (N : News h₀ L h (a :: l)) : News h₀ L h l := fun q hq => N q (.tail _ hq)
section
structure OffA (L src pg wd fr mk ch a : Nat) : Prop where
  o1 : Ap a (L + 1 + 1 + 1 + 1 + 1 + 1)
  o2 : Ap a (L + 1 + 1 + 1 + 1 + 1)
  o3 : Ap a (L + 1 + 1 + 1 + 1)
  o4 : Ap a (L + 1 + 1 + 1)
  o5 : Ap a (L + 1 + 1)
  o6 : Ap a (L + 1)
  o7 : Ap a (src)
  o8 : Ap a (pg)
  o9 : Ap a (wd)
  o10 : Ap a (fr)
  o11 : Ap a (mk)
  o12 : Ap a (ch)
  o13 : Ap a (449)
theorem OffA.open {L src pg wd fr mk ch a : Nat} {C : Prop} (h : OffA L src pg wd fr mk ch a) (k : Ap a (L + 1 + 1 + 1 + 1 + 1 + 1) → Ap a (L + 1 + 1 + 1 + 1 + 1) → Ap a (L + 1 + 1 + 1 + 1) → Ap a (L + 1 + 1 + 1) → Ap a (L + 1 + 1) → Ap a (L + 1) → Ap a (src) → Ap a (pg) → Ap a (wd) → Ap a (fr) → Ap a (mk) → Ap a (ch) → Ap a (449) → C) : C := k h.o1 h.o2 h.o3 h.o4 h.o5 h.o6 h.o7 h.o8 h.o9 h.o10 h.o11 h.o12 h.o13
inductive RefJ (A : Around) (base g : Heap) (outer : List Env) (Z : Addr → Obj → Prop) (L' lz x1 src pg wd fr mk ch : Nat) (olz ox1 ow orr op og oo so opg owd ofr omk och : Obj) (i : Nat) (gi : Heap) (ps' : List (Str × Value)) (led : List (Addr × Obj)) : Prop
  | mk : ∀ (b a : Addr) (ob oa z to2 : Obj) v0, ps' = [] → led = [(lz, olz), (b, ob), (a, oa), (x1, ox1), (L' + 1 + 1 + 1 + 1 + 1 + 1, ow), (L' + 1 + 1 + 1 + 1 + 1, z), (L' + 1 + 1 + 1 + 1, orr), (L' + 1 + 1 + 1, op), (L' + 1 + 1, og), (L' + 1, oo), (src, so), (pg, opg), (wd, owd), (fr, ofr), (mk, omk), (ch, och), (449, to2)] →
      z.data = .cell v0 → TabOk (fun p o => Z p o ∨ (p, o) ∈ [(b, ob), (a, oa)].take i ++ [(x1, ox1)]) to2 → KtsTurn (outer.filterMap (·.frame)) g gi → Below A base outer gi →
      (Ap b x1 ∧ Ap a x1 ∧ Ap b a ∧ Ap lz a ∧ Ap lz b) → (OffA L' src pg wd fr mk ch a ∧ OffA L' src pg wd fr mk ch b) → RefJ A base g outer Z L' lz x1 src pg wd fr mk ch olz ox1 ow orr op og oo so opg owd ofr omk och i gi ps' led
noncomputable def GetI (h : Heap) : List (Addr × Obj) → Prop → Prop
  | [], C => C
  | p :: r, C => h.get? p.1 = some p.2 → GetI h r C
theorem getI {h : Heap} {C : Prop} : ∀ {l : List (Addr × Obj)}, (∀ q ∈ l, h.get? q.1 = some q.2) → GetI h l C → C
  | [], _, k => k
  | p :: _, f, k => getI (fun q hq => f q (.tail _ hq)) (k (f p (.head _)))
theorem and5 {a b c d e C : Prop} (h : a ∧ b ∧ c ∧ d ∧ e) (k : a → b → c → d → e → C) : C := k h.1 h.2.1 h.2.2.1 h.2.2.2.1 h.2.2.2.2
theorem and6 {a b c d e f C : Prop} (h : a ∧ b ∧ c ∧ d ∧ e ∧ f) (k : a → b → c → d → e → f → C) : C := k h.1 h.2.1 h.2.2.1 h.2.2.2.1 h.2.2.2.2.1 h.2.2.2.2.2
theorem Ap.symm {a b : Nat} (h : Ap a b) : Ap b a := fun e => h e.symm
end
-- LINES
theorem words_51_49 : True := by
  k_with "my ap" => first | with_reducible assumption | exact Ap.symm (by with_reducible assumption) | fail "ap"
  trivial
-- END LINES
section
variable {prog : Program} {w : World} {A : Around} {E : Value → Shared → Prop} {s : Shared} {value slice : PySem.Expr} {l : Addr} {vs : List Value} {k : Int} {u : Tok} {Q : Value → Shared → Prop}
noncomputable def MenuW (_ : Nat) : Prop := True
theorem my_menuW {b : Nat} (_hb : MenuW b) (hl : s.heap.IsList l vs.toArray) (h0 : 0 ≤ k) (hk : k < (vs.length : Nat)) (hz : vs.length < 1000) (ha : ∀ v ∈ vs, ∃ i t, v = .int i t ∧ 0 ≤ i ∧ i < (b : Int) + 2 ∧ (i < 2 ∨ (b : Int) < i)) (h : ∀ i t, 0 ≤ i → i < (b : Int) + 2 → (i < 2 ∨ (b : Int) < i) → Q (.int i t) s)
    (hs : subscripted slice false (.ref l) (.int k u) = operate [.ref l, .int k u] (getItem (.ref l) (.int k u)) := by with_unfolding_all rfl) :
    wpAny (model prog w) A (subscriptTail value slice (.ref l) (.int k u)) Q E s := by
  have hk' : k.toNat < vs.length := by omega
  obtain ⟨i, t, e, h1, h2, h3⟩ := ha _ (List.getElem_mem hk')
  exact tail_any hl.typeIs slot_list_getitem.lookup (wpAny_getItem_list hl h0 (by omega) (x := vs[k.toNat]) (by simp [hk']) (by rw [e]; exact h i t h1 h2 h3)) hs
end
section
variable {prog : Program} {w : World} {A : Around} {E : Value → Shared → Prop} {s : Shared} {value slice : PySem.Expr} {l : Addr} {vs : List Value} {r : Nat} {u : Tok} {Q : Value → Shared → Prop} {Z : Addr → Obj → Prop} {chl : List (List UInt8 × List Nat)}
theorem my_itemC (M : Chs Z vs chl) (hl : s.heap.IsList l vs.toArray) (hk : ((r : Nat) : Int) < (vs.length : Nat)) (hz : vs.length < 1000)
    (h : ∀ T o u f n' fvs nf pgs, chl[r]? = some (o, pgs) → Z T { cls := .type "tuple", data := .seq [.bytes (List.toArray o) u, .ref f].toArray n' } → Z f (listOf fvs.toArray nf) → IntsAre fvs (nInts pgs) → Q (.ref T) s)
    (hs : subscripted slice false (.ref l) (.int (r : Nat) u) = operate [.ref l, .int (r : Nat) u] (getItem (.ref l) (.int (r : Nat) u)) := by with_unfolding_all rfl) :
    wpAny (model prog w) A (subscriptTail value slice (.ref l) (.int (r : Nat) u)) Q E s := by
  have hl' := M.length
  have hr' : r < chl.length := by omega
  have hk' : r < vs.length := by omega
  obtain ⟨T, u', f, n', fvs, nf, e, z, z2, i⟩ := M.get (i := r) (o := chl[r].1) (pgs := chl[r].2) (List.getElem?_eq_getElem hr')
  refine tail_any hl.typeIs slot_list_getitem.lookup (wpAny_getItem_list hl (by omega) (by omega) (x := vs[r]) (by simp [hk']) ?_) hs
  rw [List.getElem?_eq_getElem hk'] at e
  rw [Option.some.inj e]
  exact h T _ u' f n' fvs nf _ (List.getElem?_eq_getElem hr') z z2 i
end
theorem size_bad {L ps : Nat} {i : Nat} {v : Value} {t1 t2 : Tok} (hr : 0 < ps - 4) (hL : 0 < L) (hm : L * (ps - 4) ≤ 201 * 124) (hi : i < [Value.int ((L : Int) * ((ps : Int) - 4) + 1) t1, .int (((L : Int) - 1) * ((ps : Int) - 4)) t2].length)
    (hv : [Value.int ((L : Int) * ((ps : Int) - 4) + 1) t1, .int (((L : Int) - 1) * ((ps : Int) - 4)) t2][i]? = some v) :
    ∃ (sz : Int) (t : Tok) (m : Nat), v = .int sz t ∧ 0 ≤ sz ∧ sz < 100000 ∧ (sz + ((ps : Int) - 4) - 1) / ((ps : Int) - 4) = (m : Nat) ∧ (m = L + 1 ∨ m + 1 = L) := by
  have e : ((ps : Int) - 4) = ((ps - 4 : Nat) : Int) := by omega
  rw [e] at hv ⊢
  generalize ps - 4 = r at *
  have hm' : (L : Int) * (r : Int) ≤ 201 * 124 := by exact_mod_cast hm
  have h0 : (0 : Int) ≤ (L : Int) * (r : Int) := Int.mul_nonneg (by omega) (by omega)
  have h1 : ((L : Int) - 1) * (r : Int) = (L : Int) * (r : Int) - (r : Int) := by rw [Int.sub_mul, Int.one_mul]
  have h2 : (0 : Int) ≤ ((L : Int) - 1) * (r : Int) := Int.mul_nonneg (by omega) (by omega)
  match i, hi with
  | 0, _ =>
    refine ⟨_, _, L + 1, (Option.some.inj hv).symm, by omega, by omega, ?_, .inl rfl⟩
    rw [show (L : Int) * (r : Int) + 1 + (r : Int) - 1 = ((L : Int) + 1) * (r : Int) by rw [Int.add_mul, Int.one_mul]; omega, Int.mul_ediv_cancel _ (by omega)]; rfl
  | 1, _ =>
    refine ⟨_, _, L - 1, (Option.some.inj hv).symm, h2, by omega, ?_, .inr (by omega)⟩
    rw [show ((L : Int) - 1) * (r : Int) + (r : Int) - 1 = ((r : Int) - 1) + ((L : Int) - 1) * (r : Int) by omega, Int.add_mul_ediv_right _ _ (by omega), Int.ediv_eq_zero_of_lt (by omega) (by omega)]; omega
  | i + 2, h => exact absurd h (by simp)
theorem take_shift {x b a x1 : Addr × Obj} {i : Nat} (hi : i < 2) : ∀ q, q ∈ x :: ([b, a].take i ++ [x1]) → q ∈ [x, b].take (i + 1) ++ [x1] := by
  intro q h
  match i, hi with
  | 0, _ => simpa using h
  | 1, _ => simpa using h
theorem fr_stays {h₀ h h' : Heap} {L : Addr} {m : Str → Option Value} (F : Fr h₀ L h m) (st : h.StaysIn h') : h₀.StaysIn h' := fun b o e => st b o (F.keep b o e)
theorem stays_tr {h₀ h h' : Heap} (x : h₀.StaysIn h) (st : h.StaysIn h') : h₀.StaysIn h' := fun b o e => st b o (x b o e)
theorem sub_tr {a b c : List (Addr × Obj)} (x : ∀ q ∈ a, q ∈ b) (y : ∀ q ∈ b, q ∈ c) : ∀ q ∈ a, q ∈ c := fun q h => y q (x q h)
-- LINES
theorem words_51_50 : True := by
  k_with "my exsub" => first | k_extra "my sub" | (refine sub_tr hex3 ?_; k_extra "my sub")
  k_with "z call ref" => ((with_reducible show wpAny _ _ (call (Value.ref 213) _) _ _ _); refine my_call ?_; k_dflt (refine' chain_of_size_raise ?zH ?zd (IsStore.keeps ?zS ?zS2) ?zgot ?zP ?zn ?zh1 ?zh2 ?zC ?znd ?zs0 ?zs1 ?zcd ?zm ?_; (case zS => assumption); (case zH => k_extra "my pre0"); (case zS2 => k_extra "my stays0"); (case zgot => k_extra "my got"); (case zd => k_extra "my depth"); (case zP => with_reducible assumption); (case zn => omega); (case zh1 => omega); (case zh2 => omega); (case zC => assumption); (case znd => assumption); (case zcd => assumption); (case zm => assumption); (case zs0 => assumption); (case zs1 => assumption)); intro e' h' tk' R'; (try dsimp only))
  k_with "z call ref" => ((with_reducible show wpAny _ _ (call (Value.ref 206) _) _ _ _); refine my_call ?_; k_dflt (refine' read_chain_raise ?zH ?zd (IsStore.keeps ?zS ?zS2) ?zgot ?zP ?zn ?zh1 ?zh2 ?zC ?znd ?zsz ?zol ?_; (case zS => assumption); (case zH => k_extra "my pre0"); (case zS2 => k_extra "my stays0"); (case zgot => k_extra "my got"); (case zd => k_extra "my depth"); (case zP => with_reducible assumption); (case zn => omega); (case zh1 => omega); (case zh2 => omega); (case zC => assumption); (case znd => assumption); (case zsz => rfl); (case zol => assumption)); intro e' h' tk' R'; (try dsimp only))
  k_with "z subscriptTail" => ((with_reducible show wpAny _ _ (subscriptTail _ (Expr.Call _ _ _ _) (Value.ref _) (Value.int _ _)) _ _ _); k_dflt (refine' my_itemC ?zM ?zl ?zr ?zz ?_; (case zM => with_reducible assumption); (case zl => k_extra "my isl"); (case zr => omega); (case zz => k_extra "my len"); k_whole); intro T' oc' u' f' n' fvs' nf' pgs' e' zq' zq2' hI'; (try dsimp only at zq' zq2'); (have z' := hqZ _ _ zq'); (have z2' := hqZ _ _ zq2'); (try k_sweep))
  k_with "my menuW" => first | exact List.forall_mem_nil _ | (refine List.forall_mem_cons.mpr ⟨⟨_, _, rfl, by omega, by omega, by omega⟩, ?_⟩; k_extra "my menuW")
  k_with "z subscriptTail" => ((with_reducible show wpAny _ _ (subscriptTail (Expr.List _ _) _ (Value.ref _) (Value.int _ _)) _ _ _); k_dflt (refine' my_menuW ?zb ?zl ?z0 ?zk ?zz ?za ?_; (case zb => assumption); (case zl => k_extra "my isl"); (case z0 => omega); (case zk => k_extra "my len"); (case zz => k_extra "my len"); (case za => k_extra "my menuW")); intro i' t' i0' i1' i2')
  k_with "my steps" => repeat' (k_extra "my nostop"; k_extra "my loopstop"; (fail_if_success (with_reducible show LCt.CompSrcT _ _ _ _ _ _ _ _ _ _ _ _ _ _ _)); (fail_if_success (with_reducible show wpAny _ _ (call (Value.ref 414) _) _ _ _)); first | (k_unfold; (try dsimp only)) | walk1 | (dsimp only; walk1))
  k_with "z call ref" => ((with_reducible show wpAny _ _ (call (Value.ref 138) _) _ _ _); refine my_call ?_; k_dflt (refine' give_raise ?zH ?zd (IsFree.keeps ?zIF ?zS2) (IsStore.keeps ?zS ?zS2') ?zgot ?zn ?zh1 ?zh2 ?zh3 ?_; (case zS => assumption); (case zIF => assumption); (case zH => k_extra "my pre0"); (case zS2 => k_extra "my stays0"); (case zS2' => k_extra "my stays0"); (case zgot => k_extra "my got"); (case zd => k_extra "my depth"); (case zn => omega); (case zh1 => omega); (case zh2 => omega); (case zh3 => omega)); intro e' h' tk' R'; (try dsimp only))
  k_with "my lam" => (intro A' env' g' s' R' H' hd' hst' kr; (with_reducible rename News _ _ _ _ => Nfx); (with_reducible rename Fr _ _ _ _ => Ffx); (refine getI (fun q hq => hst' _ _ (Nfx q hq).1) ?_); (dsimp only [GetI]); intros; (have hoc2 := hst' _ _ hoc'); (have stg := fr_stays Ffx hst'); (have hq2 := stays_tr hq stg); clear Nfx Ffx; (have S2 := S.keeps hq2); (have IF2 := IF.keeps hq2); (have IP2 := IP.keeps hq2))
  k_with "my enterL" => (refine' enterL H' ?zhfo ?zhob hoc2 hod' hov' (Room.lim hd') ?zhb ?_ ?zhc ?zh1 ?zh2 ?zh3; (case zhfo => assumption); (case zhob => exact rfl); (case zhb => exact rfl); (case zhc => decide); (case zh1 => exact rfl); (case zh2 => exact rfl); (case zh3 => exact rfl); intro L2 h2 tk2 F2 N2 _ B2 X2 T2; (try dsimp only))
  trivial
-- END LINES
section
variable {w : World}
theorem refused_deed_c : DeedS 454 (dc 454) := by
  k_extra "my dctx"; intro H hd XB TB hnd S IF IP hZ W hsz k
  have hstT : KtsTurn (outer.filterMap (·.frame)) g g := KtsTurn.refl
  have hq := qt_stays g outer
  have hqZ : ∀ a o, Z a o → g.get? a = some o := fun a o z => hq a o (hZ a o z)
  have S' := S.keeps hq
  have IF' := IF.keeps hq
  have IP' := IP.keeps hq
  have hs := W.src
  have hP := W.pages
  have hwd := W.wd
  have hpl := hP.length
  have hchl := W.inv.chl_len
  have hcl' := W.chains.length
  have hps := W.inv.db
  have hsize := W.inv.size
  have hTab : TabOk (fun b o => Z b o ∨ (b, o) ∈ []) to := W.table.mono fun _ _ e => .inl e
  have S' := S.keeps hq
  have IF' := IF.keeps hq
  have IP' := IP.keeps hq
  refine apNd_I hnd ?_
  dsimp only [led]
  k_extra "my imp"
  have hwd' := hwd
  unfold IsWd at hwd'
  dsimp only [led] at H
  have hmw : MenuW vs.length := trivial
  k_extra "my enterCX"
  rename_i ow0 oz or0 op0 og0 oo dw0 dz0 dr0 dp0 dg0 do0 _ _ _ _ _ _ _ _ _ _ _ _ _ _ _ _ _ _ _ _ _ _ _ _ _ _ _ _ _ _ _ _ _ _ _ _ _ _ _ _ _ _
  replace do0 : oo.data = .cell (some (.ref pool)) := do0
  replace dw0 : ow0.data = .cell none := dw0
  replace dr0 : or0.data = .cell none := dr0
  replace dp0 : op0.data = .cell none := dp0
  replace dg0 : og0.data = .cell none := dg0
  replace dz0 : oz.data = .cell none := dz0
  k_extra "my steps"
  refine my_call ?_
  refine' refusal_spec (C := 63) (j := 7) ?hH ?hR XB TB (.inr rfl) ?hF ?hcall ?hk
  case hH => k_extra "my pre0"
  case hR => k_extra "my depth"
  case hF => exact FnAt.of (by k_asm) (by k_mem)
  case hcall =>
    k_extra "my lam"
    clear B X T
    k_extra "my enterL"
    k_extra "my steps"
    exact kr _ _ _ (by assumption)
  case hk =>
    intro t2 g2 h2 tk2 T2 B2 P2
    clear S' IF' IP'
    refine back_turnK B F' N' rfl T2 P2 ?_; intro g' Tn Fn Nn Bn
    have hq' := qt_turn Tn
    have Xn := XB.keeps Bn.stays
    have TTn := TB.keeps Bn.stays
    replace Nn := news_tl Nn
    clear B X T F' N' hoc' hq hqZ hstT B2 P2 T2
    have hq := hq'
    clear hq'
    have hqZ : ∀ a o, Z a o → g'.get? a = some o := fun a o z => hq a o (hZ a o z)
    rw [show wordOf 63 = Str.ofString "misuse" from rfl]
    try dsimp only
    obtain ⟨x1, hxe⟩ : ∃ a, a = x' := ⟨_, rfl⟩
    subst hxe
    obtain ⟨ox1, hxe⟩ : ∃ a, a = ox' := ⟨_, rfl⟩
    subst hxe
    have hCx := W.chains
    rcases hcv : cvs with _ | ⟨cv0, cvr⟩
    · clear hcl' hchl
      subst hcv
      k_extra "my steps"
      refine' k so' vs ?_ wo fr fvs ?_ mvs ?_ [] ?_ to' [(x1, ox1)] P F frl mkl chl g' _ _ ⟨hs', hP, hwd, W.free, W.marks.mono fun _ _ e => .inl e, W.chains.mono fun _ _ e => .inl e, hTab', W.inv⟩ (by omega) Tn Bn ?wpost
      case wpost => simp only [led, List.cons_append, List.nil_append]; k_extra "my post"
    · have hne : ¬ cvs = [] := by rw [hcv]; simp
      have hpos : 0 < cvs.length := by rw [hcv]; simp
      clear hcv
      k_extra "my steps"
      obtain ⟨hCh, hpne, hol⟩ := W.inv.chains _ (List.mem_of_getElem? e')
      have hnd2 := (List.nodup_append.mp (W.inv.chain_nd (List.mem_of_getElem? e'))).1
      have hfl3 := isl_got z2'
      have hL3 := hI'.length
      rw [List.length_map] at hL3
      dsimp only at hCh hpne hol hnd2
      have hpl3 := nodup_bound hnd2 hCh.mem
      have hpp : 0 < pgs'.length := by
        rcases hpg : pgs' with _ | ⟨x, r⟩
        · exact absurd hpg hpne
        · exact Nat.succ_pos _
      have hx1 : (nInts pgs')[(0 : Int).toNat]? = some ((hd0 pgs' : Nat) : Int) := by
        rcases hpg : pgs' with _ | ⟨x, r⟩
        · exact absurd hpg hpne
        · rfl
      have hpz := W.inv.db.psz
      have hr1 : 0 < ps - 4 := by omega
      have hm1 : pgs'.length * (ps - 4) ≤ 201 * 124 := Nat.mul_le_mul (by omega) (by omega)
      have hZ1 : ((pgs'.length * (ps - 4) + 1 : Nat) : Int) = (pgs'.length : Int) * ((ps : Int) - 4) + 1 := by
        rw [Int.natCast_add, Int.natCast_mul, Int.natCast_sub (by omega)]; rfl
      refine For_here ?_
      k_extra "my steps"
      with_reducible rename News _ _ _ _ => NL
      with_reducible rename Fr _ _ _ _ => FL
      rename_i Dd _ _ _ _ _ _ _ _ _ _ _ _ _ _ _ _ og dg _ orr dr _ _ _ _ _ la _ _ _ _ _ _ _ _ _ _ _ _ _ _ _ _ _ _ _ _ _ _ _ _ _ ow _ _ dw _ _ _ _ _ _ _ _ _ _ _ _ _ _ _ _ _ _ _ _ _ _ _ lb _ _ _ _ _ _ _ _ _ _ _ _ _ _ _ _ _ _ _ _ _ _ _ _ op dp _ _ lz hz _ _ _ _ _ _ _ _ _ _ _ _ _ _ _ _ _
      obtain ⟨zv, hzv, oa0, od0, Nc⟩ : ∃ (zv : List Value), (∃ t1 t2, zv = [.int ((fvs'.length : Int) * ((ps : Int) - 4) + 1) t1, .int (((fvs'.length : Int) - 1) * ((ps : Int) - 4)) t2]) ∧ ∃ oa0 od0, News g' L' hz [(lz, listOf zv.toArray 0), (lb, listOf (List.toArray []) 0), (x1, ox1), (la, oa0), (Dd, od0), (L' + 1 + 1 + 1 + 1 + 1 + 1, ow), (L' + 1 + 1 + 1 + 1 + 1, oz), (L' + 1 + 1 + 1 + 1, orr), (L' + 1 + 1 + 1, op), (L' + 1 + 1, og), (L' + 1, oo), (src, so'), (pg, listOf vs.toArray n), (wd, wo), (fr, listOf fvs.toArray nf), (mk, listOf mvs.toArray nm), (ch, listOf cvs.toArray nc), (449, to')] := ⟨_, ⟨_, _, rfl⟩, _, _, NL⟩
      clear NL
      have hlo : Ap lb x1 ∧ Ap la x1 ∧ Ap lb la ∧ Ap lz la ∧ Ap lz lb ∧ Ap lz x1 := ⟨by k_extra "my ap", by k_extra "my ap", by k_extra "my ap", by k_extra "my ap", by k_extra "my ap", by k_extra "my ap"⟩
      have hlc : OffA L' src pg wd fr mk ch la ∧ OffA L' src pg wd fr mk ch lb := ⟨⟨by assumption, by assumption, by assumption, by assumption, by assumption, by assumption, by assumption, by assumption, by assumption, by assumption, by assumption, by assumption, by assumption⟩, ⟨by assumption, by assumption, by assumption, by assumption, by assumption, by assumption, by assumption, by assumption, by assumption, by assumption, by assumption, by assumption, by assumption⟩⟩
      refine' for_list (vs := zv) (nl := 0) (stored := []) (ps₀ := []) (led₀ := [(lz, listOf zv.toArray 0), (lb, listOf (List.toArray []) 0), (la, oa0), (x1, ox1), (L' + 1 + 1 + 1 + 1 + 1 + 1, ow), (L' + 1 + 1 + 1 + 1 + 1, oz), (L' + 1 + 1 + 1 + 1, orr), (L' + 1 + 1 + 1, op), (L' + 1 + 1, og), (L' + 1, oo), (src, so'), (pg, listOf vs.toArray n), (wd, wo), (fr, listOf fvs.toArray nf), (mk, listOf mvs.toArray nm), (ch, listOf cvs.toArray nc), (449, to')])
        (fun i gi ps' led => RefJ A base g outer Z L' lz x1 src pg wd fr mk ch (listOf zv.toArray 0) ox1 ow orr op og oo so' (listOf vs.toArray n) wo (listOf fvs.toArray nf) (listOf mvs.toArray nm) (listOf cvs.toArray nc) i gi ps' led)
        ?vh FL ?vN ?vsrc ?vps ?vj ?vt ?vd
      case vh => k_extra "my hh"
      case vps => k_extra "my ps"
      case vN => exact Nc.perm (by k_extra "my sub")
      case vj =>
        exact ⟨lb, la, _, _, oz, to', _, rfl, rfl, dz0, hTab', Tn, Bn, ⟨hlo.1, hlo.2.1, hlo.2.2.1, hlo.2.2.2.1, hlo.2.2.2.2.1⟩, hlc⟩
      case vsrc =>
        rintro i gi ps' led h m ⟨b, a, ob, oa, z, to2, _, rfl, rfl, _, _, _, _, _, _⟩ _ Nx
        exact (Nx _ (.head _)).1
      case vt =>
        rintro i v gi ps' led u h tk I oI hi hv ⟨b, a, ob, oa, z, to2, v0, rfl, rfl, dz, hTab, Tn, Bn, hab, hla⟩ Fw Nw ne
        clear FL Nc dz0
        refine apI (d := I) (fun r hr => (NeAll.all ne r hr).symm) ?_
        clear ne
        k_extra "my imp"
        refine and5 hab ?_
        refine and6 hlo ?_
        refine hla.1.open ?_
        refine hla.2.open ?_
        intros
        have hq := qt_turn Tn
        have hqZ : ∀ a o, Z a o → gi.get? a = some o := fun a o z => hq a o (hZ a o z)
        have Xn := XB.keeps Bn.stays
        have TTn := TB.keeps Bn.stays
        have hsv : ∃ (sz : Int) (t : Tok) (m : Nat), v = .int sz t ∧ 0 ≤ sz ∧ sz < 100000 ∧ (sz + ((ps : Int) - 4) - 1) / ((ps : Int) - 4) = (m : Nat) ∧ (m = pgs'.length + 1 ∨ m + 1 = pgs'.length) := by
          obtain ⟨t1, t2, rfl⟩ := hzv
          rw [hL3] at hv
          exact size_bad hr1 hpp hm1 hi hv
        have hi2 : i < 2 := by obtain ⟨t1, t2, rfl⟩ := hzv; exact hi
        obtain ⟨sz, tz, m, rfl, hs0, hs1', hcd, hmm⟩ := hsv
        have z2' := hqZ _ _ zq2'
        have hfl3 := isl_got z2'
        k_extra "my steps"
        have hex3 : ∀ q ∈ [(b, ob), (a, oa)].take i ++ [(x1, ox1)], q ∈ [(b, ob), (a, oa), (x1, ox1)] := fun q hq => by
          rcases List.mem_append.mp hq with h | h
          · have := List.mem_of_mem_take h
            simp only [List.mem_cons, List.not_mem_nil, or_false] at this ⊢
            exact this.elim .inl fun h => .inr (.inl h)
          · simp only [List.mem_cons, List.not_mem_nil, or_false] at h ⊢
            exact .inr (.inr h)
        k_extra "my steps"
        refine my_call ?_
        refine' refusal_spec (C := 51) (j := 7) ?hH ?hR XB TB (.inl rfl) ?hF ?hcall ?hk
        case hH => k_extra "my pre0"
        case hR => k_extra "my depth"
        case hF => exact FnAt.of (by k_asm) (by k_mem)
        case hcall =>
          k_extra "my lam"
          clear Bn Xn TTn
          have z2' := hq2 _ _ (hZ _ _ zq2')
          have hfl3 := isl_got z2'
          k_extra "my enterL"
          k_extra "my steps"
          exact kr _ _ _ (by assumption)
        case hk =>
          intro t2 g2 h2 tk2 T2 B2 P2
          refine back_turnK Bn F' N' rfl T2 P2 ?_; intro g' T3 F3 N3 B3
          replace N3 := news_tl N3
          clear F' N' Xn TTn Bn T2 P2 B2
          have Xn := XB.keeps B3.stays
          have TTn := TB.keeps B3.stays
          rw [show wordOf 51 = Str.ofString "corrupt" from rfl]
          try dsimp only
          k_extra "my steps"
          k_extra "my turn"
          refine' ⟨x', b, ox', ob, _, to', _, rfl, rfl, by assumption, hTab'.mono fun p o h => h.imp_right (take_shift hi2 _), Tn.trans T3, B3, ⟨by k_extra "my ap", by k_extra "my ap", by k_extra "my ap", by k_extra "my ap", by k_extra "my ap"⟩, ⟨hla.2, ⟨by assumption, by assumption, by assumption, by assumption, by assumption, by assumption, by assumption, by assumption, by assumption, by assumption, by assumption, by assumption, by assumption⟩⟩⟩
          k_extra "my turned"
      case vd =>
        rintro gi ps' led u h tk ⟨b, a, ob, oa, z, to2, v0, rfl, rfl, dz, hTab, Tn, Bn, hab, hla⟩ Fw Nw
        clear FL Nc dz0
        refine and5 hab ?_
        refine and6 hlo ?_
        refine hla.1.open ?_
        refine hla.2.open ?_
        intros
        have hq := qt_turn Tn
        have hqZ : ∀ a o, Z a o → gi.get? a = some o := fun a o z => hq a o (hZ a o z)
        have Xn := XB.keeps Bn.stays
        have TTn := TB.keeps Bn.stays
        have hzl : zv.length = 2 := by obtain ⟨t1, t2, rfl⟩ := hzv; rfl
        rw [hzl] at hTab
        replace hTab : TabOk (fun p o => Z p o ∨ (p, o) ∈ [(b, ob), (a, oa), (x1, ox1)]) to2 := hTab
        have hsr : pgs'.length * (ps - 4) + 1 < 200000 := by omega
        k_extra "my steps"
        refine my_call ?_
        refine' refusal_spec (C := 51) (j := 7) ?hH ?hR XB TB (.inl rfl) ?hF ?hcall ?hk
        case hH => k_extra "my pre0"
        case hR => k_extra "my depth"
        case hF => exact FnAt.of (by k_asm) (by k_mem)
        case hcall =>
          k_extra "my lam"
          clear Bn Xn TTn
          have z2' := hq2 _ _ (hZ _ _ zq2')
          have hfl3 := isl_got z2'
          k_extra "my enterL"
          k_extra "my steps"
          rw [hL3, ← hZ1]
          k_extra "my steps"
          exact kr _ _ _ (by assumption)
        case hk =>
          intro t2 g2 h2 tk2 T2 B2 P2
          refine back_turnK Bn F' N' rfl T2 P2 ?_; intro g' T3 F3 N3 B3
          replace N3 := news_tl N3
          clear F' N' Xn TTn Bn T2 P2 B2
          have Xn := XB.keeps B3.stays
          have TTn := TB.keeps B3.stays
          rw [show wordOf 51 = Str.ofString "corrupt" from rfl]
          try dsimp only
          k_extra "my steps"
          refine' k so' vs n wo fr fvs nf mvs nm cvs nc to' [(x', ox'), (b, ob), (a, oa), (x1, ox1)] P F frl mkl chl g' _ _ ⟨hs', hP, hwd, W.free, W.marks.mono fun _ _ e => .inl e, W.chains.mono fun _ _ e => .inl e, hTab', W.inv⟩ (by omega) (Tn.trans T3) B3 ?wpost
          case wpost => simp only [led, List.cons_append, List.nil_append]; k_extra "my post"
theorem refused_deed : Deed w 454 := deed_of refused_deed_c w
end

noncomputable def eps22 {α1 α2 α3 α4 α5 α6 α7 α8 α9 α10 α11 α12 α13 α14 α15 α16 α17 α18 α19 α20 α21 α22 : Type} {i : Nonempty (α1 × α2 × α3 × α4 × α5 × α6 × α7 × α8 × α9 × α10 × α11 × α12 × α13 × α14 × α15 × α16 × α17 × α18 × α19 × α20 × α21 × α22)} (p : α1 → α2 → α3 → α4 → α5 → α6 → α7 → α8 → α9 → α10 → α11 → α12 → α13 → α14 → α15 → α16 → α17 → α18 → α19 → α20 → α21 → α22 → Prop) : α1 × α2 × α3 × α4 × α5 × α6 × α7 × α8 × α9 × α10 × α11 × α12 × α13 × α14 × α15 × α16 × α17 × α18 × α19 × α20 × α21 × α22 := @Classical.epsilon _ i fun x => ¬ p x.1 x.2.1 x.2.2.1 x.2.2.2.1 x.2.2.2.2.1 x.2.2.2.2.2.1 x.2.2.2.2.2.2.1 x.2.2.2.2.2.2.2.1 x.2.2.2.2.2.2.2.2.1 x.2.2.2.2.2.2.2.2.2.1 x.2.2.2.2.2.2.2.2.2.2.1 x.2.2.2.2.2.2.2.2.2.2.2.1 x.2.2.2.2.2.2.2.2.2.2.2.2.1 x.2.2.2.2.2.2.2.2.2.2.2.2.2.1 x.2.2.2.2.2.2.2.2.2.2.2.2.2.2.1 x.2.2.2.2.2.2.2.2.2.2.2.2.2.2.2.1 x.2.2.2.2.2.2.2.2.2.2.2.2.2.2.2.2.1 x.2.2.2.2.2.2.2.2.2.2.2.2.2.2.2.2.2.1 x.2.2.2.2.2.2.2.2.2.2.2.2.2.2.2.2.2.2.1 x.2.2.2.2.2.2.2.2.2.2.2.2.2.2.2.2.2.2.2.1 x.2.2.2.2.2.2.2.2.2.2.2.2.2.2.2.2.2.2.2.2.1 x.2.2.2.2.2.2.2.2.2.2.2.2.2.2.2.2.2.2.2.2.2
theorem allE22 {α1 α2 α3 α4 α5 α6 α7 α8 α9 α10 α11 α12 α13 α14 α15 α16 α17 α18 α19 α20 α21 α22 : Type} [i : Nonempty (α1 × α2 × α3 × α4 × α5 × α6 × α7 × α8 × α9 × α10 × α11 × α12 × α13 × α14 × α15 × α16 × α17 × α18 × α19 × α20 × α21 × α22)] {p : α1 → α2 → α3 → α4 → α5 → α6 → α7 → α8 → α9 → α10 → α11 → α12 → α13 → α14 → α15 → α16 → α17 → α18 → α19 → α20 → α21 → α22 → Prop} (h : p (eps22 (i := i) p).1 (eps22 (i := i) p).2.1 (eps22 (i := i) p).2.2.1 (eps22 (i := i) p).2.2.2.1 (eps22 (i := i) p).2.2.2.2.1 (eps22 (i := i) p).2.2.2.2.2.1 (eps22 (i := i) p).2.2.2.2.2.2.1 (eps22 (i := i) p).2.2.2.2.2.2.2.1 (eps22 (i := i) p).2.2.2.2.2.2.2.2.1 (eps22 (i := i) p).2.2.2.2.2.2.2.2.2.1 (eps22 (i := i) p).2.2.2.2.2.2.2.2.2.2.1 (eps22 (i := i) p).2.2.2.2.2.2.2.2.2.2.2.1 (eps22 (i := i) p).2.2.2.2.2.2.2.2.2.2.2.2.1 (eps22 (i := i) p).2.2.2.2.2.2.2.2.2.2.2.2.2.1 (eps22 (i := i) p).2.2.2.2.2.2.2.2.2.2.2.2.2.2.1 (eps22 (i := i) p).2.2.2.2.2.2.2.2.2.2.2.2.2.2.2.1 (eps22 (i := i) p).2.2.2.2.2.2.2.2.2.2.2.2.2.2.2.2.1 (eps22 (i := i) p).2.2.2.2.2.2.2.2.2.2.2.2.2.2.2.2.2.1 (eps22 (i := i) p).2.2.2.2.2.2.2.2.2.2.2.2.2.2.2.2.2.2.1 (eps22 (i := i) p).2.2.2.2.2.2.2.2.2.2.2.2.2.2.2.2.2.2.2.1 (eps22 (i := i) p).2.2.2.2.2.2.2.2.2.2.2.2.2.2.2.2.2.2.2.2.1 (eps22 (i := i) p).2.2.2.2.2.2.2.2.2.2.2.2.2.2.2.2.2.2.2.2.2) : ∀ x1 x2 x3 x4 x5 x6 x7 x8 x9 x10 x11 x12 x13 x14 x15 x16 x17 x18 x19 x20 x21 x22, p x1 x2 x3 x4 x5 x6 x7 x8 x9 x10 x11 x12 x13 x14 x15 x16 x17 x18 x19 x20 x21 x22 := fun x1 x2 x3 x4 x5 x6 x7 x8 x9 x10 x11 x12 x13 x14 x15 x16 x17 x18 x19 x20 x21 x22 => Classical.byContradiction fun nx =>
  @Classical.epsilon_spec _ (fun x : α1 × α2 × α3 × α4 × α5 × α6 × α7 × α8 × α9 × α10 × α11 × α12 × α13 × α14 × α15 × α16 × α17 × α18 × α19 × α20 × α21 × α22 => ¬ p x.1 x.2.1 x.2.2.1 x.2.2.2.1 x.2.2.2.2.1 x.2.2.2.2.2.1 x.2.2.2.2.2.2.1 x.2.2.2.2.2.2.2.1 x.2.2.2.2.2.2.2.2.1 x.2.2.2.2.2.2.2.2.2.1 x.2.2.2.2.2.2.2.2.2.2.1 x.2.2.2.2.2.2.2.2.2.2.2.1 x.2.2.2.2.2.2.2.2.2.2.2.2.1 x.2.2.2.2.2.2.2.2.2.2.2.2.2.1 x.2.2.2.2.2.2.2.2.2.2.2.2.2.2.1 x.2.2.2.2.2.2.2.2.2.2.2.2.2.2.2.1 x.2.2.2.2.2.2.2.2.2.2.2.2.2.2.2.2.1 x.2.2.2.2.2.2.2.2.2.2.2.2.2.2.2.2.2.1 x.2.2.2.2.2.2.2.2.2.2.2.2.2.2.2.2.2.2.1 x.2.2.2.2.2.2.2.2.2.2.2.2.2.2.2.2.2.2.2.1 x.2.2.2.2.2.2.2.2.2.2.2.2.2.2.2.2.2.2.2.2.1 x.2.2.2.2.2.2.2.2.2.2.2.2.2.2.2.2.2.2.2.2.2) ⟨(x1, x2, x3, x4, x5, x6, x7, x8, x9, x10, x11, x12, x13, x14, x15, x16, x17, x18, x19, x20, x21, x22), nx⟩ h
section
variable {prog : Program} {w : World} {A : Around} {E : Value → Shared → Prop} {s : Shared} {h₀ : Heap} {L : Addr} {m : Str → Option Value} {env : Env}
noncomputable def PBody (prog : Program) (w : World) (A : Around) (elt : PySem.Expr) (t : Option PySem.Expr) (cenv : Env) (app : Value → Shared → Prop) (skip : Shared → Prop) (E : Value → Shared → Prop) (s : Shared) : Prop :=
  match t with
  | none => wpAny (model prog w) A (eval elt cenv) app E s
  | some c => wpAny (model prog w) A (isTrue c cenv (eval c cenv)) (fun ok s₃ => if ok = true then wpAny (model prog w) A (eval elt cenv) app E s₃ else skip s₃) E s
theorem PBody.mono {elt : PySem.Expr} {t : Option PySem.Expr} {cenv : Env} {app app' : Value → Shared → Prop} {skip skip' : Shared → Prop} (x : PBody prog w A elt t cenv app skip E s) (h1 : ∀ v s, app v s → app' v s) (h2 : ∀ s, skip s → skip' s) : PBody prog w A elt t cenv app' skip' E s := by
  cases t with
  | none => exact wpAny_mono x h1 fun _ _ e => e
  | some c =>
    refine wpAny_mono x (fun ok s₃ h => ?_) fun _ _ e => e
    cases ok with
    | true => simp only [if_true] at h ⊢; exact wpAny_mono h h1 fun _ _ e => e
    | false => simp only [Bool.false_eq_true, if_false] at h ⊢; exact h2 _ h
noncomputable def tsOf : Option PySem.Expr → List PySem.Expr
  | none => []
  | some c => [c]
theorem pair_loop {elt target iter : PySem.Expr} {t : Option PySem.Expr} {scope : Scope} {pos : Pos} {it acc : Value} {env : Env} {R : Result → Shared → Prop} (I : Nat → Shared → Prop)
    (turn : ∀ n s, I n s → wpAny (model prog w) A (pyNext it) (fun r s₁ => match r with
      | none => R (.ok .next) s₁
      | some v => wpAny (model prog w) A (letOwnedTupleGo target it v) (fun _ s₀ => wpAny (model prog w) A (assign target env v) (fun _ s₂ =>
          PBody prog w A elt t env (fun x s₄ => wpAny (model prog w) A (call (.builtin "list.append") [acc, x]) (fun _ s₅ => ∃ m, m < n ∧ I m s₅) (notedBy (model prog w) A env fun e s' => R (.error e) s') s₄) (fun s₃ => ∃ m, m < n ∧ I m s₃) (notedBy (model prog w) A env fun e s' => R (.error e) s') s₂)
          (notedBy (model prog w) A env fun e s' => R (.error e) s') s₀) (notedBy (model prog w) A env fun e s' => R (.error e) s') s₁) (notedBy (model prog w) A env fun e s' => R (.error e) s') s)
    (n : Nat) (h : I n s) : codeAny (model prog w) A (.compLoop (.ListComp elt [⟨target, iter, tsOf t, 0⟩] scope pos) 0 it acc env) R s := by
  cases t with
  | none => exact kcp_loop I turn n h
  | some c => exact kct_loop I turn n h
noncomputable def PAgain (h₀ : Heap) (L : Addr) (m : Str → Option Value) (s₁ : Shared) (led : List (Addr × Obj)) (J : Prop) (s₂ : Shared) : Prop :=
  ∃ h' tk, s₂ = { s₁ with heap := h', toks := tk } ∧ Fr h₀ L h' m ∧ News h₀ L h' led ∧ J
theorem PAgain.intro {s₁ : Shared} {led all : List (Addr × Obj)} {J : Prop} {h' : Heap} {tk : Nat} (F : Fr h₀ L h' m) (N : News h₀ L h' all) (sub : ∀ p ∈ led, p ∈ all) (j : J) : PAgain h₀ L m s₁ led J { s₁ with heap := h', toks := tk } :=
  ⟨h', tk, rfl, F, fun p hp => N p (sub p hp), j⟩
noncomputable abbrev tupOf (v₁ v₂ : Value) (nt : Nat) : Obj := { cls := .type "tuple", data := .seq [v₁, v₂].toArray nt }
inductive PairSrc (prog : Program) (w : World) (A : Around) (h₀ : Heap) (L : Addr) (m : Str → Option Value) (env : Env) (elt : PySem.Expr) (t : Option PySem.Expr) (x x₂ : Str) (scope : Scope) (cl : List (Str × Addr)) (Q : Value → Shared → Prop) (xv : Value) (s₁ : Shared) : Prop
  | mk : ∀ (ax : Addr) (its : List Value) (k : Nat) (news : List (Addr × Obj)) (J : Nat → List Value → Prop), xv = .ref ax → A.handled = none → Fr h₀ L s₁.heap m → News h₀ L s₁.heap news → (ax, listOf its.toArray k) ∈ news → its.length < 1000 →
    (∀ (i : Nat) (v : Value), its[i]? = some v → ∃ (T : Addr) (v₁ v₂ : Value) (nt : Nat), v = .ref T ∧ h₀.get? T = some (tupOf v₁ v₂ nt)) → J 0 [] →
    (∀ (i : Nat) (T : Addr) (v₁ v₂ : Value) (nt : Nat) (ys : List Value) (I : Addr) (oI : Obj) (C : Addr) (oC : Obj) (D : Addr) (m₂ : Str → Option Value) (h : Heap) (tk : Nat) (E' : Value → Shared → Prop), its[i]? = some (.ref T) → h₀.get? T = some (tupOf v₁ v₂ nt) → J i ys → LCg.NsObj oC m₂ → m₂ x = some v₁ → m₂ x₂ = some v₂ → Fr h₀ L h m → News h₀ L h ((I, oI) :: (C, oC) :: (D, LCg.lst ys) :: news) →
      ApAll I news → ApAll C news → ApAll D news → Ap I C ∧ Ap I D ∧ Ap C D →
      PBody prog w A elt t (compEnvC scope cl C env) (fun y s₂ => PAgain h₀ L m s₁ ((I, oI) :: (C, oC) :: (D, LCg.lst ys) :: news) (J (i + 1) (ys ++ [y])) s₂)
        (fun s₂ => PAgain h₀ L m s₁ ((I, oI) :: (C, oC) :: (D, LCg.lst ys) :: news) (J (i + 1) ys) s₂) E' { s₁ with heap := h, toks := tk }) →
    (∀ (ys : List Value) (D : Addr) (h : Heap) (tk : Nat), J its.length ys → Fr h₀ L h m → News h₀ L h ((D, LCg.lst ys) :: news) → ApAll D news → Q (.ref D) { s₁ with heap := h, toks := tk }) → PairSrc prog w A h₀ L m env elt t x x₂ scope cl Q xv s₁
inductive PJ (h₀ : Heap) (L : Addr) (m : Str → Option Value) (s₁ : Shared) (ax I D C : Addr) (its : List Value) (news : List (Addr × Obj)) (J : Nat → List Value → Prop) (k : Nat) (s' : Shared) : Prop
  | mk : ∀ (h' : Heap) (tk i : Nat) (ys : List Value) (m' : Str → Option Value), s' = { s₁ with heap := h', toks := tk } → i ≤ its.length → k = its.length + 1 - i → ys.length ≤ i → (h'.IsListIter I ax i ∧ h'.IsList ax its.toArray) → Fr h₀ L h' m → h'.Ns C m' → News h₀ L h' ((D, LCg.lst ys) :: news) → J i ys → PJ h₀ L m s₁ ax I D C its news J k s'
theorem ListComp_pair {elt iter : PySem.Expr} {t : Option PySem.Expr} {x x₂ : Str} {px px₂ tp : Pos} {kk : Nat} {scope : Scope} {cl : List (Str × Addr)} {pos : Pos} {Q : Value → Shared → Prop} (_F₀ : Fr h₀ L s.heap m)
    (hclos : closureFor scope env = pure cl) (hcell : ∀ y ∈ scope.names, y.2 ≠ .cell) (hkind : scope.kind = .function)
    (hnames : ∀ y ∈ scope.names, y.2 = .local → scope.names.lookup y.1 = some .local) (hx : scope.names.lookup x = some .local) (hx₂ : scope.names.lookup x₂ = some .local) (hxx : x ≠ x₂)
    (h : wpAny (model prog w) A (eval iter env) (PairSrc prog w A h₀ L m env elt t x x₂ scope cl Q) E s)
    (hs : ∀ x, foldedSetIterable iter env x = pure x := by intro _; rfl) :
    wpAny (model prog w) A (eval (.ListComp elt [⟨.Tuple [.Name x px, .Name x₂ px₂] kk tp, iter, tsOf t, 0⟩] scope pos) env) Q E s := by
  revert prog w A E s h₀ L m env elt iter t x x₂ px px₂ tp kk scope cl pos Q; refine (?zcG16 : CloT _ ?zcH16); refine @(allE22 (i := ⟨(default, world0, {}, default, {}, default, default, default, default, default, default, default, default, default, default, default, default, default, default, default, default, default)⟩) ?_); apply ?zcH16; intro prog w A E s h₀ L m env elt iter t x x₂ px px₂ tp kk scope cl pos Q; intro _F₀ hclos hcell hkind hnames hx hx₂ hxx h hs
  rw [eval_ListComp]
  refine wpAny_comprehension_free (use := none) rfl hs hclos hkind hnames (wpAny_mono h ?_ fun _ _ e => e)
  (refine (?zdG4 : CloT _ ?zdH4); refine @(allE2 (i := ⟨(default, {})⟩) ?_); apply ?zdH4; intro xv s₁)
  intro h₁
  refine PairSrc.casesOn h₁ ?_
  (refine (?zdG5 : CloT _ ?zdH5); refine @(allE5 ?_); apply ?zdH5; intro ax its k news J)
  rintro rfl hh F N hm hsz htup j0 step fin
  have hl : s₁.heap.IsList ax its.toArray := ⟨_, (N _ hm).1, rfl, _, rfl⟩
  have hax : ax < s₁.heap.objs.size := Heap.lt_size (N _ hm).1
  have hLl : @LT.lt Nat _ L s₁.heap.objs.size := F.ns.lt
  have W := Walks.list (prog := prog) (w := w) hh s₁.heap.objs.size ax (Nat.ne_of_lt hax) its.toArray
  refine wpAny_pyIter_list hl ?_
  refine wpAny_newObj_type (wpAny_newFunctionEnv hcell (by intro y hy; simp at hy) (fun h₁ hns₁ hsb₁ => ?_) hkind)
  dsimp only at hns₁ hsb₁ ⊢
  generalize hH2 : (s₁.heap.push { cls := .type "list_iterator", data := .fields #[.ref ax, .int 0 0] }).push { cls := .type "list", dict := none, data := .seq ([] : List Value).toArray } = H2 at hns₁ hsb₁ ⊢
  generalize hH1 : s₁.heap.push { cls := .type "list_iterator", data := .fields #[.ref ax, .int 0 0] } = H1 at hH2 hns₁ hsb₁ ⊢
  have hD : H1.objs.size = s₁.heap.objs.size + 1 := by rw [← hH1, Heap.size_push]
  have hC : H2.objs.size = s₁.heap.objs.size + 1 + 1 := by rw [← hH2, Heap.size_push, hD]
  have up : ∀ b o, s₁.heap.get? b = some o → H1.get? b = some o := fun b o e => hH1 ▸ Heap.get?_push_of_some _ e
  have up2 : ∀ b o, H1.get? b = some o → H2.get? b = some o := fun b o e => hH2 ▸ Heap.get?_push_of_some _ e
  have up3 : ∀ b o, b ≠ H2.objs.size → H2.get? b = some o → h₁.get? b = some o := fun b o hb e => hsb₁.extBut b o hb (Heap.get?_push_of_some _ e)
  have lt2 : ∀ b o, H2.get? b = some o → b ≠ H2.objs.size := fun b o e => Nat.ne_of_lt (Heap.lt_size e)
  have old : ∀ b o, s₁.heap.get? b = some o → h₁.get? b = some o := fun b o e => up3 b o (lt2 b o (up2 b o (up b o e))) (up2 b o (up b o e))
  have eI : H1.get? s₁.heap.objs.size = some { cls := .type "list_iterator", data := .fields #[.ref ax, .int 0 0] } := hH1 ▸ Heap.get?_push_size _ rfl
  have eI₁ := up3 _ _ (lt2 _ _ (up2 _ _ eI)) (up2 _ _ eI)
  have eD : H2.get? H1.objs.size = some (LCg.lst []) := hH2 ▸ Heap.get?_push_size _ rfl
  have eD₁ := up3 _ _ (lt2 _ _ eD) eD
  have fresh : ∀ b, @LE.le Nat _ s₁.heap.objs.size b → h₀.get? b = none := fun b hb => by
    cases e : h₀.get? b with
    | none => rfl
    | some o => exact absurd (Heap.lt_size (F.keep b o e)) (Nat.not_lt.mpr hb)
  have hI₀ := fresh s₁.heap.objs.size (Nat.le_refl _)
  have hD₀ := fresh H1.objs.size (by omega)
  have hC₀ := fresh H2.objs.size (by omega)
  have hLI : L ≠ s₁.heap.objs.size := Nat.ne_of_lt hLl
  have hLD : L ≠ H1.objs.size := Nat.ne_of_lt (by omega)
  have hLC : L ≠ H2.objs.size := Nat.ne_of_lt (by omega)
  have hID : s₁.heap.objs.size ≠ H1.objs.size := Nat.ne_of_lt (by omega)
  have hIC : s₁.heap.objs.size ≠ H2.objs.size := Nat.ne_of_lt (by omega)
  have hDC : H1.objs.size ≠ H2.objs.size := Nat.ne_of_lt (by omega)
  have hnl : ∀ p ∈ news, @LT.lt Nat _ p.1 s₁.heap.objs.size := fun p hp => Heap.lt_size (N p hp).1
  have offI : ∀ p ∈ news, p.1 ≠ s₁.heap.objs.size := fun p hp => Nat.ne_of_lt (hnl p hp)
  have offD : ∀ p ∈ news, p.1 ≠ H1.objs.size := fun p hp => Nat.ne_of_lt (by have := hnl p hp; omega)
  have offC : ∀ p ∈ news, p.1 ≠ H2.objs.size := fun p hp => Nat.ne_of_lt (by have := hnl p hp; omega)
  have aI : ApAll s₁.heap.objs.size news := apAll_of fun p hp => (offI p hp).symm
  have aD : ApAll H1.objs.size news := apAll_of fun p hp => (offD p hp).symm
  have aC : ApAll H2.objs.size news := apAll_of fun p hp => (offC p hp).symm
  have loop : ∀ s₃ : Shared, s₃ = { s₁ with heap := h₁, toks := s₁.toks + ([] : List (Str × Value)).length } →
      codeAny (model prog w) A (.compLoop (.ListComp elt [⟨.Tuple [.Name x px, .Name x₂ px₂] kk tp, iter, tsOf t, 0⟩] scope pos) 0 (.ref s₁.heap.objs.size) (.ref H1.objs.size) (compEnvC scope cl H2.objs.size env))
        (compPost (model prog w) A E none Q (.ref H1.objs.size) H2.objs.size) s₃ := by
    rintro s₃ rfl
    refine pair_loop (PJ h₀ L m s₁ ax s₁.heap.objs.size H1.objs.size H2.objs.size its news J) ?_ (its.length + 1)
      ⟨h₁, _, 0, [], _, rfl, Nat.zero_le _, rfl, Nat.le_refl _, ⟨⟨_, eI₁, rfl, rfl⟩, hl.at fun o e => old _ o e⟩, F.keeps old, hns₁, fun p hp => ?_, j0⟩
    · rintro k s' ⟨h', tk, i, ys, m', rfl, hi, rfl, hyl, hst', F', hn', N', hJ⟩
      by_cases hlt : i < its.length
      · refine W.item i _ _ _ (by simpa using hlt) hst' fun v h₂ tk₂ hPv hst₂ hk₂ => ?_
        obtain ⟨T, v₁, v₂, nt, rfl, hT⟩ := htup i v (by simpa using hPv)
        have N₂ : News h₀ L h₂ ((H1.objs.size, LCg.lst ys) :: news) := LCg.news_but N' hk₂ fun p hp => by
          rcases List.mem_cons.mp hp with rfl | hp
          · exact hID.symm
          · exact offI p hp
        have F₂ : Fr h₀ L h₂ m := LCg.fr_but F' hk₂ hLI hI₀
        refine wpAny_letOwnedTupleGo_listiter hst₂.1 ?_
        refine kcp_assign (env := compEnvC scope cl H2.objs.size env) hh ⟨_, F₂.keep _ _ hT, rfl, nt, rfl⟩ (lookup_relabel_local hx) (lookup_relabel_local hx₂) (by simp [compEnvC, relabel, hkind]) (hn'.at' fun o e => hk₂ _ o (by simpa using hIC.symm) e) fun h₃ tk₃ hn₃ hk₃ => ?_
        obtain ⟨oI, heI, _⟩ := id hst₂.1
        obtain ⟨oC, heC, hoC⟩ := LCg.ns_obj hn₃
        have hk₃' : ∀ c o, c ≠ H2.objs.size → h₂.get? c = some o → h₃.get? c = some o := hk₃
        have F₃ : Fr h₀ L h₃ m := ⟨F₂.ns.at' fun o e => hk₃' _ o hLC e, fun b o e => hk₃' b o (fun q => by rw [q, hC₀] at e; cases e) (F₂.keep b o e), F₂.above⟩
        have N₃ : News h₀ L h₃ ((s₁.heap.objs.size, oI) :: (H2.objs.size, oC) :: (H1.objs.size, LCg.lst ys) :: news) := fun p hp => by
          rcases List.mem_cons.mp hp with rfl | hp
          · exact ⟨hk₃' _ _ hIC heI, hLI.symm, hI₀⟩
          · rcases List.mem_cons.mp hp with rfl | hp
            · exact ⟨heC, hLC.symm, hC₀⟩
            · refine ⟨hk₃' _ _ ?_ (N₂ p hp).1, (N₂ p hp).2⟩
              rcases List.mem_cons.mp hp with rfl | hp
              · exact hDC
              · exact offC p hp
        have hst₄ : ∀ h₄, News h₀ L h₄ ((s₁.heap.objs.size, oI) :: (H2.objs.size, oC) :: (H1.objs.size, LCg.lst ys) :: news) → h₄.IsListIter s₁.heap.objs.size ax (i + 1) ∧ h₄.IsList ax its.toArray := fun h₄ N₄ => by
          refine ⟨?_, ⟨_, (N₄ _ (.tail _ (.tail _ (.tail _ hm)))).1, rfl, _, rfl⟩⟩
          obtain ⟨o', q, r⟩ := hst₂.1
          rw [heI] at q; cases q
          exact ⟨oI, (N₄ _ (.head _)).1, r⟩
        refine (step i T v₁ v₂ nt ys _ oI _ oC _ _ h₃ tk₃ _ (by simpa using hPv) hT hJ hoC (by simp [hxx]) (by simp) F₃ N₃ aI aC aD ⟨hIC, hID, hDC.symm⟩).mono (fun y s₄ h₄ => ?_) (fun s₄ h₄ => ?_)
        · obtain ⟨h₄, tk₄, rfl, F₄, N₄, J₄⟩ := h₄
          have zD := (N₄ (H1.objs.size, LCg.lst ys) (.tail _ (.tail _ (.head _)))).1
          have st₄ := hst₄ h₄ N₄
          refine append_at (hsz := by rw [sizeLine_eq]; show ys.toArray.size ≤ _; rw [List.size_toArray]; omega) zD fun h₅ hs₅ hD₅ => ?_
          have k₅ : ∀ b o, b ≠ H1.objs.size → h₄.get? b = some o → h₅.get? b = some o := fun b o hb e => hs₅.extBut b o hb e
          refine ⟨its.length + 1 - (i + 1), Nat.sub_succ_lt_self _ _ (Nat.lt_succ_of_lt hlt), h₅, tk₄, i + 1, ys ++ [y], _, rfl, hlt, rfl, by rw [List.length_append, List.length_singleton]; omega, ⟨?_, ?_⟩, ⟨F₄.ns.at' fun o e => k₅ _ o hLD e, fun b o e => k₅ b o (fun q => by rw [q, hD₀] at e; cases e) (F₄.keep b o e), F₄.above⟩, (hoC.ns (N₄ _ (.tail _ (.head _))).1).at' fun o e => k₅ _ o hDC.symm e, fun p hp => ?_, J₄⟩
          · obtain ⟨o, e, r⟩ := st₄.1; exact ⟨o, k₅ _ _ hID e, r⟩
          · exact st₄.2.at fun o e => k₅ _ o (offD _ hm) e
          · rcases List.mem_cons.mp hp with rfl | hp
            · exact ⟨hD₅.trans (congrArg some (LCg.lst_snoc ys y)), hLD.symm, hD₀⟩
            · exact ⟨k₅ _ _ (offD p hp) (N₄ p (.tail _ (.tail _ (.tail _ hp)))).1, (N₄ p (.tail _ (.tail _ (.tail _ hp)))).2⟩
        · obtain ⟨h₄, tk₄, rfl, F₄, N₄, J₄⟩ := h₄
          exact ⟨its.length + 1 - (i + 1), Nat.sub_succ_lt_self _ _ (Nat.lt_succ_of_lt hlt), h₄, tk₄, i + 1, ys, _, rfl, hlt, rfl, by omega, hst₄ h₄ N₄, F₄, hoC.ns (N₄ _ (.tail _ (.head _))).1, fun p hp => N₄ p (.tail _ (.tail _ hp)), J₄⟩
      · obtain rfl : i = its.length := Nat.le_antisymm hi (Nat.not_lt.mp hlt)
        refine W.done _ _ _ (by simpa using hst') fun h₂ tk₂ hk₂ => ?_
        have F₂ : Fr h₀ L h₂ m := LCg.fr_but F' hk₂ hLI hI₀
        have N₂ : News h₀ L h₂ ((H1.objs.size, LCg.lst ys) :: news) := LCg.news_but N' hk₂ fun p hp => by
          rcases List.mem_cons.mp hp with rfl | hp
          · exact hID.symm
          · exact offI p hp
        refine ⟨m', hn'.at' fun o e => hk₂ _ o (by simpa using hIC.symm) e, fun h'' hs'' => ?_⟩
        have k₅ : ∀ b o, b ≠ H2.objs.size → h₂.get? b = some o → h''.get? b = some o := fun b o hb e => hs''.extBut b o hb e
        refine fin ys _ h'' _ hJ ⟨F₂.ns.at' fun o e => k₅ _ o hLC e, fun b o e => k₅ b o (fun q => by rw [q, hC₀] at e; cases e) (F₂.keep b o e), F₂.above⟩ (fun p hp => ⟨k₅ _ _ ?_ (N₂ p hp).1, (N₂ p hp).2⟩) aD
        rcases List.mem_cons.mp hp with rfl | hp
        · exact hDC
        · exact offC p hp
    · rcases List.mem_cons.mp hp with rfl | hp
      · exact ⟨eD₁, hLD.symm, hD₀⟩
      · exact ⟨old _ _ (N p hp).1, (N p hp).2⟩
  exact codeAny_compStart_list (loop _ rfl) (W.self 0 _ _ _ ⟨⟨_, eI₁, rfl, rfl⟩, hl.at fun o e => old _ o e⟩ (loop _ rfl))
end
-- LINES
theorem words_52_51 : True := by
  k_with "eval ListComp" => ((first | ((with_reducible show wpAny _ _ (eval (Expr.ListComp _ [⟨Expr.Tuple [_, _] _ _, _, [], 0⟩] _ _) _) _ _ _); k_dflt (refine' ListComp_pair (t := none) ?zF ?zc1 ?zc2 ?zc3 ?zc4 ?zc5 ?zc6 ?zc7 ?_)) | ((with_reducible show wpAny _ _ (eval (Expr.ListComp _ [⟨Expr.Tuple [_, _] _ _, _, [_], 0⟩] _ _) _) _ _ _); k_dflt (refine' ListComp_pair (t := some _) ?zF ?zc1 ?zc2 ?zc3 ?zc4 ?zc5 ?zc6 ?zc7 ?_))); k_dflt ((case zF => k_asm); (case zc1 => exact rfl); (case zc2 => decide); (case zc3 => exact rfl); (case zc4 => decide); (case zc5 => exact rfl); (case zc6 => exact rfl); (case zc7 => decide)))
  k_with "my steps" => repeat' (k_extra "my nostop"; k_extra "my loopstop"; (fail_if_success (with_reducible show LCt.CompSrcT _ _ _ _ _ _ _ _ _ _ _ _ _ _ _)); (fail_if_success (with_reducible show PairSrc _ _ _ _ _ _ _ _ _ _ _ _ _ _ _ _)); (fail_if_success (with_reducible show wpAny _ _ (call (Value.ref 414) _) _ _ _)); first | (k_unfold; (try dsimp only)) | walk1 | (dsimp only; walk1))
  trivial
-- END LINES

-- LINES
theorem words_53_52 : True := by
  k_with "my stepsN" => repeat' (k_extra "my nostop"; k_extra "my loopstop"; (fail_if_success (with_reducible show PairSrc _ _ _ _ _ _ _ _ _ _ _ _ _ _ _ _)); (fail_if_success (with_reducible show wpAny _ _ (compareOp CmpOp.NotEq (Value.ref _) (Value.ref _)) _ _ _)); first | walk1 | (dsimp only; walk1))
  trivial
-- END LINES
section
theorem Marks.at {Z : Addr → Obj → Prop} {vs : List Value} {l : List (Nat × List UInt8)} (m : Marks Z vs l) {i : Nat} {v : Value} (h : vs[i]? = some v) : ∃ pn o T t u n, l[i]? = some (pn, o) ∧ v = .ref T ∧ Z T (tupOf (.int (pn : Nat) t) (.bytes (List.toArray o) u) n) := by
  have hl : i < l.length := m.length ▸ (List.getElem?_eq_some_iff.mp h).1
  obtain ⟨T, t, u, n, e, z⟩ := m.get (i := i) (pn := l[i].1) (o := l[i].2) (List.getElem?_eq_getElem hl)
  rw [h] at e
  exact ⟨_, _, T, t, u, n, List.getElem?_eq_getElem hl, Option.some.inj e, z⟩
theorem Marks.was {g : Heap} {vs : List Value} {l : List (Nat × List UInt8)} (m : Marks (fun a o => g.get? a = some o) vs l) {i : Nat} {T : Addr} {v₁ v₂ : Value} {nt : Nat} (h : vs[i]? = some (.ref T)) (e : g.get? T = some (tupOf v₁ v₂ nt)) :
    ∃ pn o t u, l[i]? = some (pn, o) ∧ v₁ = .int (pn : Nat) t ∧ v₂ = .bytes (List.toArray o) u := by
  obtain ⟨pn, o, T', t, u, n, e1, e2, z⟩ := m.at h
  cases e2
  rw [e] at z
  have z1 : tupOf v₁ v₂ nt = tupOf (.int (pn : Nat) t) (.bytes (List.toArray o) u) n := Option.some.inj z
  have z2 : [v₁, v₂].toArray = [Value.int (pn : Nat) t, .bytes (List.toArray o) u].toArray := (Data.seq.inj (congrArg Obj.data z1)).1
  have z3 : [v₁, v₂] = [Value.int (pn : Nat) t, .bytes (List.toArray o) u] := congrArg Array.toList z2
  simp only [List.cons.injEq, and_true] at z3
  exact ⟨pn, o, t, u, e1, z3.1, z3.2⟩
theorem Marks.wasK {C : Prop} {g : Heap} {vs : List Value} {l : List (Nat × List UInt8)} (m : Marks (fun a o => g.get? a = some o) vs l) {i : Nat} {T : Addr} {v₁ v₂ : Value} {nt : Nat} (h : vs[i]? = some (.ref T)) (e : g.get? T = some (tupOf v₁ v₂ nt))
    (k : ∀ (pn : Nat) (o : List UInt8) (t u : Tok), l[i]? = some (pn, o) → v₁ = .int (pn : Nat) t → v₂ = .bytes (List.toArray o) u → C) : C := let ⟨pn, o, t, u, a, b, c⟩ := m.was h e; k pn o t u a b c
theorem Marks.atK {Z : Addr → Obj → Prop} {vs : List Value} {l : List (Nat × List UInt8)} (m : Marks Z vs l) {i : Nat} {v : Value} (h : vs[i]? = some v) : ∃ T v₁ v₂ n, v = .ref T ∧ Z T (tupOf v₁ v₂ n) := let ⟨_, _, T, _, _, n, _, a, b⟩ := m.at h; ⟨T, _, _, n, a, b⟩
theorem take_fst {l : List (Nat × List UInt8)} {i : Nat} {x : Nat × List UInt8} (h : l[i]? = some x) : (l.take (i + 1)).map (·.1) = (l.take i).map (·.1) ++ [x.1] := by
  rw [List.take_add_one, h, List.map_append]; rfl
end
inductive RightJ (L' src pg wd fr mk ch : Nat) (oc opg owd ofr omk och to : Obj) (pre : List Nat) (chl : List (List UInt8 × List Nat)) (i : Nat) (ps' : List (Str × Value)) (led' : List (Addr × Obj)) : Prop
  | mk : ∀ (D : Addr) (zs : List Value) (nz : Nat) (so2 : Obj), SrcOk so2 → IntsAre zs (nInts (pre ++ (chl.take i).flatMap (·.2))) → ps' = [(Str.ofString "owned", .ref D)] →
      led' = [(D, listOf zs.toArray nz), (L' + 1, oc), (src, so2), (pg, opg), (wd, owd), (fr, ofr), (mk, omk), (ch, och), (449, to)] → ApAll D [(L' + 1, oc), (src, so2), (pg, opg), (wd, owd), (fr, ofr), (mk, omk), (ch, och), (449, to)] →
      RightJ L' src pg wd fr mk ch oc opg owd ofr omk och to pre chl i ps' led'
section
variable {w : World}
theorem right_spec {A : Around} {base g : Heap} {outer : List Env} {s : Shared} {p : Program} {loose : List Str} {mean : ExcName → Option Value} {mg mb : Str → Option Value} {R : Result → Shared → Prop}
  {st pg fl pool src wd fr mk ch : Addr} {so wo to : Obj} {vs fvs mvs cvs : List Value} {n nf nm nc : Nat} {P : List (List UInt8)} {ps : Nat} {F : FLt} {frl : List Nat} {mkl : List (Nat × List UInt8)} {chl : List (List UInt8 × List Nat)} {Z : Addr → Obj → Prop}
  (H : Pre p loose mean mg mb w A base outer g s (led src so pg vs n wd wo fr fvs nf mk mvs nm ch cvs nc to)) (hd : Room A 9) (hnd : ApNd (led src so pg vs n wd wo fr fvs nf mk mvs nm ch cvs nc to))
  (S : IsStore (qt g outer) st pg (ps : Int)) (IF : IsFree (qt g outer) fl st) (IP : IsPool (qt g outer) pool fl st) (hZ : ∀ a o, Z a o → (qt g outer).get? a = some o) (W : WOk w Z ps so vs wo fr fvs mk mvs ch cvs to P F frl mkl chl) (hsz : P.length < 120)
  (k : ∀ so' h' tk, SrcOk so' → Post g h' (led src so' pg vs n wd wo fr fvs nf mk mvs nm ch cvs nc to) → R (.ok (.ret (.bool true))) { s with heap := h', toks := tk }) :
  codeAny (model PySem.Challenge.rw_nt0105_01.row.prog w) A (.call (.ref 459) ⟨[.ref src, .ref pool, .ref wd], []⟩) R s := by
  revert w A base g outer s p loose mean mg mb R st pg fl pool src wd fr mk ch so wo to vs fvs mvs cvs n nf nm nc P ps F frl mkl chl Z; refine @(closeD ?_); k_extra "my dgen"; intro H hd hnd S IF IP hZ W hsz k
  have hq := qt_stays g outer
  have S' := S.keeps hq
  have IF' := IF.keeps hq
  have IP' := IP.keeps hq
  have hs := W.src
  have hP := W.pages
  have hwd := W.wd
  have hI := W.free
  have hM := W.marks.qt hZ
  have hC := W.chains.qt hZ
  have D := W.inv.db
  have hpz := D.psz
  have hsize := W.inv.size
  have hpl := hP.length
  have hml' := hM.length
  have hcl' := hC.length
  have hfl' := hI.length
  rw [List.length_map] at hfl'
  have hfp := W.inv.fr.length_eq
  have S' := S.keeps hq
  have IF' := IF.keeps hq
  have IP' := IP.keeps hq
  refine apNd_I hnd ?_
  dsimp only [led]
  k_extra "my imp"
  have hwd' := hwd
  unfold IsWd at hwd'
  dsimp only [led] at H
  k_extra "my enterCX"
  k_extra "my stepsN"
  with_reducible rename Obj.data _ = Data.cell (some _) => hcell
  rename Obj => oc
  replace hcell : oc.data = Data.cell (some (.ref st)) := hcell
  with_reducible rename (List.Perm _ (nInts (flPages F))) => hpa
  have hfe : (nInts (flPages F)).Perm (nInts frl) := W.inv.fr.symm.map _
  have hse := sorted_eq (hpa.trans (hfe.trans hp'.symm)) (by assumption) (by assumption)
  subst hse
  have hnl := hp'.length_eq
  rw [List.length_map] at hnl
  k_extra "my steps"
  all_goals (try exact absurd rfl (by with_reducible assumption))
  with_reducible rename News _ _ _ _ => N1
  with_reducible rename Fr _ _ _ _ => F1
  refine' ⟨mk, mvs, nm, _, fun i ys => IntsAre ys (nInts ((mkl.take i).map (·.1))), rfl, ?wh, F1, N1, ?wm, ?wz, ?wt, ?wj, ?ws, ?wf⟩
  case wh => k_extra "my hh"
  case wm => k_mem
  case wz => omega
  case wt =>
    exact fun i v hv => hM.atK hv
  case wj => exact .nil
  case ws =>
    intro i T v₁ v₂ nt ys I oI C oC D m₂ h tk E' hv hT hJ hC hx hx2 F2 N2 aI aC aD ne
    refine hM.wasK hv hT ?_; rintro pn o t u e1 rfl rfl
    unfold PBody
    try dsimp only
    k_extra "my steps"
    refine PAgain.intro F2 N2 (fun q h => h) ?_
    rw [take_fst e1]
    exact ints_snocN hJ _ _
  case wf =>
    intro ys D h tk hJ F2 N2 aD
    rw [hml', List.take_length] at hJ
    have hyl := hJ.length
    rw [List.length_map, List.length_map] at hyl
    refine apI_all aD ?_
    k_extra "my imp"
    k_extra "my stepsN"
    with_reducible rename News _ _ _ _ => N3
    with_reducible rename Fr _ _ _ _ => F3
    refine' ⟨mk, mvs, nm, _, fun i ys => ys = [], rfl, ?xh, F3, N3, ?xm, ?xz, ?xt, ?xj, ?xs, ?xf⟩
    case xh => k_extra "my hh"
    case xm => k_mem
    case xz => omega
    case xt =>
      exact fun i v hv => hM.atK hv
    case xj => rfl
    case xs =>
      intro i T v₁ v₂ nt ys I oI C oC D m₂ h tk E' hv hT hJ hC hx hx2 F4 N4 aI aC aD ne
      refine hM.wasK hv hT ?_; rintro pn o t u e1 rfl rfl
      subst hJ
      obtain ⟨q1, q2, q3⟩ := W.inv.marked (List.mem_of_getElem? e1)
      have hb : P[((pn : Int) - 1).toNat]? = some o := by rw [show ((pn : Int) - 1).toNat = pn - 1 by omega]; exact W.inv.marks _ (List.mem_of_getElem? e1)
      dsimp only at q1 q2 q3
      refine apI_all aI ?_
      k_extra "my imp"
      refine apI_all aC ?_
      k_extra "my imp"
      refine apI_all aD ?_
      k_extra "my imp"
      unfold PBody
      try dsimp only
      k_extra "my steps"
      exact PAgain.intro (by k_asm) (by k_asm) (fun q h => h) rfl
    case xf =>
      intro ys D2 h tk hJ F4 N4 aD
      subst hJ
      refine apI_all aD ?_
      k_extra "my imp"
      k_extra "my stepsN"
      k_extra "my steps"
      refine For_here ?_
      k_extra "my steps"
      try dsimp only
      with_reducible rename News _ _ _ _ => N5
      with_reducible rename Fr _ _ _ _ => F5
      have hcn : IntsAre zs' (nInts (([1] ++ flPages F ++ mkl.map (·.1)) ++ (chl.take 0).flatMap (·.2))) := by rw [List.take_zero, List.flatMap_nil, List.append_nil]; exact hI'
      have a0 : ApAll D' [(L' + 1, oc), (src, so), (pg, listOf vs.toArray n), (wd, wo), (fr, listOf fvs.toArray nf), (mk, listOf mvs.toArray nm), (ch, listOf cvs.toArray nc), (449, to)] := by
        exact ⟨by k_extra "my ap", by k_extra "my ap", by k_extra "my ap", by k_extra "my ap", by k_extra "my ap", by k_extra "my ap", by k_extra "my ap", by k_extra "my ap", trivial⟩
      refine' for_listF (stored := [Str.ofString "octets", Str.ofString "pages", Str.ofString "some"]) (ps₀ := [(Str.ofString "owned", .ref D')]) (led₀ := [(D', listOf zs'.toArray 0), (L' + 1, oc), (src, so), (pg, listOf vs.toArray n), (wd, wo), (fr, listOf fvs.toArray nf), (mk, listOf mvs.toArray nm), (ch, listOf cvs.toArray nc), (449, to)])
        (fun i ps' led' => RightJ L' src pg wd fr mk ch oc (listOf vs.toArray n) wo (listOf fvs.toArray nf) (listOf mvs.toArray nm) (listOf cvs.toArray nc) to ([1] ++ flPages F ++ mkl.map (·.1)) chl i ps' led')
        ?vh F5 ?vN ?vm ?vps ?vj ?vt ?vd
      case vh => k_extra "my hh"
      case vps => k_extra "my ps"
      case vN => exact N5.perm (by k_extra "my sub")
      case vm => rintro i ps' led' ⟨_, _, _, _, _, _, _, rfl, _⟩; k_mem
      case vj => exact ⟨D', zs', 0, so, hs, hcn, rfl, rfl, a0⟩
      case vt =>
        rintro i v ps' led' u h tk I oI hi hv ⟨D6, zs6, nz, so2, hs2, hI6, rfl, rfl, a6⟩ Fw Nw ne
        clear F5 N5
        obtain ⟨hi2, o, pgs, e1⟩ : ∃ _ : i < chl.length, ∃ o pgs, chl[i]? = some (o, pgs) := ⟨by omega, chl[i].1, chl[i].2, List.getElem?_eq_getElem (by omega)⟩
        refine hC.getK e1 ?_; intro T2 uo f n2 fvs2 nf2 e2 z2 z3 hI2
        rw [hv] at e2
        cases e2
        obtain ⟨hCh, hpne, hol⟩ := W.inv.chains _ (List.mem_of_getElem? e1)
        have hnd2 := (List.nodup_append.mp (W.inv.chain_nd (List.mem_of_getElem? e1))).1
        have htk : (chl.take (i + 1)).flatMap (·.2) = (chl.take i).flatMap (·.2) ++ pgs := by
          rw [List.take_add_one, e1, List.flatMap_append]
          simp
        dsimp only at hCh hol hnd2
        have hpl3 : pgs.length < 1000 := by
          have h1 := nodup_bound hnd2 hCh.mem
          omega
        have hx1 : (nInts pgs)[(0 : Int).toNat]? = some ((hd0 pgs : Nat) : Int) := by
          rcases hpg : pgs with _ | ⟨x, r⟩
          · exact absurd hpg hpne
          · rfl
        have hfl3 := isl_got z3
        have hot : o.take o.length = o := List.take_length
        have hlI := hI6.length
        rw [List.length_map] at hlI
        have hbl : ([1] ++ flPages F ++ mkl.map (fun x : Nat × List UInt8 => x.1) ++ (chl.take i).flatMap (fun x : List UInt8 × List Nat => x.2)).length ≤ 1000 := by
          have h1 : chl.flatMap (fun x : List UInt8 × List Nat => x.2) = (chl.take i).flatMap (fun x : List UInt8 × List Nat => x.2) ++ (chl.drop i).flatMap (fun x : List UInt8 × List Nat => x.2) := by
            rw [← List.flatMap_append, List.take_append_drop]
          have h2 := congrArg List.length h1
          rw [List.length_append] at h2
          rw [List.length_append, List.length_append, List.length_append, List.length_map, List.length_singleton]
          omega
        generalize hdone : ([1] ++ flPages F ++ mkl.map (fun x : Nat × List UInt8 => x.1) ++ (chl.take i).flatMap (fun x : List UInt8 × List Nat => x.2)) = done at *
        clear hpne
        refine apI (d := I) (fun r hr => (NeAll.all ne r hr).symm) ?_
        clear ne
        k_extra "my imp"
        refine apI_all a6 ?_
        k_extra "my imp"
        k_extra "my steps"
        all_goals (try ((with_reducible rename (¬ _ = _) => hbad); exact absurd rfl hbad))
        k_extra "my turn"
        refine' ⟨rfl, D', zs', 0, so', hs', by subst hdone; rw [htk, ← List.append_assoc]; assumption, rfl, rfl, ?wap⟩
        case wap => exact ⟨by k_extra "my ap", by k_extra "my ap", by k_extra "my ap", by k_extra "my ap", by k_extra "my ap", by k_extra "my ap", by k_extra "my ap", by k_extra "my ap", trivial⟩
        k_extra "my turned"
      case vd =>
        rintro ps' led' u h tk ⟨D6, zs6, nz, so2, hs2, hI6, rfl, rfl, a6⟩ Fw Nw
        clear F5 N5
        rw [hcl', List.take_length] at hI6
        have hlI := hI6.length
        rw [List.length_map] at hlI
        have hal : ([1] ++ flPages F ++ mkl.map (fun x : Nat × List UInt8 => x.1) ++ chl.flatMap (fun x : List UInt8 × List Nat => x.2)).Perm (List.range' 1 P.length) := by
          have h1 := W.inv.all
          have h2 := W.inv.fr
          have h4 := W.inv.db.pos
          have h3 : List.range' 1 P.length = 1 :: List.range' 2 (P.length - 1) := by
            rw [show P.length = (P.length - 1) + 1 by omega, List.range'_succ]; rfl
          rw [h3, List.append_assoc, List.append_assoc]
          exact (((h2.symm.append_right _).trans h1).cons 1)
        have hln : ([1] ++ flPages F ++ mkl.map (fun x : Nat × List UInt8 => x.1) ++ chl.flatMap (fun x : List UInt8 × List Nat => x.2)).length = P.length := by
          rw [hal.length_eq, List.length_range']
        generalize ([1] ++ flPages F ++ mkl.map (fun x : Nat × List UInt8 => x.1) ++ chl.flatMap (fun x : List UInt8 × List Nat => x.2)) = all at *
        refine apI_all a6 ?_
        k_extra "my imp"
        try dsimp only
        k_extra "my steps"
        have hfin : ns' = nInts (List.range' (1 : Int).toNat ((vs.length : Int) + 1 - 1).toNat) := by
          refine sorted_eq (hp'.trans ?_) ho' (range_up _ _)
          rw [show ((vs.length : Int) + 1 - 1).toNat = P.length by omega]
          exact hal.map _
        rw [decide_eq_true hfin]
        refine' k so2 _ _ hs2 ?wpost
        case wpost => k_extra "my post"
end

section
variable {ps : Nat} {P P' : List (List UInt8)} {F F' : FLt} {frl : List Nat} {mkl : List (Nat × List UInt8)} {chl : List (List UInt8 × List Nat)}
theorem WInv.giveD {i : Nat} (I : WInv ps P F frl (mkl.drop i) chl) (hi : i < mkl.length) (G : GiveR P ps F P' F' mkl[i].1) : WInv ps P' F' (frl ++ [mkl[i].1]) (mkl.drop (i + 1)) chl := by
  rw [List.drop_eq_getElem_cons hi] at I
  exact I.give (i := 0) (pn := mkl[i].1) (o := mkl[i].2) rfl G
theorem WInv.freeD {i : Nat} (I : WInv ps P F frl mkl (chl.drop i)) (hi : i < chl.length) (G : GivesR P ps F chl[i].2 P' F') : WInv ps P' F' (frl ++ chl[i].2) mkl (chl.drop (i + 1)) := by
  rw [List.drop_eq_getElem_cons hi] at I
  exact I.freed (i := 0) (o := chl[i].1) (pgs := chl[i].2) rfl G
theorem WInv.over (I : WInv ps P F frl [] []) : (flPages F).Perm (List.range' 2 (P.length - 1)) := by
  have h := I.all
  simp only [List.map_nil, List.flatMap_nil, List.append_nil] at h
  exact I.fr.symm.trans h
theorem winv0 (hps : ps = 64 ∨ ps = 128) : WInv ps [hdrL ps 1 0 0 ++ List.replicate (ps - 32) 0] [] [] [] [] :=
  ⟨⟨hps, by show 1 < 900; omega, ⟨1, List.replicate (ps - 32) 0, by omega, by rw [List.length_replicate]; omega, rfl⟩, trivial, List.nodup_nil⟩, List.Perm.refl _, (fun _ h => nomatch h), (fun _ h => nomatch h), List.Perm.refl _⟩
end
section
variable {w : World} {A A₀ : Around} {base g h h' g₂ : Heap} {env : Env} {s : Shared} {L : Addr} {m : Str → Option Value} {news mn mn' others : List (Addr × Obj)}
theorem back_mn (B₀ : Below A₀ base [] g) (F : Fr g L h m) (N : News g L h news) (hfr : env.frame = some L) (hs : ∀ q ∈ mn, q ∈ news) (ho : ∀ q ∈ others, q ∈ news ∧ q.1 ∉ mn.map (·.1))
    (T : KtsTurn ([env].filterMap (·.frame)) (hideAll h (mn.map (·.1))) g₂) (P : Post g₂ h' mn') :
    Fr g L h' m ∧ News g L h' (mn' ++ others) ∧ (∀ q ∈ mn', ∀ r ∈ others, q.1 ≠ r.1) ∧ (mn'.map (·.1)).Nodup := by
  have e : ([env].filterMap (·.frame)) = [L] := by rw [List.filterMap_cons, hfr]; rfl
  rw [e] at T
  have nm : ∀ b o, g.get? b = some o → b ∉ mn.map (·.1) := fun b o e q => by
    obtain ⟨p, hp, rfl⟩ := List.mem_map.mp q
    rw [(N p (hs p hp)).2.2] at e; cases e
  have st : g.StaysIn (hideAll h (mn.map (·.1))) := fun b o e => hideAll_get _ (F.keep b o e) (nm b o e)
  have nL : L ∉ mn.map (·.1) := fun q => by
    obtain ⟨p, hp, e⟩ := List.mem_map.mp q
    exact (N p (hs p hp)).2.1 e
  have gL : g.get? L = none := by
    cases q : g.get? L with
    | none => rfl
    | some o => exact absurd (Nat.lt_of_lt_of_le (Heap.lt_size q) F.above) (Nat.lt_irrefl _)
  have up : ∀ b o, (hideAll h (mn.map (·.1))).get? b = some o → b ≠ L → h'.get? b = some o := fun b o q n => P.S _ _ (T.other b o q fun hm => n (List.mem_singleton.mp hm))
  obtain ⟨oL, es, ep, hL, r⟩ := F.ns
  obtain ⟨sl, hL2⟩ := T.up (hideAll_get (mn.map (·.1)) hL nL)
  refine ⟨⟨⟨{ oL with slots := sl }, es, ep, P.S _ _ hL2, r⟩, fun b o q => up b o (st b o q) (fun x => by rw [x, gL] at q; cases q), F.above⟩, fun q hq => ?_, fun q hq r hr x => ?_, P.nd⟩
  · rcases List.mem_append.mp hq with hq | hq
    · refine ⟨(P.N q hq).1, fun x => ?_, ?_⟩
      · have := (P.N q hq).2; rw [x, hL2] at this; cases this
      · cases x : g.get? q.1 with
        | none => rfl
        | some o =>
          obtain ⟨sl, y⟩ := T.up (st _ _ x)
          rw [(P.N q hq).2] at y; cases y
    · obtain ⟨h1, h2⟩ := ho q hq
      exact ⟨up _ _ (hideAll_get _ (N q h1).1 h2) (N q h1).2.1, (N q h1).2⟩
  · obtain ⟨h1, h2⟩ := ho r hr
    have y := T.other _ _ (hideAll_get _ (N r h1).1 h2) fun hm => (N r h1).2.1 (List.mem_singleton.mp hm)
    rw [← x, (P.N q hq).2] at y; cases y
theorem still_qt (F : Fr g L h m) (N : News g L h news) (hfr : env.frame = some L) (ho : ∀ q ∈ others, q ∈ news ∧ q.1 ∉ mn.map (·.1)) : ∀ q ∈ others, (qt (hideAll h (mn.map (·.1))) [env]).get? q.1 = some q.2 := fun q hq => by
  obtain ⟨h1, h2⟩ := ho q hq
  refine hideAll_get _ (hideAll_get _ (N q h1).1 h2) fun hm => ?_
  rw [List.filterMap_cons, hfr] at hm
  exact (N q h1).2.1 (List.mem_singleton.mp hm)
end
theorem WOk.mono {w : World} {Z Z' : Addr → Obj → Prop} {ps : Nat} {so : Obj} {vs : List Value} {wo : Obj} {fr : Addr} {fvs : List Value} {mk : Addr} {mvs : List Value} {ch : Addr} {cvs : List Value} {to : Obj} {P : List (List UInt8)} {Fl : FLt} {frl : List Nat} {mkl : List (Nat × List UInt8)} {chl : List (List UInt8 × List Nat)}
    (h : ∀ a o, Z a o → Z' a o) (W : WOk w Z ps so vs wo fr fvs mk mvs ch cvs to P Fl frl mkl chl) : WOk w Z' ps so vs wo fr fvs mk mvs ch cvs to P Fl frl mkl chl :=
  ⟨W.src, W.pages, W.wd, W.free, W.marks.mono h, W.chains.mono h, W.table.mono h, W.inv⟩
section
variable {w : World} {A A₀ : Around} {base g : Heap} {env : Env} {s : Shared} {L : Addr} {m : Str → Option Value} {news others still fx : List (Addr × Obj)}
  {p : Program} {loose : List Str} {mean : ExcName → Option Value} {mg mb : Str → Option Value} {R : Result → Shared → Prop}
  {st pg fl pool src wd fr mk ch : Addr} {so wo to : Obj} {vs fvs mvs cvs : List Value} {n nf nm nc : Nat} {P : List (List UInt8)} {ps : Nat} {Fl : FLt} {frl : List Nat} {mkl : List (Nat × List UInt8)} {chl : List (List UInt8 × List Nat)}
noncomputable def Stands (fx : List (Addr × Obj)) (st pg fl pool : Addr) (ps : Nat) : Prop := ∀ h : Heap, (∀ q ∈ fx, h.get? q.1 = some q.2) → IsStore h st pg (ps : Int) ∧ IsFree h fl st ∧ IsPool h pool fl st
noncomputable def Off (l : List (Addr × Obj)) (as : List Addr) : Prop := ∀ q ∈ l, q.1 ∉ as
theorem deed_call {f : Addr} (Df : Deed w f) (B₀ : Below A₀ base [] g) (hA : A.frames = some [env]) (hfr : env.frame = some L) (hck : env.scope.kind = .function) (hd : Room A 9) (XB : (K w.params).In base) (TB : Top p loose mean mg mb base)
    (F : Fr g L s.heap m) (N : News g L s.heap news) (hs : ∀ q ∈ led src so pg vs n wd wo fr fvs nf mk mvs nm ch cvs nc to, q ∈ news) (hon : ∀ q ∈ others, q ∈ news) (hoff : Off others ((led src so pg vs n wd wo fr fvs nf mk mvs nm ch cvs nc to).map (·.1)))
    (hnd : ApNd (led src so pg vs n wd wo fr fvs nf mk mvs nm ch cvs nc to)) (hx : Stands fx st pg fl pool ps) (hfx : ∀ q ∈ fx, q ∈ others) (hst : ∀ q ∈ still, q ∈ others)
    (W : WOk w (fun a o => (a, o) ∈ still) ps so vs wo fr fvs mk mvs ch cvs to P Fl frl mkl chl) (hsz : P.length < 200)
    (k : ∀ so' vs' n' wo' fr' fvs' nf' mvs' nm' cvs' nc' to' ex P' Fl' frl' mkl' chl' h' tk, WOk w (fun a o => (a, o) ∈ ex ++ still) ps so' vs' wo' fr' fvs' mk mvs' ch cvs' to' P' Fl' frl' mkl' chl' → P'.length ≤ P.length + 4 →
      Fr g L h' m → News g L h' (led src so' pg vs' n' wd wo' fr' fvs' nf' mk mvs' nm' ch cvs' nc' to' ++ (ex ++ others)) → ApNd (led src so' pg vs' n' wd wo' fr' fvs' nf' mk mvs' nm' ch cvs' nc' to') →
      Off (ex ++ others) ((led src so' pg vs' n' wd wo' fr' fvs' nf' mk mvs' nm' ch cvs' nc' to').map (·.1)) → (∀ q ∈ ex, ∀ r ∈ others, q.1 ≠ r.1) → R (.ok (.ret (.bool true))) { s with heap := h', toks := tk }) :
    codeAny (model PySem.Challenge.rw_nt0105_01.row.prog w) A (.call (.ref f) ⟨[.ref src, .ref pool, .ref wd], []⟩) R s := by
  have ho : ∀ q ∈ others, q ∈ news ∧ q.1 ∉ (led src so pg vs n wd wo fr fvs nf mk mvs nm ch cvs nc to).map (·.1) := fun q hq => ⟨hon q hq, hoff q hq⟩
  have H := pre_call (mn := led src so pg vs n wd wo fr fvs nf mk mvs nm ch cvs nc to) (s := s) B₀ hA hfr hck (XB.keeps B₀.stays) (TB.keeps B₀.stays) F N hs
  have hq := still_qt (mn := led src so pg vs n wd wo fr fvs nf mk mvs nm ch cvs nc to) F N hfr ho
  obtain ⟨S, IF, IP⟩ := hx _ fun q h => hq q (hfx q h)
  refine Df H hd XB TB hnd S IF IP (fun a o z => hq (a, o) (hst _ z)) W hsz ?_
  intro so' vs' n' wo' fr' fvs' nf' mvs' nm' cvs' nc' to' ex P' F' frl' mkl' chl' g' h' tk W' hl T2 _ P2
  obtain ⟨F2, N2, ne, nd⟩ := back_mn (mn := led src so pg vs n wd wo fr fvs nf mk mvs nm ch cvs nc to) B₀ F N hfr hs ho T2 P2
  rw [List.map_append, List.nodup_append] at nd
  refine k so' vs' n' wo' fr' fvs' nf' mvs' nm' cvs' nc' to' ex P' F' frl' mkl' chl' h' tk (W'.mono fun a o z => List.mem_append.mpr z.symm) hl F2 (List.append_assoc .. ▸ N2) (apNd_of nd.1) (fun q hq hm => ?_) fun q hq r hr => ne q (List.mem_append_right _ hq) r hr
  obtain ⟨r, hr, e⟩ := List.mem_map.mp hm
  rcases List.mem_append.mp hq with h | h
  · exact nd.2.2 _ hm _ (List.mem_map_of_mem h) rfl
  · exact ne r (List.mem_append_left _ hr) q h e
theorem right_call (B₀ : Below A₀ base [] g) (hA : A.frames = some [env]) (hfr : env.frame = some L) (hck : env.scope.kind = .function) (hd : Room A 9) (X : (K w.params).In g) (T : Top p loose mean mg mb g)
    (F : Fr g L s.heap m) (N : News g L s.heap news) (hs : ∀ q ∈ led src so pg vs n wd wo fr fvs nf mk mvs nm ch cvs nc to, q ∈ news) (hon : ∀ q ∈ others, q ∈ news) (hoff : Off others ((led src so pg vs n wd wo fr fvs nf mk mvs nm ch cvs nc to).map (·.1)))
    (hnd : ApNd (led src so pg vs n wd wo fr fvs nf mk mvs nm ch cvs nc to)) (hx : Stands fx st pg fl pool ps) (hfx : ∀ q ∈ fx, q ∈ others) (hst : ∀ q ∈ still, q ∈ others)
    (W : WOk w (fun a o => (a, o) ∈ still) ps so vs wo fr fvs mk mvs ch cvs to P Fl frl mkl chl) (hsz : P.length < 120)
    (k : ∀ so' h' tk, WOk w (fun a o => (a, o) ∈ still) ps so' vs wo fr fvs mk mvs ch cvs to P Fl frl mkl chl → Fr g L h' m → News g L h' (led src so' pg vs n wd wo fr fvs nf mk mvs nm ch cvs nc to ++ others) → R (.ok (.ret (.bool true))) { s with heap := h', toks := tk }) :
    codeAny (model PySem.Challenge.rw_nt0105_01.row.prog w) A (.call (.ref 459) ⟨[.ref src, .ref pool, .ref wd], []⟩) R s := by
  have ho : ∀ q ∈ others, q ∈ news ∧ q.1 ∉ (led src so pg vs n wd wo fr fvs nf mk mvs nm ch cvs nc to).map (·.1) := fun q hq => ⟨hon q hq, hoff q hq⟩
  have H := pre_call (mn := led src so pg vs n wd wo fr fvs nf mk mvs nm ch cvs nc to) (s := s) B₀ hA hfr hck X T F N hs
  have hq := still_qt (mn := led src so pg vs n wd wo fr fvs nf mk mvs nm ch cvs nc to) F N hfr ho
  obtain ⟨S, IF, IP⟩ := hx _ fun q h => hq q (hfx q h)
  refine right_spec H hd hnd S IF IP (fun a o z => hq (a, o) (hst _ z)) W hsz fun so' h' tk hs' P2 => ?_
  obtain ⟨F2, N2, _⟩ := post_call (mn := led src so pg vs n wd wo fr fvs nf mk mvs nm ch cvs nc to) (others := others) F N hs P2 ho
  exact k so' h' tk ⟨hs', W.pages, W.wd, W.free, W.marks, W.chains, W.table, W.inv⟩ F2 N2
end
section
variable {w : World} {A A₀ : Around} {base g : Heap} {env : Env} {outer : List Env} {s : Shared} {L : Addr} {m : Str → Option Value} {news fx : List (Addr × Obj)} {E : Value → Shared → Prop} {Q : Value → Shared → Prop}
  {p : Program} {loose : List Str} {mean : ExcName → Option Value} {mg mb : Str → Option Value}
  {st pg fl pool : Addr} {vs : List Value} {n : Nat} {P : List (List UInt8)} {ps : Nat} {Fl : FLt}
theorem upd_here {h h' : Heap} {o o' : Obj} (F : Fr g L h m) (N : News g L h news) (hpg : (pg, o) ∈ news) (P : Post (hideAll h [pg]) h' [(pg, o')]) :
    Fr g L h' m ∧ ∀ others, (∀ q ∈ others, q ∈ news) → (∀ q ∈ others, q.1 ≠ pg) → News g L h' ((pg, o') :: others) := by
  have hs : ∀ q ∈ [(pg, o)], q ∈ news := fun q hq => by rw [List.mem_singleton.mp hq]; exact hpg
  refine ⟨(post_call (mn := [(pg, o)]) (others := []) F N hs P (fun _ h => nomatch h)).1, fun others h1 h2 => ?_⟩
  exact (post_call (mn := [(pg, o)]) (others := others) F N hs P fun q hq => ⟨h1 q hq, fun hm => h2 q hq (List.mem_singleton.mp hm)⟩).2.1
theorem stands_here {h : Heap} (N : News g L h news) (hx : Stands fx st pg fl pool ps) (hfx : ∀ q ∈ fx, q ∈ news) (hne : ∀ q ∈ fx, q.1 ≠ pg) : IsStore (hideAll h [pg]) st pg (ps : Int) ∧ IsFree (hideAll h [pg]) fl st ∧ IsPool (hideAll h [pg]) pool fl st :=
  hx _ fun q hq => hideAll_get _ (N q (hfx q hq)).1 fun hm => hne q hq (List.mem_singleton.mp hm)
theorem give_call {pn : Nat} {t : Tok} (B₀ : Below A₀ base outer g) (hA : A.frames = some (env :: outer)) (hfr : env.frame = some L) (hck : env.scope.kind = .function) (hd : Room A 5) (X : (K w.params).In g) (T : Top p loose mean mg mb g) (F : Fr g L s.heap m) (N : News g L s.heap news)
    (hpg : (pg, listOf vs.toArray n) ∈ news) (hx : Stands fx st pg fl pool ps) (hfx : ∀ q ∈ fx, q ∈ news) (hne : ∀ q ∈ fx, q.1 ≠ pg) (hP : BytesAre vs P) (D : Db P ps Fl) (h2 : 2 ≤ pn) (hpl : pn ≤ P.length) (hnf : pn ∉ flPages Fl)
    (k : ∀ vs' P' F' h' tk, BytesAre vs' P' → GiveR P ps Fl P' F' pn → Fr g L h' m → (∀ others, (∀ q ∈ others, q ∈ news) → (∀ q ∈ others, q.1 ≠ pg) → News g L h' ((pg, listOf vs'.toArray n) :: others)) → Q .none { s with heap := h', toks := tk }) :
    wpAny (model PySem.Challenge.rw_nt0105_01.row.prog w) A (call (.ref 138) [.ref fl, .int (pn : Int) t]) Q E s := by
  obtain ⟨S, IF, _⟩ := stands_here N hx hfx hne
  refine wpAny_call (give_spec (pre_call1 B₀ hA hfr hck X T F N hpg) hd IF S hP D h2 hpl hnf fun vs' P' F' h' tk hB hG P2 => ?_)
  obtain ⟨F2, N2⟩ := upd_here F N hpg P2
  exact k vs' P' F' h' tk hB hG F2 N2
theorem free_call {pgs : List Nat} {o : List UInt8} {sz : Int} {t1 t2 : Tok} (B₀ : Below A₀ base outer g) (hA : A.frames = some (env :: outer)) (hfr : env.frame = some L) (hck : env.scope.kind = .function) (hd : Room A 6) (X : (K w.params).In g) (T : Top p loose mean mg mb g) (F : Fr g L s.heap m) (N : News g L s.heap news)
    (hpg : (pg, listOf vs.toArray n) ∈ news) (hx : Stands fx st pg fl pool ps) (hfx : ∀ q ∈ fx, q ∈ news) (hne : ∀ q ∈ fx, q.1 ≠ pg) (hP : BytesAre vs P) (D : Db P ps Fl) (C : Chain P ps pgs o) (hnd : (pgs ++ flPages Fl).Nodup) (hsz : sz = (o.length : Int)) (hol : o.length < 100000)
    (k : ∀ vs' P' F' t h' tk, BytesAre vs' P' → GivesR P ps Fl pgs P' F' → Fr g L h' m → (∀ others, (∀ q ∈ others, q ∈ news) → (∀ q ∈ others, q.1 ≠ pg) → News g L h' ((pg, listOf vs'.toArray n) :: others)) → Q (.int (pgs.length : Nat) t) { s with heap := h', toks := tk }) :
    wpAny (model PySem.Challenge.rw_nt0105_01.row.prog w) A (call (.ref 220) [.ref pool, .int (hd0 pgs : Nat) t1, .int sz t2]) Q E s := by
  obtain ⟨S, IF, IP⟩ := stands_here N hx hfx hne
  refine wpAny_call (free_chain_spec (pre_call1 B₀ hA hfr hck X T F N hpg) hd IP IF S hP D C hnd hsz hol fun vs' P' F' t h' tk hB hG P2 => ?_)
  obtain ⟨F2, N2⟩ := upd_here F N hpg P2
  exact k vs' P' F' t h' tk hB hG F2 N2
theorem pages_call (B₀ : Below A₀ base outer g) (hA : A.frames = some (env :: outer)) (hfr : env.frame = some L) (hck : env.scope.kind = .function) (hd : Room A 5) (X : (K w.params).In g) (T : Top p loose mean mg mb g) (F : Fr g L s.heap m) (N : News g L s.heap news)
    (hpg : (pg, listOf vs.toArray n) ∈ news) (hx : Stands fx st pg fl pool ps) (hfx : ∀ q ∈ fx, q ∈ news) (hP : BytesAre vs P) (D : Db P ps Fl)
    (k : ∀ f fvs nf h' tk, IntsAre fvs (nInts (flPages Fl)) → Fr g L h' m → News g L h' ((f, listOf fvs.toArray nf) :: news) → (∀ q ∈ news, @Ne Nat f q.1) → Q (.ref f) { s with heap := h', toks := tk }) :
    wpAny (model PySem.Challenge.rw_nt0105_01.row.prog w) A (call (.ref 145) [.ref fl]) Q E s := by
  obtain ⟨S, IF, _⟩ := hx s.heap fun q hq => (N q (hfx q hq)).1
  refine wpAny_call (pages_spec (pre_pure B₀ hA hfr hck X T F N) hd IF S (N _ hpg).1 hP D fun f fvs nf h' tk hI P2 => ?_)
  obtain ⟨F2, N2, D2⟩ := post_pure F N P2
  exact k f fvs nf h' tk hI F2 N2 (D2 _ (.head _))
theorem page_count_call (B₀ : Below A₀ base outer g) (hA : A.frames = some (env :: outer)) (hfr : env.frame = some L) (hck : env.scope.kind = .function) (hd : Room A 0) (X : (K w.params).In g) (T : Top p loose mean mg mb g) (F : Fr g L s.heap m) (N : News g L s.heap news)
    (hpg : (pg, listOf vs.toArray n) ∈ news) (hx : Stands fx st pg fl pool ps) (hfx : ∀ q ∈ fx, q ∈ news) (hn : vs.length < 1000)
    (k : ∀ t h' tk, Fr g L h' m → News g L h' news → Q (.int (vs.length : Nat) t) { s with heap := h', toks := tk }) :
    wpAny (model PySem.Challenge.rw_nt0105_01.row.prog w) A (call (.ref 306) [.ref st]) Q E s := by
  obtain ⟨S, _, _⟩ := hx s.heap fun q hq => (N q (hfx q hq)).1
  refine wpAny_call (page_count_spec (pre_pure B₀ hA hfr hck X T F N) hd S (N _ hpg).1 hn fun t h' tk P2 => ?_)
  obtain ⟨F2, N2⟩ := post_pure0 F N P2
  exact k t h' tk F2 N2
end

section
variable {w : World} {A A₀ : Around} {base g : Heap} {outer : List Env} {s : Shared} {news : List (Addr × Obj)}
  {p : Program} {loose : List Str} {mean : ExcName → Option Value} {mg mb : Str → Option Value} {Q : Value → Shared → Prop} {E : Value → Shared → Prop}
theorem make_G2 {C fI : Addr} {rest : List Value} {env : Env} {L : Addr} {m : Str → Option Value} {k : Nat} (B₀ : Below A₀ base outer g) (hA : A.frames = some (env :: outer)) (hfr : env.frame = some L) (hck : env.scope.kind = .function)
    (X : (K w.params).In g) (T : Top p loose mean mg mb g) (F : Fr g L s.heap m) (N : News g L s.heap news)
    (hm : makesIn (K w.params) C = true) (hi : findIn (K w.params) (.ref C) "__init__" = some (some (.ref fI))) (hf : isFn (K w.params) (.ref fI) = true) (hr : Room A (k + 1)) (OD : Obj → List (Addr × Obj) → Prop)
    (init : ∀ (A' : Around) (g' : Heap) (s' : Shared) (x dx : Addr) (R : Result → Shared → Prop), Pre p loose mean mg mb w A' base (env :: outer) g' s' [(x, instObj C dx), (dx, emptyDict)] → Room A' k → @LT.lt Nat _ dx x →
      (∀ od ex h' tk, OD od ex → Post g' h' ((x, instObj C dx) :: (dx, od) :: ex) → R (.ok (.ret .none)) { s' with heap := h', toks := tk }) →
      codeAny (model PySem.Challenge.rw_nt0105_01.row.prog w) A' (.call (.ref fI) ⟨.ref x :: rest, []⟩) R s')
    (h : ∀ x dx od ex h' tk, OD od ex → Fr g L h' m → News g L h' (((x, instObj C dx) :: (dx, od) :: ex) ++ news) → (((x, instObj C dx) :: (dx, od) :: ex).map (·.1)).Nodup → (∀ q ∈ ((x, instObj C dx) :: (dx, od) :: ex), ∀ r ∈ news, q.1 ≠ r.1) → Q (.ref x) { s with heap := h', toks := tk }) :
    wpAny (model PySem.Challenge.rw_nt0105_01.row.prog w) A (call (.ref C) rest) Q E s := by
  refine call_cls F X N hm hi hf fun x dx h' F' N' lt1 lt2 => ?_
  have P := pre_call (A := A.under (.builtin "type.__call__" ⟨.ref C :: rest, []⟩)) (s := { s with heap := h' }) B₀ (frames_make.trans hA) hfr hck X T F' N' (mn := [(x, instObj C dx), (dx, emptyDict)])
    (fun q hq => by
      rcases List.mem_cons.mp hq with rfl | hq
      · exact .head _
      · rw [List.mem_singleton.mp hq]; exact .tail _ (.head _))
  refine init _ _ _ x dx _ P (hr.make (Nat.lt_succ_self _)) lt2 fun od ex h'' tk ho P' => ⟨rfl, ?_⟩
  obtain ⟨F'', N'', D''⟩ := post_call F' N' (others := news) (fun q hq => by
      rcases List.mem_cons.mp hq with rfl | hq
      · exact .head _
      · rw [List.mem_singleton.mp hq]; exact .tail _ (.head _)) P' (fun q hq => ⟨.tail _ (.tail _ hq), fun hm => by
        have l := lt1 q hq
        rcases List.mem_cons.mp hm with e | hm
        · have e' : q.1 = x := e
          rw [e'] at l
          exact absurd l (Nat.not_lt.mpr (Nat.le_of_lt lt2))
        · rw [List.mem_singleton.mp hm] at l; exact Nat.lt_irrefl _ l⟩)
  exact h x dx od ex h'' tk ho F'' N'' P'.nd D''
end
section
variable {w : World} {A : Around} {base g : Heap} {outer : List Env} {s : Shared} {mn : List (Addr × Obj)}
  {p : Program} {loose : List Str} {mean : ExcName → Option Value} {mg mb : Str → Option Value} {R : Result → Shared → Prop}
theorem store_init {x dx : Addr} {c : Int} {t : Tok} (H : Pre p loose mean mg mb w A base outer g s [(x, instObj 386 dx), (dx, emptyDict)]) (hd : Room A 0) (hxd : @LT.lt Nat _ dx x)
  (k : ∀ a1 a2 a3 k1 k2 k3 n pg sp h' tk, Post g h' [(x, instObj 386 dx), (dx, dictOf [⟨a1, .str (Str.ofString "page_size") k1, .int c t⟩, ⟨a2, .str (Str.ofString "pages") k2, .ref pg⟩, ⟨a3, .str (Str.ofString "spare") k3, .ref sp⟩] n), (pg, listOf (List.toArray []) 0), (sp, listOf (List.toArray []) 0)] → R (.ok (.ret .none)) { s with heap := h', toks := tk }) :
  codeAny (model PySem.Challenge.rw_nt0105_01.row.prog w) A (.call (.ref 299) ⟨[.ref x, .int c t], []⟩) R s := by
  k_extra "my enter"
  k_extra "my steps"
  exact k _ _ _ _ _ _ _ _ _ _ _ (by k_extra "my post")
theorem free_init {x dx : Addr} {st : Addr} (H : Pre p loose mean mg mb w A base outer g s [(x, instObj 155 dx), (dx, emptyDict)]) (hd : Room A 0) (hxd : @LT.lt Nat _ dx x)
  (k : ∀ a1 k1 n h' tk, Post g h' [(x, instObj 155 dx), (dx, dictOf [⟨a1, .str (Str.ofString "pager") k1, .ref st⟩] n)] → R (.ok (.ret .none)) { s with heap := h', toks := tk }) :
  codeAny (model PySem.Challenge.rw_nt0105_01.row.prog w) A (.call (.ref 100) ⟨[.ref x, .ref st], []⟩) R s := by
  k_extra "my enter"
  k_extra "my steps"
  exact k _ _ _ _ _ (by k_extra "my post")
end
section
variable {w : World} {A A₀ : Around} {base g : Heap} {outer : List Env} {env : Env} {s : Shared} {L : Addr} {m : Str → Option Value} {news : List (Addr × Obj)}
  {p : Program} {loose : List Str} {mean : ExcName → Option Value} {mg mb : Str → Option Value} {Q : Value → Shared → Prop} {E : Value → Shared → Prop}
theorem make_free {st : Addr} (B₀ : Below A₀ base outer g) (hA : A.frames = some (env :: outer)) (hfr : env.frame = some L) (hck : env.scope.kind = .function)
    (X : (K w.params).In g) (T : Top p loose mean mg mb g) (F : Fr g L s.heap m) (N : News g L s.heap news) (hr : Room A 1)
    (h : ∀ x dx a1 k1 n h' tk, Fr g L h' m → News g L h' ((x, instObj 155 dx) :: (dx, dictOf [⟨a1, .str (Str.ofString "pager") k1, .ref st⟩] n) :: news) → Ap x dx → ApAll x news → ApAll dx news → Q (.ref x) { s with heap := h', toks := tk }) :
    wpAny (model PySem.Challenge.rw_nt0105_01.row.prog w) A (call (.ref 155) [.ref st]) Q E s := by
  refine make_G2 (k := 0) B₀ hA hfr hck X T F N (by k_is) (by k_is) (by k_is) hr (fun od ex => ∃ a1 k1 n, ex = [] ∧ od = dictOf [⟨a1, .str (Str.ofString "pager") k1, .ref st⟩] n) ?_ ?_
  · intro A' g' s' x dx R' P' hr' hxd k'
    exact free_init P' hr' hxd fun a1 k1 n h' tk P'' => k' _ _ _ _ ⟨_, _, _, rfl, rfl⟩ P''
  · rintro x dx od ex h' tk ⟨a1, k1, n, rfl, rfl⟩ F' N' nd ne
    have ne' := apAll2_of ne
    have nd' := apNd_of nd
    exact h x dx a1 k1 n h' tk F' N' nd'.1.1 ne'.1 ne'.2.1
theorem make_store {c : Int} {t : Tok} (B₀ : Below A₀ base outer g) (hA : A.frames = some (env :: outer)) (hfr : env.frame = some L) (hck : env.scope.kind = .function)
    (X : (K w.params).In g) (T : Top p loose mean mg mb g) (F : Fr g L s.heap m) (N : News g L s.heap news) (hr : Room A 1)
    (h : ∀ x dx a1 a2 a3 k1 k2 k3 n pg sp h' tk, Fr g L h' m → News g L h' ((x, instObj 386 dx) :: (dx, dictOf [⟨a1, .str (Str.ofString "page_size") k1, .int c t⟩, ⟨a2, .str (Str.ofString "pages") k2, .ref pg⟩, ⟨a3, .str (Str.ofString "spare") k3, .ref sp⟩] n) :: (pg, listOf (List.toArray []) 0) :: (sp, listOf (List.toArray []) 0) :: news) →
      (Ap x dx ∧ Ap x pg ∧ Ap x sp) ∧ (Ap dx pg ∧ Ap dx sp) ∧ Ap pg sp → ApAll x news → ApAll dx news → ApAll pg news → ApAll sp news → Q (.ref x) { s with heap := h', toks := tk }) :
    wpAny (model PySem.Challenge.rw_nt0105_01.row.prog w) A (call (.ref 386) [.int c t]) Q E s := by
  refine make_G2 (k := 0) B₀ hA hfr hck X T F N (by k_is) (by k_is) (by k_is) hr (fun od ex => ∃ a1 a2 a3 k1 k2 k3 n pg sp, ex = [(pg, listOf (List.toArray []) 0), (sp, listOf (List.toArray []) 0)] ∧ od = dictOf [⟨a1, .str (Str.ofString "page_size") k1, .int c t⟩, ⟨a2, .str (Str.ofString "pages") k2, .ref pg⟩, ⟨a3, .str (Str.ofString "spare") k3, .ref sp⟩] n) ?_ ?_
  · intro A' g' s' x dx R' P' hr' hxd k'
    exact store_init P' hr' hxd fun a1 a2 a3 k1 k2 k3 n pg sp h' tk P'' => k' _ _ _ _ ⟨_, _, _, _, _, _, _, _, _, rfl, rfl⟩ P''
  · rintro x dx od ex h' tk ⟨a1, a2, a3, k1, k2, k3, n, pg, sp, rfl, rfl⟩ F' N' nd ne
    have ne' := apAll2_of ne
    have nd' := apNd_of nd
    simp only [ApNd, ApAll, and_true] at nd'
    exact h x dx a1 a2 a3 k1 k2 k3 n pg sp h' tk F' N' nd' ne'.1 ne'.2.1 ne'.2.2.1 ne'.2.2.2.1
end
-- LINES
theorem words_55_53 : True := by
  k_with "z call ref" => ((with_reducible show wpAny _ _ (call (Value.ref 155) [_]) _ _ _); k_dflt (refine' make_free ?zB ?zhA ?zhfr ?zhck ?zX ?zT ?zF ?zN ?zhr ?_; (case zB => assumption); (case zhA => exact Around.frames_deeper (Below.stack (by assumption))); (case zhfr => rfl); (case zhck => rfl); (case zX => assumption); (case zT => assumption); (case zF => k_asm); (case zN => k_asm); (case zhr => k_extra "my depth")); intro x' dx' a1' k1' n' h' tk' F' N' ap0' ap1' ap2'; (simp only [ApAll, and_true] at ap1' ap2'); k_extra "my aps"; (try k_sweep))
  k_with "z call ref" => ((with_reducible show wpAny _ _ (call (Value.ref 386) [_]) _ _ _); k_dflt (refine' make_store ?zB ?zhA ?zhfr ?zhck ?zX ?zT ?zF ?zN ?zhr ?_; (case zB => assumption); (case zhA => exact Around.frames_deeper (Below.stack (by assumption))); (case zhfr => rfl); (case zhck => rfl); (case zX => assumption); (case zT => assumption); (case zF => k_asm); (case zN => k_asm); (case zhr => k_extra "my depth")); intro st std sa1 sa2 sa3 sk1 sk2 sk3 sn pg sp h' tk' F' N' ap0' ap1' ap2' ap3' ap4'; (simp only [ApAll, and_true] at ap1' ap2' ap3' ap4'); (obtain ⟨⟨_, _, _⟩, ⟨_, _⟩, _⟩ := ap0'); k_extra "my aps"; (try k_sweep))
  trivial
-- END LINES
section
variable {w : World} {A : Around} {base g : Heap} {outer : List Env} {s : Shared} {mn : List (Addr × Obj)}
  {p : Program} {loose : List Str} {mean : ExcName → Option Value} {mg mb : Str → Option Value} {R : Result → Shared → Prop}
theorem pool_init {x dx : Addr} {st : Addr} (H : Pre p loose mean mg mb w A base outer g s [(x, instObj 176 dx), (dx, emptyDict)]) (hd : Room A 2) (hxd : @LT.lt Nat _ dx x)
  (k : ∀ a1 a2 k1 k2 n fl fd c1 c2 c3 h' tk, Post g h' [(x, instObj 176 dx), (dx, dictOf [⟨a1, .str (Str.ofString "pager") k1, .ref st⟩, ⟨a2, .str (Str.ofString "free") k2, .ref fl⟩] n), (fl, instObj 155 fd), (fd, dictOf [⟨c1, .str (Str.ofString "pager") c2, .ref st⟩] c3)] → R (.ok (.ret .none)) { s with heap := h', toks := tk }) :
  codeAny (model PySem.Challenge.rw_nt0105_01.row.prog w) A (.call (.ref 173) ⟨[.ref x, .ref st], []⟩) R s := by
  k_extra "my enter"
  k_extra "my steps"
  exact k _ _ _ _ _ _ _ _ _ _ _ _ (by k_extra "my post")
end
section
variable {w : World} {A A₀ : Around} {base g : Heap} {outer : List Env} {env : Env} {s : Shared} {L : Addr} {m : Str → Option Value} {news : List (Addr × Obj)}
  {p : Program} {loose : List Str} {mean : ExcName → Option Value} {mg mb : Str → Option Value} {Q : Value → Shared → Prop} {E : Value → Shared → Prop}
theorem make_pool {st : Addr} (B₀ : Below A₀ base outer g) (hA : A.frames = some (env :: outer)) (hfr : env.frame = some L) (hck : env.scope.kind = .function)
    (X : (K w.params).In g) (T : Top p loose mean mg mb g) (F : Fr g L s.heap m) (N : News g L s.heap news) (hr : Room A 3)
    (h : ∀ x dx a1 a2 k1 k2 n fl fd c1 c2 c3 h' tk, Fr g L h' m → News g L h' ((x, instObj 176 dx) :: (dx, dictOf [⟨a1, .str (Str.ofString "pager") k1, .ref st⟩, ⟨a2, .str (Str.ofString "free") k2, .ref fl⟩] n) :: (fl, instObj 155 fd) :: (fd, dictOf [⟨c1, .str (Str.ofString "pager") c2, .ref st⟩] c3) :: news) →
      (Ap x dx ∧ Ap x fl ∧ Ap x fd) ∧ (Ap dx fl ∧ Ap dx fd) ∧ Ap fl fd → ApAll x news → ApAll dx news → ApAll fl news → ApAll fd news → Q (.ref x) { s with heap := h', toks := tk }) :
    wpAny (model PySem.Challenge.rw_nt0105_01.row.prog w) A (call (.ref 176) [.ref st]) Q E s := by
  refine make_G2 (k := 2) B₀ hA hfr hck X T F N (by k_is) (by k_is) (by k_is) hr (fun od ex => ∃ a1 a2 k1 k2 n fl fd c1 c2 c3, ex = [(fl, instObj 155 fd), (fd, dictOf [⟨c1, .str (Str.ofString "pager") c2, .ref st⟩] c3)] ∧ od = dictOf [⟨a1, .str (Str.ofString "pager") k1, .ref st⟩, ⟨a2, .str (Str.ofString "free") k2, .ref fl⟩] n) ?_ ?_
  · intro A' g' s' x dx R' P' hr' hxd k'
    exact pool_init P' hr' hxd fun a1 a2 k1 k2 n fl fd c1 c2 c3 h' tk P'' => k' _ _ _ _ ⟨_, _, _, _, _, _, _, _, _, _, rfl, rfl⟩ P''
  · rintro x dx od ex h' tk ⟨a1, a2, k1, k2, n, fl, fd, c1, c2, c3, rfl, rfl⟩ F' N' nd ne
    have ne' := apAll2_of ne
    have nd' := apNd_of nd
    simp only [ApNd, ApAll, and_true] at nd'
    exact h x dx a1 a2 k1 k2 n fl fd c1 c2 c3 h' tk F' N' nd' ne'.1 ne'.2.1 ne'.2.2.1 ne'.2.2.2.1
end
-- LINES
theorem words_55_54 : True := by
  k_with "z call ref" => ((with_reducible show wpAny _ _ (call (Value.ref 176) [_]) _ _ _); k_dflt (refine' make_pool ?zB ?zhA ?zhfr ?zhck ?zX ?zT ?zF ?zN ?zhr ?_; (case zB => assumption); (case zhA => exact Around.frames_deeper (Below.stack (by assumption))); (case zhfr => rfl); (case zhck => rfl); (case zX => assumption); (case zT => assumption); (case zF => k_asm); (case zN => k_asm); (case zhr => k_extra "my depth")); intro pool pd a1 a2 k1 k2 pn fl fd c1 c2 c3 h' tk' F' N' ap0' ap1' ap2' ap3' ap4'; (simp only [ApAll, and_true] at ap1' ap2' ap3' ap4'); (obtain ⟨⟨_, _, _⟩, ⟨_, _⟩, _⟩ := ap0'); k_extra "my aps"; (try k_sweep))
  trivial
-- END LINES

section
variable {w : World} {A A₀ : Around} {base g : Heap} {env : Env} {outer : List Env} {s : Shared} {L : Addr} {m : Str → Option Value} {news : List (Addr × Obj)} {E : Value → Shared → Prop} {Q : Value → Shared → Prop}
  {p : Program} {loose : List Str} {mean : ExcName → Option Value} {mg mb : Str → Option Value}
  {st pg std sp x dx : Addr} {n n' : Nat} {ps : Nat} {a1 a2 a3 a4 a5 a6 a7 a8 : Int} {k1 k2 k3 k4 k5 k6 k7 k8 t1 t2 t3 t4 t5 t6 t7 t8 t : Tok}
theorem head0_call (B₀ : Below A₀ base outer g) (hA : A.frames = some (env :: outer)) (hfr : env.frame = some L) (hck : env.scope.kind = .function) (hd : Room A 3) (X : (K w.params).In g) (T : Top p loose mean mg mb g) (F : Fr g L s.heap m) (N : News g L s.heap news)
    (h1 : (st, instObj 386 std) ∈ news) (h2 : (std, dictOf [⟨a1, .str (Str.ofString "page_size") k1, .int (ps : Nat) t⟩, ⟨a2, .str (Str.ofString "pages") k2, .ref pg⟩, ⟨a3, .str (Str.ofString "spare") k3, .ref sp⟩] n') ∈ news) (hpg : (pg, listOf (List.toArray []) n) ∈ news)
    (k : ∀ x dx a1 a2 a3 a4 a5 a6 a7 a8 k1 k2 k3 k4 k5 k6 k7 k8 t1 t2 t3 t4 t5 t6 t7 t8 h' tk, Fr g L h' m → News g L h' ((x, instObj 281 dx) :: (dx, hdrD a1 a2 a3 a4 a5 a6 a7 a8 k1 k2 k3 k4 k5 k6 k7 k8 t1 t2 t3 t4 t5 t6 t7 t8 (ps : Nat) (0 : Nat) (0 : Nat) (0 : Nat) (0 : Nat) (0 : Nat) (0 : Nat) (0 : Nat)) :: news) →
      Ap x dx → ApAll x news → ApAll dx news → Q (.ref x) { s with heap := h', toks := tk }) :
    wpAny (model PySem.Challenge.rw_nt0105_01.row.prog w) A (call (.ref 376) [.ref st]) Q E s := by
  refine wpAny_call (read_header0_spec (pre_pure B₀ hA hfr hck X T F N) hd ⟨std, sp, a1, a2, a3, k1, k2, k3, t, n', (N _ h1).1, (N _ h2).1⟩ (N _ hpg).1 fun x dx a1 a2 a3 a4 a5 a6 a7 a8 k1 k2 k3 k4 k5 k6 k7 k8 t1 t2 t3 t4 t5 t6 t7 t8 h' tk P2 => ?_)
  obtain ⟨F2, N2, D2⟩ := post_pure F N P2
  have ne' := apAll2_of D2
  have nd' := apNd_of P2.nd
  exact k x dx a1 a2 a3 a4 a5 a6 a7 a8 k1 k2 k3 k4 k5 k6 k7 k8 t1 t2 t3 t4 t5 t6 t7 t8 h' tk F2 N2 nd'.1.1 ne'.1 ne'.2.1
theorem head0w_call {b1 b2 b3 : Int} {l1 l2 l3 : Tok} (B₀ : Below A₀ base outer g) (hA : A.frames = some (env :: outer)) (hfr : env.frame = some L) (hck : env.scope.kind = .function) (hd : Room A 3) (X : (K w.params).In g) (T : Top p loose mean mg mb g) (F : Fr g L s.heap m) (N : News g L s.heap news)
    (h1 : (st, instObj 386 std) ∈ news) (h2 : (std, dictOf [⟨b1, .str (Str.ofString "page_size") l1, .int (ps : Nat) t⟩, ⟨b2, .str (Str.ofString "pages") l2, .ref pg⟩, ⟨b3, .str (Str.ofString "spare") l3, .ref sp⟩] n') ∈ news) (hpg : (pg, listOf (List.toArray []) n) ∈ news)
    (hx : (x, instObj 281 dx) ∈ news) (hdx : (dx, hdrD a1 a2 a3 a4 a5 a6 a7 a8 k1 k2 k3 k4 k5 k6 k7 k8 t1 t2 t3 t4 t5 t6 t7 t8 (ps : Nat) (0 : Nat) (0 : Nat) (0 : Nat) (0 : Nat) (0 : Nat) (0 : Nat) (0 : Nat)) ∈ news)
    (hne : (@Ne Nat st pg ∧ @Ne Nat st dx) ∧ (@Ne Nat std pg ∧ @Ne Nat std dx) ∧ (@Ne Nat x pg ∧ @Ne Nat x dx) ∧ @Ne Nat pg dx) (hps : ps = 64 ∨ ps = 128)
    (k : ∀ vs' h' tk, BytesAre vs' [hdrL ps 1 0 0 ++ List.replicate (ps - 32) 0] → Fr g L h' m → (∀ others, (∀ q ∈ others, q ∈ news) → (∀ q ∈ others, q.1 ≠ pg ∧ q.1 ≠ dx) → News g L h' ((pg, listOf vs'.toArray (n + 1)) :: others)) → Q .none { s with heap := h', toks := tk }) :
    wpAny (model PySem.Challenge.rw_nt0105_01.row.prog w) A (call (.ref 383) [.ref st, .ref x]) Q E s := by
  obtain ⟨⟨e1, e2⟩, ⟨e3, e4⟩, ⟨e5, e6⟩, e7⟩ := hne
  have hs : ∀ q ∈ [(pg, listOf (List.toArray []) n), (dx, hdrD a1 a2 a3 a4 a5 a6 a7 a8 k1 k2 k3 k4 k5 k6 k7 k8 t1 t2 t3 t4 t5 t6 t7 t8 (ps : Nat) (0 : Nat) (0 : Nat) (0 : Nat) (0 : Nat) (0 : Nat) (0 : Nat) (0 : Nat))], q ∈ news := sub_cons hpg (sub_cons hdx sub_nil)
  have P := pre_call (s := s) B₀ hA hfr hck X T F N hs
  refine wpAny_call (write_header0_spec P e7 ?_ hd ⟨std, sp, b1, b2, b3, l1, l2, l3, t, n', ?_, ?_⟩ (by omega) (by omega) fun vs' h' tk hB P2 => ?_)
  · exact hideAll_get _ (N _ hx).1 (notin_cons e5 (notin_cons e6 notin_nil))
  · exact hideAll_get _ (N _ h1).1 (notin_cons e1 (notin_cons e2 notin_nil))
  · exact hideAll_get _ (N _ h2).1 (notin_cons e3 (notin_cons e4 notin_nil))
  · refine k vs' h' tk hB (post_call (others := []) F N hs P2 (fun _ h => nomatch h)).1 fun others o1 o2 => ?_
    exact (post_call (others := others) F N hs P2 fun q hq => ⟨o1 q hq, notin_cons (o2 q hq).1 (notin_cons (o2 q hq).2 notin_nil)⟩).2.1
end
section
variable {prog : Program} {w : World} {A : Around} {E : Value → Shared → Prop} {s : Shared} {value slice : PySem.Expr} {l : Addr} {vs : List Value} {k : Int} {u : Tok} {Q : Value → Shared → Prop}
noncomputable def MenuP : Prop := True
theorem my_menuP (_hb : MenuP) (hl : s.heap.IsList l vs.toArray) (h0 : 0 ≤ k) (hk : k < (vs.length : Nat)) (hz : vs.length < 1000) (ha : ∀ v ∈ vs, ∃ (i : Nat) (t : Tok), v = .int (i : Nat) t ∧ (i = 64 ∨ i = 128)) (h : ∀ (i : Nat) (t : Tok), (i = 64 ∨ i = 128) → Q (.int (i : Nat) t) s)
    (hs : subscripted slice false (.ref l) (.int k u) = operate [.ref l, .int k u] (getItem (.ref l) (.int k u)) := by with_unfolding_all rfl) :
    wpAny (model prog w) A (subscriptTail value slice (.ref l) (.int k u)) Q E s := by
  have hk' : k.toNat < vs.length := by omega
  obtain ⟨i, t, e, h1⟩ := ha _ (List.getElem_mem hk')
  exact tail_any hl.typeIs slot_list_getitem.lookup (wpAny_getItem_list hl h0 (by omega) (x := vs[k.toNat]) (by simp [hk']) (by rw [e]; exact h i t h1)) hs
end
noncomputable abbrev fxl (st std sp pool pd fl fd dl pg : Addr) (ps : Nat) (sa1 sa2 sa3 a1 a2 c1 : Int) (sk1 sk2 sk3 t k1 k2 c2 : Tok) (sn n c3 : Nat) : List (Addr × Obj) :=
  [(st, instObj 386 std), (std, dictOf [⟨sa1, .str (Str.ofString "page_size") sk1, .int (ps : Nat) t⟩, ⟨sa2, .str (Str.ofString "pages") sk2, .ref pg⟩, ⟨sa3, .str (Str.ofString "spare") sk3, .ref sp⟩] sn), (sp, listOf (List.toArray []) 0), (pool, instObj 176 pd), (pd, dictOf [⟨a1, .str (Str.ofString "pager") k1, .ref st⟩, ⟨a2, .str (Str.ofString "free") k2, .ref fl⟩] n), (fl, instObj 155 fd), (fd, dictOf [⟨c1, .str (Str.ofString "pager") c2, .ref st⟩] c3),
    (dl, listOf (List.toArray [.ref 426, .ref 426, .ref 433, .ref 440, .ref 440, .ref 447, .ref 454]) 0)]
noncomputable abbrev lawM0 (l dl pool wd st src : Addr) : Str → Option Value := fun y => if y = Str.ofString "deeds" then some (.ref dl) else if y = Str.ofString "pool" then some (.ref pool) else if y = Str.ofString "world" then some (.ref wd) else if y = Str.ofString "store" then some (.ref st) else if y = Str.ofString "source" then some (.ref src) else List.lookup y (List.zipWith Prod.mk [Str.ofString "script"] ([Value.ref l] ++ [])).reverse
noncomputable abbrev lawM (l dl pool wd st src : Addr) (mi : Nat) (t : Tok) : Str → Option Value := fun y => if y = Str.ofString "many" then some (.int (mi : Nat) t) else lawM0 l dl pool wd st src y
inductive ManyQ (g : Heap) (L : Addr) (s : Shared) (src : Addr) (m : Nat → Tok → Str → Option Value) (rest : List (Addr × Obj)) (f : Flow) (s2 : Shared) : Prop
  | mk : ∀ (mi : Nat) (so2 : Obj) (t2 : Tok) (h2 : Heap) (tk2 : Nat), f = .next → s2 = { s with heap := h2, toks := tk2 } → mi ≤ 28 → SrcOk so2 → Fr g L h2 (m mi t2) → News g L h2 ((src, so2) :: rest) → ManyQ g L s src m rest f s2
theorem ManyQ.intro {g : Heap} {L : Addr} {s : Shared} {src : Addr} {m : Nat → Tok → Str → Option Value} {rest : List (Addr × Obj)} {mi : Nat} {so2 : Obj} {t2 : Tok} {h2 : Heap} {tk2 : Nat} (h1 : mi ≤ 28) (h3 : SrcOk so2) (F : Fr g L h2 (m mi t2)) (N : News g L h2 ((src, so2) :: rest)) : ManyQ g L s src m rest .next { s with heap := h2, toks := tk2 } :=
  ⟨mi, so2, t2, h2, tk2, rfl, rfl, h1, h3, F, N⟩
section
variable {w : World} {A : Around} {E : Value → Shared → Prop} {s : Shared} {value slice : PySem.Expr} {l : Addr} {vs : List Value} {r : Nat} {u : Tok} {Q : Value → Shared → Prop}
noncomputable def IsDeed (w : World) (v : Value) : Prop := ∃ f, v = .ref f ∧ Deed w f ∧ keepIn (K w.params) (.ref f) = true
theorem my_deed (hl : s.heap.IsList l vs.toArray) (hk : ((r : Nat) : Int) < (vs.length : Nat)) (hz : vs.length < 1000) (ha : ∀ v ∈ vs, IsDeed w v) (h : ∀ f, Deed w f → keepIn (K w.params) (.ref f) = true → Q (.ref f) s)
    (hs : subscripted slice false (.ref l) (.int (r : Nat) u) = operate [.ref l, .int (r : Nat) u] (getItem (.ref l) (.int (r : Nat) u)) := by with_unfolding_all rfl) (hg : ∀ x, letTemporaryGo value (.ref l) x = pure () := by intro _; with_unfolding_all rfl) :
    wpAny (model PySem.Challenge.rw_nt0105_01.row.prog w) A (subscriptTail value slice (.ref l) (.int (r : Nat) u)) Q E s := by
  have hk' : r < vs.length := by omega
  obtain ⟨f, e, h1, h2⟩ := ha _ (List.getElem_mem hk')
  exact item_listL hl (by omega) (by omega) (x := .ref f) (by rw [Int.toNat_natCast, List.getElem?_eq_getElem hk', e]) (h f h1 h2) hs hg
theorem deeds_ok (w : World) : ∀ v ∈ [Value.ref 426, .ref 426, .ref 433, .ref 440, .ref 440, .ref 447, .ref 454], IsDeed w v := by
  simp only [List.forall_mem_cons]
  exact ⟨⟨_, rfl, taken_deed, by kernel_rfl⟩, ⟨_, rfl, taken_deed, by kernel_rfl⟩, ⟨_, rfl, given_deed, by kernel_rfl⟩, ⟨_, rfl, written_deed, by kernel_rfl⟩, ⟨_, rfl, written_deed, by kernel_rfl⟩, ⟨_, rfl, freed_deed, by kernel_rfl⟩, ⟨_, rfl, refused_deed, by kernel_rfl⟩, List.forall_mem_nil _⟩
end
inductive LawJ (w : World) (src pg wd mk ch : Addr) (ps : Nat) (fx : List (Addr × Obj)) (i : Nat) (ps2 : List (Str × Value)) (led2 : List (Addr × Obj)) : Prop
  | mk : ∀ so vs n wo fr fvs nf mvs nm cvs nc to P Fl frl mkl chl still, ps2 = [] → led2 = led src so pg vs n wd wo fr fvs nf mk mvs nm ch cvs nc to ++ (fx ++ still) → WOk w (fun a o => (a, o) ∈ still) ps so vs wo fr fvs mk mvs ch cvs to P Fl frl mkl chl →
    ApNd (led src so pg vs n wd wo fr fvs nf mk mvs nm ch cvs nc to) → Off (fx ++ still) ((led src so pg vs n wd wo fr fvs nf mk mvs nm ch cvs nc to).map (·.1)) → P.length ≤ 1 + 4 * i → LawJ w src pg wd mk ch ps fx i ps2 led2
inductive MarkJ (psz : Nat) (pg : Addr) (n : Nat) (R : List (Addr × Obj)) (P : List (List UInt8)) (frl : List Nat) (mkl : List (Nat × List UInt8)) (chl : List (List UInt8 × List Nat)) (i : Nat) (ps2 : List (Str × Value)) (led2 : List (Addr × Obj)) : Prop
  | mk : ∀ (vs2 : List Value) (P2 : List (List UInt8)) (Fl2 : FLt), ps2 = [] → led2 = (pg, listOf vs2.toArray n) :: R → BytesAre vs2 P2 → P2.length = P.length → WInv psz P2 Fl2 (frl ++ (mkl.take i).map (fun x : Nat × List UInt8 => x.1)) (mkl.drop i) chl → MarkJ psz pg n R P frl mkl chl i ps2 led2
inductive ChainJ (psz : Nat) (pg : Addr) (n : Nat) (R : List (Addr × Obj)) (P : List (List UInt8)) (frl2 : List Nat) (chl : List (List UInt8 × List Nat)) (i : Nat) (ps2 : List (Str × Value)) (led2 : List (Addr × Obj)) : Prop
  | mk : ∀ (vs2 : List Value) (P2 : List (List UInt8)) (Fl2 : FLt), ps2 = [] → led2 = (pg, listOf vs2.toArray n) :: R → BytesAre vs2 P2 → P2.length = P.length → WInv psz P2 Fl2 (frl2 ++ (chl.take i).flatMap (fun x : List UInt8 × List Nat => x.2)) [] (chl.drop i) → ChainJ psz pg n R P frl2 chl i ps2 led2
theorem all_cons {a : Addr × Obj} {r : List (Addr × Obj)} {P : Addr × Obj → Prop} (h : P a) (h2 : ∀ q ∈ r, P q) : ∀ q ∈ a :: r, P q := List.forall_mem_cons.mpr ⟨h, h2⟩
theorem apAll_cons {d : Nat} {p : Addr × Obj} {r : List (Addr × Obj)} (h : Ap d p.1) (h2 : ApAll d r) : ApAll d (p :: r) := ⟨h, h2⟩
theorem apNd_cons {p : Addr × Obj} {r : List (Addr × Obj)} (h : ApAll p.1 r) (h2 : ApNd r) : ApNd (p :: r) := ⟨h, h2⟩
theorem ap2_cons {p : Addr × Obj} {r l : List (Addr × Obj)} (h : ApAll p.1 l) (h2 : ApAll2 r l) : ApAll2 (p :: r) l := ⟨h, h2⟩
theorem news_cast {g h : Heap} {L : Addr} {l l' : List (Addr × Obj)} (N : News g L h l) (e : l' = l) : News g L h l' := e ▸ N
section
theorem shuf2 {α : Type} {b c d : List α} {i : α} : ∀ q ∈ b ++ (c ++ d), q ∈ c ++ (i :: (b ++ d)) := fun q h => by
  rcases List.mem_append.mp h with h | h
  · exact List.mem_append_right _ (.tail _ (List.mem_append_left _ h))
  · rcases List.mem_append.mp h with h | h
    · exact List.mem_append_left _ h
    · exact List.mem_append_right _ (.tail _ (List.mem_append_right _ h))
theorem shuf {α : Type} {a b c d : List α} {i : α} : ∀ q ∈ a ++ (b ++ (c ++ d)), q ∈ a ++ (c ++ (i :: (b ++ d))) := fun q h =>
  (List.mem_append.mp h).elim (List.mem_append_left _) fun h => List.mem_append_right _ (shuf2 q h)
theorem ne_here {I : Addr} {oI : Obj} {a b c d : List (Addr × Obj)} {l₀ : List (Addr × Obj)} (h : NeAll I (l₀ ++ (b ++ d))) (off : Off (c ++ ((I, oI) :: (b ++ d))) (a.map (·.1))) (hc : ∀ q ∈ c, ∀ r ∈ (I, oI) :: (b ++ d), q.1 ≠ r.1) : NeAll I (a ++ (b ++ (c ++ d))) := neAll_of fun r hr e => by
  rcases List.mem_append.mp hr with hr | hr
  · exact off (I, oI) (List.mem_append_right _ (.head _)) (by show I ∈ _; rw [e]; exact List.mem_map_of_mem hr)
  · rcases List.mem_append.mp hr with hr | hr
    · exact NeAll.all h r (List.mem_append_right _ (List.mem_append_left _ hr)) e.symm
    · rcases List.mem_append.mp hr with hr | hr
      · exact hc r hr (I, oI) (.head _) e.symm
      · exact NeAll.all h r (List.mem_append_right _ (List.mem_append_right _ hr)) e.symm
theorem off_here {I : Addr} {oI : Obj} {a b d : List (Addr × Obj)} (h : NeAll I (a ++ (b ++ d))) (off : Off (b ++ d) (a.map (·.1))) : Off ((I, oI) :: (b ++ d)) (a.map (·.1)) := fun q hq hm => by
  rcases List.mem_cons.mp hq with rfl | hq
  · obtain ⟨r, hr, e⟩ := List.mem_map.mp hm
    exact NeAll.all h r (List.mem_append_left _ hr) e
  · exact off q hq hm
theorem off_of : ∀ {l m : List (Addr × Obj)}, ApAll2 l m → Off l (m.map (·.1))
  | [], _, _ => fun _ h => nomatch h
  | p :: r, m, h => fun q hq hm => by
    rcases List.mem_cons.mp hq with rfl | hq
    · have : ∀ {l : List (Addr × Obj)}, ApAll q.1 l → q.1 ∉ l.map (·.1) := by
        intro l
        induction l with
        | nil => exact fun _ h => nomatch h
        | cons a r ih =>
          intro h hm
          rcases List.mem_cons.mp hm with e | hm
          · exact h.1 e
          · exact ih h.2 hm
      exact this h.1 hm
    · exact off_of h.2 q hq hm
theorem off_app {a b : List (Addr × Obj)} {as : List Addr} (h1 : Off a as) (h2 : Off b as) : Off (a ++ b) as := fun q hq => (List.mem_append.mp hq).elim (h1 q) (h2 q)
theorem off_cons {a : Addr × Obj} {b : List (Addr × Obj)} {as : List Addr} (h1 : a.1 ∉ as) (h2 : Off b as) : Off (a :: b) as := fun q hq => (List.mem_cons.mp hq).elim (fun e => e ▸ h1) (h2 q)
theorem off_ap2 {a b : List (Addr × Obj)} (h : Off a (b.map (·.1))) : ApAll2 a b := apAll2_of fun q hq r hr e => h q hq (e ▸ List.mem_map_of_mem hr)
end
-- LINES
theorem words_56_55 : True := by
  k_with "my menuP" => first | exact List.forall_mem_nil _ | (refine List.forall_mem_cons.mpr ⟨?_, ?_⟩; (first | exact ⟨64, _, rfl, .inl rfl⟩ | exact ⟨128, _, rfl, .inr rfl⟩); k_extra "my menuP")
  k_with "z subscriptTail" => ((with_reducible show wpAny _ _ (subscriptTail (Expr.List _ _) _ (Value.ref _) (Value.int _ _)) _ _ _); k_dflt (refine' my_menuP ?zb ?zl ?z0 ?zk ?zz ?za ?_; (case zb => with_reducible assumption); (case zl => k_extra "my isl"); (case z0 => omega); (case zk => k_extra "my len"); (case zz => k_extra "my len"); (case za => k_extra "my menuP")); intro ps' t' hps')
  k_with "my apall" => first | exact trivial | (refine apAll_cons (by first | with_reducible assumption | exact Ap.en (by with_reducible assumption) | exact neN (by omega)) ?_; k_extra "my apall") | fail "apall"
  k_with "my apnd" => first | exact trivial | (refine apNd_cons (by k_extra "my apall") ?_; k_extra "my apnd") | fail "apnd"
  k_with "my ap2c" => first | exact trivial | (refine ap2_cons (by k_extra "my apall") ?_; k_extra "my ap2c") | fail "ap2"
  k_with "my stepsL" => repeat' (k_extra "my nostop"; k_extra "my loopstop"; (fail_if_success (with_reducible show wpAny _ _ (exec (Stmt.Assign _ (Expr.IfExp _ _ _ _) _) _) _ _ _)); (fail_if_success (with_reducible show wpAny _ _ (call (Value.ref 376) _) _ _ _)); (fail_if_success (with_reducible show wpAny _ _ (call (Value.ref 383) _) _ _ _)); first | walk1 | (dsimp only; walk1))
  k_with "my k_all" => with_reducible assumption
  k_with "subscriptTail Name Call ref int" => ((with_reducible show wpAny _ _ (subscriptTail _ _ (Value.ref _) (Value.int _ _)) _ _ _); k_dflt (refine' my_deed ?zl ?zr ?zz ?za ?_; (case zl => k_extra "my isl"); (case zr => omega); (case zz => k_extra "my len"); (case za => exact deeds_ok _)); intro f' hdf' hkf')
  k_with "callWith ref" => ((with_reducible show wpAny _ _ (callWith _ (Value.ref _) _ (backTo _ (starEach (_ :: _) _)) []) _ _ _); k_dflt (refine' callWith_K ?zk1 ?zk2 ?_ ?zhe ?zhp; (case zk2 => with_reducible assumption); (case zk1 => k_asm); (case zhe => exact rfl); (case zhp => exact rfl); k_whole))
  k_with "my sub" => first | exact sub_nil | (refine' sub_cons ?za ?zb; (case za => k_mem); (case zb => k_extra "my sub")) | (intro q hq; (repeat (first | exact hq | refine List.Mem.tail _ ?_)))
  k_with "my stepsD" => repeat' (k_extra "my nostop"; k_extra "my loopstop"; (fail_if_success (with_reducible show wpAny _ _ (call (Value.ref _) [Value.ref _, Value.ref _, Value.ref _]) _ _ _)); first | walk1 | (dsimp only; walk1))
  k_with "my stepsE" => repeat' (k_extra "my nostop"; k_extra "my loopstop"; (fail_if_success (with_reducible show wpAny _ _ (call (Value.ref 138) _) _ _ _)); (fail_if_success (with_reducible show wpAny _ _ (call (Value.ref 220) _) _ _ _)); (fail_if_success (with_reducible show wpAny _ _ (call (Value.ref 145) _) _ _ _)); (fail_if_success (with_reducible show wpAny _ _ (call (Value.ref 306) _) _ _ _)); first | walk1 | (dsimp only; walk1))
  trivial
-- END LINES
noncomputable def eps15 {α1 α2 α3 α4 α5 α6 α7 α8 α9 α10 α11 α12 α13 α14 α15 : Type} {i : Nonempty (α1 × α2 × α3 × α4 × α5 × α6 × α7 × α8 × α9 × α10 × α11 × α12 × α13 × α14 × α15)} (p : α1 → α2 → α3 → α4 → α5 → α6 → α7 → α8 → α9 → α10 → α11 → α12 → α13 → α14 → α15 → Prop) : α1 × α2 × α3 × α4 × α5 × α6 × α7 × α8 × α9 × α10 × α11 × α12 × α13 × α14 × α15 := @Classical.epsilon _ i fun x => ¬ p x.1 x.2.1 x.2.2.1 x.2.2.2.1 x.2.2.2.2.1 x.2.2.2.2.2.1 x.2.2.2.2.2.2.1 x.2.2.2.2.2.2.2.1 x.2.2.2.2.2.2.2.2.1 x.2.2.2.2.2.2.2.2.2.1 x.2.2.2.2.2.2.2.2.2.2.1 x.2.2.2.2.2.2.2.2.2.2.2.1 x.2.2.2.2.2.2.2.2.2.2.2.2.1 x.2.2.2.2.2.2.2.2.2.2.2.2.2.1 x.2.2.2.2.2.2.2.2.2.2.2.2.2.2
theorem allE15 {α1 α2 α3 α4 α5 α6 α7 α8 α9 α10 α11 α12 α13 α14 α15 : Type} [i : Nonempty (α1 × α2 × α3 × α4 × α5 × α6 × α7 × α8 × α9 × α10 × α11 × α12 × α13 × α14 × α15)] {p : α1 → α2 → α3 → α4 → α5 → α6 → α7 → α8 → α9 → α10 → α11 → α12 → α13 → α14 → α15 → Prop} (h : p (eps15 (i := i) p).1 (eps15 (i := i) p).2.1 (eps15 (i := i) p).2.2.1 (eps15 (i := i) p).2.2.2.1 (eps15 (i := i) p).2.2.2.2.1 (eps15 (i := i) p).2.2.2.2.2.1 (eps15 (i := i) p).2.2.2.2.2.2.1 (eps15 (i := i) p).2.2.2.2.2.2.2.1 (eps15 (i := i) p).2.2.2.2.2.2.2.2.1 (eps15 (i := i) p).2.2.2.2.2.2.2.2.2.1 (eps15 (i := i) p).2.2.2.2.2.2.2.2.2.2.1 (eps15 (i := i) p).2.2.2.2.2.2.2.2.2.2.2.1 (eps15 (i := i) p).2.2.2.2.2.2.2.2.2.2.2.2.1 (eps15 (i := i) p).2.2.2.2.2.2.2.2.2.2.2.2.2.1 (eps15 (i := i) p).2.2.2.2.2.2.2.2.2.2.2.2.2.2) : ∀ x1 x2 x3 x4 x5 x6 x7 x8 x9 x10 x11 x12 x13 x14 x15, p x1 x2 x3 x4 x5 x6 x7 x8 x9 x10 x11 x12 x13 x14 x15 := fun x1 x2 x3 x4 x5 x6 x7 x8 x9 x10 x11 x12 x13 x14 x15 => Classical.byContradiction fun nx =>
  @Classical.epsilon_spec _ (fun x : α1 × α2 × α3 × α4 × α5 × α6 × α7 × α8 × α9 × α10 × α11 × α12 × α13 × α14 × α15 => ¬ p x.1 x.2.1 x.2.2.1 x.2.2.2.1 x.2.2.2.2.1 x.2.2.2.2.2.1 x.2.2.2.2.2.2.1 x.2.2.2.2.2.2.2.1 x.2.2.2.2.2.2.2.2.1 x.2.2.2.2.2.2.2.2.2.1 x.2.2.2.2.2.2.2.2.2.2.1 x.2.2.2.2.2.2.2.2.2.2.2.1 x.2.2.2.2.2.2.2.2.2.2.2.2.1 x.2.2.2.2.2.2.2.2.2.2.2.2.2.1 x.2.2.2.2.2.2.2.2.2.2.2.2.2.2) ⟨(x1, x2, x3, x4, x5, x6, x7, x8, x9, x10, x11, x12, x13, x14, x15), nx⟩ h
noncomputable def eps36 {α1 α2 α3 α4 α5 α6 α7 α8 α9 α10 α11 α12 α13 α14 α15 α16 α17 α18 α19 α20 α21 α22 α23 α24 α25 α26 α27 α28 α29 α30 α31 α32 α33 α34 α35 α36 : Type} {i : Nonempty (α1 × α2 × α3 × α4 × α5 × α6 × α7 × α8 × α9 × α10 × α11 × α12 × α13 × α14 × α15 × α16 × α17 × α18 × α19 × α20 × α21 × α22 × α23 × α24 × α25 × α26 × α27 × α28 × α29 × α30 × α31 × α32 × α33 × α34 × α35 × α36)} (p : α1 → α2 → α3 → α4 → α5 → α6 → α7 → α8 → α9 → α10 → α11 → α12 → α13 → α14 → α15 → α16 → α17 → α18 → α19 → α20 → α21 → α22 → α23 → α24 → α25 → α26 → α27 → α28 → α29 → α30 → α31 → α32 → α33 → α34 → α35 → α36 → Prop) : α1 × α2 × α3 × α4 × α5 × α6 × α7 × α8 × α9 × α10 × α11 × α12 × α13 × α14 × α15 × α16 × α17 × α18 × α19 × α20 × α21 × α22 × α23 × α24 × α25 × α26 × α27 × α28 × α29 × α30 × α31 × α32 × α33 × α34 × α35 × α36 := @Classical.epsilon _ i fun x => ¬ p x.1 x.2.1 x.2.2.1 x.2.2.2.1 x.2.2.2.2.1 x.2.2.2.2.2.1 x.2.2.2.2.2.2.1 x.2.2.2.2.2.2.2.1 x.2.2.2.2.2.2.2.2.1 x.2.2.2.2.2.2.2.2.2.1 x.2.2.2.2.2.2.2.2.2.2.1 x.2.2.2.2.2.2.2.2.2.2.2.1 x.2.2.2.2.2.2.2.2.2.2.2.2.1 x.2.2.2.2.2.2.2.2.2.2.2.2.2.1 x.2.2.2.2.2.2.2.2.2.2.2.2.2.2.1 x.2.2.2.2.2.2.2.2.2.2.2.2.2.2.2.1 x.2.2.2.2.2.2.2.2.2.2.2.2.2.2.2.2.1 x.2.2.2.2.2.2.2.2.2.2.2.2.2.2.2.2.2.1 x.2.2.2.2.2.2.2.2.2.2.2.2.2.2.2.2.2.2.1 x.2.2.2.2.2.2.2.2.2.2.2.2.2.2.2.2.2.2.2.1 x.2.2.2.2.2.2.2.2.2.2.2.2.2.2.2.2.2.2.2.2.1 x.2.2.2.2.2.2.2.2.2.2.2.2.2.2.2.2.2.2.2.2.2.1 x.2.2.2.2.2.2.2.2.2.2.2.2.2.2.2.2.2.2.2.2.2.2.1 x.2.2.2.2.2.2.2.2.2.2.2.2.2.2.2.2.2.2.2.2.2.2.2.1 x.2.2.2.2.2.2.2.2.2.2.2.2.2.2.2.2.2.2.2.2.2.2.2.2.1 x.2.2.2.2.2.2.2.2.2.2.2.2.2.2.2.2.2.2.2.2.2.2.2.2.2.1 x.2.2.2.2.2.2.2.2.2.2.2.2.2.2.2.2.2.2.2.2.2.2.2.2.2.2.1 x.2.2.2.2.2.2.2.2.2.2.2.2.2.2.2.2.2.2.2.2.2.2.2.2.2.2.2.1 x.2.2.2.2.2.2.2.2.2.2.2.2.2.2.2.2.2.2.2.2.2.2.2.2.2.2.2.2.1 x.2.2.2.2.2.2.2.2.2.2.2.2.2.2.2.2.2.2.2.2.2.2.2.2.2.2.2.2.2.1 x.2.2.2.2.2.2.2.2.2.2.2.2.2.2.2.2.2.2.2.2.2.2.2.2.2.2.2.2.2.2.1 x.2.2.2.2.2.2.2.2.2.2.2.2.2.2.2.2.2.2.2.2.2.2.2.2.2.2.2.2.2.2.2.1 x.2.2.2.2.2.2.2.2.2.2.2.2.2.2.2.2.2.2.2.2.2.2.2.2.2.2.2.2.2.2.2.2.1 x.2.2.2.2.2.2.2.2.2.2.2.2.2.2.2.2.2.2.2.2.2.2.2.2.2.2.2.2.2.2.2.2.2.1 x.2.2.2.2.2.2.2.2.2.2.2.2.2.2.2.2.2.2.2.2.2.2.2.2.2.2.2.2.2.2.2.2.2.2.1 x.2.2.2.2.2.2.2.2.2.2.2.2.2.2.2.2.2.2.2.2.2.2.2.2.2.2.2.2.2.2.2.2.2.2.2
theorem allE36 {α1 α2 α3 α4 α5 α6 α7 α8 α9 α10 α11 α12 α13 α14 α15 α16 α17 α18 α19 α20 α21 α22 α23 α24 α25 α26 α27 α28 α29 α30 α31 α32 α33 α34 α35 α36 : Type} [i : Nonempty (α1 × α2 × α3 × α4 × α5 × α6 × α7 × α8 × α9 × α10 × α11 × α12 × α13 × α14 × α15 × α16 × α17 × α18 × α19 × α20 × α21 × α22 × α23 × α24 × α25 × α26 × α27 × α28 × α29 × α30 × α31 × α32 × α33 × α34 × α35 × α36)] {p : α1 → α2 → α3 → α4 → α5 → α6 → α7 → α8 → α9 → α10 → α11 → α12 → α13 → α14 → α15 → α16 → α17 → α18 → α19 → α20 → α21 → α22 → α23 → α24 → α25 → α26 → α27 → α28 → α29 → α30 → α31 → α32 → α33 → α34 → α35 → α36 → Prop} (h : p (eps36 (i := i) p).1 (eps36 (i := i) p).2.1 (eps36 (i := i) p).2.2.1 (eps36 (i := i) p).2.2.2.1 (eps36 (i := i) p).2.2.2.2.1 (eps36 (i := i) p).2.2.2.2.2.1 (eps36 (i := i) p).2.2.2.2.2.2.1 (eps36 (i := i) p).2.2.2.2.2.2.2.1 (eps36 (i := i) p).2.2.2.2.2.2.2.2.1 (eps36 (i := i) p).2.2.2.2.2.2.2.2.2.1 (eps36 (i := i) p).2.2.2.2.2.2.2.2.2.2.1 (eps36 (i := i) p).2.2.2.2.2.2.2.2.2.2.2.1 (eps36 (i := i) p).2.2.2.2.2.2.2.2.2.2.2.2.1 (eps36 (i := i) p).2.2.2.2.2.2.2.2.2.2.2.2.2.1 (eps36 (i := i) p).2.2.2.2.2.2.2.2.2.2.2.2.2.2.1 (eps36 (i := i) p).2.2.2.2.2.2.2.2.2.2.2.2.2.2.2.1 (eps36 (i := i) p).2.2.2.2.2.2.2.2.2.2.2.2.2.2.2.2.1 (eps36 (i := i) p).2.2.2.2.2.2.2.2.2.2.2.2.2.2.2.2.2.1 (eps36 (i := i) p).2.2.2.2.2.2.2.2.2.2.2.2.2.2.2.2.2.2.1 (eps36 (i := i) p).2.2.2.2.2.2.2.2.2.2.2.2.2.2.2.2.2.2.2.1 (eps36 (i := i) p).2.2.2.2.2.2.2.2.2.2.2.2.2.2.2.2.2.2.2.2.1 (eps36 (i := i) p).2.2.2.2.2.2.2.2.2.2.2.2.2.2.2.2.2.2.2.2.2.1 (eps36 (i := i) p).2.2.2.2.2.2.2.2.2.2.2.2.2.2.2.2.2.2.2.2.2.2.1 (eps36 (i := i) p).2.2.2.2.2.2.2.2.2.2.2.2.2.2.2.2.2.2.2.2.2.2.2.1 (eps36 (i := i) p).2.2.2.2.2.2.2.2.2.2.2.2.2.2.2.2.2.2.2.2.2.2.2.2.1 (eps36 (i := i) p).2.2.2.2.2.2.2.2.2.2.2.2.2.2.2.2.2.2.2.2.2.2.2.2.2.1 (eps36 (i := i) p).2.2.2.2.2.2.2.2.2.2.2.2.2.2.2.2.2.2.2.2.2.2.2.2.2.2.1 (eps36 (i := i) p).2.2.2.2.2.2.2.2.2.2.2.2.2.2.2.2.2.2.2.2.2.2.2.2.2.2.2.1 (eps36 (i := i) p).2.2.2.2.2.2.2.2.2.2.2.2.2.2.2.2.2.2.2.2.2.2.2.2.2.2.2.2.1 (eps36 (i := i) p).2.2.2.2.2.2.2.2.2.2.2.2.2.2.2.2.2.2.2.2.2.2.2.2.2.2.2.2.2.1 (eps36 (i := i) p).2.2.2.2.2.2.2.2.2.2.2.2.2.2.2.2.2.2.2.2.2.2.2.2.2.2.2.2.2.2.1 (eps36 (i := i) p).2.2.2.2.2.2.2.2.2.2.2.2.2.2.2.2.2.2.2.2.2.2.2.2.2.2.2.2.2.2.2.1 (eps36 (i := i) p).2.2.2.2.2.2.2.2.2.2.2.2.2.2.2.2.2.2.2.2.2.2.2.2.2.2.2.2.2.2.2.2.1 (eps36 (i := i) p).2.2.2.2.2.2.2.2.2.2.2.2.2.2.2.2.2.2.2.2.2.2.2.2.2.2.2.2.2.2.2.2.2.1 (eps36 (i := i) p).2.2.2.2.2.2.2.2.2.2.2.2.2.2.2.2.2.2.2.2.2.2.2.2.2.2.2.2.2.2.2.2.2.2.1 (eps36 (i := i) p).2.2.2.2.2.2.2.2.2.2.2.2.2.2.2.2.2.2.2.2.2.2.2.2.2.2.2.2.2.2.2.2.2.2.2) : ∀ x1 x2 x3 x4 x5 x6 x7 x8 x9 x10 x11 x12 x13 x14 x15 x16 x17 x18 x19 x20 x21 x22 x23 x24 x25 x26 x27 x28 x29 x30 x31 x32 x33 x34 x35 x36, p x1 x2 x3 x4 x5 x6 x7 x8 x9 x10 x11 x12 x13 x14 x15 x16 x17 x18 x19 x20 x21 x22 x23 x24 x25 x26 x27 x28 x29 x30 x31 x32 x33 x34 x35 x36 := fun x1 x2 x3 x4 x5 x6 x7 x8 x9 x10 x11 x12 x13 x14 x15 x16 x17 x18 x19 x20 x21 x22 x23 x24 x25 x26 x27 x28 x29 x30 x31 x32 x33 x34 x35 x36 => Classical.byContradiction fun nx =>
  @Classical.epsilon_spec _ (fun x : α1 × α2 × α3 × α4 × α5 × α6 × α7 × α8 × α9 × α10 × α11 × α12 × α13 × α14 × α15 × α16 × α17 × α18 × α19 × α20 × α21 × α22 × α23 × α24 × α25 × α26 × α27 × α28 × α29 × α30 × α31 × α32 × α33 × α34 × α35 × α36 => ¬ p x.1 x.2.1 x.2.2.1 x.2.2.2.1 x.2.2.2.2.1 x.2.2.2.2.2.1 x.2.2.2.2.2.2.1 x.2.2.2.2.2.2.2.1 x.2.2.2.2.2.2.2.2.1 x.2.2.2.2.2.2.2.2.2.1 x.2.2.2.2.2.2.2.2.2.2.1 x.2.2.2.2.2.2.2.2.2.2.2.1 x.2.2.2.2.2.2.2.2.2.2.2.2.1 x.2.2.2.2.2.2.2.2.2.2.2.2.2.1 x.2.2.2.2.2.2.2.2.2.2.2.2.2.2.1 x.2.2.2.2.2.2.2.2.2.2.2.2.2.2.2.1 x.2.2.2.2.2.2.2.2.2.2.2.2.2.2.2.2.1 x.2.2.2.2.2.2.2.2.2.2.2.2.2.2.2.2.2.1 x.2.2.2.2.2.2.2.2.2.2.2.2.2.2.2.2.2.2.1 x.2.2.2.2.2.2.2.2.2.2.2.2.2.2.2.2.2.2.2.1 x.2.2.2.2.2.2.2.2.2.2.2.2.2.2.2.2.2.2.2.2.1 x.2.2.2.2.2.2.2.2.2.2.2.2.2.2.2.2.2.2.2.2.2.1 x.2.2.2.2.2.2.2.2.2.2.2.2.2.2.2.2.2.2.2.2.2.2.1 x.2.2.2.2.2.2.2.2.2.2.2.2.2.2.2.2.2.2.2.2.2.2.2.1 x.2.2.2.2.2.2.2.2.2.2.2.2.2.2.2.2.2.2.2.2.2.2.2.2.1 x.2.2.2.2.2.2.2.2.2.2.2.2.2.2.2.2.2.2.2.2.2.2.2.2.2.1 x.2.2.2.2.2.2.2.2.2.2.2.2.2.2.2.2.2.2.2.2.2.2.2.2.2.2.1 x.2.2.2.2.2.2.2.2.2.2.2.2.2.2.2.2.2.2.2.2.2.2.2.2.2.2.2.1 x.2.2.2.2.2.2.2.2.2.2.2.2.2.2.2.2.2.2.2.2.2.2.2.2.2.2.2.2.1 x.2.2.2.2.2.2.2.2.2.2.2.2.2.2.2.2.2.2.2.2.2.2.2.2.2.2.2.2.2.1 x.2.2.2.2.2.2.2.2.2.2.2.2.2.2.2.2.2.2.2.2.2.2.2.2.2.2.2.2.2.2.1 x.2.2.2.2.2.2.2.2.2.2.2.2.2.2.2.2.2.2.2.2.2.2.2.2.2.2.2.2.2.2.2.1 x.2.2.2.2.2.2.2.2.2.2.2.2.2.2.2.2.2.2.2.2.2.2.2.2.2.2.2.2.2.2.2.2.1 x.2.2.2.2.2.2.2.2.2.2.2.2.2.2.2.2.2.2.2.2.2.2.2.2.2.2.2.2.2.2.2.2.2.1 x.2.2.2.2.2.2.2.2.2.2.2.2.2.2.2.2.2.2.2.2.2.2.2.2.2.2.2.2.2.2.2.2.2.2.1 x.2.2.2.2.2.2.2.2.2.2.2.2.2.2.2.2.2.2.2.2.2.2.2.2.2.2.2.2.2.2.2.2.2.2.2) ⟨(x1, x2, x3, x4, x5, x6, x7, x8, x9, x10, x11, x12, x13, x14, x15, x16, x17, x18, x19, x20, x21, x22, x23, x24, x25, x26, x27, x28, x29, x30, x31, x32, x33, x34, x35, x36), nx⟩ h
theorem law_cut {w : World} {s S : Shared} {M : Model} {A : Around} {α : Type} {x : Sem α} {Q : α → Shared → Prop} {E : Value → Shared → Prop} {g : Heap} {L l : Addr} {to : Obj} {so' : Obj} {src : Addr} {stk : Tok} {psz : Nat} {st : Addr} {std : Addr} {sa1 : Int} {sa2 : Int} {sa3 : Int} {sk1 : Tok} {sk2 : Tok} {sk3 : Tok} {sn : Nat} {pg : Addr} {sp : Addr} {vs4 : List Value} {pool : Addr} {pd : Addr} {a1 : Int} {a2 : Int} {k1 : Tok} {k2 : Tok} {pn : Nat} {fl : Addr} {fd : Addr} {c1 : Int} {c2 : Tok} {c3 : Nat} {wd : Addr} {fr : Addr} {mk : Addr} {ch : Addr} {wo : Obj} {dl : Addr} {h5 : Heap} {t5 : Nat}
  (hS : S = { s with heap := h5, toks := t5 }) (F5 : Fr g L h5 (lawM0 l dl pool wd st src)) (N6 : News g L h5 ((led src so' pg vs4 1 wd wo fr [] 0 mk [] 0 ch [] 0 to) ++ (fxl st std sp pool pd fl fd dl pg psz sa1 sa2 sa3 a1 a2 c1 sk1 sk2 sk3 stk k1 k2 c2 sn pn c3))) (hnd : ApNd (led src so' pg vs4 1 wd wo fr [] 0 mk [] 0 ch [] 0 to)) (hfa : ApAll2 (fxl st std sp pool pd fl fd dl pg psz sa1 sa2 sa3 a1 a2 c1 sk1 sk2 sk3 stk k1 k2 c2 sn pn c3) (led src so' pg vs4 1 wd wo fr [] 0 mk [] 0 ch [] 0 to)) (hx : Stands (fxl st std sp pool pd fl fd dl pg psz sa1 sa2 sa3 a1 a2 c1 sk1 sk2 sk3 stk k1 k2 c2 sn pn c3) st pg fl pool psz) (hs' : SrcOk so') (hps' : psz = 64 ∨ psz = 128) (hB4 : BytesAre vs4 [hdrL psz 1 0 0 ++ List.replicate (psz - 32) 0]) (hwo : IsWd w wo fr mk ch)
  (k : ∀ (so' : Obj) (src : Addr) (stk : Tok) (psz : Nat) (st : Addr) (std : Addr) (sa1 : Int) (sa2 : Int) (sa3 : Int) (sk1 : Tok) (sk2 : Tok) (sk3 : Tok) (sn : Nat) (pg : Addr) (sp : Addr) (vs4 : List Value) (pool : Addr) (pd : Addr) (a1 : Int) (a2 : Int) (k1 : Tok) (k2 : Tok) (pn : Nat) (fl : Addr) (fd : Addr) (c1 : Int) (c2 : Tok) (c3 : Nat) (wd : Addr) (fr : Addr) (mk : Addr) (ch : Addr) (wo : Obj) (dl : Addr) (h5 : Heap) (t5 : Nat), (Fr g L h5 (lawM0 l dl pool wd st src)) → (News g L h5 ((led src so' pg vs4 1 wd wo fr [] 0 mk [] 0 ch [] 0 to) ++ (fxl st std sp pool pd fl fd dl pg psz sa1 sa2 sa3 a1 a2 c1 sk1 sk2 sk3 stk k1 k2 c2 sn pn c3))) → (ApNd (led src so' pg vs4 1 wd wo fr [] 0 mk [] 0 ch [] 0 to)) → (ApAll2 (fxl st std sp pool pd fl fd dl pg psz sa1 sa2 sa3 a1 a2 c1 sk1 sk2 sk3 stk k1 k2 c2 sn pn c3) (led src so' pg vs4 1 wd wo fr [] 0 mk [] 0 ch [] 0 to)) → (Stands (fxl st std sp pool pd fl fd dl pg psz sa1 sa2 sa3 a1 a2 c1 sk1 sk2 sk3 stk k1 k2 c2 sn pn c3) st pg fl pool psz) → (SrcOk so') → (psz = 64 ∨ psz = 128) → (BytesAre vs4 [hdrL psz 1 0 0 ++ List.replicate (psz - 32) 0]) → (IsWd w wo fr mk ch) → wpAny M A x Q E { s with heap := h5, toks := t5 }) : wpAny M A x Q E S := by subst hS; exact k so' src stk psz st std sa1 sa2 sa3 sk1 sk2 sk3 sn pg sp vs4 pool pd a1 a2 k1 k2 pn fl fd c1 c2 c3 wd fr mk ch wo dl h5 t5 F5 N6 hnd hfa hx hs' hps' hB4 hwo
section
variable {w : World}
theorem law_spec {A : Around} {base g : Heap} {s : Shared} {p : Program} {loose : List Str} {mean : ExcName → Option Value} {mg mb : Str → Option Value} {R : Result → Shared → Prop}
  {l : Addr} {svs : List Value} {ns : List Int} {to : Obj}
  (H : Pre p loose mean mg mb w A base [] g s [(449, to)]) (hd : Room A 12) (XB : (K w.params).In base) (TB : Top p loose mean mg mb base)
  (hpl : g.IsList l svs.toArray) (hi : IntsAre svs ns) (hn : svs.length < 1000) (hto : to = tabObj #[])
  (k : ∀ ps h' tk, Post g h' [(449, tabObj ps)] → R (.ok (.ret (.bool true))) { s with heap := h', toks := tk }) :
  codeAny (model PySem.Challenge.rw_nt0105_01.row.prog w) A (.call (.ref 466) ⟨[.ref l], []⟩) R s := by
  revert w A base g s p loose mean mg mb R l svs ns to; refine (?zcG17 : CloT _ ?zcH17); refine @(allE15 (i := ⟨(world0, {}, default, default, {}, default, default, default, default, default, default, default, default, default, default)⟩) ?_); apply ?zcH17; intro w A base g s p loose mean mg mb R l svs ns to; intro H hd XB TB hpl hi hn hto k
  have hmp : MenuP := trivial
  k_extra "my enterX"
  k_extra "my stepsL"
  dsimp only [List.append_nil]
  obtain ⟨src, hxe⟩ : ∃ a, a = D' := ⟨_, rfl⟩
  subst hxe
  obtain ⟨stk, hxe⟩ : ∃ a, a = t' := ⟨_, rfl⟩
  subst hxe
  obtain ⟨psz, hxe⟩ : ∃ a, a = ps' := ⟨_, rfl⟩
  subst hxe
  refine head0_call (by assumption) (Around.frames_deeper (Below.stack (by assumption))) rfl rfl (by k_extra "my depth") (by assumption) (by assumption) (by k_asm) (by k_asm) (by k_mem) (by k_mem) (by k_mem) ?_
  intro xh dh _ _ _ _ _ _ _ _ _ _ _ _ _ _ _ _ _ _ _ _ _ _ _ _ h3 tk3 F3 N3 hp1 hp2 hp3
  refine apI_all hp2 ?_
  k_extra "my imp"
  refine apI_all hp3 ?_
  k_extra "my imp"
  k_sweep
  k_extra "my stepsL"
  refine head0w_call (by assumption) (Around.frames_deeper (Below.stack (by assumption))) rfl rfl (by k_extra "my depth") (by assumption) (by assumption) (by k_asm) (by k_asm) (by k_mem) (by k_mem) (by k_mem) (by k_mem) (by k_mem) ?_ hps' ?_
  · refine ⟨⟨?_, ?_⟩, ⟨?_, ?_⟩, ⟨?_, ?_⟩, ?_⟩ <;> k_extra "my ne1"
  intro vs4 h4 tk4 hB4 F4 N4
  replace N4 := N4 [(st, _), (std, _), (sp, _), (src, so'), (449, to)] (by k_extra "my sub") (by simp only [List.forall_mem_cons, List.not_mem_nil, false_implies, implies_true, and_true]; (repeat' apply And.intro) <;> k_extra "my ne1")
  k_sweep
  k_extra "my stepsL"
  rename_i wd _ wo0 _ _ _ _ _ _ _ _ _ _ _ _ fr _ _ _ _ _ _ _ _ _ _ _ _ mk _ _ _ _ _ _ _ _ _ _ _ _ _ ch _ _ _ _ _ _ _ _ _ _ _ _ _ _ _ wo hwo tu _ _ _ _ _ _ _ _ _ _ _ _ _ _ _ _ _ _ _ _ _ dl _ _ _ _ _ _ _ _ _ _ _ _ _ _ _ _
  with_reducible rename Fr _ _ _ _ => F5
  with_reducible rename News _ _ _ _ => N5
  have hnd : ApNd (led src so' pg vs4 1 wd wo fr [] 0 mk [] 0 ch [] 0 to) := by
    k_extra "my apnd"
  have hfa : ApAll2 (fxl st std sp pool pd fl fd dl pg psz sa1 sa2 sa3 a1 a2 c1 sk1 sk2 sk3 stk k1 k2 c2 sn pn c3) (led src so' pg vs4 1 wd wo fr [] 0 mk [] 0 ch [] 0 to) := by
    k_extra "my ap2c"
  have hx : Stands (fxl st std sp pool pd fl fd dl pg psz sa1 sa2 sa3 a1 a2 c1 sk1 sk2 sk3 stk k1 k2 c2 sn pn c3) st pg fl pool psz := by
    intro h hq
    exact ⟨⟨_, _, _, _, _, _, _, _, _, _, hq _ (.head _), hq _ (.tail _ (.head _))⟩, ⟨_, _, _, _, hq _ (.tail _ (.tail _ (.tail _ (.tail _ (.tail _ (.head _)))))), hq _ (.tail _ (.tail _ (.tail _ (.tail _ (.tail _ (.tail _ (.head _)))))))⟩, ⟨_, _, _, _, _, _, hq _ (.tail _ (.tail _ (.tail _ (.head _)))), hq _ (.tail _ (.tail _ (.tail _ (.tail _ (.head _)))))⟩⟩
  have N6 : News g L' _ (led src so' pg vs4 1 wd wo fr [] 0 mk [] 0 ch [] 0 to ++ (fxl st std sp pool pd fl fd dl pg psz sa1 sa2 sa3 a1 a2 c1 sk1 sk2 sk3 stk k1 k2 c2 sn pn c3)) := N5.perm (by simp only [led, fxl, List.cons_append, List.nil_append]; k_extra "my sub")
  refine law_cut (l := l) (s := s) rfl (show Fr g L' _ (lawM0 l dl pool wd st src) from F5) N6 hnd hfa hx (by assumption) hps' hB4 hwo ?_
  clear F5 N6 N5 hnd hfa hx hps' hB4 hwo
  repeat (with_reducible rename (Ap _ _) => hclr; clear hclr)
  repeat (with_reducible rename (@LT.lt Nat _ _ _ ∧ _) => hclr; clear hclr)
  repeat (with_reducible rename SrcOk _ => hclr; clear hclr)
  (refine (?zdG6 : CloT _ ?zdH6); refine @(allE36 (i := ⟨(default, 0, 0, 0, 0, 0, 0, 0, 0, 0, 0, 0, 0, 0, 0, default, 0, 0, 0, 0, 0, 0, 0, 0, 0, 0, 0, 0, 0, 0, 0, 0, default, 0, default, 0)⟩) ?_); apply ?zdH6; intro so' src stk psz st std sa1 sa2 sa3 sk1 sk2 sk3 sn pg sp vs4 pool pd a1 a2 k1 k2 pn fl fd c1 c2 c3 wd fr mk ch wo dl h5 t5)
  intro F5 N6 hnd hfa hx hs' hps' hB4 hwo
  refine wpAny_mono (Q := ManyQ g L' s src (lawM l dl pool wd st src) ([(pg, listOf vs4.toArray 1), (wd, wo), (fr, listOf (List.toArray []) 0), (mk, listOf (List.toArray []) 0), (ch, listOf (List.toArray []) 0), (449, to)] ++ (fxl st std sp pool pd fl fd dl pg psz sa1 sa2 sa3 a1 a2 c1 sk1 sk2 sk3 stk k1 k2 c2 sn pn c3))) ?wmany ?wrest (fun _ _ e => e)
  case wmany =>
    refine apNd_I hnd ?_
    dsimp only [led]
    k_extra "my imp"
    refine ap2_I hfa ?_
    dsimp only [led, fxl]
    k_extra "my imp"
    simp only [led, fxl, List.cons_append, List.nil_append] at N6
    have hso := hs'
    obtain ⟨a, b, ta, tb, n2, rfl, ha, hb, hb2⟩ := hs'
    rcases (show 0 < a ∨ a = 0 by omega) with h0 | rfl
    · k_extra "my steps"
      with_reducible rename News _ _ _ _ => N8
      with_reducible rename Fr _ _ _ _ => F8
      (try dsimp +zetaDelta only at F8)
      rw [show (8 + (r' : Int)) = ((8 + r' : Nat) : Int) by omega] at F8
      exact ManyQ.intro (by omega) (by assumption) F8 N8
    · k_extra "my steps"
      with_reducible rename News _ _ _ _ => N8
      with_reducible rename Fr _ _ _ _ => F8
      (try dsimp +zetaDelta only at F8)
      rw [show (5 + (r' : Int)) = ((5 + r' : Nat) : Int) by omega] at F8
      exact ManyQ.intro (by omega) (by assumption) F8 N8
  case wrest =>
    rintro f s2 ⟨mi, so2, t2, h2, tk2, rfl, rfl, hmi, hso2, F7, N7⟩
    clear F5 N6 hs'
    try dsimp only
    k_extra "my steps"
    refine For_here ?_
    k_extra "my steps"
    with_reducible rename News _ _ _ _ => N8
    with_reducible rename Fr _ _ _ _ => F8
    try dsimp only
    have hto' : TabOk (fun a o => (a, o) ∈ ([] : List (Addr × Obj))) to := ⟨#[], hto, trivial, fun _ => .inl rfl⟩
    have W0 : WOk w (fun a o => (a, o) ∈ ([] : List (Addr × Obj))) psz so2 vs4 wo fr [] mk [] ch [] to [hdrL psz 1 0 0 ++ List.replicate (psz - 32) 0] [] [] [] [] := ⟨hso2, hB4, hwo, .nil, .nil, .nil, hto', winv0 hps'⟩
    refine' for_rangeF (n := mi) (stored := [Str.ofString "turn"]) (ps₀ := []) (led₀ := led src so2 pg vs4 1 wd wo fr [] 0 mk [] 0 ch [] 0 to ++ ((fxl st std sp pool pd fl fd dl pg psz sa1 sa2 sa3 a1 a2 c1 sk1 sk2 sk3 stk k1 k2 c2 sn pn c3) ++ [])) (LawJ w src pg wd mk ch psz (fxl st std sp pool pd fl fd dl pg psz sa1 sa2 sa3 a1 a2 c1 sk1 sk2 sk3 stk k1 k2 c2 sn pn c3))
      ?vh F8 ?vN (by assumption) rfl (by omega) ?vps ?vj ?vt ?vd
    case vh => k_extra "my hh"
    case vps => exact List.forall_mem_nil _
    case vN => exact N8.perm (by simp only [led, fxl, List.cons_append, List.nil_append, List.append_nil]; k_extra "my sub")
    case vj => exact ⟨_, _, _, _, _, _, _, _, _, _, _, _, _, _, _, _, _, [], rfl, rfl, W0, hnd, by rw [List.append_nil]; exact off_of hfa, Nat.le_refl _⟩
    case vt =>
      rintro i ti ps2 led2 u h tk I oI hi ⟨so, vs, n, wo3, fr3, fvs, nf, mvs, nm, cvs, nc, to3, P, Fl, frl, mkl, chl, still, rfl, rfl, W, nd, off, hl⟩ Fw Nw ne
      clear F8 N8 hnd hfa W0
      have hss : ∀ q ∈ still, q.1 ≠ src := fun q hq e => off q (List.mem_append_right _ hq) (by rw [e]; exact .head _)
      have aF := off_ap2 (a := (fxl st std sp pool pd fl fd dl pg psz sa1 sa2 sa3 a1 a2 c1 sk1 sk2 sk3 stk k1 k2 c2 sn pn c3)) (fun q hq => off q (List.mem_append_left _ hq))
      have aI : ApAll I (led src so pg vs n wd wo3 fr3 fvs nf mk mvs nm ch cvs nc to3 ++ (fxl st std sp pool pd fl fd dl pg psz sa1 sa2 sa3 a1 a2 c1 sk1 sk2 sk3 stk k1 k2 c2 sn pn c3)) := apAll_of fun r hr => (NeAll.all ne r (by
        rcases List.mem_append.mp hr with h | h
        · exact List.mem_append_left _ h
        · exact List.mem_append_right _ (List.mem_append_left _ h))).symm
      have Nw' := Nw
      clear Nw
      refine apNd_I nd ?_
      dsimp only [led]
      k_extra "my imp"
      refine ap2_I aF ?_
      dsimp only [led, fxl]
      k_extra "my imp"
      refine apI_all aI ?_
      dsimp only [led, fxl, List.cons_append, List.nil_append]
      k_extra "my imp"
      simp only [led, fxl, List.cons_append, List.nil_append] at Nw'
      have hs := W.src
      k_extra "my stepsD"
      with_reducible rename News _ _ _ _ => Nd
      with_reducible rename Fr _ _ _ _ => Fd
      refine wpAny_call ?_
      refine' deed_call (others := (I, oI) :: ((fxl st std sp pool pd fl fd dl pg psz sa1 sa2 sa3 a1 a2 c1 sk1 sk2 sk3 stk k1 k2 c2 sn pn c3) ++ still)) (fx := (fxl st std sp pool pd fl fd dl pg psz sa1 sa2 sa3 a1 a2 c1 sk1 sk2 sk3 stk k1 k2 c2 sn pn c3)) (still := still) (so := so') (n := n) (nf := nf) (nm := nm) (nc := nc) hdf' B (Around.frames_deeper (Below.stack B)) rfl rfl (by k_extra "my depth") XB TB Fd Nd ?ws ?won (off_here ne off) nd hx ?wfx ?wst ⟨hs', W.pages, W.wd, W.free, W.marks, W.chains, W.table, W.inv⟩ (by omega) ?wk
      case ws => simp only [led]; k_extra "my sub"
      case won => simp only [fxl, List.cons_append, List.nil_append]; k_extra "my sub"
      case wfx => exact fun q hq => .tail _ (List.mem_append_left _ hq)
      case wst => exact fun q hq => .tail _ (List.mem_append_right _ hq)
      case wk =>
        intro so3 vs3 n3 wo4 fr4 fvs3 nf3 mvs3 nm3 cvs3 nc3 to4 ex P3 Fl3 frl3 mkl3 chl3 h3 tk3 W3 hl3 F3 N3 nd3 off3 ne3
        clear Fd Nd
        repeat (with_reducible rename (Ap _ _) => hclr; clear hclr)
        k_extra "my stepsD"
        · with_reducible rename News _ _ _ _ => Nd
          with_reducible rename Fr _ _ _ _ => Fd
          refine wpAny_call ?_
          refine' right_call (others := ex ++ ((I, oI) :: ((fxl st std sp pool pd fl fd dl pg psz sa1 sa2 sa3 a1 a2 c1 sk1 sk2 sk3 stk k1 k2 c2 sn pn c3) ++ still))) (fx := (fxl st std sp pool pd fl fd dl pg psz sa1 sa2 sa3 a1 a2 c1 sk1 sk2 sk3 stk k1 k2 c2 sn pn c3)) (still := ex ++ still) B (Around.frames_deeper (Below.stack B)) rfl rfl (by k_extra "my depth") X T Fd Nd ?ys ?yon off3 nd3 hx ?yfx ?yst W3 (by omega) ?yk
          case ys => exact fun q hq => List.mem_append_left _ hq
          case yon => exact fun q hq => List.mem_append_right _ hq
          case yfx => exact fun q hq => List.mem_append_right _ (.tail _ (List.mem_append_left _ hq))
          case yst => exact fun q hq => (List.mem_append.mp hq).elim (List.mem_append_left _) fun h => List.mem_append_right _ (.tail _ (List.mem_append_right _ h))
          case yk =>
            intro so4 h4 tk4 W4 F4 N4
            clear Fd Nd
            k_extra "my stepsD"
            show TurnEndG _ _ _ _ _ _ _ _
            try dsimp only
            refine TurnEndG.intro (ps := []) ⟨rfl, _, _, _, _, _, _, _, _, _, _, _, _, _, _, _, _, _, ex ++ still, rfl, rfl, W4, nd3, fun q hq => off3 q (shuf2 q hq), by omega⟩ (by k_asm) N4 (List.mem_append_right _ (List.mem_append_right _ (.head _))) shuf (ne_here ne off3 ne3) (List.forall_mem_nil _) ?_
            k_extra "my stored"
        · with_reducible rename News _ _ _ _ => Nd
          show TurnEndG _ _ _ _ _ _ _ _
          try dsimp only
          refine TurnEndG.intro (ps := []) ⟨rfl, _, _, _, _, _, _, _, _, _, _, _, _, _, _, _, _, _, ex ++ still, rfl, rfl, W3, nd3, fun q hq => off3 q (shuf2 q hq), by omega⟩ (by k_asm) Nd (List.mem_append_right _ (List.mem_append_right _ (.head _))) shuf (ne_here ne off3 ne3) (List.forall_mem_nil _) ?_
          k_extra "my stored"
    case vd =>
      rintro ps2 led2 u h tk ⟨so, vs, n, wo3, fr3, fvs, nf, mvs, nm, cvs, nc, to3, P, Fl, frl, mkl, chl, still, rfl, rfl, W, nd, off, hl⟩ Fw Nw
      clear F8 N8 hnd hfa W0
      obtain ⟨R, hR⟩ : ∃ R : List (Addr × Obj), R = (wd, wo3) :: (mk, listOf mvs.toArray nm) :: (ch, listOf cvs.toArray nc) :: (449, to3) :: ((fxl st std sp pool pd fl fd dl pg psz sa1 sa2 sa3 a1 a2 c1 sk1 sk2 sk3 stk k1 k2 c2 sn pn c3) ++ still) := ⟨_, rfl⟩
      have hnp : ∀ q ∈ R, q.1 ≠ pg := fun q hq => by
        have n1 := nd.2.1
        have hall : ∀ q ∈ R, q.1 ≠ pg := by
          rw [hR]
          exact all_cons (Ap.en n1.1) (all_cons (Ap.en n1.2.2.1) (all_cons (Ap.en n1.2.2.2.1) (all_cons (Ap.en n1.2.2.2.2.1) fun q hq e => off q hq (by rw [e]; exact .tail _ (.head _)))))
        exact hall q hq
      have hwd' := W.wd
      unfold IsWd at hwd'
      have hml := W.marks.length
      have hcl := W.chains.length
      have hsize := W.inv.size
      have hfx : ∀ q ∈ (fxl st std sp pool pd fl fd dl pg psz sa1 sa2 sa3 a1 a2 c1 sk1 sk2 sk3 stk k1 k2 c2 sn pn c3), q ∈ R := fun q hq => by rw [hR]; exact .tail _ (.tail _ (.tail _ (.tail _ (List.mem_append_left _ hq))))
      have hst : ∀ q ∈ still, q ∈ R := fun q hq => by rw [hR]; exact .tail _ (.tail _ (.tail _ (.tail _ (List.mem_append_right _ hq))))
      have N1 : News g L' h ((pg, listOf vs.toArray n) :: R) := News.perm Nw (by
        rw [hR]
        exact sub_cons (.tail _ (.head _)) (sub_cons (.tail _ (.tail _ (.head _))) (sub_cons (.tail _ (.tail _ (.tail _ (.tail _ (.head _))))) (sub_cons (.tail _ (.tail _ (.tail _ (.tail _ (.tail _ (.head _)))))) (sub_cons (.tail _ (.tail _ (.tail _ (.tail _ (.tail _ (.tail _ (.head _))))))) fun q hq => .tail _ (.tail _ (.tail _ (.tail _ (.tail _ (.tail _ (.tail _ hq)))))))))))
      clear Nw nd off
      try dsimp only
      have N2 := N1
      rw [hR] at N2
      simp only [fxl, List.cons_append, List.nil_append] at N2
      k_extra "my stepsE"
      refine For_here ?_
      k_extra "my stepsE"
      try dsimp only
      with_reducible rename News _ _ _ _ => N5
      with_reducible rename Fr _ _ _ _ => F5
      have N6 := news_cast (l' := (pg, listOf vs.toArray n) :: R) N5 (by rw [hR]; rfl)
      refine' for_listF (stored := [Str.ofString "page", Str.ofString "octets"]) (ps₀ := []) (led₀ := (pg, listOf vs.toArray n) :: R) (vs := mvs) (nl := nm)
        (MarkJ psz pg n R P frl mkl chl)
        ?uh F5 N6 ?um ?ups ?uj ?ut ?ud
      case uh => k_extra "my hh"
      case ups => exact List.forall_mem_nil _
      case um => rintro i ps2 led2 ⟨_, _, _, _, rfl, _⟩; rw [hR]; exact .tail _ (.tail _ (.head _))
      case uj => exact ⟨vs, P, Fl, rfl, rfl, W.pages, rfl, by rw [List.take_zero, List.map_nil, List.append_nil, List.drop_zero]; exact W.inv⟩
      case ut =>
        rintro i v ps2 led2 u2 h3 tk3 I oI hi hv ⟨vs2, P2, Fl2, rfl, rfl, hB2, hP2, WI⟩ Fw2 Nw2 ne
        clear F5 N5 N6
        have hi2 : i < mkl.length := by omega
        refine W.marks.getK (i := i) (pn := mkl[i].1) (o := mkl[i].2) (List.getElem?_eq_getElem hi2) ?_; intro T2 uo ub n2 e2 z2
        rw [hv] at e2
        cases e2
        have hmx := WI.marked (x := mkl[i]) (by rw [List.drop_eq_getElem_cons hi2]; exact .head _)
        obtain ⟨q1, q2, q3⟩ := hmx
        have hgive := fun P' F' => WI.giveD (P' := P') (F' := F') hi2
        have htm : (mkl.take (i + 1)).map (fun x : Nat × List UInt8 => x.1) = (mkl.take i).map (fun x : Nat × List UInt8 => x.1) ++ [mkl[i].1] := by
          rw [List.take_add_one, List.getElem?_eq_getElem hi2, List.map_append]; rfl
        have hps2 : 64 ≤ psz ∧ psz ≤ 128 := by omega
        generalize mkl[i].1 = pgn at *
        generalize mkl[i].2 = oc at *
        have N7 := News.perm (news' := (T2, tupOf (.int (pgn : Nat) uo) (.bytes (List.toArray oc) ub) n2) :: (I, oI) :: (pg, listOf vs2.toArray n) :: R) Nw2 (fun q hq => by
          rcases List.mem_cons.mp hq with rfl | hq
          · exact .tail _ (.tail _ (hst _ z2))
          · exact hq)
        have hnI : ∀ q ∈ (I, oI) :: R, q.1 ≠ pg := List.forall_mem_cons.mpr ⟨ne.1, hnp⟩
        have N8 := N7
        clear Nw2
        rw [hR] at N8
        simp only [fxl, tupOf, List.cons_append, List.nil_append] at N8
        k_extra "my stepsE"
        with_reducible rename News _ _ _ _ => N8
        with_reducible rename Fr _ _ _ _ => F8
        have N7 := news_cast (l' := (T2, tupOf (.int (pgn : Nat) uo) (.bytes (List.toArray oc) ub) n2) :: (I, oI) :: (pg, listOf vs2.toArray n) :: R) N8 (by rw [hR]; rfl)
        refine give_call (fx := (fxl st std sp pool pd fl fd dl pg psz sa1 sa2 sa3 a1 a2 c1 sk1 sk2 sk3 stk k1 k2 c2 sn pn c3)) B (Around.frames_deeper (Below.stack B)) rfl rfl (by k_extra "my depth") X T F8 N7 (.tail _ (.tail _ (.head _))) hx (fun q hq => .tail _ (.tail _ (.tail _ (hfx q hq)))) (fun q hq => hnp q (hfx q hq)) hB2 WI.db q1 q2 q3 ?_
        intro vs3 P3 Fl3 h4 tk4 hB3 hG F9 N9
        have N10 := N9 ((I, oI) :: R) (fun q hq => .tail _ (by
          rcases List.mem_cons.mp hq with rfl | hq
          · exact .head _
          · exact .tail _ (.tail _ hq))) hnI
        clear N9 N7 N8 F8
        k_extra "my stepsE"
        show TurnEndG _ _ _ _ _ _ _ _
        try dsimp only
        refine TurnEndG.intro (ps := []) ⟨rfl, vs3, P3, Fl3, rfl, rfl, hB3, hG.2.1.trans hP2, by rw [htm, ← List.append_assoc]; exact hgive _ _ hG⟩ (by k_asm) N10 (.tail _ (.head _)) (fun q hq => by
          rcases List.mem_cons.mp hq with rfl | hq
          · exact .head _
          · exact .tail _ (.tail _ hq)) ⟨ne.1, ne.2⟩ (List.forall_mem_nil _) ?_
        k_extra "my stored"
      case ud =>
        rintro ps2 led2 u2 h3 tk3 ⟨vs2, P2, Fl2, rfl, rfl, hB2, hP2, WI⟩ Fw2 Nw2
        clear F5 N5 N6
        rw [List.drop_of_length_le (by omega)] at WI
        generalize frl ++ (mkl.take mvs.length).map (fun x : Nat × List UInt8 => x.1) = frl2 at *
        try dsimp only
        have N8 := Nw2
        rw [hR] at N8
        simp only [fxl, List.cons_append, List.nil_append] at N8
        clear Nw2
        k_extra "my stepsE"
        refine For_here ?_
        k_extra "my stepsE"
        try dsimp only
        with_reducible rename News _ _ _ _ => N5
        with_reducible rename Fr _ _ _ _ => F5
        have N6 := news_cast (l' := (pg, listOf vs2.toArray n) :: R) N5 (by rw [hR]; rfl)
        refine' for_listF (stored := [Str.ofString "octets", Str.ofString "pages"]) (ps₀ := []) (led₀ := (pg, listOf vs2.toArray n) :: R) (vs := cvs) (nl := nc)
          (ChainJ psz pg n R P frl2 chl)
          ?th F5 N6 ?tm ?tps ?tj ?tt ?td
        case th => k_extra "my hh"
        case tps => exact List.forall_mem_nil _
        case tm => rintro i ps2 led2 ⟨_, _, _, _, rfl, _⟩; rw [hR]; exact .tail _ (.tail _ (.tail _ (.head _)))
        case tj => exact ⟨vs2, P2, Fl2, rfl, rfl, hB2, hP2, by rw [List.take_zero, List.flatMap_nil, List.append_nil, List.drop_zero]; exact WI⟩
        case tt =>
          rintro i v ps2 led2 u2 h3 tk3 I oI hi hv ⟨vs4, P4, Fl4, rfl, rfl, hB4, hP4, WI⟩ Fw2 Nw2 ne
          clear F5 N5 N6
          have hi2 : i < chl.length := by omega
          refine W.chains.getK (i := i) (o := chl[i].1) (pgs := chl[i].2) (List.getElem?_eq_getElem hi2) ?_; intro T2 uo f2 n2 fvs2 nf2 e2 z2 z3 hI2
          rw [hv] at e2
          cases e2
          have hmem : chl[i] ∈ chl.drop i := by rw [List.drop_eq_getElem_cons hi2]; exact .head _
          obtain ⟨hCh, hpne, hol⟩ := WI.chains _ hmem
          have hnd2 := WI.chain_nd hmem
          have hfree := fun P' F' => WI.freeD (P' := P') (F' := F') hi2
          have htm : (chl.take (i + 1)).flatMap (fun x : List UInt8 × List Nat => x.2) = (chl.take i).flatMap (fun x : List UInt8 × List Nat => x.2) ++ chl[i].2 := by
            rw [List.take_add_one, List.getElem?_eq_getElem hi2, List.flatMap_append]; simp
          generalize chl[i].1 = oc at *
          generalize chl[i].2 = pgs at *
          have hx1 : (nInts pgs)[(0 : Int).toNat]? = some ((hd0 pgs : Nat) : Int) := by
            rcases hpg : pgs with _ | ⟨x, r⟩
            · exact absurd hpg hpne
            · rfl
          clear hpne
          have N7 := News.perm (news' := (T2, tupOf (.bytes (List.toArray oc) uo) (.ref f2) n2) :: (f2, listOf fvs2.toArray nf2) :: (I, oI) :: (pg, listOf vs4.toArray n) :: R) Nw2 (fun q hq => by
            rcases List.mem_cons.mp hq with rfl | hq
            · exact .tail _ (.tail _ (hst _ z2))
            · rcases List.mem_cons.mp hq with rfl | hq
              · exact .tail _ (.tail _ (hst _ z3))
              · exact hq)
          have hnI : ∀ q ∈ (I, oI) :: R, q.1 ≠ pg := List.forall_mem_cons.mpr ⟨ne.1, hnp⟩
          have hI2l := hI2.length
          rw [List.length_map] at hI2l
          have hpl3 : pgs.length < 1000 := by
            have h1 := nodup_bound (List.nodup_append.mp hnd2).1 hCh.mem
            omega
          have N8 := N7
          clear Nw2
          rw [hR] at N8
          simp only [fxl, tupOf, List.cons_append, List.nil_append] at N8
          k_extra "my stepsE"
          with_reducible rename News _ _ _ _ => N8
          with_reducible rename Fr _ _ _ _ => F8
          have N7 := news_cast (l' := (T2, tupOf (.bytes (List.toArray oc) uo) (.ref f2) n2) :: (f2, listOf fvs2.toArray nf2) :: (I, oI) :: (pg, listOf vs4.toArray n) :: R) N8 (by rw [hR]; rfl)
          refine free_call (fx := (fxl st std sp pool pd fl fd dl pg psz sa1 sa2 sa3 a1 a2 c1 sk1 sk2 sk3 stk k1 k2 c2 sn pn c3)) B (Around.frames_deeper (Below.stack B)) rfl rfl (by k_extra "my depth") X T F8 N7 (.tail _ (.tail _ (.tail _ (.head _)))) hx (fun q hq => .tail _ (.tail _ (.tail _ (.tail _ (hfx q hq))))) (fun q hq => hnp q (hfx q hq)) hB4 WI.db hCh hnd2 rfl (by omega) ?_
          intro vs3 P3 Fl3 t3 h4 tk4 hB3 hG F9 N9
          have N10 := N9 ((I, oI) :: R) (fun q hq => .tail _ (.tail _ (by
            rcases List.mem_cons.mp hq with rfl | hq
            · exact .head _
            · exact .tail _ (.tail _ hq)))) hnI
          clear N9 N7 N8 F8
          k_extra "my stepsE"
          show TurnEndG _ _ _ _ _ _ _ _
          try dsimp only
          refine TurnEndG.intro (ps := []) ⟨rfl, vs3, P3, Fl3, rfl, rfl, hB3, hG.2.1.trans hP4, by rw [htm, ← List.append_assoc]; exact hfree _ _ hG⟩ (by k_asm) N10 (.tail _ (.head _)) (fun q hq => by
            rcases List.mem_cons.mp hq with rfl | hq
            · exact .head _
            · exact .tail _ (.tail _ hq)) ⟨ne.1, ne.2⟩ (List.forall_mem_nil _) ?_
          k_extra "my stored"
        case td =>
          rintro ps2 led2 u2 h3 tk3 ⟨vs4, P4, Fl4, rfl, rfl, hB4, hP4, WI⟩ Fw2 Nw2
          clear F5 N5 N6
          rw [List.drop_of_length_le (by omega)] at WI
          have hov := WI.over
          have hvl := hB4.length
          have hpp := WI.db.pos
          have hol := hov.length_eq
          rw [List.length_range'] at hol
          have hnl : (nInts (flPages Fl4)).length < 128 := by rw [List.length_map]; omega
          obtain ⟨pt, ht, _⟩ := W.table
          subst ht
          try dsimp only
          have N8 := Nw2
          rw [hR] at N8
          simp only [fxl, List.cons_append, List.nil_append] at N8
          clear Nw2
          k_extra "my stepsE"
          with_reducible rename News _ _ _ _ => N8
          with_reducible rename Fr _ _ _ _ => F8
          have N7 := news_cast (l' := (pg, listOf vs4.toArray n) :: R) N8 (by rw [hR]; rfl)
          dsimp only [List.append_nil]
          refine pages_call (fx := (fxl st std sp pool pd fl fd dl pg psz sa1 sa2 sa3 a1 a2 c1 sk1 sk2 sk3 stk k1 k2 c2 sn pn c3)) B (Around.frames_deeper (Below.stack B)) rfl rfl (by k_extra "my depth") X T F8 N7 (.head _) hx (fun q hq => .tail _ (hfx q hq)) hB4 WI.db ?_
          intro f3 fvs3 nf3 h4 tk4 hI3 F9 N9 ne9
          have hl3 := hI3.length
          rw [List.length_map] at hl3
          clear N8 F8 N7
          rw [hR] at N9
          simp only [fxl, List.cons_append, List.nil_append] at N9
          k_extra "my stepsE"
          with_reducible rename News _ _ _ _ => N8
          with_reducible rename Fr _ _ _ _ => F8
          dsimp only [List.append_nil]
          refine page_count_call (fx := (fxl st std sp pool pd fl fd dl pg psz sa1 sa2 sa3 a1 a2 c1 sk1 sk2 sk3 stk k1 k2 c2 sn pn c3)) B (Around.frames_deeper (Below.stack B)) rfl rfl (by k_extra "my depth") X T F8 N8 (by k_mem) hx (by simp only [fxl]; k_extra "my sub") (by omega) ?_
          intro t5 h5 tk5 F10 N10
          clear N8 F8
          k_extra "my stepsE"
          have hfin : ns' = nInts (List.range' (2 : Int).toNat ((vs4.length : Int) + 1 - 2).toNat) := by
            refine sorted_eq (hp'.trans ?_) ho' (range_up _ _)
            rw [show ((vs4.length : Int) + 1 - 2) = (vs4.length : Int) - 1 from Int.add_sub_assoc _ 1 2, ar_tn1, hvl]
            exact hov.map _
          rw [decide_eq_true hfin]
          exact k pt _ _ (by k_extra "my post")
end

end Mine
open Mine
theorem PySem.Challenge.cw_nt0105_01_holds : PySem.Challenge.rw_nt0105_01.Holds := by
  w_on
  refine holds_law said_rw fun said => ?_
  refine holds_open (q := qv) (loose := looseB) (Xt := XtB) (XP := XL qv []) (Yf := looksB) (Ya := fun w => goodB w.params) (YP := (kmHook Mine.K asK asK_ok [449]).says) (N := 7078) left_ok K_in (fun w h h' x k => (kmHook Mine.K asK asK_ok [449]).keeps w h h' x k) (fun s e => xl_of s (Bool.and_eq_true_iff.mp e).1) XL.keeps (by rfl) (by rfl) (by rfl) (fun s e => recFacts_of (Bool.and_eq_true_iff.mp e).2) (by rfl) (by first | assumption | decide +kernel) (by decide +kernel) ⟨rfl, rfl, rfl, rfl, rfl, by decide +kernel⟩ ?hw ?hc
  case hw => w_witness2
  case hc =>
    intro w s₀ s₁ mg mb G Y fa o pm cd doc dV kV ho hd hcd hD hmg hg args vals as hpre hlay hrd hwl hlo
    have KX := km_in_of Y
    km_tabs Y
    have X := (Ground.X G).1
    have V := (Ground.X G).2
    refine Ground.open G ?_
    intro T B D TE TW
    try (refine guard_noD D (by decide +kernel) ?_; clear D)
    have e1 := mg_of (n := Str.ofString "law") (v := .ref 466) KX (Top.g T) (by kernel_rfl)
    have e2 : mg (Str.ofString "law") = some (.ref fa) := hmg
    rw [e1] at e2
    cases e2
    clear hmg e1 ho hd hcd V B TE TW
    wrow_args hpre hlay hrd hwl hlo
    with_reducible rename Heap.IsList _ _ _ => hL
    with_reducible rename IntsAre _ _ => hI
    rename (¬ _) => hcd
    have hT9 : TabsAt ([(453, 449)] : List (Addr × Addr)) s₁.heap := List.forall_mem_cons.mpr ⟨⟨codeHd_of_K (c := 453) (P := 449) KX (by kernel_rfl), hT8 449 (.head _)⟩, fun _ h => nomatch h⟩
    have XG := ghost_K hT9 KX (by kernel_rfl)
    have TG := ghost_top hT9 T
    have BG := ghost_below hT9
    have LG := ghost_list hT9 hL
    have hlen := hI.length
    refine enter_call (kn_post hT9 (fun _ _ => rfl) ?_)
    have P : Pre _ _ _ mg mb w callerA (ghostOf s₁.heap [(453, 449)]) [] (ghostOf s₁.heap [(453, 449)]) s₁ [(449, tabObj #[])] :=
      ⟨BG, XG, TG, fun b o e => of_hideAll _ e, Nat.le_of_eq (hideAll_size _ _), fun q hq => by rw [List.mem_singleton.mp hq]; exact ⟨hT8 449 (.head _), hideAll_none _ (.head _)⟩⟩
    refine law_spec P ⟨rfl, by show 301 + 20 * 12 < 900; omega, by show 4 + 100 * 12 < 9000; omega⟩ XG TG LG hI (by omega) rfl ?_
    intro ps h' tk P2
    refine ⟨⟨.inl ⟨.bool true, .bool true, [], rfl, fun _ => rfl, .bool _, ?_, fun _ => ⟨List.nodup_nil, fun _ h => nomatch h⟩⟩, P2.S, rfl, hg⟩, ⟨ps, (P2.N _ (.head _)).1⟩, trivial⟩
    wrow_post
