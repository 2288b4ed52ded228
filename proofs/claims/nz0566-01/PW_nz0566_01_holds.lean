import PyProof.Rows.All
import Wide.All
import OpenK.AllK
import Wide.FinOn
import PySem.Challenge.RW_nz0566_01
open PySem PySem.W PyProof.Rows PySem.Calls
set_option Elab.async false
set_option maxRecDepth 100000
set_option linter.unusedVariables false
namespace Mine
-- Hn
noncomputable abbrev S (s : String) : Str := Str.ofString s
noncomputable abbrev T (s : String) (t : Nat) : Value := .str (Str.ofString s) t
noncomputable abbrev I (i : Int) : Value := .int i 0
noncomputable abbrev E (P : Params) (s : String) (t : Nat) (v : Value) : DictEntry := ⟨PyData.keyHash P (Str.ofString s), .str (Str.ofString s) t, v⟩
/-- the text's statements, by their place -/
noncomputable abbrev tops : List Stmt := PySem.Challenge.pw_nz0566_01.main.body
noncomputable def st (i : Nat) : Stmt := tops.getD i (.Pass default)
noncomputable def stC (i j : Nat) : Stmt := match st i with
  | .ClassDef _ _ _ b _ _ _ _ _ _ _ => b.getD j (.Pass default)
  | s => s
noncomputable def argsOf : Stmt → Arguments
  | .FunctionDef _ a _ _ _ _ _ _ _ _ => a
  | _ => default
noncomputable def bodyOf : Stmt → List Stmt
  | .FunctionDef _ _ b _ _ _ _ _ _ _ => b
  | _ => []
noncomputable def scopeOf : Stmt → Scope
  | .FunctionDef _ _ _ _ _ _ s _ _ _ => s
  | _ => default
/-- two defs as the run leaves them, their parts reckoned out -/
noncomputable def oDeal : Obj := by
  refine (fun (_ : argsOf (st 43) = ?a) (_ : bodyOf (st 43) = ?b) (_ : scopeOf (st 43) = ?s) => (⟨.type "function", none, .func { name := Str.ofString "_law_deal", qualname := Str.ofString "_law_deal", params := ?a, body := .stmts ?b, scope := ?s, globals := 3, closure := [], defaults := .none, kwdefaults := .none, pyModule := .str (Str.ofString "law_nz0566_01") 496, code := .ref 225 }, #[]⟩ : Obj)) ?h1 ?h2 ?h3
  case h1 => conv => lhs; whnf
  case h2 => conv => lhs; whnf
  case h3 => conv => lhs; whnf
noncomputable def oDisk : Obj := by
  refine (fun (_ : argsOf (stC 10 0) = ?a) (_ : bodyOf (stC 10 0) = ?b) (_ : scopeOf (stC 10 0) = ?s) => (⟨.type "function", none, .func { name := Str.ofString "__init__", qualname := Str.ofString "Disk.__init__", params := ?a, body := .stmts ?b, scope := ?s, globals := 3, closure := [], defaults := .none, kwdefaults := .none, pyModule := .str (Str.ofString "z80.disk") 206, code := .ref 63 }, #[]⟩ : Obj)) ?h1 ?h2 ?h3
  case h1 => conv => lhs; whnf
  case h2 => conv => lhs; whnf
  case h3 => conv => lhs; whnf
/-- a def as the run leaves it -/
noncomputable abbrev fO (s : Stmt) (n q md : String) (mt : Nat) (code : Addr) : Obj :=
  ⟨.type "function", none, .func { name := Str.ofString n, qualname := Str.ofString q, params := argsOf s, body := .stmts (bodyOf s), scope := scopeOf s, globals := 3, closure := [], defaults := .none, kwdefaults := .none, pyModule := .str (Str.ofString md) mt, code := .ref code }, #[]⟩
noncomputable abbrev cO (n q : String) (t1 t2 t3 : Nat) (l na : Int) (r1 r2 : Addr) (v3 v4 : Value) (r5 : Addr) (t6 : Int) (t7 : Nat) : Obj :=
  ⟨.type "code", none, .fields #[T n t1, T q t2, T "/claim/cut.py" t3, I l, I na, I 0, I 0, I 3, .ref r1, .bool true, I 181, .ref r2, .none, v3, v4, .ref r5, I t6, I l, T "/claim/cut.py" t7], #[]⟩
/-- the part of the heap that the walk knows -/
noncomputable def KK : Params → Frag := fun P =>
  (nat_lit 3, ⟨.type "dict", none, .dict ([E P "__name__" 165 (T "law_nz0566_01" 496),
    E P "__doc__" 166 (.none),
    E P "__package__" 167 (.none),
    E P "__loader__" 168 (.builtin "__main__.__loader__#opaque"),
    E P "__spec__" 169 (.none),
    E P "__annotations__" 170 (.ref 6),
    E P "__builtins__" 171 (.ref 4),
    E P "__file__" 173 (T "/claim/cut.py" 172),
    E P "__cached__" 174 (.none),
    E P "peek" 196 (.ref 21),
    E P "poke" 205 (.ref 28),
    E P "FREE" 209 (.int 229 208),
    E P "ENTRY_SIZE" 211 (.int 32 210),
    E P "NAME_SIZE" 213 (.int 11 212),
    E P "MAP_AT" 215 (.int 16 214),
    E P "EXTENTS_LOW" 217 (.int 32 216),
    E P "DiskError" 248 (.ref 47),
    E P "Disk" 285 (.ref 67),
    E P "map_slots" 292 (.ref 78),
    E P "map_of" 298 (.ref 83),
    E P "map_octets" 308 (.ref 90),
    E P "EX_AT" 312 (.int 12 311),
    E P "S2_AT" 314 (.int 14 313),
    E P "RC_AT" 316 (.int 15 315),
    E P "CR_AT" 318 (.int 32 317),
    E P "R_AT" 320 (.int 33 319),
    E P "SECOND_AT" 322 (.int 16 321),
    E P "FCB_SIZE" 324 (.int 36 323),
    E P "UNCHANGED" 326 (.int 128 325),
    E P "octets_at" 332 (.ref 95),
    E P "put_octets" 343 (.ref 102),
    E P "name_at" 351 (.ref 109),
    E P "second_name_at" 359 (.ref 116),
    E P "extent_at" 367 (.ref 123),
    E P "set_extent" 376 (.ref 130),
    E P "is_changed" 384 (.ref 137),
    E P "mark_changed" 394 (.ref 144),
    E P "count_at" 402 (.ref 151),
    E P "set_count" 411 (.ref 158),
    E P "current_at" 419 (.ref 165),
    E P "set_current" 428 (.ref 172),
    E P "blocks_at" 437 (.ref 179),
    E P "set_block" 449 (.ref 186),
    E P "take_entry" 458 (.ref 193),
    E P "begin_extent" 467 (.ref 200),
    E P "random_at" 478 (.ref 207),
    E P "set_random" 487 (.ref 214),
    E P "new_fcb" 495 (.ref 221),
    E P "_law_deal" 503 (.ref 226),
    E P "_law_take" 511 (.ref 233),
    E P "_law_put" 523 (.ref 240),
    E P "_law_got" 529 (.ref 245),
    E P "_law_pairs" 535 (.ref 250),
    E P "_law_read_right" 548 (.ref 257),
    E P "_law_deed" 554 (.ref 262),
    E P "law" 560 (.ref 267)] : List DictEntry).toArray 56, #[]⟩) ::
  (nat_lit 20, cO "peek" "peek" 189 190 191 2 2 15 16 (.ref 17) (.ref 18) 19 194 195) ::
  (nat_lit 21, fO (st 1) "peek" "peek" "z80.cpu" 187 20) ::
  (nat_lit 27, cO "poke" "poke" 197 198 199 4 3 22 23 (.ref 24) (.ref 25) 26 203 204) ::
  (nat_lit 28, fO (st 2) "poke" "poke" "z80.cpu" 187 27) ::
  (nat_lit 63, cO "__init__" "Disk.__init__" 261 262 263 19 5 58 59 (.ref 60) (.ref 61) 62 269 270) ::
  (nat_lit 64, oDisk) ::
  (nat_lit 66, ⟨.type "dict", none, .dict ([E P "__module__" 256 (T "z80.disk" 206),
    E P "__firstlineno__" 260 (.int 17 259),
    E P "__init__" 271 (.ref 64),
    E P "__static_attributes__" 278 (.ref 65),
    E P "__dict__" 280 (.ref 68),
    E P "__weakref__" 282 (.ref 69),
    E P "__doc__" 283 (.none)] : List DictEntry).toArray 4, #[]⟩) ::
  (nat_lit 67, ⟨.type "type", none, .cls { name := S "Disk", bases := [.type "object"], mro := [.ref 67, .type "object"], ns := 66, qualname := S "Disk" }, #[none, none, some (T "Disk" 249), some (T "Disk" 257), some (.builtin "object.__new__"), some (.bool true)]⟩) ::
  (nat_lit 77, cO "map_slots" "map_slots" 286 287 288 28 1 72 73 (.ref 74) (.ref 75) 76 290 291) ::
  (nat_lit 78, fO (st 11) "map_slots" "map_slots" "z80.disk" 206 77) ::
  (nat_lit 82, cO "map_of" "map_of" 293 294 295 30 2 79 80 (.none) (.none) 81 296 297) ::
  (nat_lit 83, fO (st 12) "map_of" "map_of" "z80.disk" 206 82) ::
  (nat_lit 89, cO "map_octets" "map_octets" 299 300 301 34 2 84 85 (.ref 86) (.ref 87) 88 306 307) ::
  (nat_lit 90, fO (st 13) "map_octets" "map_octets" "z80.disk" 206 89) ::
  (nat_lit 94, cO "octets_at" "octets_at" 327 328 329 50 3 91 92 (.none) (.none) 93 330 331) ::
  (nat_lit 95, fO (st 23) "octets_at" "octets_at" "z80.fcb" 309 94) ::
  (nat_lit 101, cO "put_octets" "put_octets" 333 334 335 52 3 96 97 (.ref 98) (.ref 99) 100 341 342) ::
  (nat_lit 102, fO (st 24) "put_octets" "put_octets" "z80.fcb" 309 101) ::
  (nat_lit 108, cO "name_at" "name_at" 344 345 346 55 2 103 104 (.ref 105) (.ref 106) 107 349 350) ::
  (nat_lit 109, fO (st 25) "name_at" "name_at" "z80.fcb" 309 108) ::
  (nat_lit 115, cO "second_name_at" "second_name_at" 352 353 354 57 2 110 111 (.ref 112) (.ref 113) 114 357 358) ::
  (nat_lit 116, fO (st 26) "second_name_at" "second_name_at" "z80.fcb" 309 115) ::
  (nat_lit 122, cO "extent_at" "extent_at" 360 361 362 59 2 117 118 (.ref 119) (.ref 120) 121 365 366) ::
  (nat_lit 123, fO (st 27) "extent_at" "extent_at" "z80.fcb" 309 122) ::
  (nat_lit 129, cO "set_extent" "set_extent" 368 369 370 61 3 124 125 (.ref 126) (.ref 127) 128 374 375) ::
  (nat_lit 130, fO (st 28) "set_extent" "set_extent" "z80.fcb" 309 129) ::
  (nat_lit 136, cO "is_changed" "is_changed" 377 378 379 64 2 131 132 (.ref 133) (.ref 134) 135 382 383) ::
  (nat_lit 137, fO (st 29) "is_changed" "is_changed" "z80.fcb" 309 136) ::
  (nat_lit 143, cO "mark_changed" "mark_changed" 385 386 387 66 3 138 139 (.ref 140) (.ref 141) 142 392 393) ::
  (nat_lit 144, fO (st 30) "mark_changed" "mark_changed" "z80.fcb" 309 143) ::
  (nat_lit 150, cO "count_at" "count_at" 395 396 397 69 2 145 146 (.ref 147) (.ref 148) 149 400 401) ::
  (nat_lit 151, fO (st 31) "count_at" "count_at" "z80.fcb" 309 150) ::
  (nat_lit 157, cO "set_count" "set_count" 403 404 405 71 3 152 153 (.ref 154) (.ref 155) 156 409 410) ::
  (nat_lit 158, fO (st 32) "set_count" "set_count" "z80.fcb" 309 157) ::
  (nat_lit 164, cO "current_at" "current_at" 412 413 414 73 2 159 160 (.ref 161) (.ref 162) 163 417 418) ::
  (nat_lit 165, fO (st 33) "current_at" "current_at" "z80.fcb" 309 164) ::
  (nat_lit 171, cO "set_current" "set_current" 420 421 422 75 3 166 167 (.ref 168) (.ref 169) 170 426 427) ::
  (nat_lit 172, fO (st 34) "set_current" "set_current" "z80.fcb" 309 171) ::
  (nat_lit 178, cO "blocks_at" "blocks_at" 429 430 431 77 3 173 174 (.ref 175) (.ref 176) 177 435 436) ::
  (nat_lit 179, fO (st 35) "blocks_at" "blocks_at" "z80.fcb" 309 178) ::
  (nat_lit 185, cO "set_block" "set_block" 438 439 440 79 5 180 181 (.ref 182) (.ref 183) 184 447 448) ::
  (nat_lit 186, fO (st 36) "set_block" "set_block" "z80.fcb" 309 185) ::
  (nat_lit 192, cO "take_entry" "take_entry" 450 451 452 83 3 187 188 (.ref 189) (.ref 190) 191 456 457) ::
  (nat_lit 193, fO (st 37) "take_entry" "take_entry" "z80.fcb" 309 192) ::
  (nat_lit 199, cO "begin_extent" "begin_extent" 459 460 461 86 3 194 195 (.ref 196) (.ref 197) 198 465 466) ::
  (nat_lit 200, fO (st 38) "begin_extent" "begin_extent" "z80.fcb" 309 199) ::
  (nat_lit 206, cO "random_at" "random_at" 468 469 470 90 2 201 202 (.ref 203) (.ref 204) 205 476 477) ::
  (nat_lit 207, fO (st 39) "random_at" "random_at" "z80.fcb" 309 206) ::
  (nat_lit 213, cO "set_random" "set_random" 479 480 481 93 3 208 209 (.ref 210) (.ref 211) 212 485 486) ::
  (nat_lit 214, fO (st 40) "set_random" "set_random" "z80.fcb" 309 213) ::
  (nat_lit 220, cO "new_fcb" "new_fcb" 488 489 490 95 2 215 216 (.ref 217) (.ref 218) 219 493 494) ::
  (nat_lit 221, fO (st 41) "new_fcb" "new_fcb" "z80.fcb" 309 220) ::
  (nat_lit 225, cO "_law_deal" "_law_deal" 498 499 500 98 1 222 223 (.none) (.none) 224 501 502) ::
  (nat_lit 226, oDeal) ::
  (nat_lit 232, cO "_law_take" "_law_take" 504 505 506 104 2 227 228 (.ref 229) (.ref 230) 231 509 510) ::
  (nat_lit 233, fO (st 44) "_law_take" "_law_take" "law_nz0566_01" 496 232) ::
  (nat_lit 239, cO "_law_put" "_law_put" 512 513 514 110 3 234 235 (.ref 236) (.ref 237) 238 521 522) ::
  (nat_lit 240, fO (st 45) "_law_put" "_law_put" "law_nz0566_01" 496 239) ::
  (nat_lit 244, cO "_law_got" "_law_got" 524 525 526 115 3 241 242 (.none) (.none) 243 527 528) ::
  (nat_lit 245, fO (st 46) "_law_got" "_law_got" "law_nz0566_01" 496 244) ::
  (nat_lit 249, cO "_law_pairs" "_law_pairs" 530 531 532 117 1 246 247 (.none) (.none) 248 533 534) ::
  (nat_lit 250, fO (st 47) "_law_pairs" "_law_pairs" "law_nz0566_01" 496 249) ::
  (nat_lit 256, cO "_law_read_right" "_law_read_right" 536 537 538 119 4 251 252 (.ref 253) (.ref 254) 255 546 547) ::
  (nat_lit 257, fO (st 48) "_law_read_right" "_law_read_right" "law_nz0566_01" 496 256) ::
  (nat_lit 261, cO "_law_deed" "_law_deed" 549 550 551 126 5 258 259 (.none) (.none) 260 552 553) ::
  (nat_lit 262, fO (st 49) "_law_deed" "_law_deed" "law_nz0566_01" 496 261) ::
  (nat_lit 266, cO "law" "law" 555 556 557 165 1 263 264 (.none) (.none) 265 558 559) ::
  (nat_lit 267, fO (st 50) "law" "law" "law_nz0566_01" 496 266) :: []
noncomputable def KA : List Addr := [3, 20, 21, 27, 28, 63, 64, 66, 67, 77, 78, 82, 83, 89, 90, 94, 95, 101, 102, 108, 109, 115, 116, 122, 123, 129, 130, 136, 137, 143, 144, 150, 151, 157, 158, 164, 165, 171, 172, 178, 179, 185, 186, 192, 193, 199, 200, 206, 207, 213, 214, 220, 221, 225, 226, 232, 233, 239, 240, 244, 245, 249, 250, 256, 257, 261, 262, 266, 267]
/-- the view: the law's def alone; the other names are loose -/
noncomputable abbrev Rw : OpenRow := PySem.Challenge.rw_nz0566_01.row
noncomputable abbrev Pw : Program := Rw.prog
noncomputable def VW : Program := view Pw [50]
noncomputable def LS : List Str := [S "peek", S "poke", S "FREE", S "ENTRY_SIZE", S "NAME_SIZE", S "MAP_AT", S "EXTENTS_LOW", S "DiskError", S "Disk", S "map_slots", S "map_of", S "map_octets", S "EX_AT", S "S2_AT", S "RC_AT", S "CR_AT", S "R_AT", S "SECOND_AT", S "FCB_SIZE", S "UNCHANGED", S "octets_at", S "put_octets", S "name_at", S "second_name_at", S "extent_at", S "set_extent", S "is_changed", S "mark_changed", S "count_at", S "set_count", S "current_at", S "set_current", S "blocks_at", S "set_block", S "take_entry", S "begin_extent", S "random_at", S "set_random", S "new_fcb", S "_law_deal", S "_law_take", S "_law_put", S "_law_got", S "_law_pairs", S "_law_read_right", S "_law_deed"]
theorem ka_ok : ∀ P, KA = (KK P).map (·.1) := fun _ => by kernel_rfl
-- Hp
/-- a list of objects as a tree -/
noncomputable def treeOf : List Obj → BT → Nat → BT
  | [], t, _ => t
  | o :: r, t, n => treeOf r (t.ins n o) (n + 1)
noncomputable def treeOk : List Obj → BT → Nat → Bool
  | [], _, _ => true
  | o :: r, t, n => ((t.ins n o).get n).isSome && treeOk r (t.ins n o) (n + 1)
theorem treeOf_abs {life : Life} : ∀ (l : List Obj) (t : BT) (n : Nat), treeOk l t n = true → absHeap (treeOf l t n) (n + l.length) life = ⟨(absHeap t n life).objs ++ l.toArray, life⟩
  | [], t, n, _ => by
    show absHeap t n life = ⟨(absHeap t n life).objs ++ #[], life⟩
    rw [Array.append_empty]; rfl
  | o :: r, t, n, h => by
    unfold treeOk at h
    obtain ⟨h1, h2⟩ := Bool.and_eq_true_iff.mp h
    have e := treeOf_abs (life := life) r (t.ins n o) (n + 1) h2
    rw [absHeap_ins h1] at e
    show absHeap (treeOf r (t.ins n o) (n + 1)) (n + (r.length + 1)) life = _
    rw [show n + (r.length + 1) = n + 1 + r.length by omega, e]
    show Heap.mk ((absHeap t n life).objs.push o ++ r.toArray) life = _
    congr 1
    apply Array.ext'
    simp
theorem abs_nil (life : Life) : absHeap .nil 0 life = ⟨#[], life⟩ := rfl
theorem abs_list {l : List Obj} {n : Nat} {life : Life} {g : Array GenState} {d : Drawn} {k : Nat} {os : OsState} (ok : treeOk l .nil 0 = true) (hn : l.length = n) : SharedT.abs ⟨treeOf l .nil 0, n, life, g, d, k, os⟩ = ⟨⟨l.toArray, life⟩, g, d, k, os⟩ := by
  have e := treeOf_abs (life := life) l .nil 0 ok
  rw [Nat.zero_add, hn, abs_nil] at e
  show Shared.mk (absHeap (treeOf l .nil 0) n life) g d k os = _
  rw [e]
  show Shared.mk ⟨#[] ++ l.toArray, life⟩ g d k os = _
  rw [Array.empty_append]
noncomputable abbrev gE (P : Params) : List DictEntry := [E P "__doc__" 166 (.none), E P "__package__" 167 (.none), E P "__loader__" 168 (.builtin "__main__.__loader__#opaque"), E P "__spec__" 169 (.none), E P "__annotations__" 170 (.ref 6), E P "__builtins__" 171 (.ref 4), E P "__file__" 173 (T "/claim/cut.py" 172), E P "__cached__" 174 (.none), E P "peek" 196 (.ref 21), E P "poke" 205 (.ref 28), E P "FREE" 209 (.int 229 208), E P "ENTRY_SIZE" 211 (.int 32 210), E P "NAME_SIZE" 213 (.int 11 212), E P "MAP_AT" 215 (.int 16 214), E P "EXTENTS_LOW" 217 (.int 32 216), E P "DiskError" 248 (.ref 47), E P "Disk" 285 (.ref 67), E P "map_slots" 292 (.ref 78), E P "map_of" 298 (.ref 83), E P "map_octets" 308 (.ref 90), E P "EX_AT" 312 (.int 12 311), E P "S2_AT" 314 (.int 14 313), E P "RC_AT" 316 (.int 15 315), E P "CR_AT" 318 (.int 32 317), E P "R_AT" 320 (.int 33 319), E P "SECOND_AT" 322 (.int 16 321), E P "FCB_SIZE" 324 (.int 36 323), E P "UNCHANGED" 326 (.int 128 325), E P "octets_at" 332 (.ref 95), E P "put_octets" 343 (.ref 102), E P "name_at" 351 (.ref 109), E P "second_name_at" 359 (.ref 116), E P "extent_at" 367 (.ref 123), E P "set_extent" 376 (.ref 130), E P "is_changed" 384 (.ref 137), E P "mark_changed" 394 (.ref 144), E P "count_at" 402 (.ref 151), E P "set_count" 411 (.ref 158), E P "current_at" 419 (.ref 165), E P "set_current" 428 (.ref 172), E P "blocks_at" 437 (.ref 179), E P "set_block" 449 (.ref 186), E P "take_entry" 458 (.ref 193), E P "begin_extent" 467 (.ref 200), E P "random_at" 478 (.ref 207), E P "set_random" 487 (.ref 214), E P "new_fcb" 495 (.ref 221), E P "_law_deal" 503 (.ref 226), E P "_law_take" 511 (.ref 233), E P "_law_put" 523 (.ref 240), E P "_law_got" 529 (.ref 245), E P "_law_pairs" 535 (.ref 250), E P "_law_read_right" 548 (.ref 257), E P "_law_deed" 554 (.ref 262), E P "law" 560 (.ref 267)]
noncomputable def ob11 : Params → Obj := fun _ => ⟨.type "tuple", none, .seq [].toArray 0, [].toArray⟩
noncomputable def ob12 : Params → Obj := fun _ => ⟨.none, none, .fields [].toArray, [].toArray⟩
noncomputable def ob13 : Params → Obj := fun _ => ⟨.type "code", none, .fields [T "<module>" 182, T "<module>" 183, T "/claim/cut.py" 184, I 1, I 0, I 0, I 0, I 0, .ref 11, .bool false, I 181, .ref 12, .none, .none, .none, .none, I 185, I 1, T "/claim/cut.py" 186].toArray, [].toArray⟩
noncomputable def ob14 : Params → Obj := fun _ => ⟨.type "frame", none, .plain, [some (.ref 13), some (.ref 3), some (.ref 3), none, some (T "__main__" 164), none, some (.ref 0)].toArray⟩
noncomputable def ob3 : Params → Obj := fun P => ⟨.type "dict", none, .dict (E P "__name__" 165 (T "z80.disk" 206) :: (gE P).take 15).toArray 16, [].toArray⟩
noncomputable def ob12a : Params → Obj := fun _ => ⟨.none, none, .fields [I 2, I 0, .ref 20, I 4, I 0, .ref 27].toArray, [].toArray⟩
noncomputable def ob15 : Params → Obj := fun _ => ⟨.type "tuple", none, .seq [].toArray 0, [].toArray⟩
noncomputable def ob16 : Params → Obj := fun _ => ⟨.none, none, .fields [].toArray, [].toArray⟩
noncomputable def ob17 : Params → Obj := fun _ => ⟨.type "tuple", none, .seq [T "memory" 192, T "at" 193].toArray 0, [].toArray⟩
noncomputable def ob18 : Params → Obj := fun _ => ⟨.type "tuple", none, .seq [].toArray 0, [].toArray⟩
noncomputable def ob19 : Params → Obj := fun _ => ⟨.none, none, .func { name := S "peek", qualname := S "peek", params := argsOf (st 1), body := .stmts (bodyOf (st 1)), scope := scopeOf (st 1), globals := 0, closure := [], defaults := .none, kwdefaults := .none, doc := .none, pyModule := .none, annotations := none, code := .none, closureTuple := .none, builtins := 0 }, [].toArray⟩
noncomputable def ob20 : Params → Obj := fun _ => ⟨.type "code", none, .fields [T "peek" 189, T "peek" 190, T "/claim/cut.py" 191, I 2, I 2, I 0, I 0, I 3, .ref 15, .bool true, I 181, .ref 16, .none, .ref 17, .ref 18, .ref 19, I 194, I 2, T "/claim/cut.py" 195].toArray, [].toArray⟩
noncomputable def ob21 : Params → Obj := fun _ => ⟨.type "function", none, .func { name := S "peek", qualname := S "peek", params := argsOf (st 1), body := .stmts (bodyOf (st 1)), scope := scopeOf (st 1), globals := 3, closure := [], defaults := .none, kwdefaults := .none, doc := .none, pyModule := T "z80.cpu" 187, annotations := none, code := .ref 20, closureTuple := .none, builtins := 0 }, [].toArray⟩
noncomputable def ob22 : Params → Obj := fun _ => ⟨.type "tuple", none, .seq [].toArray 0, [].toArray⟩
noncomputable def ob23 : Params → Obj := fun _ => ⟨.none, none, .fields [].toArray, [].toArray⟩
noncomputable def ob24 : Params → Obj := fun _ => ⟨.type "tuple", none, .seq [T "memory" 200, T "at" 201, T "octet" 202].toArray 0, [].toArray⟩
noncomputable def ob25 : Params → Obj := fun _ => ⟨.type "tuple", none, .seq [].toArray 0, [].toArray⟩
noncomputable def ob26 : Params → Obj := fun _ => ⟨.none, none, .func { name := S "poke", qualname := S "poke", params := argsOf (st 2), body := .stmts (bodyOf (st 2)), scope := scopeOf (st 2), globals := 0, closure := [], defaults := .none, kwdefaults := .none, doc := .none, pyModule := .none, annotations := none, code := .none, closureTuple := .none, builtins := 0 }, [].toArray⟩
noncomputable def ob27 : Params → Obj := fun _ => ⟨.type "code", none, .fields [T "poke" 197, T "poke" 198, T "/claim/cut.py" 199, I 4, I 3, I 0, I 0, I 3, .ref 22, .bool true, I 181, .ref 23, .none, .ref 24, .ref 25, .ref 26, I 203, I 4, T "/claim/cut.py" 204].toArray, [].toArray⟩
noncomputable def ob28 : Params → Obj := fun _ => ⟨.type "function", none, .func { name := S "poke", qualname := S "poke", params := argsOf (st 2), body := .stmts (bodyOf (st 2)), scope := scopeOf (st 2), globals := 3, closure := [], defaults := .none, kwdefaults := .none, doc := .none, pyModule := T "z80.cpu" 187, annotations := none, code := .ref 27, closureTuple := .none, builtins := 0 }, [].toArray⟩
noncomputable def ob2 : Params → Obj := fun P => ⟨.none, none, .dict ([E P "type.__subclasses__.Exception.0" 245 (I 47), E P "type.__subclasses__.Exception.n" 246 (I 1)] : List DictEntry).toArray 2, [].toArray⟩
noncomputable def ob3a : Params → Obj := fun P => ⟨.type "dict", none, .dict (E P "__name__" 165 (T "z80.disk" 206) :: (gE P).take 16).toArray 17, [].toArray⟩
noncomputable def ob12b : Params → Obj := fun _ => ⟨.none, none, .fields [I 2, I 0, .ref 20, I 4, I 0, .ref 27, I 12, I 0, .ref 35].toArray, [].toArray⟩
noncomputable def ob29 : Params → Obj := fun _ => ⟨.type "tuple", none, .seq [.type "Exception"].toArray 0, [].toArray⟩
noncomputable def ob30 : Params → Obj := fun _ => ⟨.type "builtin_function_or_method", none, .fields [.builtin "type.__prepare__", .type "type"].toArray, [].toArray⟩
noncomputable def ob31 : Params → Obj := fun P => ⟨.type "dict", none, .dict ([E P "__module__" 225 (T "z80.disk" 206), E P "__qualname__" 227 (T "DiskError" 226), E P "__firstlineno__" 229 (.int 12 228), E P "__init__" 238 (.ref 44), E P "__static_attributes__" 240 (.ref 45), E P "__classcell__" 241 (.ref 32)] : List DictEntry).toArray 6, [].toArray⟩
noncomputable def ob32 : Params → Obj := fun _ => ⟨.type "cell", none, .cell (some (.ref 47)), [].toArray⟩
noncomputable def ob33 : Params → Obj := fun _ => ⟨.type "tuple", none, .seq [].toArray 0, [].toArray⟩
noncomputable def ob34 : Params → Obj := fun _ => ⟨.none, none, .fields [I 14, I 4, .ref 43].toArray, [].toArray⟩
noncomputable def ob35 : Params → Obj := fun _ => ⟨.type "code", none, .fields [T "DiskError" 220, T "DiskError" 221, T "/claim/cut.py" 222, I 12, I 0, I 0, I 0, I 0, .ref 33, .bool false, I 181, .ref 34, .none, .none, .none, .none, I 223, I 12, T "/claim/cut.py" 224].toArray, [].toArray⟩
noncomputable def ob36 : Params → Obj := fun _ => ⟨.type "frame", none, .plain, [some (.ref 35), some (.ref 3), some (.ref 31), none, some (T "z80.disk" 206), none, some (.ref 0)].toArray⟩
noncomputable def ob37 : Params → Obj := fun _ => ⟨.type "tuple", none, .seq [.ref 32].toArray 0, [].toArray⟩
noncomputable def ob38 : Params → Obj := fun _ => ⟨.type "tuple", none, .seq [T "__class__" 233].toArray 0, [].toArray⟩
noncomputable def ob39 : Params → Obj := fun _ => ⟨.none, none, .fields [].toArray, [].toArray⟩
noncomputable def ob40 : Params → Obj := fun _ => ⟨.type "tuple", none, .seq [T "self" 234, T "word" 235].toArray 0, [].toArray⟩
noncomputable def ob41 : Params → Obj := fun _ => ⟨.type "tuple", none, .seq [].toArray 0, [].toArray⟩
noncomputable def ob42 : Params → Obj := fun _ => ⟨.none, none, .func { name := S "__init__", qualname := S "DiskError.__init__", params := argsOf (stC 9 0), body := .stmts (bodyOf (stC 9 0)), scope := scopeOf (stC 9 0), globals := 0, closure := [], defaults := .none, kwdefaults := .none, doc := .none, pyModule := .none, annotations := none, code := .none, closureTuple := .none, builtins := 0 }, [].toArray⟩
noncomputable def ob43 : Params → Obj := fun _ => ⟨.type "code", none, .fields [T "__init__" 230, T "DiskError.__init__" 231, T "/claim/cut.py" 232, I 14, I 2, I 0, I 0, I 3, .ref 38, .bool true, I 181, .ref 39, .none, .ref 40, .ref 41, .ref 42, I 236, I 14, T "/claim/cut.py" 237].toArray, [].toArray⟩
noncomputable def ob44 : Params → Obj := fun _ => ⟨.type "function", none, .func { name := S "__init__", qualname := S "DiskError.__init__", params := argsOf (stC 9 0), body := .stmts (bodyOf (stC 9 0)), scope := scopeOf (stC 9 0), globals := 3, closure := [(S "__class__", 32)], defaults := .none, kwdefaults := .none, doc := .none, pyModule := T "z80.disk" 206, annotations := none, code := .ref 43, closureTuple := .ref 37, builtins := 0 }, [].toArray⟩
noncomputable def ob45 : Params → Obj := fun _ => ⟨.type "tuple", none, .seq [T "word" 239].toArray 0, [].toArray⟩
noncomputable def ob46 : Params → Obj := fun P => ⟨.type "dict", none, .dict ([E P "__module__" 225 (T "z80.disk" 206), E P "__firstlineno__" 229 (.int 12 228), E P "__init__" 238 (.ref 44), E P "__static_attributes__" 240 (.ref 45), E P "__weakref__" 243 (.ref 48), E P "__doc__" 244 (.none)] : List DictEntry).toArray 4, [].toArray⟩
noncomputable def ob47 : Params → Obj := fun _ => ⟨.type "type", none, .cls { name := S "DiskError", bases := [.type "Exception"], mro := [.ref 47, .type "Exception", .type "BaseException", .type "object"], ns := 46, qualname := S "DiskError", hasDict := true, slotNames := [] }, [some (.ref 29), none, some (T "DiskError" 218), some (T "DiskError" 226), some (.builtin "Exception.__new__"), some (.bool true)].toArray⟩
noncomputable def ob48 : Params → Obj := fun _ => ⟨.type "getset_descriptor", none, .fields [T "__weakref__" 242, .ref 47, .builtin "ExceptionGroup.__weakref__", .none].toArray, [].toArray⟩
noncomputable def ob49 : Params → Obj := fun _ => ⟨.type "super", none, .fields [.ref 47, .ref 47, .ref 47].toArray, [].toArray⟩
noncomputable def ob50 : Params → Obj := fun _ => ⟨.type "builtin_function_or_method", none, .fields [.builtin "object.__init_subclass__", .ref 47].toArray, [].toArray⟩
noncomputable def ob3b : Params → Obj := fun P => ⟨.type "dict", none, .dict (E P "__name__" 165 (T "z80.disk" 206) :: (gE P).take 17).toArray 18, [].toArray⟩
noncomputable def ob12c : Params → Obj := fun _ => ⟨.none, none, .fields [I 2, I 0, .ref 20, I 4, I 0, .ref 27, I 12, I 0, .ref 35, I 17, I 0, .ref 56].toArray, [].toArray⟩
noncomputable def ob51 : Params → Obj := fun _ => ⟨.type "tuple", none, .seq [].toArray 0, [].toArray⟩
noncomputable def ob52 : Params → Obj := fun _ => ⟨.type "builtin_function_or_method", none, .fields [.builtin "type.__prepare__", .type "type"].toArray, [].toArray⟩
noncomputable def ob53 : Params → Obj := fun P => ⟨.type "dict", none, .dict ([E P "__module__" 256 (T "z80.disk" 206), E P "__qualname__" 258 (T "Disk" 257), E P "__firstlineno__" 260 (.int 17 259), E P "__init__" 271 (.ref 64), E P "__static_attributes__" 278 (.ref 65)] : List DictEntry).toArray 5, [].toArray⟩
noncomputable def ob54 : Params → Obj := fun _ => ⟨.type "tuple", none, .seq [].toArray 0, [].toArray⟩
noncomputable def ob55 : Params → Obj := fun _ => ⟨.none, none, .fields [I 19, I 4, .ref 63].toArray, [].toArray⟩
noncomputable def ob56 : Params → Obj := fun _ => ⟨.type "code", none, .fields [T "Disk" 251, T "Disk" 252, T "/claim/cut.py" 253, I 17, I 0, I 0, I 0, I 0, .ref 54, .bool false, I 181, .ref 55, .none, .none, .none, .none, I 254, I 17, T "/claim/cut.py" 255].toArray, [].toArray⟩
noncomputable def ob57 : Params → Obj := fun _ => ⟨.type "frame", none, .plain, [some (.ref 56), some (.ref 3), some (.ref 53), none, some (T "z80.disk" 206), none, some (.ref 0)].toArray⟩
noncomputable def ob58 : Params → Obj := fun _ => ⟨.type "tuple", none, .seq [].toArray 0, [].toArray⟩
noncomputable def ob59 : Params → Obj := fun _ => ⟨.none, none, .fields [].toArray, [].toArray⟩
noncomputable def ob60 : Params → Obj := fun _ => ⟨.type "tuple", none, .seq [T "self" 264, T "blocks" 265, T "block" 266, T "record" 267, T "entries" 268].toArray 0, [].toArray⟩
noncomputable def ob61 : Params → Obj := fun _ => ⟨.type "tuple", none, .seq [].toArray 0, [].toArray⟩
noncomputable def ob62 : Params → Obj := fun _ => ⟨.none, none, .func { name := S "__init__", qualname := S "Disk.__init__", params := argsOf (stC 10 0), body := .stmts (bodyOf (stC 10 0)), scope := scopeOf (stC 10 0), globals := 0, closure := [], defaults := .none, kwdefaults := .none, doc := .none, pyModule := .none, annotations := none, code := .none, closureTuple := .none, builtins := 0 }, [].toArray⟩
noncomputable def ob63 : Params → Obj := fun _ => ⟨.type "code", none, .fields [T "__init__" 261, T "Disk.__init__" 262, T "/claim/cut.py" 263, I 19, I 5, I 0, I 0, I 3, .ref 58, .bool true, I 181, .ref 59, .none, .ref 60, .ref 61, .ref 62, I 269, I 19, T "/claim/cut.py" 270].toArray, [].toArray⟩
noncomputable def ob64 : Params → Obj := fun _ => ⟨.type "function", none, .func { name := S "__init__", qualname := S "Disk.__init__", params := argsOf (stC 10 0), body := .stmts (bodyOf (stC 10 0)), scope := scopeOf (stC 10 0), globals := 3, closure := [], defaults := .none, kwdefaults := .none, doc := .none, pyModule := T "z80.disk" 206, annotations := none, code := .ref 63, closureTuple := .none, builtins := 0 }, [].toArray⟩
noncomputable def ob65 : Params → Obj := fun _ => ⟨.type "tuple", none, .seq [T "block" 272, T "blocks" 273, T "data" 274, T "entries" 275, T "is_read_only" 276, T "record" 277].toArray 0, [].toArray⟩
noncomputable def ob66 : Params → Obj := fun P => ⟨.type "dict", none, .dict ([E P "__module__" 256 (T "z80.disk" 206), E P "__firstlineno__" 260 (.int 17 259), E P "__init__" 271 (.ref 64), E P "__static_attributes__" 278 (.ref 65), E P "__dict__" 280 (.ref 68), E P "__weakref__" 282 (.ref 69), E P "__doc__" 283 (.none)] : List DictEntry).toArray 4, [].toArray⟩
noncomputable def ob67 : Params → Obj := fun _ => ⟨.type "type", none, .cls { name := S "Disk", bases := [.type "object"], mro := [.ref 67, .type "object"], ns := 66, qualname := S "Disk", hasDict := true, slotNames := [] }, [none, none, some (T "Disk" 249), some (T "Disk" 257), some (.builtin "object.__new__"), some (.bool true)].toArray⟩
noncomputable def ob68 : Params → Obj := fun _ => ⟨.type "getset_descriptor", none, .fields [T "__dict__" 279, .ref 67, .builtin "function.__dict__", .builtin "function.__dict__#set"].toArray, [].toArray⟩
noncomputable def ob69 : Params → Obj := fun _ => ⟨.type "getset_descriptor", none, .fields [T "__weakref__" 281, .ref 67, .builtin "ExceptionGroup.__weakref__", .none].toArray, [].toArray⟩
noncomputable def ob70 : Params → Obj := fun _ => ⟨.type "super", none, .fields [.ref 67, .ref 67, .ref 67].toArray, [].toArray⟩
noncomputable def ob71 : Params → Obj := fun _ => ⟨.type "builtin_function_or_method", none, .fields [.builtin "object.__init_subclass__", .ref 67].toArray, [].toArray⟩
noncomputable def ob3c : Params → Obj := fun P => ⟨.type "dict", none, .dict (E P "__name__" 165 (T "z80.fcb" 309) :: (gE P).take 28).toArray 29, [].toArray⟩
noncomputable def ob12d : Params → Obj := fun _ => ⟨.none, none, .fields [I 2, I 0, .ref 20, I 4, I 0, .ref 27, I 12, I 0, .ref 35, I 17, I 0, .ref 56, I 28, I 0, .ref 77, I 30, I 0, .ref 82, I 34, I 0, .ref 89].toArray, [].toArray⟩
noncomputable def ob72 : Params → Obj := fun _ => ⟨.type "tuple", none, .seq [].toArray 0, [].toArray⟩
noncomputable def ob73 : Params → Obj := fun _ => ⟨.none, none, .fields [].toArray, [].toArray⟩
noncomputable def ob74 : Params → Obj := fun _ => ⟨.type "tuple", none, .seq [T "disk" 289].toArray 0, [].toArray⟩
noncomputable def ob75 : Params → Obj := fun _ => ⟨.type "tuple", none, .seq [].toArray 0, [].toArray⟩
noncomputable def ob76 : Params → Obj := fun _ => ⟨.none, none, .func { name := S "map_slots", qualname := S "map_slots", params := argsOf (st 11), body := .stmts (bodyOf (st 11)), scope := scopeOf (st 11), globals := 0, closure := [], defaults := .none, kwdefaults := .none, doc := .none, pyModule := .none, annotations := none, code := .none, closureTuple := .none, builtins := 0 }, [].toArray⟩
noncomputable def ob77 : Params → Obj := fun _ => ⟨.type "code", none, .fields [T "map_slots" 286, T "map_slots" 287, T "/claim/cut.py" 288, I 28, I 1, I 0, I 0, I 3, .ref 72, .bool true, I 181, .ref 73, .none, .ref 74, .ref 75, .ref 76, I 290, I 28, T "/claim/cut.py" 291].toArray, [].toArray⟩
noncomputable def ob78 : Params → Obj := fun _ => ⟨.type "function", none, .func { name := S "map_slots", qualname := S "map_slots", params := argsOf (st 11), body := .stmts (bodyOf (st 11)), scope := scopeOf (st 11), globals := 3, closure := [], defaults := .none, kwdefaults := .none, doc := .none, pyModule := T "z80.disk" 206, annotations := none, code := .ref 77, closureTuple := .none, builtins := 0 }, [].toArray⟩
noncomputable def ob79 : Params → Obj := fun _ => ⟨.type "tuple", none, .seq [].toArray 0, [].toArray⟩
noncomputable def ob80 : Params → Obj := fun _ => ⟨.none, none, .fields [].toArray, [].toArray⟩
noncomputable def ob81 : Params → Obj := fun _ => ⟨.none, none, .func { name := S "map_of", qualname := S "map_of", params := argsOf (st 12), body := .stmts (bodyOf (st 12)), scope := scopeOf (st 12), globals := 0, closure := [], defaults := .none, kwdefaults := .none, doc := .none, pyModule := .none, annotations := none, code := .none, closureTuple := .none, builtins := 0 }, [].toArray⟩
noncomputable def ob82 : Params → Obj := fun _ => ⟨.type "code", none, .fields [T "map_of" 293, T "map_of" 294, T "/claim/cut.py" 295, I 30, I 2, I 0, I 0, I 3, .ref 79, .bool true, I 181, .ref 80, .none, .none, .none, .ref 81, I 296, I 30, T "/claim/cut.py" 297].toArray, [].toArray⟩
noncomputable def ob83 : Params → Obj := fun _ => ⟨.type "function", none, .func { name := S "map_of", qualname := S "map_of", params := argsOf (st 12), body := .stmts (bodyOf (st 12)), scope := scopeOf (st 12), globals := 3, closure := [], defaults := .none, kwdefaults := .none, doc := .none, pyModule := T "z80.disk" 206, annotations := none, code := .ref 82, closureTuple := .none, builtins := 0 }, [].toArray⟩
noncomputable def ob84 : Params → Obj := fun _ => ⟨.type "tuple", none, .seq [].toArray 0, [].toArray⟩
noncomputable def ob85 : Params → Obj := fun _ => ⟨.none, none, .fields [].toArray, [].toArray⟩
noncomputable def ob86 : Params → Obj := fun _ => ⟨.type "tuple", none, .seq [T "disk" 302, T "blocks" 303, T "found" 304, T "block" 305].toArray 0, [].toArray⟩
noncomputable def ob87 : Params → Obj := fun _ => ⟨.type "tuple", none, .seq [].toArray 0, [].toArray⟩
noncomputable def ob88 : Params → Obj := fun _ => ⟨.none, none, .func { name := S "map_octets", qualname := S "map_octets", params := argsOf (st 13), body := .stmts (bodyOf (st 13)), scope := scopeOf (st 13), globals := 0, closure := [], defaults := .none, kwdefaults := .none, doc := .none, pyModule := .none, annotations := none, code := .none, closureTuple := .none, builtins := 0 }, [].toArray⟩
noncomputable def ob89 : Params → Obj := fun _ => ⟨.type "code", none, .fields [T "map_octets" 299, T "map_octets" 300, T "/claim/cut.py" 301, I 34, I 2, I 0, I 0, I 3, .ref 84, .bool true, I 181, .ref 85, .none, .ref 86, .ref 87, .ref 88, I 306, I 34, T "/claim/cut.py" 307].toArray, [].toArray⟩
noncomputable def ob90 : Params → Obj := fun _ => ⟨.type "function", none, .func { name := S "map_octets", qualname := S "map_octets", params := argsOf (st 13), body := .stmts (bodyOf (st 13)), scope := scopeOf (st 13), globals := 3, closure := [], defaults := .none, kwdefaults := .none, doc := .none, pyModule := T "z80.disk" 206, annotations := none, code := .ref 89, closureTuple := .none, builtins := 0 }, [].toArray⟩
noncomputable def ob3d : Params → Obj := fun P => ⟨.type "dict", none, .dict (E P "__name__" 165 (T "z80.fcb" 309) :: (gE P).take 39).toArray 40, [].toArray⟩
noncomputable def ob12e : Params → Obj := fun _ => ⟨.none, none, .fields [I 2, I 0, .ref 20, I 4, I 0, .ref 27, I 12, I 0, .ref 35, I 17, I 0, .ref 56, I 28, I 0, .ref 77, I 30, I 0, .ref 82, I 34, I 0, .ref 89, I 50, I 0, .ref 94, I 52, I 0, .ref 101, I 55, I 0, .ref 108, I 57, I 0, .ref 115, I 59, I 0, .ref 122, I 61, I 0, .ref 129, I 64, I 0, .ref 136, I 66, I 0, .ref 143, I 69, I 0, .ref 150, I 71, I 0, .ref 157, I 73, I 0, .ref 164].toArray, [].toArray⟩
noncomputable def ob91 : Params → Obj := fun _ => ⟨.type "tuple", none, .seq [].toArray 0, [].toArray⟩
noncomputable def ob92 : Params → Obj := fun _ => ⟨.none, none, .fields [].toArray, [].toArray⟩
noncomputable def ob93 : Params → Obj := fun _ => ⟨.none, none, .func { name := S "octets_at", qualname := S "octets_at", params := argsOf (st 23), body := .stmts (bodyOf (st 23)), scope := scopeOf (st 23), globals := 0, closure := [], defaults := .none, kwdefaults := .none, doc := .none, pyModule := .none, annotations := none, code := .none, closureTuple := .none, builtins := 0 }, [].toArray⟩
noncomputable def ob94 : Params → Obj := fun _ => ⟨.type "code", none, .fields [T "octets_at" 327, T "octets_at" 328, T "/claim/cut.py" 329, I 50, I 3, I 0, I 0, I 3, .ref 91, .bool true, I 181, .ref 92, .none, .none, .none, .ref 93, I 330, I 50, T "/claim/cut.py" 331].toArray, [].toArray⟩
noncomputable def ob95 : Params → Obj := fun _ => ⟨.type "function", none, .func { name := S "octets_at", qualname := S "octets_at", params := argsOf (st 23), body := .stmts (bodyOf (st 23)), scope := scopeOf (st 23), globals := 3, closure := [], defaults := .none, kwdefaults := .none, doc := .none, pyModule := T "z80.fcb" 309, annotations := none, code := .ref 94, closureTuple := .none, builtins := 0 }, [].toArray⟩
noncomputable def ob96 : Params → Obj := fun _ => ⟨.type "tuple", none, .seq [].toArray 0, [].toArray⟩
noncomputable def ob97 : Params → Obj := fun _ => ⟨.none, none, .fields [].toArray, [].toArray⟩
noncomputable def ob98 : Params → Obj := fun _ => ⟨.type "tuple", none, .seq [T "memory" 336, T "at" 337, T "octets" 338, T "spot" 339, T "octet" 340].toArray 0, [].toArray⟩
noncomputable def ob99 : Params → Obj := fun _ => ⟨.type "tuple", none, .seq [].toArray 0, [].toArray⟩
noncomputable def ob100 : Params → Obj := fun _ => ⟨.none, none, .func { name := S "put_octets", qualname := S "put_octets", params := argsOf (st 24), body := .stmts (bodyOf (st 24)), scope := scopeOf (st 24), globals := 0, closure := [], defaults := .none, kwdefaults := .none, doc := .none, pyModule := .none, annotations := none, code := .none, closureTuple := .none, builtins := 0 }, [].toArray⟩
noncomputable def ob101 : Params → Obj := fun _ => ⟨.type "code", none, .fields [T "put_octets" 333, T "put_octets" 334, T "/claim/cut.py" 335, I 52, I 3, I 0, I 0, I 3, .ref 96, .bool true, I 181, .ref 97, .none, .ref 98, .ref 99, .ref 100, I 341, I 52, T "/claim/cut.py" 342].toArray, [].toArray⟩
noncomputable def ob102 : Params → Obj := fun _ => ⟨.type "function", none, .func { name := S "put_octets", qualname := S "put_octets", params := argsOf (st 24), body := .stmts (bodyOf (st 24)), scope := scopeOf (st 24), globals := 3, closure := [], defaults := .none, kwdefaults := .none, doc := .none, pyModule := T "z80.fcb" 309, annotations := none, code := .ref 101, closureTuple := .none, builtins := 0 }, [].toArray⟩
noncomputable def ob103 : Params → Obj := fun _ => ⟨.type "tuple", none, .seq [].toArray 0, [].toArray⟩
noncomputable def ob104 : Params → Obj := fun _ => ⟨.none, none, .fields [].toArray, [].toArray⟩
noncomputable def ob105 : Params → Obj := fun _ => ⟨.type "tuple", none, .seq [T "memory" 347, T "at" 348].toArray 0, [].toArray⟩
noncomputable def ob106 : Params → Obj := fun _ => ⟨.type "tuple", none, .seq [].toArray 0, [].toArray⟩
noncomputable def ob107 : Params → Obj := fun _ => ⟨.none, none, .func { name := S "name_at", qualname := S "name_at", params := argsOf (st 25), body := .stmts (bodyOf (st 25)), scope := scopeOf (st 25), globals := 0, closure := [], defaults := .none, kwdefaults := .none, doc := .none, pyModule := .none, annotations := none, code := .none, closureTuple := .none, builtins := 0 }, [].toArray⟩
noncomputable def ob108 : Params → Obj := fun _ => ⟨.type "code", none, .fields [T "name_at" 344, T "name_at" 345, T "/claim/cut.py" 346, I 55, I 2, I 0, I 0, I 3, .ref 103, .bool true, I 181, .ref 104, .none, .ref 105, .ref 106, .ref 107, I 349, I 55, T "/claim/cut.py" 350].toArray, [].toArray⟩
noncomputable def ob109 : Params → Obj := fun _ => ⟨.type "function", none, .func { name := S "name_at", qualname := S "name_at", params := argsOf (st 25), body := .stmts (bodyOf (st 25)), scope := scopeOf (st 25), globals := 3, closure := [], defaults := .none, kwdefaults := .none, doc := .none, pyModule := T "z80.fcb" 309, annotations := none, code := .ref 108, closureTuple := .none, builtins := 0 }, [].toArray⟩
noncomputable def ob110 : Params → Obj := fun _ => ⟨.type "tuple", none, .seq [].toArray 0, [].toArray⟩
noncomputable def ob111 : Params → Obj := fun _ => ⟨.none, none, .fields [].toArray, [].toArray⟩
noncomputable def ob112 : Params → Obj := fun _ => ⟨.type "tuple", none, .seq [T "memory" 355, T "at" 356].toArray 0, [].toArray⟩
noncomputable def ob113 : Params → Obj := fun _ => ⟨.type "tuple", none, .seq [].toArray 0, [].toArray⟩
noncomputable def ob114 : Params → Obj := fun _ => ⟨.none, none, .func { name := S "second_name_at", qualname := S "second_name_at", params := argsOf (st 26), body := .stmts (bodyOf (st 26)), scope := scopeOf (st 26), globals := 0, closure := [], defaults := .none, kwdefaults := .none, doc := .none, pyModule := .none, annotations := none, code := .none, closureTuple := .none, builtins := 0 }, [].toArray⟩
noncomputable def ob115 : Params → Obj := fun _ => ⟨.type "code", none, .fields [T "second_name_at" 352, T "second_name_at" 353, T "/claim/cut.py" 354, I 57, I 2, I 0, I 0, I 3, .ref 110, .bool true, I 181, .ref 111, .none, .ref 112, .ref 113, .ref 114, I 357, I 57, T "/claim/cut.py" 358].toArray, [].toArray⟩
noncomputable def ob116 : Params → Obj := fun _ => ⟨.type "function", none, .func { name := S "second_name_at", qualname := S "second_name_at", params := argsOf (st 26), body := .stmts (bodyOf (st 26)), scope := scopeOf (st 26), globals := 3, closure := [], defaults := .none, kwdefaults := .none, doc := .none, pyModule := T "z80.fcb" 309, annotations := none, code := .ref 115, closureTuple := .none, builtins := 0 }, [].toArray⟩
noncomputable def ob117 : Params → Obj := fun _ => ⟨.type "tuple", none, .seq [].toArray 0, [].toArray⟩
noncomputable def ob118 : Params → Obj := fun _ => ⟨.none, none, .fields [].toArray, [].toArray⟩
noncomputable def ob119 : Params → Obj := fun _ => ⟨.type "tuple", none, .seq [T "memory" 363, T "at" 364].toArray 0, [].toArray⟩
noncomputable def ob120 : Params → Obj := fun _ => ⟨.type "tuple", none, .seq [].toArray 0, [].toArray⟩
noncomputable def ob121 : Params → Obj := fun _ => ⟨.none, none, .func { name := S "extent_at", qualname := S "extent_at", params := argsOf (st 27), body := .stmts (bodyOf (st 27)), scope := scopeOf (st 27), globals := 0, closure := [], defaults := .none, kwdefaults := .none, doc := .none, pyModule := .none, annotations := none, code := .none, closureTuple := .none, builtins := 0 }, [].toArray⟩
noncomputable def ob122 : Params → Obj := fun _ => ⟨.type "code", none, .fields [T "extent_at" 360, T "extent_at" 361, T "/claim/cut.py" 362, I 59, I 2, I 0, I 0, I 3, .ref 117, .bool true, I 181, .ref 118, .none, .ref 119, .ref 120, .ref 121, I 365, I 59, T "/claim/cut.py" 366].toArray, [].toArray⟩
noncomputable def ob123 : Params → Obj := fun _ => ⟨.type "function", none, .func { name := S "extent_at", qualname := S "extent_at", params := argsOf (st 27), body := .stmts (bodyOf (st 27)), scope := scopeOf (st 27), globals := 3, closure := [], defaults := .none, kwdefaults := .none, doc := .none, pyModule := T "z80.fcb" 309, annotations := none, code := .ref 122, closureTuple := .none, builtins := 0 }, [].toArray⟩
noncomputable def ob124 : Params → Obj := fun _ => ⟨.type "tuple", none, .seq [].toArray 0, [].toArray⟩
noncomputable def ob125 : Params → Obj := fun _ => ⟨.none, none, .fields [].toArray, [].toArray⟩
noncomputable def ob126 : Params → Obj := fun _ => ⟨.type "tuple", none, .seq [T "memory" 371, T "at" 372, T "extent" 373].toArray 0, [].toArray⟩
noncomputable def ob127 : Params → Obj := fun _ => ⟨.type "tuple", none, .seq [].toArray 0, [].toArray⟩
noncomputable def ob128 : Params → Obj := fun _ => ⟨.none, none, .func { name := S "set_extent", qualname := S "set_extent", params := argsOf (st 28), body := .stmts (bodyOf (st 28)), scope := scopeOf (st 28), globals := 0, closure := [], defaults := .none, kwdefaults := .none, doc := .none, pyModule := .none, annotations := none, code := .none, closureTuple := .none, builtins := 0 }, [].toArray⟩
noncomputable def ob129 : Params → Obj := fun _ => ⟨.type "code", none, .fields [T "set_extent" 368, T "set_extent" 369, T "/claim/cut.py" 370, I 61, I 3, I 0, I 0, I 3, .ref 124, .bool true, I 181, .ref 125, .none, .ref 126, .ref 127, .ref 128, I 374, I 61, T "/claim/cut.py" 375].toArray, [].toArray⟩
noncomputable def ob130 : Params → Obj := fun _ => ⟨.type "function", none, .func { name := S "set_extent", qualname := S "set_extent", params := argsOf (st 28), body := .stmts (bodyOf (st 28)), scope := scopeOf (st 28), globals := 3, closure := [], defaults := .none, kwdefaults := .none, doc := .none, pyModule := T "z80.fcb" 309, annotations := none, code := .ref 129, closureTuple := .none, builtins := 0 }, [].toArray⟩
noncomputable def ob131 : Params → Obj := fun _ => ⟨.type "tuple", none, .seq [].toArray 0, [].toArray⟩
noncomputable def ob132 : Params → Obj := fun _ => ⟨.none, none, .fields [].toArray, [].toArray⟩
noncomputable def ob133 : Params → Obj := fun _ => ⟨.type "tuple", none, .seq [T "memory" 380, T "at" 381].toArray 0, [].toArray⟩
noncomputable def ob134 : Params → Obj := fun _ => ⟨.type "tuple", none, .seq [].toArray 0, [].toArray⟩
noncomputable def ob135 : Params → Obj := fun _ => ⟨.none, none, .func { name := S "is_changed", qualname := S "is_changed", params := argsOf (st 29), body := .stmts (bodyOf (st 29)), scope := scopeOf (st 29), globals := 0, closure := [], defaults := .none, kwdefaults := .none, doc := .none, pyModule := .none, annotations := none, code := .none, closureTuple := .none, builtins := 0 }, [].toArray⟩
noncomputable def ob136 : Params → Obj := fun _ => ⟨.type "code", none, .fields [T "is_changed" 377, T "is_changed" 378, T "/claim/cut.py" 379, I 64, I 2, I 0, I 0, I 3, .ref 131, .bool true, I 181, .ref 132, .none, .ref 133, .ref 134, .ref 135, I 382, I 64, T "/claim/cut.py" 383].toArray, [].toArray⟩
noncomputable def ob137 : Params → Obj := fun _ => ⟨.type "function", none, .func { name := S "is_changed", qualname := S "is_changed", params := argsOf (st 29), body := .stmts (bodyOf (st 29)), scope := scopeOf (st 29), globals := 3, closure := [], defaults := .none, kwdefaults := .none, doc := .none, pyModule := T "z80.fcb" 309, annotations := none, code := .ref 136, closureTuple := .none, builtins := 0 }, [].toArray⟩
noncomputable def ob138 : Params → Obj := fun _ => ⟨.type "tuple", none, .seq [].toArray 0, [].toArray⟩
noncomputable def ob139 : Params → Obj := fun _ => ⟨.none, none, .fields [].toArray, [].toArray⟩
noncomputable def ob140 : Params → Obj := fun _ => ⟨.type "tuple", none, .seq [T "memory" 388, T "at" 389, T "is_now" 390, T "kept" 391].toArray 0, [].toArray⟩
noncomputable def ob141 : Params → Obj := fun _ => ⟨.type "tuple", none, .seq [].toArray 0, [].toArray⟩
noncomputable def ob142 : Params → Obj := fun _ => ⟨.none, none, .func { name := S "mark_changed", qualname := S "mark_changed", params := argsOf (st 30), body := .stmts (bodyOf (st 30)), scope := scopeOf (st 30), globals := 0, closure := [], defaults := .none, kwdefaults := .none, doc := .none, pyModule := .none, annotations := none, code := .none, closureTuple := .none, builtins := 0 }, [].toArray⟩
noncomputable def ob143 : Params → Obj := fun _ => ⟨.type "code", none, .fields [T "mark_changed" 385, T "mark_changed" 386, T "/claim/cut.py" 387, I 66, I 3, I 0, I 0, I 3, .ref 138, .bool true, I 181, .ref 139, .none, .ref 140, .ref 141, .ref 142, I 392, I 66, T "/claim/cut.py" 393].toArray, [].toArray⟩
noncomputable def ob144 : Params → Obj := fun _ => ⟨.type "function", none, .func { name := S "mark_changed", qualname := S "mark_changed", params := argsOf (st 30), body := .stmts (bodyOf (st 30)), scope := scopeOf (st 30), globals := 3, closure := [], defaults := .none, kwdefaults := .none, doc := .none, pyModule := T "z80.fcb" 309, annotations := none, code := .ref 143, closureTuple := .none, builtins := 0 }, [].toArray⟩
noncomputable def ob145 : Params → Obj := fun _ => ⟨.type "tuple", none, .seq [].toArray 0, [].toArray⟩
noncomputable def ob146 : Params → Obj := fun _ => ⟨.none, none, .fields [].toArray, [].toArray⟩
noncomputable def ob147 : Params → Obj := fun _ => ⟨.type "tuple", none, .seq [T "memory" 398, T "at" 399].toArray 0, [].toArray⟩
noncomputable def ob148 : Params → Obj := fun _ => ⟨.type "tuple", none, .seq [].toArray 0, [].toArray⟩
noncomputable def ob149 : Params → Obj := fun _ => ⟨.none, none, .func { name := S "count_at", qualname := S "count_at", params := argsOf (st 31), body := .stmts (bodyOf (st 31)), scope := scopeOf (st 31), globals := 0, closure := [], defaults := .none, kwdefaults := .none, doc := .none, pyModule := .none, annotations := none, code := .none, closureTuple := .none, builtins := 0 }, [].toArray⟩
noncomputable def ob150 : Params → Obj := fun _ => ⟨.type "code", none, .fields [T "count_at" 395, T "count_at" 396, T "/claim/cut.py" 397, I 69, I 2, I 0, I 0, I 3, .ref 145, .bool true, I 181, .ref 146, .none, .ref 147, .ref 148, .ref 149, I 400, I 69, T "/claim/cut.py" 401].toArray, [].toArray⟩
noncomputable def ob151 : Params → Obj := fun _ => ⟨.type "function", none, .func { name := S "count_at", qualname := S "count_at", params := argsOf (st 31), body := .stmts (bodyOf (st 31)), scope := scopeOf (st 31), globals := 3, closure := [], defaults := .none, kwdefaults := .none, doc := .none, pyModule := T "z80.fcb" 309, annotations := none, code := .ref 150, closureTuple := .none, builtins := 0 }, [].toArray⟩
noncomputable def ob152 : Params → Obj := fun _ => ⟨.type "tuple", none, .seq [].toArray 0, [].toArray⟩
noncomputable def ob153 : Params → Obj := fun _ => ⟨.none, none, .fields [].toArray, [].toArray⟩
noncomputable def ob154 : Params → Obj := fun _ => ⟨.type "tuple", none, .seq [T "memory" 406, T "at" 407, T "count" 408].toArray 0, [].toArray⟩
noncomputable def ob155 : Params → Obj := fun _ => ⟨.type "tuple", none, .seq [].toArray 0, [].toArray⟩
noncomputable def ob156 : Params → Obj := fun _ => ⟨.none, none, .func { name := S "set_count", qualname := S "set_count", params := argsOf (st 32), body := .stmts (bodyOf (st 32)), scope := scopeOf (st 32), globals := 0, closure := [], defaults := .none, kwdefaults := .none, doc := .none, pyModule := .none, annotations := none, code := .none, closureTuple := .none, builtins := 0 }, [].toArray⟩
noncomputable def ob157 : Params → Obj := fun _ => ⟨.type "code", none, .fields [T "set_count" 403, T "set_count" 404, T "/claim/cut.py" 405, I 71, I 3, I 0, I 0, I 3, .ref 152, .bool true, I 181, .ref 153, .none, .ref 154, .ref 155, .ref 156, I 409, I 71, T "/claim/cut.py" 410].toArray, [].toArray⟩
noncomputable def ob158 : Params → Obj := fun _ => ⟨.type "function", none, .func { name := S "set_count", qualname := S "set_count", params := argsOf (st 32), body := .stmts (bodyOf (st 32)), scope := scopeOf (st 32), globals := 3, closure := [], defaults := .none, kwdefaults := .none, doc := .none, pyModule := T "z80.fcb" 309, annotations := none, code := .ref 157, closureTuple := .none, builtins := 0 }, [].toArray⟩
noncomputable def ob159 : Params → Obj := fun _ => ⟨.type "tuple", none, .seq [].toArray 0, [].toArray⟩
noncomputable def ob160 : Params → Obj := fun _ => ⟨.none, none, .fields [].toArray, [].toArray⟩
noncomputable def ob161 : Params → Obj := fun _ => ⟨.type "tuple", none, .seq [T "memory" 415, T "at" 416].toArray 0, [].toArray⟩
noncomputable def ob162 : Params → Obj := fun _ => ⟨.type "tuple", none, .seq [].toArray 0, [].toArray⟩
noncomputable def ob163 : Params → Obj := fun _ => ⟨.none, none, .func { name := S "current_at", qualname := S "current_at", params := argsOf (st 33), body := .stmts (bodyOf (st 33)), scope := scopeOf (st 33), globals := 0, closure := [], defaults := .none, kwdefaults := .none, doc := .none, pyModule := .none, annotations := none, code := .none, closureTuple := .none, builtins := 0 }, [].toArray⟩
noncomputable def ob164 : Params → Obj := fun _ => ⟨.type "code", none, .fields [T "current_at" 412, T "current_at" 413, T "/claim/cut.py" 414, I 73, I 2, I 0, I 0, I 3, .ref 159, .bool true, I 181, .ref 160, .none, .ref 161, .ref 162, .ref 163, I 417, I 73, T "/claim/cut.py" 418].toArray, [].toArray⟩
noncomputable def ob165 : Params → Obj := fun _ => ⟨.type "function", none, .func { name := S "current_at", qualname := S "current_at", params := argsOf (st 33), body := .stmts (bodyOf (st 33)), scope := scopeOf (st 33), globals := 3, closure := [], defaults := .none, kwdefaults := .none, doc := .none, pyModule := T "z80.fcb" 309, annotations := none, code := .ref 164, closureTuple := .none, builtins := 0 }, [].toArray⟩
noncomputable def ob3e : Params → Obj := fun P => ⟨.type "dict", none, .dict (E P "__name__" 165 (T "z80.fcb" 309) :: (gE P).take 47).toArray 48, [].toArray⟩
noncomputable def ob12f : Params → Obj := fun _ => ⟨.none, none, .fields [I 2, I 0, .ref 20, I 4, I 0, .ref 27, I 12, I 0, .ref 35, I 17, I 0, .ref 56, I 28, I 0, .ref 77, I 30, I 0, .ref 82, I 34, I 0, .ref 89, I 50, I 0, .ref 94, I 52, I 0, .ref 101, I 55, I 0, .ref 108, I 57, I 0, .ref 115, I 59, I 0, .ref 122, I 61, I 0, .ref 129, I 64, I 0, .ref 136, I 66, I 0, .ref 143, I 69, I 0, .ref 150, I 71, I 0, .ref 157, I 73, I 0, .ref 164, I 75, I 0, .ref 171, I 77, I 0, .ref 178, I 79, I 0, .ref 185, I 83, I 0, .ref 192, I 86, I 0, .ref 199, I 90, I 0, .ref 206, I 93, I 0, .ref 213, I 95, I 0, .ref 220].toArray, [].toArray⟩
noncomputable def ob166 : Params → Obj := fun _ => ⟨.type "tuple", none, .seq [].toArray 0, [].toArray⟩
noncomputable def ob167 : Params → Obj := fun _ => ⟨.none, none, .fields [].toArray, [].toArray⟩
noncomputable def ob168 : Params → Obj := fun _ => ⟨.type "tuple", none, .seq [T "memory" 423, T "at" 424, T "record" 425].toArray 0, [].toArray⟩
noncomputable def ob169 : Params → Obj := fun _ => ⟨.type "tuple", none, .seq [].toArray 0, [].toArray⟩
noncomputable def ob170 : Params → Obj := fun _ => ⟨.none, none, .func { name := S "set_current", qualname := S "set_current", params := argsOf (st 34), body := .stmts (bodyOf (st 34)), scope := scopeOf (st 34), globals := 0, closure := [], defaults := .none, kwdefaults := .none, doc := .none, pyModule := .none, annotations := none, code := .none, closureTuple := .none, builtins := 0 }, [].toArray⟩
noncomputable def ob171 : Params → Obj := fun _ => ⟨.type "code", none, .fields [T "set_current" 420, T "set_current" 421, T "/claim/cut.py" 422, I 75, I 3, I 0, I 0, I 3, .ref 166, .bool true, I 181, .ref 167, .none, .ref 168, .ref 169, .ref 170, I 426, I 75, T "/claim/cut.py" 427].toArray, [].toArray⟩
noncomputable def ob172 : Params → Obj := fun _ => ⟨.type "function", none, .func { name := S "set_current", qualname := S "set_current", params := argsOf (st 34), body := .stmts (bodyOf (st 34)), scope := scopeOf (st 34), globals := 3, closure := [], defaults := .none, kwdefaults := .none, doc := .none, pyModule := T "z80.fcb" 309, annotations := none, code := .ref 171, closureTuple := .none, builtins := 0 }, [].toArray⟩
noncomputable def ob173 : Params → Obj := fun _ => ⟨.type "tuple", none, .seq [].toArray 0, [].toArray⟩
noncomputable def ob174 : Params → Obj := fun _ => ⟨.none, none, .fields [].toArray, [].toArray⟩
noncomputable def ob175 : Params → Obj := fun _ => ⟨.type "tuple", none, .seq [T "disk" 432, T "memory" 433, T "at" 434].toArray 0, [].toArray⟩
noncomputable def ob176 : Params → Obj := fun _ => ⟨.type "tuple", none, .seq [].toArray 0, [].toArray⟩
noncomputable def ob177 : Params → Obj := fun _ => ⟨.none, none, .func { name := S "blocks_at", qualname := S "blocks_at", params := argsOf (st 35), body := .stmts (bodyOf (st 35)), scope := scopeOf (st 35), globals := 0, closure := [], defaults := .none, kwdefaults := .none, doc := .none, pyModule := .none, annotations := none, code := .none, closureTuple := .none, builtins := 0 }, [].toArray⟩
noncomputable def ob178 : Params → Obj := fun _ => ⟨.type "code", none, .fields [T "blocks_at" 429, T "blocks_at" 430, T "/claim/cut.py" 431, I 77, I 3, I 0, I 0, I 3, .ref 173, .bool true, I 181, .ref 174, .none, .ref 175, .ref 176, .ref 177, I 435, I 77, T "/claim/cut.py" 436].toArray, [].toArray⟩
noncomputable def ob179 : Params → Obj := fun _ => ⟨.type "function", none, .func { name := S "blocks_at", qualname := S "blocks_at", params := argsOf (st 35), body := .stmts (bodyOf (st 35)), scope := scopeOf (st 35), globals := 3, closure := [], defaults := .none, kwdefaults := .none, doc := .none, pyModule := T "z80.fcb" 309, annotations := none, code := .ref 178, closureTuple := .none, builtins := 0 }, [].toArray⟩
noncomputable def ob180 : Params → Obj := fun _ => ⟨.type "tuple", none, .seq [].toArray 0, [].toArray⟩
noncomputable def ob181 : Params → Obj := fun _ => ⟨.none, none, .fields [].toArray, [].toArray⟩
noncomputable def ob182 : Params → Obj := fun _ => ⟨.type "tuple", none, .seq [T "disk" 441, T "memory" 442, T "at" 443, T "slot" 444, T "block" 445, T "blocks" 446].toArray 0, [].toArray⟩
noncomputable def ob183 : Params → Obj := fun _ => ⟨.type "tuple", none, .seq [].toArray 0, [].toArray⟩
noncomputable def ob184 : Params → Obj := fun _ => ⟨.none, none, .func { name := S "set_block", qualname := S "set_block", params := argsOf (st 36), body := .stmts (bodyOf (st 36)), scope := scopeOf (st 36), globals := 0, closure := [], defaults := .none, kwdefaults := .none, doc := .none, pyModule := .none, annotations := none, code := .none, closureTuple := .none, builtins := 0 }, [].toArray⟩
noncomputable def ob185 : Params → Obj := fun _ => ⟨.type "code", none, .fields [T "set_block" 438, T "set_block" 439, T "/claim/cut.py" 440, I 79, I 5, I 0, I 0, I 3, .ref 180, .bool true, I 181, .ref 181, .none, .ref 182, .ref 183, .ref 184, I 447, I 79, T "/claim/cut.py" 448].toArray, [].toArray⟩
noncomputable def ob186 : Params → Obj := fun _ => ⟨.type "function", none, .func { name := S "set_block", qualname := S "set_block", params := argsOf (st 36), body := .stmts (bodyOf (st 36)), scope := scopeOf (st 36), globals := 3, closure := [], defaults := .none, kwdefaults := .none, doc := .none, pyModule := T "z80.fcb" 309, annotations := none, code := .ref 185, closureTuple := .none, builtins := 0 }, [].toArray⟩
noncomputable def ob187 : Params → Obj := fun _ => ⟨.type "tuple", none, .seq [].toArray 0, [].toArray⟩
noncomputable def ob188 : Params → Obj := fun _ => ⟨.none, none, .fields [].toArray, [].toArray⟩
noncomputable def ob189 : Params → Obj := fun _ => ⟨.type "tuple", none, .seq [T "memory" 453, T "at" 454, T "octets" 455].toArray 0, [].toArray⟩
noncomputable def ob190 : Params → Obj := fun _ => ⟨.type "tuple", none, .seq [].toArray 0, [].toArray⟩
noncomputable def ob191 : Params → Obj := fun _ => ⟨.none, none, .func { name := S "take_entry", qualname := S "take_entry", params := argsOf (st 37), body := .stmts (bodyOf (st 37)), scope := scopeOf (st 37), globals := 0, closure := [], defaults := .none, kwdefaults := .none, doc := .none, pyModule := .none, annotations := none, code := .none, closureTuple := .none, builtins := 0 }, [].toArray⟩
noncomputable def ob192 : Params → Obj := fun _ => ⟨.type "code", none, .fields [T "take_entry" 450, T "take_entry" 451, T "/claim/cut.py" 452, I 83, I 3, I 0, I 0, I 3, .ref 187, .bool true, I 181, .ref 188, .none, .ref 189, .ref 190, .ref 191, I 456, I 83, T "/claim/cut.py" 457].toArray, [].toArray⟩
noncomputable def ob193 : Params → Obj := fun _ => ⟨.type "function", none, .func { name := S "take_entry", qualname := S "take_entry", params := argsOf (st 37), body := .stmts (bodyOf (st 37)), scope := scopeOf (st 37), globals := 3, closure := [], defaults := .none, kwdefaults := .none, doc := .none, pyModule := T "z80.fcb" 309, annotations := none, code := .ref 192, closureTuple := .none, builtins := 0 }, [].toArray⟩
noncomputable def ob194 : Params → Obj := fun _ => ⟨.type "tuple", none, .seq [].toArray 0, [].toArray⟩
noncomputable def ob195 : Params → Obj := fun _ => ⟨.none, none, .fields [].toArray, [].toArray⟩
noncomputable def ob196 : Params → Obj := fun _ => ⟨.type "tuple", none, .seq [T "memory" 462, T "at" 463, T "extent" 464].toArray 0, [].toArray⟩
noncomputable def ob197 : Params → Obj := fun _ => ⟨.type "tuple", none, .seq [].toArray 0, [].toArray⟩
noncomputable def ob198 : Params → Obj := fun _ => ⟨.none, none, .func { name := S "begin_extent", qualname := S "begin_extent", params := argsOf (st 38), body := .stmts (bodyOf (st 38)), scope := scopeOf (st 38), globals := 0, closure := [], defaults := .none, kwdefaults := .none, doc := .none, pyModule := .none, annotations := none, code := .none, closureTuple := .none, builtins := 0 }, [].toArray⟩
noncomputable def ob199 : Params → Obj := fun _ => ⟨.type "code", none, .fields [T "begin_extent" 459, T "begin_extent" 460, T "/claim/cut.py" 461, I 86, I 3, I 0, I 0, I 3, .ref 194, .bool true, I 181, .ref 195, .none, .ref 196, .ref 197, .ref 198, I 465, I 86, T "/claim/cut.py" 466].toArray, [].toArray⟩
noncomputable def ob200 : Params → Obj := fun _ => ⟨.type "function", none, .func { name := S "begin_extent", qualname := S "begin_extent", params := argsOf (st 38), body := .stmts (bodyOf (st 38)), scope := scopeOf (st 38), globals := 3, closure := [], defaults := .none, kwdefaults := .none, doc := .none, pyModule := T "z80.fcb" 309, annotations := none, code := .ref 199, closureTuple := .none, builtins := 0 }, [].toArray⟩
noncomputable def ob201 : Params → Obj := fun _ => ⟨.type "tuple", none, .seq [].toArray 0, [].toArray⟩
noncomputable def ob202 : Params → Obj := fun _ => ⟨.none, none, .fields [].toArray, [].toArray⟩
noncomputable def ob203 : Params → Obj := fun _ => ⟨.type "tuple", none, .seq [T "memory" 471, T "at" 472, T "under" 473, T "middle" 474, T "over" 475].toArray 0, [].toArray⟩
noncomputable def ob204 : Params → Obj := fun _ => ⟨.type "tuple", none, .seq [].toArray 0, [].toArray⟩
noncomputable def ob205 : Params → Obj := fun _ => ⟨.none, none, .func { name := S "random_at", qualname := S "random_at", params := argsOf (st 39), body := .stmts (bodyOf (st 39)), scope := scopeOf (st 39), globals := 0, closure := [], defaults := .none, kwdefaults := .none, doc := .none, pyModule := .none, annotations := none, code := .none, closureTuple := .none, builtins := 0 }, [].toArray⟩
noncomputable def ob206 : Params → Obj := fun _ => ⟨.type "code", none, .fields [T "random_at" 468, T "random_at" 469, T "/claim/cut.py" 470, I 90, I 2, I 0, I 0, I 3, .ref 201, .bool true, I 181, .ref 202, .none, .ref 203, .ref 204, .ref 205, I 476, I 90, T "/claim/cut.py" 477].toArray, [].toArray⟩
noncomputable def ob207 : Params → Obj := fun _ => ⟨.type "function", none, .func { name := S "random_at", qualname := S "random_at", params := argsOf (st 39), body := .stmts (bodyOf (st 39)), scope := scopeOf (st 39), globals := 3, closure := [], defaults := .none, kwdefaults := .none, doc := .none, pyModule := T "z80.fcb" 309, annotations := none, code := .ref 206, closureTuple := .none, builtins := 0 }, [].toArray⟩
noncomputable def ob208 : Params → Obj := fun _ => ⟨.type "tuple", none, .seq [].toArray 0, [].toArray⟩
noncomputable def ob209 : Params → Obj := fun _ => ⟨.none, none, .fields [].toArray, [].toArray⟩
noncomputable def ob210 : Params → Obj := fun _ => ⟨.type "tuple", none, .seq [T "memory" 482, T "at" 483, T "record" 484].toArray 0, [].toArray⟩
noncomputable def ob211 : Params → Obj := fun _ => ⟨.type "tuple", none, .seq [].toArray 0, [].toArray⟩
noncomputable def ob212 : Params → Obj := fun _ => ⟨.none, none, .func { name := S "set_random", qualname := S "set_random", params := argsOf (st 40), body := .stmts (bodyOf (st 40)), scope := scopeOf (st 40), globals := 0, closure := [], defaults := .none, kwdefaults := .none, doc := .none, pyModule := .none, annotations := none, code := .none, closureTuple := .none, builtins := 0 }, [].toArray⟩
noncomputable def ob213 : Params → Obj := fun _ => ⟨.type "code", none, .fields [T "set_random" 479, T "set_random" 480, T "/claim/cut.py" 481, I 93, I 3, I 0, I 0, I 3, .ref 208, .bool true, I 181, .ref 209, .none, .ref 210, .ref 211, .ref 212, I 485, I 93, T "/claim/cut.py" 486].toArray, [].toArray⟩
noncomputable def ob214 : Params → Obj := fun _ => ⟨.type "function", none, .func { name := S "set_random", qualname := S "set_random", params := argsOf (st 40), body := .stmts (bodyOf (st 40)), scope := scopeOf (st 40), globals := 3, closure := [], defaults := .none, kwdefaults := .none, doc := .none, pyModule := T "z80.fcb" 309, annotations := none, code := .ref 213, closureTuple := .none, builtins := 0 }, [].toArray⟩
noncomputable def ob215 : Params → Obj := fun _ => ⟨.type "tuple", none, .seq [].toArray 0, [].toArray⟩
noncomputable def ob216 : Params → Obj := fun _ => ⟨.none, none, .fields [].toArray, [].toArray⟩
noncomputable def ob217 : Params → Obj := fun _ => ⟨.type "tuple", none, .seq [T "drive" 491, T "name" 492].toArray 0, [].toArray⟩
noncomputable def ob218 : Params → Obj := fun _ => ⟨.type "tuple", none, .seq [].toArray 0, [].toArray⟩
noncomputable def ob219 : Params → Obj := fun _ => ⟨.none, none, .func { name := S "new_fcb", qualname := S "new_fcb", params := argsOf (st 41), body := .stmts (bodyOf (st 41)), scope := scopeOf (st 41), globals := 0, closure := [], defaults := .none, kwdefaults := .none, doc := .none, pyModule := .none, annotations := none, code := .none, closureTuple := .none, builtins := 0 }, [].toArray⟩
noncomputable def ob220 : Params → Obj := fun _ => ⟨.type "code", none, .fields [T "new_fcb" 488, T "new_fcb" 489, T "/claim/cut.py" 490, I 95, I 2, I 0, I 0, I 3, .ref 215, .bool true, I 181, .ref 216, .none, .ref 217, .ref 218, .ref 219, I 493, I 95, T "/claim/cut.py" 494].toArray, [].toArray⟩
noncomputable def ob221 : Params → Obj := fun _ => ⟨.type "function", none, .func { name := S "new_fcb", qualname := S "new_fcb", params := argsOf (st 41), body := .stmts (bodyOf (st 41)), scope := scopeOf (st 41), globals := 3, closure := [], defaults := .none, kwdefaults := .none, doc := .none, pyModule := T "z80.fcb" 309, annotations := none, code := .ref 220, closureTuple := .none, builtins := 0 }, [].toArray⟩
noncomputable def ob3f : Params → Obj := fun P => ⟨.type "dict", none, .dict (E P "__name__" 165 (T "law_nz0566_01" 496) :: (gE P).take 55).toArray 56, [].toArray⟩
noncomputable def ob12g : Params → Obj := fun _ => ⟨.none, none, .fields [I 2, I 0, .ref 20, I 4, I 0, .ref 27, I 12, I 0, .ref 35, I 17, I 0, .ref 56, I 28, I 0, .ref 77, I 30, I 0, .ref 82, I 34, I 0, .ref 89, I 50, I 0, .ref 94, I 52, I 0, .ref 101, I 55, I 0, .ref 108, I 57, I 0, .ref 115, I 59, I 0, .ref 122, I 61, I 0, .ref 129, I 64, I 0, .ref 136, I 66, I 0, .ref 143, I 69, I 0, .ref 150, I 71, I 0, .ref 157, I 73, I 0, .ref 164, I 75, I 0, .ref 171, I 77, I 0, .ref 178, I 79, I 0, .ref 185, I 83, I 0, .ref 192, I 86, I 0, .ref 199, I 90, I 0, .ref 206, I 93, I 0, .ref 213, I 95, I 0, .ref 220, I 98, I 0, .ref 225, I 104, I 0, .ref 232, I 110, I 0, .ref 239, I 115, I 0, .ref 244, I 117, I 0, .ref 249, I 119, I 0, .ref 256, I 126, I 0, .ref 261, I 165, I 0, .ref 266].toArray, [].toArray⟩
noncomputable def ob222 : Params → Obj := fun _ => ⟨.type "tuple", none, .seq [].toArray 0, [].toArray⟩
noncomputable def ob223 : Params → Obj := fun _ => ⟨.none, none, .fields [].toArray, [].toArray⟩
noncomputable def ob224 : Params → Obj := fun _ => ⟨.none, none, .func { name := S "_law_deal", qualname := S "_law_deal", params := argsOf (st 43), body := .stmts (bodyOf (st 43)), scope := scopeOf (st 43), globals := 0, closure := [], defaults := .none, kwdefaults := .none, doc := .none, pyModule := .none, annotations := none, code := .none, closureTuple := .none, builtins := 0 }, [].toArray⟩
noncomputable def ob225 : Params → Obj := fun _ => ⟨.type "code", none, .fields [T "_law_deal" 498, T "_law_deal" 499, T "/claim/cut.py" 500, I 98, I 1, I 0, I 0, I 3, .ref 222, .bool true, I 181, .ref 223, .none, .none, .none, .ref 224, I 501, I 98, T "/claim/cut.py" 502].toArray, [].toArray⟩
noncomputable def ob226 : Params → Obj := fun _ => ⟨.type "function", none, .func { name := S "_law_deal", qualname := S "_law_deal", params := argsOf (st 43), body := .stmts (bodyOf (st 43)), scope := scopeOf (st 43), globals := 3, closure := [], defaults := .none, kwdefaults := .none, doc := .none, pyModule := T "law_nz0566_01" 496, annotations := none, code := .ref 225, closureTuple := .none, builtins := 0 }, [].toArray⟩
noncomputable def ob227 : Params → Obj := fun _ => ⟨.type "tuple", none, .seq [].toArray 0, [].toArray⟩
noncomputable def ob228 : Params → Obj := fun _ => ⟨.none, none, .fields [].toArray, [].toArray⟩
noncomputable def ob229 : Params → Obj := fun _ => ⟨.type "tuple", none, .seq [T "deal" 507, T "many" 508].toArray 0, [].toArray⟩
noncomputable def ob230 : Params → Obj := fun _ => ⟨.type "tuple", none, .seq [].toArray 0, [].toArray⟩
noncomputable def ob231 : Params → Obj := fun _ => ⟨.none, none, .func { name := S "_law_take", qualname := S "_law_take", params := argsOf (st 44), body := .stmts (bodyOf (st 44)), scope := scopeOf (st 44), globals := 0, closure := [], defaults := .none, kwdefaults := .none, doc := .none, pyModule := .none, annotations := none, code := .none, closureTuple := .none, builtins := 0 }, [].toArray⟩
noncomputable def ob232 : Params → Obj := fun _ => ⟨.type "code", none, .fields [T "_law_take" 504, T "_law_take" 505, T "/claim/cut.py" 506, I 104, I 2, I 0, I 0, I 3, .ref 227, .bool true, I 181, .ref 228, .none, .ref 229, .ref 230, .ref 231, I 509, I 104, T "/claim/cut.py" 510].toArray, [].toArray⟩
noncomputable def ob233 : Params → Obj := fun _ => ⟨.type "function", none, .func { name := S "_law_take", qualname := S "_law_take", params := argsOf (st 44), body := .stmts (bodyOf (st 44)), scope := scopeOf (st 44), globals := 3, closure := [], defaults := .none, kwdefaults := .none, doc := .none, pyModule := T "law_nz0566_01" 496, annotations := none, code := .ref 232, closureTuple := .none, builtins := 0 }, [].toArray⟩
noncomputable def ob234 : Params → Obj := fun _ => ⟨.type "tuple", none, .seq [].toArray 0, [].toArray⟩
noncomputable def ob235 : Params → Obj := fun _ => ⟨.none, none, .fields [].toArray, [].toArray⟩
noncomputable def ob236 : Params → Obj := fun _ => ⟨.type "tuple", none, .seq [T "octets" 515, T "at" 516, T "row" 517, T "found" 518, T "spot" 519, T "one" 520].toArray 0, [].toArray⟩
noncomputable def ob237 : Params → Obj := fun _ => ⟨.type "tuple", none, .seq [].toArray 0, [].toArray⟩
noncomputable def ob238 : Params → Obj := fun _ => ⟨.none, none, .func { name := S "_law_put", qualname := S "_law_put", params := argsOf (st 45), body := .stmts (bodyOf (st 45)), scope := scopeOf (st 45), globals := 0, closure := [], defaults := .none, kwdefaults := .none, doc := .none, pyModule := .none, annotations := none, code := .none, closureTuple := .none, builtins := 0 }, [].toArray⟩
noncomputable def ob239 : Params → Obj := fun _ => ⟨.type "code", none, .fields [T "_law_put" 512, T "_law_put" 513, T "/claim/cut.py" 514, I 110, I 3, I 0, I 0, I 3, .ref 234, .bool true, I 181, .ref 235, .none, .ref 236, .ref 237, .ref 238, I 521, I 110, T "/claim/cut.py" 522].toArray, [].toArray⟩
noncomputable def ob240 : Params → Obj := fun _ => ⟨.type "function", none, .func { name := S "_law_put", qualname := S "_law_put", params := argsOf (st 45), body := .stmts (bodyOf (st 45)), scope := scopeOf (st 45), globals := 3, closure := [], defaults := .none, kwdefaults := .none, doc := .none, pyModule := T "law_nz0566_01" 496, annotations := none, code := .ref 239, closureTuple := .none, builtins := 0 }, [].toArray⟩
noncomputable def ob241 : Params → Obj := fun _ => ⟨.type "tuple", none, .seq [].toArray 0, [].toArray⟩
noncomputable def ob242 : Params → Obj := fun _ => ⟨.none, none, .fields [].toArray, [].toArray⟩
noncomputable def ob243 : Params → Obj := fun _ => ⟨.none, none, .func { name := S "_law_got", qualname := S "_law_got", params := argsOf (st 46), body := .stmts (bodyOf (st 46)), scope := scopeOf (st 46), globals := 0, closure := [], defaults := .none, kwdefaults := .none, doc := .none, pyModule := .none, annotations := none, code := .none, closureTuple := .none, builtins := 0 }, [].toArray⟩
noncomputable def ob244 : Params → Obj := fun _ => ⟨.type "code", none, .fields [T "_law_got" 524, T "_law_got" 525, T "/claim/cut.py" 526, I 115, I 3, I 0, I 0, I 3, .ref 241, .bool true, I 181, .ref 242, .none, .none, .none, .ref 243, I 527, I 115, T "/claim/cut.py" 528].toArray, [].toArray⟩
noncomputable def ob245 : Params → Obj := fun _ => ⟨.type "function", none, .func { name := S "_law_got", qualname := S "_law_got", params := argsOf (st 46), body := .stmts (bodyOf (st 46)), scope := scopeOf (st 46), globals := 3, closure := [], defaults := .none, kwdefaults := .none, doc := .none, pyModule := T "law_nz0566_01" 496, annotations := none, code := .ref 244, closureTuple := .none, builtins := 0 }, [].toArray⟩
noncomputable def ob246 : Params → Obj := fun _ => ⟨.type "tuple", none, .seq [].toArray 0, [].toArray⟩
noncomputable def ob247 : Params → Obj := fun _ => ⟨.none, none, .fields [].toArray, [].toArray⟩
noncomputable def ob248 : Params → Obj := fun _ => ⟨.none, none, .func { name := S "_law_pairs", qualname := S "_law_pairs", params := argsOf (st 47), body := .stmts (bodyOf (st 47)), scope := scopeOf (st 47), globals := 0, closure := [], defaults := .none, kwdefaults := .none, doc := .none, pyModule := .none, annotations := none, code := .none, closureTuple := .none, builtins := 0 }, [].toArray⟩
noncomputable def ob249 : Params → Obj := fun _ => ⟨.type "code", none, .fields [T "_law_pairs" 530, T "_law_pairs" 531, T "/claim/cut.py" 532, I 117, I 1, I 0, I 0, I 3, .ref 246, .bool true, I 181, .ref 247, .none, .none, .none, .ref 248, I 533, I 117, T "/claim/cut.py" 534].toArray, [].toArray⟩
noncomputable def ob250 : Params → Obj := fun _ => ⟨.type "function", none, .func { name := S "_law_pairs", qualname := S "_law_pairs", params := argsOf (st 47), body := .stmts (bodyOf (st 47)), scope := scopeOf (st 47), globals := 3, closure := [], defaults := .none, kwdefaults := .none, doc := .none, pyModule := T "law_nz0566_01" 496, annotations := none, code := .ref 249, closureTuple := .none, builtins := 0 }, [].toArray⟩
noncomputable def ob251 : Params → Obj := fun _ => ⟨.type "tuple", none, .seq [].toArray 0, [].toArray⟩
noncomputable def ob252 : Params → Obj := fun _ => ⟨.none, none, .fields [].toArray, [].toArray⟩
noncomputable def ob253 : Params → Obj := fun _ => ⟨.type "tuple", none, .seq [T "memory" 539, T "octets" 540, T "at" 541, T "disk" 542, T "block" 543, T "told" 544, T "due" 545].toArray 0, [].toArray⟩
noncomputable def ob254 : Params → Obj := fun _ => ⟨.type "tuple", none, .seq [].toArray 0, [].toArray⟩
noncomputable def ob255 : Params → Obj := fun _ => ⟨.none, none, .func { name := S "_law_read_right", qualname := S "_law_read_right", params := argsOf (st 48), body := .stmts (bodyOf (st 48)), scope := scopeOf (st 48), globals := 0, closure := [], defaults := .none, kwdefaults := .none, doc := .none, pyModule := .none, annotations := none, code := .none, closureTuple := .none, builtins := 0 }, [].toArray⟩
noncomputable def ob256 : Params → Obj := fun _ => ⟨.type "code", none, .fields [T "_law_read_right" 536, T "_law_read_right" 537, T "/claim/cut.py" 538, I 119, I 4, I 0, I 0, I 3, .ref 251, .bool true, I 181, .ref 252, .none, .ref 253, .ref 254, .ref 255, I 546, I 119, T "/claim/cut.py" 547].toArray, [].toArray⟩
noncomputable def ob257 : Params → Obj := fun _ => ⟨.type "function", none, .func { name := S "_law_read_right", qualname := S "_law_read_right", params := argsOf (st 48), body := .stmts (bodyOf (st 48)), scope := scopeOf (st 48), globals := 3, closure := [], defaults := .none, kwdefaults := .none, doc := .none, pyModule := T "law_nz0566_01" 496, annotations := none, code := .ref 256, closureTuple := .none, builtins := 0 }, [].toArray⟩
noncomputable def ob258 : Params → Obj := fun _ => ⟨.type "tuple", none, .seq [].toArray 0, [].toArray⟩
noncomputable def ob259 : Params → Obj := fun _ => ⟨.none, none, .fields [].toArray, [].toArray⟩
noncomputable def ob260 : Params → Obj := fun _ => ⟨.none, none, .func { name := S "_law_deed", qualname := S "_law_deed", params := argsOf (st 49), body := .stmts (bodyOf (st 49)), scope := scopeOf (st 49), globals := 0, closure := [], defaults := .none, kwdefaults := .none, doc := .none, pyModule := .none, annotations := none, code := .none, closureTuple := .none, builtins := 0 }, [].toArray⟩
noncomputable def ob261 : Params → Obj := fun _ => ⟨.type "code", none, .fields [T "_law_deed" 549, T "_law_deed" 550, T "/claim/cut.py" 551, I 126, I 5, I 0, I 0, I 3, .ref 258, .bool true, I 181, .ref 259, .none, .none, .none, .ref 260, I 552, I 126, T "/claim/cut.py" 553].toArray, [].toArray⟩
noncomputable def ob262 : Params → Obj := fun _ => ⟨.type "function", none, .func { name := S "_law_deed", qualname := S "_law_deed", params := argsOf (st 49), body := .stmts (bodyOf (st 49)), scope := scopeOf (st 49), globals := 3, closure := [], defaults := .none, kwdefaults := .none, doc := .none, pyModule := T "law_nz0566_01" 496, annotations := none, code := .ref 261, closureTuple := .none, builtins := 0 }, [].toArray⟩
noncomputable def ob263 : Params → Obj := fun _ => ⟨.type "tuple", none, .seq [].toArray 0, [].toArray⟩
noncomputable def ob264 : Params → Obj := fun _ => ⟨.none, none, .fields [].toArray, [].toArray⟩
noncomputable def ob265 : Params → Obj := fun _ => ⟨.none, none, .func { name := S "law", qualname := S "law", params := argsOf (st 50), body := .stmts (bodyOf (st 50)), scope := scopeOf (st 50), globals := 0, closure := [], defaults := .none, kwdefaults := .none, doc := .none, pyModule := .none, annotations := none, code := .none, closureTuple := .none, builtins := 0 }, [].toArray⟩
noncomputable def ob266 : Params → Obj := fun _ => ⟨.type "code", none, .fields [T "law" 555, T "law" 556, T "/claim/cut.py" 557, I 165, I 1, I 0, I 0, I 3, .ref 263, .bool true, I 181, .ref 264, .none, .none, .none, .ref 265, I 558, I 165, T "/claim/cut.py" 559].toArray, [].toArray⟩
noncomputable def ob267 : Params → Obj := fun _ => ⟨.type "function", none, .func { name := S "law", qualname := S "law", params := argsOf (st 50), body := .stmts (bodyOf (st 50)), scope := scopeOf (st 50), globals := 3, closure := [], defaults := .none, kwdefaults := .none, doc := .none, pyModule := T "law_nz0566_01" 496, annotations := none, code := .ref 266, closureTuple := .none, builtins := 0 }, [].toArray⟩
noncomputable def hblock : Params → List Obj := fun P => [boot_o_0 P, boot_o_1 P, boot_o_2 P, boot_o_3 P, boot_o_4 P, boot_o_5 P, boot_o_6 P, boot_o_7 P, boot_o_8 P, boot_o_9 P, boot_o_10 P, ob11 P, ob12 P, ob13 P, ob14 P]
noncomputable def hp8 : Params → List Obj := fun P => [boot_o_0 P, boot_o_1 P, boot_o_2 P, ob3 P, boot_o_4 P, boot_o_5 P, boot_o_6 P, boot_o_7 P, boot_o_8 P, boot_o_9 P, boot_o_10 P, ob11 P, ob12a P, ob13 P, ob14 P, ob15 P, ob16 P, ob17 P, ob18 P, ob19 P, ob20 P, ob21 P, ob22 P, ob23 P, ob24 P, ob25 P, ob26 P, ob27 P, ob28 P]
noncomputable def hp9 : Params → List Obj := fun P => [boot_o_0 P, boot_o_1 P, ob2 P, ob3a P, boot_o_4 P, boot_o_5 P, boot_o_6 P, boot_o_7 P, boot_o_8 P, boot_o_9 P, boot_o_10 P, ob11 P, ob12b P, ob13 P, ob14 P, ob15 P, ob16 P, ob17 P, ob18 P, ob19 P, ob20 P, ob21 P, ob22 P, ob23 P, ob24 P, ob25 P, ob26 P, ob27 P, ob28 P, ob29 P, ob30 P, ob31 P, ob32 P, ob33 P, ob34 P, ob35 P, ob36 P, ob37 P, ob38 P, ob39 P, ob40 P, ob41 P, ob42 P, ob43 P, ob44 P, ob45 P, ob46 P, ob47 P, ob48 P, ob49 P, ob50 P]
noncomputable def hp10 : Params → List Obj := fun P => [boot_o_0 P, boot_o_1 P, ob2 P, ob3b P, boot_o_4 P, boot_o_5 P, boot_o_6 P, boot_o_7 P, boot_o_8 P, boot_o_9 P, boot_o_10 P, ob11 P, ob12c P, ob13 P, ob14 P, ob15 P, ob16 P, ob17 P, ob18 P, ob19 P, ob20 P, ob21 P, ob22 P, ob23 P, ob24 P, ob25 P, ob26 P, ob27 P, ob28 P, ob29 P, ob30 P, ob31 P, ob32 P, ob33 P, ob34 P, ob35 P, ob36 P, ob37 P, ob38 P, ob39 P, ob40 P, ob41 P, ob42 P, ob43 P, ob44 P, ob45 P, ob46 P, ob47 P, ob48 P, ob49 P, ob50 P, ob51 P, ob52 P, ob53 P, ob54 P, ob55 P, ob56 P, ob57 P, ob58 P, ob59 P, ob60 P, ob61 P, ob62 P, ob63 P, ob64 P, ob65 P, ob66 P, ob67 P, ob68 P, ob69 P, ob70 P, ob71 P]
noncomputable def hp22 : Params → List Obj := fun P => [boot_o_0 P, boot_o_1 P, ob2 P, ob3c P, boot_o_4 P, boot_o_5 P, boot_o_6 P, boot_o_7 P, boot_o_8 P, boot_o_9 P, boot_o_10 P, ob11 P, ob12d P, ob13 P, ob14 P, ob15 P, ob16 P, ob17 P, ob18 P, ob19 P, ob20 P, ob21 P, ob22 P, ob23 P, ob24 P, ob25 P, ob26 P, ob27 P, ob28 P, ob29 P, ob30 P, ob31 P, ob32 P, ob33 P, ob34 P, ob35 P, ob36 P, ob37 P, ob38 P, ob39 P, ob40 P, ob41 P, ob42 P, ob43 P, ob44 P, ob45 P, ob46 P, ob47 P, ob48 P, ob49 P, ob50 P, ob51 P, ob52 P, ob53 P, ob54 P, ob55 P, ob56 P, ob57 P, ob58 P, ob59 P, ob60 P, ob61 P, ob62 P, ob63 P, ob64 P, ob65 P, ob66 P, ob67 P, ob68 P, ob69 P, ob70 P, ob71 P, ob72 P, ob73 P, ob74 P, ob75 P, ob76 P, ob77 P, ob78 P, ob79 P, ob80 P, ob81 P, ob82 P, ob83 P, ob84 P, ob85 P, ob86 P, ob87 P, ob88 P, ob89 P, ob90 P]
noncomputable def hp33 : Params → List Obj := fun P => [boot_o_0 P, boot_o_1 P, ob2 P, ob3d P, boot_o_4 P, boot_o_5 P, boot_o_6 P, boot_o_7 P, boot_o_8 P, boot_o_9 P, boot_o_10 P, ob11 P, ob12e P, ob13 P, ob14 P, ob15 P, ob16 P, ob17 P, ob18 P, ob19 P, ob20 P, ob21 P, ob22 P, ob23 P, ob24 P, ob25 P, ob26 P, ob27 P, ob28 P, ob29 P, ob30 P, ob31 P, ob32 P, ob33 P, ob34 P, ob35 P, ob36 P, ob37 P, ob38 P, ob39 P, ob40 P, ob41 P, ob42 P, ob43 P, ob44 P, ob45 P, ob46 P, ob47 P, ob48 P, ob49 P, ob50 P, ob51 P, ob52 P, ob53 P, ob54 P, ob55 P, ob56 P, ob57 P, ob58 P, ob59 P, ob60 P, ob61 P, ob62 P, ob63 P, ob64 P, ob65 P, ob66 P, ob67 P, ob68 P, ob69 P, ob70 P, ob71 P, ob72 P, ob73 P, ob74 P, ob75 P, ob76 P, ob77 P, ob78 P, ob79 P, ob80 P, ob81 P, ob82 P, ob83 P, ob84 P, ob85 P, ob86 P, ob87 P, ob88 P, ob89 P, ob90 P, ob91 P, ob92 P, ob93 P, ob94 P, ob95 P, ob96 P, ob97 P, ob98 P, ob99 P, ob100 P, ob101 P, ob102 P, ob103 P, ob104 P, ob105 P, ob106 P, ob107 P, ob108 P, ob109 P, ob110 P, ob111 P, ob112 P, ob113 P, ob114 P, ob115 P, ob116 P, ob117 P, ob118 P, ob119 P, ob120 P, ob121 P, ob122 P, ob123 P, ob124 P, ob125 P, ob126 P, ob127 P, ob128 P, ob129 P, ob130 P, ob131 P, ob132 P, ob133 P, ob134 P, ob135 P, ob136 P, ob137 P, ob138 P, ob139 P, ob140 P, ob141 P, ob142 P, ob143 P, ob144 P, ob145 P, ob146 P, ob147 P, ob148 P, ob149 P, ob150 P, ob151 P, ob152 P, ob153 P, ob154 P, ob155 P, ob156 P, ob157 P, ob158 P, ob159 P, ob160 P, ob161 P, ob162 P, ob163 P, ob164 P, ob165 P]
noncomputable def hp41 : Params → List Obj := fun P => [boot_o_0 P, boot_o_1 P, ob2 P, ob3e P, boot_o_4 P, boot_o_5 P, boot_o_6 P, boot_o_7 P, boot_o_8 P, boot_o_9 P, boot_o_10 P, ob11 P, ob12f P, ob13 P, ob14 P, ob15 P, ob16 P, ob17 P, ob18 P, ob19 P, ob20 P, ob21 P, ob22 P, ob23 P, ob24 P, ob25 P, ob26 P, ob27 P, ob28 P, ob29 P, ob30 P, ob31 P, ob32 P, ob33 P, ob34 P, ob35 P, ob36 P, ob37 P, ob38 P, ob39 P, ob40 P, ob41 P, ob42 P, ob43 P, ob44 P, ob45 P, ob46 P, ob47 P, ob48 P, ob49 P, ob50 P, ob51 P, ob52 P, ob53 P, ob54 P, ob55 P, ob56 P, ob57 P, ob58 P, ob59 P, ob60 P, ob61 P, ob62 P, ob63 P, ob64 P, ob65 P, ob66 P, ob67 P, ob68 P, ob69 P, ob70 P, ob71 P, ob72 P, ob73 P, ob74 P, ob75 P, ob76 P, ob77 P, ob78 P, ob79 P, ob80 P, ob81 P, ob82 P, ob83 P, ob84 P, ob85 P, ob86 P, ob87 P, ob88 P, ob89 P, ob90 P, ob91 P, ob92 P, ob93 P, ob94 P, ob95 P, ob96 P, ob97 P, ob98 P, ob99 P, ob100 P, ob101 P, ob102 P, ob103 P, ob104 P, ob105 P, ob106 P, ob107 P, ob108 P, ob109 P, ob110 P, ob111 P, ob112 P, ob113 P, ob114 P, ob115 P, ob116 P, ob117 P, ob118 P, ob119 P, ob120 P, ob121 P, ob122 P, ob123 P, ob124 P, ob125 P, ob126 P, ob127 P, ob128 P, ob129 P, ob130 P, ob131 P, ob132 P, ob133 P, ob134 P, ob135 P, ob136 P, ob137 P, ob138 P, ob139 P, ob140 P, ob141 P, ob142 P, ob143 P, ob144 P, ob145 P, ob146 P, ob147 P, ob148 P, ob149 P, ob150 P, ob151 P, ob152 P, ob153 P, ob154 P, ob155 P, ob156 P, ob157 P, ob158 P, ob159 P, ob160 P, ob161 P, ob162 P, ob163 P, ob164 P, ob165 P, ob166 P, ob167 P, ob168 P, ob169 P, ob170 P, ob171 P, ob172 P, ob173 P, ob174 P, ob175 P, ob176 P, ob177 P, ob178 P, ob179 P, ob180 P, ob181 P, ob182 P, ob183 P, ob184 P, ob185 P, ob186 P, ob187 P, ob188 P, ob189 P, ob190 P, ob191 P, ob192 P, ob193 P, ob194 P, ob195 P, ob196 P, ob197 P, ob198 P, ob199 P, ob200 P, ob201 P, ob202 P, ob203 P, ob204 P, ob205 P, ob206 P, ob207 P, ob208 P, ob209 P, ob210 P, ob211 P, ob212 P, ob213 P, ob214 P, ob215 P, ob216 P, ob217 P, ob218 P, ob219 P, ob220 P, ob221 P]
noncomputable def hp50 : Params → List Obj := fun P => [boot_o_0 P, boot_o_1 P, ob2 P, ob3f P, boot_o_4 P, boot_o_5 P, boot_o_6 P, boot_o_7 P, boot_o_8 P, boot_o_9 P, boot_o_10 P, ob11 P, ob12g P, ob13 P, ob14 P, ob15 P, ob16 P, ob17 P, ob18 P, ob19 P, ob20 P, ob21 P, ob22 P, ob23 P, ob24 P, ob25 P, ob26 P, ob27 P, ob28 P, ob29 P, ob30 P, ob31 P, ob32 P, ob33 P, ob34 P, ob35 P, ob36 P, ob37 P, ob38 P, ob39 P, ob40 P, ob41 P, ob42 P, ob43 P, ob44 P, ob45 P, ob46 P, ob47 P, ob48 P, ob49 P, ob50 P, ob51 P, ob52 P, ob53 P, ob54 P, ob55 P, ob56 P, ob57 P, ob58 P, ob59 P, ob60 P, ob61 P, ob62 P, ob63 P, ob64 P, ob65 P, ob66 P, ob67 P, ob68 P, ob69 P, ob70 P, ob71 P, ob72 P, ob73 P, ob74 P, ob75 P, ob76 P, ob77 P, ob78 P, ob79 P, ob80 P, ob81 P, ob82 P, ob83 P, ob84 P, ob85 P, ob86 P, ob87 P, ob88 P, ob89 P, ob90 P, ob91 P, ob92 P, ob93 P, ob94 P, ob95 P, ob96 P, ob97 P, ob98 P, ob99 P, ob100 P, ob101 P, ob102 P, ob103 P, ob104 P, ob105 P, ob106 P, ob107 P, ob108 P, ob109 P, ob110 P, ob111 P, ob112 P, ob113 P, ob114 P, ob115 P, ob116 P, ob117 P, ob118 P, ob119 P, ob120 P, ob121 P, ob122 P, ob123 P, ob124 P, ob125 P, ob126 P, ob127 P, ob128 P, ob129 P, ob130 P, ob131 P, ob132 P, ob133 P, ob134 P, ob135 P, ob136 P, ob137 P, ob138 P, ob139 P, ob140 P, ob141 P, ob142 P, ob143 P, ob144 P, ob145 P, ob146 P, ob147 P, ob148 P, ob149 P, ob150 P, ob151 P, ob152 P, ob153 P, ob154 P, ob155 P, ob156 P, ob157 P, ob158 P, ob159 P, ob160 P, ob161 P, ob162 P, ob163 P, ob164 P, ob165 P, ob166 P, ob167 P, ob168 P, ob169 P, ob170 P, ob171 P, ob172 P, ob173 P, ob174 P, ob175 P, ob176 P, ob177 P, ob178 P, ob179 P, ob180 P, ob181 P, ob182 P, ob183 P, ob184 P, ob185 P, ob186 P, ob187 P, ob188 P, ob189 P, ob190 P, ob191 P, ob192 P, ob193 P, ob194 P, ob195 P, ob196 P, ob197 P, ob198 P, ob199 P, ob200 P, ob201 P, ob202 P, ob203 P, ob204 P, ob205 P, ob206 P, ob207 P, ob208 P, ob209 P, ob210 P, ob211 P, ob212 P, ob213 P, ob214 P, ob215 P, ob216 P, ob217 P, ob218 P, ob219 P, ob220 P, ob221 P, ob222 P, ob223 P, ob224 P, ob225 P, ob226 P, ob227 P, ob228 P, ob229 P, ob230 P, ob231 P, ob232 P, ob233 P, ob234 P, ob235 P, ob236 P, ob237 P, ob238 P, ob239 P, ob240 P, ob241 P, ob242 P, ob243 P, ob244 P, ob245 P, ob246 P, ob247 P, ob248 P, ob249 P, ob250 P, ob251 P, ob252 P, ob253 P, ob254 P, ob255 P, ob256 P, ob257 P, ob258 P, ob259 P, ob260 P, ob261 P, ob262 P, ob263 P, ob264 P, ob265 P, ob266 P, ob267 P]
noncomputable abbrev sT (h : Params → List Obj) (n toks : Nat) (w : World) (os : OsState) : SharedT := ⟨treeOf (h w.params) .nil 0, n, (boot_heap w.params).life, Array.mk [], boot_drawn, toks, os⟩
noncomputable def bB : List Stmt := behindTheImports Pw
noncomputable def envH : Env := { scope := Pw.main.scope, locals := mainNs, globals := mainNs, cells := [], code := .ref 13, frame := some 14 }
noncomputable abbrev cE : Code := .body bB envH
noncomputable abbrev qH : Pos := ⟨0, 0, 0, 0⟩
noncomputable abbrev annH : Option Value := some (.ref 6)
theorem preH (w : World) (os : OsState) : topGo treeTable Pw w 11 annH 12 ⟨boot_heap w.params, Array.mk [], boot_drawn, boot_toks, os⟩ (topStub Pw) = some ((sT hblock 15 187 w os).abs, ⟨denote treeTable cE, cE, ⟨0, 0, 0, 0⟩, [topFrame qH]⟩) := by kernel_rfl
theorem blockH (w : World) (os : OsState) : segRun treeTable Pw w 11 annH 1 1 (sT hblock 15 187 w os).abs (blockOf bB envH cE ⟨0, 0, 0, 0⟩ [topFrame qH]) = some (.next, (sT hblock 15 187 w os).abs, cE, ⟨0, 0, 0, 0⟩) := by kernel_rfl
theorem runp8 (w : World) (os : OsState) : segRunT treeTable Pw w 11 annH 1 125 (sT hblock 15 187 w os) (piecesOf ((bB.drop 0).take 9) envH cE ⟨0, 0, 0, 0⟩ [topFrame qH]) = some (.next, sT hp8 29 218 w os, cE, ⟨11, 0, 11, 11⟩) := by kernel_rfl
theorem runp9 (w : World) (os : OsState) : segRunT treeTable Pw w 11 annH 1 245 (sT hp8 29 218 w os) (piecesOf ((bB.drop 9).take 1) envH cE ⟨11, 0, 11, 11⟩ [topFrame qH]) = some (.next, sT hp9 51 249 w os, cE, ⟨12, 0, 16, 24⟩) := by kernel_rfl
theorem runp10 (w : World) (os : OsState) : segRunT treeTable Pw w 11 annH 1 231 (sT hp9 51 249 w os) (piecesOf ((bB.drop 10).take 1) envH cE ⟨12, 0, 16, 24⟩ [topFrame qH]) = some (.next, sT hp10 72 286 w os, cE, ⟨17, 0, 27, 45⟩) := by kernel_rfl
theorem runp22 (w : World) (os : OsState) : segRunT treeTable Pw w 11 annH 1 169 (sT hp10 72 286 w os) (piecesOf ((bB.drop 11).take 12) envH cE ⟨17, 0, 27, 45⟩ [topFrame qH]) = some (.next, sT hp22 91 327 w os, cE, ⟨49, 0, 49, 9⟩) := by kernel_rfl
theorem runp33 (w : World) (os : OsState) : segRunT treeTable Pw w 11 annH 1 334 (sT hp22 91 327 w os) (piecesOf ((bB.drop 23).take 11) envH cE ⟨49, 0, 49, 9⟩ [topFrame qH]) = some (.next, sT hp33 166 420 w os, cE, ⟨73, 0, 74, 35⟩) := by kernel_rfl
theorem runp41 (w : World) (os : OsState) : segRunT treeTable Pw w 11 annH 1 253 (sT hp33 166 420 w os) (piecesOf ((bB.drop 34).take 8) envH cE ⟨73, 0, 74, 35⟩ [topFrame qH]) = some (.next, sT hp41 222 496 w os, cE, ⟨95, 0, 96, 60⟩) := by kernel_rfl
theorem runp50 (w : World) (os : OsState) : segRunT treeTable Pw w 11 annH 1 239 (sT hp41 222 496 w os) (piecesOf ((bB.drop 42).take 9) envH cE ⟨95, 0, 96, 60⟩ [topFrame qH]) = some (.next, sT hp50 268 561 w os, cE, ⟨165, 0, 176, 15⟩) := by kernel_rfl
theorem finH (w : World) (os : OsState) : topRun treeTable Pw w 11 annH 2 (sT hp50 268 561 w os).abs ⟨doneF .next, cE, ⟨165, 0, 176, 15⟩, [topFrame qH]⟩ = some (sT hp50 268 561 w os).abs := by kernel_rfl
theorem bodyH : bB = ((bB.drop 0).take 9 ++ ((bB.drop 9).take 1 ++ ((bB.drop 10).take 1 ++ ((bB.drop 11).take 12 ++ ((bB.drop 23).take 11 ++ ((bB.drop 34).take 8 ++ ((bB.drop 42).take 9 ++ []))))))) := by kernel_rfl
noncomputable def hFin (P : Params) : Heap := ⟨(hp50 P).toArray, (boot_heap P).life⟩
theorem okFin (P : Params) : treeOk (hp50 P) .nil 0 = true := by kernel_rfl
theorem lenFin (P : Params) : (hp50 P).length = 268 := by kernel_rfl
theorem absFin (w : World) (os : OsState) : (sT hp50 268 561 w os).abs = ⟨hFin w.params, Array.mk [], boot_drawn, 561, os⟩ := abs_list (okFin w.params) (lenFin w.params)
theorem runH (w : World) (os : OsState) : topRun treeTable Pw w 11 annH (12 + (1 + (125 + (245 + (231 + (169 + (334 + (253 + (239 + 2))))))))) ⟨boot_heap w.params, Array.mk [], boot_drawn, boot_toks, os⟩ (topStub Pw) = some ⟨hFin w.params, Array.mk [], boot_drawn, 561, os⟩ :=
  (go_top (preH w os) (piece_block (blockH w os) ((congrArg (fun l => topRun treeTable Pw w 11 annH (125 + (245 + (231 + (169 + (334 + (253 + (239 + 2))))))) (sT hblock 15 187 w os).abs (restOf l envH cE ⟨0, 0, 0, 0⟩ [topFrame qH])) bodyH).trans (piece_app (segRun_of (runp8 w os)) (piece_app (segRun_of (runp9 w os)) (piece_app (segRun_of (runp10 w os)) (piece_app (segRun_of (runp22 w os)) (piece_app (segRun_of (runp33 w os)) (piece_app (segRun_of (runp41 w os)) (piece_app (segRun_of (runp50 w os)) (piece_nil (finH w os)))))))))))).trans (congrArg some (absFin w os))
theorem opensH : opening Pw = plainProg Pw.main.scope.names := by kernel_rfl
theorem fencesH (s : Shared) : fenceModules? Pw s = some s := by kernel_rfl
theorem sizeH (w : World) : ((boot_heap w.params).isNs mainGlobals && (Array.mk [] : Array GenState).size == 0, (boot_heap w.params).objs.size, (boot_heap w.params).nsMap mainGlobals "__annotations__") = (true, 11, annH) := by kernel_rfl
noncomputable abbrev sF (w : World) (os : OsState) : Shared := ⟨hFin w.params, Array.mk [], boot_drawn, 561, os⟩
theorem lookA (w : World) (os : OsState) : (staticsOk (importedModules Pw.main.body) (boot_heap w.params) (hFin w.params) && namesBound Pw (hFin w.params) && gensDone (sF w os) && laidKept (boot_heap w.params) (hFin w.params)) = true := by kernel_rfl
theorem lookB (w : World) (os : OsState) : openSeen VW LS (importedModules Pw.main.body) (fun s => xlAt VW [] s && recOk (RowW.records Rw.toRowW) s) true (sF w os) = openGood VW LS := by kernel_rfl
theorem lookC (w : World) (os : OsState) : (kHook KK KA ka_ok).obs (sF w os) = (kHook KK KA ka_ok).val w := by kernel_rfl
theorem left : LeftO Pw VW LS (fun s => xlAt VW [] s && recOk (RowW.records Rw.toRowW) s) (kHook KK KA ka_ok).obs (kHook KK KA ka_ok).val 3304 :=
  LeftO.of_pieces (boot_open opensH (by rfl) fencesH) sizeH runH (by rfl) fun w => funext fun os => by
    show (_, _, _) = (_, _, _)
    rw [show (staticsOk (importedModules Pw.main.body) (boot_heap w.params) (hFin w.params) && namesBound Pw (hFin w.params) && gensDone (sF w os) && laidKept (boot_heap w.params) (hFin w.params)) = true from lookA w os]
    exact congrArg (Prod.mk true) (congr (congrArg Prod.mk (lookB w os)) (lookC w os))
-- Sd
theorem said : PySem.Challenge.rw_nz0566_01.wellSaid = true := by
  unfold OpenLaw.wellSaid OpenRow.wellSaid OpenRow.partSaid looksOpen
  simp only [Bool.and_eq_true]
  repeat' refine And.intro ?_ ?_
  all_goals decide +kernel
-- Bs


noncomputable abbrev Led := List (Addr × Obj)

/-- a contract: called over the ledger `news` with `vs`, the def at `f` hands back some r over some news' that Post allows -/
noncomputable def Sp (f : Addr) (need : Nat) (news : Led) (vs : List Value) (Post : Value → Led → Prop) : Prop :=
  ∀ (w : World) (mean : ExcName → Option Value) (mg mb : Str → Option Value) (dp un : Nat) (gd : Option (List Code)) (cn : Str) (cs : Scope) (a : Addr) (ccd : Value) (cl : List (Str × Addr)) (outer : List Env) (A₀ : Around) (base h₀ : Heap) (L : Addr) (m : Str → Option Value) (s : Shared)
    (Q E : Value → Shared → Prop),
    Below A₀ base outer h₀ → Fr h₀ L s.heap m → (KK w.params).In h₀ → News h₀ L s.heap news → Top VW (looseW VW LS) mean mg mb h₀ → cs.kind = .function → dp + need < recursionLimit → un + 8 * need < cLine →
    (∀ r news' h' tk', Fr h₀ L h' m → News h₀ L h' news' → Post r news' → Q r { s with heap := h', toks := tk' }) →
    wpAny (model PySem.Challenge.rw_nz0566_01.row.prog w) (ktrTop dp un gd cn cs L a ccd cl outer) (call (.ref f) vs) Q E s


section
variable {prog : Program} {w : World} {A : Around} {E : Value → Shared → Prop} {s : Shared} {h₀ : Heap} {L D : Addr} {m : Str → Option Value} {news : Led} {vs : List Value} {ns : List Int} {n : Nat} {a b : Int} {t u : Tok}
theorem my_len {Q : Value → Shared → Prop} (N : News h₀ L s.heap news) (hm : (D, listOf vs.toArray n) ∈ news) (hi : IntsAre vs ns) (hf : ns.length < 2 ^ 62) (h : Q (.int (ns.length : Nat) (s.toks + 1)) { s with toks := s.toks + 1 + 1 }) :
    wpAny (model prog w) A (call (.builtin "len") [.ref D]) Q E s := KM.len_K N hm (by rw [List.size_toArray]; exact hi.length) hf h
theorem my_mod {Q : Value → Shared → Prop} (hb : 0 < b) (h : Q (.int (a % b) s.toks) { s with toks := s.toks + 1 }) : wpAny (model prog w) A (binaryOp .Mod (.int a t) (.int b u)) Q E s := by
  refine mod_int' (by omega) ?_
  rw [Int.fmod_eq_emod_of_nonneg a (by omega)]
  exact h
theorem my_and {c : Int} (e : ∀ x, PySem.Builtin.bitAnd x b = x % c) {Q : Value → Shared → Prop} (h : Q (.int (a % c) s.toks) { s with toks := s.toks + 1 }) : wpAny (model prog w) A (binaryOp .BitAnd (.int a t) (.int b u)) Q E s := by
  refine and_int ?_
  rw [e]
  exact h
theorem my_div {Q : Value → Shared → Prop} (hb : 0 < b) (hb2 : b < 1000000) (h : Q (.int (a / b) s.toks) { s with toks := s.toks + 1 }) : wpAny (model prog w) A (binaryOp .FloorDiv (.int a t) (.int b u)) Q E s := by
  refine floordiv_int (by omega) ?_ (Or.inl (PyProof.noPylong_small (by omega)))
  rw [Int.fdiv_eq_ediv_of_nonneg a (by omega)]
  exact h
end

theorem sp_use {f : Addr} {need : Nat} {news : Led} {vs : List Value} {Post : Value → Led → Prop} (S : Sp f need news vs Post)
    {w : World} {mean : ExcName → Option Value} {mg mb : Str → Option Value} {dp un : Nat} {gd : Option (List Code)} {cn : Str} {cs : Scope} {a : Addr} {ccd : Value} {cl : List (Str × Addr)} {outer : List Env} {A₀ : Around} {base h₀ : Heap} {L : Addr} {m : Str → Option Value} {s : Shared}
    {Q E : Value → Shared → Prop}
    (B : Below A₀ base outer h₀) (F : Fr h₀ L s.heap m) (X : (KK w.params).In h₀) (N : News h₀ L s.heap news) (T : Top VW (looseW VW LS) mean mg mb h₀) (hk : cs.kind = .function) (hd : dp + need < recursionLimit) (hu : un + 8 * need < cLine)
    (h : ∀ r news' h' tk', Fr h₀ L h' m → News h₀ L h' news' → Post r news' → Q r { s with heap := h', toks := tk' }) :
    wpAny (model PySem.Challenge.rw_nz0566_01.row.prog w) (ktrTop dp un gd cn cs L a ccd cl outer) (call (.ref f) vs) Q E s :=
  S w mean mg mb dp un gd cn cs a ccd cl outer A₀ base h₀ L m s Q E B F X N T hk hd hu h

/-- reading at a place, around the end -/
noncomputable def rd (ns : List Int) (i : Int) : Int := ns.getD (i % (ns.length : Int)).toNat 0
noncomputable def wr (ns : List Int) (i x : Int) : List Int := ns.set (i % (ns.length : Int)).toNat x
noncomputable def got (ns : List Int) (i : Int) (n : Nat) : List Int := (List.range n).map fun (j : Nat) => rd ns (i + (j : Int))
noncomputable def put : List Int → Int → List Int → List Int
  | ns, _, [] => ns
  | ns, i, x :: r => put (wr ns i x) (i + 1) r
noncomputable def Sz (ns : List Int) : Prop := ns.length = 64 ∨ ns.length = 128 ∨ ns.length = 256
noncomputable def Oct (ns : List Int) : Prop := ∀ x ∈ ns, 0 ≤ x ∧ x < 256
theorem Sz.dvd {ns : List Int} (h : Sz ns) : (ns.length : Int) ∣ 65536 := by
  rcases h with h | h | h <;> rw [h] <;> decide
theorem Sz.pos {ns : List Int} (h : Sz ns) : 0 < ns.length := by unfold Sz at h; omega
theorem Sz.le {ns : List Int} (h : Sz ns) : ns.length ≤ 256 := by unfold Sz at h; omega
theorem Sz.le' {ns : List Int} (h : Sz ns) : ns.length ≤ 1000 := by unfold Sz at h; omega
theorem wr_length (ns : List Int) (i x : Int) : (wr ns i x).length = ns.length := by unfold wr; exact List.length_set ..
theorem put_length : ∀ (row ns : List Int) (i : Int), (put ns i row).length = ns.length
  | [], _, _ => rfl
  | x :: r, ns, i => by unfold put; rw [put_length r, wr_length]
theorem got_length (ns : List Int) (i : Int) (n : Nat) : (got ns i n).length = n := by unfold got; simp
theorem Sz.wr {ns : List Int} (h : Sz ns) (i x : Int) : Sz (wr ns i x) := by unfold Sz at *; rw [wr_length]; exact h
theorem Sz.put {ns : List Int} (h : Sz ns) (i : Int) (row : List Int) : Sz (put ns i row) := by unfold Sz at *; rw [put_length]; exact h
theorem rd_mod {ns : List Int} (h : Sz ns) (i : Int) : rd ns (i % 65536) = rd ns i := by
  unfold rd; rw [Int.emod_emod_of_dvd _ h.dvd]
theorem wr_mod {ns : List Int} (h : Sz ns) (i x : Int) : Mine.wr ns (i % 65536) x = Mine.wr ns i x := by
  unfold Mine.wr; rw [Int.emod_emod_of_dvd _ h.dvd]
theorem rd_oct {ns : List Int} (h : Oct ns) (i : Int) : 0 ≤ rd ns i ∧ rd ns i < 256 := by
  unfold rd
  rw [List.getD_eq_getElem?_getD]
  cases q : ns[(i % (ns.length : Int)).toNat]? with
  | none => simp
  | some x => exact h x (List.mem_of_getElem? q)
theorem Oct.wr {ns : List Int} (h : Oct ns) (i : Int) {x : Int} (h0 : 0 ≤ x) (h1 : x < 256) : Oct (wr ns i x) := by
  intro y hy
  rcases List.mem_or_eq_of_mem_set hy with q | q
  · exact h y q
  · subst q; exact ⟨h0, h1⟩
theorem Oct.put : ∀ {row ns : List Int}, Oct ns → ∀ (i : Int), Oct row → Oct (put ns i row)
  | [], _, h, _, _ => h
  | x :: r, ns, h, i, hr => by
    unfold Mine.put
    exact Oct.put (h.wr i (hr x (.head _)).1 (hr x (.head _)).2) _ fun y hy => hr y (.tail _ hy)
theorem off1_of {D : Addr} : ∀ {l : Led}, (∀ p ∈ l, p.1 < D) → LCg.Off1 D l
  | [], _ => trivial
  | p :: _, h => ⟨Nat.ne_of_lt (h p (.head _)), off1_of fun q hq => h q (.tail _ hq)⟩
theorem off1_mem {D : Addr} : ∀ {l : Led}, LCg.Off1 D l → ∀ p ∈ l, p.1 ≠ D
  | [], _, _, h => nomatch h
  | _ :: _, x, p, h => by
    rcases List.mem_cons.mp h with rfl | h
    · exact x.1
    · exact off1_mem x.2 p h
theorem sp_upd {f : Addr} {need : Nat} {d : Addr} {o : Obj} {news : Led} {g : Obj → Led} {vs : List Value} {P : Value → Obj → Prop} (U : UpdF d o news g)
    (h : ∀ rest : Led, (∀ p ∈ rest, p.1 ≠ d) → (∀ p ∈ news, p.1 ≠ d → p ∈ rest) → Sp f need ((d, o) :: rest) vs (fun r news' => ∃ o', P r o' ∧ news' = (d, o') :: rest)) :
    Sp f need news vs (fun r news' => ∃ o', P r o' ∧ news' = g o') := by
  obtain ⟨pre, post, rfl, hg, h1, h2⟩ := U.split
  have hne : ∀ p ∈ pre ++ post, p.1 ≠ d := fun p hp => (List.mem_append.mp hp).elim (h1 p) (h2 p)
  intro w mean mg mb dp un gd cn cs a ccd cl outer A₀ base h₀ L m s Q E B F X N T hk hd hu hret
  refine h (pre ++ post) hne (fun p hp hn => ?_) w mean mg mb dp un gd cn cs a ccd cl outer A₀ base h₀ L m s Q E B F X (fun p hp => N p ?_) T hk hd hu ?_
  · rcases List.mem_append.mp hp with q | q
    · exact List.mem_append.mpr (.inl q)
    · rcases List.mem_cons.mp q with rfl | q
      · exact absurd rfl hn
      · exact List.mem_append.mpr (.inr q)
  · rcases List.mem_cons.mp hp with rfl | q
    · simp
    · rcases List.mem_append.mp q with q | q <;> simp [q]
  · rintro r news' h' tk' F' N' ⟨o', hP, rfl⟩
    refine hret r (g o') h' tk' F' (fun p hp => N' p ?_) ⟨o', hP, rfl⟩
    rw [hg] at hp
    rcases List.mem_append.mp hp with q | q
    · simp [q]
    · rcases List.mem_cons.mp q with rfl | q
      · simp
      · simp [q]
theorem mem_show {x : Addr × Obj} {l : List (Addr × Obj)} (h : x ∈ l) : List.Mem x l := h

theorem or128 {x : Int} (h0 : 0 ≤ x) (h1 : x < 128) : PySem.Builtin.bitOr x 128 = x + 128 := by
  have all : ∀ n : Fin 128, PySem.Builtin.bitOr ((n.val : Nat) : Int) 128 = ((n.val : Nat) : Int) + 128 := by decide +kernel
  have := all ⟨x.toNat, by omega⟩
  have e : ((x.toNat : Nat) : Int) = x := by omega
  simpa only [e] using this
theorem and128 {x : Int} (h0 : 0 ≤ x) (h1 : x < 256) : (PySem.Builtin.bitAnd x 128 == 0) = decide (x < 128) := by
  have all : ∀ n : Fin 256, (PySem.Builtin.bitAnd ((n.val : Nat) : Int) 128 == 0) = decide (((n.val : Nat) : Int) < 128) := by decide +kernel
  have := all ⟨x.toNat, by omega⟩
  have e : ((x.toNat : Nat) : Int) = x := by omega
  simpa only [e] using this
theorem ext_eq (x : Int) : PySem.Builtin.bitOr (x / 32 % 64) 128 % 256 = x / 32 % 64 + 128 := by
  rw [or128 (by omega) (by omega)]; omega
theorem mark_eq1 (x : Int) : x % 128 % 256 = x % 128 + 0 := by omega
theorem mark_eq2 (x : Int) : PySem.Builtin.bitOr (x % 128) 128 % 256 = x % 128 + 128 := by
  rw [or128 (by omega) (by omega)]; omega
theorem mod32 (x : Int) : x % 32 % 256 = x % 32 := by omega
theorem conv {vs : List Value} {a b : List Int} (h : IntsAre vs a) (e : a = b) : IntsAre vs b := e ▸ h

theorem got_eq {ns : List Int} (h : Sz ns) (i : Int) (n : Nat) : List.map (fun k' => rd ns ((i + k') % 65536)) (rangeKs 0 ((n : Int) - 0).toNat) = got ns i n := by
  unfold got rangeKs
  have e : ((n : Int) - 0).toNat = n := by omega
  rw [e, List.map_map]
  refine List.map_congr_left fun j _ => ?_
  show rd ns ((i + (0 + (j : Int))) % 65536) = rd ns (i + (j : Int))
  rw [rd_mod h, Int.zero_add]

theorem got_eq2 (ns : List Int) (i : Int) (n : Nat) : List.map (fun k' => ns.getD ((i + k') % (ns.length : Int)).toNat 0) (rangeKs 0 ((n : Int) - 0).toNat) = got ns i n := by
  unfold got rangeKs
  have e : ((n : Int) - 0).toNat = n := by omega
  rw [e, List.map_map]
  refine List.map_congr_left fun j _ => ?_
  show ns.getD ((i + (0 + (j : Int))) % (ns.length : Int)).toNat 0 = rd ns (i + (j : Int))
  rw [Int.zero_add]
  rfl
theorem got3 {vs : List Value} {ns : List Int} {i : Int} (h : IntsAre vs (got ns i 3)) : ∃ ta tb tc, vs = [.int (rd ns i) ta, .int (rd ns (i + 1)) tb, .int (rd ns (i + 2)) tc] := by
  have e : got ns i 3 = [rd ns i, rd ns (i + 1), rd ns (i + 2)] := by
    unfold got
    show [rd ns (i + 0), rd ns (i + 1), rd ns (i + 2)] = _
    rw [Int.add_zero]
  rw [e] at h
  cases h with
  | cons _ ta h => cases h with
    | cons _ tb h => cases h with
      | cons _ tc h => cases h with
        | nil => exact ⟨ta, tb, tc, rfl⟩

theorem my_nn {a b : Int} (h : 0 < b) : 0 ≤ a % b := Int.emod_nonneg _ (by omega)
theorem my_lt {a b : Int} (h : 0 < b) : a % b < b := Int.emod_lt_of_pos _ h
theorem my_fit {a b : Int} (h : 0 < b) (h1 : b < 1000000) : a % b < 2 ^ 63 := by have := my_lt (a := a) h; omega

theorem put_append : ∀ (a ns : List Int) (i : Int) (b : List Int), put ns i (a ++ b) = put (put ns i a) (i + a.length) b
  | [], ns, i, b => by show put ns i b = put ns (i + (0 : Nat)) b; rw [Int.natCast_zero, Int.add_zero]
  | x :: a, ns, i, b => by
    show put (Mine.wr ns i x) (i + 1) (a ++ b) = put (put (Mine.wr ns i x) (i + 1) a) (i + ((a.length + 1 : Nat) : Int)) b
    rw [put_append a, show i + 1 + (a.length : Int) = i + ((a.length + 1 : Nat) : Int) by omega]
theorem put_snoc {row ns : List Int} {i : Int} {j : Nat} {q : Int} {f : Int → Int} (h : row[j]? = some q) : put ns i ((row.take (j + 1)).map f) = wr (put ns i ((row.take j).map f)) (i + j) (f q) := by
  have hl : j < row.length := by
    rcases Nat.lt_or_ge j row.length with p | p
    · exact p
    · rw [List.getElem?_eq_none p] at h; cases h
  rw [List.take_add_one, h, Option.toList_some, List.map_append, put_append]
  show wr _ (i + ((List.map f (List.take j row)).length : Int)) (f q) = _
  rw [List.length_map, List.length_take, Nat.min_eq_left (Nat.le_of_lt hl)]

theorem take_eq {row : List Int} (h : row.length = 32) : List.take (min 32 row.length - 1) (List.drop 1 row) = row.drop 1 := by
  rw [h]
  exact List.take_of_length_le (by simp [h])
theorem mark_false : (if false = true then (0 : Int) else 128) = 128 := rfl
theorem rand_eq {ns : List Int} {i x : Int} : put ns i (List.map (fun x => x % 256) [x % 256, x / 256 % 256, x / 65536 % 256]) = put ns i [x % 256, x / 256 % 256, x / 65536 % 256] := by
  simp only [List.map_cons, List.map_nil, Int.emod_emod]
theorem off1_lt {D : Addr} : ∀ {l : Led}, AllLt D l → LCg.Off1 D l
  | [], _ => trivial
  | _ :: _, h => ⟨Nat.ne_of_lt h.1, off1_lt h.2⟩
theorem put_snoc0 {row ns : List Int} {i : Int} {j : Nat} {q : Int} (h : row[j]? = some q) : put ns i (row.take (j + 1)) = wr (put ns i (row.take j)) (i + j) q := by
  have := put_snoc (ns := ns) (i := i) (f := fun x => x) h
  simpa using this
theorem wr_as {a : List Int} {n : Nat} {i x : Int} (h : a.length = n) : a.set (i % (n : Int)).toNat x = wr a i x := by subst h; rfl
section
variable {prog : Program} {w : World} {A : Around} {E : Value → Shared → Prop} {s : Shared} {h₀ : Heap} {L D : Addr} {m : Str → Option Value} {news : Led} {vs : List Value} {ns : List Int} {n : Nat} {a b : Int} {t u : Tok}
theorem my_shr8 {Q : Value → Shared → Prop} (h : Q (.int (a / 256) s.toks) { s with toks := s.toks + 1 }) : wpAny (model prog w) A (binaryOp .RShift (.int a t) (.int 8 u)) Q E s := by
  refine rshift_int (by decide) ?_
  rw [show ((2 : Int) ^ (8 : Int).toNat) = 256 from rfl, Int.fdiv_eq_ediv_of_nonneg a (by decide)]
  exact h
theorem my_shr16 {Q : Value → Shared → Prop} (h : Q (.int (a / 65536) s.toks) { s with toks := s.toks + 1 }) : wpAny (model prog w) A (binaryOp .RShift (.int a t) (.int 16 u)) Q E s := by
  refine rshift_int (by decide) ?_
  rw [show ((2 : Int) ^ (16 : Int).toNat) = 65536 from rfl, Int.fdiv_eq_ediv_of_nonneg a (by decide)]
  exact h
theorem my_copy {Q : Value → Shared → Prop} {ds : List (Addr × Obj)} (F : Fr h₀ L s.heap m) (N : News h₀ L s.heap ds) (hm : (D, listOf vs.toArray n) ∈ ds) (hi : IntsAre vs ns) (hle : ns.length ≤ 1000)
    (h : ∀ D' c h', Fr h₀ L h' m → News h₀ L h' ((D', listOf vs.toArray c) :: ds) → (∀ q ∈ ds, q.1 < D') → Q (.ref D') { s with heap := h' }) : wpAny (model prog w) A (call (.type "list") [.ref D]) Q E s :=
  list_copyK F N (News.isList N hm) h (by rw [PySem.sizeLine_eq, List.size_toArray, hi.length]; omega)
noncomputable def StepSrc (prog : Program) (w : World) (A : Around) (h₀ : Heap) (L : Addr) (m : Str → Option Value) (env : Env) (elt : Expr) (x : Str) (scope : Scope) (cl : List (Str × Addr)) (Fin : Shared → List Value → Led → Prop) (xv : Value) (s₁ : Shared) : Prop :=
  ∃ r a b c t u v n news, xv = .ref r ∧ A.handled = none ∧ Fr h₀ L s₁.heap m ∧ News h₀ L s₁.heap news ∧ IsRange s₁.heap r a b c t u v ∧ PySem.Builtin.Range.small a b c = true ∧ PySem.Builtin.Range.rangeSize a b c = ((n : Nat) : Int) ∧ n ≤ sizeLine ∧
    ∀ g, LCg.CompRest prog w A h₀ L m env elt x scope cl { s₁ with heap := g } (fun _ => True) (fun i v => ∃ t, v = .int (a + (i : Int) * c) t) (Fin { s₁ with heap := g }) n 0 [] news
theorem step_st {I : Addr} {a c : Int} {n : Nat} (i : Nat) (h h' : Heap) (o : Obj) (nw : Led) (st : IsRangeIter h I (a + (i : Nat) * c) ((n : Int) - (i : Nat)) c) (e : h.get? I = some o) (e' : h'.get? I = some o) (_ : ∀ b o, h₀.get? b = some o → h'.get? b = some o) (_ : News h₀ L h' nw) (_ : True) :
    IsRangeIter h' I (a + (i : Nat) * c) ((n : Int) - (i : Nat)) c := by
  have st' : h.get? I = some _ := st
  show h'.get? I = some _
  rw [e', ← e]; exact st'
/-- a comprehension over a range by any step -/
theorem ListComp_S {env : Env} {elt iter : Expr} {x : Str} {px : Pos} {scope : Scope} {cl : List (Str × Addr)} {pos : Pos} {Q : Value → Shared → Prop} (F₀ : Fr h₀ L s.heap m)
    (hclos : closureFor scope env = pure cl) (hcell : ∀ y ∈ scope.names, y.2 ≠ .cell) (hkind : scope.kind = .function)
    (hnames : ∀ y ∈ scope.names, y.2 = .local → scope.names.lookup y.1 = some .local) (hx : scope.names.lookup x = some .local)
    (h : wpAny (model prog w) A (eval iter env) (StepSrc prog w A h₀ L m env elt x scope cl (fun s₂ => LCg.FinE h₀ L m s₂ Q)) E s)
    (hs : ∀ x, foldedSetIterable iter env x = pure x := by intro _; rfl) :
    wpAny (model prog w) A (eval (.ListComp elt [⟨.Name x px, iter, [], 0⟩] scope pos) env) Q E s := by
  rw [eval_ListComp]
  refine wpAny_comprehension_free (use := none) rfl hs hclos hkind hnames (wpAny_mono h (fun xv s₁ h₁ => ?_) fun _ _ e => e)
  obtain ⟨r, a, b, c, t, u, v, n, news, rfl, hh, F, N, hr, hsm, hn, hsz, R⟩ := h₁
  refine wpAny_pyIter_range hr hsm ?_
  refine LCg.block_U (Walks.range hh s₁.heap.objs.size a c n) hsz (fun i h st => ⟨_, st⟩) step_st hcell hkind hx (by show IsRangeIter _ _ _ _ _; rw [hn]; simpa using Heap.get?_push_size _ rfl) (fun b hb => ?_)
    (F.keeps fun _ _ e => Heap.get?_push_of_some _ e) (N.grown fun _ _ e => Heap.get?_push_of_some _ e) (Nat.ne_of_lt F.ns.lt) (next_is_new F) (fun p hp => Nat.ne_of_lt (Heap.lt_size (N p hp).1)) trivial (R _) ?_
  · rw [List.mem_singleton.mp hb]
    show s₁.heap.objs.size < (s₁.heap.push _).objs.size
    rw [Heap.size_push]; exact Nat.lt_succ_self _
  · intro D C h tk m' ys news' F' N' o1 hn hC₀ hD₀ hCL hDL hCD offC fin
    refine ⟨m', hn, fun h'' hs'' => fin D h'' tk (F'.change hs'' hCL hC₀) (fun p hp => ?_) o1⟩
    refine ⟨hs''.extBut _ _ ?_ (N' p hp).1, (N' p hp).2⟩
    rcases List.mem_cons.mp hp with rfl | hp
    · exact Ne.symm hCD
    · exact offC p hp
end


noncomputable abbrev mXY (x y : Str) (m₀ : Str → Option Value) (u1 u2 : Option Value) : Str → Option Value := fun z => if z = y then u1 else if z = x then u2 else m₀ z
noncomputable def EnumPost (h₀ : Heap) (L : Addr) (x y : Str) (m₀ : Str → Option Value) (s : Shared) (its : Led) (J : Led → Prop) (f : Flow) (s₂ : Shared) : Prop :=
  f = .next ∧ ∃ h' tk' u1 u2 news', s₂ = { s with heap := h', toks := tk' } ∧ Fr h₀ L h' (mXY x y m₀ u1 u2) ∧ News h₀ L h' (its ++ news') ∧ J news'
theorem enum_inv {prog : Program} {w : World} {A : Around} {E : Value → Shared → Prop} {s : Shared} {env : Env} {h₀ : Heap} {body : List Stmt} {Q : Flow → Shared → Prop} {elts : List Expr} {k : Nat} {pos : Pos} {l : Addr} {vs : List Value} {ns : List Int} {n : Nat} {m₀ : Str → Option Value} {news : Led} (x y : Str)
    (J : Nat → Led → Prop) (hh : A.handled = none) (F : Fr h₀ env.locals s.heap m₀) (N : News h₀ env.locals s.heap news) (hm : (l, listOf vs.toArray n) ∈ news) (hi : IntsAre vs ns)
    (h0 : J 0 news) (hJ : ∀ i nw, J i nw → (l, listOf vs.toArray n) ∈ nw ∧ nw.map (·.1) = news.map (·.1))
    (turn : ∀ i q t tt T u1 u2 news₁ h tk I o1 o2, ns[i]? = some q → J i news₁ → (∀ p ∈ news, p.1 < I) → IsTup h T #[.int (i : Int) tt, .int q t] → Fr h₀ env.locals h (mXY x y m₀ u1 u2) → News h₀ env.locals h ((I + 1, o1) :: (I, o2) :: news₁) →
      wpAny (model prog w) A (assign (.Tuple elts k pos) env (.ref T)) (fun _ s₂ => wpAny (model prog w) A (execs body env) (EnumPost h₀ env.locals x y m₀ s [(I + 1, o1), (I, o2)] (J (i + 1))) E s₂) E { s with heap := h, toks := tk })
    (done : ∀ u1 u2 news₁ h tk, J ns.length news₁ → Fr h₀ env.locals h (mXY x y m₀ u1 u2) → News h₀ env.locals h news₁ → Q .next { s with heap := h, toks := tk }) :
    wpAny (model prog w) A (call (.type "enumerate") [.ref l]) (fun xv s₁ => wpAny (model prog w) A (pyIter xv) (fun it s₂ => TurnsAt prog w A h₀ env (.Tuple elts k pos) body Q E it s₂) E s₁) E s := by
  refine ktu_enum (lo := listOf vs.toArray n) hh F N hm rfl rfl rfl fun I hI => ?_
  have key : ∀ (r : List Value) (i : Nat) (news₁ : Led) (u1 u2 : Option Value), vs.drop i = r → i ≤ vs.length → J i news₁ →
      ItemsRest prog w A E h₀ env (.Tuple elts k pos) body Q s [(I + 1, "enumerate"), (I, "list_iterator")] [(l, listOf vs.toArray n)] (enumItems i r) (mXY x y m₀ u1 u2) news₁ := by
    intro r
    induction r with
    | nil =>
      intro i news₁ u1 u2 hr hle hj
      refine ItemsRest.zero fun h tk F' N' => ?_
      have e : i = ns.length := by
        have := List.drop_eq_nil_iff.mp hr
        have := hi.length
        omega
      subst e
      exact done u1 u2 news₁ h tk hj F' N'
    | cons v r ih =>
      intro i news₁ u1 u2 hr hle hj
      have hlt : i < vs.length := by
        rcases Nat.lt_or_ge i vs.length with q | q
        · exact q
        · rw [List.drop_eq_nil_of_le q] at hr; cases hr
      have hv : vs[i]? = some v := by
        have := congrArg (·[0]?) hr
        simpa [List.getElem?_drop] using this
      obtain ⟨q, t, e, hq⟩ := IntsAre.at hi i v hv
      subst e
      refine ItemsRest.pair fun T tt h tk hT F' => AllObj.cons fun o1 _ => AllObj.cons fun o2 _ => AllObj.nil fun N' => ?_
      refine wpAny_mono (turn i q t tt T u1 u2 news₁ h tk I o1 o2 hq hj hI hT F' N') (fun _ s₂ h₂ => wpAny_mono h₂ (fun f s₃ h₃ => ?_) fun _ _ e => e) fun _ _ e => e
      obtain ⟨rfl, h', tk', v1, v2, news', rfl, F₃, N₃, hj'⟩ := h₃
      refine ⟨h', tk', _, news', rfl, F₃, N₃, ?_, ⟨(hJ _ _ hj').1, trivial⟩, ih (i + 1) news' v1 v2 ?_ (by omega) hj'⟩
      · intro p hp z hz
        have h1 : p.1 ∈ news.map (·.1) := by rw [← (hJ _ _ hj').2]; exact List.mem_map_of_mem hp
        obtain ⟨p', hp', e'⟩ := List.mem_map.mp h1
        have h2 := hI p' hp'
        have h2' : @LT.lt Nat _ p.1 I := by rw [← e']; exact h2
        rcases List.mem_cons.mp hz with rfl | hz
        · show @Ne Nat p.1 (I + 1); omega
        · rw [List.mem_singleton.mp hz]; show @Ne Nat p.1 I; omega
      · rw [← List.drop_drop, hr]; rfl
  have e : mXY x y m₀ (m₀ y) (m₀ x) = m₀ := by
    funext z
    show (if z = y then m₀ y else if z = x then m₀ x else m₀ z) = m₀ z
    by_cases h1 : z = y
    · rw [if_pos h1, h1]
    · rw [if_neg h1]
      by_cases h2 : z = x
      · rw [if_pos h2, h2]
      · rw [if_neg h2]
  have := key vs 0 news (m₀ y) (m₀ x) rfl (Nat.zero_le _) h0
  rw [e] at this
  exact this
theorem mXY_more {x y : Str} {m₀ : Str → Option Value} {u1 u2 : Option Value} {a b : Option Value} : (fun z => if z = y then a else (fun z => if z = x then b else mXY x y m₀ u1 u2 z) z) = mXY x y m₀ a b := by
  funext z
  unfold mXY
  by_cases h1 : z = y
  · simp [h1]
  · by_cases h2 : z = x
    · simp [h1, h2]
    · simp [h1, h2]
theorem mXY_fr {g h : Heap} {L : Addr} {x y : Str} {m₀ : Str → Option Value} {u1 u2 : Option Value} {a b : Option Value} (F : Fr g L h (fun z => if z = y then a else if z = x then b else mXY x y m₀ u1 u2 z)) : Fr g L h (mXY x y m₀ a b) := by
  rw [← mXY_more (u1 := u1) (u2 := u2)]
  exact F

noncomputable abbrev mX (x : Str) (m₀ : Str → Option Value) (u : Option Value) : Str → Option Value := fun z => if z = x then u else m₀ z
noncomputable def ListPost (h₀ : Heap) (L : Addr) (s : Shared) (its : Led) (J : (Str → Option Value) → Led → Prop) (f : Flow) (s₂ : Shared) : Prop :=
  f = .next ∧ ∃ h' tk' m' news', s₂ = { s with heap := h', toks := tk' } ∧ Fr h₀ L h' m' ∧ News h₀ L h' (its ++ news') ∧ J m' news'
/-- a loop over a list of ints of the ledger, by what holds of the frame's names and the ledger -/
theorem list_inv {prog : Program} {w : World} {A : Around} {E : Value → Shared → Prop} {s : Shared} {env : Env} {h₀ : Heap} {body : List Stmt} {Q : Flow → Shared → Prop} {target : Expr} {l : Addr} {vs : List Value} {ns : List Int} {n : Nat} {m₀ : Str → Option Value} {news : Led}
    (J : Nat → (Str → Option Value) → Led → Prop) (hh : A.handled = none) (F : Fr h₀ env.locals s.heap m₀) (N : News h₀ env.locals s.heap news) (hm : (l, listOf vs.toArray n) ∈ news) (hi : IntsAre vs ns)
    (h0 : J 0 m₀ news) (hJ : ∀ i m nw, J i m nw → (l, listOf vs.toArray n) ∈ nw ∧ nw.map (·.1) = news.map (·.1))
    (turn : ∀ i q t m₁ news₁ h tk I o1, ns[i]? = some q → J i m₁ news₁ → (∀ p ∈ news, p.1 < I) → Fr h₀ env.locals h m₁ → News h₀ env.locals h ((I, o1) :: news₁) →
      wpAny (model prog w) A (assign target env (.int q t)) (fun _ s₂ => wpAny (model prog w) A (execs body env) (ListPost h₀ env.locals s [(I, o1)] (J (i + 1))) E s₂) E { s with heap := h, toks := tk })
    (done : ∀ m₁ news₁ h tk, J ns.length m₁ news₁ → Fr h₀ env.locals h m₁ → News h₀ env.locals h news₁ → Q .next { s with heap := h, toks := tk }) :
    wpAny (model prog w) A (pyIter (.ref l)) (fun it s₂ => TurnsAt prog w A h₀ env target body Q E it s₂) E s := by
  refine iter_listTurns (lo := listOf vs.toArray n) hh F N hm rfl rfl fun I hI => ?_
  have key : ∀ (r : List Value) (i : Nat) (m₁ : Str → Option Value) (news₁ : Led), vs.drop i = r → i ≤ vs.length → J i m₁ news₁ →
      ItemsRest prog w A E h₀ env target body Q s [(I, "list_iterator")] [(l, listOf vs.toArray n)] (r.map .val) m₁ news₁ := by
    intro r
    induction r with
    | nil =>
      intro i m₁ news₁ hr hle hj
      refine ItemsRest.zero fun h tk F' N' => ?_
      have e : i = ns.length := by
        have := List.drop_eq_nil_iff.mp hr
        have := hi.length
        omega
      subst e
      exact done m₁ news₁ h tk hj F' N'
    | cons v r ih =>
      intro i m₁ news₁ hr hle hj
      have hlt : i < vs.length := by
        rcases Nat.lt_or_ge i vs.length with q | q
        · exact q
        · rw [List.drop_eq_nil_of_le q] at hr; cases hr
      have hv : vs[i]? = some v := by
        have := congrArg (·[0]?) hr
        simpa [List.getElem?_drop] using this
      obtain ⟨q, t, e, hq⟩ := IntsAre.at hi i v hv
      subst e
      refine ItemsRest.val fun h tk F' => AllObj.cons fun o1 _ => AllObj.nil fun N' => ?_
      refine wpAny_mono (turn i q t m₁ news₁ h tk I o1 hq hj hI F' N') (fun _ s₂ h₂ => wpAny_mono h₂ (fun f s₃ h₃ => ?_) fun _ _ e => e) fun _ _ e => e
      obtain ⟨rfl, h', tk', m', news', rfl, F₃, N₃, hj'⟩ := h₃
      refine ⟨h', tk', _, news', rfl, F₃, N₃, ?_, ⟨(hJ _ _ _ hj').1, trivial⟩, ih (i + 1) m' news' ?_ (by omega) hj'⟩
      · intro p hp z hz
        have h1 : p.1 ∈ news.map (·.1) := by rw [← (hJ _ _ _ hj').2]; exact List.mem_map_of_mem hp
        obtain ⟨p', hp', e'⟩ := List.mem_map.mp h1
        have h2 := hI p' hp'
        have h2' : @LT.lt Nat _ p.1 I := by rw [← e']; exact h2
        rw [List.mem_singleton.mp hz]; show @Ne Nat p.1 I; omega
      · rw [← List.drop_drop, hr]; rfl
  exact key vs 0 m₀ news rfl (Nat.zero_le _) h0
theorem mX_more {x : Str} {m₀ : Str → Option Value} {u a : Option Value} : (fun z => if z = x then a else mX x m₀ u z) = mX x m₀ a := by
  funext z
  unfold mX
  by_cases h1 : z = x
  · simp [h1]
  · simp [h1]
theorem mX_id {x : Str} {m₀ : Str → Option Value} : m₀ = mX x m₀ (m₀ x) := by
  funext z
  unfold mX
  by_cases h1 : z = x
  · simp [h1]
  · simp [h1]
theorem mX_fr {g h : Heap} {L : Addr} {x : Str} {m₀ : Str → Option Value} {u a : Option Value} (F : Fr g L h (fun z => if z = x then a else mX x m₀ u z)) : Fr g L h (mX x m₀ a) := by
  rw [← mX_more (u := u)]
  exact F
theorem my_extend {prog : Program} {w : World} {A : Around} {E : Value → Shared → Prop} {s : Shared} {h₀ : Heap} {L D b : Addr} {m : Str → Option Value} {news news' : Led} {vs ws : List Value} {ns ms : List Int} {n n2 : Nat} {Q : Value → Shared → Prop} (F : Fr h₀ L s.heap m) (N : News h₀ L s.heap news)
    (hb : (b, listOf ws.toArray n2) ∈ news) (hw : IntsAre ws ms) (hi : IntsAre vs ns) (h1 : ws.length ≠ 0) (h2 : ns.length + ws.length ≤ 1000) (U : Upd D (listOf vs.toArray n) (listOf (vs ++ ws).toArray (n + 1)) news news')
    (h : ∀ h', Fr h₀ L h' m → News h₀ L h' news' → IntsAre (vs ++ ws) (ns ++ ms) → Q .none { s with heap := h' }) : wpAny (model prog w) A (call (.builtin "list.extend") [.ref D, .ref b]) Q E s := by
  have hl := hi.length
  refine kl_extend F N hb (l := vs ++ ws) (by simp) (by simpa using h1) U ?_ ?_ ?_ fun h' F' N' => h h' F' N' (IntsAre.append hi hw)
  · intro q
    have q2 := (Bool.and_eq_true_iff.mp q).2
    unfold PySem.Builtin.List.listTooLong at q2
    simp only [List.size_toArray] at q2
    have := of_decide_eq_true q2
    rw [PySem.sizeLine_eq] at this
    omega
  · rw [PySem.sizeLine_eq]; simp; omega
  · rw [PySem.sizeLine_eq]; simp; omega

theorem list_one {prog : Program} {w : World} {A : Around} {E : Value → Shared → Prop} {s : Shared} {env : Env} {h₀ : Heap} {body : List Stmt} {Q : Flow → Shared → Prop} {target : Expr} {l D : Addr} {vs vs0 : List Value} {ns : List Int} {n c0 : Nat} {m₀ : Str → Option Value} {rest : Led}
    (x : Str) (f : Nat → List Int) (hh : A.handled = none) (F : Fr h₀ env.locals s.heap m₀) (N : News h₀ env.locals s.heap ((D, listOf vs0.toArray c0) :: rest)) (hm : (l, listOf vs.toArray n) ∈ rest) (hi : IntsAre vs ns) (h0 : IntsAre vs0 (f 0))
    (turn : ∀ j q t u vs' c h tk I o1, ns[j]? = some q → IntsAre vs' (f j) → (∀ p ∈ rest, p.1 < I) → @LT.lt Nat _ D I → Fr h₀ env.locals h (mX x m₀ u) → News h₀ env.locals h ((I, o1) :: (D, listOf vs'.toArray c) :: rest) →
      wpAny (model prog w) A (assign target env (.int q t)) (fun _ s₂ => wpAny (model prog w) A (execs body env) (ListPost h₀ env.locals s [(I, o1)] (fun m nw => (∃ u, m = mX x m₀ u) ∧ ∃ vs' c, IntsAre vs' (f (j + 1)) ∧ nw = (D, listOf vs'.toArray c) :: rest)) E s₂) E { s with heap := h, toks := tk })
    (done : ∀ u vs' c h tk, IntsAre vs' (f ns.length) → Fr h₀ env.locals h (mX x m₀ u) → News h₀ env.locals h ((D, listOf vs'.toArray c) :: rest) → Q .next { s with heap := h, toks := tk }) :
    wpAny (model prog w) A (pyIter (.ref l)) (fun it s₂ => TurnsAt prog w A h₀ env target body Q E it s₂) E s := by
  refine list_inv (fun j m nw => (∃ u, m = mX x m₀ u) ∧ ∃ vs' c, IntsAre vs' (f j) ∧ nw = (D, listOf vs'.toArray c) :: rest) hh F N (List.mem_cons_of_mem _ hm) hi ⟨⟨_, mX_id⟩, vs0, c0, h0, rfl⟩ ?_ ?_ ?_
  · rintro j m nw ⟨_, vs', c, _, rfl⟩
    exact ⟨List.mem_cons_of_mem _ hm, rfl⟩
  · rintro j q t m₁ news₁ h tk I o1 hq ⟨⟨u, rfl⟩, vs', c, hi', rfl⟩ hI F' N'
    exact turn j q t u vs' c h tk I o1 hq hi' (fun p hp => hI p (.tail _ hp)) (hI _ (.head _)) F' N'
  · rintro m₁ news₁ h tk ⟨⟨u, rfl⟩, vs', c, hi', rfl⟩ F' N'
    exact done u vs' c h tk hi' F' N'

/-- pairs of octets, the low one first -/
noncomputable def prs (ns : List Int) : List Int := (List.range 8).map fun (j : Nat) => ns.getD (2 * j) 0 + 256 * ns.getD (2 * j + 1) 0
noncomputable def unprs : List Int → List Int
  | [] => []
  | x :: r => x % 256 :: x / 256 :: unprs r
theorem prs_eq (ns : List Int) : List.map (fun (k' : Int) => ns.getD k'.toNat 0 + 256 * ns.getD (k' + 1).toNat 0) [16, 18, 20, 22, 24, 26, 28, 30] = prs (ns.drop 16) := by
  unfold prs
  have e : ∀ j : Nat, (ns.drop 16).getD j 0 = ns.getD (16 + j) 0 := fun j => by rw [List.getD_eq_getElem?_getD, List.getD_eq_getElem?_getD, List.getElem?_drop]
  simp only [e]
  rfl

theorem take16 {row : List Int} (h : row.length = 32) : List.take (min 32 row.length - 16) (List.drop 16 row) = row.drop 16 := by
  rw [h]
  exact List.take_of_length_le (by simp [h])

theorem got_add (ns : List Int) (i : Int) (a b : Nat) : got ns i (a + b) = got ns i a ++ got ns (i + a) b := by
  unfold got
  rw [List.range_add, List.map_append, List.map_map]
  congr 1
  refine List.map_congr_left fun j _ => ?_
  show rd ns (i + ((a + j : Nat) : Int)) = rd ns (i + (a : Int) + (j : Int))
  congr 1
  omega
theorem got_drop (ns : List Int) (i : Int) (a b : Nat) : (got ns i (a + b)).drop a = got ns (i + a) b := by
  rw [got_add, List.drop_left' (got_length _ _ _)]
theorem conv16 (i : Int) (ns : List Int) : (got ns i 32).drop 16 = got ns (i + 16) 16 := got_drop ns i 16 16
theorem ints1 {vs : List Value} {ns : List Int} {k : Nat} (h : IntsAre vs ns) (hn : ns.length = k + 1) : ∃ n t vs' ns', vs = .int n t :: vs' ∧ ns = n :: ns' ∧ IntsAre vs' ns' ∧ ns'.length = k := by
  cases h with
  | nil => simp at hn
  | cons n t h => exact ⟨n, t, _, _, rfl, rfl, h, by simpa using hn⟩
theorem ints8 {vs : List Value} {ns : List Int} (h : IntsAre vs ns) (hn : ns.length = 8) : ∃ n0 n1 n2 n3 n4 n5 n6 n7 t0 t1 t2 t3 t4 t5 t6 t7, vs = [.int n0 t0, .int n1 t1, .int n2 t2, .int n3 t3, .int n4 t4, .int n5 t5, .int n6 t6, .int n7 t7] ∧ ns = [n0, n1, n2, n3, n4, n5, n6, n7] := by
  obtain ⟨n0, t0, vs, ns, rfl, rfl, h, hn⟩ := ints1 h hn
  obtain ⟨n1, t1, vs, ns, rfl, rfl, h, hn⟩ := ints1 h hn
  obtain ⟨n2, t2, vs, ns, rfl, rfl, h, hn⟩ := ints1 h hn
  obtain ⟨n3, t3, vs, ns, rfl, rfl, h, hn⟩ := ints1 h hn
  obtain ⟨n4, t4, vs, ns, rfl, rfl, h, hn⟩ := ints1 h hn
  obtain ⟨n5, t5, vs, ns, rfl, rfl, h, hn⟩ := ints1 h hn
  obtain ⟨n6, t6, vs, ns, rfl, rfl, h, hn⟩ := ints1 h hn
  obtain ⟨n7, t7, vs, ns, rfl, rfl, h, hn⟩ := ints1 h hn
  cases h with
  | nil => exact ⟨n0, n1, n2, n3, n4, n5, n6, n7, t0, t1, t2, t3, t4, t5, t6, t7, rfl, rfl⟩
  | cons _ _ _ => simp at hn

theorem unprs_length : ∀ (l : List Int), (unprs l).length = 2 * l.length
  | [] => rfl
  | x :: r => by show (unprs r).length + 1 + 1 = 2 * (r.length + 1); rw [unprs_length r]; omega
theorem unprs_append : ∀ (a b : List Int), unprs (a ++ b) = unprs a ++ unprs b
  | [], _ => rfl
  | x :: r, b => by show _ :: _ :: unprs (r ++ b) = _; rw [unprs_append r]; rfl
theorem unprs_snoc {row : List Int} {j : Nat} {q : Int} (h : row[j]? = some q) : unprs (row.take (j + 1)) = unprs (row.take j) ++ [q % 256, q / 256] := by
  rw [List.take_add_one, h, Option.toList_some, unprs_append]
  rfl

theorem lt_ne {D : Addr} {l : Led} (h : ∀ p ∈ l, p.1 < D) : ∀ p ∈ l, p.1 ≠ D := fun p hp => Nat.ne_of_lt (h p hp)
theorem News.some3 {h₀ h : Heap} {L : Addr} {a b c : Addr × Obj} {r : Led} (N : News h₀ L h (a :: b :: c :: r)) : News h₀ L h ([b] ++ (c :: r)) := fun p hp => N p (.tail _ hp)

theorem prs_length (ns : List Int) : (prs ns).length = 8 := by unfold prs; simp

theorem got_length_of {vs : List Value} {ns : List Int} {i : Int} {n : Nat} (_ : IntsAre vs (got ns i n)) : (got ns i n).length = n := got_length _ _ _

noncomputable def Stop (P : Prop) : Prop := P
theorem stop {P : Prop} (h : Stop P) : P := h
-- Tq
theorem gotT (ns : List Int) (i : Int) {n : Nat} (j : Int) (h0 : 0 ≤ j) (h1 : j < n) : (got ns i n).getD j.toNat 0 = rd ns (i + j) := by
  obtain ⟨k, rfl⟩ : ∃ k : Nat, j = k := ⟨j.toNat, by omega⟩
  have hk : k < n := by omega
  unfold got
  rw [Int.toNat_natCast, List.getD_eq_getElem?_getD, List.getElem?_map, List.getElem?_range hk]
  rfl
theorem got_slice (ns : List Int) (i : Int) (a b c d : Nat) (h : d = a + b) (hc : d ≤ c) : List.take (min d (got ns i c).length - a) (List.drop a (got ns i c)) = got ns (i + a) b := by
  subst h
  obtain ⟨e, rfl⟩ : ∃ e, c = a + (b + e) := ⟨c - a - b, by omega⟩
  rw [got_drop, got_length, got_add, show min (a + b) (a + (b + e)) - a = b by omega]
  exact List.take_left' (got_length _ _ _)
section
variable {prog : Program} {w : World} {A : Around} {E : Value → Shared → Prop} {s : Shared} {h₀ : Heap} {L : Addr} {news : Led} {Q : Value → Shared → Prop}
theorem my_eq_ints {a b : Addr} {xs ys : List Value} {ns : List Int} {n n2 : Nat} (N : News h₀ L s.heap news) (ha : (a, listOf xs.toArray n) ∈ news) (hb : (b, listOf ys.toArray n2) ∈ news) (hi : IntsAre xs ns) (hj : IntsAre ys ns) (hu : A.units + 64 < cLine) (h : Q (.bool true) s) :
    wpAny (model prog w) A (compareOp .Eq (.ref a) (.ref b)) Q E s := by
  refine ke_eq_ints (News.isList N ha) (News.isList N hb) hi hj hu ?_
  rw [decide_eq_true rfl]
  exact h
theorem told_eq {a b a1 a2 a3 c1 c2 c3 : Addr} {x1 x2 x3 x4 y1 y2 y3 y4 : Int} {b1 b2 : Bool} {t1 t2 t3 t4 u1 u2 u3 u4 : Tok} {n n2 m1 m2 m3 k1 k2 k3 : Nat} {p1 p2 p3 q1 q2 q3 : List Value} {A1 A2 A3 C1 C2 C3 : List Int}
    (N : News h₀ L s.heap news) (ha : (a, listOf [.ref a1, .ref a2, .int x1 t1, .bool b1, .int x2 t2, .int x3 t3, .int x4 t4, .ref a3].toArray n) ∈ news) (hb : (b, listOf [.ref c1, .ref c2, .int y1 u1, .bool b2, .int y2 u2, .int y3 u3, .int y4 u4, .ref c3].toArray n2) ∈ news)
    (ha1 : (a1, listOf p1.toArray m1) ∈ news) (ha2 : (a2, listOf p2.toArray m2) ∈ news) (ha3 : (a3, listOf p3.toArray m3) ∈ news) (hc1 : (c1, listOf q1.toArray k1) ∈ news) (hc2 : (c2, listOf q2.toArray k2) ∈ news) (hc3 : (c3, listOf q3.toArray k3) ∈ news)
    (i1 : IntsAre p1 A1) (i2 : IntsAre p2 A2) (i3 : IntsAre p3 A3) (j1 : IntsAre q1 C1) (j2 : IntsAre q2 C2) (j3 : IntsAre q3 C3) (e1 : A1 = C1) (e2 : A2 = C2) (e3 : A3 = C3) (f1 : x1 = y1) (fb : b1 = b2) (f2 : x2 = y2) (f3 : x3 = y3) (f4 : x4 = y4)
    (hu : A.units + 64 < cLine) (h : Q (.bool true) s) : wpAny (model prog w) A (compareOp .Eq (.ref a) (.ref b)) Q E s := by
  subst e1 e2 e3 f1 fb f2 f3 f4
  have rd : ∀ {r : Addr} {ps : List Value} {k : Nat} {ms : List Int}, (r, listOf ps.toArray k) ∈ news → IntsAre ps ms → Reads s.heap (.ref r) (.list (ms.map PyData.int)) [r] := fun hm hi => reads_newData (News.isList N hm) (ke_carried hi)
  have ra : Reads s.heap (.ref a) (.list [.list (A1.map PyData.int), .list (A2.map PyData.int), .int x1, .bool b1, .int x2, .int x3, .int x4, .list (A3.map PyData.int)]) _ :=
    reads_list_at (News.get N ha) rfl rfl (ReadsAll.cons (rd ha1 i1) (ReadsAll.cons (rd ha2 i2) (ReadsAll.cons (Reads.int _ _) (ReadsAll.cons (Reads.bool _) (ReadsAll.cons (Reads.int _ _) (ReadsAll.cons (Reads.int _ _) (ReadsAll.cons (Reads.int _ _) (ReadsAll.cons (rd ha3 i3) ReadsAll.nil))))))))
  have rb : Reads s.heap (.ref b) (.list [.list (A1.map PyData.int), .list (A2.map PyData.int), .int x1, .bool b1, .int x2, .int x3, .int x4, .list (A3.map PyData.int)]) _ :=
    reads_list_at (News.get N hb) rfl rfl (ReadsAll.cons (rd hc1 j1) (ReadsAll.cons (rd hc2 j2) (ReadsAll.cons (Reads.int _ _) (ReadsAll.cons (Reads.bool _) (ReadsAll.cons (Reads.int _ _) (ReadsAll.cons (Reads.int _ _) (ReadsAll.cons (Reads.int _ _) (ReadsAll.cons (rd hc3 j3) ReadsAll.nil))))))))
  have sh : PySem.SeqAt.shaped (.list [.list (A1.map PyData.int), .list (A2.map PyData.int), .int x1, .bool b1, .int x2, .int x3, .int x4, .list (A3.map PyData.int)]) = true := by
    simp [PySem.SeqAt.shaped, PyData.canLay0, PyData.canLayAll0, PyData.depth, PyData.depthAll, ke_canLayAll0, ke_depthAll]
  refine eq_dataH ra rb sh sh hu ?_
  have e : PyData.eqv (.list [.list (A1.map PyData.int), .list (A2.map PyData.int), .int x1, .bool b1, .int x2, .int x3, .int x4, .list (A3.map PyData.int)]) (.list [.list (A1.map PyData.int), .list (A2.map PyData.int), .int x1, .bool b1, .int x2, .int x3, .int x4, .list (A3.map PyData.int)]) = true := by
    simp [PyData.eqv, PyData.eqvAll, ked_eqvAll]
  rw [e]
  exact h
end
theorem stop' {P : Prop} (h : P) : Stop P := h
-- Pl
theorem sub_one_emod {a n : Int} (hn : 0 < n) : (a - 1) % n = if a % n = 0 then n - 1 else a % n - 1 := by
  have h := Int.mul_ediv_add_emod a n
  have h0 := Int.emod_nonneg a (show n ≠ 0 by omega)
  have h1 := Int.emod_lt_of_pos a hn
  split
  · rename_i hz
    have e : a - 1 = (n - 1) + n * (a / n - 1) := by rw [Int.mul_sub, Int.mul_one]; omega
    rw [e, Int.add_mul_emod_self_left]
    exact Int.emod_eq_of_lt (by omega) (by omega)
  · rename_i hz
    have e : a - 1 = (a % n - 1) + n * (a / n) := by omega
    have e2 : (a - 1) % n = ((a % n - 1) + n * (a / n)) % n := by rw [← e]
    rw [e2, Int.add_mul_emod_self_left]
    exact Int.emod_eq_of_lt (by omega) (by omega)
theorem emod_same {a b n : Int} (_ : 0 < n) (h : (a - b) % n = 0) : a % n = b % n := by
  have := Int.emod_emod_of_dvd (a - b) (Int.dvd_refl n)
  have e : a = b + n * ((a - b) / n) := by have := Int.mul_ediv_add_emod (a - b) n; omega
  rw [e, Int.add_mul_emod_self_left]
theorem emod_diff {a b n : Int} (hn : 0 < n) (h : a % n = b % n) : (a - b) % n = 0 := by
  have h1 := Int.mul_ediv_add_emod a n
  have h2 := Int.mul_ediv_add_emod b n
  have e : a - b = 0 + n * (a / n - b / n) := by rw [Int.mul_sub]; omega
  rw [e, Int.add_mul_emod_self_left]
  exact Int.emod_eq_of_lt (by omega) hn
theorem rd_same {ns : List Int} {a b : Int} (hn : 0 < ns.length) (h : (a - b) % (ns.length : Int) = 0) : rd ns a = rd ns b := by
  unfold rd; rw [emod_same (by omega) h]
theorem rd_wr {ns : List Int} {i j x : Int} (hn : 0 < ns.length) : rd (wr ns i x) j = if (j - i) % (ns.length : Int) = 0 then x else rd ns j := by
  have hp : (0 : Int) < ns.length := by omega
  have b1 := Int.emod_nonneg i (show (ns.length : Int) ≠ 0 by omega)
  have b2 := Int.emod_lt_of_pos i hp
  have b3 := Int.emod_nonneg j (show (ns.length : Int) ≠ 0 by omega)
  unfold rd
  rw [wr_length]
  unfold wr
  rw [List.getD_eq_getElem?_getD, List.getD_eq_getElem?_getD, List.getElem?_set]
  by_cases h : (j - i) % (ns.length : Int) = 0
  · have e := emod_same hp h
    rw [if_pos h, e, if_pos rfl, if_pos (by omega)]
    rfl
  · rw [if_neg h, if_neg]
    intro q
    refine h (emod_diff hp ?_)
    omega
theorem ext_rd {a b : List Int} (hl : a.length = b.length) (h : ∀ j : Int, rd a j = rd b j) : a = b := by
  apply List.ext_getElem hl
  intro k h1 h2
  have := h k
  unfold rd at this
  rw [hl, Int.emod_eq_of_lt (by omega) (by omega), Int.toNat_natCast, List.getD_eq_getElem?_getD, List.getD_eq_getElem?_getD, List.getElem?_eq_getElem h1, List.getElem?_eq_getElem h2] at this
  simpa using this
theorem rd_put : ∀ (row : List Int) {ns : List Int} {i j : Int}, 0 < ns.length → row.length ≤ ns.length →
    rd (put ns i row) j = if (j - i) % (ns.length : Int) < row.length then row.getD ((j - i) % (ns.length : Int)).toNat 0 else rd ns j
  | [], ns, i, j, hn, _ => by
    have := Int.emod_nonneg (j - i) (show (ns.length : Int) ≠ 0 by omega)
    rw [if_neg (by simp; omega)]
    rfl
  | x :: r, ns, i, j, hn, hr => by
    have hp : (0 : Int) < ns.length := by omega
    have d0 := Int.emod_nonneg (j - i) (show (ns.length : Int) ≠ 0 by omega)
    have d1 := Int.emod_lt_of_pos (j - i) hp
    rw [List.length_cons] at hr
    unfold put
    rw [rd_put r (by rw [wr_length]; exact hn) (by rw [wr_length]; omega), wr_length, rd_wr hn, show j - (i + 1) = j - i - 1 by omega, sub_one_emod hp]
    by_cases hz : (j - i) % (ns.length : Int) = 0
    · rw [if_pos hz, if_pos hz, if_neg (by omega), if_pos (by rw [hz, List.length_cons]; omega), hz]
      rfl
    · rw [if_neg hz, if_neg hz]
      have hs : ((j - i) % (ns.length : Int)).toNat = ((j - i) % (ns.length : Int) - 1).toNat + 1 := by omega
      by_cases hlt : (j - i) % (ns.length : Int) - 1 < r.length
      · rw [if_pos hlt, if_pos (by rw [List.length_cons]; omega), hs, List.getD_cons_succ]
      · rw [if_neg hlt, if_neg (by rw [List.length_cons]; omega)]
theorem got_getD {ns : List Int} {a d : Int} {k : Nat} (h0 : 0 ≤ d) (h1 : d < k) : (got ns a k).getD d.toNat 0 = rd ns (a + d) := gotT ns a d h0 h1
theorem put_got {ns : List Int} {a : Int} {k : Nat} (hn : 0 < ns.length) (hk : k ≤ ns.length) : put ns a (got ns a k) = ns := by
  refine ext_rd (put_length _ _ _) fun j => ?_
  have hp : (0 : Int) < ns.length := by omega
  rw [rd_put _ hn (by rw [got_length]; exact hk), got_length]
  have d0 := Int.emod_nonneg (j - a) (show (ns.length : Int) ≠ 0 by omega)
  split
  · rename_i h
    rw [got_getD d0 h]
    refine rd_same hn ?_
    have := Int.mul_ediv_add_emod (j - a) ns.length
    rw [show a + (j - a) % (ns.length : Int) - j = 0 + ns.length * (-((j - a) / ns.length)) by rw [Int.mul_neg]; omega, Int.add_mul_emod_self_left]
    exact Int.emod_eq_of_lt (by omega) hp
  · rfl
theorem put_set {ns row : List Int} {a y : Int} {x : Nat} (hn : 0 < ns.length) (hr : row.length ≤ ns.length) (hx : x < row.length) : put ns a (row.set x y) = wr (put ns a row) (a + x) y := by
  refine ext_rd (by rw [wr_length, put_length, put_length]) fun j => ?_
  have hp : (0 : Int) < ns.length := by omega
  have d0 := Int.emod_nonneg (j - a) (show (ns.length : Int) ≠ 0 by omega)
  have d1 := Int.emod_lt_of_pos (j - a) hp
  rw [rd_wr (by rw [put_length]; exact hn), put_length, rd_put _ hn hr, rd_put _ hn (by rw [List.length_set]; exact hr), List.length_set]
  have key : ((j - (a + (x : Int))) % (ns.length : Int) = 0) ↔ ((j - a) % (ns.length : Int) = x) := by
    constructor
    · intro h
      have := emod_same (a := j - a) (b := x) hp (by rw [show j - a - (x : Int) = j - (a + x) by omega]; exact h)
      rw [this]
      exact Int.emod_eq_of_lt (by omega) (by omega)
    · intro h
      rw [show j - (a + (x : Int)) = j - a - x by omega]
      refine emod_diff hp ?_
      rw [h]
      exact (Int.emod_eq_of_lt (by omega) (by omega)).symm
  by_cases h : (j - a) % (ns.length : Int) = x
  · rw [if_pos (key.mpr h), if_pos (by omega), h, Int.toNat_natCast, List.getD_eq_getElem?_getD, List.getElem?_set_self hx]
    rfl
  · rw [if_neg (fun q => h (key.mp q))]
    split
    · rename_i hlt
      rw [List.getD_eq_getElem?_getD, List.getD_eq_getElem?_getD, List.getElem?_set_ne (by omega)]
    · rfl
theorem wr_comm {ns : List Int} {a b x y : Int} (hn : 0 < ns.length) (h : (a - b) % (ns.length : Int) ≠ 0) : wr (wr ns a x) b y = wr (wr ns b y) a x := by
  refine ext_rd (by simp only [wr_length]) fun j => ?_
  have hp : (0 : Int) < ns.length := by omega
  rw [rd_wr (by rw [wr_length]; exact hn), wr_length, rd_wr hn, rd_wr (ns := wr ns b y) (by rw [wr_length]; exact hn), wr_length, rd_wr hn]
  by_cases h1 : (j - b) % (ns.length : Int) = 0
  · by_cases h2 : (j - a) % (ns.length : Int) = 0
    · exact absurd (emod_diff hp ((emod_same hp h2).symm.trans (emod_same hp h1))) h
    · rw [if_pos h1, if_neg h2, if_pos h1]
  · rw [if_neg h1, if_neg h1]

theorem map_oct : ∀ {l : List Int}, Oct l → l.map (· % 256) = l
  | [], _ => rfl
  | x :: r, h => by
    have := h x (.head _)
    rw [List.map_cons, map_oct (l := r) fun y hy => h y (.tail _ hy), Int.emod_eq_of_lt this.1 this.2]
theorem got_oct {ns : List Int} (h : Oct ns) (i : Int) (n : Nat) : Oct (got ns i n) := by
  intro x hx
  unfold got at hx
  obtain ⟨j, _, rfl⟩ := List.mem_map.mp hx
  exact rd_oct h _
theorem Oct.set {l : List Int} (h : Oct l) {x : Nat} {y : Int} (h0 : 0 ≤ y) (h1 : y < 256) : Oct (l.set x y) := by
  intro z hz
  rcases List.mem_or_eq_of_mem_set hz with q | q
  · exact h z q
  · subst q; exact ⟨h0, h1⟩
theorem eq_block_small {ns : List Int} {i x y : Int} (hz : Sz ns) (ho : Oct ns) (h0 : 0 ≤ x) (h1 : x < 16) (h2 : 0 ≤ y) (h3 : y < 256) :
    put ns (i + 16) (((got ns (i + 16) 16).set x.toNat y).map (· % 256)) = wr ns (i + 16 + x) y := by
  have hp := hz.pos
  have h64 : 64 ≤ ns.length := by unfold Sz at hz; omega
  rw [map_oct ((got_oct ho _ _).set h2 h3), put_set hp (by rw [got_length]; omega) (by rw [got_length]; omega), put_got hp (by omega), Int.toNat_of_nonneg h0]
theorem unprs_set : ∀ (l : List Int) (x : Nat) (y : Int), unprs (l.set x y) = ((unprs l).set (2 * x) (y % 256)).set (2 * x + 1) (y / 256)
  | [], _, _ => rfl
  | _ :: _, 0, _ => rfl
  | a :: r, x + 1, y => by
    show a % 256 :: a / 256 :: unprs (r.set x y) = _
    rw [unprs_set r x y]
    rfl
theorem unprs_prs {o : List Int} (ho : Oct o) (hl : o.length = 16) : unprs (prs o) = o := by
  obtain ⟨a0, a1, a2, a3, a4, a5, a6, a7, a8, a9, b0, b1, b2, b3, b4, b5, rfl⟩ : ∃ a0 a1 a2 a3 a4 a5 a6 a7 a8 a9 b0 b1 b2 b3 b4 b5 : Int, o = [a0, a1, a2, a3, a4, a5, a6, a7, a8, a9, b0, b1, b2, b3, b4, b5] := by
    match o, hl with
    | [a0, a1, a2, a3, a4, a5, a6, a7, a8, a9, b0, b1, b2, b3, b4, b5], _ => exact ⟨a0, a1, a2, a3, a4, a5, a6, a7, a8, a9, b0, b1, b2, b3, b4, b5, rfl⟩
  have hx : ∀ a b : Int, 0 ≤ a → a < 256 → 0 ≤ b → b < 256 → (a + 256 * b) % 256 = a ∧ (a + 256 * b) / 256 = b := fun a b _ _ _ _ => by omega
  have g : ∀ z ∈ [a0, a1, a2, a3, a4, a5, a6, a7, a8, a9, b0, b1, b2, b3, b4, b5], 0 ≤ z ∧ z < 256 := ho
  simp only [List.forall_mem_cons] at g
  obtain ⟨g0, g1, g2, g3, g4, g5, g6, g7, g8, g9, k0, k1, k2, k3, k4, k5, _⟩ := g
  show [(a0 + 256 * a1) % 256, (a0 + 256 * a1) / 256, (a2 + 256 * a3) % 256, (a2 + 256 * a3) / 256, (a4 + 256 * a5) % 256, (a4 + 256 * a5) / 256, (a6 + 256 * a7) % 256, (a6 + 256 * a7) / 256, (a8 + 256 * a9) % 256, (a8 + 256 * a9) / 256, (b0 + 256 * b1) % 256, (b0 + 256 * b1) / 256, (b2 + 256 * b3) % 256, (b2 + 256 * b3) / 256, (b4 + 256 * b5) % 256, (b4 + 256 * b5) / 256] = _
  rw [(hx a0 a1 g0.1 g0.2 g1.1 g1.2).1, (hx a0 a1 g0.1 g0.2 g1.1 g1.2).2, (hx a2 a3 g2.1 g2.2 g3.1 g3.2).1, (hx a2 a3 g2.1 g2.2 g3.1 g3.2).2, (hx a4 a5 g4.1 g4.2 g5.1 g5.2).1, (hx a4 a5 g4.1 g4.2 g5.1 g5.2).2, (hx a6 a7 g6.1 g6.2 g7.1 g7.2).1, (hx a6 a7 g6.1 g6.2 g7.1 g7.2).2, (hx a8 a9 g8.1 g8.2 g9.1 g9.2).1, (hx a8 a9 g8.1 g8.2 g9.1 g9.2).2, (hx b0 b1 k0.1 k0.2 k1.1 k1.2).1, (hx b0 b1 k0.1 k0.2 k1.1 k1.2).2, (hx b2 b3 k2.1 k2.2 k3.1 k3.2).1, (hx b2 b3 k2.1 k2.2 k3.1 k3.2).2, (hx b4 b5 k4.1 k4.2 k5.1 k5.2).1, (hx b4 b5 k4.1 k4.2 k5.1 k5.2).2]
theorem eq_block_big {ns : List Int} {i x y : Int} (hz : Sz ns) (ho : Oct ns) (h0 : 0 ≤ x) (h1 : x < 8) (h2 : 0 ≤ y) (h3 : y < 65536) :
    put ns (i + 16) ((unprs ((prs (got ns (i + 16) 16)).set x.toNat y)).map (· % 256)) = wr (wr ns (i + 16 + 2 * x) (y % 256)) (i + 16 + 2 * x + 1) (y / 256) := by
  have hp := hz.pos
  have h64 : 64 ≤ ns.length := by unfold Sz at hz; omega
  have hl := got_length ns (i + 16) 16
  rw [unprs_set, unprs_prs (got_oct ho _ _) hl, map_oct (((got_oct ho _ _).set (by omega) (by omega)).set (by omega) (by omega)),
    put_set hp (by rw [List.length_set, hl]; omega) (by rw [List.length_set, hl]; omega), put_set hp (by rw [hl]; omega) (by rw [hl]; omega), put_got hp (by omega)]
  have e1 : ((2 * x.toNat : Nat) : Int) = 2 * x := by omega
  have e2 : i + 16 + ((2 * x.toNat + 1 : Nat) : Int) = i + 16 + 2 * x + 1 := by omega
  rw [e1, e2]
theorem eq_begin {ns : List Int} {i x : Int} (hz : Sz ns) (hx0 : 0 ≤ x) (hx1 : x < 2048) :
    put (put (wr (wr ns (i + 12) (x % 32)) (i + 14) (x / 32 % 64 + 128)) (i + 13) [0]) (i + 15) (List.replicate 17 0) = put ns (i + 12) ([x % 32, 0, x / 32 + 128] ++ List.replicate 17 0) := by
  have hp := hz.pos
  have h64 : 64 ≤ ns.length := by unfold Sz at hz; omega
  rw [put_append]
  show put (wr (wr (wr ns (i + 12) (x % 32)) (i + 14) (x / 32 % 64 + 128)) (i + 13) 0) (i + 15) (List.replicate 17 0) = put (wr (wr (wr ns (i + 12) (x % 32)) (i + 12 + 1) 0) (i + 12 + 1 + 1) (x / 32 + 128)) (i + 12 + 3) (List.replicate 17 0)
  rw [wr_comm (by rw [wr_length]; exact hp) (by rw [wr_length, show i + 14 - (i + 13) = 1 by omega, Int.emod_eq_of_lt (by omega) (by omega)]; decide), show i + 12 + 3 = i + 15 by omega, show i + 12 + 1 + 1 = i + 14 by omega, show i + 12 + 1 = i + 13 by omega, show x / 32 % 64 = x / 32 by omega]
theorem eq_take {ns row : List Int} {i : Int} (hz : Sz ns) (ho : Oct row) (hl : row.length = 32) :
    wr (put ns (i + 1) ((row.drop 1).map (· % 256))) (i + 14) (rd (put ns (i + 1) ((row.drop 1).map (· % 256))) (i + 14) % 128 + 128) =
      put ns (i + 1) (List.take 13 (List.drop 1 row) ++ [row.getD 14 0 % 128 + 128] ++ List.drop 15 row) := by
  have hp := hz.pos
  have h64 : 64 ≤ ns.length := by unfold Sz at hz; omega
  have od : Oct (row.drop 1) := fun x hx => ho x (List.mem_of_mem_drop hx)
  have ld : (row.drop 1).length = 31 := by rw [List.length_drop, hl]
  rw [map_oct od]
  have e1 : rd (put ns (i + 1) (row.drop 1)) (i + 14) = row.getD 14 0 := by
    rw [rd_put _ hp (by rw [ld]; omega), show i + 14 - (i + 1) = 13 by omega, Int.emod_eq_of_lt (by omega) (by omega), if_pos (by rw [ld]; decide)]
    show (row.drop 1).getD 13 0 = _
    rw [List.getD_eq_getElem?_getD, List.getD_eq_getElem?_getD, List.getElem?_drop]
  have e2 : List.take 13 (List.drop 1 row) ++ [row.getD 14 0 % 128 + 128] ++ List.drop 15 row = (row.drop 1).set 13 (row.getD 14 0 % 128 + 128) := by
    rw [List.set_eq_take_append_cons_drop, if_pos (by rw [ld]; decide), List.drop_drop, List.append_assoc]
    rfl
  rw [e1, e2, put_set hp (by rw [ld]; omega) (by rw [ld]; decide)]
  congr 1
  show i + 14 = i + 1 + ((13 : Nat) : Int)
  omega
-- Gb
/-- apart, told so that omega does not look at it -/
noncomputable def Nq (a b : Nat) : Prop := @Ne Nat a b
theorem Nq.ne {a b : Nat} (h : Nq a b) : @Ne Nat a b := h
theorem Nq.of {a b : Nat} (h : @Ne Nat a b) : Nq a b := h
theorem nq_hide {a b c : Nat} (h : (@Ne Nat a b) ∧ (@Ne Nat a c) ∧ (@Ne Nat b c)) : Nq a b ∧ Nq a c ∧ Nq b c := h
theorem o1_ne {D a : Addr} {o : Obj} {l : Led} (h : LCg.Off1 D l) (hm : (a, o) ∈ l) : @Ne Nat a D := off1_mem h _ hm
theorem o3_1 {I C D a : Addr} {o : Obj} {l : Led} (h : LCg.Off3 I C D l) (hm : (a, o) ∈ l) : @Ne Nat a I := (LCg.Off3.mem h _ hm).1
theorem o3_2 {I C D a : Addr} {o : Obj} {l : Led} (h : LCg.Off3 I C D l) (hm : (a, o) ∈ l) : @Ne Nat a C := (LCg.Off3.mem h _ hm).2.1
theorem o3_3 {I C D a : Addr} {o : Obj} {l : Led} (h : LCg.Off3 I C D l) (hm : (a, o) ∈ l) : @Ne Nat a D := (LCg.Off3.mem h _ hm).2.2
theorem rec_f (b : Int) (h0 : 0 ≤ b) (h1 : b < 2) : ([1, 200] : List Int).getD b.toNat 0 = 1 ∨ ([1, 200] : List Int).getD b.toNat 0 = 200 := by
  rcases (show b = 0 ∨ b = 1 by omega) with rfl | rfl
  · exact Or.inl rfl
  · exact Or.inr rfl
theorem rec_lo {a b : Int} (h : 0 ≤ a) (h0 : 0 ≤ b) (h1 : b < 2) : 0 ≤ a * ([1, 200] : List Int).getD b.toNat 0 := by
  rcases rec_f b h0 h1 with e | e <;> rw [e] <;> omega
theorem rec_hi {a b : Int} (h2 : a < 70000) (h0 : 0 ≤ b) (h1 : b < 2) : a * ([1, 200] : List Int).getD b.toNat 0 < 100000000 := by
  rcases rec_f b h0 h1 with e | e <;> rw [e] <;> omega
theorem Oct.nil : Oct [] := fun _ h => nomatch h
theorem Oct.cons {x : Int} {r : List Int} (h0 : 0 ≤ x) (h1 : x < 256) (hr : Oct r) : Oct (x :: r) := by
  intro y hy
  rcases List.mem_cons.mp hy with rfl | h
  · exact ⟨h0, h1⟩
  · exact hr y h
theorem wr_put1 {ns : List Int} {a x y : Int} (e : x = y) : wr ns a x = put ns a [y] := by rw [e]; rfl
theorem oct_flat {l : List Int} (h : Oct l) (n : Nat) : Oct (List.replicate n l).flatten := by
  intro y hy
  obtain ⟨r, hr, hy⟩ := List.mem_flatten.mp hy
  rw [(List.mem_replicate.mp hr).2] at hy
  exact h y hy
theorem eq_block_s {ns : List Int} {i x y a : Int} (hz : Sz ns) (ho : Oct ns) (h0 : 0 ≤ x) (h1 : x < 16) (h2 : 0 ≤ y) (h3 : y < 256) (e : a = i + 16 + x) :
    put ns (i + 16) (((got ns (i + 16) 16).set x.toNat y).map (· % 256)) = put ns a [y] := by
  rw [eq_block_small hz ho h0 h1 h2 h3, e]; rfl
theorem eq_block_b {ns : List Int} {i x y a : Int} (hz : Sz ns) (ho : Oct ns) (h0 : 0 ≤ x) (h1 : x < 8) (h2 : 0 ≤ y) (h3 : y < 65536) (e : a = i + 16 + 2 * x) :
    put ns (i + 16) ((unprs ((prs (got ns (i + 16) 16)).set x.toNat y)).map (· % 256)) = put ns a [y % 256, y / 256] := by
  rw [eq_block_big hz ho h0 h1 h2 h3, e]; rfl
theorem eq_name {ns : List Int} {i x y : Int} (h0 : 0 ≤ x) (h1 : x < 256) (h2 : 0 ≤ y) (h3 : y < 256) :
    put ns i (List.map (fun x => x % 256) ([3] ++ [x, y, 65, 65, 65, 65, 65, 65, 65, 65, 65] ++ List.replicate 24 0)) = put ns i [3, x, y, 65, 65, 65, 65, 65, 65, 65, 65, 65, 0, 0, 0, 0, 0, 0, 0, 0, 0, 0, 0, 0, 0, 0, 0, 0, 0, 0, 0, 0, 0, 0, 0, 0] := by
  refine congrArg (put ns i) (map_oct (l := [3, x, y, 65, 65, 65, 65, 65, 65, 65, 65, 65, 0, 0, 0, 0, 0, 0, 0, 0, 0, 0, 0, 0, 0, 0, 0, 0, 0, 0, 0, 0, 0, 0, 0, 0]) (Oct.cons (by decide) (by decide) (Oct.cons h0 h1 (Oct.cons h2 h3 ?_))))
  intro z hz
  have : z = 65 ∨ z = 0 := by simpa using hz
  omega
theorem eq_take4 {ns : List Int} {i a b c d : Int} (hz : Sz ns) (a0 : 0 ≤ a) (a1 : a < 256) (b0 : 0 ≤ b) (b1 : b < 256) (c0 : 0 ≤ c) (c1 : c < 256) (d0 : 0 ≤ d) (d1 : d < 256) :
    wr (put ns (i + 1) (List.map (fun x => x % 256) (List.drop 1 (List.replicate (Int.toNat 8) [a, b, c, d]).flatten))) (i + 14) (rd (put ns (i + 1) (List.map (fun x => x % 256) (List.drop 1 (List.replicate (Int.toNat 8) [a, b, c, d]).flatten))) (i + 14) % 128 + 128) =
      put ns (i + 1) [b, c, d, a, b, c, d, a, b, c, d, a, b, (List.replicate (Int.toNat 8) [a, b, c, d]).flatten.getD (Int.toNat 14) 0 % 128 + 128, d, a, b, c, d, a, b, c, d, a, b, c, d, a, b, c, d] := by
  refine (eq_take hz (oct_flat (Oct.cons a0 a1 (Oct.cons b0 b1 (Oct.cons c0 c1 (Oct.cons d0 d1 Oct.nil)))) _) rfl).trans ?_
  exact congrArg (put ns (i + 1)) rfl
-- Lw
theorem fold_seed : ∀ (l : List Int) (a : Int), 0 ≤ a → a < 2147483647 →
    0 ≤ List.foldl (fun a' n' => (a' * 16807 + n' + 17) % 2147483647) a l ∧ List.foldl (fun a' n' => (a' * 16807 + n' + 17) % 2147483647) a l < 2147483647
  | [], _, h0, h1 => ⟨h0, h1⟩
  | x :: r, a, _, _ => by
    rw [List.foldl_cons]
    exact fold_seed r _ (Int.emod_nonneg _ (by decide)) (Int.emod_lt_of_pos _ (by decide))
theorem seed_of {vs : List Value} {ns : List Int} (_ : IntsAre vs ns) : 0 ≤ List.foldl (fun a' n' => (a' * 16807 + n' + 17) % 2147483647) 42 ns ∧ List.foldl (fun a' n' => (a' * 16807 + n' + 17) % 2147483647) 42 ns < 2147483647 :=
  fold_seed ns 42 (by decide) (by decide)
theorem len40 {vs : List Value} {f : Int → Int} {ns : List Int} (_ : IntsAre vs (List.map f (List.take 40 ns))) : (List.map f (List.take 40 ns)).length ≤ 64 := by
  rw [List.length_map, List.length_take]; omega
section
variable {prog : Program} {w : World} {A : Around} {E : Value → Shared → Prop} {s : Shared} {h₀ : Heap} {L D : Addr} {m : Str → Option Value} {news : Led} {vs : List Value} {ns : List Int} {n : Nat} {k : Int} {u : Tok}
/-- an item of a written list at an open place: one of its ints -/
theorem my_pick {value slice : PySem.Expr} {Q : Value → Shared → Prop} (N : News h₀ L s.heap news) (hm : (D, listOf vs.toArray n) ∈ news) (hi : IntsAre vs ns) (h0 : 0 ≤ k) (h1 : k < ns.length) (hfit : k < 2 ^ 63) (h : ∀ b t, b ∈ ns → Q (.int b t) s)
    (hs : subscripted slice false (.ref D) (.int k u) = operate [.ref D, .int k u] (getItem (.ref D) (.int k u)) := by with_unfolding_all rfl) :
    wpAny (model prog w) A (subscriptTail value slice (.ref D) (.int k u)) Q E s := by
  refine ksa_sub N hm hi h0 h1 hfit (fun t => h _ t ?_) hs
  rw [List.getD_eq_getElem?_getD, List.getElem?_eq_getElem (by omega)]
  exact List.getElem_mem _
end
/-- a turn's end: on to the next, the iterator kept -/
noncomputable def TurnPost (h₀ : Heap) (L : Addr) (s : Shared) (I : Addr) (o : Obj) (J : (Str → Option Value) → Led → Prop) (f : Flow) (s₂ : Shared) : Prop :=
  f = .next ∧ ∃ h' tk' m' news', s₂ = { s with heap := h', toks := tk' } ∧ Fr h₀ L h' m' ∧ News h₀ L h' ((I, o) :: news') ∧ (∀ p ∈ news', p.1 ≠ I) ∧ J m' news'
/-- a loop over a range by what holds of the frame's names and the ledger between the turns -/
theorem range_rest {prog : Program} {w : World} {A : Around} {E : Value → Shared → Prop} {h₀ : Heap} {env : Env} {x : Str} {body : List Stmt} {Q : Flow → Shared → Prop} {s : Shared} {I : Addr} {a : Int} {n : Nat}
    (J : (Str → Option Value) → Led → Prop)
    (turn : ∀ (i : Nat) t m₁ news₁ h tk o, J m₁ news₁ → (∀ p ∈ news₁, p.1 ≠ I) → Fr h₀ env.locals h (fun y => if y = x then some (.int (a + (i : Int)) t) else m₁ y) → News h₀ env.locals h ((I, o) :: news₁) →
      wpAny (model prog w) A (execs body env) (TurnPost h₀ env.locals s I o J) E { s with heap := h, toks := tk })
    (done : ∀ m₁ news₁ h tk, J m₁ news₁ → Fr h₀ env.locals h m₁ → News h₀ env.locals h news₁ → Q .next { s with heap := h, toks := tk }) :
    ∀ (k i : Nat) (m₁ : Str → Option Value) (news₁ : Led), J m₁ news₁ → (∀ p ∈ news₁, p.1 ≠ I) → RangeRest prog w A E h₀ env x body Q s I a n k i m₁ news₁
  | 0, _, m₁, news₁, hj, _ => RangeRest.zero fun h tk F N => done m₁ news₁ h tk hj F N
  | k + 1, i, m₁, news₁, hj, ho => RangeRest.succ fun t h tk F N =>
    wpAny_mono (turn i t m₁ news₁ h tk _ hj ho F N) (fun f s₂ hp => by
      obtain ⟨rfl, h', tk', m', news', rfl, F', N', ho', hj'⟩ := hp
      exact ⟨h', tk', m', news', rfl, F', N', ho', range_rest J turn done k (i + 1) m' news' hj' ho'⟩) fun _ _ e => e
theorem oct_start (shift : Int) (n : Int) : Oct (List.map (fun k' => (k' * 7 + shift) % 256) (rangeKs 0 (n - 0).toNat)) := by
  intro y hy
  obtain ⟨k, _, rfl⟩ := List.mem_map.mp hy
  exact ⟨Int.emod_nonneg _ (by decide), Int.emod_lt_of_pos _ (by decide)⟩
theorem sz_start (f : Int → Int) {n : Int} (h : n = 64 ∨ n = 128 ∨ n = 256) : Sz (List.map f (rangeKs 0 (n - 0).toNat)) := by
  unfold Sz
  rw [List.length_map, rangeKs_length]
  omega
/-- what holds between the turns of the law's loop -/
noncomputable def LJ (dl nl l dk dd : Addr) (kd kn k dn : Nat) (nvs : List Value) (nns : List Int) (es : List DictEntry) (m₀ m : Str → Option Value) (nw : Led) : Prop :=
  ∃ (os : List Int) (v1 v2 : List Value) (l' : Addr) (k' : Nat) (ix sd : Int) (t1 t2 : Tok) (u : Option Value), IntsAre v1 os ∧ IntsAre v2 os ∧ Sz os ∧ Oct os ∧ 0 ≤ ix ∧ ix ≤ nns.length ∧ 0 ≤ sd ∧ sd < 2147483647 ∧ Nq dl l' ∧ Nq nl l' ∧ Nq l l' ∧ Nq dk l' ∧ Nq dd l' ∧
    m = mXY (Str.ofString "turn") (Str.ofString "octets") m₀ (some (.ref l')) u ∧ nw = [(dl, listOf [.ref nl, .int ix t1, .int sd t2].toArray kd), (nl, listOf nvs.toArray kn), (l, listOf v1.toArray k), (l', listOf v2.toArray k'), (dk, instObj 67 dd), (dd, dictOf es dn)]
theorem LJ.mk' {dl nl l dk dd l' : Addr} {kd kn k dn k' : Nat} {nvs v1 v2 : List Value} {nns os : List Int} {es : List DictEntry} {m₀ : Str → Option Value} {ix sd : Int} {t1 t2 : Tok} {u : Option Value} (h1 : IntsAre v1 os) (h2 : IntsAre v2 os) (hz : Sz os) (ho : Oct os) (q1 : 0 ≤ ix) (q2 : ix ≤ nns.length) (q3 : 0 ≤ sd) (q4 : sd < 2147483647) (n1 : Nq dl l') (n2 : Nq nl l') (n3 : Nq l l') (n4 : Nq dk l') (n5 : Nq dd l') :
    LJ dl nl l dk dd kd kn k dn nvs nns es m₀ (mXY (Str.ofString "turn") (Str.ofString "octets") m₀ (some (.ref l')) u) [(dl, listOf [.ref nl, .int ix t1, .int sd t2].toArray kd), (nl, listOf nvs.toArray kn), (l, listOf v1.toArray k), (l', listOf v2.toArray k'), (dk, instObj 67 dd), (dd, dictOf es dn)] :=
  ⟨os, v1, v2, l', k', ix, sd, t1, t2, u, h1, h2, hz, ho, q1, q2, q3, q4, n1, n2, n3, n4, n5, rfl, rfl⟩
theorem mXY_id {x y : Str} {m₀ : Str → Option Value} {u : Option Value} (h : m₀ y = u) : m₀ = mXY x y m₀ u (m₀ x) := by
  subst h
  funext z
  unfold mXY
  by_cases h1 : z = y
  · simp [h1]
  · by_cases h2 : z = x
    · rw [if_neg h1, if_pos h2, h2]
    · rw [if_neg h1, if_neg h2]
theorem my_loop {prog : Program} {w : World} {A : Around} {E : Value → Shared → Prop} {s : Shared} {env : Env} {h₀ : Heap} {body : List Stmt} {Q : Flow → Shared → Prop} {r : Addr} {b₀ : Int} {t₀ u₀ v₀ : Tok} {m₀ : Str → Option Value} {news : Led}
    {dl nl l ol dk dd : Addr} {kd kn k ok dn : Nat} {nvs w1 w2 : List Value} {nns ns : List Int} {es : List DictEntry} {b jx jd : Int} {u s1 s2 : Tok}
    (hh : A.handled = none) (hr : IsRange s.heap r 0 b₀ 1 t₀ u₀ v₀) (F : Fr h₀ env.locals s.heap m₀) (N : News h₀ env.locals s.heap news)
    (_m1 : m₀ (Str.ofString "deal") = some (.ref dl)) (_m2 : m₀ (Str.ofString "memory") = some (.ref l)) (m3 : m₀ (Str.ofString "octets") = some (.ref ol)) (_m4 : m₀ (Str.ofString "disk") = some (.ref dk))
    (e1 : (dl, listOf [.ref nl, .int jx s1, .int jd s2].toArray kd) ∈ news) (e2 : (nl, listOf nvs.toArray kn) ∈ news) (e3 : (l, listOf w1.toArray k) ∈ news) (e4 : (ol, listOf w2.toArray ok) ∈ news) (e5 : (dk, instObj 67 dd) ∈ news) (e6 : (dd, dictOf es dn) ∈ news)
    (hb0 : 0 ≤ b₀) (hb1 : b₀ < 100) (hni : IntsAre nvs nns) (hi1 : IntsAre w1 ns) (hi2 : IntsAre w2 ns) (hbl : getL (Str.ofString "blocks") es = some (some (.int b u))) (hz : Sz ns) (ho : Oct ns) (q1 : 0 ≤ jx) (q2 : jx ≤ nns.length) (q3 : 0 ≤ jd) (q4 : jd < 2147483647)
    (n3 : Nq dl ol) (n7 : Nq l ol) (n10 : Nq nl ol) (n11 : Nq dk ol) (n12 : Nq dd ol)
    (turn : ∀ (nvs : List Value) (nns' : List Int) (es : List DictEntry) (i : Nat) (t : Tok) (h : Heap) (tk : Nat) (o : Obj) (I : Addr) (os : List Int) (v1 v2 : List Value) (l' : Addr) (k' : Nat) (ix sd : Int) (t1 t2 : Tok) (u' : Option Value),
      IntsAre nvs nns' → nns'.length = nns.length → getL (Str.ofString "blocks") es = some (some (.int b u)) → IntsAre v1 os → IntsAre v2 os → Sz os → Oct os → 0 ≤ ix → ix ≤ nns'.length → 0 ≤ sd → sd < 2147483647 → Nq dl l' → Nq nl l' → Nq l l' → Nq dk l' → Nq dd l' → Nq I dl → Nq I nl → Nq I l → Nq I l' → Nq I dk → Nq I dd →
      Fr h₀ env.locals h (fun y => if y = Str.ofString "turn" then some (.int (0 + (i : Int)) t) else mXY (Str.ofString "turn") (Str.ofString "octets") m₀ (some (.ref l')) u' y) → News h₀ env.locals h ((I, o) :: [(dl, listOf [.ref nl, .int ix t1, .int sd t2].toArray kd), (nl, listOf nvs.toArray kn), (l, listOf v1.toArray k), (l', listOf v2.toArray k'), (dk, instObj 67 dd), (dd, dictOf es dn)]) →
      wpAny (model prog w) A (execs body env) (TurnPost h₀ env.locals s I o (LJ dl nl l dk dd kd kn k dn nvs nns' es m₀)) E { s with heap := h, toks := tk })
    (done : ∀ l' u' h tk, Fr h₀ env.locals h (mXY (Str.ofString "turn") (Str.ofString "octets") m₀ (some (.ref l')) u') → Q .next { s with heap := h, toks := tk }) :
    wpAny (model prog w) A (pyIter (.ref r)) (fun it s₂ => LoopAtV prog w A h₀ env (Str.ofString "turn") body Q E it s₂) E s := by
  refine iter_rangeUnr hh hr (small_one (by decide) (by decide) (by omega) (by omega)) (rangeSize_nat _ _) F (news := [(dl, listOf [.ref nl, .int jx s1, .int jd s2].toArray kd), (nl, listOf nvs.toArray kn), (l, listOf w1.toArray k), (ol, listOf w2.toArray ok), (dk, instObj 67 dd), (dd, dictOf es dn)]) (fun p hp => N p ?_) fun I hI => ?_
  · simp only [List.mem_cons, List.not_mem_nil, or_false] at hp
    rcases hp with rfl | rfl | rfl | rfl | rfl | rfl <;> assumption
  · refine range_rest (LJ dl nl l dk dd kd kn k dn nvs nns es m₀) ?_ ?_ _ _ _ _ ?_ fun p hp => Nat.ne_of_lt (hI p hp)
    · rintro i t m₁ news₁ h tk o ⟨os, v1, v2, l', k', ix, sd, t1, t2, u', f1, f2, f3, f4, f5, f6, f7, f8, f9, f10, f11, f12, f13, rfl, rfl⟩ hoff F' N'
      refine turn nvs nns es i t h tk o I os v1 v2 l' k' ix sd t1 t2 u' hni rfl hbl f1 f2 f3 f4 f5 f6 f7 f8 f9 f10 f11 f12 f13 ?_ ?_ ?_ ?_ ?_ ?_ F' N'
      · exact Nq.of (Ne.symm (hoff (dl, _) (.head _)))
      · exact Nq.of (Ne.symm (hoff (nl, _) (.tail _ (.head _))))
      · exact Nq.of (Ne.symm (hoff (l, _) (.tail _ (.tail _ (.head _)))))
      · exact Nq.of (Ne.symm (hoff (l', _) (.tail _ (.tail _ (.tail _ (.head _))))))
      · exact Nq.of (Ne.symm (hoff (dk, _) (.tail _ (.tail _ (.tail _ (.tail _ (.head _)))))))
      · exact Nq.of (Ne.symm (hoff (dd, _) (.tail _ (.tail _ (.tail _ (.tail _ (.tail _ (.head _))))))))
    · rintro m₁ news₁ h tk ⟨os, v1, v2, l', k', ix, sd, t1, t2, u', f1, f2, f3, f4, f5, f6, f7, f8, f9, f10, f11, f12, f13, rfl, rfl⟩ F' _
      exact done l' u' h tk F'
    · have := LJ.mk' (m₀ := m₀) (u := m₀ (Str.ofString "turn")) (kd := kd) (kn := kn) (k := k) (dn := dn) (k' := ok) (t1 := s1) (t2 := s2) (nvs := nvs) (nns := nns) (es := es) hi1 hi2 hz ho q1 q2 q3 q4 n3 n10 n7 n11 n12
      rw [← mXY_id m3] at this
      exact this
-- Vc
noncomputable abbrev PR : Program := PySem.Challenge.rw_nz0566_01.row.prog
/-- where a def's body runs: its frame, what stands below it -/
structure Rs where
  w : World
  mean : ExcName → Option Value
  mg : Str → Option Value
  mb : Str → Option Value
  dp : Nat
  un : Nat
  gd : Option (List Code)
  cn : Str
  a : Addr
  ccd : Value
  outer : List Env
  A₀ : Around
  base : Heap
  h₀ : Heap
  L : Addr
/-- with the def's own names and the room left -/
structure Cx where
  r : Rs
  cs : Scope
  cl : List (Str × Addr)
  room : Nat
  own : Bool
noncomputable abbrev Cx.w (c : Cx) := c.r.w
noncomputable abbrev Cx.mean (c : Cx) := c.r.mean
noncomputable abbrev Cx.mg (c : Cx) := c.r.mg
noncomputable abbrev Cx.mb (c : Cx) := c.r.mb
noncomputable abbrev Cx.dp (c : Cx) := c.r.dp
noncomputable abbrev Cx.un (c : Cx) := c.r.un
noncomputable abbrev Cx.gd (c : Cx) := c.r.gd
noncomputable abbrev Cx.cn (c : Cx) := c.r.cn
noncomputable abbrev Cx.a (c : Cx) := c.r.a
noncomputable abbrev Cx.ccd (c : Cx) := c.r.ccd
noncomputable abbrev Cx.outer (c : Cx) := c.r.outer
noncomputable abbrev Cx.A₀ (c : Cx) := c.r.A₀
noncomputable abbrev Cx.base (c : Cx) := c.r.base
noncomputable abbrev Cx.h₀ (c : Cx) := c.r.h₀
noncomputable abbrev Cx.L (c : Cx) := c.r.L
noncomputable abbrev Cx.env (c : Cx) : Env := envX c.cn c.cs c.L c.a c.ccd c.cl
noncomputable abbrev Cx.A (c : Cx) : Around := ktrTop c.dp c.un c.gd c.cn c.cs c.L c.a c.ccd c.cl c.outer
structure Cx.Ok (c : Cx) : Prop where
  B : Below c.A₀ c.base c.outer c.h₀
  X : (KK c.w.params).In c.h₀
  T : Top VW (looseW VW LS) c.mean c.mg c.mb c.h₀
  k : c.cs.kind = .function
  d : c.dp + c.room ≤ recursionLimit
  u : c.un + 8 * c.room < cLine + 8
noncomputable abbrev St := (Str → Option Value) × Led
noncomputable def At (c : Cx) (σ : St) (s : Shared) : Prop := Fr c.h₀ c.L s.heap σ.1 ∧ News c.h₀ c.L s.heap σ.2
noncomputable def Sim (s s' : Shared) : Prop := s'.gens = s.gens ∧ s'.drawn = s.drawn ∧ s'.os = s.os
theorem Sim.rfl' {s : Shared} {h : Heap} {t : Nat} : Sim s { s with heap := h, toks := t } := ⟨rfl, rfl, rfl⟩
theorem Sim.trans {a b c : Shared} (x : Sim a b) (y : Sim b c) : Sim a c := ⟨y.1.trans x.1, y.2.1.trans x.2.1, y.2.2.trans x.2.2⟩
theorem Sim.refl (s : Shared) : Sim s s := ⟨rfl, rfl, rfl⟩
theorem Sim.eq {s s' : Shared} (x : Sim s s') : s' = { s with heap := s'.heap, toks := s'.toks } := by
  obtain ⟨h1, h2, h3⟩ := x
  cases s'; cases s; simp_all
/-- from σ the tree ends in an answer and a state that K allows, whatever stands behind -/
structure V (c : Cx) {α : Type} (t : Sem α) (σ : St) (K : α → St → Prop) : Prop where
  out : ∀ (s : Shared) (E : Value → Shared → Prop) (Q : α → Shared → Prop), (c.own = true → PassesOwn (model PR c.w) c.A c.env E) → At c σ s → (∀ a σ' s', At c σ' s' → Sim s s' → K a σ' → Q a s') → wpAny (model PR c.w) c.A t Q E s
theorem V.go {c : Cx} {α : Type} {t : Sem α} {σ : St} {K : α → St → Prop} (h : V c t σ K) {s₀ s : Shared} {E : Value → Shared → Prop} {Q : α → Shared → Prop} (hE : c.own = true → PassesOwn (model PR c.w) c.A c.env E) (a : At c σ s) (z : Sim s₀ s)
    (k : ∀ a σ' s', At c σ' s' → Sim s₀ s' → K a σ' → Q a s') : wpAny (model PR c.w) c.A t Q E s :=
  h.out s E Q hE a fun a σ' s' x y q => k a σ' s' x (z.trans y) q
/-- names of the text's own, and what they stand for -/
noncomputable def plainE : Expr → Bool
  | .Starred .. => false
  | _ => true
noncomputable def noComp : Expr → Bool
  | .ListComp .. => false
  | .SetComp .. => false
  | .DictComp .. => false
  | _ => true
noncomputable def isName : Expr → Bool
  | .Name .. => true
  | _ => false
theorem star_plain {e : Expr} (h : plainE e = true) (rest : List Expr) (env : Env) : starEach (e :: rest) env = (false, eval e env) :: starEach rest env := by
  cases e <;> first | rfl | cases h
theorem swaps_no {e : Expr} (h : noComp e = true) (t : Option Expr) (n : Nat) (env : Env) : swapsWith e t n env = pure false := by
  cases e <;> first | rfl | cases h
section
variable (c : Cx) (ev : Expr → St → (Value → St → Prop) → Prop)
noncomputable def wpArgs : List Expr → St → (List Value → St → Prop) → Prop
  | [], σ, K => K [] σ
  | e :: r, σ, K => bif plainE e then ev e σ fun v σ1 => wpArgs r σ1 fun vs σ2 => K (v :: vs) σ2 else False
end
noncomputable def wpBin (c : Cx) (op : Operator) (a b : Value) (σ : St) (K : Value → St → Prop) : Prop :=
  match a, b with
  | .int x p, .int y q => match op with
    | .Add => ∀ t, K (.int (x + y) t) σ
    | .Sub => ∀ t, K (.int (x - y) t) σ
    | .Mult => IntMulOk x y ∧ ∀ t, K (.int (x * y) t) σ
    | .Mod => 0 < y ∧ ∀ t, K (.int (x % y) t) σ
    | .FloorDiv => 0 < y ∧ y < 1000000 ∧ ∀ t, K (.int (x / y) t) σ
    | .BitAnd => ∀ t, K (.int (Builtin.bitAnd x y) t) σ
    | .BitOr => ∀ t, K (.int (Builtin.bitOr x y) t) σ
    | .RShift => 0 ≤ y ∧ ∀ t, K (.int (x / 2 ^ y.toNat) t) σ
    | op => V c (binaryOp op (.int x p) (.int y q)) σ K
  | a, b => V c (binaryOp op a b) σ K
noncomputable def wpCmp (c : Cx) (op : CmpOp) (a b : Value) (σ : St) (K : Value → St → Prop) : Prop :=
  match a, b with
  | .int x p, .int y q => match op with
    | .Eq => K (.bool (x == y)) σ
    | .Lt => K (.bool (decide (x < y))) σ
    | .Gt => K (.bool (decide (y < x))) σ
    | .LtE => K (.bool (decide (x ≤ y))) σ
    | op => V c (compareOp op (.int x p) (.int y q)) σ K
  | a, b => V c (compareOp op a b) σ K
noncomputable def wpTru (c : Cx) (v : Value) (σ : St) (K : Bool → St → Prop) : Prop :=
  match v with
  | .bool b => K b σ
  | v => V c (truthy v) σ K
/-- a call: of a def by its contract -/
noncomputable def wpCall (c : Cx) (f : Value) (vs : List Value) (σ : St) (K : Value → St → Prop) : Prop :=
  match f with
  | .ref a => ∃ need Post, Sp a need σ.2 vs Post ∧ need < c.room ∧ ∀ r N, Post r N → K r (σ.1, N)
  | f => V c (call f vs) σ K
theorem wpInt_ok {c : Cx} {op : Operator} {x y : Int} {p q : Tok} {σ : St} {K : Value → St → Prop} (h : wpBin c op (.int x p) (.int y q) σ K) : V c (binaryOp op (.int x p) (.int y q)) σ K := by
  cases op with
  | Add => exact ⟨fun s E Q hE ha k => add_int (k _ _ _ ha Sim.rfl' ((show ∀ t, K (.int (x + y) t) σ from h) _))⟩
  | Sub => exact ⟨fun s E Q hE ha k => sub_int (k _ _ _ ha Sim.rfl' ((show ∀ t, K (.int (x - y) t) σ from h) _))⟩
  | Mult => exact ⟨fun s E Q hE ha k => mul_int (k _ _ _ ha Sim.rfl' (And.right (show IntMulOk x y ∧ ∀ t, K (.int (x * y) t) σ from h) _)) (And.left (show IntMulOk x y ∧ ∀ t, K (.int (x * y) t) σ from h))⟩
  | Mod => exact ⟨fun s E Q hE ha k => my_mod (And.left (show 0 < y ∧ ∀ t, K (.int (x % y) t) σ from h)) (k _ _ _ ha Sim.rfl' (And.right (show 0 < y ∧ ∀ t, K (.int (x % y) t) σ from h) _))⟩
  | FloorDiv =>
    have h : 0 < y ∧ y < 1000000 ∧ ∀ t, K (.int (x / y) t) σ := h
    exact ⟨fun s E Q hE ha k => my_div h.1 h.2.1 (k _ _ _ ha Sim.rfl' (h.2.2 _))⟩
  | BitAnd => exact ⟨fun s E Q hE ha k => and_int (k _ _ _ ha Sim.rfl' ((show ∀ t, K (.int (Builtin.bitAnd x y) t) σ from h) _))⟩
  | BitOr => exact ⟨fun s E Q hE ha k => or_int (k _ _ _ ha Sim.rfl' ((show ∀ t, K (.int (Builtin.bitOr x y) t) σ from h) _))⟩
  | RShift =>
    have h : 0 ≤ y ∧ ∀ t, K (.int (x / 2 ^ y.toNat) t) σ := h
    refine ⟨fun s E Q hE ha k => rshift_int h.1 ?_⟩
    rw [Int.fdiv_eq_ediv_of_nonneg x (Int.le_of_lt (Int.pow_pos (by decide)))]
    exact k _ _ _ ha Sim.rfl' (h.2 _)
  | _ => exact h
theorem wpBin_ok {c : Cx} {op : Operator} {a b : Value} {σ : St} {K : Value → St → Prop} (h : wpBin c op a b σ K) : V c (binaryOp op a b) σ K := by
  cases a with
  | int x p => cases b with
    | int y q => exact wpInt_ok h
    | _ => exact h
  | _ => exact h
theorem wpCmp_ok {c : Cx} {op : CmpOp} {a b : Value} {σ : St} {K : Value → St → Prop} (h : wpCmp c op a b σ K) : V c (compareOp op a b) σ K := by
  cases a with
  | int x p => cases b with
    | int y q => cases op with
      | Eq => exact ⟨fun s E Q hE ha k => eq_int (k _ _ _ ha (Sim.refl _) h)⟩
      | Lt => exact ⟨fun s E Q hE ha k => lt_int (k _ _ _ ha (Sim.refl _) h)⟩
      | Gt => exact ⟨fun s E Q hE ha k => gt_int (k _ _ _ ha (Sim.refl _) h)⟩
      | LtE => exact ⟨fun s E Q hE ha k => le_int (k _ _ _ ha (Sim.refl _) h)⟩
      | _ => exact h
    | _ => exact h
  | _ => exact h
theorem wpTru_ok {c : Cx} {v : Value} {σ : St} {K : Bool → St → Prop} (h : wpTru c v σ K) : V c (truthy v) σ K := by
  cases v with
  | bool b => exact ⟨fun s E Q hE ha k => wpAny_truthy_bool (k _ _ _ ha (Sim.refl _) h)⟩
  | _ => exact h
theorem wpCall_ok {c : Cx} (ok : c.Ok) {f : Value} {vs : List Value} {σ : St} {K : Value → St → Prop} (h : wpCall c f vs σ K) : V c (call f vs) σ K := by
  cases f with
  | ref a =>
    obtain ⟨need, Post, S, hn, hk⟩ := (show ∃ need Post, Sp a need σ.2 vs Post ∧ need < c.room ∧ ∀ r N, Post r N → K r (σ.1, N) from h)
    exact ⟨fun s E Q hE ha k => sp_use S ok.B ha.1 ok.X ha.2 ok.T ok.k (Nat.lt_of_lt_of_le (Nat.add_lt_add_left hn _) ok.d) (by have := ok.u; omega) fun r N h' tk' F' N' hp => k r (σ.1, N) _ ⟨F', N'⟩ Sim.rfl' (hk r N hp)⟩
  | _ => exact h
/-- the text's own globals -/
noncomputable def gtab : List (Str × Value) := [(Str.ofString "peek", .ref 21), (Str.ofString "poke", .ref 28), (Str.ofString "Disk", .ref 67), (Str.ofString "map_slots", .ref 78), (Str.ofString "map_of", .ref 83), (Str.ofString "map_octets", .ref 90), (Str.ofString "octets_at", .ref 95), (Str.ofString "put_octets", .ref 102), (Str.ofString "name_at", .ref 109), (Str.ofString "second_name_at", .ref 116), (Str.ofString "extent_at", .ref 123), (Str.ofString "set_extent", .ref 130), (Str.ofString "is_changed", .ref 137), (Str.ofString "mark_changed", .ref 144), (Str.ofString "count_at", .ref 151), (Str.ofString "set_count", .ref 158), (Str.ofString "current_at", .ref 165), (Str.ofString "set_current", .ref 172), (Str.ofString "blocks_at", .ref 179), (Str.ofString "set_block", .ref 186), (Str.ofString "take_entry", .ref 193), (Str.ofString "begin_extent", .ref 200), (Str.ofString "random_at", .ref 207), (Str.ofString "set_random", .ref 214), (Str.ofString "new_fcb", .ref 221), (Str.ofString "_law_deal", .ref 226), (Str.ofString "_law_take", .ref 233), (Str.ofString "_law_put", .ref 240), (Str.ofString "_law_got", .ref 245), (Str.ofString "_law_pairs", .ref 250), (Str.ofString "_law_read_right", .ref 257), (Str.ofString "_law_deed", .ref 262), (Str.ofString "law", .ref 267), (Str.ofString "FREE", .int 229 208), (Str.ofString "ENTRY_SIZE", .int 32 210), (Str.ofString "NAME_SIZE", .int 11 212), (Str.ofString "MAP_AT", .int 16 214), (Str.ofString "EXTENTS_LOW", .int 32 216), (Str.ofString "EX_AT", .int 12 311), (Str.ofString "S2_AT", .int 14 313), (Str.ofString "RC_AT", .int 15 315), (Str.ofString "CR_AT", .int 32 317), (Str.ofString "R_AT", .int 33 319), (Str.ofString "SECOND_AT", .int 16 321), (Str.ofString "FCB_SIZE", .int 36 323), (Str.ofString "UNCHANGED", .int 128 325)]
noncomputable def btab : List (Str × Value) := [(Str.ofString "len", .builtin "len"), (Str.ofString "range", .type "range"), (Str.ofString "list", .type "list"), (Str.ofString "enumerate", .type "enumerate"), (Str.ofString "abs", .builtin "abs"), (Str.ofString "int", .type "int")]
noncomputable def fnAddrs : List Addr := [21, 28, 78, 83, 90, 95, 102, 109, 116, 123, 130, 137, 144, 151, 158, 165, 172, 179, 186, 193, 200, 207, 214, 221, 226, 233, 240, 245, 250, 257, 262]
theorem fill_part : (PySem.Challenge.rw_nz0566_01 = PySem.Challenge.rw_nz0566_01) ∧ KK = KK := by k_fill; exact ⟨rfl, rfl⟩
theorem gtab_ok (p : Params) : ∀ e ∈ gtab, nsIn (KK p) mainGlobals e.1 = some (some e.2) := by
  unfold gtab
  repeat' (first | exact List.forall_mem_nil _ | refine List.forall_mem_cons.mpr ⟨by (try dsimp only); k_is, ?_⟩)
theorem btab_ok (p : Params) : ∀ e ∈ btab, nsIn (KK p) mainGlobals e.1 = some none ∧ bootBuiltins e.1 = some e.2 ∧ e.1 ≠ Str.ofString "__name__" := by
  unfold btab
  repeat' (first | exact List.forall_mem_nil _ | refine List.forall_mem_cons.mpr ⟨⟨by (try dsimp only); k_is, by (try dsimp only); first | exact boot_len | exact boot_range | exact boot_list | exact boot_enumerate | exact Boot.abs | exact Boot.int, by (try dsimp only); decide⟩, ?_⟩)
theorem fn_ok (p : Params) : ∀ a ∈ fnAddrs, keepIn (KK p) (.ref a) = true := by
  unfold fnAddrs
  repeat' (first | exact List.forall_mem_nil _ | refine List.forall_mem_cons.mpr ⟨by k_is, ?_⟩)
theorem lookup_mem {β : Type} {x : Str} {v : β} : ∀ {l : List (Str × β)}, l.lookup x = some v → (x, v) ∈ l
  | [], h => nomatch h
  | (y, u) :: r, h => by
    rw [List.lookup_cons] at h
    split at h
    · rename_i e
      cases h
      rw [show x = y from by simpa using e]
      exact .head _
    · exact .tail _ (lookup_mem h)
-- Vd
noncomputable def nmF (c : Cx) (x : Str) (σ : St) (K : Value → St → Prop) : Prop :=
  bif x == Str.ofString "__debug__" then False else
  match c.cs.names.lookup x with
  | some .local => match σ.1 x with
    | some v => K v σ
    | none => False
  | some .globalImplicit => match gtab.lookup x with
    | some v => K v σ
    | none => match btab.lookup x with
      | some v => K v σ
      | none => False
  | some .cell => ∃ cc o v, c.cl.lookup x = some cc ∧ (cc, o) ∈ σ.2 ∧ o.data = .cell (some v) ∧ K v σ
  | _ => False
theorem nmF_ok {c : Cx} (ok : c.Ok) {x : Str} {pos : Pos} {σ : St} {K : Value → St → Prop} (h : nmF c x σ K) : V c (eval (.Name x pos) c.env) σ K := by
  unfold nmF at h
  cases hd : (x == Str.ofString "__debug__") with
  | true => rw [hd] at h; exact h.elim
  | false =>
    rw [hd] at h
    dsimp only [cond] at h
    refine ⟨fun s E Q hE ha k => ?_⟩
    split at h
    · rename_i hk
      split at h
      · rename_i v hv
        exact nameX_L ha.1 hv (k _ _ _ ha (Sim.refl _) h) ok.k hk hd
      · exact h.elim
    · rename_i hk
      split at h
      · rename_i v hv
        exact nameX_K ha.1 ok.X (topRead_of ok.T) (gtab_ok _ _ (lookup_mem hv)) (k _ _ _ ha (Sim.refl _) h) ok.k hk hd
      · split at h
        · rename_i v hv
          have b := btab_ok c.w.params _ (lookup_mem hv)
          exact nameX_B ha.1 ok.X (topRead_of ok.T) b.1 b.2.1 b.2.2 (k _ _ _ ha (Sim.refl _) h) ok.k hk hd
        · exact h.elim
    · rename_i hk
      obtain ⟨cc, o, v, h1, h2, h3, h4⟩ := h
      exact nameX_C ha.2 h1 h2 h3 (k _ _ _ ha (Sim.refl _) h4) ok.k hk hd
    · exact h.elim
section
variable (c : Cx) (env : Env) (ev : Expr → St → (Value → St → Prop) → Prop)
noncomputable def wpT0 (test : Expr) (σ : St) (K : Bool → St → Prop) : Prop :=
  match test with
  | .Compare l [op] [r] _ => bif behindInMarks op r then False else ev l σ fun a σ1 => ev r σ1 fun b σ2 => wpCmp c op a b σ2 fun v σ3 => wpTru c v σ3 K
  | .Name x p => ev (.Name x p) σ fun v σ1 => wpTru c v σ1 K
  | .Call f a k p => ev (.Call f a k p) σ fun v σ1 => wpTru c v σ1 K
  | e => V c (PySem.isTrue e env (eval e env)) σ K
noncomputable def wpT (test : Expr) (σ : St) (K : Bool → St → Prop) : Prop :=
  match test with
  | .UnaryOp .Not x _ => wpT0 c env ev x σ fun b σ1 => K (!b) σ1
  | e => wpT0 c env ev e σ K
end
variable {c : Cx} {env : Env} {ev : Expr → St → (Value → St → Prop) → Prop}
theorem wpT0_cmp (hev : ∀ e σ K, ev e σ K → V c (eval e env) σ K) {l r : Expr} {op : CmpOp} {pos : Pos} {σ : St} {K : Bool → St → Prop} (h : wpT0 c env ev (.Compare l [op] [r] pos) σ K) : V c (PySem.isTrue (.Compare l [op] [r] pos) env (eval (.Compare l [op] [r] pos) env)) σ K := by
  have h : (bif behindInMarks op r then False else ev l σ fun a σ1 => ev r σ1 fun b σ2 => wpCmp c op a b σ2 fun v σ3 => wpTru c v σ3 K) := h
  cases hb : behindInMarks op r with
  | true => rw [hb] at h; exact h.elim
  | false =>
    rw [hb] at h
    exact ⟨fun s E Q hE ha k => wpAny_isTrue_Compare1 ((hev _ _ _ h).go hE ha (Sim.refl s) fun a σ1 s1 a1 z1 h1 => (hev _ _ _ h1).go hE a1 z1 fun b σ2 s2 a2 z2 h2 => (wpCmp_ok h2).go hE a2 z2 fun v σ3 s3 a3 z3 h3 => (wpTru_ok h3).go hE a3 z3 fun b σ4 s4 a4 z4 h4 => k _ _ _ a4 z4 h4) hb⟩
theorem wpT0_ok (hev : ∀ e σ K, ev e σ K → V c (eval e env) σ K) {test : Expr} {σ : St} {K : Bool → St → Prop} (h : wpT0 c env ev test σ K) : V c (PySem.isTrue test env (eval test env)) σ K := by
  cases test with
  | Compare l ops rs pos => cases ops with
    | nil => exact h
    | cons op r1 => cases r1 with
      | nil => cases rs with
        | nil => exact h
        | cons r r2 => cases r2 with
          | nil => exact wpT0_cmp hev h
          | cons _ _ => exact h
      | cons _ _ => exact h
  | Name x p =>
    exact ⟨fun s E Q hE ha k => isTrue_plain ((hev _ _ (fun v σ1 => wpTru c v σ1 K) h).go hE ha (Sim.refl s) fun a σ1 s1 a1 z1 h1 => (wpTru_ok h1).go hE a1 z1 fun b σ4 s4 a4 z4 h4 => k _ _ _ a4 z4 h4) rfl⟩
  | Call f a kw p =>
    exact ⟨fun s E Q hE ha k => isTrue_plain ((hev _ _ (fun v σ1 => wpTru c v σ1 K) h).go hE ha (Sim.refl s) fun a σ1 s1 a1 z1 h1 => (wpTru_ok h1).go hE a1 z1 fun b σ4 s4 a4 z4 h4 => k _ _ _ a4 z4 h4) rfl⟩
  | _ => exact h
theorem wpT_ok (hev : ∀ e σ K, ev e σ K → V c (eval e env) σ K) {test : Expr} {σ : St} {K : Bool → St → Prop} (h : wpT c env ev test σ K) : V c (PySem.isTrue test env (eval test env)) σ K := by
  cases test with
  | UnaryOp op x pos => cases op with
    | Not => exact ⟨fun s E Q hE ha k => isTrue_not ((wpT0_ok hev (K := fun b σ1 => K (!b) σ1) h).go hE ha (Sim.refl s) fun b σ1 s1 a1 z1 h1 => k _ _ _ a1 z1 h1)⟩
    | _ => exact wpT0_ok hev h
  | _ => exact wpT0_ok hev h
theorem wpArgs_ok (hev : ∀ e σ K, ev e σ K → V c (eval e env) σ K) {pos : Pos} : ∀ {args : List Expr} {σ : St} {K : List Value → St → Prop}, wpArgs ev args σ K → V c (spliced (backTo pos (starEach args env))) σ K
  | [], σ, K, h => ⟨fun s E Q hE ha k => args_nil (k _ _ _ ha (Sim.refl s) h)⟩
  | e :: r, σ, K, h => by
    unfold wpArgs at h
    cases hp : plainE e with
    | false => rw [hp] at h; exact h.elim
    | true =>
      rw [hp] at h
      refine ⟨fun s E Q hE ha k => ?_⟩
      exact args_cons ((hev _ _ _ h).go hE ha (Sim.refl s) fun a σ1 s1 a1 z1 h1 => (wpArgs_ok hev h1).go hE a1 z1 fun b σ2 s2 a2 z2 h2 => k _ _ _ a2 z2 h2) (star_plain hp r env)
theorem any_plain {pos : Pos} {env : Env} : ∀ {args : List Expr}, args.all plainE = true → ((backTo pos (starEach args env)).any fun x => x.1) = false
  | [], _ => rfl
  | e :: r, h => by
    rw [List.all_cons, Bool.and_eq_true] at h
    rw [star_plain h.1]
    have := any_plain (pos := pos) (env := env) (args := r) h.2
    unfold backTo at this ⊢
    rw [List.map_cons, List.any_cons]
    exact this
-- Ve
/-- a value that the text may call: a def of its own, a built-in, a type -/
noncomputable def callable : Value → Bool
  | .ref a => fnAddrs.contains a
  | .builtin _ => true
  | .type _ => true
  | _ => false
noncomputable def wpE (c : Cx) (env : Env) (nm : Str → St → (Value → St → Prop) → Prop) : Nat → Expr → St → (Value → St → Prop) → Prop
  | 0, e, σ, K => V c (eval e env) σ K
  | n + 1, e, σ, K => match e with
    | .Name x _ => nm x σ K
    | .Constant (.int i) _ _ => ∀ t, K (.int i t) σ
    | .Constant (.bool b) _ _ => K (.bool b) σ
    | .BinOp l op r _ => wpE c env nm n l σ fun a σ1 => wpE c env nm n r σ1 fun b σ2 => wpBin c op a b σ2 K
    | .Compare l [op] [r] _ => bif behindInMarks op r then False else wpE c env nm n l σ fun a σ1 => wpE c env nm n r σ1 fun b σ2 => wpCmp c op a b σ2 K
    | .IfExp t b o _ => wpT c env (wpE c env nm n) t σ fun q σ1 => match q with
      | true => wpE c env nm n b σ1 K
      | false => wpE c env nm n o σ1 K
    | .Call (.Name f _) (a :: r) [] _ => nm f σ fun fv σ1 => bif (callable fv && (a :: r).all plainE) then wpArgs (wpE c env nm n) (a :: r) σ1 fun vs σ2 => wpCall c fv vs σ2 K else False
    | .Subscript v (.Slice a b d p) q => V c (eval (.Subscript v (.Slice a b d p) q) env) σ K
    | .Subscript v i _ => wpE c env nm n v σ fun o σ1 => wpE c env nm n i σ1 fun ix σ2 => V c (subscriptTail v i o ix) σ2 K
    | .Attribute (.Name x _) attr _ => nm x σ fun o σ1 => V c (getAttr o attr true) σ1 K
    | .List elts _ => wpArgs (wpE c env nm n) elts σ fun vs σ1 => vs.length ≤ sizeLine ∧ ∀ l, LCg.Off1 l σ1.2 → K (.ref l) (σ1.1, (l, listOf vs.toArray 0) :: σ1.2)
    | e => V c (eval e env) σ K
theorem wpApp_ok {c : Cx} (ok : c.Ok) {env : Env} {fv : Value} {a : Expr} {r : List Expr} {pos : Pos} {σ : St} {K : Value → St → Prop} {ev : Expr → St → (Value → St → Prop) → Prop} (hev : ∀ e σ K, ev e σ K → V c (eval e env) σ K)
    (hp : (callable fv && (a :: r).all plainE) = true) (h : wpArgs ev (a :: r) σ fun vs σ2 => wpCall c fv vs σ2 K) : V c (callWith pos fv [] (backTo pos (starEach (a :: r) env)) []) σ K := by
  rw [Bool.and_eq_true] at hp
  obtain ⟨hf, hp⟩ := hp
  rw [List.all_cons, Bool.and_eq_true] at hp
  refine ⟨fun s E Q hE ha k => ?_⟩
  have ar := wpArgs_ok (pos := pos) hev h
  cases fv with
  | ref f =>
    refine callWith_K (K := KK c.w.params) (h₀ := s.heap) (ok.X.keeps ha.1.keep) (fn_ok _ _ (by simpa [callable] using hf)) (ar.go hE ha (Sim.refl s) fun vs σ1 s1 a1 z1 h1 => ⟨ok.X.keeps a1.1.keep, ?_⟩) (star_plain hp.1 r env) (any_plain hp.2)
    rw [List.nil_append]
    exact (wpCall_ok ok h1).go hE a1 z1 fun v σ2 s2 a2 z2 h2 => k _ _ _ a2 z2 h2
  | builtin b =>
    exact PyProof.Rows.callWith_builtin1 (ar.go hE ha (Sim.refl s) fun vs σ1 s1 a1 z1 h1 => (wpCall_ok ok h1).go hE a1 z1 fun v σ2 s2 a2 z2 h2 => k _ _ _ a2 z2 h2) (star_plain hp.1 r env) (any_plain hp.2)
  | type b =>
    exact Pv.callWith_type1 (ar.go hE ha (Sim.refl s) fun vs σ1 s1 a1 z1 h1 => (wpCall_ok ok h1).go hE a1 z1 fun v σ2 s2 a2 z2 h2 => k _ _ _ a2 z2 h2) (star_plain hp.1 r env) (any_plain hp.2)
  | _ => cases hf
section
variable {c : Cx} {env : Env} {nm : Str → St → (Value → St → Prop) → Prop} {n : Nat} {σ : St} {K : Value → St → Prop}
theorem wpE_bin (ih : ∀ e σ K, wpE c env nm n e σ K → V c (eval e env) σ K) {l r : Expr} {op : Operator} {pos : Pos} (h : wpE c env nm n l σ fun a σ1 => wpE c env nm n r σ1 fun b σ2 => wpBin c op a b σ2 K) : V c (eval (.BinOp l op r pos) env) σ K :=
  ⟨fun s E Q hE ha k => wpAny_BinOp ((ih _ _ _ h).go hE ha (Sim.refl s) fun a σ1 s1 a1 z1 h1 => (ih _ _ _ h1).go hE a1 z1 fun b σ2 s2 a2 z2 h2 => (wpBin_ok h2).go hE a2 z2 fun v σ3 s3 a3 z3 h3 => k _ _ _ a3 z3 h3)⟩
theorem wpE_cmp (ih : ∀ e σ K, wpE c env nm n e σ K → V c (eval e env) σ K) {l r : Expr} {op : CmpOp} {pos : Pos} (h : bif behindInMarks op r then False else wpE c env nm n l σ fun a σ1 => wpE c env nm n r σ1 fun b σ2 => wpCmp c op a b σ2 K) : V c (eval (.Compare l [op] [r] pos) env) σ K := by
  cases hb : behindInMarks op r with
  | true => rw [hb] at h; exact h.elim
  | false =>
    rw [hb] at h
    exact ⟨fun s E Q hE ha k => wpAny_Compare1 ((ih _ _ _ h).go hE ha (Sim.refl s) fun a σ1 s1 a1 z1 h1 => (ih _ _ _ h1).go hE a1 z1 fun b σ2 s2 a2 z2 h2 => (wpCmp_ok h2).go hE a2 z2 fun v σ3 s3 a3 z3 h3 => k _ _ _ a3 z3 h3) hb⟩
theorem wpE_if (ih : ∀ e σ K, wpE c env nm n e σ K → V c (eval e env) σ K) {t b o : Expr} {pos : Pos} (h : wpT c env (wpE c env nm n) t σ fun q σ1 => match q with
      | true => wpE c env nm n b σ1 K
      | false => wpE c env nm n o σ1 K) : V c (eval (.IfExp t b o pos) env) σ K :=
  ⟨fun s E Q hE ha k => IfExp_ ((wpT_ok ih h).go hE ha (Sim.refl s) fun q σ1 s1 a1 z1 h1 => by
    cases q with
    | true => exact (ih _ _ _ h1).go hE a1 z1 fun v σ3 s3 a3 z3 h3 => k _ _ _ a3 z3 h3
    | false => exact (ih _ _ _ h1).go hE a1 z1 fun v σ3 s3 a3 z3 h3 => k _ _ _ a3 z3 h3)⟩
theorem wpE_call (ok : c.Ok) (hnm : ∀ x pos σ K, nm x σ K → V c (eval (.Name x pos) env) σ K) (ih : ∀ e σ K, wpE c env nm n e σ K → V c (eval e env) σ K) {f : Str} {p pos : Pos} {a : Expr} {r : List Expr}
    (h : nm f σ fun fv σ1 => bif (callable fv && (a :: r).all plainE) then wpArgs (wpE c env nm n) (a :: r) σ1 fun vs σ2 => wpCall c fv vs σ2 K else False) : V c (eval (.Call (.Name f p) (a :: r) [] pos) env) σ K :=
  ⟨fun s E Q hE ha k => Call_ ((hnm _ _ _ _ h).go hE ha (Sim.refl s) fun fv σ1 s1 a1 z1 h1 => by
    cases hb : (callable fv && (a :: r).all plainE) with
    | false => rw [hb] at h1; exact h1.elim
    | true =>
      rw [hb] at h1
      exact (wpApp_ok ok ih hb h1).go hE a1 z1 fun v σ3 s3 a3 z3 h3 => k _ _ _ a3 z3 h3) rfl⟩
theorem wpE_item (ih : ∀ e σ K, wpE c env nm n e σ K → V c (eval e env) σ K) {v i : Expr} {pos : Pos} (h : wpE c env nm n v σ fun o σ1 => wpE c env nm n i σ1 fun ix σ2 => V c (subscriptTail v i o ix) σ2 K) : V c (eval (.Subscript v i pos) env) σ K :=
  ⟨fun s E Q hE ha k => Subscript_ ((ih _ _ _ h).go hE ha (Sim.refl s) fun a σ1 s1 a1 z1 h1 => (ih _ _ _ h1).go hE a1 z1 fun b σ2 s2 a2 z2 h2 => V.go h2 hE a2 z2 fun v σ3 s3 a3 z3 h3 => k _ _ _ a3 z3 h3)⟩
theorem wpE_list (ih : ∀ e σ K, wpE c env nm n e σ K → V c (eval e env) σ K) {elts : List Expr} {pos : Pos} (h : wpArgs (wpE c env nm n) elts σ fun vs σ1 => vs.length ≤ sizeLine ∧ ∀ l, LCg.Off1 l σ1.2 → K (.ref l) (σ1.1, (l, listOf vs.toArray 0) :: σ1.2)) : V c (eval (.List elts pos) env) σ K :=
  ⟨fun s E Q hE ha k => List_ ((wpArgs_ok ih h).go hE ha (Sim.refl s) fun vs σ1 s1 a1 z1 h1 => newList_K a1.1 a1.2 (fun l h' F' N' l1 => k _ (σ1.1, (l, listOf vs.toArray 0) :: σ1.2) { s1 with heap := h' } ⟨F', N'⟩ (z1.trans ⟨rfl, rfl, rfl⟩) (h1.2 l (off1_of l1))) h1.1)⟩
end
theorem wpE_ok {c : Cx} (ok : c.Ok) {env : Env} {nm : Str → St → (Value → St → Prop) → Prop} (hnm : ∀ x pos σ K, nm x σ K → V c (eval (.Name x pos) env) σ K) :
    ∀ (n : Nat) (e : Expr) (σ : St) (K : Value → St → Prop), wpE c env nm n e σ K → V c (eval e env) σ K
  | 0, _, _, _, h => h
  | n + 1, e, σ, K, h => by
    have ih := wpE_ok ok hnm n
    cases e with
    | Name x p => exact hnm _ _ _ _ h
    | Constant v k p => cases v with
      | int i => exact ⟨fun s E Q hE ha k => wpAny_Constant_int (k _ _ _ ha Sim.rfl' ((show ∀ t, K (.int i t) σ from h) _))⟩
      | bool b => exact ⟨fun s E Q hE ha k => Constant_bool (k _ _ _ ha (Sim.refl _) h)⟩
      | _ => exact h
    | BinOp l op r p => exact wpE_bin ih h
    | Compare l ops rs pos => cases ops with
      | nil => exact h
      | cons op r1 => cases r1 with
        | nil => cases rs with
          | nil => exact h
          | cons r r2 => cases r2 with
            | nil => exact wpE_cmp ih h
            | cons _ _ => exact h
        | cons _ _ => exact h
    | IfExp t b o p => exact wpE_if ih h
    | Call f args kw p => cases f with
      | Name x q => cases args with
        | nil => exact h
        | cons a r => cases kw with
          | nil => exact wpE_call ok hnm ih h
          | cons _ _ => exact h
      | _ => exact h
    | Subscript v i p => cases i <;> first | exact h | exact wpE_item ih h
    | Attribute v attr p => cases v with
      | Name x xp => exact ⟨fun s E Q hE ha k => Attribute_Name_ ((hnm x xp σ (fun o σ1 => V c (getAttr o attr true) σ1 K) h).go hE ha (Sim.refl s) fun a σ1 s1 a1 z1 h1 => V.go h1 hE a1 z1 fun v σ3 s3 a3 z3 h3 => k _ _ _ a3 z3 h3) rfl⟩
      | _ => exact h
    | List elts p => exact wpE_list ih h
    | _ => exact h
-- Vs
noncomputable def isLocal (c : Cx) (x : Str) : Bool := match c.cs.names.lookup x with
  | some .local => true
  | _ => false
theorem isLocal_ok {c : Cx} {x : Str} (h : isLocal c x = true) : c.cs.names.lookup x = some .local := by
  unfold isLocal at h
  split at h
  · assumption
  · cases h
noncomputable abbrev upd (m : Str → Option Value) (x : Str) (v : Value) : Str → Option Value := fun y => if y = x then some v else m y
noncomputable abbrev wpX (c : Cx) (e : Expr) (σ : St) (K : Value → St → Prop) : Prop := wpE c c.env (nmF c) 12 e σ K
noncomputable def wpL (ex : Stmt → St → (Flow → St → Prop) → Prop) : List Stmt → St → (Flow → St → Prop) → Prop
  | [], σ, K => K .next σ
  | st :: r, σ, K => ex st σ fun f σ1 => match f with
    | .next => wpL ex r σ1 K
    | f => K f σ1
noncomputable def wpS (c : Cx) : Nat → Stmt → St → (Flow → St → Prop) → Prop
  | 0, st, σ, K => V c (exec st c.env) σ K
  | n + 1, st, σ, K => match st with
    | .Assign [.Name x p] e q => bif noComp e && isLocal c x then wpX c e σ fun v σ1 => K .next (upd σ1.1 x v, σ1.2) else V c (exec (.Assign [.Name x p] e q) c.env) σ K
    | .Assign [.Subscript o i p] e q => bif noComp e then wpX c e σ fun v σ1 => wpX c o σ1 fun ov σ2 => wpX c i σ2 fun iv σ3 => V c (setItem ov iv v) σ3 fun _ σ4 => K .next σ4 else V c (exec (.Assign [.Subscript o i p] e q) c.env) σ K
    | .Expr e q => bif noComp e then wpX c e σ fun _ σ1 => K .next σ1 else V c (exec (.Expr e q) c.env) σ K
    | .If t b o _ => wpT c c.env (wpX c) t σ fun q σ1 => match q with
      | true => wpL (wpS c n) b σ1 K
      | false => wpL (wpS c n) o σ1 K
    | .Return (some e) _ => wpX c e σ fun v σ1 => K (.ret v) σ1
    | st => V c (exec st c.env) σ K
theorem wpX_ok {c : Cx} (ok : c.Ok) {e : Expr} {σ : St} {K : Value → St → Prop} (h : wpX c e σ K) : V c (eval e c.env) σ K := wpE_ok ok (fun _ _ _ _ h => nmF_ok ok h) 12 e σ K h
theorem wpL_ok {c : Cx} {ex : Stmt → St → (Flow → St → Prop) → Prop} (hex : ∀ st σ K, ex st σ K → V c (exec st c.env) σ K) : ∀ {l : List Stmt} {σ : St} {K : Flow → St → Prop}, wpL ex l σ K → V c (execs l c.env) σ K
  | [], σ, K, h => ⟨fun s E Q hE ha k => wpAny_execs_nil (k _ _ _ ha (Sim.refl s) h)⟩
  | st :: r, σ, K, h => ⟨fun s E Q hE ha k => wpAny_execs_cons ((hex _ _ _ h).go hE ha (Sim.refl s) fun f σ1 s1 a1 z1 h1 => by
      cases f with
      | next => exact (wpL_ok hex h1).go hE a1 z1 fun g σ2 s2 a2 z2 h2 => k _ _ _ a2 z2 h2
      | brk => exact k _ _ _ a1 z1 h1
      | cont => exact k _ _ _ a1 z1 h1
      | ret v => exact k _ _ _ a1 z1 h1)⟩
section
variable {c : Cx} {σ : St} {K : Flow → St → Prop}
theorem wpS_name (ok : c.Ok) {x : Str} {p q : Pos} {e : Expr} (h : bif noComp e && isLocal c x then wpX c e σ fun v σ1 => K .next (upd σ1.1 x v, σ1.2) else V c (exec (.Assign [.Name x p] e q) c.env) σ K) : V c (exec (.Assign [.Name x p] e q) c.env) σ K := by
  cases hb : (noComp e && isLocal c x) with
  | false => rw [hb] at h; exact h
  | true =>
    rw [hb] at h
    rw [Bool.and_eq_true] at hb
    exact ⟨fun s E Q hE ha k => wpAny_Assign_Name ((wpX_ok ok h).go hE ha (Sim.refl s) fun v σ1 s1 a1 z1 h1 => storeX_L a1.1 a1.2 (fun h' F' N' => k _ (upd σ1.1 x v, σ1.2) _ ⟨F', N'⟩ (z1.trans ⟨rfl, rfl, rfl⟩) h1) ok.k (isLocal_ok hb.2)) (swaps_no hb.1 _ _ _)⟩
theorem wpS_item (ok : c.Ok) {o i e : Expr} {p q : Pos} (h : bif noComp e then wpX c e σ fun v σ1 => wpX c o σ1 fun ov σ2 => wpX c i σ2 fun iv σ3 => V c (setItem ov iv v) σ3 fun _ σ4 => K .next σ4 else V c (exec (.Assign [.Subscript o i p] e q) c.env) σ K) : V c (exec (.Assign [.Subscript o i p] e q) c.env) σ K := by
  cases hb : noComp e with
  | false => rw [hb] at h; exact h
  | true =>
    rw [hb] at h
    exact ⟨fun s E Q hE ha k => wpAny_Assign_Subscript ((wpX_ok ok h).go hE ha (Sim.refl s) fun v σ1 s1 a1 z1 h1 => (wpX_ok ok h1).go hE a1 z1 fun ov σ2 s2 a2 z2 h2 => (wpX_ok ok h2).go hE a2 z2 fun iv σ3 s3 a3 z3 h3 => V.go h3 hE a3 z3 fun _ σ4 s4 a4 z4 h4 => k _ _ _ a4 z4 h4) (swaps_no hb _ _ _)⟩
theorem wpS_expr (ok : c.Ok) {e : Expr} {q : Pos} (h : bif noComp e then wpX c e σ fun _ σ1 => K .next σ1 else V c (exec (.Expr e q) c.env) σ K) : V c (exec (.Expr e q) c.env) σ K := by
  cases hb : noComp e with
  | false => rw [hb] at h; exact h
  | true =>
    rw [hb] at h
    refine ⟨fun s E Q hE ha k => wpAny_Expr_any ((wpX_ok ok h).go hE ha (Sim.refl s) fun v σ1 s1 a1 z1 h1 => k _ _ _ a1 z1 h1) ?_ (swaps_no hb _ _ _)⟩
    have hk := ok.k
    unfold interactive
    show (c.cs.kind == .module && _) = false
    rw [hk]
    rfl
theorem wpS_if (ok : c.Ok) {n : Nat} (ih : ∀ st σ K, wpS c n st σ K → V c (exec st c.env) σ K) {t : Expr} {b o : List Stmt} {p : Pos} (h : wpT c c.env (wpX c) t σ fun q σ1 => match q with
      | true => wpL (wpS c n) b σ1 K
      | false => wpL (wpS c n) o σ1 K) : V c (exec (.If t b o p) c.env) σ K :=
  ⟨fun s E Q hE ha k => wpAny_If ((wpT_ok (fun e σ K h => wpX_ok ok h) h).go hE ha (Sim.refl s) fun q σ1 s1 a1 z1 h1 => by
    cases q with
    | true => exact (wpL_ok ih h1).go hE a1 z1 fun f σ2 s2 a2 z2 h2 => k _ _ _ a2 z2 h2
    | false => exact (wpL_ok ih h1).go hE a1 z1 fun f σ2 s2 a2 z2 h2 => k _ _ _ a2 z2 h2)⟩
end
theorem wpS_ok {c : Cx} (ok : c.Ok) : ∀ (n : Nat) (st : Stmt) (σ : St) (K : Flow → St → Prop), wpS c n st σ K → V c (exec st c.env) σ K
  | 0, _, _, _, h => h
  | n + 1, st, σ, K, h => by
    have ih := wpS_ok ok n
    cases st with
    | Assign ts e q => cases ts with
      | nil => exact h
      | cons t r => cases r with
        | nil => cases t with
          | Name x p => exact wpS_name ok h
          | Subscript o i p => exact wpS_item ok h
          | _ => exact h
        | cons _ _ => cases t <;> exact h
    | Expr e q => exact wpS_expr ok h
    | If t b o p => exact wpS_if ok ih h
    | Return v p => cases v with
      | none => exact h
      | some e => exact ⟨fun s E Q hE ha k => wpAny_Return_some ((wpX_ok ok (K := fun v σ1 => K (.ret v) σ1) h).go hE ha (Sim.refl s) fun v σ1 s1 a1 z1 h1 => k _ _ _ a1 z1 h1)⟩
    | _ => exact h
noncomputable def retv : Flow → Value
  | .ret v => v
  | _ => .none
/-- a def's contract, by what its body asks -/
theorem sp_enter {f : Addr} {need : Nat} {news : Led} {vs : List Value} {Post : Value → Led → Prop} {name qual : Str} {params : Arguments} {body : List Stmt} {scope : Scope} {dV kV doc pm cdv ct oc : Value} {an od : Option Addr} {osl : Array (Option Value)} (xs : List Str)
    (hf : ∀ p, List.lookup f (KK p) = some { cls := oc, dict := od, data := Data.func (fnOf name qual params body scope dV kV doc pm an cdv ct), slots := osl }) (hc : ∀ p, codeIn (KK p) cdv qual = true)
    (hb : ∀ s, BindsTo s (fnOf name qual params body scope dV kV doc pm an cdv ct) { pos := vs, kw := [] } (xs.zip vs)) (hl : ∀ y ∈ xs.zip vs, List.lookup y.1 scope.names = some NameKind.local)
    (h2 : scope.isCoroutine = false) (h3 : scope.isGenerator = false) (h4 : scope.kind = .function) (h5 : ∀ x ∈ scope.names, x.2 ≠ NameKind.cell)
    (h : ∀ r : Rs, (Cx.mk r scope [] need true).Ok → wpL (wpS ⟨r, scope, [], need, true⟩ 12) body (fun y => (xs.zip vs).reverse.lookup y, news) fun fl σ => Post (retv fl) σ.2) : Sp f need news vs Post := by
  intro w mean mg mb dp un gd cn cs a ccd cl outer A₀ base h₀ L m s Q E B F X N T hk hd hu hret
  refine wpAny_call ?_
  refine code_def B F X N T rfl rfl hk (hf _) (hc _) (by show dp < recursionLimit; omega) (hb s) hl (fun g L' h₁ FG F' N' B' X' T' => ?_) h2 h3 h4 h5
  have ok : (Cx.mk ⟨w, mean, mg, mb, dp + 1, un + 3, gd, qual, f, cdv, envX cn cs L a ccd cl :: outer, ktrTop dp un gd cn cs L a ccd cl outer, base, g, L'⟩ scope [] need true).Ok :=
    ⟨B', X', T', h4, (by show dp + 1 + need ≤ recursionLimit; omega), (by show un + 3 + 8 * need < cLine + 8; omega)⟩
  refine (wpL_ok (wpS_ok ok 12) (h _ ok)).go (s₀ := s) (fun _ => PassesOwn.leaving) ⟨F', N'⟩ ⟨rfl, rfl, rfl⟩ fun fl σ' s' a' z k => ?_
  refine leaveK_ (news' := σ'.2) (m' := σ'.1) a'.1 a'.2 fun F'' N'' => ?_
  have q := hret _ _ s'.heap s'.toks F'' N'' k
  rw [← z.eq] at q
  cases fl <;> exact q
-- Vt
section
variable {c : Cx} {σ : St} {D : Addr} {vs : List Value} {ns : List Int} {n : Nat} {k x : Int} {t u : Tok}
theorem v_len {K : Value → St → Prop} (hm : (D, listOf vs.toArray n) ∈ σ.2) (hi : IntsAre vs ns) (hf : ns.length < 2 ^ 62) (h : ∀ t, K (.int (ns.length : Nat) t) σ) : V c (call (.builtin "len") [.ref D]) σ K :=
  ⟨fun _ _ _ _ ha k => my_len ha.2 hm hi hf (k _ _ _ ha Sim.rfl' (h _))⟩
theorem v_sub {K : Value → St → Prop} {value slice : PySem.Expr} (hm : (D, listOf vs.toArray n) ∈ σ.2) (hi : IntsAre vs ns) (h0 : 0 ≤ k) (h1 : k < ns.length) (h2 : k < 2 ^ 63) (h : ∀ t, K (.int (ns.getD k.toNat 0) t) σ)
    (hs : subscripted slice false (.ref D) (.int k u) = operate [.ref D, .int k u] (getItem (.ref D) (.int k u)) := by with_unfolding_all rfl) : V c (subscriptTail value slice (.ref D) (.int k u)) σ K :=
  ⟨fun _ _ _ _ ha k => ksa_sub ha.2 hm hi h0 h1 h2 (fun t => k _ _ _ ha (Sim.refl _) (h t)) hs⟩
theorem v_set {K : Unit → St → Prop} {news' : Led} (U : Upd D (listOf vs.toArray n) (listOf (vs.set k.toNat (.int x u)).toArray n) σ.2 news') (hi : IntsAre vs ns) (h0 : 0 ≤ k) (h1 : k < ns.length) (h2 : k < 2 ^ 63)
    (h : IntsAre (vs.set k.toNat (.int x u)) (ns.set k.toNat x) → K () (σ.1, news')) : V c (setItem (.ref D) (.int k t) (.int x u)) σ K :=
  ⟨fun s _ _ _ ha kk => ksa_set ha.1 ha.2 U hi h0 h1 h2 fun h' F' N' hi' _ _ => kk _ (σ.1, news') { s with heap := h' } ⟨F', N'⟩ ⟨rfl, rfl, rfl⟩ (h hi')⟩
end
theorem Sz.fit {ns : List Int} (h : Sz ns) : ns.length < 2 ^ 62 := Nat.lt_of_le_of_lt h.le (by decide)
theorem Sz.posI {ns : List Int} (h : Sz ns) : (0 : Int) < (ns.length : Nat) := Int.natCast_pos.mpr h.pos
theorem Sz.ix0 {ns : List Int} (h : Sz ns) (i : Int) : 0 ≤ i % (ns.length : Nat) := Int.emod_nonneg _ (Int.ne_of_gt h.posI)
theorem Sz.ix1 {ns : List Int} (h : Sz ns) (i : Int) : i % (ns.length : Nat) < (ns.length : Nat) := Int.emod_lt_of_pos _ h.posI
theorem Sz.ix2 {ns : List Int} (h : Sz ns) (i : Int) : i % (ns.length : Nat) < 2 ^ 63 := Int.lt_of_lt_of_le (h.ix1 i) (Int.le_trans (Int.ofNat_le.mpr h.le) (by decide))
/-- what a call leaves that changes the one list l -/
noncomputable def UpdPost (l : Addr) (k : Nat) (g : Obj → Led) (ns : List Int) (r : Value) (news' : Led) : Prop := ∃ o', (r = .none ∧ ∃ vs', o' = listOf vs'.toArray k ∧ IntsAre vs' ns) ∧ news' = g o'
theorem mul_r {x y : Int} (h1 : -(2 ^ 64) < y) (h2 : y < 2 ^ 64) : IntMulOk x y := IntMulOk.of_right (intBits_le_64 h1 h2)
theorem mul_l {x y : Int} (h1 : -(2 ^ 64) < x) (h2 : x < 2 ^ 64) : IntMulOk x y := IntMulOk.of_left (intBits_le_64 h1 h2)
/-- all that a contract may speak of -/
structure Pm where
  news : Led := []
  rest : Led := []
  g : Obj → Led := fun _ => []
  l : Addr := 0
  dl : Addr := 0
  nl : Addr := 0
  ol : Addr := 0
  dk : Addr := 0
  dd : Addr := 0
  ii : Addr := 0
  rl : Addr := 0
  vs : List Value := []
  ovs : List Value := []
  nvs : List Value := []
  rvs : List Value := []
  k : Nat := 0
  kd : Nat := 0
  kn : Nat := 0
  ok : Nat := 0
  rk : Nat := 0
  dn : Nat := 0
  n : Nat := 0
  ns : List Int := []
  nns : List Int := []
  row : List Int := []
  i : Int := 0
  x : Int := 0
  y : Int := 0
  ix : Int := 0
  sd : Int := 0
  many : Int := 0
  b : Int := 0
  q : Bool := true
  tk : Tok := 0
  tk2 : Tok := 0
  tk3 : Tok := 0
  t1 : Tok := 0
  t2 : Tok := 0
  u : Tok := 0
  es : List DictEntry := []
  io : Obj := default
/-- one that breaks P, if there is one -/
noncomputable def pick (P : Pm → Prop) : Pm := @Classical.epsilon Pm ⟨{}⟩ fun m => ¬ P m
theorem eps {P : Pm → Prop} (h : P (pick P)) (m : Pm) : P m :=
  Classical.byContradiction fun hm => (@Classical.epsilon_spec Pm (fun m => ¬ P m) ⟨m, hm⟩) h
theorem rs_ne : Nonempty Rs := ⟨⟨aWorld 1, fun _ => none, fun _ => none, fun _ => none, 0, 0, none, Str.ofString "", 0, .none, [], callerA, default, default, 0⟩⟩
noncomputable def pickR (P : Rs → Prop) : Rs := @Classical.epsilon Rs rs_ne fun m => ¬ P m
theorem epsR {P : Rs → Prop} (h : P (pickR P)) (m : Rs) : P m :=
  Classical.byContradiction fun hm => (@Classical.epsilon_spec Rs (fun m => ¬ P m) ⟨m, hm⟩) h
/-- a contract told of a ledger whose first entry is the list that is changed, used at any ledger that holds it -/
theorem sp_of_head {f : Addr} {need : Nat} {l : Addr} {k : Nat} {vs : List Value} {news : Led} {g : Obj → Led} {ns : List Int} {args : List Value} (U : UpdF l (listOf vs.toArray k) news g)
    (S : ∀ rest : Led, (∀ p ∈ rest, p.1 ≠ l) → (∀ p ∈ news, p.1 ≠ l → p ∈ rest) → Sp f need ((l, listOf vs.toArray k) :: rest) args (UpdPost l k (fun o => (l, o) :: rest) ns)) : Sp f need news args (UpdPost l k g ns) :=
  sp_upd U fun rest hne hin => S rest hne hin
-- Vl
theorem assign2 {c : Cx} (ok : c.Ok) {x y : Str} {px py tp : Pos} {kk : Nat} {T : Addr} {a b : Value} {m : Str → Option Value} {news : Led} {s : Shared} {E : Value → Shared → Prop} {Q : Unit → Shared → Prop} (F : Fr c.h₀ c.L s.heap m) (N : News c.h₀ c.L s.heap news) (hT : IsTup s.heap T #[a, b])
    (hx : isLocal c x = true) (hy : isLocal c y = true) (h : ∀ h' tk', Fr c.h₀ c.L h' (upd (upd m x a) y b) → News c.h₀ c.L h' news → Q () { s with heap := h', toks := tk' }) :
    wpAny (model PR c.w) c.A (assign (.Tuple [.Name x px, .Name y py] kk tp) c.env (.ref T)) Q E s :=
  unpackN_ F N hT rfl rfl rfl fun h' F' N' => assignInOrder_cons (PyProof.Rows.assign_Name (storeX_L F' N' (fun h2 F2 N2 => assignInOrder_cons (PyProof.Rows.assign_Name (storeX_L F2 N2 (fun h3 F3 N3 => assignInOrder_nil (h h3 _ F3 N3)) ok.k (isLocal_ok hy)))) ok.k (isLocal_ok hx)))
/-- for x, y in enumerate(a): by what holds of the ledger between the turns -/
theorem v_enum {c : Cx} (ok : c.Ok) (own : c.own = true) {x y an : Str} {px py tp ep ap cp pos : Pos} {kk : Nat} {l : Addr} {vs : List Value} {ns : List Int} {n : Nat} {σ : St} {K : Flow → St → Prop} {body : List Stmt} (J : Nat → Led → Prop)
    (hx : isLocal c x = true) (hy : isLocal c y = true) (hen : nmF c (Str.ofString "enumerate") σ fun v σ1 => v = .type "enumerate" ∧ σ1 = σ) (han : nmF c an σ fun v σ1 => v = .ref l ∧ σ1 = σ)
    (hm : (l, listOf vs.toArray n) ∈ σ.2) (hi : IntsAre vs ns) (h0 : J 0 σ.2) (hJ : ∀ i nw, J i nw → (l, listOf vs.toArray n) ∈ nw ∧ nw.map (·.1) = σ.2.map (·.1))
    (turn : ∀ i q t tt I o1 o2 nw, ns[i]? = some q → J i nw → (∀ p ∈ σ.2, p.1 < I) → wpL (wpS c 8) body (mXY x y σ.1 (some (.int q t)) (some (.int (i : Nat) tt)), (I + 1, o1) :: (I, o2) :: nw)
      (fun f σ' => f = .next ∧ (∃ u1 u2, σ'.1 = mXY x y σ.1 u1 u2) ∧ ∃ nw', (∀ p ∈ (I + 1, o1) :: (I, o2) :: nw', p ∈ σ'.2) ∧ J (i + 1) nw'))
    (done : ∀ u1 u2 nw, J ns.length nw → K .next (mXY x y σ.1 u1 u2, nw)) :
    V c (exec (.For (.Tuple [.Name x px, .Name y py] kk tp) (.Call (.Name (Str.ofString "enumerate") ep) [.Name an ap] [] cp) body [] pos) c.env) σ K := by
  refine ⟨fun s E Q hE ha k => For_turns ha.1 ?_ (by intro _; rfl) (hE own)⟩
  refine Call_ ((nmF_ok ok hen).go hE ha (Sim.refl s) fun fv σ1 s1 a1 z1 h1 => ?_) rfl
  obtain ⟨rfl, rfl⟩ := h1
  refine Pv.callWith_type1 (args_cons ((nmF_ok ok han).go hE a1 z1 fun fv σ2 s2 a2 z2 h2 => args_nil ?_))
  obtain ⟨rfl, rfl⟩ := h2
  refine enum_inv x y J rfl a2.1 a2.2 hm hi h0 hJ ?_ ?_
  · intro i q t tt T u1 u2 nw h tk I o1 o2 hq hj hI hT F' N'
    refine assign2 ok F' N' hT hx hy fun h' tk' F2 N2 => ?_
    rw [show upd (upd (mXY x y σ2.1 u1 u2) x (.int (i : Nat) tt)) y (.int q t) = mXY x y σ2.1 (some (.int q t)) (some (.int (i : Nat) tt)) from mXY_more] at F2
    refine (wpL_ok (wpS_ok ok 8) (turn i q t tt I o1 o2 nw hq hj hI)).go hE (s₀ := s2) ⟨F2, N2⟩ ⟨rfl, rfl, rfl⟩ fun f σ3 s3 a3 z3 h3 => ?_
    obtain ⟨rfl, ⟨v1, v2, e⟩, nw', hs, hj'⟩ := h3
    exact ⟨rfl, s3.heap, s3.toks, v1, v2, nw', z3.eq, e ▸ a3.1, fun p hp => a3.2 p (hs p hp), hj'⟩
  · intro u1 u2 nw h tk hj F' N'
    exact k _ (mXY x y σ2.1 u1 u2, nw) _ ⟨F', N'⟩ (z2.trans ⟨rfl, rfl, rfl⟩) (done u1 u2 nw hj)
/-- what a call leaves that makes one list -/
noncomputable def NewPost (news : Led) (ns : List Int) (r : Value) (news' : Led) : Prop := ∃ l' vs' k', r = .ref l' ∧ IntsAre vs' ns ∧ LCg.Off1 l' news ∧ news' = (l', listOf vs'.toArray k') :: news
theorem v_copy {c : Cx} {σ : St} {D : Addr} {vs : List Value} {ns : List Int} {n : Nat} {K : Value → St → Prop} (hm : (D, listOf vs.toArray n) ∈ σ.2) (hi : IntsAre vs ns) (hle : ns.length ≤ 1000)
    (h : ∀ D' c', (∀ q ∈ σ.2, q.1 < D') → K (.ref D') (σ.1, (D', listOf vs.toArray c') :: σ.2)) : V c (call (.type "list") [.ref D]) σ K :=
  ⟨fun s _ _ _ ha k => my_copy ha.1 ha.2 hm hi hle fun D' c' h' F' N' l1 => k _ (σ.1, (D', listOf vs.toArray c') :: σ.2) { s with heap := h' } ⟨F', N'⟩ ⟨rfl, rfl, rfl⟩ (h D' c' l1)⟩
/-- names within a comprehension -/
noncomputable def nmC (c : Cx) (scope : Scope) (cl : List (Str × Addr)) (C : Addr) (oC : Obj) (x₀ : Str) (v₀ : Value) (x : Str) (σ : St) (K : Value → St → Prop) : Prop :=
  bif x == Str.ofString "__debug__" then False else
  match (relabel scope c.env).names.lookup x with
  | some .local => x = x₀ ∧ (C, oC) ∈ σ.2 ∧ K v₀ σ
  | some .globalImplicit => match gtab.lookup x with
    | some v => K v σ
    | none => match btab.lookup x with
      | some v => K v σ
      | none => False
  | some .cell => ∃ cc o v, cl.lookup x = some cc ∧ (cc, o) ∈ σ.2 ∧ o.data = .cell (some v) ∧ K v σ
  | _ => False
noncomputable abbrev Cx.comp (c : Cx) : Cx := ⟨c.r, c.cs, c.cl, c.room, false⟩
theorem Cx.Ok.comp {c : Cx} (ok : c.Ok) : c.comp.Ok := ⟨ok.B, ok.X, ok.T, ok.k, ok.d, ok.u⟩
theorem nmC_ok {c : Cx} (ok : c.Ok) {scope : Scope} {cl : List (Str × Addr)} {C : Addr} {oC : Obj} {m₂ : Str → Option Value} {x₀ : Str} {v₀ : Value} (hk : (relabel scope c.env).kind = .function) (hC : LCg.NsObj oC m₂) (hv : m₂ x₀ = some v₀) {x : Str} {pos : Pos} {σ : St} {K : Value → St → Prop}
    (h : nmC c scope cl C oC x₀ v₀ x σ K) : V c.comp (eval (.Name x pos) (compEnvC scope cl C c.env)) σ K := by
  unfold nmC at h
  cases hd : (x == Str.ofString "__debug__") with
  | true => rw [hd] at h; exact h.elim
  | false =>
    rw [hd] at h
    dsimp only [cond] at h
    refine ⟨fun s E Q hE ha k => ?_⟩
    cases hn : (relabel scope c.env).names.lookup x with
    | none => rw [hn] at h; exact h.elim
    | some kd =>
      rw [hn] at h
      cases kd with
      | «local» =>
        obtain ⟨rfl, hm, h⟩ := h
        exact LCgL.ld_own ha.2 hm hC hv (k _ _ _ ha (Sim.refl _) h) hk hn hd
      | globalImplicit =>
        cases hg : gtab.lookup x with
        | some v =>
          simp only [hg] at h
          exact LCgL.ld_global ha.1 ok.X ok.T (gtab_ok _ _ (lookup_mem hg)) (k _ _ _ ha (Sim.refl _) h) rfl hk hn hd
        | none =>
          cases hb : btab.lookup x with
          | none => simp only [hg, hb] at h
          | some v =>
            simp only [hg, hb] at h
            have b := btab_ok c.w.params _ (lookup_mem hb)
            exact LCgL.ld_built ha.1 ok.X ok.T b.1 b.2.1 b.2.2 (k _ _ _ ha (Sim.refl _) h) rfl rfl hk hn hd
      | cell =>
        obtain ⟨cc, o, v, h1, h2, h3, h4⟩ := h
        exact kcf_cell ha.2 h1 h2 h3 (k _ _ _ ha (Sim.refl _) h4) hk hn hd
      | _ => exact h.elim
/-- [elt for x in range(ra)], the element an int that hangs on x alone -/
theorem v_comp {c : Cx} (ok : c.Ok) {elt ra : Expr} {x : Str} {px rp cp pos : Pos} {scope : Scope} {cl : List (Str × Addr)} {σ : St} {K : Value → St → Prop} {n : Nat} (g : Int → Int)
    (hrg : nmF c (Str.ofString "range") σ fun v σ1 => v = .type "range" ∧ σ1 = σ) (hp : plainE ra = true) (hra : wpX c ra σ fun v σ1 => (∃ t, v = .int (n : Nat) t) ∧ σ1 = σ) (hn : n ≤ 1000)
    (hcl : closureFor scope c.env = pure cl) (h1 : ∀ y ∈ scope.names, y.2 ≠ .cell) (h2 : scope.kind = .function) (h3 : ∀ y ∈ scope.names, y.2 = .local → scope.names.lookup y.1 = some .local) (h4 : scope.names.lookup x = some .local)
    (hk : (relabel scope c.env).kind = .function)
    (turn : ∀ k t I oI C oC D ys, 0 ≤ k → k < (n : Int) → LCg.Off3 I C D σ.2 → ((@Ne Nat I C) ∧ (@Ne Nat I D) ∧ (@Ne Nat C D)) →
      wpE c.comp (compEnvC scope cl C c.env) (nmC c scope cl C oC x (.int k t)) 8 elt (σ.1, (I, oI) :: (C, oC) :: (D, LCg.lst ys) :: σ.2) (fun v σ' => σ' = (σ.1, (I, oI) :: (C, oC) :: (D, LCg.lst ys) :: σ.2) ∧ ∃ t, v = .int (g k) t))
    (done : ∀ D ys, IntsAre ys (List.map g (rangeKs 0 n)) → LCg.Off1 D σ.2 → K (.ref D) (σ.1, (D, LCg.lst ys) :: σ.2)) :
    V c (eval (.ListComp elt [⟨.Name x px, .Call (.Name (Str.ofString "range") rp) [ra] [] cp, [], 0⟩] scope pos) c.env) σ K := by
  refine ⟨fun s E Q hE ha k => LCg.ListComp_U ha.1 hcl h1 h2 h3 h4 ?_ (by intro _; rfl)⟩
  refine Call_ ((nmF_ok ok hrg).go hE ha (Sim.refl s) fun fv σ1 s1 a1 z1 q1 => ?_) rfl
  obtain ⟨rfl, rfl⟩ := q1
  refine Pv.callWith_type1 (args_cons ((wpX_ok ok hra).go hE a1 z1 fun v σ2 s2 a2 z2 q2 => args_nil ?_) (star_plain hp _ _)) (star_plain hp _ _)
  obtain ⟨⟨t, rfl⟩, rfl⟩ := q2
  refine range1_rows a2.1 a2.2 fun h' tk t1 u1 v1 hR F' N' keep => ?_
  refine LCg.CompSrc.range rfl F' N' hR (small_one (by decide) (by decide) (by omega) (by omega)) (by rw [rangeSize_nat]) (by rw [PySem.sizeLine_eq]; omega) fun gh => ?_
  refine kcf_range g (fun k t I oI C oC D m₂ ys h tk E' k0 k1 hC hx F2 N2 off ne _ => ?_) fun ys hy => ?_
  · refine (wpE_ok (Cx.Ok.comp ok) (fun _ _ _ _ hh => nmC_ok ok hk hC hx hh) 8 elt _ _ (turn k t I oI C oC D ys k0 (by omega) off ne)).out _ E' _ (fun q => by cases q) ⟨F2, N2⟩ fun v σ3 s3 a3 z3 q3 => ?_
    obtain ⟨rfl, q3⟩ := q3
    rw [z3.eq]
    exact LCg.CompEnd.intro a3.1 a3.2 σ2.2 (fun _ hp => hp) off trivial ⟨rfl, q3⟩
  · intro D h tk F3 N3 o1
    exact k _ (σ2.1, (D, LCg.lst ys) :: σ2.2) _ ⟨F3, N3⟩ (z2.trans ⟨rfl, rfl, rfl⟩) (done D ys hy o1)
/-- a def with cells -/
theorem sp_enterC {f : Addr} {need : Nat} {news : Led} {vs : List Value} {Post : Value → Led → Prop} {name qual : Str} {params : Arguments} {body : List Stmt} {scope : Scope} {dV kV doc pm cdv ct oc : Value} {an od : Option Addr} {osl : Array (Option Value)} (xs : List Str)
    (hf : ∀ p, List.lookup f (KK p) = some { cls := oc, dict := od, data := Data.func (fnOf name qual params body scope dV kV doc pm an cdv ct), slots := osl }) (hc : ∀ p, codeIn (KK p) cdv qual = true)
    (hb : ∀ s, BindsTo s (fnOf name qual params body scope dV kV doc pm an cdv ct) { pos := vs, kw := [] } (xs.zip vs)) (hl : ((xs.zip vs).all fun y => scope.names.lookup y.1 == some .local || scope.names.lookup y.1 == some .cell) = true)
    (h2 : scope.isCoroutine = false) (h3 : scope.isGenerator = false) (h4 : scope.kind = .function) (h5 : ((cellsFrom 0 scope.names []).map (·.1)).Nodup)
    (h : ∀ r : Rs, (Cx.mk r scope (cellsFrom (r.L + 1) scope.names []) need true).Ok → ∀ cells, CellsAre (bindC (fun x => scope.names.lookup x) (xs.zip vs) fun _ => none) (cellsFrom (r.L + 1) scope.names []) cells → (∀ p ∈ news, p.1 < r.L) →
      wpL (wpS ⟨r, scope, cellsFrom (r.L + 1) scope.names [], need, true⟩ 12) body (bindL (fun x => scope.names.lookup x) (xs.zip vs) fun _ => none, cells ++ news) fun fl σ => ∃ N, (∀ p ∈ N, p ∈ σ.2) ∧ Post (retv fl) N) : Sp f need news vs Post := by
  intro w mean mg mb dp un gd cn cs a ccd cl outer A₀ base h₀ L m s Q E B F X N T hk hd hu hret
  refine wpAny_call ?_
  refine code_defC B F X N T rfl rfl hk (hf _) (hc _) (by show dp < recursionLimit; omega) (hb s) hl h5 (fun g L' h₁ tk cells FG F' N' Y B' X' T' l1 => ?_) h2 h3 h4
  have ok : (Cx.mk ⟨w, mean, mg, mb, dp + 1, un + 3, gd, qual, f, cdv, envX cn cs L a ccd cl :: outer, ktrTop dp un gd cn cs L a ccd cl outer, base, g, L'⟩ scope (cellsFrom (L' + 1) scope.names []) need true).Ok :=
    ⟨B', X', T', h4, (by show dp + 1 + need ≤ recursionLimit; omega), (by show un + 3 + 8 * need < cLine + 8; omega)⟩
  refine (wpL_ok (wpS_ok ok 12) (h _ ok cells Y l1)).go (s₀ := s) (fun _ => PassesOwn.leaving) ⟨F', N'⟩ ⟨rfl, rfl, rfl⟩ fun fl σ' s' a' z k => ?_
  obtain ⟨N2, hs, k⟩ := k
  refine leaveK_ (news' := N2) (m' := σ'.1) a'.1 (fun p hp => a'.2 p (hs p hp)) fun F'' N'' => ?_
  have q := hret _ _ s'.heap s'.toks F'' N'' k
  rw [← z.eq] at q
  cases fl <;> exact q
/-- the ledger may tell less -/
theorem sp_drop {f : Addr} {need : Nat} {news : Led} {vs : List Value} {Post : Value → Led → Prop} (S : Sp f need news vs fun r N => ∃ N', (∀ p ∈ N', p ∈ N) ∧ Post r N') : Sp f need news vs Post := by
  intro w mean mg mb dp un gd cn cs a ccd cl outer A₀ base h₀ L m s Q E B F X N T hk hd hu hret
  refine S w mean mg mb dp un gd cn cs a ccd cl outer A₀ base h₀ L m s Q E B F X N T hk hd hu ?_
  rintro r news' h' tk' F' N' ⟨N2, hs, hp⟩
  exact hret r N2 h' tk' F' (fun p hp => N' p (hs p hp)) hp
theorem NewPost.of {news : Led} {l' : Addr} {vs' : List Value} {k' : Nat} {a b : List Int} (hi : IntsAre vs' a) (e : a = b) (o : LCg.Off1 l' news) : NewPost news b (.ref l') ((l', listOf vs'.toArray k') :: news) :=
  ⟨l', vs', k', rfl, e ▸ hi, o, rfl⟩
theorem NewPost.lst {news : Led} {l' : Addr} {vs' : List Value} {a b : List Int} (hi : IntsAre vs' a) (e : a = b) (o : LCg.Off1 l' news) : NewPost news b (.ref l') ((l', LCg.lst vs') :: news) :=
  ⟨l', vs', vs'.length, rfl, e ▸ hi, o, rfl⟩
theorem got_eqn {ns : List Int} (h : Sz ns) (i : Int) (n : Nat) : List.map (fun k' => rd ns ((i + k') % 65536)) (rangeKs 0 n) = got ns i n := by
  have := got_eq h i n
  rwa [show ((n : Int) - 0).toNat = n by omega] at this
theorem got_eqn2 (ns : List Int) (i : Int) (n : Nat) : List.map (fun k' => ns.getD ((i + k') % (ns.length : Int)).toNat 0) (rangeKs 0 n) = got ns i n := by
  have := got_eq2 ns i n
  rwa [show ((n : Int) - 0).toNat = n by omega] at this
-- Vm
/-- xs[lo:hi] of a list of ints -/
theorem v_slice {c : Cx} (ok : c.Ok) {vn : Str} {vp sp q : Pos} {lo hi : Expr} {σ : St} {K : Value → St → Prop} {D : Addr} {vs : List Value} {ns : List Int} {n : Nat} {x y : Int} (hv : nmF c vn σ fun v σ1 => v = .ref D ∧ σ1 = σ)
    (hlo : wpX c lo σ fun v σ1 => (∃ t, v = .int x t) ∧ σ1 = σ) (hhi : wpX c hi σ fun v σ1 => (∃ t, v = .int y t) ∧ σ1 = σ) (hm : (D, listOf vs.toArray n) ∈ σ.2) (hi' : IntsAre vs ns) (hx : 0 ≤ x) (hy : 0 ≤ y) (hz : ns.length ≤ 1000)
    (h : ∀ D' ws, IntsAre ws ((ns.drop x.toNat).take (min y.toNat ns.length - x.toNat)) → LCg.Off1 D' σ.2 → K (.ref D') (σ.1, (D', listOf ws.toArray 0) :: σ.2)) :
    V c (eval (.Subscript (.Name vn vp) (.Slice (some lo) (some hi) none sp) q) c.env) σ K := by
  refine ⟨fun s E Q hE ha k => Subscript_ ((nmF_ok ok hv).go hE ha (Sim.refl s) fun v σ1 s1 a1 z1 h1 => ?_)⟩
  obtain ⟨rfl, rfl⟩ := h1
  refine wpAny_Slice (evalPart_some_step ((wpX_ok ok hlo).go hE a1 z1 fun v σ2 s2 a2 z2 h2 => ?_))
  obtain ⟨⟨t, rfl⟩, rfl⟩ := h2
  refine evalPart_some_step ((wpX_ok ok hhi).go hE a2 z2 fun v σ3 s3 a3 z3 h3 => evalPart_none_step ?_)
  obtain ⟨⟨t', rfl⟩, rfl⟩ := h3
  exact kmk_slice_ints a3.1 a3.2 (News.isList a3.2 hm) (IsPart.int _ _) (IsPart.int _ _) hi' (kmk_run hi' hx hy) rfl
    (fun D' ws h' F' N' l1 hw _ _ => k _ (σ3.1, (D', listOf ws.toArray 0) :: σ3.2) { s3 with heap := h' } ⟨F', N'⟩ (z3.trans ⟨rfl, rfl, rfl⟩) (h D' ws hw (off1_of l1))) (by with_unfolding_all rfl) (by intro _; with_unfolding_all rfl)
    (by rw [PySem.sizeLine_eq, List.size_toArray, hi'.length]; omega)
/-- a, b, d = e, where e gives a list of three ints -/
theorem v_assign3 {c : Cx} (ok : c.Ok) {a b d : Str} {pa pb pd tp pos : Pos} {kk : Nat} {e : Expr} {σ : St} {K : Flow → St → Prop} (la : isLocal c a = true) (lb : isLocal c b = true) (ld : isLocal c d = true)
    (h1 : swapsWithSole [.Tuple [.Name a pa, .Name b pb, .Name d pd] kk tp] e pos.line c.env = pure false) (h2 : swappedStores [.Tuple [.Name a pa, .Name b pb, .Name d pd] kk tp] e c.env = pure none)
    (he : wpX c e σ fun v σ1 => ∃ l x y z n, v = .ref l ∧ (l, listOf [x, y, z].toArray n) ∈ σ1.2 ∧ K .next (upd (upd (upd σ1.1 a x) b y) d z, σ1.2)) :
    V c (exec (.Assign [.Tuple [.Name a pa, .Name b pb, .Name d pd] kk tp] e pos) c.env) σ K := by
  refine ⟨fun s E Q hE ha k => Assign_Tuple ((wpX_ok ok he).go hE ha (Sim.refl s) fun v σ1 s1 a1 z1 hh => ?_) h1 h2⟩
  obtain ⟨l, x, y, z, n, rfl, hm, hk⟩ := hh
  refine kun_list a1.1 a1.2 (News.isList a1.2 hm) rfl rfl rfl fun h' F' N' => assignInOrder_cons (PyProof.Rows.assign_Name (storeX_L F' N' (fun h2 F2 N2 => assignInOrder_cons (PyProof.Rows.assign_Name (storeX_L F2 N2 (fun h3 F3 N3 =>
    assignInOrder_cons (PyProof.Rows.assign_Name (storeX_L F3 N3 (fun h4 F4 N4 => assignInOrder_nil (k _ (upd (upd (upd σ1.1 a x) b y) d z, σ1.2) _ ⟨F4, N4⟩ (z1.trans ⟨rfl, rfl, rfl⟩) hk)) ok.k (isLocal_ok ld)))) ok.k (isLocal_ok lb)))) ok.k (isLocal_ok la)))
/-- disk.blocks -/
theorem v_blocks {c : Cx} (ok : c.Ok) {dk dd : Addr} {es : List DictEntry} {dn : Nat} {b : Int} {u : Tok} {σ : St} {K : Value → St → Prop} (hdk : (dk, instObj 67 dd) ∈ σ.2) (hdd : (dd, dictOf es dn) ∈ σ.2) (hbl : getL (Str.ofString "blocks") es = some (some (.int b u))) (h : K (.int b u) σ) :
    V c (getAttr (.ref dk) (Str.ofString "blocks") true) σ K := by
  refine ⟨fun s E Q hE ha k => ?_⟩
  refine' get_own ha.1 ok.X (InstAt.of_news ha.2 hdk hdd) ?k4 ?k5 ?k6 ?k7 hbl ?k9 (k _ _ _ ha Sim.rfl' h)
  (case k4 => k_is)
  (case k5 => k_is)
  (case k6 => k_is)
  (case k7 => k_is)
  (case k9 => k_handed)
-- Vn
/-- [elt for x in range(ra, rb, rc)] -/
theorem v_compS {c : Cx} (ok : c.Ok) {elt ra rb rc : Expr} {x : Str} {px rp cp pos : Pos} {scope : Scope} {cl : List (Str × Addr)} {σ : St} {K : Value → St → Prop} {lo hi st : Int} (ks : List Int) (g : Int → Int)
    (hrg : nmF c (Str.ofString "range") σ fun v σ1 => v = .type "range" ∧ σ1 = σ) (hp : [ra, rb, rc].all plainE = true) (hra : wpX c ra σ fun v σ1 => (∃ t, v = .int lo t) ∧ σ1 = σ) (hrb : wpX c rb σ fun v σ1 => (∃ t, v = .int hi t) ∧ σ1 = σ) (hrc : wpX c rc σ fun v σ1 => (∃ t, v = .int st t) ∧ σ1 = σ)
    (h0 : st ≠ 0) (hpy : PySem.Builtin.divisionGoesByPylong (hi - lo) st = false) (hs : PySem.Builtin.Range.small lo hi st = true) (hr : PySem.Builtin.Range.rangeSize lo hi st = ((ks.length : Nat) : Int)) (hn : ks.length ≤ 1000) (hks : ∀ j < ks.length, ks[j]? = some (lo + (j : Int) * st))
    (hcl : closureFor scope c.env = pure cl) (h1 : ∀ y ∈ scope.names, y.2 ≠ .cell) (h2 : scope.kind = .function) (h3 : ∀ y ∈ scope.names, y.2 = .local → scope.names.lookup y.1 = some .local) (h4 : scope.names.lookup x = some .local)
    (hk : (relabel scope c.env).kind = .function)
    (turn : ∀ k t I oI C oC D ys, k ∈ ks → LCg.Off3 I C D σ.2 → ((@Ne Nat I C) ∧ (@Ne Nat I D) ∧ (@Ne Nat C D)) →
      wpE c.comp (compEnvC scope cl C c.env) (nmC c scope cl C oC x (.int k t)) 8 elt (σ.1, (I, oI) :: (C, oC) :: (D, LCg.lst ys) :: σ.2) (fun v σ' => σ' = (σ.1, (I, oI) :: (C, oC) :: (D, LCg.lst ys) :: σ.2) ∧ ∃ t, v = .int (g k) t))
    (done : ∀ D ys, IntsAre ys (List.map g ks) → LCg.Off1 D σ.2 → K (.ref D) (σ.1, (D, LCg.lst ys) :: σ.2)) :
    V c (eval (.ListComp elt [⟨.Name x px, .Call (.Name (Str.ofString "range") rp) [ra, rb, rc] [] cp, [], 0⟩] scope pos) c.env) σ K := by
  refine ⟨fun s E Q hE ha k => ListComp_S ha.1 hcl h1 h2 h3 h4 ?_ (by intro _; rfl)⟩
  refine Call_ ((nmF_ok ok hrg).go hE ha (Sim.refl s) fun fv σ1 s1 a1 z1 q1 => ?_) rfl
  obtain ⟨rfl, rfl⟩ := q1
  simp only [List.all_cons, Bool.and_eq_true] at hp
  refine Pv.callWith_type1 (args_cons ((wpX_ok ok hra).go hE a1 z1 fun v σ2 s2 a2 z2 q2 => ?_) (star_plain hp.1 _ _)) (star_plain hp.1 _ _) (any_plain (args := [rb, rc]) (by simp only [List.all_cons, Bool.and_eq_true]; exact hp.2))
  obtain ⟨⟨t, rfl⟩, rfl⟩ := q2
  refine args_cons ((wpX_ok ok hrb).go hE a2 z2 fun v σ3 s3 a3 z3 q3 => ?_) (star_plain hp.2.1 _ _)
  obtain ⟨⟨t2, rfl⟩, rfl⟩ := q3
  refine args_cons ((wpX_ok ok hrc).go hE a3 z3 fun v σ4 s4 a4 z4 q4 => args_nil ?_) (star_plain hp.2.2.1 _ _)
  obtain ⟨⟨t3, rfl⟩, rfl⟩ := q4
  refine range3_rows a4.1 a4.2 h0 (fun h' tk t1 u1 v1 hR F' N' keep => ?_) (Or.inl hpy)
  refine ⟨_, _, _, _, _, _, _, ks.length, σ4.2, rfl, rfl, F', N', hR, hs, hr, (by rw [PySem.sizeLine_eq]; omega), fun gh => ?_⟩
  refine kcf_rest (ks := ks) g rfl ?_ (fun k t I oI C oC D m₂ ys h tk E' hk' hC hx F2 N2 off ne _ => ?_) fun ys hy => ?_
  · rintro j v hj ⟨t, rfl⟩
    exact ⟨_, t, hks j hj, rfl⟩
  · refine (wpE_ok (Cx.Ok.comp ok) (fun _ _ _ _ hh => nmC_ok ok hk hC hx hh) 8 elt _ _ (turn k t I oI C oC D ys hk' off ne)).out _ E' _ (fun q => by cases q) ⟨F2, N2⟩ fun v σ3 s3 a3 z3 q3 => ?_
    obtain ⟨rfl, q3⟩ := q3
    rw [z3.eq]
    exact LCg.CompEnd.intro a3.1 a3.2 σ4.2 (fun _ hp => hp) off trivial ⟨rfl, q3⟩
  · intro D h tk F3 N3 o1
    exact k _ (σ4.1, (D, LCg.lst ys) :: σ4.2) _ ⟨F3, N3⟩ (z4.trans ⟨rfl, rfl, rfl⟩) (done D ys hy o1)
/-- for x in a, where the body makes one list longer -/
theorem v_forlist {c : Cx} (ok : c.Ok) (own : c.own = true) {x an : Str} {px ap pos : Pos} {l D : Addr} {vs vs0 : List Value} {ns : List Int} {n c0 : Nat} {m₀ : Str → Option Value} {rest : Led} {K : Flow → St → Prop} {body : List Stmt} (f : Nat → List Int)
    (hx : isLocal c x = true) (han : nmF c an (m₀, (D, listOf vs0.toArray c0) :: rest) fun v σ1 => v = .ref l ∧ σ1 = (m₀, (D, listOf vs0.toArray c0) :: rest)) (hm : (l, listOf vs.toArray n) ∈ rest) (hi : IntsAre vs ns) (h0 : IntsAre vs0 (f 0))
    (turn : ∀ j q t I o1 vs' c', ns[j]? = some q → IntsAre vs' (f j) → (∀ p ∈ rest, p.1 < I) → @LT.lt Nat _ D I → wpL (wpS c 8) body (mX x m₀ (some (.int q t)), (I, o1) :: (D, listOf vs'.toArray c') :: rest)
      (fun fl σ' => fl = .next ∧ (∃ u, σ'.1 = mX x m₀ u) ∧ ∃ vs2 c2, IntsAre vs2 (f (j + 1)) ∧ ∀ p ∈ (I, o1) :: (D, listOf vs2.toArray c2) :: rest, p ∈ σ'.2))
    (done : ∀ u vs' c', IntsAre vs' (f ns.length) → K .next (mX x m₀ u, (D, listOf vs'.toArray c') :: rest)) :
    V c (exec (.For (.Name x px) (.Name an ap) body [] pos) c.env) (m₀, (D, listOf vs0.toArray c0) :: rest) K := by
  refine ⟨fun s E Q hE ha k => For_turns ha.1 ?_ (by intro _; rfl) (hE own)⟩
  refine (nmF_ok ok han).go hE ha (Sim.refl s) fun fv σ1 s1 a1 z1 h1 => ?_
  obtain ⟨rfl, rfl⟩ := h1
  refine list_one x f rfl a1.1 a1.2 hm hi h0 ?_ ?_
  · intro j q t u vs' c' h tk I o1 hq hi' hI hD F' N'
    refine PyProof.Rows.assign_Name (storeX_L F' N' (fun h' F2 N2 => ?_) ok.k (isLocal_ok hx))
    rw [show (fun y => if y = x then some (Value.int q t) else mX x m₀ u y) = mX x m₀ (some (.int q t)) from mX_more] at F2
    refine (wpL_ok (wpS_ok ok 8) (turn j q t I o1 vs' c' hq hi' hI hD)).go hE (s₀ := s1) ⟨F2, N2⟩ ⟨rfl, rfl, rfl⟩ fun fl σ3 s3 a3 z3 h3 => ?_
    obtain ⟨rfl, ⟨v1, e⟩, vs2, c2, hi2, hs⟩ := h3
    exact ⟨rfl, s3.heap, s3.toks, mX x m₀ v1, _, z3.eq, e ▸ a3.1, fun p hp => a3.2 p (hs p hp), ⟨v1, rfl⟩, vs2, c2, hi2, rfl⟩
  · intro u vs' c' h tk hi' F' N'
    exact k _ (mX x m₀ u, _) _ ⟨F', N'⟩ (z1.trans ⟨rfl, rfl, rfl⟩) (done u vs' c' hi')
/-- found.extend(e), e a list that is made for it -/
theorem v_extend {c : Cx} (ok : c.Ok) {fn : Str} {fp ap pos ep : Pos} {elts : List Expr} {σ : St} {K : Value → St → Prop} {D : Addr} {pl : Sem Bool}
    (hq : eval (.Call (.Attribute (.Name fn fp) (Str.ofString "extend") ap) [.List elts ep] [] pos) c.env = (do
      let ov ← eval (.Name fn fp) c.env
      standAt ap.atName
      let (f, first) ← holding [ov] (getMethod ov (Str.ofString "extend") pl)
      callWith pos f first (backTo pos (starEach [.List elts ep] c.env)) [])) (hf : nmF c fn σ fun v σ1 => v = .ref D ∧ σ1 = σ) {vs : List Value} {n : Nat} (hm : (D, listOf vs.toArray n) ∈ σ.2)
    (he : wpX c (.List elts ep) σ fun v σ1 => ∃ b ws n2 ns ms news', v = .ref b ∧ (b, listOf ws.toArray n2) ∈ σ1.2 ∧ IntsAre ws ms ∧ IntsAre vs ns ∧ ws.length ≠ 0 ∧ ns.length + ws.length ≤ 1000 ∧ Upd D (listOf vs.toArray n) (listOf (vs ++ ws).toArray (n + 1)) σ1.2 news' ∧ (IntsAre (vs ++ ws) (ns ++ ms) → K .none (σ1.1, news'))) :
    V c (eval (.Call (.Attribute (.Name fn fp) (Str.ofString "extend") ap) [.List elts ep] [] pos) c.env) σ K := by
  refine ⟨fun s E Q hE ha k => ?_⟩
  refine MethodCall_ ?_ hq
  refine (nmF_ok ok hf).go hE ha (Sim.refl s) fun v σ1 s1 a1 z1 h1 => ?_
  obtain ⟨rfl, rfl⟩ := h1
  refine kl_method a1.2 hm F.slot_list_extend F.type_list_extend ?_
  refine callWith_method1 (args_cons ((wpX_ok ok he).go hE a1 z1 fun v σ2 s2 a2 z2 h2 => args_nil ?_))
  obtain ⟨b, ws, n2, ns, ms, news', rfl, hb, hw, hi, h1, h2, U, hk⟩ := h2
  exact my_extend a2.1 a2.2 hb hw hi h1 h2 U fun h' F' N' hi' => k _ (σ2.1, news') { s2 with heap := h' } ⟨F', N'⟩ (z2.trans ⟨rfl, rfl, rfl⟩) (hk hi')
/-- the blocks that a map's octets tell, and back -/
noncomputable def mapv (b : Int) (ns : List Int) : List Int := if b ≤ 256 then ns else prs ns
noncomputable def unmapv (b : Int) (ns : List Int) : List Int := if b ≤ 256 then ns else unprs ns
theorem mapv_s {b : Int} (h : b ≤ 256) (ns : List Int) : mapv b ns = ns := if_pos h
theorem mapv_b {b : Int} (h : ¬ b ≤ 256) (ns : List Int) : mapv b ns = prs ns := if_neg h
theorem unmapv_s {b : Int} (h : b ≤ 256) (ns : List Int) : unmapv b ns = ns := if_pos h
theorem unmapv_b {b : Int} (h : ¬ b ≤ 256) (ns : List Int) : unmapv b ns = unprs ns := if_neg h
-- Vo
section
variable {c : Cx} {σ : St} {D D2 : Addr} {vs ws : List Value} {ns ms : List Int} {n n2 : Nat}
/-- xs + ys of lists of ints -/
theorem v_cat {K : Value → St → Prop} (h1 : (D, listOf vs.toArray n) ∈ σ.2) (h2 : (D2, listOf ws.toArray n2) ∈ σ.2) (hi : IntsAre vs ns) (hw : IntsAre ws ms) (hl : ns.length + ms.length ≤ 1000)
    (h : ∀ D' us, IntsAre us (ns ++ ms) → LCg.Off1 D' σ.2 → K (.ref D') (σ.1, (D', listOf us.toArray 0) :: σ.2)) : V c (binaryOp .Add (.ref D) (.ref D2)) σ K :=
  ⟨fun s E Q _ ha k => kmk_add_ints ha.1 ha.2 (News.isList ha.2 h1) (News.isList ha.2 h2) hi hw (fun D' us h' F' N' l1 hu => k _ (σ.1, (D', listOf us.toArray 0) :: σ.2) { s with heap := h' } ⟨F', N'⟩ ⟨rfl, rfl, rfl⟩ (h D' us hu (off1_of l1))) (by rw [PySem.sizeLine_eq]; omega)⟩
/-- xs * k -/
theorem v_rep {K : Value → St → Prop} {x : Int} {u : Tok} (h1 : (D, listOf vs.toArray n) ∈ σ.2) (hi : IntsAre vs ns) (h0 : 0 ≤ x) (hx : x < 100) (hl : vs.length ≤ 100)
    (h : ∀ D' us, IntsAre us (List.replicate x.toNat ns).flatten → LCg.Off1 D' σ.2 → K (.ref D') (σ.1, (D', listOf us.toArray 0) :: σ.2)) : V c (binaryOp .Mult (.ref D) (.int x u)) σ K :=
  ⟨fun s E Q _ ha k => KM.mul ha.1 ha.2 (News.isList ha.2 h1) hi (by omega) (by omega) (Nat.le_trans (Nat.mul_le_mul hl (show x.toNat ≤ 100 by omega)) (by decide)) fun D' h' F' N' l1 hu _ _ _ _ _ => k _ (σ.1, (D', listOf (List.replicate x.toNat vs).flatten.toArray 0) :: σ.2) { s with heap := h' } ⟨F', N'⟩ ⟨rfl, rfl, rfl⟩ (h D' _ hu (off1_of l1))⟩
/-- an item of a list that is written out -/
theorem v_lit {K : Value → St → Prop} {value slice : PySem.Expr} {k : Int} {u : Tok} {v : Value} (hm : (D, listOf vs.toArray n) ∈ σ.2) (h0 : 0 ≤ k) (h2 : k < 2 ^ 63) (hv : vs[k.toNat]? = some v) (h : K v σ)
    (hs : subscripted slice false (.ref D) (.int k u) = operate [.ref D, .int k u] (getItem (.ref D) (.int k u)) := by with_unfolding_all rfl) : V c (subscriptTail value slice (.ref D) (.int k u)) σ K :=
  ⟨fun _ _ _ _ ha kk => item_litK (News.isList ha.2 hm) h0 h2 hv (kk _ _ _ ha (Sim.refl _) h) hs⟩
theorem v_setlit {K : Unit → St → Prop} {k : Int} {t : Tok} {v : Value} {q : List Value} {news' : Led} (h0 : 0 ≤ k) (h2 : k < 2 ^ 63) (hq : ki_setL vs k.toNat v = some q) (U : Upd D (listOf vs.toArray n) (listOf q.toArray n) σ.2 news') (h : K () (σ.1, news')) :
    V c (setItem (.ref D) (.int k t) v) σ K :=
  ⟨fun s _ _ _ ha kk => ki_set (its := vs.toArray) ha.1 ha.2 h0 h2 (by simpa using hq) U fun h' F' N' => kk _ (σ.1, news') { s with heap := h' } ⟨F', N'⟩ ⟨rfl, rfl, rfl⟩ h⟩
end
/-- what a take gives -/
noncomputable def tkx (nns : List Int) (i sd many : Int) : Int := if i < nns.length then nns.getD i.toNat 0 % many else (sd * 16807 + 431) % 2147483647 / 64 % many
/-- what a take leaves -/
noncomputable def TakePost (dl nl : Addr) (k : Nat) (nns : List Int) (i sd many : Int) (rest : Led) (r : Value) (news' : Led) : Prop :=
  ∃ (t : Tok) (i' sd' : Int) (t1' t2' : Tok), r = .int (tkx nns i sd many) t ∧ 0 ≤ i' ∧ i' ≤ nns.length ∧ 0 ≤ sd' ∧ sd' < 2147483647 ∧ news' = (dl, listOf [.ref nl, .int i' t1', .int sd' t2'].toArray k) :: rest
theorem tkx_lo {nns : List Int} {i sd many : Int} (h : 0 < many) : 0 ≤ tkx nns i sd many := by
  unfold tkx; split <;> exact Int.emod_nonneg _ (by omega)
theorem tkx_hi {nns : List Int} {i sd many : Int} (h : 0 < many) : tkx nns i sd many < many := by
  unfold tkx; split <;> exact Int.emod_lt_of_pos _ h
theorem mapv_len (b : Int) (ns : List Int) (i : Int) : (mapv b (got ns i 16)).length = (if b ≤ 256 then 16 else 8) := by
  unfold mapv; split
  · exact got_length _ _ _
  · exact prs_length _
theorem slot_ix {b x : Int} (h : x < (if b ≤ 256 then 16 else 8)) : x < ((if b ≤ 256 then 16 else 8 : Nat) : Int) := by split <;> rename_i hb <;> simp only [hb, if_true, if_false] at h <;> exact h
theorem slot_fit {b x : Int} (h : x < (if b ≤ 256 then 16 else 8)) : x < 2 ^ 63 := by split at h <;> omega
theorem slot_len (b : Int) : (if b ≤ 256 then 16 else 8 : Nat) ≤ 100 := by split <;> decide
-- Vp
section
variable {c : Cx} {σ : St} {D D2 : Addr} {vs ws : List Value} {ns ms : List Int} {n n2 : Nat}
/-- xs + ys of lists of anything -/
theorem v_catlit {K : Value → St → Prop} (h1 : (D, listOf vs.toArray n) ∈ σ.2) (h2 : (D2, listOf ws.toArray n2) ∈ σ.2) (hl : vs.length + ws.length ≤ 100)
    (h : ∀ D', LCg.Off1 D' σ.2 → K (.ref D') (σ.1, (D', listOf (vs ++ ws).toArray 0) :: σ.2)) : V c (binaryOp .Add (.ref D) (.ref D2)) σ K :=
  ⟨fun s E Q _ ha k => kmk_add_lit (its := vs.toArray) (its2 := ws.toArray) ha.1 ha.2 (News.isList ha.2 h1) (News.isList ha.2 h2) rfl (fun D' h' F' N' l1 => k _ (σ.1, (D', listOf (vs ++ ws).toArray 0) :: σ.2) { s with heap := h' } ⟨F', N'⟩ ⟨rfl, rfl, rfl⟩ (h D' (off1_of l1))) (by rw [PySem.sizeLine_eq]; simp only [List.toList_toArray]; omega)⟩
/-- e1 and e2, where e1 is True -/
theorem v_and (ok : c.Ok) {K : Value → St → Prop} {e1 e2 : Expr} {pos : Pos} (h : wpX c e1 σ fun v σ1 => v = .bool true ∧ wpX c e2 σ1 K) : V c (eval (.BoolOp .And [e1, e2] pos) c.env) σ K := by
  refine ⟨fun s E Q hE ha k => BoolOp_and ((wpX_ok ok h).go hE ha (Sim.refl s) fun v σ1 s1 a1 z1 h1 => ?_)⟩
  obtain ⟨rfl, h1⟩ := h1
  refine wpAny_truthy_bool ?_
  rw [if_pos rfl]
  exact BoolOp_one ((wpX_ok ok h1).go hE a1 z1 fun v σ2 s2 a2 z2 h2 => k _ _ _ a2 z2 h2)
theorem v_eqints (ok : c.Ok) (hr : 9 < c.room) {K : Value → St → Prop} (h1 : (D, listOf vs.toArray n) ∈ σ.2) (h2 : (D2, listOf ws.toArray n2) ∈ σ.2) (hi : IntsAre vs ns) (hw : IntsAre ws ns) (h : K (.bool true) σ) : V c (compareOp .Eq (.ref D) (.ref D2)) σ K :=
  ⟨fun s E Q _ ha k => my_eq_ints ha.2 h1 h2 hi hw (by have := ok.u; show c.un + 64 < cLine; omega) (k _ _ _ ha (Sim.refl _) h)⟩
theorem v_told (ok : c.Ok) (hr : 9 < c.room) {K : Value → St → Prop} {a b a1 a2 a3 c1 c2 c3 : Addr} {x1 x2 x3 x4 y1 y2 y3 y4 : Int} {b1 b2 : Bool} {t1 t2 t3 t4 u1 u2 u3 u4 : Tok} {n n2 m1 m2 m3 k1 k2 k3 : Nat} {p1 p2 p3 q1 q2 q3 : List Value} {A1 A2 A3 C1 C2 C3 : List Int}
    (ha : (a, listOf [.ref a1, .ref a2, .int x1 t1, .bool b1, .int x2 t2, .int x3 t3, .int x4 t4, .ref a3].toArray n) ∈ σ.2) (hb : (b, listOf [.ref c1, .ref c2, .int y1 u1, .bool b2, .int y2 u2, .int y3 u3, .int y4 u4, .ref c3].toArray n2) ∈ σ.2)
    (ha1 : (a1, listOf p1.toArray m1) ∈ σ.2) (ha2 : (a2, listOf p2.toArray m2) ∈ σ.2) (ha3 : (a3, listOf p3.toArray m3) ∈ σ.2) (hc1 : (c1, listOf q1.toArray k1) ∈ σ.2) (hc2 : (c2, listOf q2.toArray k2) ∈ σ.2) (hc3 : (c3, listOf q3.toArray k3) ∈ σ.2)
    (i1 : IntsAre p1 A1) (i2 : IntsAre p2 A2) (i3 : IntsAre p3 A3) (j1 : IntsAre q1 C1) (j2 : IntsAre q2 C2) (j3 : IntsAre q3 C3) (e1 : A1 = C1) (e2 : A2 = C2) (e3 : A3 = C3) (f1 : x1 = y1) (fb : b1 = b2) (f2 : x2 = y2) (f3 : x3 = y3) (f4 : x4 = y4)
    (h : K (.bool true) σ) : V c (compareOp .Eq (.ref a) (.ref b)) σ K :=
  ⟨fun s E Q _ hs k => told_eq hs.2 ha hb ha1 ha2 ha3 hc1 hc2 hc3 i1 i2 i3 j1 j2 j3 e1 e2 e3 f1 fb f2 f3 f4 (by have := ok.u; show c.un + 64 < cLine; omega) (k _ _ _ hs (Sim.refl _) h)⟩
end
theorem v_got {c : Cx} {σ : St} {D : Addr} {vs : List Value} {ns : List Int} {n m : Nat} {i k : Int} {u : Tok} {K : Value → St → Prop} {value slice : PySem.Expr} (hm : (D, listOf vs.toArray m) ∈ σ.2) (hi : IntsAre vs (got ns i n)) (h0 : 0 ≤ k) (h1 : k < n) (h2 : k < 2 ^ 63) (h : ∀ t, K (.int (rd ns (i + k)) t) σ)
    (hs : subscripted slice false (.ref D) (.int k u) = operate [.ref D, .int k u] (getItem (.ref D) (.int k u)) := by with_unfolding_all rfl) : V c (subscriptTail value slice (.ref D) (.int k u)) σ K :=
  v_sub hm hi h0 (by rw [got_length]; exact h1) h2 (fun t => by rw [gotT ns i k h0 h1]; exact h t) hs
-- Vq
/-- x, y = e1, e2 -/
theorem v_assign2t {c : Cx} (ok : c.Ok) {x y : Str} {px py tp pp pos : Pos} {kk k2 : Nat} {e1 e2 : Expr} {σ : St} {K : Flow → St → Prop} (lx : isLocal c x = true) (ly : isLocal c y = true) (hp1 : plainE e1 = true) (hp2 : plainE e2 = true)
    (h1 : swapsWithSole [.Tuple [.Name x px, .Name y py] kk tp] (.Tuple [e1, e2] k2 pp) pos.line c.env = pure false) (h2 : swappedStores [.Tuple [.Name x px, .Name y py] kk tp] (.Tuple [e1, e2] k2 pp) c.env = pure (some [x, y]))
    (he : wpX c e1 σ fun a σ1 => wpX c e2 σ1 fun b σ2 => K .next (upd (upd σ2.1 y b) x a, σ2.2)) :
    V c (exec (.Assign [.Tuple [.Name x px, .Name y py] kk tp] (.Tuple [e1, e2] k2 pp) pos) c.env) σ K := by
  refine ⟨fun s E Q hE ha k => Assign_Tuple_swapped (Tuple_ (args_cons ((wpX_ok ok he).go hE ha (Sim.refl s) fun a σ1 s1 a1 z1 q1 => ?_) (star_plain hp1 _ _))) h1 h2⟩
  refine args_cons ((wpX_ok ok q1).go hE a1 z1 fun b σ2 s2 a2 z2 q2 => args_nil ?_) (star_plain hp2 _ _)
  refine kup_newTuple a2.1 a2.2 (fun D h' F' N' l1 => ?_) (by show 2 ≤ sizeLine; rw [PySem.sizeLine_eq]; decide)
  refine unpackItemsN_ F' N' (News.isTup N' (.head _)) rfl rfl fun h3 F3 N3 => ?_
  refine assignInOrder_cons (bindName_ (storeX_L F3 N3 (fun h4 F4 N4 => ?_) ok.k (isLocal_ok ly)))
  refine assignInOrder_cons (bindName_ (storeX_L F4 N4 (fun h5 F5 N5 => assignInOrder_nil ?_) ok.k (isLocal_ok lx)))
  exact k _ (upd (upd σ2.1 y b) x a, σ2.2) _ ⟨F5, fun p hp => N5 p (.tail _ hp)⟩ (z2.trans ⟨rfl, rfl, rfl⟩) q2
-- W1

noncomputable def peek_v_P (m : Pm) : Prop := ((m.l, listOf m.vs.toArray m.k) ∈ m.news) → (IntsAre m.vs m.ns) → (Sz m.ns) → Sp 21 1 m.news [.ref m.l, .int m.i m.tk] (fun r news' => news' = m.news ∧ ∃ t, r = .int (rd m.ns m.i) t)
set_option maxHeartbeats 4000000 in
theorem peek_v_c : ∀ m : Pm, peek_v_P m := by
  refine eps ?_
  intro hl hi hz
  refine' sp_enter [Str.ofString "memory", Str.ofString "at"] ?hf ?hc ?hb ?hl ?h2 ?h3 ?h4 ?h5 (epsR ?h)
  (case hf => intro _; k_is)
  (case hc => intro _; k_is)
  (case hb => intro _; exact BindsTo.of_eq rfl)
  (case hl => exact locs rfl)
  (case h2 => exact rfl)
  (case h3 => exact rfl)
  (case h4 => exact rfl)
  (case h5 => decide)
  intro ok
  conv => whnf
  refine v_len hl hi hz.fit fun t => ?_
  conv => whnf
  refine ⟨hz.posI, fun t2 => ?_⟩
  conv => whnf
  exact v_sub hl hi (hz.ix0 _) (hz.ix1 _) (hz.ix2 _) fun t3 => ⟨rfl, _, rfl⟩

theorem peek_v {news : Led} {l : Addr} {vs : List Value} {k : Nat} {ns : List Int} {i : Int} {tk : Tok} (hl : (l, listOf vs.toArray k) ∈ news) (hi : IntsAre vs ns) (hz : Sz ns) :
    Sp 21 1 news [.ref l, .int i tk] (fun r news' => news' = news ∧ ∃ t, r = .int (rd ns i) t) :=
  peek_v_c { news := news, l := l, vs := vs, k := k, ns := ns, i := i, tk := tk } hl hi hz

noncomputable def poke_v_P (m : Pm) : Prop := (∀ p ∈ m.rest, p.1 ≠ m.l) → (IntsAre m.vs m.ns) → (Sz m.ns) → Sp 28 1 ((m.l, listOf m.vs.toArray m.k) :: m.rest) [.ref m.l, .int m.i m.tk, .int m.x m.tk2] (UpdPost m.l m.k (fun o => (m.l, o) :: m.rest) (wr m.ns m.i (m.x % 256)))
set_option maxHeartbeats 4000000 in
theorem poke_v_c : ∀ m : Pm, poke_v_P m := by
  refine eps ?_
  intro hne hi hz
  refine' sp_enter [Str.ofString "memory", Str.ofString "at", Str.ofString "octet"] ?hf ?hc ?hb ?hl ?h2 ?h3 ?h4 ?h5 (epsR ?h)
  (case hf => intro _; k_is)
  (case hc => intro _; k_is)
  (case hb => intro _; exact BindsTo.of_eq rfl)
  (case hl => exact locs rfl)
  (case h2 => exact rfl)
  (case h3 => exact rfl)
  (case h4 => exact rfl)
  (case h5 => decide)
  intro ok
  conv => whnf
  intro _
  conv => whnf
  intro _
  conv => whnf
  refine v_len (.head _) hi hz.fit fun t3 => ?_
  conv => whnf
  refine ⟨hz.posI, fun t4 => ?_⟩
  refine v_set (Upd.head hne) hi (hz.ix0 _) (hz.ix1 _) (hz.ix2 _) fun hi' => ?_
  exact ⟨_, ⟨rfl, _, rfl, conv hi' (by rw [bitAnd_m8]; rfl)⟩, rfl⟩

theorem poke_v {rest : Led} {l : Addr} {vs : List Value} {k : Nat} {ns : List Int} {i : Int} {tk : Tok} {x : Int} {tk2 : Tok} (hne : ∀ p ∈ rest, p.1 ≠ l) (hi : IntsAre vs ns) (hz : Sz ns) :
    Sp 28 1 ((l, listOf vs.toArray k) :: rest) [.ref l, .int i tk, .int x tk2] (UpdPost l k (fun o => (l, o) :: rest) (wr ns i (x % 256))) :=
  poke_v_c { rest := rest, l := l, vs := vs, k := k, ns := ns, i := i, tk := tk, x := x, tk2 := tk2 } hne hi hz
-- W2

noncomputable def count_at_v_P (m : Pm) : Prop := ((m.l, listOf m.vs.toArray m.k) ∈ m.news) → (IntsAre m.vs m.ns) → (Sz m.ns) → Sp 151 2 m.news [.ref m.l, .int m.i m.tk] (fun r news' => news' = m.news ∧ ∃ t, r = .int (rd m.ns (m.i + 15)) t)
set_option maxHeartbeats 4000000 in
theorem count_at_v_c : ∀ m : Pm, count_at_v_P m := by
  refine eps ?_
  intro hl hi hz
  refine' sp_enter [Str.ofString "memory", Str.ofString "at"] ?hf ?hc ?hb ?hl ?h2 ?h3 ?h4 ?h5 (epsR ?h)
  (case hf => intro _; k_is)
  (case hc => intro _; k_is)
  (case hb => intro _; exact BindsTo.of_eq rfl)
  (case hl => exact locs rfl)
  (case h2 => exact rfl)
  (case h3 => exact rfl)
  (case h4 => exact rfl)
  (case h5 => decide)
  intro ok
  conv => whnf
  intro _
  conv => whnf
  refine ⟨_, _, peek_v hl hi hz, Nat.le_of_ble_eq_true rfl, ?_⟩
  rintro _ _ ⟨rfl, _, rfl⟩
  conv => whnf
  exact ⟨rfl, _, rfl⟩

theorem count_at_v {news : Led} {l : Addr} {vs : List Value} {k : Nat} {ns : List Int} {i : Int} {tk : Tok} (hl : (l, listOf vs.toArray k) ∈ news) (hi : IntsAre vs ns) (hz : Sz ns) :
    Sp 151 2 news [.ref l, .int i tk] (fun r news' => news' = news ∧ ∃ t, r = .int (rd ns (i + 15)) t) :=
  count_at_v_c { news := news, l := l, vs := vs, k := k, ns := ns, i := i, tk := tk } hl hi hz

noncomputable def current_at_v_P (m : Pm) : Prop := ((m.l, listOf m.vs.toArray m.k) ∈ m.news) → (IntsAre m.vs m.ns) → (Sz m.ns) → Sp 165 2 m.news [.ref m.l, .int m.i m.tk] (fun r news' => news' = m.news ∧ ∃ t, r = .int (rd m.ns (m.i + 32)) t)
set_option maxHeartbeats 4000000 in
theorem current_at_v_c : ∀ m : Pm, current_at_v_P m := by
  refine eps ?_
  intro hl hi hz
  refine' sp_enter [Str.ofString "memory", Str.ofString "at"] ?hf ?hc ?hb ?hl ?h2 ?h3 ?h4 ?h5 (epsR ?h)
  (case hf => intro _; k_is)
  (case hc => intro _; k_is)
  (case hb => intro _; exact BindsTo.of_eq rfl)
  (case hl => exact locs rfl)
  (case h2 => exact rfl)
  (case h3 => exact rfl)
  (case h4 => exact rfl)
  (case h5 => decide)
  intro ok
  conv => whnf
  intro _
  conv => whnf
  refine ⟨_, _, peek_v hl hi hz, Nat.le_of_ble_eq_true rfl, ?_⟩
  rintro _ _ ⟨rfl, _, rfl⟩
  conv => whnf
  exact ⟨rfl, _, rfl⟩

theorem current_at_v {news : Led} {l : Addr} {vs : List Value} {k : Nat} {ns : List Int} {i : Int} {tk : Tok} (hl : (l, listOf vs.toArray k) ∈ news) (hi : IntsAre vs ns) (hz : Sz ns) :
    Sp 165 2 news [.ref l, .int i tk] (fun r news' => news' = news ∧ ∃ t, r = .int (rd ns (i + 32)) t) :=
  current_at_v_c { news := news, l := l, vs := vs, k := k, ns := ns, i := i, tk := tk } hl hi hz

noncomputable def extent_at_v_P (m : Pm) : Prop := ((m.l, listOf m.vs.toArray m.k) ∈ m.news) → (IntsAre m.vs m.ns) → (Sz m.ns) → Sp 123 2 m.news [.ref m.l, .int m.i m.tk] (fun r news' => news' = m.news ∧ ∃ t, r = .int (rd m.ns (m.i + 14) % 64 * 32 + rd m.ns (m.i + 12) % 32) t)
set_option maxHeartbeats 4000000 in
theorem extent_at_v_c : ∀ m : Pm, extent_at_v_P m := by
  refine eps ?_
  intro hl hi hz
  refine' sp_enter [Str.ofString "memory", Str.ofString "at"] ?hf ?hc ?hb ?hl ?h2 ?h3 ?h4 ?h5 (epsR ?h)
  (case hf => intro _; k_is)
  (case hc => intro _; k_is)
  (case hb => intro _; exact BindsTo.of_eq rfl)
  (case hl => exact locs rfl)
  (case h2 => exact rfl)
  (case h3 => exact rfl)
  (case h4 => exact rfl)
  (case h5 => decide)
  intro ok
  conv => whnf
  intro _
  conv => whnf
  refine ⟨_, _, peek_v hl hi hz, Nat.le_of_ble_eq_true rfl, ?_⟩
  rintro _ _ ⟨rfl, _, rfl⟩
  conv => whnf
  intro _
  conv => whnf
  intro _
  conv => whnf
  refine ⟨mul_r (by decide) (by decide), ?_⟩
  intro _
  conv => whnf
  intro _
  conv => whnf
  refine ⟨_, _, peek_v hl hi hz, Nat.le_of_ble_eq_true rfl, ?_⟩
  rintro _ _ ⟨rfl, _, rfl⟩
  conv => whnf
  intro _
  conv => whnf
  intro _
  conv => whnf
  intro _
  conv => whnf
  exact ⟨rfl, _, by rw [bitAnd_m6, bitAnd_m5]; rfl⟩

theorem extent_at_v {news : Led} {l : Addr} {vs : List Value} {k : Nat} {ns : List Int} {i : Int} {tk : Tok} (hl : (l, listOf vs.toArray k) ∈ news) (hi : IntsAre vs ns) (hz : Sz ns) :
    Sp 123 2 news [.ref l, .int i tk] (fun r news' => news' = news ∧ ∃ t, r = .int (rd ns (i + 14) % 64 * 32 + rd ns (i + 12) % 32) t) :=
  extent_at_v_c { news := news, l := l, vs := vs, k := k, ns := ns, i := i, tk := tk } hl hi hz

noncomputable def is_changed_v_P (m : Pm) : Prop := ((m.l, listOf m.vs.toArray m.k) ∈ m.news) → (IntsAre m.vs m.ns) → (Sz m.ns) → (Oct m.ns) → Sp 137 2 m.news [.ref m.l, .int m.i m.tk] (fun r news' => news' = m.news ∧ r = .bool (decide (rd m.ns (m.i + 14) < 128)))
set_option maxHeartbeats 4000000 in
theorem is_changed_v_c : ∀ m : Pm, is_changed_v_P m := by
  refine eps ?_
  intro hl hi hz ho
  refine' sp_enter [Str.ofString "memory", Str.ofString "at"] ?hf ?hc ?hb ?hl ?h2 ?h3 ?h4 ?h5 (epsR ?h)
  (case hf => intro _; k_is)
  (case hc => intro _; k_is)
  (case hb => intro _; exact BindsTo.of_eq rfl)
  (case hl => exact locs rfl)
  (case h2 => exact rfl)
  (case h3 => exact rfl)
  (case h4 => exact rfl)
  (case h5 => decide)
  intro ok
  conv => whnf
  intro _
  conv => whnf
  refine ⟨_, _, peek_v hl hi hz, Nat.le_of_ble_eq_true rfl, ?_⟩
  rintro _ _ ⟨rfl, _, rfl⟩
  conv => whnf
  intro _
  conv => whnf
  intro _
  conv => whnf
  exact ⟨rfl, congrArg Value.bool (and128 (rd_oct ho _).1 (rd_oct ho _).2)⟩

theorem is_changed_v {news : Led} {l : Addr} {vs : List Value} {k : Nat} {ns : List Int} {i : Int} {tk : Tok} (hl : (l, listOf vs.toArray k) ∈ news) (hi : IntsAre vs ns) (hz : Sz ns) (ho : Oct ns) :
    Sp 137 2 news [.ref l, .int i tk] (fun r news' => news' = news ∧ r = .bool (decide (rd ns (i + 14) < 128))) :=
  is_changed_v_c { news := news, l := l, vs := vs, k := k, ns := ns, i := i, tk := tk } hl hi hz ho

noncomputable def set_count_v_P (m : Pm) : Prop := (∀ p ∈ m.rest, p.1 ≠ m.l) → (IntsAre m.vs m.ns) → (Sz m.ns) → Sp 158 2 ((m.l, listOf m.vs.toArray m.k) :: m.rest) [.ref m.l, .int m.i m.tk, .int m.x m.tk2] (UpdPost m.l m.k (fun o => (m.l, o) :: m.rest) (wr m.ns (m.i + 15) (m.x % 256)))
set_option maxHeartbeats 4000000 in
theorem set_count_v_c : ∀ m : Pm, set_count_v_P m := by
  refine eps ?_
  intro hne hi hz
  refine' sp_enter [Str.ofString "memory", Str.ofString "at", Str.ofString "count"] ?hf ?hc ?hb ?hl ?h2 ?h3 ?h4 ?h5 (epsR ?h)
  (case hf => intro _; k_is)
  (case hc => intro _; k_is)
  (case hb => intro _; exact BindsTo.of_eq rfl)
  (case hl => exact locs rfl)
  (case h2 => exact rfl)
  (case h3 => exact rfl)
  (case h4 => exact rfl)
  (case h5 => decide)
  intro ok
  conv => whnf
  intro _
  conv => whnf
  refine ⟨_, _, poke_v hne hi hz, Nat.le_of_ble_eq_true rfl, ?_⟩
  rintro _ _ ⟨_, ⟨rfl, _, rfl, hi'⟩, rfl⟩
  exact ⟨_, ⟨rfl, _, rfl, hi'⟩, rfl⟩

theorem set_count_v {rest : Led} {l : Addr} {vs : List Value} {k : Nat} {ns : List Int} {i : Int} {tk : Tok} {x : Int} {tk2 : Tok} (hne : ∀ p ∈ rest, p.1 ≠ l) (hi : IntsAre vs ns) (hz : Sz ns) :
    Sp 158 2 ((l, listOf vs.toArray k) :: rest) [.ref l, .int i tk, .int x tk2] (UpdPost l k (fun o => (l, o) :: rest) (wr ns (i + 15) (x % 256))) :=
  set_count_v_c { rest := rest, l := l, vs := vs, k := k, ns := ns, i := i, tk := tk, x := x, tk2 := tk2 } hne hi hz

noncomputable def set_current_v_P (m : Pm) : Prop := (∀ p ∈ m.rest, p.1 ≠ m.l) → (IntsAre m.vs m.ns) → (Sz m.ns) → Sp 172 2 ((m.l, listOf m.vs.toArray m.k) :: m.rest) [.ref m.l, .int m.i m.tk, .int m.x m.tk2] (UpdPost m.l m.k (fun o => (m.l, o) :: m.rest) (wr m.ns (m.i + 32) (m.x % 256)))
set_option maxHeartbeats 4000000 in
theorem set_current_v_c : ∀ m : Pm, set_current_v_P m := by
  refine eps ?_
  intro hne hi hz
  refine' sp_enter [Str.ofString "memory", Str.ofString "at", Str.ofString "record"] ?hf ?hc ?hb ?hl ?h2 ?h3 ?h4 ?h5 (epsR ?h)
  (case hf => intro _; k_is)
  (case hc => intro _; k_is)
  (case hb => intro _; exact BindsTo.of_eq rfl)
  (case hl => exact locs rfl)
  (case h2 => exact rfl)
  (case h3 => exact rfl)
  (case h4 => exact rfl)
  (case h5 => decide)
  intro ok
  conv => whnf
  intro _
  conv => whnf
  refine ⟨_, _, poke_v hne hi hz, Nat.le_of_ble_eq_true rfl, ?_⟩
  rintro _ _ ⟨_, ⟨rfl, _, rfl, hi'⟩, rfl⟩
  exact ⟨_, ⟨rfl, _, rfl, hi'⟩, rfl⟩

theorem set_current_v {rest : Led} {l : Addr} {vs : List Value} {k : Nat} {ns : List Int} {i : Int} {tk : Tok} {x : Int} {tk2 : Tok} (hne : ∀ p ∈ rest, p.1 ≠ l) (hi : IntsAre vs ns) (hz : Sz ns) :
    Sp 172 2 ((l, listOf vs.toArray k) :: rest) [.ref l, .int i tk, .int x tk2] (UpdPost l k (fun o => (l, o) :: rest) (wr ns (i + 32) (x % 256))) :=
  set_current_v_c { rest := rest, l := l, vs := vs, k := k, ns := ns, i := i, tk := tk, x := x, tk2 := tk2 } hne hi hz

noncomputable def set_extent_v_P (m : Pm) : Prop := (∀ p ∈ m.rest, p.1 ≠ m.l) → (IntsAre m.vs m.ns) → (Sz m.ns) → Sp 130 2 ((m.l, listOf m.vs.toArray m.k) :: m.rest) [.ref m.l, .int m.i m.tk, .int m.x m.tk2] (UpdPost m.l m.k (fun o => (m.l, o) :: m.rest) (wr (wr m.ns (m.i + 12) (m.x % 32)) (m.i + 14) (m.x / 32 % 64 + 128)))
set_option maxHeartbeats 4000000 in
theorem set_extent_v_c : ∀ m : Pm, set_extent_v_P m := by
  refine eps ?_
  intro hne hi hz
  refine' sp_enter [Str.ofString "memory", Str.ofString "at", Str.ofString "extent"] ?hf ?hc ?hb ?hl ?h2 ?h3 ?h4 ?h5 (epsR ?h)
  (case hf => intro _; k_is)
  (case hc => intro _; k_is)
  (case hb => intro _; exact BindsTo.of_eq rfl)
  (case hl => exact locs rfl)
  (case h2 => exact rfl)
  (case h3 => exact rfl)
  (case h4 => exact rfl)
  (case h5 => decide)
  intro ok
  conv => whnf
  intro _
  conv => whnf
  refine ⟨by decide, ?_⟩
  intro _
  conv => whnf
  refine ⟨_, _, poke_v hne hi hz, Nat.le_of_ble_eq_true rfl, ?_⟩
  rintro _ _ ⟨_, ⟨rfl, _, rfl, hi'⟩, rfl⟩
  conv => whnf
  intro _
  conv => whnf
  refine ⟨by decide, by decide, ?_⟩
  intro _
  conv => whnf
  intro _
  conv => whnf
  intro _
  conv => whnf
  intro _
  conv => whnf
  refine ⟨_, _, poke_v hne hi' (hz.wr _ _), Nat.le_of_ble_eq_true rfl, ?_⟩
  rintro _ _ ⟨_, ⟨rfl, _, rfl, hi2⟩, rfl⟩
  exact ⟨_, ⟨rfl, _, rfl, conv hi2 (by rw [bitAnd_m6, mod32, ext_eq])⟩, rfl⟩

theorem set_extent_v {rest : Led} {l : Addr} {vs : List Value} {k : Nat} {ns : List Int} {i : Int} {tk : Tok} {x : Int} {tk2 : Tok} (hne : ∀ p ∈ rest, p.1 ≠ l) (hi : IntsAre vs ns) (hz : Sz ns) :
    Sp 130 2 ((l, listOf vs.toArray k) :: rest) [.ref l, .int i tk, .int x tk2] (UpdPost l k (fun o => (l, o) :: rest) (wr (wr ns (i + 12) (x % 32)) (i + 14) (x / 32 % 64 + 128))) :=
  set_extent_v_c { rest := rest, l := l, vs := vs, k := k, ns := ns, i := i, tk := tk, x := x, tk2 := tk2 } hne hi hz

noncomputable def mark_changed_v_P (m : Pm) : Prop := (∀ p ∈ m.rest, p.1 ≠ m.l) → (IntsAre m.vs m.ns) → (Sz m.ns) → Sp 144 2 ((m.l, listOf m.vs.toArray m.k) :: m.rest) [.ref m.l, .int m.i m.tk, .bool m.q] (UpdPost m.l m.k (fun o => (m.l, o) :: m.rest) (wr m.ns (m.i + 14) (rd m.ns (m.i + 14) % 128 + (if m.q then 0 else 128))))
set_option maxHeartbeats 4000000 in
theorem mark_changed_v_c : ∀ m : Pm, mark_changed_v_P m := by
  refine eps ?_
  intro hne hi hz
  refine' sp_enter [Str.ofString "memory", Str.ofString "at", Str.ofString "is_now"] ?hf ?hc ?hb ?hl ?h2 ?h3 ?h4 ?h5 (epsR ?h)
  (case hf => intro _; k_is)
  (case hc => intro _; k_is)
  (case hb => intro _; exact BindsTo.of_eq rfl)
  (case hl => exact locs rfl)
  (case h2 => exact rfl)
  (case h3 => exact rfl)
  (case h4 => exact rfl)
  (case h5 => decide)
  intro ok
  conv => whnf
  intro _
  conv => whnf
  refine ⟨_, _, peek_v (.head _) hi hz, Nat.le_of_ble_eq_true rfl, ?_⟩
  rintro _ _ ⟨rfl, _, rfl⟩
  conv => whnf
  intro _
  conv => whnf
  intro _
  conv => whnf
  intro _
  conv => whnf
  generalize hq : Pm.q _ = q
  cases q
  · conv => whnf
    intro _
    conv => whnf
    refine ⟨_, _, poke_v hne hi hz, Nat.le_of_ble_eq_true rfl, ?_⟩
    rintro _ _ ⟨_, ⟨rfl, _, rfl, hi'⟩, rfl⟩
    exact ⟨_, ⟨rfl, _, rfl, conv hi' (by rw [bitAnd_m7]; exact congrArg _ (mark_eq2 _))⟩, rfl⟩
  · conv => whnf
    refine ⟨_, _, poke_v hne hi hz, Nat.le_of_ble_eq_true rfl, ?_⟩
    rintro _ _ ⟨_, ⟨rfl, _, rfl, hi'⟩, rfl⟩
    exact ⟨_, ⟨rfl, _, rfl, conv hi' (by rw [bitAnd_m7]; exact congrArg _ (mark_eq1 _))⟩, rfl⟩

theorem mark_changed_v {rest : Led} {l : Addr} {vs : List Value} {k : Nat} {ns : List Int} {i : Int} {tk : Tok} {q : Bool} (hne : ∀ p ∈ rest, p.1 ≠ l) (hi : IntsAre vs ns) (hz : Sz ns) :
    Sp 144 2 ((l, listOf vs.toArray k) :: rest) [.ref l, .int i tk, .bool q] (UpdPost l k (fun o => (l, o) :: rest) (wr ns (i + 14) (rd ns (i + 14) % 128 + (if q then 0 else 128)))) :=
  mark_changed_v_c { rest := rest, l := l, vs := vs, k := k, ns := ns, i := i, tk := tk, q := q } hne hi hz
-- W3

noncomputable def put_octets_v_P (m : Pm) : Prop := (∀ p ∈ m.rest, p.1 ≠ m.l) → (IntsAre m.vs m.ns) → ((m.rl, listOf m.rvs.toArray m.rk) ∈ m.rest) → (IntsAre m.rvs m.row) → (Sz m.ns) → Sp 102 2 ((m.l, listOf m.vs.toArray m.k) :: m.rest) [.ref m.l, .int m.i m.tk, .ref m.rl] (UpdPost m.l m.k (fun o => (m.l, o) :: m.rest) (put m.ns m.i (m.row.map (· % 256))))
set_option maxHeartbeats 4000000 in
theorem put_octets_v_c : ∀ m : Pm, put_octets_v_P m := by
  refine eps ?_
  intro hne hi hr hri hz
  refine' sp_enter [Str.ofString "memory", Str.ofString "at", Str.ofString "octets"] ?hf ?hc ?hb ?hl ?h2 ?h3 ?h4 ?h5 (epsR ?h)
  (case hf => intro _; k_is)
  (case hc => intro _; k_is)
  (case hb => intro _; exact BindsTo.of_eq rfl)
  (case hl => exact locs rfl)
  (case h2 => exact rfl)
  (case h3 => exact rfl)
  (case h4 => exact rfl)
  (case h5 => decide)
  intro ok
  conv => whnf
  refine v_enum ok rfl (fun j nw => ∃ vs', IntsAre vs' (put (pick put_octets_v_P).ns (pick put_octets_v_P).i (((pick put_octets_v_P).row.take j).map (· % 256))) ∧ nw = ((pick put_octets_v_P).l, listOf vs'.toArray (pick put_octets_v_P).k) :: (pick put_octets_v_P).rest) rfl rfl ⟨rfl, rfl⟩ ⟨rfl, rfl⟩ (.tail _ hr) hri ⟨_, hi, rfl⟩ ?_ ?_ ?_
  · rintro j nw ⟨vs', _, rfl⟩
    exact ⟨.tail _ hr, rfl⟩
  · rintro j q t tt I o1 o2 _ hq ⟨vs', hi', rfl⟩ hI
    conv => whnf
    intro _
    conv => whnf
    intro _
    conv => whnf
    intro _
    conv => whnf
    have hI1 : (pick put_octets_v_P).l < I := hI _ (.head _)
    refine ⟨_, _, sp_of_head (.tail (Nat.ne_of_gt (Nat.lt_succ_of_lt hI1)) (.tail (Nat.ne_of_gt hI1) (.head hne))) fun rest' hne' _ => poke_v hne' hi' (hz.put _ _), Nat.le_of_ble_eq_true rfl, ?_⟩
    rintro _ _ ⟨_, ⟨rfl, _, rfl, hi2⟩, rfl⟩
    exact ⟨rfl, ⟨_, _, rfl⟩, _, fun _ hp => hp, _, conv hi2 (by rw [bitAnd_m16, wr_mod (hz.put _ _), put_snoc hq]), rfl⟩
  · rintro u1 u2 _ ⟨vs', hi', rfl⟩
    rw [List.take_length] at hi'
    exact ⟨_, ⟨rfl, _, rfl, hi'⟩, rfl⟩

theorem put_octets_v {rest : Led} {l : Addr} {vs : List Value} {k : Nat} {ns : List Int} {i : Int} {tk : Tok} {rl : Addr} {rvs : List Value} {rk : Nat} {row : List Int} (hne : ∀ p ∈ rest, p.1 ≠ l) (hi : IntsAre vs ns) (hr : (rl, listOf rvs.toArray rk) ∈ rest) (hri : IntsAre rvs row) (hz : Sz ns) :
    Sp 102 2 ((l, listOf vs.toArray k) :: rest) [.ref l, .int i tk, .ref rl] (UpdPost l k (fun o => (l, o) :: rest) (put ns i (row.map (· % 256)))) :=
  put_octets_v_c { rest := rest, l := l, vs := vs, k := k, ns := ns, i := i, tk := tk, rl := rl, rvs := rvs, rk := rk, row := row } hne hi hr hri hz
-- W4

noncomputable def octets_at_v_P (m : Pm) : Prop := ((m.l, listOf m.vs.toArray m.k) ∈ m.news) → (IntsAre m.vs m.ns) → (Sz m.ns) → (m.n ≤ 100) → Sp 95 2 m.news [.ref m.l, .int m.i m.tk, .int (m.n : Nat) m.tk2] (NewPost m.news (got m.ns m.i m.n))
set_option maxHeartbeats 4000000 in
theorem octets_at_v_c : ∀ m : Pm, octets_at_v_P m := by
  refine eps ?_
  intro hl hi hz hn
  refine' sp_enterC [Str.ofString "memory", Str.ofString "at", Str.ofString "many"] ?hf ?hc ?hb ?hl ?h2 ?h3 ?h4 ?h5 (epsR ?h)
  (case hf => intro _; k_is)
  (case hc => intro _; k_is)
  (case hb => intro _; exact BindsTo.of_eq rfl)
  (case hl => exact rfl)
  (case h2 => exact rfl)
  (case h3 => exact rfl)
  (case h4 => exact rfl)
  (case h5 => decide)
  intro ok cells Y l1
  obtain ⟨o1, o2, rfl, d1, d2⟩ := CellsAre.two Y
  conv => whnf
  refine v_comp ok (n := (pick octets_at_v_P).n) (fun k => rd (pick octets_at_v_P).ns (((pick octets_at_v_P).i + k) % 65536)) ⟨rfl, rfl⟩ rfl ⟨⟨_, rfl⟩, rfl⟩ (Nat.le_trans hn (by decide)) rfl (by decide) rfl (by decide) rfl rfl ?_ ?_
  · intro k t I oI C oC D ys k0 k1 off ne
    conv => whnf
    refine ⟨_, _, _, rfl, .tail _ (.tail _ (.tail _ (.tail _ (.head _)))), d2, ?_⟩
    conv => whnf
    refine ⟨_, _, _, rfl, .tail _ (.tail _ (.tail _ (.head _))), d1, ?_⟩
    conv => whnf
    refine ⟨rfl, .tail _ (.head _), ?_⟩
    conv => whnf
    intro _
    conv => whnf
    intro _
    conv => whnf
    intro _
    conv => whnf
    refine ⟨_, _, peek_v (.tail _ (.tail _ (.tail _ (.tail _ (.tail _ (hl)))))) hi hz, Nat.le_of_ble_eq_true rfl, ?_⟩
    rintro _ _ ⟨rfl, _, rfl⟩
    exact ⟨rfl, _, by rw [bitAnd_m16]⟩
  · intro D ys hy o
    exact ⟨(D, LCg.lst ys) :: (pick octets_at_v_P).news, List.forall_mem_cons.mpr ⟨.head _, fun _ hp => .tail _ (.tail _ (.tail _ hp))⟩, NewPost.lst hy (got_eqn hz _ _) o.2.2⟩

theorem octets_at_v {news : Led} {l : Addr} {vs : List Value} {k : Nat} {ns : List Int} {i : Int} {tk : Tok} {n : Nat} {tk2 : Tok} (hl : (l, listOf vs.toArray k) ∈ news) (hi : IntsAre vs ns) (hz : Sz ns) (hn : n ≤ 100) :
    Sp 95 2 news [.ref l, .int i tk, .int (n : Nat) tk2] (NewPost news (got ns i n)) :=
  octets_at_v_c { news := news, l := l, vs := vs, k := k, ns := ns, i := i, tk := tk, n := n, tk2 := tk2 } hl hi hz hn

noncomputable def law_got_v_P (m : Pm) : Prop := ((m.l, listOf m.vs.toArray m.k) ∈ m.news) → (IntsAre m.vs m.ns) → (Sz m.ns) → (m.n ≤ 100) → Sp 245 1 m.news [.ref m.l, .int m.i m.tk, .int (m.n : Nat) m.tk2] (NewPost m.news (got m.ns m.i m.n))
set_option maxHeartbeats 4000000 in
theorem law_got_v_c : ∀ m : Pm, law_got_v_P m := by
  refine eps ?_
  intro hl hi hz hn
  refine' sp_enterC [Str.ofString "octets", Str.ofString "at", Str.ofString "many"] ?hf ?hc ?hb ?hl ?h2 ?h3 ?h4 ?h5 (epsR ?h)
  (case hf => intro _; k_is)
  (case hc => intro _; k_is)
  (case hb => intro _; exact BindsTo.of_eq rfl)
  (case hl => exact rfl)
  (case h2 => exact rfl)
  (case h3 => exact rfl)
  (case h4 => exact rfl)
  (case h5 => decide)
  intro ok cells Y l1
  obtain ⟨o1, o2, rfl, d1, d2⟩ := CellsAre.two Y
  conv => whnf
  refine v_comp ok (n := (pick law_got_v_P).n) (fun k => (pick law_got_v_P).ns.getD (((pick law_got_v_P).i + k) % ((pick law_got_v_P).ns.length : Int)).toNat 0) ⟨rfl, rfl⟩ rfl ⟨⟨_, rfl⟩, rfl⟩ (Nat.le_trans hn (by decide)) rfl (by decide) rfl (by decide) rfl rfl ?_ ?_
  · intro k t I oI C oC D ys k0 k1 off ne
    conv => whnf
    refine ⟨_, _, _, rfl, .tail _ (.tail _ (.tail _ (.tail _ (.head _)))), d2, ?_⟩
    conv => whnf
    refine ⟨_, _, _, rfl, .tail _ (.tail _ (.tail _ (.head _))), d1, ?_⟩
    conv => whnf
    refine ⟨rfl, .tail _ (.head _), ?_⟩
    conv => whnf
    intro _
    conv => whnf
    refine ⟨_, _, _, rfl, .tail _ (.tail _ (.tail _ (.tail _ (.head _)))), d2, ?_⟩
    conv => whnf
    refine v_len (.tail _ (.tail _ (.tail _ (.tail _ (.tail _ (hl)))))) hi hz.fit fun t2 => ?_
    conv => whnf
    refine ⟨hz.posI, fun t3 => ?_⟩
    conv => whnf
    exact v_sub (.tail _ (.tail _ (.tail _ (.tail _ (.tail _ (hl)))))) hi (hz.ix0 _) (hz.ix1 _) (hz.ix2 _) fun t4 => ⟨rfl, _, rfl⟩
  · intro D ys hy o
    exact ⟨(D, LCg.lst ys) :: (pick law_got_v_P).news, List.forall_mem_cons.mpr ⟨.head _, fun _ hp => .tail _ (.tail _ (.tail _ hp))⟩, NewPost.lst hy (got_eqn2 _ _ _) o.2.2⟩

theorem law_got_v {news : Led} {l : Addr} {vs : List Value} {k : Nat} {ns : List Int} {i : Int} {tk : Tok} {n : Nat} {tk2 : Tok} (hl : (l, listOf vs.toArray k) ∈ news) (hi : IntsAre vs ns) (hz : Sz ns) (hn : n ≤ 100) :
    Sp 245 1 news [.ref l, .int i tk, .int (n : Nat) tk2] (NewPost news (got ns i n)) :=
  law_got_v_c { news := news, l := l, vs := vs, k := k, ns := ns, i := i, tk := tk, n := n, tk2 := tk2 } hl hi hz hn
-- W5

noncomputable def name_at_v_P (m : Pm) : Prop := ((m.l, listOf m.vs.toArray m.k) ∈ m.news) → (IntsAre m.vs m.ns) → (Sz m.ns) → Sp 109 3 m.news [.ref m.l, .int m.i m.tk] (NewPost m.news (got m.ns (m.i + 1) 11))
set_option maxHeartbeats 4000000 in
theorem name_at_v_c : ∀ m : Pm, name_at_v_P m := by
  refine eps ?_
  intro hl hi hz
  refine' sp_enter [Str.ofString "memory", Str.ofString "at"] ?hf ?hc ?hb ?hl ?h2 ?h3 ?h4 ?h5 (epsR ?h)
  (case hf => intro _; k_is)
  (case hc => intro _; k_is)
  (case hb => intro _; exact BindsTo.of_eq rfl)
  (case hl => exact locs rfl)
  (case h2 => exact rfl)
  (case h3 => exact rfl)
  (case h4 => exact rfl)
  (case h5 => decide)
  intro ok
  conv => whnf
  intro _
  conv => whnf
  intro _
  conv => whnf
  refine ⟨_, _, octets_at_v (n := 11) hl hi hz (by decide), Nat.le_of_ble_eq_true rfl, ?_⟩
  rintro _ _ hp
  exact hp

theorem name_at_v {news : Led} {l : Addr} {vs : List Value} {k : Nat} {ns : List Int} {i : Int} {tk : Tok} (hl : (l, listOf vs.toArray k) ∈ news) (hi : IntsAre vs ns) (hz : Sz ns) :
    Sp 109 3 news [.ref l, .int i tk] (NewPost news (got ns (i + 1) 11)) :=
  name_at_v_c { news := news, l := l, vs := vs, k := k, ns := ns, i := i, tk := tk } hl hi hz

noncomputable def second_name_at_v_P (m : Pm) : Prop := ((m.l, listOf m.vs.toArray m.k) ∈ m.news) → (IntsAre m.vs m.ns) → (Sz m.ns) → Sp 116 3 m.news [.ref m.l, .int m.i m.tk] (NewPost m.news (got m.ns (m.i + 17) 11))
set_option maxHeartbeats 4000000 in
theorem second_name_at_v_c : ∀ m : Pm, second_name_at_v_P m := by
  refine eps ?_
  intro hl hi hz
  refine' sp_enter [Str.ofString "memory", Str.ofString "at"] ?hf ?hc ?hb ?hl ?h2 ?h3 ?h4 ?h5 (epsR ?h)
  (case hf => intro _; k_is)
  (case hc => intro _; k_is)
  (case hb => intro _; exact BindsTo.of_eq rfl)
  (case hl => exact locs rfl)
  (case h2 => exact rfl)
  (case h3 => exact rfl)
  (case h4 => exact rfl)
  (case h5 => decide)
  intro ok
  conv => whnf
  intro _
  conv => whnf
  intro _
  conv => whnf
  intro _
  conv => whnf
  refine ⟨_, _, octets_at_v (n := 11) hl hi hz (by decide), Nat.le_of_ble_eq_true rfl, ?_⟩
  rintro _ _ hp
  rw [show (pick second_name_at_v_P).i + 16 + 1 = (pick second_name_at_v_P).i + 17 from Int.add_assoc _ 16 1] at hp
  exact hp

theorem second_name_at_v {news : Led} {l : Addr} {vs : List Value} {k : Nat} {ns : List Int} {i : Int} {tk : Tok} (hl : (l, listOf vs.toArray k) ∈ news) (hi : IntsAre vs ns) (hz : Sz ns) :
    Sp 116 3 news [.ref l, .int i tk] (NewPost news (got ns (i + 17) 11)) :=
  second_name_at_v_c { news := news, l := l, vs := vs, k := k, ns := ns, i := i, tk := tk } hl hi hz

noncomputable def random_at_v_P (m : Pm) : Prop := ((m.l, listOf m.vs.toArray m.k) ∈ m.news) → (IntsAre m.vs m.ns) → (Sz m.ns) → Sp 207 3 m.news [.ref m.l, .int m.i m.tk] (fun r news' => news' = m.news ∧ ∃ t, r = .int (rd m.ns (m.i + 33) + 256 * rd m.ns (m.i + 34) + 65536 * rd m.ns (m.i + 35)) t)
set_option maxHeartbeats 4000000 in
theorem random_at_v_c : ∀ m : Pm, random_at_v_P m := by
  refine eps ?_
  intro hl hi hz
  refine sp_drop ?_
  refine' sp_enter [Str.ofString "memory", Str.ofString "at"] ?hf ?hc ?hb ?hl ?h2 ?h3 ?h4 ?h5 (epsR ?h)
  (case hf => intro _; k_is)
  (case hc => intro _; k_is)
  (case hb => intro _; exact BindsTo.of_eq rfl)
  (case hl => exact locs rfl)
  (case h2 => exact rfl)
  (case h3 => exact rfl)
  (case h4 => exact rfl)
  (case h5 => decide)
  intro ok
  conv => whnf
  refine v_assign3 ok rfl rfl rfl rfl rfl ?_
  conv => whnf
  intro _
  conv => whnf
  intro _
  conv => whnf
  refine ⟨_, _, octets_at_v (n := 3) hl hi hz (by decide), Nat.le_of_ble_eq_true rfl, ?_⟩
  rintro _ _ hp
  obtain ⟨l', vs', k', rfl, hi', _, rfl⟩ := hp
  obtain ⟨ta, tb, tc, rfl⟩ := got3 hi'
  refine ⟨l', _, _, _, k', rfl, .head _, ?_⟩
  conv => whnf
  intro _
  conv => whnf
  refine ⟨mul_l (by decide) (by decide), ?_⟩
  intro _
  conv => whnf
  intro _
  conv => whnf
  intro _
  conv => whnf
  refine ⟨mul_l (by decide) (by decide), ?_⟩
  intro _
  conv => whnf
  intro _
  conv => whnf
  exact ⟨_, fun _ hp => .tail _ hp, rfl, _, congrArg (fun z => Value.int z _) (by rw [Int.add_assoc (pick random_at_v_P).i 33 1, Int.add_assoc (pick random_at_v_P).i 33 2]; rfl)⟩

theorem random_at_v {news : Led} {l : Addr} {vs : List Value} {k : Nat} {ns : List Int} {i : Int} {tk : Tok} (hl : (l, listOf vs.toArray k) ∈ news) (hi : IntsAre vs ns) (hz : Sz ns) :
    Sp 207 3 news [.ref l, .int i tk] (fun r news' => news' = news ∧ ∃ t, r = .int (rd ns (i + 33) + 256 * rd ns (i + 34) + 65536 * rd ns (i + 35)) t) :=
  random_at_v_c { news := news, l := l, vs := vs, k := k, ns := ns, i := i, tk := tk } hl hi hz

noncomputable def map_slots_v_P (m : Pm) : Prop := ((m.dk, instObj 67 m.dd) ∈ m.news) → ((m.dd, dictOf m.es m.dn) ∈ m.news) → (getL (Str.ofString "blocks") m.es = some (some (.int m.b m.u))) → Sp 78 1 m.news [.ref m.dk] (fun r news' => news' = m.news ∧ ∃ t, r = .int (if m.b ≤ 256 then 16 else 8) t)
set_option maxHeartbeats 4000000 in
theorem map_slots_v_c : ∀ m : Pm, map_slots_v_P m := by
  refine eps ?_
  intro hdk hdd hbl
  refine' sp_enter [Str.ofString "disk"] ?hf ?hc ?hb ?hl ?h2 ?h3 ?h4 ?h5 (epsR ?h)
  (case hf => intro _; k_is)
  (case hc => intro _; k_is)
  (case hb => intro _; exact BindsTo.of_eq rfl)
  (case hl => exact locs rfl)
  (case h2 => exact rfl)
  (case h3 => exact rfl)
  (case h4 => exact rfl)
  (case h5 => decide)
  intro ok
  conv => whnf
  refine v_blocks ok hdk hdd hbl ?_
  conv => whnf
  intro _
  conv => whnf
  generalize hq : decide ((pick map_slots_v_P).b ≤ 256) = q
  cases q
  · conv => whnf
    intro t
    exact ⟨rfl, _, congrArg (fun z => Value.int z _) (if_neg (of_decide_eq_false hq)).symm⟩
  · conv => whnf
    intro t
    exact ⟨rfl, _, congrArg (fun z => Value.int z _) (if_pos (of_decide_eq_true hq)).symm⟩

theorem map_slots_v {news : Led} {dk : Addr} {dd : Addr} {es : List DictEntry} {dn : Nat} {b : Int} {u : Tok} (hdk : (dk, instObj 67 dd) ∈ news) (hdd : (dd, dictOf es dn) ∈ news) (hbl : getL (Str.ofString "blocks") es = some (some (.int b u))) :
    Sp 78 1 news [.ref dk] (fun r news' => news' = news ∧ ∃ t, r = .int (if b ≤ 256 then 16 else 8) t) :=
  map_slots_v_c { news := news, dk := dk, dd := dd, es := es, dn := dn, b := b, u := u } hdk hdd hbl
-- W6

noncomputable def law_pairs_v_P (m : Pm) : Prop := ((m.l, listOf m.vs.toArray m.k) ∈ m.news) → (IntsAre m.vs m.ns) → (m.ns.length = 16) → Sp 250 1 m.news [.ref m.l] (NewPost m.news (prs m.ns))
set_option maxHeartbeats 4000000 in
theorem law_pairs_v_c : ∀ m : Pm, law_pairs_v_P m := by
  refine eps ?_
  intro hl hi hn
  refine' sp_enterC [Str.ofString "row"] ?hf ?hc ?hb ?hl ?h2 ?h3 ?h4 ?h5 (epsR ?h)
  (case hf => intro _; k_is)
  (case hc => intro _; k_is)
  (case hb => intro _; exact BindsTo.of_eq rfl)
  (case hl => exact rfl)
  (case h2 => exact rfl)
  (case h3 => exact rfl)
  (case h4 => exact rfl)
  (case h5 => decide)
  intro ok cells Y l1
  obtain ⟨o1, rfl, d1⟩ := CellsAre.one Y
  conv => whnf
  refine v_compS ok (lo := 0) (hi := 16) (st := 2) [0, 2, 4, 6, 8, 10, 12, 14] (fun k => (pick law_pairs_v_P).ns.getD k.toNat 0 + 256 * (pick law_pairs_v_P).ns.getD (k + 1).toNat 0) ⟨rfl, rfl⟩ rfl (fun t => ⟨⟨_, rfl⟩, rfl⟩) ?_ (fun t => ⟨⟨_, rfl⟩, rfl⟩) (by decide) (PyProof.noPylong_of_log2 (by decide +kernel)) (by decide) (by decide) (by decide) (by decide) rfl (by decide) rfl (by decide) rfl rfl ?_ ?_
  · conv => whnf
    refine ⟨_, _, _, rfl, .head _, d1, ?_⟩
    conv => whnf
    exact v_len (.tail _ hl) hi (by rw [hn]; decide) fun t => ⟨⟨_, by rw [hn]; rfl⟩, rfl⟩
  · intro k t I oI C oC D ys hk off ne
    have hk0 : (0 : Int) ≤ k ∧ k < 15 := (show ∀ k ∈ ([0, 2, 4, 6, 8, 10, 12, 14] : List Int), (0 : Int) ≤ k ∧ k < 15 from by decide) k hk
    obtain ⟨k0, k1⟩ := hk0
    conv => whnf
    refine ⟨_, _, _, rfl, .tail _ (.tail _ (.tail _ (.head _))), d1, ?_⟩
    conv => whnf
    refine ⟨rfl, .tail _ (.head _), ?_⟩
    conv => whnf
    refine v_sub (.tail _ (.tail _ (.tail _ (.tail _ (hl))))) hi (by omega) (by rw [hn]; omega) (by omega) fun t2 => ?_
    conv => whnf
    intro _
    conv => whnf
    refine ⟨_, _, _, rfl, .tail _ (.tail _ (.tail _ (.head _))), d1, ?_⟩
    conv => whnf
    refine ⟨rfl, .tail _ (.head _), ?_⟩
    conv => whnf
    intro _
    conv => whnf
    intro _
    conv => whnf
    refine v_sub (.tail _ (.tail _ (.tail _ (.tail _ (hl))))) hi (by omega) (by rw [hn]; omega) (by omega) fun t3 => ?_
    conv => whnf
    refine ⟨mul_l (by decide) (by decide), ?_⟩
    intro _
    conv => whnf
    intro _
    conv => whnf
    exact ⟨rfl, _, rfl⟩
  · intro D ys hy o
    exact ⟨(D, LCg.lst ys) :: (pick law_pairs_v_P).news, List.forall_mem_cons.mpr ⟨.head _, fun _ hp => .tail _ (.tail _ hp)⟩, NewPost.lst hy (by rfl) o.2⟩

theorem law_pairs_v {news : Led} {l : Addr} {vs : List Value} {k : Nat} {ns : List Int} (hl : (l, listOf vs.toArray k) ∈ news) (hi : IntsAre vs ns) (hn : ns.length = 16) :
    Sp 250 1 news [.ref l] (NewPost news (prs ns)) :=
  law_pairs_v_c { news := news, l := l, vs := vs, k := k, ns := ns } hl hi hn
-- W7

noncomputable def law_put_v_P (m : Pm) : Prop := ((m.l, listOf m.vs.toArray m.k) ∈ m.news) → (IntsAre m.vs m.ns) → ((m.rl, listOf m.rvs.toArray m.rk) ∈ m.news) → (IntsAre m.rvs m.row) → (Sz m.ns) → Sp 240 1 m.news [.ref m.l, .int m.i m.tk, .ref m.rl] (NewPost m.news (put m.ns m.i m.row))
set_option maxHeartbeats 4000000 in
theorem law_put_v_c : ∀ m : Pm, law_put_v_P m := by
  refine eps ?_
  intro hl hi hr hri hz
  refine' sp_enter [Str.ofString "octets", Str.ofString "at", Str.ofString "row"] ?hf ?hc ?hb ?hl ?h2 ?h3 ?h4 ?h5 (epsR ?h)
  (case hf => intro _; k_is)
  (case hc => intro _; k_is)
  (case hb => intro _; exact BindsTo.of_eq rfl)
  (case hl => exact locs rfl)
  (case h2 => exact rfl)
  (case h3 => exact rfl)
  (case h4 => exact rfl)
  (case h5 => decide)
  intro ok
  conv => whnf
  refine v_copy hl hi hz.le' fun D c' l1 => ?_
  conv => whnf
  refine v_enum ok rfl (fun j nw => ∃ vs', IntsAre vs' (put (pick law_put_v_P).ns (pick law_put_v_P).i ((pick law_put_v_P).row.take j)) ∧ nw = (D, listOf vs'.toArray c') :: (pick law_put_v_P).news) rfl rfl ⟨rfl, rfl⟩ ⟨rfl, rfl⟩ (.tail _ hr) hri ⟨_, hi, rfl⟩ ?_ ?_ ?_
  · rintro j nw ⟨vs', _, rfl⟩
    exact ⟨.tail _ hr, rfl⟩
  · rintro j q t tt I o1 o2 _ hq ⟨vs', hi', rfl⟩ hI
    conv => whnf
    intro _
    conv => whnf
    refine v_len (.tail _ (.tail _ (.tail _ hl))) hi hz.fit fun t2 => ?_
    conv => whnf
    refine ⟨hz.posI, fun t3 => ?_⟩
    conv => whnf
    have hI1 : D < I := hI _ (.head _)
    refine v_set (.tail (Nat.ne_of_gt (Nat.lt_succ_of_lt hI1)) (.tail (Nat.ne_of_gt hI1) (.head fun p hp => Nat.ne_of_lt (l1 p hp)))) hi' (hz.ix0 _) (by rw [put_length]; exact hz.ix1 _) (hz.ix2 _) fun hi2 => ?_
    exact ⟨rfl, ⟨_, _, rfl⟩, _, fun _ hp => hp, _, conv hi2 (by rw [put_snoc0 hq]; exact wr_as (put_length _ _ _)), rfl⟩
  · rintro u1 u2 _ ⟨vs', hi', rfl⟩
    rw [List.take_length] at hi'
    conv => whnf
    exact NewPost.of hi' rfl (off1_of l1)

theorem law_put_v {news : Led} {l : Addr} {vs : List Value} {k : Nat} {ns : List Int} {i : Int} {tk : Tok} {rl : Addr} {rvs : List Value} {rk : Nat} {row : List Int} (hl : (l, listOf vs.toArray k) ∈ news) (hi : IntsAre vs ns) (hr : (rl, listOf rvs.toArray rk) ∈ news) (hri : IntsAre rvs row) (hz : Sz ns) :
    Sp 240 1 news [.ref l, .int i tk, .ref rl] (NewPost news (put ns i row)) :=
  law_put_v_c { news := news, l := l, vs := vs, k := k, ns := ns, i := i, tk := tk, rl := rl, rvs := rvs, rk := rk, row := row } hl hi hr hri hz
-- W8

noncomputable def map_of_v_P (m : Pm) : Prop := ((m.dk, instObj 67 m.dd) ∈ m.news) → ((m.dd, dictOf m.es m.dn) ∈ m.news) → (getL (Str.ofString "blocks") m.es = some (some (.int m.b m.u))) → ((m.l, listOf m.vs.toArray m.k) ∈ m.news) → (IntsAre m.vs m.ns) → (m.ns.length = 32) → Sp 83 2 m.news [.ref m.dk, .ref m.l] (NewPost m.news (mapv m.b (m.ns.drop 16)))
set_option maxHeartbeats 4000000 in
theorem map_of_v_c : ∀ m : Pm, map_of_v_P m := by
  refine eps ?_
  intro hdk hdd hbl hl hi hn
  refine' sp_enterC [Str.ofString "disk", Str.ofString "octets"] ?hf ?hc ?hb ?hl ?h2 ?h3 ?h4 ?h5 (epsR ?h)
  (case hf => intro _; k_is)
  (case hc => intro _; k_is)
  (case hb => intro _; exact BindsTo.of_eq rfl)
  (case hl => exact rfl)
  (case h2 => exact rfl)
  (case h3 => exact rfl)
  (case h4 => exact rfl)
  (case h5 => decide)
  intro ok cells Y l1
  obtain ⟨o1, rfl, d1⟩ := CellsAre.one Y
  conv => whnf
  refine ⟨_, _, map_slots_v (.tail _ (hdk)) (.tail _ (hdd)) hbl, Nat.le_of_ble_eq_true rfl, ?_⟩
  rintro _ _ ⟨rfl, _, rfl⟩
  by_cases hb : (pick map_of_v_P).b ≤ 256
  · rw [if_pos hb]
    conv => whnf
    intro _
    conv => whnf
    refine v_slice ok ⟨_, _, _, rfl, .head _, d1, rfl, rfl⟩ ⟨⟨_, rfl⟩, rfl⟩ ⟨⟨_, rfl⟩, rfl⟩ (.tail _ hl) hi (by decide) (by decide) (by rw [hn]; decide) fun D ws hw o => ?_
    exact ⟨(D, listOf ws.toArray 0) :: (pick map_of_v_P).news, List.forall_mem_cons.mpr ⟨.head _, fun _ hp => .tail _ (.tail _ hp)⟩, NewPost.of hw (by rw [mapv_s hb]; exact take16 hn) o.2⟩
  · rw [if_neg hb]
    conv => whnf
    intro _
    conv => whnf
    refine v_compS ok (lo := 16) (hi := 32) (st := 2) [16, 18, 20, 22, 24, 26, 28, 30] (fun k => (pick map_of_v_P).ns.getD k.toNat 0 + 256 * (pick map_of_v_P).ns.getD (k + 1).toNat 0) ⟨rfl, rfl⟩ rfl ⟨⟨_, rfl⟩, rfl⟩ ⟨⟨_, rfl⟩, rfl⟩ (fun t => ⟨⟨_, rfl⟩, rfl⟩) (by decide) (PyProof.noPylong_of_log2 (by decide +kernel)) (by decide) (by decide) (by decide) (by decide) rfl (by decide) rfl (by decide) rfl rfl ?_ ?_
    · intro k t I oI C oC D ys hk off ne
      have hk0 : (16 : Int) ≤ k ∧ k < 31 := (show ∀ k ∈ ([16, 18, 20, 22, 24, 26, 28, 30] : List Int), (16 : Int) ≤ k ∧ k < 31 from by decide) k hk
      obtain ⟨k0, k1⟩ := hk0
      conv => whnf
      refine ⟨_, _, _, rfl, .tail _ (.tail _ (.tail _ (.head _))), d1, ?_⟩
      conv => whnf
      refine ⟨rfl, .tail _ (.head _), ?_⟩
      conv => whnf
      refine v_sub (.tail _ (.tail _ (.tail _ (.tail _ (hl))))) hi (by omega) (by rw [hn]; omega) (by omega) fun t2 => ?_
      conv => whnf
      intro _
      conv => whnf
      refine ⟨_, _, _, rfl, .tail _ (.tail _ (.tail _ (.head _))), d1, ?_⟩
      conv => whnf
      refine ⟨rfl, .tail _ (.head _), ?_⟩
      conv => whnf
      intro _
      conv => whnf
      intro _
      conv => whnf
      refine v_sub (.tail _ (.tail _ (.tail _ (.tail _ (hl))))) hi (by omega) (by rw [hn]; omega) (by omega) fun t3 => ?_
      conv => whnf
      refine ⟨mul_l (by decide) (by decide), ?_⟩
      intro _
      conv => whnf
      intro _
      conv => whnf
      exact ⟨rfl, _, rfl⟩
    · intro D ys hy o
      exact ⟨(D, LCg.lst ys) :: (pick map_of_v_P).news, List.forall_mem_cons.mpr ⟨.head _, fun _ hp => .tail _ (.tail _ hp)⟩, NewPost.lst hy (by rw [mapv_b hb]; exact prs_eq _) o.2⟩

theorem map_of_v {news : Led} {dk : Addr} {dd : Addr} {es : List DictEntry} {dn : Nat} {b : Int} {u : Tok} {l : Addr} {vs : List Value} {k : Nat} {ns : List Int} (hdk : (dk, instObj 67 dd) ∈ news) (hdd : (dd, dictOf es dn) ∈ news) (hbl : getL (Str.ofString "blocks") es = some (some (.int b u))) (hl : (l, listOf vs.toArray k) ∈ news) (hi : IntsAre vs ns) (hn : ns.length = 32) :
    Sp 83 2 news [.ref dk, .ref l] (NewPost news (mapv b (ns.drop 16))) :=
  map_of_v_c { news := news, dk := dk, dd := dd, es := es, dn := dn, b := b, u := u, l := l, vs := vs, k := k, ns := ns } hdk hdd hbl hl hi hn

noncomputable def map_octets_v_P (m : Pm) : Prop := ((m.dk, instObj 67 m.dd) ∈ m.news) → ((m.dd, dictOf m.es m.dn) ∈ m.news) → (getL (Str.ofString "blocks") m.es = some (some (.int m.b m.u))) → ((m.l, listOf m.vs.toArray m.k) ∈ m.news) → (IntsAre m.vs m.ns) → (m.ns.length ≤ 100) → Sp 90 2 m.news [.ref m.dk, .ref m.l] (NewPost m.news (unmapv m.b m.ns))
set_option maxHeartbeats 4000000 in
theorem map_octets_v_c : ∀ m : Pm, map_octets_v_P m := by
  refine eps ?_
  intro hdk hdd hbl hl hi hn
  refine' sp_enter [Str.ofString "disk", Str.ofString "blocks"] ?hf ?hc ?hb ?hl ?h2 ?h3 ?h4 ?h5 (epsR ?h)
  (case hf => intro _; k_is)
  (case hc => intro _; k_is)
  (case hb => intro _; exact BindsTo.of_eq rfl)
  (case hl => exact locs rfl)
  (case h2 => exact rfl)
  (case h3 => exact rfl)
  (case h4 => exact rfl)
  (case h5 => decide)
  intro ok
  conv => whnf
  refine ⟨_, _, map_slots_v (hdk) (hdd) hbl, Nat.le_of_ble_eq_true rfl, ?_⟩
  rintro _ _ ⟨rfl, _, rfl⟩
  by_cases hb : (pick map_octets_v_P).b ≤ 256
  · rw [if_pos hb]
    conv => whnf
    intro _
    conv => whnf
    refine v_copy hl hi (Nat.le_trans hn (by decide)) fun D c' l1 => ?_
    exact NewPost.of hi (unmapv_s hb _).symm (off1_of l1)
  · rw [if_neg hb]
    conv => whnf
    intro _
    conv => whnf
    refine ⟨Nat.zero_le _, fun D o => ?_⟩
    conv => whnf
    refine v_forlist ok rfl (vs0 := []) (fun j => unprs ((pick map_octets_v_P).ns.take j)) rfl ⟨rfl, rfl⟩ hl hi .nil ?_ ?_
    · intro j q t I o1 vs' c' hq hi' hI hD
      conv => whnf
      refine v_extend ok rfl ⟨rfl, rfl⟩ (.tail _ (.head _)) ?_
      conv => whnf
      intro _
      conv => whnf
      refine ⟨by decide, fun t2 => ?_⟩
      conv => whnf
      intro _
      conv => whnf
      refine ⟨by decide, by decide, fun t3 => ?_⟩
      conv => whnf
      refine ⟨Nat.le_of_ble_eq_true rfl, fun b' ob => ?_⟩
      refine ⟨b', _, _, _, _, _, rfl, .head _, .cons _ _ (.cons _ _ .nil), hi', Nat.succ_ne_zero _, ?_, .tail (Ne.symm ob.2.1) (.tail (Nat.ne_of_gt hD) (.head (off1_mem o))), fun hi2 => ?_⟩
      · rw [unprs_length, List.length_take]
        show 2 * min j _ + 2 ≤ 1000
        omega
      · exact ⟨rfl, ⟨_, rfl⟩, _, _, conv hi2 (unprs_snoc hq).symm, fun _ hp => .tail _ hp⟩
    · intro u vs' c' hi'
      rw [List.take_length] at hi'
      conv => whnf
      exact NewPost.of hi' (unmapv_b hb _).symm o

theorem map_octets_v {news : Led} {dk : Addr} {dd : Addr} {es : List DictEntry} {dn : Nat} {b : Int} {u : Tok} {l : Addr} {vs : List Value} {k : Nat} {ns : List Int} (hdk : (dk, instObj 67 dd) ∈ news) (hdd : (dd, dictOf es dn) ∈ news) (hbl : getL (Str.ofString "blocks") es = some (some (.int b u))) (hl : (l, listOf vs.toArray k) ∈ news) (hi : IntsAre vs ns) (hn : ns.length ≤ 100) :
    Sp 90 2 news [.ref dk, .ref l] (NewPost news (unmapv b ns)) :=
  map_octets_v_c { news := news, dk := dk, dd := dd, es := es, dn := dn, b := b, u := u, l := l, vs := vs, k := k, ns := ns } hdk hdd hbl hl hi hn

noncomputable def blocks_at_v_P (m : Pm) : Prop := ((m.dk, instObj 67 m.dd) ∈ m.news) → ((m.dd, dictOf m.es m.dn) ∈ m.news) → (getL (Str.ofString "blocks") m.es = some (some (.int m.b m.u))) → ((m.l, listOf m.vs.toArray m.k) ∈ m.news) → (IntsAre m.vs m.ns) → (Sz m.ns) → Sp 179 3 m.news [.ref m.dk, .ref m.l, .int m.i m.tk] (NewPost m.news (mapv m.b (got m.ns (m.i + 16) 16)))
set_option maxHeartbeats 4000000 in
theorem blocks_at_v_c : ∀ m : Pm, blocks_at_v_P m := by
  refine eps ?_
  intro hdk hdd hbl hl hi hz
  refine sp_drop ?_
  refine' sp_enter [Str.ofString "disk", Str.ofString "memory", Str.ofString "at"] ?hf ?hc ?hb ?hl ?h2 ?h3 ?h4 ?h5 (epsR ?h)
  (case hf => intro _; k_is)
  (case hc => intro _; k_is)
  (case hb => intro _; exact BindsTo.of_eq rfl)
  (case hl => exact locs rfl)
  (case h2 => exact rfl)
  (case h3 => exact rfl)
  (case h4 => exact rfl)
  (case h5 => decide)
  intro ok
  conv => whnf
  refine ⟨_, _, octets_at_v (n := 32) hl hi hz (by decide), Nat.le_of_ble_eq_true rfl, ?_⟩
  rintro _ _ hp
  obtain ⟨l', vs', k', rfl, hi', o, rfl⟩ := hp
  conv => whnf
  refine ⟨_, _, map_of_v (.tail _ hdk) (.tail _ hdd) hbl (.head _) hi' (got_length _ _ _), Nat.le_of_ble_eq_true rfl, ?_⟩
  rintro _ _ ⟨l2, vs2, k2, rfl, hi2, o2, rfl⟩
  exact ⟨(l2, listOf vs2.toArray k2) :: (pick blocks_at_v_P).news, List.forall_mem_cons.mpr ⟨.head _, fun _ hp => .tail _ (.tail _ hp)⟩, NewPost.of hi2 (congrArg (mapv _) (conv16 _ _)) o2.2⟩

theorem blocks_at_v {news : Led} {l : Addr} {vs : List Value} {k : Nat} {ns : List Int} {i : Int} {tk : Tok} {dk : Addr} {dd : Addr} {es : List DictEntry} {dn : Nat} {b : Int} {u : Tok} (hdk : (dk, instObj 67 dd) ∈ news) (hdd : (dd, dictOf es dn) ∈ news) (hbl : getL (Str.ofString "blocks") es = some (some (.int b u))) (hl : (l, listOf vs.toArray k) ∈ news) (hi : IntsAre vs ns) (hz : Sz ns) :
    Sp 179 3 news [.ref dk, .ref l, .int i tk] (NewPost news (mapv b (got ns (i + 16) 16))) :=
  blocks_at_v_c { news := news, l := l, vs := vs, k := k, ns := ns, i := i, tk := tk, dk := dk, dd := dd, es := es, dn := dn, b := b, u := u } hdk hdd hbl hl hi hz
-- W9

noncomputable def law_take_v_P (m : Pm) : Prop := ((m.nl, listOf m.nvs.toArray m.kn) ∈ m.rest) → (IntsAre m.nvs m.nns) → (∀ p ∈ m.rest, p.1 ≠ m.dl) → (m.nns.length ≤ 64) → (0 ≤ m.ix) → (m.ix ≤ m.nns.length) → (0 ≤ m.sd) → (m.sd < 2147483647) → (0 < m.many) → Sp 233 1 ((m.dl, listOf [.ref m.nl, .int m.ix m.t1, .int m.sd m.t2].toArray m.k) :: m.rest) [.ref m.dl, .int m.many m.tk] (TakePost m.dl m.nl m.k m.nns m.ix m.sd m.many m.rest)
set_option maxHeartbeats 4000000 in
theorem law_take_v_c : ∀ m : Pm, law_take_v_P m := by
  refine eps ?_
  intro hn hni hne hl h0 h1 h2 h3 h4
  refine' sp_enter [Str.ofString "deal", Str.ofString "many"] ?hf ?hc ?hb ?hl ?h2 ?h3 ?h4 ?h5 (epsR ?h)
  (case hf => intro _; k_is)
  (case hc => intro _; k_is)
  (case hb => intro _; exact BindsTo.of_eq rfl)
  (case hl => exact locs rfl)
  (case h2 => exact rfl)
  (case h3 => exact rfl)
  (case h4 => exact rfl)
  (case h5 => decide)
  intro ok
  conv => whnf
  intro _
  conv => whnf
  refine v_lit (.head _) (by decide) (by decide) rfl ?_
  conv => whnf
  intro _
  conv => whnf
  refine v_lit (.head _) (by decide) (by decide) rfl ?_
  conv => whnf
  refine v_len (.tail _ hn) hni (by omega) fun t => ?_
  conv => whnf
  generalize hq : decide ((pick law_take_v_P).ix < ((pick law_take_v_P).nns.length : Nat)) = q
  cases q
  · conv => whnf
    intro _
    conv => whnf
    refine v_lit (.head _) (by decide) (by decide) rfl ?_
    conv => whnf
    intro _
    conv => whnf
    refine ⟨mul_r (by decide) (by decide), ?_⟩
    intro _
    conv => whnf
    intro _
    conv => whnf
    intro _
    conv => whnf
    intro _
    conv => whnf
    refine ⟨by decide, fun t => ?_⟩
    conv => whnf
    intro _
    conv => whnf
    refine v_setlit (by decide) (by decide) rfl (.head hne) ?_
    conv => whnf
    intro _
    conv => whnf
    refine v_lit (.head _) (by decide) (by decide) rfl ?_
    conv => whnf
    intro _
    conv => whnf
    refine ⟨by decide, by decide, fun t => ?_⟩
    conv => whnf
    refine ⟨h4, fun t => ?_⟩
    exact ⟨_, _, _, _, _, congrArg (fun z => Value.int z _) (if_neg (of_decide_eq_false hq)).symm, h0, h1, Int.emod_nonneg _ (by decide), Int.emod_lt_of_pos _ (by decide), rfl⟩
  · conv => whnf
    intro _
    conv => whnf
    refine v_lit (.head _) (by decide) (by decide) rfl ?_
    conv => whnf
    intro _
    conv => whnf
    intro _
    conv => whnf
    intro _
    conv => whnf
    refine v_setlit (by decide) (by decide) rfl (.head hne) ?_
    conv => whnf
    intro _
    conv => whnf
    refine v_lit (.head _) (by decide) (by decide) rfl ?_
    conv => whnf
    intro _
    conv => whnf
    refine v_lit (.head _) (by decide) (by decide) rfl ?_
    conv => whnf
    intro _
    conv => whnf
    intro _
    conv => whnf
    have hq' := of_decide_eq_true hq
    refine v_sub (.tail _ hn) hni (by omega) (by omega) (by omega) fun t => ?_
    conv => whnf
    refine ⟨h4, fun t => ?_⟩
    refine ⟨_, _, _, _, _, congrArg (fun z => Value.int z _) ?_, by omega, by omega, h2, h3, rfl⟩
    rw [show (pick law_take_v_P).ix + 1 - 1 = (pick law_take_v_P).ix by omega]
    exact (if_pos hq').symm

theorem law_take_v {rest : Led} {dl : Addr} {nl : Addr} {k : Nat} {nvs : List Value} {kn : Nat} {nns : List Int} {ix : Int} {sd : Int} {many : Int} {t1 : Tok} {t2 : Tok} {tk : Tok} (hn : (nl, listOf nvs.toArray kn) ∈ rest) (hni : IntsAre nvs nns) (hne : ∀ p ∈ rest, p.1 ≠ dl) (hl : nns.length ≤ 64) (h0 : 0 ≤ ix) (h1 : ix ≤ nns.length) (h2 : 0 ≤ sd) (h3 : sd < 2147483647) (h4 : 0 < many) :
    Sp 233 1 ((dl, listOf [.ref nl, .int ix t1, .int sd t2].toArray k) :: rest) [.ref dl, .int many tk] (TakePost dl nl k nns ix sd many rest) :=
  law_take_v_c { rest := rest, dl := dl, nl := nl, k := k, nvs := nvs, kn := kn, nns := nns, ix := ix, sd := sd, many := many, t1 := t1, t2 := t2, tk := tk } hn hni hne hl h0 h1 h2 h3 h4

noncomputable def set_random_v_P (m : Pm) : Prop := (∀ p ∈ m.rest, p.1 ≠ m.l) → (IntsAre m.vs m.ns) → (Sz m.ns) → Sp 214 3 ((m.l, listOf m.vs.toArray m.k) :: m.rest) [.ref m.l, .int m.i m.tk, .int m.x m.tk2] (UpdPost m.l m.k (fun o => (m.l, o) :: m.rest) (put m.ns (m.i + 33) [m.x % 256, m.x / 256 % 256, m.x / 65536 % 256]))
set_option maxHeartbeats 4000000 in
theorem set_random_v_c : ∀ m : Pm, set_random_v_P m := by
  refine eps ?_
  intro hne hi hz
  refine sp_drop ?_
  refine' sp_enter [Str.ofString "memory", Str.ofString "at", Str.ofString "record"] ?hf ?hc ?hb ?hl ?h2 ?h3 ?h4 ?h5 (epsR ?h)
  (case hf => intro _; k_is)
  (case hc => intro _; k_is)
  (case hb => intro _; exact BindsTo.of_eq rfl)
  (case hl => exact locs rfl)
  (case h2 => exact rfl)
  (case h3 => exact rfl)
  (case h4 => exact rfl)
  (case h5 => decide)
  intro ok
  conv => whnf
  intro _
  conv => whnf
  intro _
  conv => whnf
  intro _
  conv => whnf
  intro _
  conv => whnf
  refine ⟨by decide, ?_⟩
  intro _
  conv => whnf
  intro _
  conv => whnf
  intro _
  conv => whnf
  intro _
  conv => whnf
  refine ⟨by decide, ?_⟩
  intro _
  conv => whnf
  intro _
  conv => whnf
  intro _
  conv => whnf
  refine ⟨Nat.le_of_ble_eq_true rfl, fun D o => ?_⟩
  conv => whnf
  refine ⟨_, _, sp_of_head (.tail (Ne.symm o.1) (.head hne)) fun rest' hne' hin => put_octets_v hne' hi (hin _ (.head _) (Ne.symm o.1)) (.cons _ _ (.cons _ _ (.cons _ _ .nil))) hz, Nat.le_of_ble_eq_true rfl, ?_⟩
  rintro _ _ ⟨_, ⟨rfl, _, rfl, hi'⟩, rfl⟩
  exact ⟨((pick set_random_v_P).l, _) :: (pick set_random_v_P).rest, fun _ hp => .tail _ hp, _, ⟨rfl, _, rfl, conv hi' (by rw [bitAnd_m8, bitAnd_m8, bitAnd_m8]; exact rand_eq)⟩, rfl⟩

theorem set_random_v {rest : Led} {l : Addr} {vs : List Value} {k : Nat} {ns : List Int} {i : Int} {tk : Tok} {x : Int} {tk2 : Tok} (hne : ∀ p ∈ rest, p.1 ≠ l) (hi : IntsAre vs ns) (hz : Sz ns) :
    Sp 214 3 ((l, listOf vs.toArray k) :: rest) [.ref l, .int i tk, .int x tk2] (UpdPost l k (fun o => (l, o) :: rest) (put ns (i + 33) [x % 256, x / 256 % 256, x / 65536 % 256])) :=
  set_random_v_c { rest := rest, l := l, vs := vs, k := k, ns := ns, i := i, tk := tk, x := x, tk2 := tk2 } hne hi hz

noncomputable def new_fcb_v_P (m : Pm) : Prop := ((m.l, listOf m.vs.toArray m.k) ∈ m.news) → (IntsAre m.vs m.ns) → (m.ns.length = 11) → Sp 221 1 m.news [.int m.i m.tk, .ref m.l] (NewPost m.news ([m.i] ++ m.ns ++ List.replicate 24 0))
set_option maxHeartbeats 4000000 in
theorem new_fcb_v_c : ∀ m : Pm, new_fcb_v_P m := by
  refine eps ?_
  intro hl hi hn
  refine sp_drop ?_
  refine' sp_enter [Str.ofString "drive", Str.ofString "name"] ?hf ?hc ?hb ?hl ?h2 ?h3 ?h4 ?h5 (epsR ?h)
  (case hf => intro _; k_is)
  (case hc => intro _; k_is)
  (case hb => intro _; exact BindsTo.of_eq rfl)
  (case hl => exact locs rfl)
  (case h2 => exact rfl)
  (case h3 => exact rfl)
  (case h4 => exact rfl)
  (case h5 => decide)
  intro ok
  conv => whnf
  refine ⟨Nat.le_of_ble_eq_true rfl, fun D o => ?_⟩
  conv => whnf
  refine v_cat (.head _) (.tail _ hl) (.cons _ _ .nil) hi (by rw [hn]; decide) fun D2 us hu o2 => ?_
  conv => whnf
  intro _
  conv => whnf
  refine ⟨Nat.le_of_ble_eq_true rfl, fun D3 o3 => ?_⟩
  conv => whnf
  intro _
  conv => whnf
  intro _
  conv => whnf
  intro _
  conv => whnf
  refine v_rep (.head _) (.cons _ _ .nil) (by decide) (by decide) (Nat.le_of_ble_eq_true rfl) fun D4 us4 hu4 o4 => ?_
  conv => whnf
  refine v_cat (.tail _ (.tail _ (.head _))) (.head _) hu hu4 (by rw [List.length_append, hn]; decide) fun D5 us5 hu5 o5 => ?_
  exact ⟨(D5, listOf us5.toArray 0) :: (pick new_fcb_v_P).news, List.forall_mem_cons.mpr ⟨.head _, fun _ hp => .tail _ (.tail _ (.tail _ (.tail _ (.tail _ hp))))⟩, NewPost.of hu5 rfl o5.2.2.2.2⟩

theorem new_fcb_v {news : Led} {l : Addr} {vs : List Value} {k : Nat} {ns : List Int} {i : Int} {tk : Tok} (hl : (l, listOf vs.toArray k) ∈ news) (hi : IntsAre vs ns) (hn : ns.length = 11) :
    Sp 221 1 news [.int i tk, .ref l] (NewPost news ([i] ++ ns ++ List.replicate 24 0)) :=
  new_fcb_v_c { news := news, l := l, vs := vs, k := k, ns := ns, i := i, tk := tk } hl hi hn
-- Wa

noncomputable def begin_extent_v_P (m : Pm) : Prop := (∀ p ∈ m.rest, p.1 ≠ m.l) → (IntsAre m.vs m.ns) → (Sz m.ns) → (0 ≤ m.x) → (m.x < 2048) → Sp 200 3 ((m.l, listOf m.vs.toArray m.k) :: m.rest) [.ref m.l, .int m.i m.tk, .int m.x m.tk2] (UpdPost m.l m.k (fun o => (m.l, o) :: m.rest) (put m.ns (m.i + 12) ([m.x % 32, 0, m.x / 32 + 128] ++ List.replicate 17 0)))
set_option maxHeartbeats 4000000 in
theorem begin_extent_v_c : ∀ m : Pm, begin_extent_v_P m := by
  refine eps ?_
  intro hne hi hz hx0 hx1
  refine sp_drop ?_
  refine' sp_enter [Str.ofString "memory", Str.ofString "at", Str.ofString "extent"] ?hf ?hc ?hb ?hl ?h2 ?h3 ?h4 ?h5 (epsR ?h)
  (case hf => intro _; k_is)
  (case hc => intro _; k_is)
  (case hb => intro _; exact BindsTo.of_eq rfl)
  (case hl => exact locs rfl)
  (case h2 => exact rfl)
  (case h3 => exact rfl)
  (case h4 => exact rfl)
  (case h5 => decide)
  intro ok
  conv => whnf
  refine ⟨_, _, set_extent_v hne hi hz, Nat.le_of_ble_eq_true rfl, ?_⟩
  rintro _ _ ⟨_, ⟨rfl, _, rfl, hi1⟩, rfl⟩
  conv => whnf
  intro _
  conv => whnf
  intro _
  conv => whnf
  intro _
  conv => whnf
  refine ⟨Nat.le_of_ble_eq_true rfl, fun D o => ?_⟩
  conv => whnf
  refine ⟨_, _, sp_of_head (.tail (Ne.symm o.1) (.head hne)) fun rest' hne' hin => put_octets_v hne' hi1 (hin _ (.head _) (Ne.symm o.1)) (.cons _ _ .nil) ((hz.wr _ _).wr _ _), Nat.le_of_ble_eq_true rfl, ?_⟩
  rintro _ _ ⟨_, ⟨rfl, _, rfl, hi2⟩, rfl⟩
  conv => whnf
  intro _
  conv => whnf
  intro _
  conv => whnf
  refine ⟨Nat.le_of_ble_eq_true rfl, fun D2 o2 => ?_⟩
  conv => whnf
  intro _
  conv => whnf
  refine v_rep (.head _) (.cons _ _ .nil) (by decide) (by decide) (Nat.le_of_ble_eq_true rfl) fun D3 us hu o3 => ?_
  conv => whnf
  refine ⟨_, _, sp_of_head (.tail (Ne.symm o3.2.2.1) (.tail (Ne.symm o2.2.1) (.tail (Ne.symm o.1) (.head hne)))) fun rest' hne' hin => put_octets_v hne' hi2 (hin _ (.head _) (Ne.symm o3.2.2.1)) hu (((hz.wr _ _).wr _ _).put _ _), Nat.le_of_ble_eq_true rfl, ?_⟩
  rintro _ _ ⟨_, ⟨rfl, _, rfl, hi3⟩, rfl⟩
  exact ⟨((pick begin_extent_v_P).l, _) :: (pick begin_extent_v_P).rest, fun _ hp => .tail _ (.tail _ (.tail _ hp)), _, ⟨rfl, _, rfl, conv hi3 (eq_begin hz hx0 hx1)⟩, rfl⟩

theorem begin_extent_v {rest : Led} {l : Addr} {vs : List Value} {k : Nat} {ns : List Int} {i : Int} {tk : Tok} {x : Int} {tk2 : Tok} (hne : ∀ p ∈ rest, p.1 ≠ l) (hi : IntsAre vs ns) (hz : Sz ns) (hx0 : 0 ≤ x) (hx1 : x < 2048) :
    Sp 200 3 ((l, listOf vs.toArray k) :: rest) [.ref l, .int i tk, .int x tk2] (UpdPost l k (fun o => (l, o) :: rest) (put ns (i + 12) ([x % 32, 0, x / 32 + 128] ++ List.replicate 17 0))) :=
  begin_extent_v_c { rest := rest, l := l, vs := vs, k := k, ns := ns, i := i, tk := tk, x := x, tk2 := tk2 } hne hi hz hx0 hx1

noncomputable def take_entry_v_P (m : Pm) : Prop := (∀ p ∈ m.rest, p.1 ≠ m.l) → (IntsAre m.vs m.ns) → ((m.rl, listOf m.rvs.toArray m.rk) ∈ m.rest) → (IntsAre m.rvs m.row) → (Sz m.ns) → (m.row.length = 32) → (Oct m.row) → Sp 193 3 ((m.l, listOf m.vs.toArray m.k) :: m.rest) [.ref m.l, .int m.i m.tk, .ref m.rl] (UpdPost m.l m.k (fun o => (m.l, o) :: m.rest) (put m.ns (m.i + 1) (List.take 13 (List.drop 1 m.row) ++ [m.row.getD 14 0 % 128 + 128] ++ List.drop 15 m.row)))
set_option maxHeartbeats 4000000 in
theorem take_entry_v_c : ∀ m : Pm, take_entry_v_P m := by
  refine eps ?_
  intro hne hi hr hri hz hrl hor
  refine sp_drop ?_
  refine' sp_enter [Str.ofString "memory", Str.ofString "at", Str.ofString "octets"] ?hf ?hc ?hb ?hl ?h2 ?h3 ?h4 ?h5 (epsR ?h)
  (case hf => intro _; k_is)
  (case hc => intro _; k_is)
  (case hb => intro _; exact BindsTo.of_eq rfl)
  (case hl => exact locs rfl)
  (case h2 => exact rfl)
  (case h3 => exact rfl)
  (case h4 => exact rfl)
  (case h5 => decide)
  intro ok
  conv => whnf
  intro _
  conv => whnf
  intro _
  conv => whnf
  refine v_slice ok ⟨rfl, rfl⟩ (fun t => ⟨⟨_, rfl⟩, rfl⟩) ⟨⟨_, rfl⟩, rfl⟩ (.tail _ hr) hri (by decide) (by decide) (by rw [hrl]; decide) fun D ws hw o => ?_
  conv => whnf
  refine ⟨_, _, sp_of_head (.tail (Ne.symm o.1) (.head hne)) fun rest' hne' hin => put_octets_v hne' hi (hin _ (.head _) (Ne.symm o.1)) hw hz, Nat.le_of_ble_eq_true rfl, ?_⟩
  rintro _ _ ⟨_, ⟨rfl, _, rfl, hi2⟩, rfl⟩
  conv => whnf
  refine ⟨_, _, sp_of_head (.tail (Ne.symm o.1) (.head hne)) fun rest' hne' hin => mark_changed_v hne' hi2 (hz.put _ _), Nat.le_of_ble_eq_true rfl, ?_⟩
  rintro _ _ ⟨_, ⟨rfl, _, rfl, hi3⟩, rfl⟩
  refine ⟨((pick take_entry_v_P).l, _) :: (pick take_entry_v_P).rest, fun _ hp => .tail _ hp, _, ⟨rfl, _, rfl, conv hi3 ?_⟩, rfl⟩
  have e : List.map (fun x => x % 256) (List.take (min 32 (pick take_entry_v_P).row.length - 1) (List.drop 1 (pick take_entry_v_P).row)) = List.map (fun x => x % 256) (List.drop 1 (pick take_entry_v_P).row) := congrArg _ (take_eq hrl)
  exact (congrArg (fun z => wr (put (pick take_entry_v_P).ns ((pick take_entry_v_P).i + 1) z) ((pick take_entry_v_P).i + 14) (rd (put (pick take_entry_v_P).ns ((pick take_entry_v_P).i + 1) z) ((pick take_entry_v_P).i + 14) % 128 + 128)) e).trans (eq_take hz hor hrl)

theorem take_entry_v {rest : Led} {l : Addr} {vs : List Value} {k : Nat} {ns : List Int} {i : Int} {tk : Tok} {rl : Addr} {rvs : List Value} {rk : Nat} {row : List Int} (hne : ∀ p ∈ rest, p.1 ≠ l) (hi : IntsAre vs ns) (hr : (rl, listOf rvs.toArray rk) ∈ rest) (hri : IntsAre rvs row) (hz : Sz ns) (hrl : row.length = 32) (hor : Oct row) :
    Sp 193 3 ((l, listOf vs.toArray k) :: rest) [.ref l, .int i tk, .ref rl] (UpdPost l k (fun o => (l, o) :: rest) (put ns (i + 1) (List.take 13 (List.drop 1 row) ++ [row.getD 14 0 % 128 + 128] ++ List.drop 15 row))) :=
  take_entry_v_c { rest := rest, l := l, vs := vs, k := k, ns := ns, i := i, tk := tk, rl := rl, rvs := rvs, rk := rk, row := row } hne hi hr hri hz hrl hor

noncomputable def set_block_v_P (m : Pm) : Prop := (∀ p ∈ m.rest, p.1 ≠ m.l) → (IntsAre m.vs m.ns) → (Sz m.ns) → ((m.dk, instObj 67 m.dd) ∈ m.rest) → ((m.dd, dictOf m.es m.dn) ∈ m.rest) → (getL (Str.ofString "blocks") m.es = some (some (.int m.b m.u))) → (0 ≤ m.x) → (m.x < (if m.b ≤ 256 then 16 else 8)) → Sp 186 4 ((m.l, listOf m.vs.toArray m.k) :: m.rest) [.ref m.dk, .ref m.l, .int m.i m.tk, .int m.x m.tk2, .int m.y m.tk3] (UpdPost m.l m.k (fun o => (m.l, o) :: m.rest) (put m.ns (m.i + 16) ((unmapv m.b ((mapv m.b (got m.ns (m.i + 16) 16)).set m.x.toNat m.y)).map (· % 256))))
set_option maxHeartbeats 4000000 in
theorem set_block_v_c : ∀ m : Pm, set_block_v_P m := by
  refine eps ?_
  intro hne hi hz hdk hdd hbl hx0 hx1
  refine sp_drop ?_
  refine' sp_enter [Str.ofString "disk", Str.ofString "memory", Str.ofString "at", Str.ofString "slot", Str.ofString "block"] ?hf ?hc ?hb ?hl ?h2 ?h3 ?h4 ?h5 (epsR ?h)
  (case hf => intro _; k_is)
  (case hc => intro _; k_is)
  (case hb => intro _; exact BindsTo.of_eq rfl)
  (case hl => exact locs rfl)
  (case h2 => exact rfl)
  (case h3 => exact rfl)
  (case h4 => exact rfl)
  (case h5 => decide)
  intro ok
  conv => whnf
  refine ⟨_, _, blocks_at_v (.tail _ hdk) (.tail _ hdd) hbl (.head _) hi hz, Nat.le_of_ble_eq_true rfl, ?_⟩
  rintro _ _ hp
  obtain ⟨l', vs', k', rfl, hi', o, rfl⟩ := hp
  have hlen : (mapv (pick set_block_v_P).b (got (pick set_block_v_P).ns ((pick set_block_v_P).i + 16) 16)).length = (if (pick set_block_v_P).b ≤ 256 then 16 else 8) := mapv_len _ _ _
  conv => whnf
  refine v_set (.head (off1_mem o)) hi' hx0 (by rw [hlen]; exact slot_ix hx1) (slot_fit hx1) fun hi2 => ?_
  conv => whnf
  intro _
  conv => whnf
  refine ⟨_, _, map_octets_v (.tail _ (.tail _ hdk)) (.tail _ (.tail _ hdd)) hbl (.head _) hi2 (by rw [List.length_set, hlen]; exact slot_len _), Nat.le_of_ble_eq_true rfl, ?_⟩
  rintro _ _ hp
  obtain ⟨l3, vs3, k3, rfl, hi3, o3, rfl⟩ := hp
  conv => whnf
  refine ⟨_, _, sp_of_head (.tail (Ne.symm o3.2.1) (.tail (Ne.symm o.1) (.head hne))) fun rest' hne' hin => put_octets_v hne' hi (hin _ (.head _) (Ne.symm o3.2.1)) hi3 hz, Nat.le_of_ble_eq_true rfl, ?_⟩
  rintro _ _ ⟨_, ⟨rfl, _, rfl, hi4⟩, rfl⟩
  exact ⟨((pick set_block_v_P).l, _) :: (pick set_block_v_P).rest, fun _ hp => .tail _ (.tail _ hp), _, ⟨rfl, _, rfl, hi4⟩, rfl⟩

theorem set_block_v {rest : Led} {l : Addr} {vs : List Value} {k : Nat} {ns : List Int} {i : Int} {tk : Tok} {dk : Addr} {dd : Addr} {es : List DictEntry} {dn : Nat} {b : Int} {u : Tok} {x : Int} {tk2 : Tok} {y : Int} {tk3 : Tok} (hne : ∀ p ∈ rest, p.1 ≠ l) (hi : IntsAre vs ns) (hz : Sz ns) (hdk : (dk, instObj 67 dd) ∈ rest) (hdd : (dd, dictOf es dn) ∈ rest) (hbl : getL (Str.ofString "blocks") es = some (some (.int b u))) (hx0 : 0 ≤ x) (hx1 : x < (if b ≤ 256 then 16 else 8)) :
    Sp 186 4 ((l, listOf vs.toArray k) :: rest) [.ref dk, .ref l, .int i tk, .int x tk2, .int y tk3] (UpdPost l k (fun o => (l, o) :: rest) (put ns (i + 16) ((unmapv b ((mapv b (got ns (i + 16) 16)).set x.toNat y)).map (· % 256)))) :=
  set_block_v_c { rest := rest, l := l, vs := vs, k := k, ns := ns, i := i, tk := tk, dk := dk, dd := dd, es := es, dn := dn, b := b, u := u, x := x, tk2 := tk2, y := y, tk3 := tk3 } hne hi hz hdk hdd hbl hx0 hx1
-- Wb

noncomputable def read_right_v_P (m : Pm) : Prop := ((m.dk, instObj 67 m.dd) ∈ m.news) → ((m.dd, dictOf m.es m.dn) ∈ m.news) → (getL (Str.ofString "blocks") m.es = some (some (.int m.b m.u))) → ((m.l, listOf m.vs.toArray m.k) ∈ m.news) → (IntsAre m.vs m.ns) → ((m.ol, listOf m.ovs.toArray m.ok) ∈ m.news) → (IntsAre m.ovs m.ns) → (Sz m.ns) → (Oct m.ns) → Sp 257 10 m.news [.ref m.l, .ref m.ol, .int m.i m.tk, .ref m.dk] (fun r news' => news' = m.news ∧ r = .bool true)
set_option maxHeartbeats 20000000 in
theorem read_right_v_c : ∀ m : Pm, read_right_v_P m := by
  refine eps ?_
  intro hdk hdd hbl hl hi hol hoi hz ho
  refine sp_drop ?_
  refine' sp_enter [Str.ofString "memory", Str.ofString "octets", Str.ofString "at", Str.ofString "disk"] ?hf ?hc ?hb ?hl ?h2 ?h3 ?h4 ?h5 (epsR ?h)
  (case hf => intro _; k_is)
  (case hc => intro _; k_is)
  (case hb => intro _; exact BindsTo.of_eq rfl)
  (case hl => exact locs rfl)
  (case h2 => exact rfl)
  (case h3 => exact rfl)
  (case h4 => exact rfl)
  (case h5 => decide)
  intro ok
  conv => whnf
  intro _
  conv => whnf
  refine ⟨_, _, law_got_v (n := 36) hol hoi hz (by decide), Nat.le_of_ble_eq_true rfl, ?_⟩
  rintro _ _ hp
  obtain ⟨lb, vb, kb, rfl, hb, ob, rfl⟩ := hp
  conv => whnf
  refine ⟨_, _, name_at_v (.tail _ hl) hi hz, Nat.le_of_ble_eq_true rfl, ?_⟩
  rintro _ _ hp
  obtain ⟨l1, vs1, k1, rfl, h1, o1, rfl⟩ := hp
  conv => whnf
  refine ⟨_, _, second_name_at_v (.tail _ (.tail _ (hl))) hi hz, Nat.le_of_ble_eq_true rfl, ?_⟩
  rintro _ _ hp
  obtain ⟨l2, vs2, k2, rfl, h2, o2, rfl⟩ := hp
  conv => whnf
  refine ⟨_, _, extent_at_v (.tail _ (.tail _ (.tail _ (hl)))) hi hz, Nat.le_of_ble_eq_true rfl, ?_⟩
  rintro _ _ ⟨rfl, _, rfl⟩
  conv => whnf
  refine ⟨_, _, is_changed_v (.tail _ (.tail _ (.tail _ (hl)))) hi hz ho, Nat.le_of_ble_eq_true rfl, ?_⟩
  rintro _ _ ⟨rfl, rfl⟩
  conv => whnf
  refine ⟨Nat.le_of_ble_eq_true rfl, fun D1 p1 => ?_⟩
  conv => whnf
  refine ⟨_, _, count_at_v (.tail _ (.tail _ (.tail _ (.tail _ (hl))))) hi hz, Nat.le_of_ble_eq_true rfl, ?_⟩
  rintro _ _ ⟨rfl, _, rfl⟩
  conv => whnf
  refine ⟨_, _, current_at_v (.tail _ (.tail _ (.tail _ (.tail _ (hl))))) hi hz, Nat.le_of_ble_eq_true rfl, ?_⟩
  rintro _ _ ⟨rfl, _, rfl⟩
  conv => whnf
  refine ⟨_, _, random_at_v (.tail _ (.tail _ (.tail _ (.tail _ (hl))))) hi hz, Nat.le_of_ble_eq_true rfl, ?_⟩
  rintro _ _ ⟨rfl, _, rfl⟩
  conv => whnf
  refine ⟨_, _, blocks_at_v (.tail _ (.tail _ (.tail _ (.tail _ (hdk))))) (.tail _ (.tail _ (.tail _ (.tail _ (hdd))))) hbl (.tail _ (.tail _ (.tail _ (.tail _ (hl))))) hi hz, Nat.le_of_ble_eq_true rfl, ?_⟩
  rintro _ _ hp
  obtain ⟨l3, vs3, k3, rfl, h3, o3, rfl⟩ := hp
  conv => whnf
  refine ⟨Nat.le_of_ble_eq_true rfl, fun D2 p2 => ?_⟩
  conv => whnf
  refine v_catlit (.tail _ (.tail _ (.head _))) (.head _) (Nat.le_of_ble_eq_true rfl) fun D3 p3 => ?_
  conv => whnf
  refine v_slice ok ⟨rfl, rfl⟩ (fun t => ⟨⟨_, rfl⟩, rfl⟩) (fun t => ⟨⟨_, rfl⟩, rfl⟩) (.tail _ (.tail _ (.tail _ (.tail _ (.tail _ (.tail _ (.head _))))))) hb (by decide) (by decide) (by rw [got_length]; decide) fun D4 wsD4 hwD4 p4 => ?_
  conv => whnf
  refine v_slice ok ⟨rfl, rfl⟩ (fun t => ⟨⟨_, rfl⟩, rfl⟩) (fun t => ⟨⟨_, rfl⟩, rfl⟩) (.tail _ (.tail _ (.tail _ (.tail _ (.tail _ (.tail _ (.tail _ (.head _)))))))) hb (by decide) (by decide) (by rw [got_length]; decide) fun D5 wsD5 hwD5 p5 => ?_
  conv => whnf
  intro _
  conv => whnf
  refine v_got (.tail _ (.tail _ (.tail _ (.tail _ (.tail _ (.tail _ (.tail _ (.tail _ (.head _))))))))) hb (by decide) (by decide) (by decide) fun _ => ?_
  conv => whnf
  intro _
  conv => whnf
  refine ⟨by decide, fun _ => ?_⟩
  conv => whnf
  intro _
  conv => whnf
  refine ⟨mul_r (by decide) (by decide), ?_⟩
  intro _
  conv => whnf
  intro _
  conv => whnf
  refine v_got (.tail _ (.tail _ (.tail _ (.tail _ (.tail _ (.tail _ (.tail _ (.tail _ (.head _))))))))) hb (by decide) (by decide) (by decide) fun _ => ?_
  conv => whnf
  intro _
  conv => whnf
  refine ⟨by decide, fun _ => ?_⟩
  conv => whnf
  intro _
  conv => whnf
  intro _
  conv => whnf
  refine v_got (.tail _ (.tail _ (.tail _ (.tail _ (.tail _ (.tail _ (.tail _ (.tail _ (.head _))))))))) hb (by decide) (by decide) (by decide) fun _ => ?_
  conv => whnf
  intro _
  conv => whnf
  refine ⟨Nat.le_of_ble_eq_true rfl, fun D6 p6 => ?_⟩
  conv => whnf
  intro _
  conv => whnf
  refine v_got (.tail _ (.tail _ (.tail _ (.tail _ (.tail _ (.tail _ (.tail _ (.tail _ (.tail _ (.head _)))))))))) hb (by decide) (by decide) (by decide) fun _ => ?_
  conv => whnf
  intro _
  conv => whnf
  refine v_got (.tail _ (.tail _ (.tail _ (.tail _ (.tail _ (.tail _ (.tail _ (.tail _ (.tail _ (.head _)))))))))) hb (by decide) (by decide) (by decide) fun _ => ?_
  conv => whnf
  intro _
  conv => whnf
  refine v_got (.tail _ (.tail _ (.tail _ (.tail _ (.tail _ (.tail _ (.tail _ (.tail _ (.tail _ (.head _)))))))))) hb (by decide) (by decide) (by decide) fun _ => ?_
  conv => whnf
  intro _
  conv => whnf
  intro _
  conv => whnf
  refine v_got (.tail _ (.tail _ (.tail _ (.tail _ (.tail _ (.tail _ (.tail _ (.tail _ (.tail _ (.head _)))))))))) hb (by decide) (by decide) (by decide) fun _ => ?_
  conv => whnf
  refine ⟨mul_l (by decide) (by decide), ?_⟩
  intro _
  conv => whnf
  intro _
  conv => whnf
  intro _
  conv => whnf
  intro _
  conv => whnf
  refine v_got (.tail _ (.tail _ (.tail _ (.tail _ (.tail _ (.tail _ (.tail _ (.tail _ (.tail _ (.head _)))))))))) hb (by decide) (by decide) (by decide) fun _ => ?_
  conv => whnf
  refine ⟨mul_l (by decide) (by decide), ?_⟩
  intro _
  conv => whnf
  intro _
  conv => whnf
  refine ⟨Nat.le_of_ble_eq_true rfl, fun D7 p7 => ?_⟩
  conv => whnf
  refine v_catlit (.tail _ (.head _)) (.head _) (Nat.le_of_ble_eq_true rfl) fun D8 p8 => ?_
  conv => whnf
  refine v_and ok ?_
  conv => whnf
  refine v_eqints ok (Nat.le_of_ble_eq_true rfl) (.tail _ (.tail _ (.tail _ (.tail _ (.tail _ (.tail _ (.tail _ (.tail _ (.tail _ (.tail _ (.tail _ (.tail _ (hl))))))))))))) (.tail _ (.tail _ (.tail _ (.tail _ (.tail _ (.tail _ (.tail _ (.tail _ (.tail _ (.tail _ (.tail _ (.tail _ (hol))))))))))))) hi hoi ⟨rfl, ?_⟩
  conv => whnf
  refine v_blocks ok (.tail _ (.tail _ (.tail _ (.tail _ (.tail _ (.tail _ (.tail _ (.tail _ (.tail _ (.tail _ (.tail _ (.tail _ (hdk))))))))))))) (.tail _ (.tail _ (.tail _ (.tail _ (.tail _ (.tail _ (.tail _ (.tail _ (.tail _ (.tail _ (.tail _ (.tail _ (hdd))))))))))))) hbl ?_
  conv => whnf
  intro _
  conv => whnf
  generalize hq : decide ((pick read_right_v_P).b < 257) = q
  cases q
  · have hb2 : ¬ (pick read_right_v_P).b ≤ 256 := by have := of_decide_eq_false hq; omega
    conv => whnf
    refine v_slice ok ⟨rfl, rfl⟩ (fun t => ⟨⟨_, rfl⟩, rfl⟩) (fun t => ⟨⟨_, rfl⟩, rfl⟩) (.tail _ (.tail _ (.tail _ (.tail _ (.tail _ (.tail _ (.tail _ (.tail _ (.tail _ (.tail _ (.tail _ (.head _)))))))))))) hb (by decide) (by decide) (by rw [got_length]; decide) fun D9 wsD9 hw9 p9 => ?_
    conv => whnf
    refine ⟨_, _, law_pairs_v (.head _) hw9 ((congrArg List.length (got_slice _ _ 16 16 36 32 rfl (by decide))).trans (got_length _ _ _)), Nat.le_of_ble_eq_true rfl, ?_⟩
    rintro _ _ hp
    obtain ⟨l4, vs4, k4, rfl, h4, o4, rfl⟩ := hp
    conv => whnf
    refine ⟨Nat.le_of_ble_eq_true rfl, fun Da pa => ?_⟩
    conv => whnf
    refine v_catlit (.tail _ (.tail _ (.tail _ (.head _)))) (.head _) (Nat.le_of_ble_eq_true rfl) fun Db pb => ?_
    conv => whnf
    refine v_told ok (Nat.le_of_ble_eq_true rfl) (.tail _ (.tail _ (.tail _ (.tail _ (.tail _ (.tail _ (.tail _ (.tail _ (.tail _ (.head _)))))))))) (.head _) (.tail _ (.tail _ (.tail _ (.tail _ (.tail _ (.tail _ (.tail _ (.tail _ (.tail _ (.tail _ (.tail _ (.tail _ (.tail _ (.tail _ (.head _))))))))))))))) (.tail _ (.tail _ (.tail _ (.tail _ (.tail _ (.tail _ (.tail _ (.tail _ (.tail _ (.tail _ (.tail _ (.tail _ (.tail _ (.head _)))))))))))))) (.tail _ (.tail _ (.tail _ (.tail _ (.tail _ (.tail _ (.tail _ (.tail _ (.tail _ (.tail _ (.tail _ (.head _)))))))))))) (.tail _ (.tail _ (.tail _ (.tail _ (.tail _ (.tail _ (.tail _ (.tail _ (.head _))))))))) (.tail _ (.tail _ (.tail _ (.tail _ (.tail _ (.tail _ (.tail _ (.head _)))))))) (.tail _ (.tail _ (.head _))) h1 h2 h3 hwD4 hwD5 h4 (got_slice _ _ 1 11 36 12 rfl (by decide)).symm (got_slice _ _ 17 11 36 28 rfl (by decide)).symm ((mapv_b hb2 _).trans (congrArg prs (got_slice _ _ 16 16 36 32 rfl (by decide)).symm)) rfl rfl rfl rfl rfl ?_
    exact ⟨(pick read_right_v_P).news, fun _ hp => (.tail _ (.tail _ (.tail _ (.tail _ (.tail _ (.tail _ (.tail _ (.tail _ (.tail _ (.tail _ (.tail _ (.tail _ (.tail _ (.tail _ (.tail _ (.tail _ (hp))))))))))))))))), rfl, rfl⟩
  · have hb2 : (pick read_right_v_P).b ≤ 256 := by have := of_decide_eq_true hq; omega
    conv => whnf
    refine v_slice ok ⟨rfl, rfl⟩ (fun t => ⟨⟨_, rfl⟩, rfl⟩) (fun t => ⟨⟨_, rfl⟩, rfl⟩) (.tail _ (.tail _ (.tail _ (.tail _ (.tail _ (.tail _ (.tail _ (.tail _ (.tail _ (.tail _ (.tail _ (.head _)))))))))))) hb (by decide) (by decide) (by rw [got_length]; decide) fun D9 wsD9 hw9 p9 => ?_
    conv => whnf
    refine ⟨Nat.le_of_ble_eq_true rfl, fun Da pa => ?_⟩
    conv => whnf
    refine v_catlit (.tail _ (.tail _ (.head _))) (.head _) (Nat.le_of_ble_eq_true rfl) fun Db pb => ?_
    conv => whnf
    refine v_told ok (Nat.le_of_ble_eq_true rfl) (.tail _ (.tail _ (.tail _ (.tail _ (.tail _ (.tail _ (.tail _ (.tail _ (.head _))))))))) (.head _) (.tail _ (.tail _ (.tail _ (.tail _ (.tail _ (.tail _ (.tail _ (.tail _ (.tail _ (.tail _ (.tail _ (.tail _ (.tail _ (.head _)))))))))))))) (.tail _ (.tail _ (.tail _ (.tail _ (.tail _ (.tail _ (.tail _ (.tail _ (.tail _ (.tail _ (.tail _ (.tail _ (.head _))))))))))))) (.tail _ (.tail _ (.tail _ (.tail _ (.tail _ (.tail _ (.tail _ (.tail _ (.tail _ (.tail _ (.head _))))))))))) (.tail _ (.tail _ (.tail _ (.tail _ (.tail _ (.tail _ (.tail _ (.head _)))))))) (.tail _ (.tail _ (.tail _ (.tail _ (.tail _ (.tail _ (.head _))))))) (.tail _ (.tail _ (.head _))) h1 h2 h3 hwD4 hwD5 hw9 (got_slice _ _ 1 11 36 12 rfl (by decide)).symm (got_slice _ _ 17 11 36 28 rfl (by decide)).symm ((mapv_s hb2 _).trans (got_slice _ _ 16 16 36 32 rfl (by decide)).symm) rfl rfl rfl rfl rfl ?_
    exact ⟨(pick read_right_v_P).news, fun _ hp => (.tail _ (.tail _ (.tail _ (.tail _ (.tail _ (.tail _ (.tail _ (.tail _ (.tail _ (.tail _ (.tail _ (.tail _ (.tail _ (.tail _ (.tail _ (hp)))))))))))))))), rfl, rfl⟩

theorem read_right_v {news : Led} {l : Addr} {vs : List Value} {k : Nat} {ns : List Int} {i : Int} {tk : Tok} {ol : Addr} {ovs : List Value} {ok : Nat} {dk : Addr} {dd : Addr} {es : List DictEntry} {dn : Nat} {b : Int} {u : Tok} (hdk : (dk, instObj 67 dd) ∈ news) (hdd : (dd, dictOf es dn) ∈ news) (hbl : getL (Str.ofString "blocks") es = some (some (.int b u))) (hl : (l, listOf vs.toArray k) ∈ news) (hi : IntsAre vs ns) (hol : (ol, listOf ovs.toArray ok) ∈ news) (hoi : IntsAre ovs ns) (hz : Sz ns) (ho : Oct ns) :
    Sp 257 10 news [.ref l, .ref ol, .int i tk, .ref dk] (fun r news' => news' = news ∧ r = .bool true) :=
  read_right_v_c { news := news, l := l, vs := vs, k := k, ns := ns, i := i, tk := tk, ol := ol, ovs := ovs, ok := ok, dk := dk, dd := dd, es := es, dn := dn, b := b, u := u } hdk hdd hbl hl hi hol hoi hz ho
-- Vr
theorem sp_mono {f : Addr} {need : Nat} {news : Led} {vs : List Value} {P P' : Value → Led → Prop} (S : Sp f need news vs P) (h : ∀ r N, P r N → P' r N) : Sp f need news vs P' := by
  intro w mean mg mb dp un gd cn cs a ccd cl outer A₀ base h₀ L m s Q E B F X N T hk hd hu hret
  exact S w mean mg mb dp un gd cn cs a ccd cl outer A₀ base h₀ L m s Q E B F X N T hk hd hu fun r news' h' tk' F' N' hp => hret r news' h' tk' F' N' (h r news' hp)
/-- what a take leaves, at any ledger -/
noncomputable def TakeG (nl : Addr) (k : Nat) (nns : List Int) (i sd many : Int) (g : Obj → Led) (r : Value) (news' : Led) : Prop :=
  ∃ o', (∃ (t : Tok) (i' sd' : Int) (t1' t2' : Tok), r = .int (tkx nns i sd many) t ∧ 0 ≤ i' ∧ i' ≤ nns.length ∧ 0 ≤ sd' ∧ sd' < 2147483647 ∧ o' = listOf [.ref nl, .int i' t1', .int sd' t2'].toArray k) ∧ news' = g o'
theorem law_take_u {news : Led} {g : Obj → Led} {dl nl : Addr} {k kn : Nat} {nvs : List Value} {nns : List Int} {ix sd many : Int} {t1 t2 tk : Tok} (U : UpdF dl (listOf [.ref nl, .int ix t1, .int sd t2].toArray k) news g) (hn : (nl, listOf nvs.toArray kn) ∈ news) (hd : @Ne Nat nl dl)
    (hni : IntsAre nvs nns) (hl : nns.length ≤ 64) (h0 : 0 ≤ ix) (h1 : ix ≤ nns.length) (h2 : 0 ≤ sd) (h3 : sd < 2147483647) (h4 : 0 < many) : Sp 233 1 news [.ref dl, .int many tk] (TakeG nl k nns ix sd many g) := by
  refine sp_upd U fun rest hne hin => sp_mono (law_take_v (hin _ hn hd) hni hne hl h0 h1 h2 h3 h4) ?_
  rintro r N ⟨t, i', sd', t1', t2', rfl, a, b, c, d, rfl⟩
  exact ⟨_, ⟨t, i', sd', t1', t2', rfl, a, b, c, d, rfl⟩, rfl⟩
-- Ds
/-- (e1, e2, ..) -/
theorem v_tuple {c : Cx} (ok : c.Ok) {elts : List Expr} {k : Nat} {pos : Pos} {σ : St} {K : Value → St → Prop} (h : wpArgs (wpX c) elts σ fun vs σ1 => vs.length ≤ 1000 ∧ ∀ D, LCg.Off1 D σ1.2 → K (.ref D) (σ1.1, (D, ({ cls := .type "tuple", data := .seq vs.toArray } : Obj)) :: σ1.2)) :
    V c (eval (.Tuple elts k pos) c.env) σ K :=
  ⟨fun s E Q hE ha kk => Tuple_ ((wpArgs_ok (fun e σ K h => wpX_ok ok h) h).go hE ha (Sim.refl s) fun vs σ1 s1 a1 z1 h1 => kup_newTuple a1.1 a1.2 (fun D h' F' N' l1 => kk _ (σ1.1, (D, _) :: σ1.2) { s1 with heap := h' } ⟨F', N'⟩ (z1.trans ⟨rfl, rfl, rfl⟩) (h1.2 D (off1_of l1))) (by rw [PySem.sizeLine_eq]; have := h1.1; omega))⟩
theorem v_in {c : Cx} {σ : St} {D : Addr} {vs : List Value} {ns : List Int} {x : Int} {u : Tok} {K : Value → St → Prop} (hm : (D, ({ cls := .type "tuple", data := .seq vs.toArray } : Obj)) ∈ σ.2) (hi : IntsAre vs ns) (h : K (.bool (ns.any (· == x))) σ) : V c (compareOp .In (.int x u) (.ref D)) σ K :=
  ⟨fun s E Q _ ha k => in_tuple_ints (News.isTup ha.2 hm) hi (k _ _ _ ha (Sim.refl s) h)⟩
/-- x[lo:] -/
theorem v_slice1 {c : Cx} (ok : c.Ok) {vn : Str} {vp sp q : Pos} {lo : Expr} {σ : St} {K : Value → St → Prop} {D : Addr} {vs : List Value} {ns : List Int} {n : Nat} {x : Int} (hv : nmF c vn σ fun v σ1 => v = .ref D ∧ σ1 = σ)
    (hlo : wpX c lo σ fun v σ1 => (∃ t, v = .int x t) ∧ σ1 = σ) (hm : (D, listOf vs.toArray n) ∈ σ.2) (hi' : IntsAre vs ns) (hx : 0 ≤ x) (hx2 : x ≤ ns.length) (hz : ns.length ≤ 1000)
    (h : ∀ D' ws, IntsAre ws (ns.drop x.toNat) → LCg.Off1 D' σ.2 → K (.ref D') (σ.1, (D', listOf ws.toArray 0) :: σ.2)) :
    V c (eval (.Subscript (.Name vn vp) (.Slice (some lo) none none sp) q) c.env) σ K := by
  refine ⟨fun s E Q hE ha k => Subscript_ ((nmF_ok ok hv).go hE ha (Sim.refl s) fun v σ1 s1 a1 z1 h1 => ?_)⟩
  obtain ⟨rfl, rfl⟩ := h1
  refine wpAny_Slice (evalPart_some_step ((wpX_ok ok hlo).go hE a1 z1 fun v σ2 s2 a2 z2 h2 => ?_))
  obtain ⟨⟨t, rfl⟩, rfl⟩ := h2
  refine evalPart_none_step (evalPart_none_step ?_)
  exact kmk_slice_ints a2.1 a2.2 (News.isList a2.2 hm) (IsPart.int _ _) IsPart.none hi' (slice_ints_from hi' hx hx2) rfl
    (fun D' ws h' F' N' l1 hw _ _ => k _ (σ2.1, (D', listOf ws.toArray 0) :: σ2.2) { s2 with heap := h' } ⟨F', N'⟩ (z2.trans ⟨rfl, rfl, rfl⟩) (h D' ws hw (off1_of l1))) (by with_unfolding_all rfl) (by intro _; with_unfolding_all rfl)
    (by rw [PySem.sizeLine_eq, List.size_toArray, hi'.length]; omega)
/-- [elt for x in range(n)], the element calls: by what holds of the ledger and the values between the turns -/
theorem v_compJ {c : Cx} (ok : c.Ok) {elt ra : Expr} {x : Str} {px rp cp pos : Pos} {scope : Scope} {cl : List (Str × Addr)} {σ : St} {K : Value → St → Prop} {n : Nat} (J : Nat → List Value → Led → Prop)
    (hrg : nmF c (Str.ofString "range") σ fun v σ1 => v = .type "range" ∧ σ1 = σ) (hp : plainE ra = true) (hra : wpX c ra σ fun v σ1 => (∃ t, v = .int (n : Nat) t) ∧ σ1 = σ) (hn : n ≤ 1000)
    (hcl : closureFor scope c.env = pure cl) (h1 : ∀ y ∈ scope.names, y.2 ≠ .cell) (h2 : scope.kind = .function) (h3 : ∀ y ∈ scope.names, y.2 = .local → scope.names.lookup y.1 = some .local) (h4 : scope.names.lookup x = some .local)
    (hk : (relabel scope c.env).kind = .function) (h0 : J 0 [] σ.2)
    (turn : ∀ i t I oI C oC D ys nw, J i ys nw → LCg.Off3 I C D nw → ((@Ne Nat I C) ∧ (@Ne Nat I D) ∧ (@Ne Nat C D)) →
      wpE c.comp (compEnvC scope cl C c.env) (nmC c scope cl C oC x (.int (0 + (i : Nat)) t)) 8 elt (σ.1, (I, oI) :: (C, oC) :: (D, LCg.lst ys) :: nw) (fun v σ' => σ'.1 = σ.1 ∧ ∃ nw', (∀ p ∈ (I, oI) :: (C, oC) :: (D, LCg.lst ys) :: nw', p ∈ σ'.2) ∧ LCg.Off3 I C D nw' ∧ J (i + 1) (ys ++ [v]) nw'))
    (done : ∀ D ys nw, J n ys nw → LCg.Off1 D nw → K (.ref D) (σ.1, (D, LCg.lst ys) :: nw)) :
    V c (eval (.ListComp elt [⟨.Name x px, .Call (.Name (Str.ofString "range") rp) [ra] [] cp, [], 0⟩] scope pos) c.env) σ K := by
  refine ⟨fun s E Q hE ha k => LCg.ListComp_U ha.1 hcl h1 h2 h3 h4 ?_ (by intro _; rfl)⟩
  refine Call_ ((nmF_ok ok hrg).go hE ha (Sim.refl s) fun fv σ1 s1 a1 z1 q1 => ?_) rfl
  obtain ⟨rfl, rfl⟩ := q1
  refine Pv.callWith_type1 (args_cons ((wpX_ok ok hra).go hE a1 z1 fun v σ2 s2 a2 z2 q2 => args_nil ?_) (star_plain hp _ _)) (star_plain hp _ _)
  obtain ⟨⟨t, rfl⟩, rfl⟩ := q2
  refine range1_rows a2.1 a2.2 fun h' tk t1 u1 v1 hR F' N' keep => ?_
  refine LCg.CompSrc.range rfl F' N' hR (small_one (by decide) (by decide) (by omega) (by omega)) (by rw [rangeSize_nat]) (by rw [PySem.sizeLine_eq]; omega) fun gh => ?_
  have key : ∀ (r i : Nat) (ys : List Value) (nw : Led), i + r = n → J i ys nw → LCg.CompRest PR c.w c.A c.h₀ c.L σ2.1 c.env elt x scope cl { { s2 with heap := h', toks := tk } with heap := gh } (fun _ => True) (fun i v => ∃ t, v = .int (0 + (i : Int)) t)
      (LCg.FinE c.h₀ c.L σ2.1 { { s2 with heap := h', toks := tk } with heap := gh } Q) r i ys nw := by
    intro r
    induction r with
    | zero =>
      intro i ys nw hi hj
      have e : i = n := by omega
      subst e
      refine LCg.CompRest.zero fun D h tk F3 N3 o1 => ?_
      exact k _ (σ2.1, (D, LCg.lst ys) :: nw) _ ⟨F3, N3⟩ (z2.trans ⟨rfl, rfl, rfl⟩) (done D ys nw hj o1)
    | succ r ih =>
      intro i ys nw hi hj
      refine LCg.CompRest.succ fun v I oI C oC D m₂ h tk E' hv hC hx F2 N2 off ne => ?_
      obtain ⟨t, rfl⟩ := hv
      refine (wpE_ok (Cx.Ok.comp ok) (fun _ _ _ _ hh => nmC_ok ok hk hC hx hh) 8 elt _ _ (turn i t I oI C oC D ys nw hj off ne)).out _ E' _ (fun q => by cases q) ⟨F2, N2⟩ fun v σ3 s3 a3 z3 q3 => ?_
      obtain ⟨e, nw', hs, off', hj'⟩ := q3
      rw [z3.eq]
      exact LCg.CompEnd.intro (e ▸ a3.1) a3.2 nw' hs off' trivial (ih (i + 1) _ nw' (by omega) hj')
  exact key n 0 [] σ2.2 (by omega) h0
/-- a take whose value is known -/
noncomputable def TakeK (nl : Addr) (k : Nat) (nns : List Int) (c : Int) (g : Obj → Led) (r : Value) (news' : Led) : Prop :=
  ∃ (t : Tok) (i' sd' : Int) (t1' t2' : Tok), r = .int c t ∧ 0 ≤ i' ∧ i' ≤ nns.length ∧ 0 ≤ sd' ∧ sd' < 2147483647 ∧ news' = g (listOf [.ref nl, .int i' t1', .int sd' t2'].toArray k)
/-- a take whose value is bounded -/
noncomputable def TakeX (nl : Addr) (k : Nat) (nns : List Int) (many : Int) (g : Obj → Led) (r : Value) (news' : Led) : Prop :=
  ∃ (x : Int) (t : Tok) (i' sd' : Int) (t1' t2' : Tok), r = .int x t ∧ 0 ≤ x ∧ x < many ∧ 0 ≤ i' ∧ i' ≤ nns.length ∧ 0 ≤ sd' ∧ sd' < 2147483647 ∧ news' = g (listOf [.ref nl, .int i' t1', .int sd' t2'].toArray k)
section
variable {news : Led} {g : Obj → Led} {dl nl : Addr} {k kn : Nat} {nvs : List Value} {nns : List Int} {ix sd many c : Int} {t1 t2 tk : Tok}
theorem law_take_k (U : UpdF dl (listOf [.ref nl, .int ix t1, .int sd t2].toArray k) news g) (hn : (nl, listOf nvs.toArray kn) ∈ news) (hd : @Ne Nat nl dl)
    (hni : IntsAre nvs nns) (hl : nns.length ≤ 64) (h0 : 0 ≤ ix) (h1 : ix ≤ nns.length) (h2 : 0 ≤ sd) (h3 : sd < 2147483647) (h4 : 0 < many) (e : tkx nns ix sd many = c) : Sp 233 1 news [.ref dl, .int many tk] (TakeK nl k nns c g) := by
  refine sp_mono (law_take_u U hn hd hni hl h0 h1 h2 h3 h4) ?_
  rintro r N ⟨o', ⟨t, i', sd', t1', t2', rfl, a, b, c, d, rfl⟩, rfl⟩
  subst e
  exact ⟨t, i', sd', t1', t2', rfl, a, b, c, d, rfl⟩
theorem law_take_x (U : UpdF dl (listOf [.ref nl, .int ix t1, .int sd t2].toArray k) news g) (hn : (nl, listOf nvs.toArray kn) ∈ news) (hd : @Ne Nat nl dl)
    (hni : IntsAre nvs nns) (hl : nns.length ≤ 64) (h0 : 0 ≤ ix) (h1 : ix ≤ nns.length) (h2 : 0 ≤ sd) (h3 : sd < 2147483647) (h4 : 0 < many) : Sp 233 1 news [.ref dl, .int many tk] (TakeX nl k nns many g) := by
  refine sp_mono (law_take_u U hn hd hni hl h0 h1 h2 h3 h4) ?_
  rintro r N ⟨o', ⟨t, i', sd', t1', t2', rfl, a, b, c, d, rfl⟩, rfl⟩
  exact ⟨_, t, i', sd', t1', t2', rfl, tkx_lo h4, tkx_hi h4, a, b, c, d, rfl⟩
end
/-- what a deed leaves, told of a ledger with the deal and the memory ahead -/
noncomputable def DeedOut (dl nl l : Addr) (kd k : Nat) (nns : List Int) (rest : Led) (r : Value) (news' : Led) : Prop :=
  ∃ (os : List Int) (v1 v2 : List Value) (l' : Addr) (k' : Nat) (ix' sd' : Int) (t1' t2' : Tok), r = .ref l' ∧ IntsAre v1 os ∧ IntsAre v2 os ∧ Sz os ∧ Oct os ∧ 0 ≤ ix' ∧ ix' ≤ nns.length ∧ 0 ≤ sd' ∧ sd' < 2147483647 ∧ @Ne Nat dl l' ∧ @Ne Nat l l' ∧ LCg.Off1 l' rest ∧
    news' = (dl, listOf [.ref nl, .int ix' t1', .int sd' t2'].toArray kd) :: (l, listOf v1.toArray k) :: (l', listOf v2.toArray k') :: rest
theorem DeedOut.of {dl nl l l' : Addr} {kd k k' : Nat} {nns a b : List Int} {rest : Led} {v1 v2 : List Value} {ix' sd' : Int} {t1' t2' : Tok} (h1 : IntsAre v1 a) (h2 : IntsAre v2 b) (e : a = b) (hz : Sz b) (ho : Oct b) (q1 : 0 ≤ ix') (q2 : ix' ≤ nns.length) (q3 : 0 ≤ sd') (q4 : sd' < 2147483647) (n1 : @Ne Nat dl l') (n2 : @Ne Nat l l') (n3 : LCg.Off1 l' rest) :
    DeedOut dl nl l kd k nns rest (.ref l') ((dl, listOf [.ref nl, .int ix' t1', .int sd' t2'].toArray kd) :: (l, listOf v1.toArray k) :: (l', listOf v2.toArray k') :: rest) :=
  ⟨b, v1, v2, l', k', ix', sd', t1', t2', rfl, e ▸ h1, h2, hz, ho, q1, q2, q3, q4, n1, n2, n3, rfl⟩
theorem hd_ne {l dl : Addr} {o : Obj} {rest : Led} (h : @Ne Nat l dl) (hne : ∀ p ∈ rest, p.1 ≠ dl) : ∀ p ∈ (l, o) :: rest, p.1 ≠ dl := List.forall_mem_cons.mpr ⟨h, hne⟩
theorem cell_ne {L a : Addr} {o : Obj} {l : Led} (h : ∀ p ∈ l, p.1 < L) (hm : (a, o) ∈ l) : @Ne Nat (L + 1) a := Ne.symm (Nat.ne_of_lt (Nat.lt_succ_of_lt (h _ hm)))
-- Dt
theorem oct_app {a b : List Int} (ha : Oct a) (hb : Oct b) : Oct (a ++ b) := fun y hy => (List.mem_append.mp hy).elim (ha y) (hb y)
theorem oct_snoc {a : List Int} {x : Int} (ha : Oct a) (h0 : 0 ≤ x) (h1 : x < 256) : Oct (a ++ [x]) := oct_app ha (Oct.cons h0 h1 Oct.nil)
theorem oct_sub {a b : List Int} (ha : Oct a) (h : ∀ y ∈ b, y ∈ a) : Oct b := fun y hy => ha y (h y hy)
theorem flat_len {k n : Nat} {l : List Int} (h : l.length = n) : (List.replicate k l).flatten.length = k * n := by
  rw [List.length_flatten, List.map_replicate, h, List.sum_replicate_nat]
theorem oct_begin {x : Int} (h0 : 0 ≤ x) (h1 : x < 2048) : Oct ([x % 32, 0, x / 32 + 128] ++ (List.replicate (Int.toNat 17) [(0 : Int)]).flatten) :=
  oct_app (Oct.cons (by omega) (by omega) (Oct.cons (by decide) (by decide) (Oct.cons (by omega) (by omega) Oct.nil))) (oct_flat (Oct.cons (by decide) (by decide) Oct.nil) _)
theorem sl_len {row : List Int} (h : row.length = 32) : (List.take (min (Int.toNat 14) row.length - Int.toNat 1) (List.drop (Int.toNat 1) row)).length = 13 := by
  rw [List.length_take, List.length_drop, h]; rfl
theorem oct_take {row : List Int} (ho : Oct row) (h : row.length = 32) : Oct (List.take (min (Int.toNat 14) row.length - Int.toNat 1) (List.drop (Int.toNat 1) row) ++ [row.getD (Int.toNat 14) 0 % 128 + 128] ++ List.drop (Int.toNat 15) row) :=
  oct_app (oct_app (oct_sub ho fun y hy => List.mem_of_mem_drop (List.mem_of_mem_take hy)) (Oct.cons (by omega) (by omega) Oct.nil)) (oct_sub ho fun y hy => List.mem_of_mem_drop hy)
theorem oct_fcb {nm : List Int} (h : Oct nm) : Oct ([3] ++ nm ++ (List.replicate (Int.toNat 24) [(0 : Int)]).flatten) :=
  oct_app (oct_app (Oct.cons (by decide) (by decide) Oct.nil) h) (oct_flat (Oct.cons (by decide) (by decide) Oct.nil) _)
-- D0

noncomputable def deed_0_P (m : Pm) : Prop := (IntsAre m.nvs m.nns) → (IntsAre m.vs m.ns) → (IntsAre m.ovs m.ns) → ((m.nl, listOf m.nvs.toArray m.kn) ∈ m.rest) → ((m.ol, listOf m.ovs.toArray m.ok) ∈ m.rest) → ((m.dk, instObj 67 m.dd) ∈ m.rest) → ((m.dd, dictOf m.es m.dn) ∈ m.rest) → (getL (Str.ofString "blocks") m.es = some (some (.int m.b m.u))) → (m.b = 20 ∨ m.b = 300) → (Sz m.ns) → (Oct m.ns) → (0 ≤ m.ix) → (m.ix ≤ m.nns.length) → (0 ≤ m.sd) → (m.sd < 2147483647) → (m.nns.length ≤ 64) → (∀ p ∈ m.rest, p.1 ≠ m.dl) → (∀ p ∈ m.rest, p.1 ≠ m.l) → (@Ne Nat m.l m.dl) → (tkx m.nns m.ix m.sd 9 = 0) → Sp 262 20 ((m.dl, listOf [.ref m.nl, .int m.ix m.t1, .int m.sd m.t2].toArray m.kd) :: (m.l, listOf m.vs.toArray m.k) :: m.rest) [.ref m.dl, .ref m.l, .ref m.ol, .int m.i m.tk, .ref m.dk] (DeedOut m.dl m.nl m.l m.kd m.k m.nns m.rest)
set_option maxHeartbeats 20000000 in
theorem deed_0_c : ∀ m : Pm, deed_0_P m := by
  refine eps ?_
  intro hni hi hoi hn hol hdk hdd hbl hb hz ho h0 h1 h2 h3 hl hne hne2 hdl hkc
  refine' sp_enterC [Str.ofString "deal", Str.ofString "memory", Str.ofString "octets", Str.ofString "at", Str.ofString "disk"] ?hf ?hc ?hb ?hl ?h2 ?h3 ?h4 ?h5 (epsR ?h)
  (case hf => intro _; k_is)
  (case hc => intro _; k_is)
  (case hb => intro _; exact BindsTo.of_eq rfl)
  (case hl => exact rfl)
  (case h2 => exact rfl)
  (case h3 => exact rfl)
  (case h4 => exact rfl)
  (case h5 => decide)
  intro ok cells Y l1
  obtain ⟨o1, rfl, d1⟩ := CellsAre.one Y
  have hCd := cell_ne l1 (.head _)
  have hCl := cell_ne l1 (.tail _ (.head _))
  have hnd : @Ne Nat (pick deed_0_P).nl (pick deed_0_P).dl := hne _ hn
  conv => whnf
  refine v_assign2t ok rfl rfl rfl rfl rfl rfl ?_
  conv => whnf
  refine ⟨_, _, _, rfl, .head _, d1, ?_⟩
  conv => whnf
  intro _
  conv => whnf
  refine ⟨_, _, law_take_k (.tail hCd (.head (hd_ne hdl hne))) (.tail _ (.tail _ (.tail _ (hn)))) hnd hni hl h0 h1 h2 h3 (by decide) hkc, Nat.le_of_ble_eq_true rfl, ?_⟩
  rintro _ _ ⟨_, ix1, sd1, _, _, rfl, ta1, tb1, tc1, td1, rfl⟩
  conv => whnf
  intro _
  conv => whnf
  refine ⟨_, _, law_got_v (n := 36) (.tail _ (.tail _ (.tail _ (hol)))) hoi hz (by decide), Nat.le_of_ble_eq_true rfl, ?_⟩
  rintro _ _ hp
  obtain ⟨lb, vb, kb, rfl, hb', ob, rfl⟩ := hp
  conv => whnf
  intro _
  conv => whnf
  refine ⟨_, _, _, rfl, .tail _ (.head _), d1, ?_⟩
  conv => whnf
  intro _
  conv => whnf
  refine ⟨_, _, law_take_x (.tail (Ne.symm ob.2.1) (.tail hCd (.head (hd_ne hdl hne)))) (.tail _ (.tail _ (.tail _ (.tail _ (hn))))) hnd hni hl ta1 tb1 tc1 td1 (by decide), Nat.le_of_ble_eq_true rfl, ?_⟩
  rintro _ _ ⟨x, _, ix2, sd2, _, _, rfl, x0, x1, ta2, tb2, tc2, td2, rfl⟩
  conv => whnf
  refine ⟨_, _, sp_of_head (.tail (Ne.symm ob.2.2.1) (.tail hCl (.tail (Ne.symm hdl) (.head hne2)))) fun rest' hne' hin => set_extent_v hne' hi hz, Nat.le_of_ble_eq_true rfl, ?_⟩
  rintro _ _ ⟨_, ⟨rfl, _, rfl, hm⟩, rfl⟩
  conv => whnf
  intro _
  conv => whnf
  intro _
  conv => whnf
  intro _
  conv => whnf
  refine ⟨by decide, fun _ => ?_⟩
  conv => whnf
  refine ⟨Nat.le_of_ble_eq_true rfl, fun DR oR => ?_⟩
  conv => whnf
  refine ⟨_, _, law_put_v (.tail _ (.tail _ (.tail _ (.tail _ (.tail _ (hol)))))) hoi (.head _) (.cons _ _ .nil) hz, Nat.le_of_ble_eq_true rfl, ?_⟩
  rintro _ _ hp
  obtain ⟨lp3, vp3, kp3, rfl, hp3, op3, rfl⟩ := hp
  conv => whnf
  intro _
  conv => whnf
  intro _
  conv => whnf
  intro _
  conv => whnf
  refine ⟨by decide, by decide, fun _ => ?_⟩
  conv => whnf
  intro _
  conv => whnf
  refine ⟨by decide, fun _ => ?_⟩
  conv => whnf
  intro _
  conv => whnf
  intro _
  conv => whnf
  refine ⟨Nat.le_of_ble_eq_true rfl, fun DR2 oR2 => ?_⟩
  conv => whnf
  refine ⟨_, _, law_put_v (.tail _ (.head _)) hp3 (.head _) (.cons _ _ .nil) (hz.put _ _), Nat.le_of_ble_eq_true rfl, ?_⟩
  rintro _ _ hp
  obtain ⟨lp4, vp4, kp4, rfl, hp4, op4, rfl⟩ := hp
  exact ⟨((pick deed_0_P).dl, _) :: ((pick deed_0_P).l, _) :: (lp4, _) :: (pick deed_0_P).rest, List.forall_mem_cons.mpr ⟨(.tail _ (.tail _ (.tail _ (.tail _ (.tail _ (.tail _ (.head _))))))), List.forall_mem_cons.mpr ⟨(.tail _ (.tail _ (.tail _ (.tail _ (.tail _ (.tail _ (.tail _ (.head _)))))))), List.forall_mem_cons.mpr ⟨(.head _), fun _ hp => (.tail _ (.tail _ (.tail _ (.tail _ (.tail _ (.tail _ (.tail _ (.tail _ (hp)))))))))⟩⟩⟩, DeedOut.of hm hp4 (rfl) ((hz.put _ _).put _ _) (by repeat' (first | with_reducible assumption | exact Oct.nil | refine Oct.put ?_ _ ?_ | refine Oct.cons ?_ ?_ ?_ | omega)) ta2 tb2 tc2 td2 op4.2.2.2.2.2.1 op4.2.2.2.2.2.2.1 (op4.2.2.2.2.2.2.2)⟩

theorem deed_0 {rest : Led} {dl : Addr} {nl : Addr} {l : Addr} {ol : Addr} {dk : Addr} {dd : Addr} {k : Nat} {kd : Nat} {kn : Nat} {ok : Nat} {dn : Nat} {vs : List Value} {ovs : List Value} {nvs : List Value} {ns : List Int} {nns : List Int} {es : List DictEntry} {ix : Int} {sd : Int} {i : Int} {b : Int} {u : Tok} {t1 : Tok} {t2 : Tok} {tk : Tok} (hni : IntsAre nvs nns) (hi : IntsAre vs ns) (hoi : IntsAre ovs ns) (hn : (nl, listOf nvs.toArray kn) ∈ rest) (hol : (ol, listOf ovs.toArray ok) ∈ rest) (hdk : (dk, instObj 67 dd) ∈ rest) (hdd : (dd, dictOf es dn) ∈ rest) (hbl : getL (Str.ofString "blocks") es = some (some (.int b u))) (hb : b = 20 ∨ b = 300) (hz : Sz ns) (ho : Oct ns) (h0 : 0 ≤ ix) (h1 : ix ≤ nns.length) (h2 : 0 ≤ sd) (h3 : sd < 2147483647) (hl : nns.length ≤ 64) (hne : ∀ p ∈ rest, p.1 ≠ dl) (hne2 : ∀ p ∈ rest, p.1 ≠ l) (hdl : @Ne Nat l dl) (hkc : tkx nns ix sd 9 = 0) :
    Sp 262 20 ((dl, listOf [.ref nl, .int ix t1, .int sd t2].toArray kd) :: (l, listOf vs.toArray k) :: rest) [.ref dl, .ref l, .ref ol, .int i tk, .ref dk] (DeedOut dl nl l kd k nns rest) :=
  deed_0_c { rest := rest, dl := dl, nl := nl, l := l, ol := ol, dk := dk, dd := dd, k := k, kd := kd, kn := kn, ok := ok, dn := dn, vs := vs, ovs := ovs, nvs := nvs, ns := ns, nns := nns, es := es, ix := ix, sd := sd, i := i, b := b, u := u, t1 := t1, t2 := t2, tk := tk } hni hi hoi hn hol hdk hdd hbl hb hz ho h0 h1 h2 h3 hl hne hne2 hdl hkc
-- D1

noncomputable def deed_1_P (m : Pm) : Prop := (IntsAre m.nvs m.nns) → (IntsAre m.vs m.ns) → (IntsAre m.ovs m.ns) → ((m.nl, listOf m.nvs.toArray m.kn) ∈ m.rest) → ((m.ol, listOf m.ovs.toArray m.ok) ∈ m.rest) → ((m.dk, instObj 67 m.dd) ∈ m.rest) → ((m.dd, dictOf m.es m.dn) ∈ m.rest) → (getL (Str.ofString "blocks") m.es = some (some (.int m.b m.u))) → (m.b = 20 ∨ m.b = 300) → (Sz m.ns) → (Oct m.ns) → (0 ≤ m.ix) → (m.ix ≤ m.nns.length) → (0 ≤ m.sd) → (m.sd < 2147483647) → (m.nns.length ≤ 64) → (∀ p ∈ m.rest, p.1 ≠ m.dl) → (∀ p ∈ m.rest, p.1 ≠ m.l) → (@Ne Nat m.l m.dl) → (tkx m.nns m.ix m.sd 9 = 1) → Sp 262 20 ((m.dl, listOf [.ref m.nl, .int m.ix m.t1, .int m.sd m.t2].toArray m.kd) :: (m.l, listOf m.vs.toArray m.k) :: m.rest) [.ref m.dl, .ref m.l, .ref m.ol, .int m.i m.tk, .ref m.dk] (DeedOut m.dl m.nl m.l m.kd m.k m.nns m.rest)
set_option maxHeartbeats 20000000 in
theorem deed_1_c : ∀ m : Pm, deed_1_P m := by
  refine eps ?_
  intro hni hi hoi hn hol hdk hdd hbl hb hz ho h0 h1 h2 h3 hl hne hne2 hdl hkc
  refine' sp_enterC [Str.ofString "deal", Str.ofString "memory", Str.ofString "octets", Str.ofString "at", Str.ofString "disk"] ?hf ?hc ?hb ?hl ?h2 ?h3 ?h4 ?h5 (epsR ?h)
  (case hf => intro _; k_is)
  (case hc => intro _; k_is)
  (case hb => intro _; exact BindsTo.of_eq rfl)
  (case hl => exact rfl)
  (case h2 => exact rfl)
  (case h3 => exact rfl)
  (case h4 => exact rfl)
  (case h5 => decide)
  intro ok cells Y l1
  obtain ⟨o1, rfl, d1⟩ := CellsAre.one Y
  have hCd := cell_ne l1 (.head _)
  have hCl := cell_ne l1 (.tail _ (.head _))
  have hnd : @Ne Nat (pick deed_1_P).nl (pick deed_1_P).dl := hne _ hn
  conv => whnf
  refine v_assign2t ok rfl rfl rfl rfl rfl rfl ?_
  conv => whnf
  refine ⟨_, _, _, rfl, .head _, d1, ?_⟩
  conv => whnf
  intro _
  conv => whnf
  refine ⟨_, _, law_take_k (.tail hCd (.head (hd_ne hdl hne))) (.tail _ (.tail _ (.tail _ (hn)))) hnd hni hl h0 h1 h2 h3 (by decide) hkc, Nat.le_of_ble_eq_true rfl, ?_⟩
  rintro _ _ ⟨_, ix1, sd1, _, _, rfl, ta1, tb1, tc1, td1, rfl⟩
  conv => whnf
  intro _
  conv => whnf
  refine ⟨_, _, law_got_v (n := 36) (.tail _ (.tail _ (.tail _ (hol)))) hoi hz (by decide), Nat.le_of_ble_eq_true rfl, ?_⟩
  rintro _ _ hp
  obtain ⟨lb, vb, kb, rfl, hb', ob, rfl⟩ := hp
  conv => whnf
  intro _
  conv => whnf
  intro _
  conv => whnf
  refine ⟨_, _, _, rfl, .tail _ (.head _), d1, ?_⟩
  conv => whnf
  intro _
  conv => whnf
  refine ⟨_, _, law_take_x (.tail (Ne.symm ob.2.1) (.tail hCd (.head (hd_ne hdl hne)))) (.tail _ (.tail _ (.tail _ (.tail _ (hn))))) hnd hni hl ta1 tb1 tc1 td1 (by decide), Nat.le_of_ble_eq_true rfl, ?_⟩
  rintro _ _ ⟨x, _, ix2, sd2, _, _, rfl, x0, x1, ta2, tb2, tc2, td2, rfl⟩
  conv => whnf
  intro _
  conv => whnf
  generalize hq : (x == (1 : Int)) = q
  cases q
  · conv => whnf
    refine ⟨_, _, sp_of_head (.tail (Ne.symm ob.2.2.1) (.tail hCl (.tail (Ne.symm hdl) (.head hne2)))) fun rest' hne' hin => mark_changed_v hne' hi hz, Nat.le_of_ble_eq_true rfl, ?_⟩
    rintro _ _ ⟨_, ⟨rfl, _, rfl, hm⟩, rfl⟩
    conv => whnf
    intro _
    conv => whnf
    intro _
    conv => whnf
    intro _
    conv => whnf
    refine v_got (.head _) hb' (by decide) (by decide) (by decide) fun _ => ?_
    conv => whnf
    intro _
    conv => whnf
    refine ⟨by decide, fun _ => ?_⟩
    conv => whnf
    intro _
    conv => whnf
    intro _
    conv => whnf
    refine ⟨Nat.le_of_ble_eq_true rfl, fun DR oR => ?_⟩
    conv => whnf
    refine ⟨_, _, law_put_v (.tail _ (.tail _ (.tail _ (.tail _ (.tail _ (hol)))))) hoi (.head _) (.cons _ _ .nil) hz, Nat.le_of_ble_eq_true rfl, ?_⟩
    rintro _ _ hp
    obtain ⟨lp3, vp3, kp3, rfl, hp3, op3, rfl⟩ := hp
    exact ⟨((pick deed_1_P).dl, _) :: ((pick deed_1_P).l, _) :: (lp3, _) :: (pick deed_1_P).rest, List.forall_mem_cons.mpr ⟨(.tail _ (.tail _ (.tail _ (.tail _ (.head _))))), List.forall_mem_cons.mpr ⟨(.tail _ (.tail _ (.tail _ (.tail _ (.tail _ (.head _)))))), List.forall_mem_cons.mpr ⟨(.head _), fun _ hp => (.tail _ (.tail _ (.tail _ (.tail _ (.tail _ (.tail _ (hp)))))))⟩⟩⟩, DeedOut.of hm hp3 (rfl) (hz.put _ _) (by repeat' (first | with_reducible assumption | exact Oct.nil | refine Oct.put ?_ _ ?_ | refine Oct.cons ?_ ?_ ?_ | omega)) ta2 tb2 tc2 td2 op3.2.2.2.1 op3.2.2.2.2.1 (op3.2.2.2.2.2)⟩
  · conv => whnf
    refine ⟨_, _, sp_of_head (.tail (Ne.symm ob.2.2.1) (.tail hCl (.tail (Ne.symm hdl) (.head hne2)))) fun rest' hne' hin => mark_changed_v hne' hi hz, Nat.le_of_ble_eq_true rfl, ?_⟩
    rintro _ _ ⟨_, ⟨rfl, _, rfl, hm⟩, rfl⟩
    conv => whnf
    intro _
    conv => whnf
    intro _
    conv => whnf
    intro _
    conv => whnf
    refine v_got (.head _) hb' (by decide) (by decide) (by decide) fun _ => ?_
    conv => whnf
    intro _
    conv => whnf
    refine ⟨by decide, fun _ => ?_⟩
    conv => whnf
    intro _
    conv => whnf
    intro _
    conv => whnf
    refine ⟨Nat.le_of_ble_eq_true rfl, fun DR oR => ?_⟩
    conv => whnf
    refine ⟨_, _, law_put_v (.tail _ (.tail _ (.tail _ (.tail _ (.tail _ (hol)))))) hoi (.head _) (.cons _ _ .nil) hz, Nat.le_of_ble_eq_true rfl, ?_⟩
    rintro _ _ hp
    obtain ⟨lp3, vp3, kp3, rfl, hp3, op3, rfl⟩ := hp
    exact ⟨((pick deed_1_P).dl, _) :: ((pick deed_1_P).l, _) :: (lp3, _) :: (pick deed_1_P).rest, List.forall_mem_cons.mpr ⟨(.tail _ (.tail _ (.tail _ (.tail _ (.head _))))), List.forall_mem_cons.mpr ⟨(.tail _ (.tail _ (.tail _ (.tail _ (.tail _ (.head _)))))), List.forall_mem_cons.mpr ⟨(.head _), fun _ hp => (.tail _ (.tail _ (.tail _ (.tail _ (.tail _ (.tail _ (hp)))))))⟩⟩⟩, DeedOut.of hm hp3 (rfl) (hz.put _ _) (by repeat' (first | with_reducible assumption | exact Oct.nil | refine Oct.put ?_ _ ?_ | refine Oct.cons ?_ ?_ ?_ | omega)) ta2 tb2 tc2 td2 op3.2.2.2.1 op3.2.2.2.2.1 (op3.2.2.2.2.2)⟩

theorem deed_1 {rest : Led} {dl : Addr} {nl : Addr} {l : Addr} {ol : Addr} {dk : Addr} {dd : Addr} {k : Nat} {kd : Nat} {kn : Nat} {ok : Nat} {dn : Nat} {vs : List Value} {ovs : List Value} {nvs : List Value} {ns : List Int} {nns : List Int} {es : List DictEntry} {ix : Int} {sd : Int} {i : Int} {b : Int} {u : Tok} {t1 : Tok} {t2 : Tok} {tk : Tok} (hni : IntsAre nvs nns) (hi : IntsAre vs ns) (hoi : IntsAre ovs ns) (hn : (nl, listOf nvs.toArray kn) ∈ rest) (hol : (ol, listOf ovs.toArray ok) ∈ rest) (hdk : (dk, instObj 67 dd) ∈ rest) (hdd : (dd, dictOf es dn) ∈ rest) (hbl : getL (Str.ofString "blocks") es = some (some (.int b u))) (hb : b = 20 ∨ b = 300) (hz : Sz ns) (ho : Oct ns) (h0 : 0 ≤ ix) (h1 : ix ≤ nns.length) (h2 : 0 ≤ sd) (h3 : sd < 2147483647) (hl : nns.length ≤ 64) (hne : ∀ p ∈ rest, p.1 ≠ dl) (hne2 : ∀ p ∈ rest, p.1 ≠ l) (hdl : @Ne Nat l dl) (hkc : tkx nns ix sd 9 = 1) :
    Sp 262 20 ((dl, listOf [.ref nl, .int ix t1, .int sd t2].toArray kd) :: (l, listOf vs.toArray k) :: rest) [.ref dl, .ref l, .ref ol, .int i tk, .ref dk] (DeedOut dl nl l kd k nns rest) :=
  deed_1_c { rest := rest, dl := dl, nl := nl, l := l, ol := ol, dk := dk, dd := dd, k := k, kd := kd, kn := kn, ok := ok, dn := dn, vs := vs, ovs := ovs, nvs := nvs, ns := ns, nns := nns, es := es, ix := ix, sd := sd, i := i, b := b, u := u, t1 := t1, t2 := t2, tk := tk } hni hi hoi hn hol hdk hdd hbl hb hz ho h0 h1 h2 h3 hl hne hne2 hdl hkc
-- D2

noncomputable def deed_2_P (m : Pm) : Prop := (IntsAre m.nvs m.nns) → (IntsAre m.vs m.ns) → (IntsAre m.ovs m.ns) → ((m.nl, listOf m.nvs.toArray m.kn) ∈ m.rest) → ((m.ol, listOf m.ovs.toArray m.ok) ∈ m.rest) → ((m.dk, instObj 67 m.dd) ∈ m.rest) → ((m.dd, dictOf m.es m.dn) ∈ m.rest) → (getL (Str.ofString "blocks") m.es = some (some (.int m.b m.u))) → (m.b = 20 ∨ m.b = 300) → (Sz m.ns) → (Oct m.ns) → (0 ≤ m.ix) → (m.ix ≤ m.nns.length) → (0 ≤ m.sd) → (m.sd < 2147483647) → (m.nns.length ≤ 64) → (∀ p ∈ m.rest, p.1 ≠ m.dl) → (∀ p ∈ m.rest, p.1 ≠ m.l) → (@Ne Nat m.l m.dl) → (tkx m.nns m.ix m.sd 9 = 2) → Sp 262 20 ((m.dl, listOf [.ref m.nl, .int m.ix m.t1, .int m.sd m.t2].toArray m.kd) :: (m.l, listOf m.vs.toArray m.k) :: m.rest) [.ref m.dl, .ref m.l, .ref m.ol, .int m.i m.tk, .ref m.dk] (DeedOut m.dl m.nl m.l m.kd m.k m.nns m.rest)
set_option maxHeartbeats 20000000 in
theorem deed_2_c : ∀ m : Pm, deed_2_P m := by
  refine eps ?_
  intro hni hi hoi hn hol hdk hdd hbl hb hz ho h0 h1 h2 h3 hl hne hne2 hdl hkc
  refine' sp_enterC [Str.ofString "deal", Str.ofString "memory", Str.ofString "octets", Str.ofString "at", Str.ofString "disk"] ?hf ?hc ?hb ?hl ?h2 ?h3 ?h4 ?h5 (epsR ?h)
  (case hf => intro _; k_is)
  (case hc => intro _; k_is)
  (case hb => intro _; exact BindsTo.of_eq rfl)
  (case hl => exact rfl)
  (case h2 => exact rfl)
  (case h3 => exact rfl)
  (case h4 => exact rfl)
  (case h5 => decide)
  intro ok cells Y l1
  obtain ⟨o1, rfl, d1⟩ := CellsAre.one Y
  have hCd := cell_ne l1 (.head _)
  have hCl := cell_ne l1 (.tail _ (.head _))
  have hnd : @Ne Nat (pick deed_2_P).nl (pick deed_2_P).dl := hne _ hn
  conv => whnf
  refine v_assign2t ok rfl rfl rfl rfl rfl rfl ?_
  conv => whnf
  refine ⟨_, _, _, rfl, .head _, d1, ?_⟩
  conv => whnf
  intro _
  conv => whnf
  refine ⟨_, _, law_take_k (.tail hCd (.head (hd_ne hdl hne))) (.tail _ (.tail _ (.tail _ (hn)))) hnd hni hl h0 h1 h2 h3 (by decide) hkc, Nat.le_of_ble_eq_true rfl, ?_⟩
  rintro _ _ ⟨_, ix1, sd1, _, _, rfl, ta1, tb1, tc1, td1, rfl⟩
  conv => whnf
  intro _
  conv => whnf
  refine ⟨_, _, law_got_v (n := 36) (.tail _ (.tail _ (.tail _ (hol)))) hoi hz (by decide), Nat.le_of_ble_eq_true rfl, ?_⟩
  rintro _ _ hp
  obtain ⟨lb, vb, kb, rfl, hb', ob, rfl⟩ := hp
  conv => whnf
  intro _
  conv => whnf
  intro _
  conv => whnf
  refine v_tuple ok ?_
  conv => whnf
  intro _
  conv => whnf
  intro _
  conv => whnf
  refine ⟨Nat.le_of_ble_eq_true rfl, fun Dt ot => ?_⟩
  conv => whnf
  refine v_in (.head _) (.cons _ _ (.cons _ _ .nil)) ?_
  conv => whnf
  refine v_assign2t ok rfl rfl rfl rfl rfl rfl ?_
  conv => whnf
  refine ⟨_, _, _, rfl, .tail _ (.tail _ (.head _)), d1, ?_⟩
  conv => whnf
  intro _
  conv => whnf
  refine ⟨_, _, law_take_x (.tail (Ne.symm ot.2.2.1) (.tail (Ne.symm ob.2.1) (.tail hCd (.head (hd_ne hdl hne))))) (.tail _ (.tail _ (.tail _ (.tail _ (.tail _ (hn)))))) hnd hni hl ta1 tb1 tc1 td1 (by decide), Nat.le_of_ble_eq_true rfl, ?_⟩
  rintro _ _ ⟨x, _, ix2, sd2, _, _, rfl, x0, x1, ta2, tb2, tc2, td2, rfl⟩
  conv => whnf
  intro _
  conv => whnf
  intro _
  conv => whnf
  refine ⟨Nat.le_of_ble_eq_true rfl, fun DS oS => ?_⟩
  conv => whnf
  intro _
  conv => whnf
  intro _
  conv => whnf
  refine v_lit (.head _) (by decide) (by decide) rfl ?_
  conv => whnf
  intro _
  dsimp only [wpCmp]
  rw [show ((2 : Int) == 2) = true from rfl]
  dsimp only [wpTru]
  unfold wpL
  unfold wpS
  dsimp only [noComp, cond, wpX]
  unfold wpE
  dsimp only
  conv => whnf
  refine ⟨_, _, sp_of_head (.tail (Ne.symm oS.2.2.2.2.1) (.tail (Ne.symm ot.2.2.2.1) (.tail (Ne.symm ob.2.2.1) (.tail hCl (.tail (Ne.symm hdl) (.head hne2)))))) fun rest' hne' hin => set_count_v hne' hi hz, Nat.le_of_ble_eq_true rfl, ?_⟩
  rintro _ _ ⟨_, ⟨rfl, _, rfl, hm⟩, rfl⟩
  conv => whnf
  intro _
  conv => whnf
  refine ⟨Nat.le_of_ble_eq_true rfl, fun DR oR => ?_⟩
  conv => whnf
  refine ⟨_, _, law_put_v (.tail _ (.tail _ (.tail _ (.tail _ (.tail _ (.tail _ (.tail _ (hol)))))))) hoi (.head _) (.cons _ _ .nil) hz, Nat.le_of_ble_eq_true rfl, ?_⟩
  rintro _ _ hp
  obtain ⟨lp3, vp3, kp3, rfl, hp3, op3, rfl⟩ := hp
  exact ⟨((pick deed_2_P).dl, _) :: ((pick deed_2_P).l, _) :: (lp3, _) :: (pick deed_2_P).rest, List.forall_mem_cons.mpr ⟨(.tail _ (.tail _ (.tail _ (.tail _ (.tail _ (.tail _ (.head _))))))), List.forall_mem_cons.mpr ⟨(.tail _ (.tail _ (.tail _ (.tail _ (.tail _ (.tail _ (.tail _ (.head _)))))))), List.forall_mem_cons.mpr ⟨(.head _), fun _ hp => (.tail _ (.tail _ (.tail _ (.tail _ (.tail _ (.tail _ (.tail _ (.tail _ (hp)))))))))⟩⟩⟩, DeedOut.of hm hp3 (wr_put1 (Int.emod_eq_of_lt x0 x1)) (hz.put _ _) (by repeat' (first | with_reducible assumption | exact Oct.nil | refine Oct.put ?_ _ ?_ | refine Oct.cons ?_ ?_ ?_ | omega)) ta2 tb2 tc2 td2 op3.2.2.2.2.2.1 op3.2.2.2.2.2.2.1 (op3.2.2.2.2.2.2.2)⟩

theorem deed_2 {rest : Led} {dl : Addr} {nl : Addr} {l : Addr} {ol : Addr} {dk : Addr} {dd : Addr} {k : Nat} {kd : Nat} {kn : Nat} {ok : Nat} {dn : Nat} {vs : List Value} {ovs : List Value} {nvs : List Value} {ns : List Int} {nns : List Int} {es : List DictEntry} {ix : Int} {sd : Int} {i : Int} {b : Int} {u : Tok} {t1 : Tok} {t2 : Tok} {tk : Tok} (hni : IntsAre nvs nns) (hi : IntsAre vs ns) (hoi : IntsAre ovs ns) (hn : (nl, listOf nvs.toArray kn) ∈ rest) (hol : (ol, listOf ovs.toArray ok) ∈ rest) (hdk : (dk, instObj 67 dd) ∈ rest) (hdd : (dd, dictOf es dn) ∈ rest) (hbl : getL (Str.ofString "blocks") es = some (some (.int b u))) (hb : b = 20 ∨ b = 300) (hz : Sz ns) (ho : Oct ns) (h0 : 0 ≤ ix) (h1 : ix ≤ nns.length) (h2 : 0 ≤ sd) (h3 : sd < 2147483647) (hl : nns.length ≤ 64) (hne : ∀ p ∈ rest, p.1 ≠ dl) (hne2 : ∀ p ∈ rest, p.1 ≠ l) (hdl : @Ne Nat l dl) (hkc : tkx nns ix sd 9 = 2) :
    Sp 262 20 ((dl, listOf [.ref nl, .int ix t1, .int sd t2].toArray kd) :: (l, listOf vs.toArray k) :: rest) [.ref dl, .ref l, .ref ol, .int i tk, .ref dk] (DeedOut dl nl l kd k nns rest) :=
  deed_2_c { rest := rest, dl := dl, nl := nl, l := l, ol := ol, dk := dk, dd := dd, k := k, kd := kd, kn := kn, ok := ok, dn := dn, vs := vs, ovs := ovs, nvs := nvs, ns := ns, nns := nns, es := es, ix := ix, sd := sd, i := i, b := b, u := u, t1 := t1, t2 := t2, tk := tk } hni hi hoi hn hol hdk hdd hbl hb hz ho h0 h1 h2 h3 hl hne hne2 hdl hkc
-- D3

noncomputable def deed_3_P (m : Pm) : Prop := (IntsAre m.nvs m.nns) → (IntsAre m.vs m.ns) → (IntsAre m.ovs m.ns) → ((m.nl, listOf m.nvs.toArray m.kn) ∈ m.rest) → ((m.ol, listOf m.ovs.toArray m.ok) ∈ m.rest) → ((m.dk, instObj 67 m.dd) ∈ m.rest) → ((m.dd, dictOf m.es m.dn) ∈ m.rest) → (getL (Str.ofString "blocks") m.es = some (some (.int m.b m.u))) → (m.b = 20 ∨ m.b = 300) → (Sz m.ns) → (Oct m.ns) → (0 ≤ m.ix) → (m.ix ≤ m.nns.length) → (0 ≤ m.sd) → (m.sd < 2147483647) → (m.nns.length ≤ 64) → (∀ p ∈ m.rest, p.1 ≠ m.dl) → (∀ p ∈ m.rest, p.1 ≠ m.l) → (@Ne Nat m.l m.dl) → (tkx m.nns m.ix m.sd 9 = 3) → Sp 262 20 ((m.dl, listOf [.ref m.nl, .int m.ix m.t1, .int m.sd m.t2].toArray m.kd) :: (m.l, listOf m.vs.toArray m.k) :: m.rest) [.ref m.dl, .ref m.l, .ref m.ol, .int m.i m.tk, .ref m.dk] (DeedOut m.dl m.nl m.l m.kd m.k m.nns m.rest)
set_option maxHeartbeats 20000000 in
theorem deed_3_c : ∀ m : Pm, deed_3_P m := by
  refine eps ?_
  intro hni hi hoi hn hol hdk hdd hbl hb hz ho h0 h1 h2 h3 hl hne hne2 hdl hkc
  refine' sp_enterC [Str.ofString "deal", Str.ofString "memory", Str.ofString "octets", Str.ofString "at", Str.ofString "disk"] ?hf ?hc ?hb ?hl ?h2 ?h3 ?h4 ?h5 (epsR ?h)
  (case hf => intro _; k_is)
  (case hc => intro _; k_is)
  (case hb => intro _; exact BindsTo.of_eq rfl)
  (case hl => exact rfl)
  (case h2 => exact rfl)
  (case h3 => exact rfl)
  (case h4 => exact rfl)
  (case h5 => decide)
  intro ok cells Y l1
  obtain ⟨o1, rfl, d1⟩ := CellsAre.one Y
  have hCd := cell_ne l1 (.head _)
  have hCl := cell_ne l1 (.tail _ (.head _))
  have hnd : @Ne Nat (pick deed_3_P).nl (pick deed_3_P).dl := hne _ hn
  conv => whnf
  refine v_assign2t ok rfl rfl rfl rfl rfl rfl ?_
  conv => whnf
  refine ⟨_, _, _, rfl, .head _, d1, ?_⟩
  conv => whnf
  intro _
  conv => whnf
  refine ⟨_, _, law_take_k (.tail hCd (.head (hd_ne hdl hne))) (.tail _ (.tail _ (.tail _ (hn)))) hnd hni hl h0 h1 h2 h3 (by decide) hkc, Nat.le_of_ble_eq_true rfl, ?_⟩
  rintro _ _ ⟨_, ix1, sd1, _, _, rfl, ta1, tb1, tc1, td1, rfl⟩
  conv => whnf
  intro _
  conv => whnf
  refine ⟨_, _, law_got_v (n := 36) (.tail _ (.tail _ (.tail _ (hol)))) hoi hz (by decide), Nat.le_of_ble_eq_true rfl, ?_⟩
  rintro _ _ hp
  obtain ⟨lb, vb, kb, rfl, hb', ob, rfl⟩ := hp
  conv => whnf
  intro _
  conv => whnf
  intro _
  conv => whnf
  refine v_tuple ok ?_
  conv => whnf
  intro _
  conv => whnf
  intro _
  conv => whnf
  refine ⟨Nat.le_of_ble_eq_true rfl, fun Dt ot => ?_⟩
  conv => whnf
  refine v_in (.head _) (.cons _ _ (.cons _ _ .nil)) ?_
  conv => whnf
  refine v_assign2t ok rfl rfl rfl rfl rfl rfl ?_
  conv => whnf
  refine ⟨_, _, _, rfl, .tail _ (.tail _ (.head _)), d1, ?_⟩
  conv => whnf
  intro _
  conv => whnf
  refine ⟨_, _, law_take_x (.tail (Ne.symm ot.2.2.1) (.tail (Ne.symm ob.2.1) (.tail hCd (.head (hd_ne hdl hne))))) (.tail _ (.tail _ (.tail _ (.tail _ (.tail _ (hn)))))) hnd hni hl ta1 tb1 tc1 td1 (by decide), Nat.le_of_ble_eq_true rfl, ?_⟩
  rintro _ _ ⟨x, _, ix2, sd2, _, _, rfl, x0, x1, ta2, tb2, tc2, td2, rfl⟩
  conv => whnf
  intro _
  conv => whnf
  intro _
  conv => whnf
  refine ⟨Nat.le_of_ble_eq_true rfl, fun DS oS => ?_⟩
  conv => whnf
  intro _
  conv => whnf
  intro _
  conv => whnf
  refine v_lit (.head _) (by decide) (by decide) rfl ?_
  conv => whnf
  intro _
  dsimp only [wpCmp]
  rw [show ((3 : Int) == 2) = false from rfl]
  dsimp only [wpTru]
  unfold wpL
  unfold wpS
  dsimp only [noComp, cond, wpX]
  unfold wpE
  dsimp only
  conv => whnf
  refine ⟨_, _, sp_of_head (.tail (Ne.symm oS.2.2.2.2.1) (.tail (Ne.symm ot.2.2.2.1) (.tail (Ne.symm ob.2.2.1) (.tail hCl (.tail (Ne.symm hdl) (.head hne2)))))) fun rest' hne' hin => set_current_v hne' hi hz, Nat.le_of_ble_eq_true rfl, ?_⟩
  rintro _ _ ⟨_, ⟨rfl, _, rfl, hm⟩, rfl⟩
  conv => whnf
  intro _
  conv => whnf
  refine ⟨Nat.le_of_ble_eq_true rfl, fun DR oR => ?_⟩
  conv => whnf
  refine ⟨_, _, law_put_v (.tail _ (.tail _ (.tail _ (.tail _ (.tail _ (.tail _ (.tail _ (hol)))))))) hoi (.head _) (.cons _ _ .nil) hz, Nat.le_of_ble_eq_true rfl, ?_⟩
  rintro _ _ hp
  obtain ⟨lp3, vp3, kp3, rfl, hp3, op3, rfl⟩ := hp
  exact ⟨((pick deed_3_P).dl, _) :: ((pick deed_3_P).l, _) :: (lp3, _) :: (pick deed_3_P).rest, List.forall_mem_cons.mpr ⟨(.tail _ (.tail _ (.tail _ (.tail _ (.tail _ (.tail _ (.head _))))))), List.forall_mem_cons.mpr ⟨(.tail _ (.tail _ (.tail _ (.tail _ (.tail _ (.tail _ (.tail _ (.head _)))))))), List.forall_mem_cons.mpr ⟨(.head _), fun _ hp => (.tail _ (.tail _ (.tail _ (.tail _ (.tail _ (.tail _ (.tail _ (.tail _ (hp)))))))))⟩⟩⟩, DeedOut.of hm hp3 (wr_put1 (Int.emod_eq_of_lt x0 x1)) (hz.put _ _) (by repeat' (first | with_reducible assumption | exact Oct.nil | refine Oct.put ?_ _ ?_ | refine Oct.cons ?_ ?_ ?_ | omega)) ta2 tb2 tc2 td2 op3.2.2.2.2.2.1 op3.2.2.2.2.2.2.1 (op3.2.2.2.2.2.2.2)⟩

theorem deed_3 {rest : Led} {dl : Addr} {nl : Addr} {l : Addr} {ol : Addr} {dk : Addr} {dd : Addr} {k : Nat} {kd : Nat} {kn : Nat} {ok : Nat} {dn : Nat} {vs : List Value} {ovs : List Value} {nvs : List Value} {ns : List Int} {nns : List Int} {es : List DictEntry} {ix : Int} {sd : Int} {i : Int} {b : Int} {u : Tok} {t1 : Tok} {t2 : Tok} {tk : Tok} (hni : IntsAre nvs nns) (hi : IntsAre vs ns) (hoi : IntsAre ovs ns) (hn : (nl, listOf nvs.toArray kn) ∈ rest) (hol : (ol, listOf ovs.toArray ok) ∈ rest) (hdk : (dk, instObj 67 dd) ∈ rest) (hdd : (dd, dictOf es dn) ∈ rest) (hbl : getL (Str.ofString "blocks") es = some (some (.int b u))) (hb : b = 20 ∨ b = 300) (hz : Sz ns) (ho : Oct ns) (h0 : 0 ≤ ix) (h1 : ix ≤ nns.length) (h2 : 0 ≤ sd) (h3 : sd < 2147483647) (hl : nns.length ≤ 64) (hne : ∀ p ∈ rest, p.1 ≠ dl) (hne2 : ∀ p ∈ rest, p.1 ≠ l) (hdl : @Ne Nat l dl) (hkc : tkx nns ix sd 9 = 3) :
    Sp 262 20 ((dl, listOf [.ref nl, .int ix t1, .int sd t2].toArray kd) :: (l, listOf vs.toArray k) :: rest) [.ref dl, .ref l, .ref ol, .int i tk, .ref dk] (DeedOut dl nl l kd k nns rest) :=
  deed_3_c { rest := rest, dl := dl, nl := nl, l := l, ol := ol, dk := dk, dd := dd, k := k, kd := kd, kn := kn, ok := ok, dn := dn, vs := vs, ovs := ovs, nvs := nvs, ns := ns, nns := nns, es := es, ix := ix, sd := sd, i := i, b := b, u := u, t1 := t1, t2 := t2, tk := tk } hni hi hoi hn hol hdk hdd hbl hb hz ho h0 h1 h2 h3 hl hne hne2 hdl hkc
-- D4

noncomputable def deed_4_P (m : Pm) : Prop := (IntsAre m.nvs m.nns) → (IntsAre m.vs m.ns) → (IntsAre m.ovs m.ns) → ((m.nl, listOf m.nvs.toArray m.kn) ∈ m.rest) → ((m.ol, listOf m.ovs.toArray m.ok) ∈ m.rest) → ((m.dk, instObj 67 m.dd) ∈ m.rest) → ((m.dd, dictOf m.es m.dn) ∈ m.rest) → (getL (Str.ofString "blocks") m.es = some (some (.int m.b m.u))) → (m.b = 20 ∨ m.b = 300) → (Sz m.ns) → (Oct m.ns) → (0 ≤ m.ix) → (m.ix ≤ m.nns.length) → (0 ≤ m.sd) → (m.sd < 2147483647) → (m.nns.length ≤ 64) → (∀ p ∈ m.rest, p.1 ≠ m.dl) → (∀ p ∈ m.rest, p.1 ≠ m.l) → (@Ne Nat m.l m.dl) → (tkx m.nns m.ix m.sd 9 = 4) → Sp 262 20 ((m.dl, listOf [.ref m.nl, .int m.ix m.t1, .int m.sd m.t2].toArray m.kd) :: (m.l, listOf m.vs.toArray m.k) :: m.rest) [.ref m.dl, .ref m.l, .ref m.ol, .int m.i m.tk, .ref m.dk] (DeedOut m.dl m.nl m.l m.kd m.k m.nns m.rest)
set_option maxHeartbeats 20000000 in
theorem deed_4_c : ∀ m : Pm, deed_4_P m := by
  refine eps ?_
  intro hni hi hoi hn hol hdk hdd hbl hb hz ho h0 h1 h2 h3 hl hne hne2 hdl hkc
  refine' sp_enterC [Str.ofString "deal", Str.ofString "memory", Str.ofString "octets", Str.ofString "at", Str.ofString "disk"] ?hf ?hc ?hb ?hl ?h2 ?h3 ?h4 ?h5 (epsR ?h)
  (case hf => intro _; k_is)
  (case hc => intro _; k_is)
  (case hb => intro _; exact BindsTo.of_eq rfl)
  (case hl => exact rfl)
  (case h2 => exact rfl)
  (case h3 => exact rfl)
  (case h4 => exact rfl)
  (case h5 => decide)
  intro ok cells Y l1
  obtain ⟨o1, rfl, d1⟩ := CellsAre.one Y
  have hCd := cell_ne l1 (.head _)
  have hCl := cell_ne l1 (.tail _ (.head _))
  have hnd : @Ne Nat (pick deed_4_P).nl (pick deed_4_P).dl := hne _ hn
  conv => whnf
  refine v_assign2t ok rfl rfl rfl rfl rfl rfl ?_
  conv => whnf
  refine ⟨_, _, _, rfl, .head _, d1, ?_⟩
  conv => whnf
  intro _
  conv => whnf
  refine ⟨_, _, law_take_k (.tail hCd (.head (hd_ne hdl hne))) (.tail _ (.tail _ (.tail _ (hn)))) hnd hni hl h0 h1 h2 h3 (by decide) hkc, Nat.le_of_ble_eq_true rfl, ?_⟩
  rintro _ _ ⟨_, ix1, sd1, _, _, rfl, ta1, tb1, tc1, td1, rfl⟩
  conv => whnf
  intro _
  conv => whnf
  refine ⟨_, _, law_got_v (n := 36) (.tail _ (.tail _ (.tail _ (hol)))) hoi hz (by decide), Nat.le_of_ble_eq_true rfl, ?_⟩
  rintro _ _ hp
  obtain ⟨lb, vb, kb, rfl, hb', ob, rfl⟩ := hp
  conv => whnf
  intro _
  conv => whnf
  intro _
  conv => whnf
  refine v_tuple ok ?_
  conv => whnf
  intro _
  conv => whnf
  intro _
  conv => whnf
  refine ⟨Nat.le_of_ble_eq_true rfl, fun Dt ot => ?_⟩
  conv => whnf
  refine v_in (.head _) (.cons _ _ (.cons _ _ .nil)) ?_
  conv => whnf
  intro _
  conv => whnf
  refine v_blocks ok (.tail _ (.tail _ (.tail _ (.tail _ (.tail _ (hdk)))))) (.tail _ (.tail _ (.tail _ (.tail _ (.tail _ (hdd)))))) hbl ?_
  conv => whnf
  intro _
  conv => whnf
  generalize hq : decide ((pick deed_4_P).b < 257) = q
  cases q
  · have hb1 : ¬ (pick deed_4_P).b ≤ 256 := by have := of_decide_eq_false hq; omega
    have hb2 : (pick deed_4_P).b = 300 := by omega
    conv => whnf
    refine v_assign2t ok rfl rfl rfl rfl rfl rfl ?_
    conv => whnf
    refine ⟨_, _, _, rfl, .tail _ (.tail _ (.head _)), d1, ?_⟩
    conv => whnf
    intro _
    conv => whnf
    refine ⟨_, _, law_take_x (.tail (Ne.symm ot.2.2.1) (.tail (Ne.symm ob.2.1) (.tail hCd (.head (hd_ne hdl hne))))) (.tail _ (.tail _ (.tail _ (.tail _ (.tail _ (hn)))))) hnd hni hl ta1 tb1 tc1 td1 (by decide), Nat.le_of_ble_eq_true rfl, ?_⟩
    rintro _ _ ⟨x, _, ix2, sd2, _, _, rfl, x0, x1, ta2, tb2, tc2, td2, rfl⟩
    conv => whnf
    refine ⟨_, _, _, rfl, .tail _ (.tail _ (.head _)), d1, ?_⟩
    conv => whnf
    refine v_blocks ok (.tail _ (.tail _ (.tail _ (.tail _ (.tail _ (hdk)))))) (.tail _ (.tail _ (.tail _ (.tail _ (.tail _ (hdd)))))) hbl ?_
    conv => whnf
    refine ⟨_, _, law_take_x (.tail (Ne.symm ot.2.2.1) (.tail (Ne.symm ob.2.1) (.tail hCd (.head (hd_ne hdl hne))))) (.tail _ (.tail _ (.tail _ (.tail _ (.tail _ (hn)))))) hnd hni hl ta2 tb2 tc2 td2 (by omega), Nat.le_of_ble_eq_true rfl, ?_⟩
    rintro _ _ ⟨y, _, ix3, sd3, _, _, rfl, y0, y1, ta3, tb3, tc3, td3, rfl⟩
    conv => whnf
    refine ⟨_, _, sp_of_head (.tail (Ne.symm ot.2.2.2.1) (.tail (Ne.symm ob.2.2.1) (.tail hCl (.tail (Ne.symm hdl) (.head hne2))))) fun rest' hne' hin => set_block_v hne' hi hz (hin _ (.tail _ (.tail _ (.tail _ (.tail _ (.tail _ (hdk)))))) (hne2 _ hdk)) (hin _ (.tail _ (.tail _ (.tail _ (.tail _ (.tail _ (hdd)))))) (hne2 _ hdd)) hbl x0 (by rw [if_neg hb1]; exact x1), Nat.le_of_ble_eq_true rfl, ?_⟩
    rintro _ _ ⟨_, ⟨rfl, _, rfl, hm⟩, rfl⟩
    conv => whnf
    intro _
    conv => whnf
    refine ⟨by decide, fun _ => ?_⟩
    conv => whnf
    intro _
    conv => whnf
    refine ⟨by decide, by decide, fun _ => ?_⟩
    conv => whnf
    refine ⟨Nat.le_of_ble_eq_true rfl, fun DR oR => ?_⟩
    conv => whnf
    intro _
    conv => whnf
    intro _
    conv => whnf
    refine v_len (ns := [y % 256, y / 256]) (.head _) (.cons _ _ (.cons _ _ .nil)) (show 2 < 2 ^ 62 by decide) fun _ => ?_
    conv => whnf
    refine ⟨mul_l (show -(2 ^ 64) < ((2 : Nat) : Int) by decide) (show ((2 : Nat) : Int) < 2 ^ 64 by decide), ?_⟩
    intro _
    conv => whnf
    intro _
    conv => whnf
    refine ⟨_, _, law_put_v (.tail _ (.tail _ (.tail _ (.tail _ (.tail _ (.tail _ (hol))))))) hoi (.head _) (.cons _ _ (.cons _ _ .nil)) hz, Nat.le_of_ble_eq_true rfl, ?_⟩
    rintro _ _ hp
    obtain ⟨lp4, vp4, kp4, rfl, hp4, op4, rfl⟩ := hp
    exact ⟨((pick deed_4_P).dl, _) :: ((pick deed_4_P).l, _) :: (lp4, _) :: (pick deed_4_P).rest, List.forall_mem_cons.mpr ⟨(.tail _ (.tail _ (.tail _ (.tail _ (.tail _ (.head _)))))), List.forall_mem_cons.mpr ⟨(.tail _ (.tail _ (.tail _ (.tail _ (.tail _ (.tail _ (.head _))))))), List.forall_mem_cons.mpr ⟨(.head _), fun _ hp => (.tail _ (.tail _ (.tail _ (.tail _ (.tail _ (.tail _ (.tail _ (hp))))))))⟩⟩⟩, DeedOut.of hm hp4 (by rw [mapv_b hb1, unmapv_b hb1]; exact eq_block_b hz ho x0 x1 y0 (by omega) (by show (pick deed_4_P).i + 16 + ((2 : Nat) : Int) * x = _; omega)) (hz.put _ _) (by repeat' (first | with_reducible assumption | exact Oct.nil | refine Oct.put ?_ _ ?_ | refine Oct.cons ?_ ?_ ?_ | omega)) ta3 tb3 tc3 td3 op4.2.2.2.2.1 op4.2.2.2.2.2.1 (op4.2.2.2.2.2.2)⟩
  · have hb1 : (pick deed_4_P).b ≤ 256 := by have := of_decide_eq_true hq; omega
    have hb2 : (pick deed_4_P).b = 20 := by omega
    conv => whnf
    refine v_assign2t ok rfl rfl rfl rfl rfl rfl ?_
    conv => whnf
    refine ⟨_, _, _, rfl, .tail _ (.tail _ (.head _)), d1, ?_⟩
    conv => whnf
    intro _
    conv => whnf
    refine ⟨_, _, law_take_x (.tail (Ne.symm ot.2.2.1) (.tail (Ne.symm ob.2.1) (.tail hCd (.head (hd_ne hdl hne))))) (.tail _ (.tail _ (.tail _ (.tail _ (.tail _ (hn)))))) hnd hni hl ta1 tb1 tc1 td1 (by decide), Nat.le_of_ble_eq_true rfl, ?_⟩
    rintro _ _ ⟨x, _, ix2, sd2, _, _, rfl, x0, x1, ta2, tb2, tc2, td2, rfl⟩
    conv => whnf
    refine ⟨_, _, _, rfl, .tail _ (.tail _ (.head _)), d1, ?_⟩
    conv => whnf
    refine v_blocks ok (.tail _ (.tail _ (.tail _ (.tail _ (.tail _ (hdk)))))) (.tail _ (.tail _ (.tail _ (.tail _ (.tail _ (hdd)))))) hbl ?_
    conv => whnf
    refine ⟨_, _, law_take_x (.tail (Ne.symm ot.2.2.1) (.tail (Ne.symm ob.2.1) (.tail hCd (.head (hd_ne hdl hne))))) (.tail _ (.tail _ (.tail _ (.tail _ (.tail _ (hn)))))) hnd hni hl ta2 tb2 tc2 td2 (by omega), Nat.le_of_ble_eq_true rfl, ?_⟩
    rintro _ _ ⟨y, _, ix3, sd3, _, _, rfl, y0, y1, ta3, tb3, tc3, td3, rfl⟩
    conv => whnf
    refine ⟨_, _, sp_of_head (.tail (Ne.symm ot.2.2.2.1) (.tail (Ne.symm ob.2.2.1) (.tail hCl (.tail (Ne.symm hdl) (.head hne2))))) fun rest' hne' hin => set_block_v hne' hi hz (hin _ (.tail _ (.tail _ (.tail _ (.tail _ (.tail _ (hdk)))))) (hne2 _ hdk)) (hin _ (.tail _ (.tail _ (.tail _ (.tail _ (.tail _ (hdd)))))) (hne2 _ hdd)) hbl x0 (by rw [if_pos hb1]; exact x1), Nat.le_of_ble_eq_true rfl, ?_⟩
    rintro _ _ ⟨_, ⟨rfl, _, rfl, hm⟩, rfl⟩
    conv => whnf
    refine ⟨Nat.le_of_ble_eq_true rfl, fun DR oR => ?_⟩
    conv => whnf
    intro _
    conv => whnf
    intro _
    conv => whnf
    refine v_len (ns := [y]) (.head _) (.cons _ _ .nil) (show 1 < 2 ^ 62 by decide) fun _ => ?_
    conv => whnf
    refine ⟨mul_l (show -(2 ^ 64) < ((1 : Nat) : Int) by decide) (show ((1 : Nat) : Int) < 2 ^ 64 by decide), ?_⟩
    intro _
    conv => whnf
    intro _
    conv => whnf
    refine ⟨_, _, law_put_v (.tail _ (.tail _ (.tail _ (.tail _ (.tail _ (.tail _ (hol))))))) hoi (.head _) (.cons _ _ .nil) hz, Nat.le_of_ble_eq_true rfl, ?_⟩
    rintro _ _ hp
    obtain ⟨lp4, vp4, kp4, rfl, hp4, op4, rfl⟩ := hp
    exact ⟨((pick deed_4_P).dl, _) :: ((pick deed_4_P).l, _) :: (lp4, _) :: (pick deed_4_P).rest, List.forall_mem_cons.mpr ⟨(.tail _ (.tail _ (.tail _ (.tail _ (.tail _ (.head _)))))), List.forall_mem_cons.mpr ⟨(.tail _ (.tail _ (.tail _ (.tail _ (.tail _ (.tail _ (.head _))))))), List.forall_mem_cons.mpr ⟨(.head _), fun _ hp => (.tail _ (.tail _ (.tail _ (.tail _ (.tail _ (.tail _ (.tail _ (hp))))))))⟩⟩⟩, DeedOut.of hm hp4 (by rw [mapv_s hb1, unmapv_s hb1]; exact eq_block_s hz ho x0 x1 y0 (by omega) (by show (pick deed_4_P).i + 16 + ((1 : Nat) : Int) * x = _; omega)) (hz.put _ _) (by repeat' (first | with_reducible assumption | exact Oct.nil | refine Oct.put ?_ _ ?_ | refine Oct.cons ?_ ?_ ?_ | omega)) ta3 tb3 tc3 td3 op4.2.2.2.2.1 op4.2.2.2.2.2.1 (op4.2.2.2.2.2.2)⟩

theorem deed_4 {rest : Led} {dl : Addr} {nl : Addr} {l : Addr} {ol : Addr} {dk : Addr} {dd : Addr} {k : Nat} {kd : Nat} {kn : Nat} {ok : Nat} {dn : Nat} {vs : List Value} {ovs : List Value} {nvs : List Value} {ns : List Int} {nns : List Int} {es : List DictEntry} {ix : Int} {sd : Int} {i : Int} {b : Int} {u : Tok} {t1 : Tok} {t2 : Tok} {tk : Tok} (hni : IntsAre nvs nns) (hi : IntsAre vs ns) (hoi : IntsAre ovs ns) (hn : (nl, listOf nvs.toArray kn) ∈ rest) (hol : (ol, listOf ovs.toArray ok) ∈ rest) (hdk : (dk, instObj 67 dd) ∈ rest) (hdd : (dd, dictOf es dn) ∈ rest) (hbl : getL (Str.ofString "blocks") es = some (some (.int b u))) (hb : b = 20 ∨ b = 300) (hz : Sz ns) (ho : Oct ns) (h0 : 0 ≤ ix) (h1 : ix ≤ nns.length) (h2 : 0 ≤ sd) (h3 : sd < 2147483647) (hl : nns.length ≤ 64) (hne : ∀ p ∈ rest, p.1 ≠ dl) (hne2 : ∀ p ∈ rest, p.1 ≠ l) (hdl : @Ne Nat l dl) (hkc : tkx nns ix sd 9 = 4) :
    Sp 262 20 ((dl, listOf [.ref nl, .int ix t1, .int sd t2].toArray kd) :: (l, listOf vs.toArray k) :: rest) [.ref dl, .ref l, .ref ol, .int i tk, .ref dk] (DeedOut dl nl l kd k nns rest) :=
  deed_4_c { rest := rest, dl := dl, nl := nl, l := l, ol := ol, dk := dk, dd := dd, k := k, kd := kd, kn := kn, ok := ok, dn := dn, vs := vs, ovs := ovs, nvs := nvs, ns := ns, nns := nns, es := es, ix := ix, sd := sd, i := i, b := b, u := u, t1 := t1, t2 := t2, tk := tk } hni hi hoi hn hol hdk hdd hbl hb hz ho h0 h1 h2 h3 hl hne hne2 hdl hkc
-- D5

noncomputable def deed_5_P (m : Pm) : Prop := (IntsAre m.nvs m.nns) → (IntsAre m.vs m.ns) → (IntsAre m.ovs m.ns) → ((m.nl, listOf m.nvs.toArray m.kn) ∈ m.rest) → ((m.ol, listOf m.ovs.toArray m.ok) ∈ m.rest) → ((m.dk, instObj 67 m.dd) ∈ m.rest) → ((m.dd, dictOf m.es m.dn) ∈ m.rest) → (getL (Str.ofString "blocks") m.es = some (some (.int m.b m.u))) → (m.b = 20 ∨ m.b = 300) → (Sz m.ns) → (Oct m.ns) → (0 ≤ m.ix) → (m.ix ≤ m.nns.length) → (0 ≤ m.sd) → (m.sd < 2147483647) → (m.nns.length ≤ 64) → (∀ p ∈ m.rest, p.1 ≠ m.dl) → (∀ p ∈ m.rest, p.1 ≠ m.l) → (@Ne Nat m.l m.dl) → (tkx m.nns m.ix m.sd 9 = 5) → Sp 262 20 ((m.dl, listOf [.ref m.nl, .int m.ix m.t1, .int m.sd m.t2].toArray m.kd) :: (m.l, listOf m.vs.toArray m.k) :: m.rest) [.ref m.dl, .ref m.l, .ref m.ol, .int m.i m.tk, .ref m.dk] (DeedOut m.dl m.nl m.l m.kd m.k m.nns m.rest)
set_option maxHeartbeats 20000000 in
theorem deed_5_c : ∀ m : Pm, deed_5_P m := by
  refine eps ?_
  intro hni hi hoi hn hol hdk hdd hbl hb hz ho h0 h1 h2 h3 hl hne hne2 hdl hkc
  refine' sp_enterC [Str.ofString "deal", Str.ofString "memory", Str.ofString "octets", Str.ofString "at", Str.ofString "disk"] ?hf ?hc ?hb ?hl ?h2 ?h3 ?h4 ?h5 (epsR ?h)
  (case hf => intro _; k_is)
  (case hc => intro _; k_is)
  (case hb => intro _; exact BindsTo.of_eq rfl)
  (case hl => exact rfl)
  (case h2 => exact rfl)
  (case h3 => exact rfl)
  (case h4 => exact rfl)
  (case h5 => decide)
  intro ok cells Y l1
  obtain ⟨o1, rfl, d1⟩ := CellsAre.one Y
  have hCd := cell_ne l1 (.head _)
  have hCl := cell_ne l1 (.tail _ (.head _))
  have hnd : @Ne Nat (pick deed_5_P).nl (pick deed_5_P).dl := hne _ hn
  conv => whnf
  refine v_assign2t ok rfl rfl rfl rfl rfl rfl ?_
  conv => whnf
  refine ⟨_, _, _, rfl, .head _, d1, ?_⟩
  conv => whnf
  intro _
  conv => whnf
  refine ⟨_, _, law_take_k (.tail hCd (.head (hd_ne hdl hne))) (.tail _ (.tail _ (.tail _ (hn)))) hnd hni hl h0 h1 h2 h3 (by decide) hkc, Nat.le_of_ble_eq_true rfl, ?_⟩
  rintro _ _ ⟨_, ix1, sd1, _, _, rfl, ta1, tb1, tc1, td1, rfl⟩
  conv => whnf
  intro _
  conv => whnf
  refine ⟨_, _, law_got_v (n := 36) (.tail _ (.tail _ (.tail _ (hol)))) hoi hz (by decide), Nat.le_of_ble_eq_true rfl, ?_⟩
  rintro _ _ hp
  obtain ⟨lb, vb, kb, rfl, hb', ob, rfl⟩ := hp
  conv => whnf
  intro _
  conv => whnf
  intro _
  conv => whnf
  refine v_tuple ok ?_
  conv => whnf
  intro _
  conv => whnf
  intro _
  conv => whnf
  refine ⟨Nat.le_of_ble_eq_true rfl, fun Dt ot => ?_⟩
  conv => whnf
  refine v_in (.head _) (.cons _ _ (.cons _ _ .nil)) ?_
  conv => whnf
  intro _
  conv => whnf
  intro _
  conv => whnf
  refine v_compJ ok (n := 4) (fun j ys nw => ∃ (row : List Int) (ix' sd' : Int) (s1 s2 : Tok), IntsAre ys row ∧ row.length = j ∧ Oct row ∧ 0 ≤ ix' ∧ ix' ≤ (pick deed_5_P).nns.length ∧ 0 ≤ sd' ∧ sd' < 2147483647 ∧ nw = (Dt, ({ cls := .type "tuple", data := .seq _ } : Obj)) :: (lb, listOf vb.toArray kb) :: (_, o1) :: ((pick deed_5_P).dl, listOf [.ref (pick deed_5_P).nl, .int ix' s1, .int sd' s2].toArray (pick deed_5_P).kd) :: ((pick deed_5_P).l, listOf (pick deed_5_P).vs.toArray (pick deed_5_P).k) :: (pick deed_5_P).rest) ⟨rfl, rfl⟩ rfl (fun _ => ⟨⟨_, rfl⟩, rfl⟩) (by decide) rfl (by decide) rfl (by decide) rfl rfl ⟨[], _, _, _, _, .nil, rfl, Oct.nil, ta1, tb1, tc1, td1, rfl⟩ ?_ ?_
  · rintro j t I oI C2 oC D ys _ ⟨row, ix', sd', s1, s2, hy, hlen, hoc, q0, q1, q2, q3, rfl⟩ off ne
    conv => whnf
    refine ⟨_, _, _, rfl, .tail _ (.tail _ (.tail _ (.tail _ (.tail _ (.head _))))), d1, ?_⟩
    conv => whnf
    intro _
    conv => whnf
    refine ⟨_, _, law_take_x (.tail (Ne.symm off.2.2.2.1.1) (.tail (Ne.symm off.2.2.2.1.2.1) (.tail (Ne.symm off.2.2.2.1.2.2) (.tail (Ne.symm ot.2.2.1) (.tail (Ne.symm ob.2.1) (.tail hCd (.head (hd_ne hdl hne)))))))) (.tail _ (.tail _ (.tail _ (.tail _ (.tail _ (.tail _ (.tail _ (.tail _ (hn))))))))) hnd hni hl q0 q1 q2 q3 (by decide), Nat.le_of_ble_eq_true rfl, ?_⟩
    rintro _ _ ⟨x, t', ix2, sd2, _, _, rfl, x0, x1, p0, p1, p2, p3, rfl⟩
    exact ⟨rfl, _, fun _ hp => hp, off, row ++ [x], ix2, sd2, _, _, IntsAre.append hy (.cons _ _ .nil), by rw [List.length_append, hlen]; rfl, oct_snoc hoc x0 x1, p0, p1, p2, p3, rfl⟩
  · rintro D ys _ ⟨row, ix', sd', s1, s2, hy, hlen, hoc, q0, q1, q2, q3, rfl⟩ oy
    conv => whnf
    intro _
    conv => whnf
    refine v_rep (n := ys.length) (.head _) hy (by decide) (by decide) (by rw [hy.length, hlen]; decide) fun D4 us4 hu4 o4 => ?_
    conv => whnf
    have hrl : (List.replicate (Int.toNat 8) row).flatten.length = 32 := flat_len hlen
    have hor : Oct (List.replicate (Int.toNat 8) row).flatten := oct_flat hoc _
    generalize (List.replicate (Int.toNat 8) row).flatten = rw8 at hu4 hrl hor
    refine ⟨_, _, sp_of_head (.tail (Ne.symm o4.2.2.2.2.2.1) (.tail (Ne.symm oy.2.2.2.2.1) (.tail (Ne.symm ot.2.2.2.1) (.tail (Ne.symm ob.2.2.1) (.tail hCl (.tail (Ne.symm hdl) (.head hne2))))))) fun rest' hne' hin => take_entry_v hne' hi (hin _ (.head _) (Ne.symm o4.2.2.2.2.2.1)) hu4 hz hrl hor, Nat.le_of_ble_eq_true rfl, ?_⟩
    rintro _ _ ⟨_, ⟨rfl, _, rfl, hm⟩, rfl⟩
    conv => whnf
    intro _
    conv => whnf
    intro _
    conv => whnf
    refine v_slice ok ⟨rfl, rfl⟩ (fun _ => ⟨⟨_, rfl⟩, rfl⟩) (fun _ => ⟨⟨_, rfl⟩, rfl⟩) (.head _) hu4 (by decide) (by decide) (by rw [hrl]; decide) fun D6 w6 hw6 o6 => ?_
    conv => whnf
    intro _
    conv => whnf
    refine v_sub (.tail _ (.head _)) hu4 (by decide) (by rw [hrl]; decide) (by decide) fun _ => ?_
    conv => whnf
    intro _
    conv => whnf
    refine ⟨by decide, fun _ => ?_⟩
    conv => whnf
    intro _
    conv => whnf
    intro _
    conv => whnf
    refine ⟨Nat.le_of_ble_eq_true rfl, fun DS2 oS2 => ?_⟩
    conv => whnf
    refine v_cat (.tail _ (.head _)) (.head _) hw6 (.cons _ _ .nil) (by rw [sl_len hrl]; exact Nat.le_of_ble_eq_true rfl) fun D7 w7 hw7 o7 => ?_
    conv => whnf
    refine v_slice1 ok ⟨rfl, rfl⟩ (fun _ => ⟨⟨_, rfl⟩, rfl⟩) (.tail _ (.tail _ (.tail _ (.head _)))) hu4 (by decide) (by rw [hrl]; decide) (by rw [hrl]; decide) fun D8 w8 hw8 o8 => ?_
    conv => whnf
    refine v_cat (.tail _ (.head _)) (.head _) hw7 hw8 (by rw [List.length_append, sl_len hrl, List.length_drop, hrl]; exact Nat.le_of_ble_eq_true rfl) fun D9 w9 hw9 o9 => ?_
    conv => whnf
    refine ⟨_, _, law_put_v (.tail _ (.tail _ (.tail _ (.tail _ (.tail _ (.tail _ (.tail _ (.tail _ (.tail _ (.tail _ (.tail _ (.tail _ (hol))))))))))))) hoi (.head _) hw9 hz, Nat.le_of_ble_eq_true rfl, ?_⟩
    rintro _ _ hp
    obtain ⟨lp2, vp2, kp2, rfl, hp2, op2, rfl⟩ := hp
    exact ⟨((pick deed_5_P).dl, _) :: ((pick deed_5_P).l, _) :: (lp2, _) :: (pick deed_5_P).rest, List.forall_mem_cons.mpr ⟨(.tail _ (.tail _ (.tail _ (.tail _ (.tail _ (.tail _ (.tail _ (.tail _ (.tail _ (.tail _ (.tail _ (.head _)))))))))))), List.forall_mem_cons.mpr ⟨(.tail _ (.tail _ (.tail _ (.tail _ (.tail _ (.tail _ (.tail _ (.tail _ (.tail _ (.tail _ (.tail _ (.tail _ (.head _))))))))))))), List.forall_mem_cons.mpr ⟨(.head _), fun _ hp => (.tail _ (.tail _ (.tail _ (.tail _ (.tail _ (.tail _ (.tail _ (.tail _ (.tail _ (.tail _ (.tail _ (.tail _ (.tail _ (hp))))))))))))))⟩⟩⟩, DeedOut.of hm hp2 (by rw [hrl]; rfl) (hz.put _ _) (ho.put _ (oct_take hor hrl)) q0 q1 q2 q3 op2.2.2.2.2.2.2.2.2.2.2.1 op2.2.2.2.2.2.2.2.2.2.2.2.1 (op2.2.2.2.2.2.2.2.2.2.2.2.2)⟩

theorem deed_5 {rest : Led} {dl : Addr} {nl : Addr} {l : Addr} {ol : Addr} {dk : Addr} {dd : Addr} {k : Nat} {kd : Nat} {kn : Nat} {ok : Nat} {dn : Nat} {vs : List Value} {ovs : List Value} {nvs : List Value} {ns : List Int} {nns : List Int} {es : List DictEntry} {ix : Int} {sd : Int} {i : Int} {b : Int} {u : Tok} {t1 : Tok} {t2 : Tok} {tk : Tok} (hni : IntsAre nvs nns) (hi : IntsAre vs ns) (hoi : IntsAre ovs ns) (hn : (nl, listOf nvs.toArray kn) ∈ rest) (hol : (ol, listOf ovs.toArray ok) ∈ rest) (hdk : (dk, instObj 67 dd) ∈ rest) (hdd : (dd, dictOf es dn) ∈ rest) (hbl : getL (Str.ofString "blocks") es = some (some (.int b u))) (hb : b = 20 ∨ b = 300) (hz : Sz ns) (ho : Oct ns) (h0 : 0 ≤ ix) (h1 : ix ≤ nns.length) (h2 : 0 ≤ sd) (h3 : sd < 2147483647) (hl : nns.length ≤ 64) (hne : ∀ p ∈ rest, p.1 ≠ dl) (hne2 : ∀ p ∈ rest, p.1 ≠ l) (hdl : @Ne Nat l dl) (hkc : tkx nns ix sd 9 = 5) :
    Sp 262 20 ((dl, listOf [.ref nl, .int ix t1, .int sd t2].toArray kd) :: (l, listOf vs.toArray k) :: rest) [.ref dl, .ref l, .ref ol, .int i tk, .ref dk] (DeedOut dl nl l kd k nns rest) :=
  deed_5_c { rest := rest, dl := dl, nl := nl, l := l, ol := ol, dk := dk, dd := dd, k := k, kd := kd, kn := kn, ok := ok, dn := dn, vs := vs, ovs := ovs, nvs := nvs, ns := ns, nns := nns, es := es, ix := ix, sd := sd, i := i, b := b, u := u, t1 := t1, t2 := t2, tk := tk } hni hi hoi hn hol hdk hdd hbl hb hz ho h0 h1 h2 h3 hl hne hne2 hdl hkc
-- D6

noncomputable def deed_6_P (m : Pm) : Prop := (IntsAre m.nvs m.nns) → (IntsAre m.vs m.ns) → (IntsAre m.ovs m.ns) → ((m.nl, listOf m.nvs.toArray m.kn) ∈ m.rest) → ((m.ol, listOf m.ovs.toArray m.ok) ∈ m.rest) → ((m.dk, instObj 67 m.dd) ∈ m.rest) → ((m.dd, dictOf m.es m.dn) ∈ m.rest) → (getL (Str.ofString "blocks") m.es = some (some (.int m.b m.u))) → (m.b = 20 ∨ m.b = 300) → (Sz m.ns) → (Oct m.ns) → (0 ≤ m.ix) → (m.ix ≤ m.nns.length) → (0 ≤ m.sd) → (m.sd < 2147483647) → (m.nns.length ≤ 64) → (∀ p ∈ m.rest, p.1 ≠ m.dl) → (∀ p ∈ m.rest, p.1 ≠ m.l) → (@Ne Nat m.l m.dl) → (tkx m.nns m.ix m.sd 9 = 6) → Sp 262 20 ((m.dl, listOf [.ref m.nl, .int m.ix m.t1, .int m.sd m.t2].toArray m.kd) :: (m.l, listOf m.vs.toArray m.k) :: m.rest) [.ref m.dl, .ref m.l, .ref m.ol, .int m.i m.tk, .ref m.dk] (DeedOut m.dl m.nl m.l m.kd m.k m.nns m.rest)
set_option maxHeartbeats 20000000 in
theorem deed_6_c : ∀ m : Pm, deed_6_P m := by
  refine eps ?_
  intro hni hi hoi hn hol hdk hdd hbl hb hz ho h0 h1 h2 h3 hl hne hne2 hdl hkc
  refine' sp_enterC [Str.ofString "deal", Str.ofString "memory", Str.ofString "octets", Str.ofString "at", Str.ofString "disk"] ?hf ?hc ?hb ?hl ?h2 ?h3 ?h4 ?h5 (epsR ?h)
  (case hf => intro _; k_is)
  (case hc => intro _; k_is)
  (case hb => intro _; exact BindsTo.of_eq rfl)
  (case hl => exact rfl)
  (case h2 => exact rfl)
  (case h3 => exact rfl)
  (case h4 => exact rfl)
  (case h5 => decide)
  intro ok cells Y l1
  obtain ⟨o1, rfl, d1⟩ := CellsAre.one Y
  have hCd := cell_ne l1 (.head _)
  have hCl := cell_ne l1 (.tail _ (.head _))
  have hnd : @Ne Nat (pick deed_6_P).nl (pick deed_6_P).dl := hne _ hn
  conv => whnf
  refine v_assign2t ok rfl rfl rfl rfl rfl rfl ?_
  conv => whnf
  refine ⟨_, _, _, rfl, .head _, d1, ?_⟩
  conv => whnf
  intro _
  conv => whnf
  refine ⟨_, _, law_take_k (.tail hCd (.head (hd_ne hdl hne))) (.tail _ (.tail _ (.tail _ (hn)))) hnd hni hl h0 h1 h2 h3 (by decide) hkc, Nat.le_of_ble_eq_true rfl, ?_⟩
  rintro _ _ ⟨_, ix1, sd1, _, _, rfl, ta1, tb1, tc1, td1, rfl⟩
  conv => whnf
  intro _
  conv => whnf
  refine ⟨_, _, law_got_v (n := 36) (.tail _ (.tail _ (.tail _ (hol)))) hoi hz (by decide), Nat.le_of_ble_eq_true rfl, ?_⟩
  rintro _ _ hp
  obtain ⟨lb, vb, kb, rfl, hb', ob, rfl⟩ := hp
  conv => whnf
  intro _
  conv => whnf
  intro _
  conv => whnf
  refine v_tuple ok ?_
  conv => whnf
  intro _
  conv => whnf
  intro _
  conv => whnf
  refine ⟨Nat.le_of_ble_eq_true rfl, fun Dt ot => ?_⟩
  conv => whnf
  refine v_in (.head _) (.cons _ _ (.cons _ _ .nil)) ?_
  conv => whnf
  intro _
  conv => whnf
  intro _
  conv => whnf
  intro _
  conv => whnf
  refine ⟨_, _, _, rfl, .tail _ (.tail _ (.head _)), d1, ?_⟩
  conv => whnf
  intro _
  conv => whnf
  refine ⟨_, _, law_take_x (.tail (Ne.symm ot.2.2.1) (.tail (Ne.symm ob.2.1) (.tail hCd (.head (hd_ne hdl hne))))) (.tail _ (.tail _ (.tail _ (.tail _ (.tail _ (hn)))))) hnd hni hl ta1 tb1 tc1 td1 (by decide), Nat.le_of_ble_eq_true rfl, ?_⟩
  rintro _ _ ⟨x, _, ix2, sd2, _, _, rfl, x0, x1, ta2, tb2, tc2, td2, rfl⟩
  conv => whnf
  refine ⟨_, _, sp_of_head (.tail (Ne.symm ot.2.2.2.1) (.tail (Ne.symm ob.2.2.1) (.tail hCl (.tail (Ne.symm hdl) (.head hne2))))) fun rest' hne' hin => begin_extent_v hne' hi hz x0 x1, Nat.le_of_ble_eq_true rfl, ?_⟩
  rintro _ _ ⟨_, ⟨rfl, _, rfl, hm⟩, rfl⟩
  conv => whnf
  intro _
  conv => whnf
  intro _
  conv => whnf
  intro _
  conv => whnf
  refine ⟨by decide, fun _ => ?_⟩
  conv => whnf
  intro _
  conv => whnf
  intro _
  conv => whnf
  refine ⟨by decide, by decide, fun _ => ?_⟩
  conv => whnf
  intro _
  conv => whnf
  intro _
  conv => whnf
  refine ⟨Nat.le_of_ble_eq_true rfl, fun DR oR => ?_⟩
  conv => whnf
  intro _
  conv => whnf
  refine ⟨Nat.le_of_ble_eq_true rfl, fun DZ oZ => ?_⟩
  conv => whnf
  intro _
  conv => whnf
  refine v_rep (.head _) (.cons _ _ .nil) (by decide) (by decide) (Nat.le_of_ble_eq_true rfl) fun D4 us4 hu4 o4 => ?_
  conv => whnf
  refine v_cat (.tail _ (.tail _ (.head _))) (.head _) (.cons _ _ (.cons _ _ (.cons _ _ .nil))) hu4 (Nat.le_of_ble_eq_true rfl) fun D5 us5 hu5 o5 => ?_
  conv => whnf
  refine ⟨_, _, law_put_v (.tail _ (.tail _ (.tail _ (.tail _ (.tail _ (.tail _ (.tail _ (.tail _ (.tail _ (hol)))))))))) hoi (.head _) hu5 hz, Nat.le_of_ble_eq_true rfl, ?_⟩
  rintro _ _ hp
  obtain ⟨lp3, vp3, kp3, rfl, hp3, op3, rfl⟩ := hp
  exact ⟨((pick deed_6_P).dl, _) :: ((pick deed_6_P).l, _) :: (lp3, _) :: (pick deed_6_P).rest, List.forall_mem_cons.mpr ⟨(.tail _ (.tail _ (.tail _ (.tail _ (.tail _ (.tail _ (.tail _ (.tail _ (.head _))))))))), List.forall_mem_cons.mpr ⟨(.tail _ (.tail _ (.tail _ (.tail _ (.tail _ (.tail _ (.tail _ (.tail _ (.tail _ (.head _)))))))))), List.forall_mem_cons.mpr ⟨(.head _), fun _ hp => (.tail _ (.tail _ (.tail _ (.tail _ (.tail _ (.tail _ (.tail _ (.tail _ (.tail _ (.tail _ (hp)))))))))))⟩⟩⟩, DeedOut.of hm hp3 (rfl) (hz.put _ _) (ho.put _ (oct_begin x0 x1)) ta2 tb2 tc2 td2 op3.2.2.2.2.2.2.2.1 op3.2.2.2.2.2.2.2.2.1 (op3.2.2.2.2.2.2.2.2.2)⟩

theorem deed_6 {rest : Led} {dl : Addr} {nl : Addr} {l : Addr} {ol : Addr} {dk : Addr} {dd : Addr} {k : Nat} {kd : Nat} {kn : Nat} {ok : Nat} {dn : Nat} {vs : List Value} {ovs : List Value} {nvs : List Value} {ns : List Int} {nns : List Int} {es : List DictEntry} {ix : Int} {sd : Int} {i : Int} {b : Int} {u : Tok} {t1 : Tok} {t2 : Tok} {tk : Tok} (hni : IntsAre nvs nns) (hi : IntsAre vs ns) (hoi : IntsAre ovs ns) (hn : (nl, listOf nvs.toArray kn) ∈ rest) (hol : (ol, listOf ovs.toArray ok) ∈ rest) (hdk : (dk, instObj 67 dd) ∈ rest) (hdd : (dd, dictOf es dn) ∈ rest) (hbl : getL (Str.ofString "blocks") es = some (some (.int b u))) (hb : b = 20 ∨ b = 300) (hz : Sz ns) (ho : Oct ns) (h0 : 0 ≤ ix) (h1 : ix ≤ nns.length) (h2 : 0 ≤ sd) (h3 : sd < 2147483647) (hl : nns.length ≤ 64) (hne : ∀ p ∈ rest, p.1 ≠ dl) (hne2 : ∀ p ∈ rest, p.1 ≠ l) (hdl : @Ne Nat l dl) (hkc : tkx nns ix sd 9 = 6) :
    Sp 262 20 ((dl, listOf [.ref nl, .int ix t1, .int sd t2].toArray kd) :: (l, listOf vs.toArray k) :: rest) [.ref dl, .ref l, .ref ol, .int i tk, .ref dk] (DeedOut dl nl l kd k nns rest) :=
  deed_6_c { rest := rest, dl := dl, nl := nl, l := l, ol := ol, dk := dk, dd := dd, k := k, kd := kd, kn := kn, ok := ok, dn := dn, vs := vs, ovs := ovs, nvs := nvs, ns := ns, nns := nns, es := es, ix := ix, sd := sd, i := i, b := b, u := u, t1 := t1, t2 := t2, tk := tk } hni hi hoi hn hol hdk hdd hbl hb hz ho h0 h1 h2 h3 hl hne hne2 hdl hkc
-- D7

noncomputable def deed_7_P (m : Pm) : Prop := (IntsAre m.nvs m.nns) → (IntsAre m.vs m.ns) → (IntsAre m.ovs m.ns) → ((m.nl, listOf m.nvs.toArray m.kn) ∈ m.rest) → ((m.ol, listOf m.ovs.toArray m.ok) ∈ m.rest) → ((m.dk, instObj 67 m.dd) ∈ m.rest) → ((m.dd, dictOf m.es m.dn) ∈ m.rest) → (getL (Str.ofString "blocks") m.es = some (some (.int m.b m.u))) → (m.b = 20 ∨ m.b = 300) → (Sz m.ns) → (Oct m.ns) → (0 ≤ m.ix) → (m.ix ≤ m.nns.length) → (0 ≤ m.sd) → (m.sd < 2147483647) → (m.nns.length ≤ 64) → (∀ p ∈ m.rest, p.1 ≠ m.dl) → (∀ p ∈ m.rest, p.1 ≠ m.l) → (@Ne Nat m.l m.dl) → (tkx m.nns m.ix m.sd 9 = 7) → Sp 262 20 ((m.dl, listOf [.ref m.nl, .int m.ix m.t1, .int m.sd m.t2].toArray m.kd) :: (m.l, listOf m.vs.toArray m.k) :: m.rest) [.ref m.dl, .ref m.l, .ref m.ol, .int m.i m.tk, .ref m.dk] (DeedOut m.dl m.nl m.l m.kd m.k m.nns m.rest)
set_option maxHeartbeats 20000000 in
theorem deed_7_c : ∀ m : Pm, deed_7_P m := by
  refine eps ?_
  intro hni hi hoi hn hol hdk hdd hbl hb hz ho h0 h1 h2 h3 hl hne hne2 hdl hkc
  refine' sp_enterC [Str.ofString "deal", Str.ofString "memory", Str.ofString "octets", Str.ofString "at", Str.ofString "disk"] ?hf ?hc ?hb ?hl ?h2 ?h3 ?h4 ?h5 (epsR ?h)
  (case hf => intro _; k_is)
  (case hc => intro _; k_is)
  (case hb => intro _; exact BindsTo.of_eq rfl)
  (case hl => exact rfl)
  (case h2 => exact rfl)
  (case h3 => exact rfl)
  (case h4 => exact rfl)
  (case h5 => decide)
  intro ok cells Y l1
  obtain ⟨o1, rfl, d1⟩ := CellsAre.one Y
  have hCd := cell_ne l1 (.head _)
  have hCl := cell_ne l1 (.tail _ (.head _))
  have hnd : @Ne Nat (pick deed_7_P).nl (pick deed_7_P).dl := hne _ hn
  conv => whnf
  refine v_assign2t ok rfl rfl rfl rfl rfl rfl ?_
  conv => whnf
  refine ⟨_, _, _, rfl, .head _, d1, ?_⟩
  conv => whnf
  intro _
  conv => whnf
  refine ⟨_, _, law_take_k (.tail hCd (.head (hd_ne hdl hne))) (.tail _ (.tail _ (.tail _ (hn)))) hnd hni hl h0 h1 h2 h3 (by decide) hkc, Nat.le_of_ble_eq_true rfl, ?_⟩
  rintro _ _ ⟨_, ix1, sd1, _, _, rfl, ta1, tb1, tc1, td1, rfl⟩
  conv => whnf
  intro _
  conv => whnf
  refine ⟨_, _, law_got_v (n := 36) (.tail _ (.tail _ (.tail _ (hol)))) hoi hz (by decide), Nat.le_of_ble_eq_true rfl, ?_⟩
  rintro _ _ hp
  obtain ⟨lb, vb, kb, rfl, hb', ob, rfl⟩ := hp
  conv => whnf
  intro _
  conv => whnf
  intro _
  conv => whnf
  refine v_tuple ok ?_
  conv => whnf
  intro _
  conv => whnf
  intro _
  conv => whnf
  refine ⟨Nat.le_of_ble_eq_true rfl, fun Dt ot => ?_⟩
  conv => whnf
  refine v_in (.head _) (.cons _ _ (.cons _ _ .nil)) ?_
  conv => whnf
  intro _
  conv => whnf
  intro _
  conv => whnf
  intro _
  conv => whnf
  intro _
  conv => whnf
  refine ⟨_, _, _, rfl, .tail _ (.tail _ (.head _)), d1, ?_⟩
  conv => whnf
  intro _
  conv => whnf
  refine ⟨_, _, law_take_x (.tail (Ne.symm ot.2.2.1) (.tail (Ne.symm ob.2.1) (.tail hCd (.head (hd_ne hdl hne))))) (.tail _ (.tail _ (.tail _ (.tail _ (.tail _ (hn)))))) hnd hni hl ta1 tb1 tc1 td1 (by decide), Nat.le_of_ble_eq_true rfl, ?_⟩
  rintro _ _ ⟨x, _, ix2, sd2, _, _, rfl, x0, x1, ta2, tb2, tc2, td2, rfl⟩
  conv => whnf
  intro _
  conv => whnf
  intro _
  conv => whnf
  refine ⟨Nat.le_of_ble_eq_true rfl, fun DS oS => ?_⟩
  conv => whnf
  refine ⟨_, _, _, rfl, .tail _ (.tail _ (.tail _ (.head _))), d1, ?_⟩
  conv => whnf
  intro _
  conv => whnf
  refine ⟨_, _, law_take_x (.tail (Ne.symm oS.2.2.2.1) (.tail (Ne.symm ot.2.2.1) (.tail (Ne.symm ob.2.1) (.tail hCd (.head (hd_ne hdl hne)))))) (.tail _ (.tail _ (.tail _ (.tail _ (.tail _ (.tail _ (hn))))))) hnd hni hl ta2 tb2 tc2 td2 (by decide), Nat.le_of_ble_eq_true rfl, ?_⟩
  rintro _ _ ⟨y, _, ix3, sd3, _, _, rfl, y0, y1, ta3, tb3, tc3, td3, rfl⟩
  conv => whnf
  refine v_sub (ns := [1, 200]) (.head _) (.cons _ _ (.cons _ _ .nil)) y0 y1 (by omega) fun _ => ?_
  conv => whnf
  refine ⟨mul_l (by omega) (by omega), ?_⟩
  intro _
  conv => whnf
  generalize x * _ = r
  refine ⟨_, _, sp_of_head (.tail (Ne.symm oS.2.2.2.2.1) (.tail (Ne.symm ot.2.2.2.1) (.tail (Ne.symm ob.2.2.1) (.tail hCl (.tail (Ne.symm hdl) (.head hne2)))))) fun rest' hne' hin => set_random_v hne' hi hz, Nat.le_of_ble_eq_true rfl, ?_⟩
  rintro _ _ ⟨_, ⟨rfl, _, rfl, hm⟩, rfl⟩
  conv => whnf
  intro _
  conv => whnf
  intro _
  conv => whnf
  intro _
  conv => whnf
  refine ⟨by decide, fun _ => ?_⟩
  conv => whnf
  intro _
  conv => whnf
  refine ⟨by decide, by decide, fun _ => ?_⟩
  conv => whnf
  intro _
  conv => whnf
  refine ⟨by decide, fun _ => ?_⟩
  conv => whnf
  intro _
  conv => whnf
  refine ⟨by decide, by decide, fun _ => ?_⟩
  conv => whnf
  intro _
  conv => whnf
  refine ⟨by decide, fun _ => ?_⟩
  conv => whnf
  refine ⟨Nat.le_of_ble_eq_true rfl, fun DR oR => ?_⟩
  conv => whnf
  refine ⟨_, _, law_put_v (.tail _ (.tail _ (.tail _ (.tail _ (.tail _ (.tail _ (.tail _ (hol)))))))) hoi (.head _) (.cons _ _ (.cons _ _ (.cons _ _ .nil))) hz, Nat.le_of_ble_eq_true rfl, ?_⟩
  rintro _ _ hp
  obtain ⟨lp4, vp4, kp4, rfl, hp4, op4, rfl⟩ := hp
  exact ⟨((pick deed_7_P).dl, _) :: ((pick deed_7_P).l, _) :: (lp4, _) :: (pick deed_7_P).rest, List.forall_mem_cons.mpr ⟨(.tail _ (.tail _ (.tail _ (.tail _ (.tail _ (.tail _ (.head _))))))), List.forall_mem_cons.mpr ⟨(.tail _ (.tail _ (.tail _ (.tail _ (.tail _ (.tail _ (.tail _ (.head _)))))))), List.forall_mem_cons.mpr ⟨(.head _), fun _ hp => (.tail _ (.tail _ (.tail _ (.tail _ (.tail _ (.tail _ (.tail _ (.tail _ (hp)))))))))⟩⟩⟩, DeedOut.of hm hp4 (rfl) (hz.put _ _) (by repeat' (first | with_reducible assumption | exact Oct.nil | refine Oct.put ?_ _ ?_ | refine Oct.cons ?_ ?_ ?_ | omega)) ta3 tb3 tc3 td3 op4.2.2.2.2.2.1 op4.2.2.2.2.2.2.1 (op4.2.2.2.2.2.2.2)⟩

theorem deed_7 {rest : Led} {dl : Addr} {nl : Addr} {l : Addr} {ol : Addr} {dk : Addr} {dd : Addr} {k : Nat} {kd : Nat} {kn : Nat} {ok : Nat} {dn : Nat} {vs : List Value} {ovs : List Value} {nvs : List Value} {ns : List Int} {nns : List Int} {es : List DictEntry} {ix : Int} {sd : Int} {i : Int} {b : Int} {u : Tok} {t1 : Tok} {t2 : Tok} {tk : Tok} (hni : IntsAre nvs nns) (hi : IntsAre vs ns) (hoi : IntsAre ovs ns) (hn : (nl, listOf nvs.toArray kn) ∈ rest) (hol : (ol, listOf ovs.toArray ok) ∈ rest) (hdk : (dk, instObj 67 dd) ∈ rest) (hdd : (dd, dictOf es dn) ∈ rest) (hbl : getL (Str.ofString "blocks") es = some (some (.int b u))) (hb : b = 20 ∨ b = 300) (hz : Sz ns) (ho : Oct ns) (h0 : 0 ≤ ix) (h1 : ix ≤ nns.length) (h2 : 0 ≤ sd) (h3 : sd < 2147483647) (hl : nns.length ≤ 64) (hne : ∀ p ∈ rest, p.1 ≠ dl) (hne2 : ∀ p ∈ rest, p.1 ≠ l) (hdl : @Ne Nat l dl) (hkc : tkx nns ix sd 9 = 7) :
    Sp 262 20 ((dl, listOf [.ref nl, .int ix t1, .int sd t2].toArray kd) :: (l, listOf vs.toArray k) :: rest) [.ref dl, .ref l, .ref ol, .int i tk, .ref dk] (DeedOut dl nl l kd k nns rest) :=
  deed_7_c { rest := rest, dl := dl, nl := nl, l := l, ol := ol, dk := dk, dd := dd, k := k, kd := kd, kn := kn, ok := ok, dn := dn, vs := vs, ovs := ovs, nvs := nvs, ns := ns, nns := nns, es := es, ix := ix, sd := sd, i := i, b := b, u := u, t1 := t1, t2 := t2, tk := tk } hni hi hoi hn hol hdk hdd hbl hb hz ho h0 h1 h2 h3 hl hne hne2 hdl hkc
-- D8

noncomputable def deed_8_P (m : Pm) : Prop := (IntsAre m.nvs m.nns) → (IntsAre m.vs m.ns) → (IntsAre m.ovs m.ns) → ((m.nl, listOf m.nvs.toArray m.kn) ∈ m.rest) → ((m.ol, listOf m.ovs.toArray m.ok) ∈ m.rest) → ((m.dk, instObj 67 m.dd) ∈ m.rest) → ((m.dd, dictOf m.es m.dn) ∈ m.rest) → (getL (Str.ofString "blocks") m.es = some (some (.int m.b m.u))) → (m.b = 20 ∨ m.b = 300) → (Sz m.ns) → (Oct m.ns) → (0 ≤ m.ix) → (m.ix ≤ m.nns.length) → (0 ≤ m.sd) → (m.sd < 2147483647) → (m.nns.length ≤ 64) → (∀ p ∈ m.rest, p.1 ≠ m.dl) → (∀ p ∈ m.rest, p.1 ≠ m.l) → (@Ne Nat m.l m.dl) → (tkx m.nns m.ix m.sd 9 = 8) → Sp 262 20 ((m.dl, listOf [.ref m.nl, .int m.ix m.t1, .int m.sd m.t2].toArray m.kd) :: (m.l, listOf m.vs.toArray m.k) :: m.rest) [.ref m.dl, .ref m.l, .ref m.ol, .int m.i m.tk, .ref m.dk] (DeedOut m.dl m.nl m.l m.kd m.k m.nns m.rest)
set_option maxHeartbeats 20000000 in
theorem deed_8_c : ∀ m : Pm, deed_8_P m := by
  refine eps ?_
  intro hni hi hoi hn hol hdk hdd hbl hb hz ho h0 h1 h2 h3 hl hne hne2 hdl hkc
  refine' sp_enterC [Str.ofString "deal", Str.ofString "memory", Str.ofString "octets", Str.ofString "at", Str.ofString "disk"] ?hf ?hc ?hb ?hl ?h2 ?h3 ?h4 ?h5 (epsR ?h)
  (case hf => intro _; k_is)
  (case hc => intro _; k_is)
  (case hb => intro _; exact BindsTo.of_eq rfl)
  (case hl => exact rfl)
  (case h2 => exact rfl)
  (case h3 => exact rfl)
  (case h4 => exact rfl)
  (case h5 => decide)
  intro ok cells Y l1
  obtain ⟨o1, rfl, d1⟩ := CellsAre.one Y
  have hCd := cell_ne l1 (.head _)
  have hCl := cell_ne l1 (.tail _ (.head _))
  have hnd : @Ne Nat (pick deed_8_P).nl (pick deed_8_P).dl := hne _ hn
  conv => whnf
  refine v_assign2t ok rfl rfl rfl rfl rfl rfl ?_
  conv => whnf
  refine ⟨_, _, _, rfl, .head _, d1, ?_⟩
  conv => whnf
  intro _
  conv => whnf
  refine ⟨_, _, law_take_k (.tail hCd (.head (hd_ne hdl hne))) (.tail _ (.tail _ (.tail _ (hn)))) hnd hni hl h0 h1 h2 h3 (by decide) hkc, Nat.le_of_ble_eq_true rfl, ?_⟩
  rintro _ _ ⟨_, ix1, sd1, _, _, rfl, ta1, tb1, tc1, td1, rfl⟩
  conv => whnf
  intro _
  conv => whnf
  refine ⟨_, _, law_got_v (n := 36) (.tail _ (.tail _ (.tail _ (hol)))) hoi hz (by decide), Nat.le_of_ble_eq_true rfl, ?_⟩
  rintro _ _ hp
  obtain ⟨lb, vb, kb, rfl, hb', ob, rfl⟩ := hp
  conv => whnf
  intro _
  conv => whnf
  intro _
  conv => whnf
  refine v_tuple ok ?_
  conv => whnf
  intro _
  conv => whnf
  intro _
  conv => whnf
  refine ⟨Nat.le_of_ble_eq_true rfl, fun Dt ot => ?_⟩
  conv => whnf
  refine v_in (.head _) (.cons _ _ (.cons _ _ .nil)) ?_
  conv => whnf
  intro _
  conv => whnf
  intro _
  conv => whnf
  intro _
  conv => whnf
  intro _
  conv => whnf
  refine v_compJ ok (n := 2) (fun j ys nw => ∃ (row : List Int) (ix' sd' : Int) (s1 s2 : Tok), IntsAre ys row ∧ row.length = j ∧ Oct row ∧ 0 ≤ ix' ∧ ix' ≤ (pick deed_8_P).nns.length ∧ 0 ≤ sd' ∧ sd' < 2147483647 ∧ nw = (Dt, ({ cls := .type "tuple", data := .seq _ } : Obj)) :: (lb, listOf vb.toArray kb) :: (_, o1) :: ((pick deed_8_P).dl, listOf [.ref (pick deed_8_P).nl, .int ix' s1, .int sd' s2].toArray (pick deed_8_P).kd) :: ((pick deed_8_P).l, listOf (pick deed_8_P).vs.toArray (pick deed_8_P).k) :: (pick deed_8_P).rest) ⟨rfl, rfl⟩ rfl (fun _ => ⟨⟨_, rfl⟩, rfl⟩) (by decide) rfl (by decide) rfl (by decide) rfl rfl ⟨[], _, _, _, _, .nil, rfl, Oct.nil, ta1, tb1, tc1, td1, rfl⟩ ?_ ?_
  · rintro j t I oI C2 oC D ys _ ⟨row, ix', sd', s1, s2, hy, hlen, hoc, q0, q1, q2, q3, rfl⟩ off ne
    conv => whnf
    refine ⟨_, _, _, rfl, .tail _ (.tail _ (.tail _ (.tail _ (.tail _ (.head _))))), d1, ?_⟩
    conv => whnf
    intro _
    conv => whnf
    refine ⟨_, _, law_take_x (.tail (Ne.symm off.2.2.2.1.1) (.tail (Ne.symm off.2.2.2.1.2.1) (.tail (Ne.symm off.2.2.2.1.2.2) (.tail (Ne.symm ot.2.2.1) (.tail (Ne.symm ob.2.1) (.tail hCd (.head (hd_ne hdl hne)))))))) (.tail _ (.tail _ (.tail _ (.tail _ (.tail _ (.tail _ (.tail _ (.tail _ (hn))))))))) hnd hni hl q0 q1 q2 q3 (by decide), Nat.le_of_ble_eq_true rfl, ?_⟩
    rintro _ _ ⟨x, t', ix2, sd2, _, _, rfl, x0, x1, p0, p1, p2, p3, rfl⟩
    exact ⟨rfl, _, fun _ hp => hp, off, row ++ [x], ix2, sd2, _, _, IntsAre.append hy (.cons _ _ .nil), by rw [List.length_append, hlen]; rfl, oct_snoc hoc x0 x1, p0, p1, p2, p3, rfl⟩
  · rintro D ys _ ⟨row, ix', sd', s1, s2, hy, hlen, hoc, q0, q1, q2, q3, rfl⟩ oy
    conv => whnf
    intro _
    conv => whnf
    refine ⟨Nat.le_of_ble_eq_true rfl, fun DZ oZ => ?_⟩
    conv => whnf
    intro _
    conv => whnf
    refine v_rep (.head _) (.cons _ _ .nil) (by decide) (by decide) (Nat.le_of_ble_eq_true rfl) fun D4 us4 hu4 o4 => ?_
    conv => whnf
    refine v_cat (n := ys.length) (.tail _ (.tail _ (.head _))) (.head _) hy hu4 (by rw [hlen]; decide) fun D5 us5 hu5 o5 => ?_
    conv => whnf
    have hnl : (row ++ (List.replicate (Int.toNat 9) [(65 : Int)]).flatten).length = 11 := by rw [List.length_append, hlen]; rfl
    have hno : Oct (row ++ (List.replicate (Int.toNat 9) [(65 : Int)]).flatten) := oct_app hoc (oct_flat (Oct.cons (by decide) (by decide) Oct.nil) _)
    generalize row ++ (List.replicate _ [(65 : Int)]).flatten = nm at hu5 hnl hno
    intro _
    conv => whnf
    refine ⟨_, _, new_fcb_v (.head _) hu5 hnl, Nat.le_of_ble_eq_true rfl, ?_⟩
    rintro _ _ hp
    obtain ⟨lf, vf, kf, rfl, hf, of, rfl⟩ := hp
    conv => whnf
    refine ⟨_, _, sp_of_head (.tail (Ne.symm of.2.2.2.2.2.2.2.2.1) (.tail (Ne.symm o5.2.2.2.2.2.2.2.1) (.tail (Ne.symm o4.2.2.2.2.2.2.1) (.tail (Ne.symm oZ.2.2.2.2.2.1) (.tail (Ne.symm oy.2.2.2.2.1) (.tail (Ne.symm ot.2.2.2.1) (.tail (Ne.symm ob.2.2.1) (.tail hCl (.tail (Ne.symm hdl) (.head hne2)))))))))) fun rest' hne' hin => put_octets_v hne' hi (hin _ (.head _) (Ne.symm of.2.2.2.2.2.2.2.2.1)) hf hz, Nat.le_of_ble_eq_true rfl, ?_⟩
    rintro _ _ ⟨_, ⟨rfl, _, rfl, hm⟩, rfl⟩
    conv => whnf
    intro _
    conv => whnf
    refine ⟨Nat.le_of_ble_eq_true rfl, fun DA1 oA1 => ?_⟩
    conv => whnf
    refine v_cat (.head _) (.tail _ (.tail _ (.head _))) (.cons _ _ .nil) hu5 (by rw [hnl]; decide) fun D6 w6 hw6 o6 => ?_
    conv => whnf
    intro _
    conv => whnf
    refine ⟨Nat.le_of_ble_eq_true rfl, fun DA3 oA3 => ?_⟩
    conv => whnf
    intro _
    conv => whnf
    refine v_rep (.head _) (.cons _ _ .nil) (by decide) (by decide) (Nat.le_of_ble_eq_true rfl) fun D7 w7 hw7 o7 => ?_
    conv => whnf
    refine v_cat (.tail _ (.tail _ (.head _))) (.head _) hw6 hw7 (by rw [List.length_append, hnl]; decide) fun D8 w8 hw8 o8 => ?_
    conv => whnf
    refine ⟨_, _, law_put_v (.tail _ (.tail _ (.tail _ (.tail _ (.tail _ (.tail _ (.tail _ (.tail _ (.tail _ (.tail _ (.tail _ (.tail _ (.tail _ (.tail _ (.tail _ (hol)))))))))))))))) hoi (.head _) hw8 hz, Nat.le_of_ble_eq_true rfl, ?_⟩
    rintro _ _ hp
    obtain ⟨lp2, vp2, kp2, rfl, hp2, op2, rfl⟩ := hp
    exact ⟨((pick deed_8_P).dl, _) :: ((pick deed_8_P).l, _) :: (lp2, _) :: (pick deed_8_P).rest, List.forall_mem_cons.mpr ⟨(.tail _ (.tail _ (.tail _ (.tail _ (.tail _ (.tail _ (.tail _ (.tail _ (.tail _ (.tail _ (.tail _ (.tail _ (.tail _ (.tail _ (.head _))))))))))))))), List.forall_mem_cons.mpr ⟨(.tail _ (.tail _ (.tail _ (.tail _ (.tail _ (.tail _ (.tail _ (.tail _ (.tail _ (.tail _ (.tail _ (.tail _ (.tail _ (.tail _ (.tail _ (.head _)))))))))))))))), List.forall_mem_cons.mpr ⟨(.head _), fun _ hp => (.tail _ (.tail _ (.tail _ (.tail _ (.tail _ (.tail _ (.tail _ (.tail _ (.tail _ (.tail _ (.tail _ (.tail _ (.tail _ (.tail _ (.tail _ (.tail _ (hp)))))))))))))))))⟩⟩⟩, DeedOut.of hm hp2 (congrArg (put _ _) (map_oct (oct_fcb hno))) (hz.put _ _) (ho.put _ (oct_fcb hno)) q0 q1 q2 q3 op2.2.2.2.2.2.2.2.2.2.2.2.2.2.1 op2.2.2.2.2.2.2.2.2.2.2.2.2.2.2.1 (op2.2.2.2.2.2.2.2.2.2.2.2.2.2.2.2)⟩

theorem deed_8 {rest : Led} {dl : Addr} {nl : Addr} {l : Addr} {ol : Addr} {dk : Addr} {dd : Addr} {k : Nat} {kd : Nat} {kn : Nat} {ok : Nat} {dn : Nat} {vs : List Value} {ovs : List Value} {nvs : List Value} {ns : List Int} {nns : List Int} {es : List DictEntry} {ix : Int} {sd : Int} {i : Int} {b : Int} {u : Tok} {t1 : Tok} {t2 : Tok} {tk : Tok} (hni : IntsAre nvs nns) (hi : IntsAre vs ns) (hoi : IntsAre ovs ns) (hn : (nl, listOf nvs.toArray kn) ∈ rest) (hol : (ol, listOf ovs.toArray ok) ∈ rest) (hdk : (dk, instObj 67 dd) ∈ rest) (hdd : (dd, dictOf es dn) ∈ rest) (hbl : getL (Str.ofString "blocks") es = some (some (.int b u))) (hb : b = 20 ∨ b = 300) (hz : Sz ns) (ho : Oct ns) (h0 : 0 ≤ ix) (h1 : ix ≤ nns.length) (h2 : 0 ≤ sd) (h3 : sd < 2147483647) (hl : nns.length ≤ 64) (hne : ∀ p ∈ rest, p.1 ≠ dl) (hne2 : ∀ p ∈ rest, p.1 ≠ l) (hdl : @Ne Nat l dl) (hkc : tkx nns ix sd 9 = 8) :
    Sp 262 20 ((dl, listOf [.ref nl, .int ix t1, .int sd t2].toArray kd) :: (l, listOf vs.toArray k) :: rest) [.ref dl, .ref l, .ref ol, .int i tk, .ref dk] (DeedOut dl nl l kd k nns rest) :=
  deed_8_c { rest := rest, dl := dl, nl := nl, l := l, ol := ol, dk := dk, dd := dd, k := k, kd := kd, kn := kn, ok := ok, dn := dn, vs := vs, ovs := ovs, nvs := nvs, ns := ns, nns := nns, es := es, ix := ix, sd := sd, i := i, b := b, u := u, t1 := t1, t2 := t2, tk := tk } hni hi hoi hn hol hdk hdd hbl hb hz ho h0 h1 h2 h3 hl hne hne2 hdl hkc
-- Lz
/-- what a deed leaves -/
noncomputable def DeedPost (dl nl l dk dd ii : Addr) (io : Obj) (kd kn k dn : Nat) (nvs : List Value) (nns : List Int) (es : List DictEntry) (r : Value) (news' : Led) : Prop :=
  ∃ (os : List Int) (v1 v2 : List Value) (l' : Addr) (k' : Nat) (ix' sd' : Int) (t1' t2' : Tok), r = .ref l' ∧ IntsAre v1 os ∧ IntsAre v2 os ∧ Sz os ∧ Oct os ∧ 0 ≤ ix' ∧ ix' ≤ nns.length ∧ 0 ≤ sd' ∧ sd' < 2147483647 ∧ Nq dl l' ∧ Nq nl l' ∧ Nq l l' ∧ Nq dk l' ∧ Nq dd l' ∧ Nq ii l' ∧
    news' = [(dl, listOf [.ref nl, .int ix' t1', .int sd' t2'].toArray kd), (nl, listOf nvs.toArray kn), (l, listOf v1.toArray k), (l', listOf v2.toArray k'), (dk, instObj 67 dd), (dd, dictOf es dn), (ii, io)]
theorem DeedPost.out {dl nl l dk dd ii : Addr} {io : Obj} {kd kn k dn : Nat} {nvs : List Value} {nns : List Int} {es : List DictEntry} {r : Value} {news' : Led} (h : DeedPost dl nl l dk dd ii io kd kn k dn nvs nns es r news') :
  ∃ (os : List Int) (v1 v2 : List Value) (l' : Addr) (k' : Nat) (ix' sd' : Int) (t1' t2' : Tok), r = .ref l' ∧ IntsAre v1 os ∧ IntsAre v2 os ∧ Sz os ∧ Oct os ∧ 0 ≤ ix' ∧ ix' ≤ nns.length ∧ 0 ≤ sd' ∧ sd' < 2147483647 ∧ Nq dl l' ∧ Nq nl l' ∧ Nq l l' ∧ Nq dk l' ∧ Nq dd l' ∧ Nq ii l' ∧
    news' = [(dl, listOf [.ref nl, .int ix' t1', .int sd' t2'].toArray kd), (nl, listOf nvs.toArray kn), (l, listOf v1.toArray k), (l', listOf v2.toArray k'), (dk, instObj 67 dd), (dd, dictOf es dn), (ii, io)] := h

theorem sp_via {f : Addr} {need : Nat} {news news2 : Led} {vs : List Value} {P P2 : Value → Led → Prop} (S : Sp f need news2 vs P2) (hs : ∀ p ∈ news2, p ∈ news) (h : ∀ r N2, P2 r N2 → ∃ N, (∀ p ∈ N, p ∈ N2) ∧ P r N) : Sp f need news vs P := by
  intro w mean mg mb dp un gd cn cs a ccd cl outer A₀ base h₀ L m s Q E B F X N T hk hd hu hret
  refine S w mean mg mb dp un gd cn cs a ccd cl outer A₀ base h₀ L m s Q E B F X (fun p hp => N p (hs p hp)) T hk hd hu fun r news' h' tk' F' N' hp => ?_
  obtain ⟨N2, hs2, hp2⟩ := h r news' hp
  exact hret r N2 h' tk' F' (fun p hp => N' p (hs2 p hp)) hp2
theorem tk_use {x c many i sd : Int} {nns : List Int} (h : x = tkx nns i sd many) (hk : tkx nns i sd many = c) : x = c := h.trans hk
theorem law_take_sp {news : Led} {g : Obj → Led} {dl nl : Addr} {k kn : Nat} {nvs : List Value} {nns : List Int} {i sd many : Int} {t1 t2 tk : Tok} (U : UpdF dl (listOf [.ref nl, .int i t1, .int sd t2].toArray k) news g) (hn : (nl, listOf nvs.toArray kn) ∈ news) (hni : IntsAre nvs nns) (hne : nl ≠ dl) (hl : nns.length ≤ 64) (h0 : 0 ≤ i) (h1 : i ≤ nns.length) (h2 : 0 ≤ sd) (h3 : sd < 2147483647) (h4 : 0 < many) (h5 : many < 100000) :
    Sp 233 1 news [.ref dl, .int many tk] (fun r news' => ∃ o', (∃ (x : Int) (t : Tok) (i' sd' : Int) (t1' t2' : Tok), r = .int x t ∧ x = tkx nns i sd many ∧ 0 ≤ x ∧ x < many ∧ 0 ≤ i' ∧ i' ≤ nns.length ∧ 0 ≤ sd' ∧ sd' < 2147483647 ∧ o' = listOf [.ref nl, .int i' t1', .int sd' t2'].toArray k) ∧ news' = g o') := by
  refine sp_mono (law_take_u U hn hne hni hl h0 h1 h2 h3 h4) ?_
  rintro r N ⟨o', ⟨t, i', sd', t1', t2', rfl, a, b, c, d, rfl⟩, rfl⟩
  exact ⟨_, ⟨_, t, i', sd', t1', t2', rfl, rfl, tkx_lo h4, tkx_hi h4, a, b, c, d, rfl⟩, rfl⟩
theorem read_any {news : Led} {l ol : Addr} {vs ovs : List Value} {k ok : Nat} {ns : List Int} {i : Int} {tk : Tok} {dk dd : Addr} {es : List DictEntry} {dn : Nat} {b : Int} {u : Tok} (hl : (l, listOf vs.toArray k) ∈ news) (hi : IntsAre vs ns) (hol : (ol, listOf ovs.toArray ok) ∈ news) (hoi : IntsAre ovs ns) (hdk : (dk, instObj 67 dd) ∈ news) (hdd : (dd, dictOf es dn) ∈ news) (hbl : getL (Str.ofString "blocks") es = some (some (.int b u))) (hz : Sz ns) (ho : Oct ns) (h0 : 0 ≤ i) (h1 : i < 65536) (hb : b = 20 ∨ b = 300) :
    Sp 257 10 news [.ref l, .ref ol, .int i tk, .ref dk] (fun r news' => news' = news ∧ r = .bool true) := by
  rcases hb with rfl | rfl <;> exact read_right_v hdk hdd hbl hl hi hol hoi hz ho
theorem law_deed_sp {dl nl l ol dk dd ii : Addr} {io : Obj} {kd kn k ok dn : Nat} {nvs vs ovs : List Value} {nns ns : List Int} {es : List DictEntry} {b ix sd i : Int} {u t1 t2 tk : Tok} (hni : IntsAre nvs nns) (hi : IntsAre vs ns) (hoi : IntsAre ovs ns) (hbl : getL (Str.ofString "blocks") es = some (some (.int b u))) (hb : b = 20 ∨ b = 300) (hz : Sz ns) (ho : Oct ns) (h0 : 0 ≤ ix) (h1 : ix ≤ nns.length) (h2 : 0 ≤ sd) (h3 : sd < 2147483647) (hl : nns.length ≤ 64) (h4 : 0 ≤ i) (h5 : i < 65536) (n1 : Nq dl nl) (n2 : Nq dl l) (n3 : Nq dl ol) (n4 : Nq dl dk) (n5 : Nq dl dd) (n6 : Nq l nl) (n7 : Nq l ol) (n8 : Nq l dk) (n9 : Nq l dd) (m1 : Nq ii dl) (m2 : Nq ii l) :
    Sp 262 20 [(dl, listOf [.ref nl, .int ix t1, .int sd t2].toArray kd), (nl, listOf nvs.toArray kn), (l, listOf vs.toArray k), (ol, listOf ovs.toArray ok), (dk, instObj 67 dd), (dd, dictOf es dn), (ii, io)] [.ref dl, .ref l, .ref ol, .int i tk, .ref dk] (DeedPost dl nl l dk dd ii io kd kn k dn nvs nns es) := by
  have hlo := tkx_lo (nns := nns) (i := ix) (sd := sd) (many := 9) (by decide)
  have hhi := tkx_hi (nns := nns) (i := ix) (sd := sd) (many := 9) (by decide)
  have hc : tkx nns ix sd 9 = 0 ∨ tkx nns ix sd 9 = 1 ∨ tkx nns ix sd 9 = 2 ∨ tkx nns ix sd 9 = 3 ∨ tkx nns ix sd 9 = 4 ∨ tkx nns ix sd 9 = 5 ∨ tkx nns ix sd 9 = 6 ∨ tkx nns ix sd 9 = 7 ∨ tkx nns ix sd 9 = 8 := by omega
  have e1 : ∀ p ∈ ([(nl, listOf nvs.toArray kn), (ol, listOf ovs.toArray ok), (dk, instObj 67 dd), (dd, dictOf es dn), (ii, io)] : Led), p.1 ≠ dl :=
    List.forall_mem_cons.mpr ⟨Ne.symm n1, List.forall_mem_cons.mpr ⟨Ne.symm n3, List.forall_mem_cons.mpr ⟨Ne.symm n4, List.forall_mem_cons.mpr ⟨Ne.symm n5, List.forall_mem_cons.mpr ⟨m1, List.forall_mem_nil _⟩⟩⟩⟩⟩
  have e2 : ∀ p ∈ ([(nl, listOf nvs.toArray kn), (ol, listOf ovs.toArray ok), (dk, instObj 67 dd), (dd, dictOf es dn), (ii, io)] : Led), p.1 ≠ l :=
    List.forall_mem_cons.mpr ⟨Ne.symm n6, List.forall_mem_cons.mpr ⟨Ne.symm n7, List.forall_mem_cons.mpr ⟨Ne.symm n8, List.forall_mem_cons.mpr ⟨Ne.symm n9, List.forall_mem_cons.mpr ⟨m2, List.forall_mem_nil _⟩⟩⟩⟩⟩
  refine sp_via (news2 := (dl, listOf [.ref nl, .int ix t1, .int sd t2].toArray kd) :: (l, listOf vs.toArray k) :: [(nl, listOf nvs.toArray kn), (ol, listOf ovs.toArray ok), (dk, instObj 67 dd), (dd, dictOf es dn), (ii, io)]) (P2 := DeedOut dl nl l kd k nns [(nl, listOf nvs.toArray kn), (ol, listOf ovs.toArray ok), (dk, instObj 67 dd), (dd, dictOf es dn), (ii, io)]) ?_ ?_ ?_
  · rcases hc with hc | hc | hc | hc | hc | hc | hc | hc | hc
    · exact deed_0 hni hi hoi (.head _) (.tail _ (.head _)) (.tail _ (.tail _ (.head _))) (.tail _ (.tail _ (.tail _ (.head _)))) hbl hb hz ho h0 h1 h2 h3 hl e1 e2 (Ne.symm n2) hc
    · exact deed_1 hni hi hoi (.head _) (.tail _ (.head _)) (.tail _ (.tail _ (.head _))) (.tail _ (.tail _ (.tail _ (.head _)))) hbl hb hz ho h0 h1 h2 h3 hl e1 e2 (Ne.symm n2) hc
    · exact deed_2 hni hi hoi (.head _) (.tail _ (.head _)) (.tail _ (.tail _ (.head _))) (.tail _ (.tail _ (.tail _ (.head _)))) hbl hb hz ho h0 h1 h2 h3 hl e1 e2 (Ne.symm n2) hc
    · exact deed_3 hni hi hoi (.head _) (.tail _ (.head _)) (.tail _ (.tail _ (.head _))) (.tail _ (.tail _ (.tail _ (.head _)))) hbl hb hz ho h0 h1 h2 h3 hl e1 e2 (Ne.symm n2) hc
    · exact deed_4 hni hi hoi (.head _) (.tail _ (.head _)) (.tail _ (.tail _ (.head _))) (.tail _ (.tail _ (.tail _ (.head _)))) hbl hb hz ho h0 h1 h2 h3 hl e1 e2 (Ne.symm n2) hc
    · exact deed_5 hni hi hoi (.head _) (.tail _ (.head _)) (.tail _ (.tail _ (.head _))) (.tail _ (.tail _ (.tail _ (.head _)))) hbl hb hz ho h0 h1 h2 h3 hl e1 e2 (Ne.symm n2) hc
    · exact deed_6 hni hi hoi (.head _) (.tail _ (.head _)) (.tail _ (.tail _ (.head _))) (.tail _ (.tail _ (.tail _ (.head _)))) hbl hb hz ho h0 h1 h2 h3 hl e1 e2 (Ne.symm n2) hc
    · exact deed_7 hni hi hoi (.head _) (.tail _ (.head _)) (.tail _ (.tail _ (.head _))) (.tail _ (.tail _ (.tail _ (.head _)))) hbl hb hz ho h0 h1 h2 h3 hl e1 e2 (Ne.symm n2) hc
    · exact deed_8 hni hi hoi (.head _) (.tail _ (.head _)) (.tail _ (.tail _ (.head _))) (.tail _ (.tail _ (.tail _ (.head _)))) hbl hb hz ho h0 h1 h2 h3 hl e1 e2 (Ne.symm n2) hc
  · intro p hp
    simp only [List.mem_cons, List.not_mem_nil, or_false] at hp ⊢
    rcases hp with rfl | rfl | rfl | rfl | rfl | rfl | rfl <;> simp
  · rintro r N2 ⟨os, v1, v2, l', k', ix', sd', t1', t2', rfl, a1, a2, a3, a4, a5, a6, a7, a8, b1, b2, b3, rfl⟩
    refine ⟨_, ?_, os, v1, v2, l', k', ix', sd', t1', t2', rfl, a1, a2, a3, a4, a5, a6, a7, a8, b1, b3.1, b2, b3.2.2.1, b3.2.2.2.1, b3.2.2.2.2.1, rfl⟩
    intro p hp
    simp only [List.mem_cons, List.not_mem_nil, or_false] at hp ⊢
    rcases hp with rfl | rfl | rfl | rfl | rfl | rfl | rfl <;> simp
-- Fz

local macro_rules | `(tactic| k_mem) => `(tactic| (with_reducible refine mem_show ?_; ktr_member))
local macro_rules | `(tactic| k_all) => `(tactic| first | with_reducible assumption | exact lt_ne (by with_reducible assumption) | exact off1_mem (by first | with_reducible assumption | exact (‹_ ∧ LCg.Off1 _ _›).2 | exact (‹_ ∧ _ ∧ LCg.Off1 _ _›).2.2 | exact (‹_ ∧ _ ∧ _ ∧ LCg.Off1 _ _›).2.2.2) | exact off1_mem (off1_lt (by first | with_reducible assumption | exact (‹_ ∧ AllLt _ _›).2 | exact (‹_ ∧ _ ∧ AllLt _ _›).2.2 | exact (‹_ ∧ _ ∧ _ ∧ AllLt _ _›).2.2.2)))
local macro_rules | `(tactic| walk_at "call builtin:len") => `(tactic| (k_here; (with_reducible show wpAny _ _ (call (Value.builtin "len") [Value.ref _]) _ _ _); k_dflt (refine' my_len ?k1 ?k2 ?k3 ?k4 ?_; (case k1 => k_asm); (case k2 => k_mem); (case k3 => with_reducible assumption); (case k4 => (first | omega | (simp only [wr_length, put_length, got_length, prs_length, List.length_set]; omega))); k_whole)))
local macro_rules | `(tactic| walk_at "binaryOp Mod int int") => `(tactic| (k_here; (refine' my_mod ?k1 ?_; (case k1 => (first | omega | (simp only [wr_length, put_length, got_length, prs_length, List.length_set]; omega))); k_whole)))
local macro_rules | `(tactic| walk_at "subscriptTail") => `(tactic| (k_here; (with_reducible show wpAny _ _ (subscriptTail _ _ (Value.ref _) (Value.int _ _)) _ _ _); k_dflt (refine' ksa_sub ?k1 ?k2 ?k3 ?k4 ?k5 ?k6 ?_ ?k7; (case k1 => k_asm); (case k2 => k_mem); (case k3 => with_reducible assumption); (case k4 => first | omega | exact my_nn (by omega)); (case k5 => first | omega | (first | omega | (simp only [wr_length, put_length, got_length, prs_length, List.length_set]; omega)) | exact my_lt (by omega) | ((simp only [wr_length, put_length, got_length, prs_length, List.length_set]); exact my_lt (by omega))); (case k6 => first | omega | exact my_fit (by omega) (by omega)); (case k7 => with_unfolding_all rfl); k_whole); intro _))
local macro_rules | `(tactic| walk_at "setItem ref int") => `(tactic| (k_here; (with_reducible show wpAny _ _ (setItem (Value.ref _) (Value.int _ _) (Value.int _ _)) _ _ _); k_dflt (refine' ksa_set ?k1 ?k2 ?k3 ?j4 ?k4 ?k5 ?k6 ?_; (case k1 => k_asm); (case k2 => k_asm); (case k3 => k_upd); (case j4 => with_reducible assumption); (case k4 => first | omega | exact my_nn (by omega)); (case k5 => first | omega | (first | omega | (simp only [wr_length, put_length, got_length, prs_length, List.length_set]; omega)) | exact my_lt (by omega) | ((simp only [wr_length, put_length, got_length, prs_length, List.length_set]); exact my_lt (by omega))); (case k6 => first | omega | exact my_fit (by omega) (by omega)); k_whole); intro h' F' N' hi' hl' hs'; (try k_sweep)))
local macro_rules | `(tactic| walk_at "binaryOp FloorDiv int int") => `(tactic| (k_here; (refine' my_div ?k1 ?k2 ?_; (case k1 => omega); (case k2 => omega); k_whole)))
local macro_rules | `(tactic| walk_at "binaryOp BitAnd int int") => `(tactic| (k_here; first | (refine my_and bitAnd_m16 ?_; k_whole) | (refine my_and bitAnd_m8 ?_; k_whole) | (refine my_and bitAnd_m7 ?_; k_whole) | (refine my_and bitAnd_m6 ?_; k_whole) | (refine my_and bitAnd_m5 ?_; k_whole)))
local macro_rules | `(tactic| walk_at "binaryOp RShift int int") => `(tactic| (k_here; first | (refine my_shr8 ?_; k_whole) | (refine my_shr16 ?_; k_whole)))
local macro_rules | `(tactic| walk_at "exec For Tuple Call") => `(tactic| (k_here; (rename Fr _ _ _ _ => lF'); (with_unfolding_all refine' For_turns lF' ?_; k_whole)))
local macro_rules | `(tactic| walk_at "call ref") => `(tactic| (k_here; (with_reducible show wpAny _ _ (call (Value.ref 233) [Value.ref _, Value.int _ _]) _ _ _); refine stop ?_))
local macro_rules | `(tactic| walk_at "call ref") => `(tactic| (k_here; (with_reducible show wpAny _ _ (call (Value.ref 262) _) _ _ _); refine stop ?_))
local macro_rules | `(tactic| walk_at "call ref") => `(tactic| (k_here; (with_reducible show wpAny _ _ (call (Value.ref 257) _) _ _ _); refine stop ?_))
local macro_rules | `(tactic| walk_at "call ref") => `(tactic| (k_here; (with_reducible show wpAny _ _ (call (Value.ref 233) [Value.ref _, Value.int _ _]) _ _ _); k_dflt (refine' sp_use (law_take_sp ?a1 ?a2 ?a3 ?a4 ?a5 ?a6 ?a7 ?a8 ?a9 ?b1 ?b2) ?k1 ?k2 ?k3 ?k4 ?k5 ?kK ?kd ?ku ?_; (case k4 => k_asm); (case a1 => k_updF); (case a2 => k_mem); (case a3 => with_reducible assumption); (case a4 => k_ne); (case a5 => omega); (case a6 => omega); (case a7 => omega); (case a8 => omega); (case a9 => omega); (case b1 => omega); (case b2 => omega); (case k1 => k_asm); (case k2 => k_asm); (case k3 => k_asm); (case k5 => k_asm); (case kK => first | exact rfl | assumption); (case kd => ktr_room); (case ku => ktr_units); k_whole); (intro r' n' h' tk' F' N' hp'; obtain ⟨o', hq', hn'⟩ := hp'; obtain ⟨x', t', i', sd', t1', t2', hr', hxe, hx0, hx1, hi0, hi1, hs0, hs1, ho'⟩ := hq'; subst ho'; subst hr'; subst hn'; (try dsimp only at N'); first | (replace hxe := tk_use hxe (by with_reducible assumption); subst hxe; clear hx0 hx1) | clear hxe); (try dsimp only); (try k_sweep)))
local macro_rules | `(tactic| walk_at "call ref") => `(tactic| (k_here; (with_reducible show wpAny _ _ (call (Value.ref 262) [Value.ref _, Value.ref _, Value.ref _, Value.int _ _, Value.ref _]) _ _ _); k_dflt (refine' sp_use (law_deed_sp ?a1 ?a2 ?a3 ?a4 ?a5 ?a6 ?a7 ?a8 ?a9 ?b1 ?b2 ?b3 ?b4 ?b5 ?c1 ?c2 ?c3 ?c4 ?c5 ?c6 ?c7 ?c8 ?c9 ?d1 ?d2) ?k1 ?k2 ?k3 ?k4 ?k5 ?kK ?kd ?ku ?_; (case k4 => exact cb_drop (by k_asm) (by kcf_all)); (case a1 => with_reducible assumption); (case a2 => with_reducible assumption); (case a3 => with_reducible assumption); (case a4 => with_reducible assumption); (case a5 => first | exact Or.inl rfl | exact Or.inr rfl | with_reducible assumption); (case a6 => first | assumption | exact Sz.wr (by assumption) _ _ | exact Sz.wr (Sz.wr (by assumption) _ _) _ _ | exact Sz.put (by assumption) _ _ | exact Sz.wr (Sz.put (by assumption) _ _) _ _ | exact Sz.put (Sz.wr (by assumption) _ _) _ _ | exact Sz.put (Sz.put (by assumption) _ _) _ _ | exact Sz.put (Sz.wr (Sz.wr (by assumption) _ _) _ _) _ _ | exact Sz.put (Sz.put (Sz.wr (Sz.wr (by assumption) _ _) _ _) _ _) _ _); (case a7 => with_reducible assumption); (case a8 => omega); (case a9 => omega); (case b1 => omega); (case b2 => omega); (case b3 => omega); (case b4 => omega); (case b5 => omega); (case c1 => first | with_reducible assumption | (refine Nq.of ?_; k_ne)); (case c2 => first | with_reducible assumption | (refine Nq.of ?_; k_ne)); (case c3 => first | with_reducible assumption | (refine Nq.of ?_; k_ne)); (case c4 => first | with_reducible assumption | (refine Nq.of ?_; k_ne)); (case c5 => first | with_reducible assumption | (refine Nq.of ?_; k_ne)); (case c6 => first | with_reducible assumption | (refine Nq.of ?_; k_ne)); (case c7 => first | with_reducible assumption | (refine Nq.of ?_; k_ne)); (case c8 => first | with_reducible assumption | (refine Nq.of ?_; k_ne)); (case c9 => first | with_reducible assumption | (refine Nq.of ?_; k_ne)); (case d1 => first | with_reducible assumption | (refine Nq.of ?_; k_ne)); (case d2 => first | with_reducible assumption | (refine Nq.of ?_; k_ne)); (case k1 => k_asm); (case k2 => k_asm); (case k3 => k_asm); (case k5 => k_asm); (case kK => first | exact rfl | assumption); (case kd => ktr_room); (case ku => ktr_units); k_whole); (intro r' n' h' tk' F' N' hp'; obtain ⟨os', v1', v2', l', k', ix', sd', t1', t2', hr', hi1', hi2', hz', ho', hx0', hx1', hs0', hs1', d1', d2', d3', d4', d5', d6', hn'⟩ := DeedPost.out hp'; subst hr'; subst hn'); (try dsimp only); (try k_sweep)))
local macro_rules | `(tactic| walk_at "call ref") => `(tactic| (k_here; (with_reducible show wpAny _ _ (call (Value.ref 257) [Value.ref _, Value.ref _, Value.int _ _, Value.ref _]) _ _ _); k_dflt (refine' sp_use (read_any ?a1 ?a2 ?a3 ?a4 ?a5 ?a6 ?a7 ?a8 ?a9 ?b1 ?b2 ?b3) ?k1 ?k2 ?k3 ?k4 ?k5 ?kK ?kd ?ku ?_; (case k4 => k_asm); (case a1 => k_mem); (case a2 => with_reducible assumption); (case a3 => k_mem); (case a4 => with_reducible assumption); (case a5 => k_mem); (case a6 => k_mem); (case a7 => with_reducible assumption); (case a8 => first | assumption | exact Sz.wr (by assumption) _ _ | exact Sz.wr (Sz.wr (by assumption) _ _) _ _ | exact Sz.put (by assumption) _ _ | exact Sz.wr (Sz.put (by assumption) _ _) _ _ | exact Sz.put (Sz.wr (by assumption) _ _) _ _ | exact Sz.put (Sz.put (by assumption) _ _) _ _ | exact Sz.put (Sz.wr (Sz.wr (by assumption) _ _) _ _) _ _ | exact Sz.put (Sz.put (Sz.wr (Sz.wr (by assumption) _ _) _ _) _ _) _ _); (case a9 => with_reducible assumption); (case b1 => omega); (case b2 => omega); (case b3 => with_reducible assumption); (case k1 => k_asm); (case k2 => k_asm); (case k3 => k_asm); (case k5 => k_asm); (case kK => first | exact rfl | assumption); (case kd => ktr_room); (case ku => ktr_units); k_whole); (intro r' n' h' tk' F' N' hp'; obtain ⟨hn', hr'⟩ := hp'; replace hn' := hn'.symm; subst hn'; subst hr'); (try dsimp only); (try k_sweep)))

section
local macro_rules | `(tactic| k_ne) => `(tactic| (refine neN ?_; (try dsimp only); first | with_reducible assumption | exact Ne.symm (by with_reducible assumption) | exact o1_ne (by with_reducible assumption) (by k_mem) | exact Ne.symm (o1_ne (by with_reducible assumption) (by k_mem)) | exact o3_1 (by with_reducible assumption) (by k_mem) | exact Ne.symm (o3_1 (by with_reducible assumption) (by k_mem)) | exact o3_2 (by with_reducible assumption) (by k_mem) | exact Ne.symm (o3_2 (by with_reducible assumption) (by k_mem)) | exact o3_3 (by with_reducible assumption) (by k_mem) | exact Ne.symm (o3_3 (by with_reducible assumption) (by k_mem)) | exact Nq.ne (by with_reducible assumption) | exact Ne.symm (Nq.ne (by with_reducible assumption)) | omega))
local macro_rules | `(tactic| walk_at "CompRest") => `(tactic| (with_unfolding_all (refine LCg.CompRest.succ ?_; intro v' I' oI' C' oC' D' m' h' tk' E' hv' hC' hx' F' N' off' ne'; (obtain ⟨t9', hv9'⟩ := hv'; subst hv9'); (replace ne' := nq_hide ne'); obtain ⟨ne1', ne2', ne3'⟩ := ne')))
local macro_rules | `(tactic| walk_at "subscriptTail") => `(tactic| (k_here; (with_reducible show wpAny _ _ (subscriptTail _ _ (Value.ref _) (Value.int _ _)) _ _ _); k_dflt (refine' my_pick ?k1 ?k2 ?k3 ?k4 ?k5 ?k6 ?_ ?k7; (case k1 => k_asm); (case k2 => k_mem); (case k3 => first | with_reducible assumption | exact IntsAre.nil | (repeat' (first | exact IntsAre.nil | refine' IntsAre.cons _ _ ?_))); (case k4 => omega); (case k5 => (simp only [List.length_cons, List.length_nil]; omega)); (case k6 => omega); (case k7 => with_unfolding_all rfl); k_whole); intro b' tb' hb'; (simp only [List.mem_cons, List.not_mem_nil, or_false] at hb')))
local macro_rules | `(tactic| walk_at "exec For Name Call cons nil") => `(tactic| (k_here; (rename Fr _ _ _ _ => lF'); (with_unfolding_all refine' For_invVF lF' ?k1 ?k2 ?_; (case k1 => exact rfl); (case k2 => exact rfl); k_whole)))
local macro_rules | `(tactic| walk_at "pyIter ref") => `(tactic| (k_here; (rename IsRange _ _ _ _ _ _ _ _ => hR'); refine stop ?_))
set_option maxHeartbeats 3000000 in
theorem holds0 : PySem.Challenge.rw_nz0566_01.Holds := by
  w_on
  refine holds_law said fun sd => ?_
  refine holds_open (q := VW) (loose := LS) (Xt := fun s => xlAt VW [] s && recOk (RowW.records Rw.toRowW) s) (XP := XL VW []) (Yf := (kHook KK KA ka_ok).obs) (Ya := (kHook KK KA ka_ok).val) (YP := (kHook KK KA ka_ok).says) (N := 3304) left (kHook KK KA ka_ok).of (kHook KK KA ka_ok).keeps (fun s e => xl_of s (Bool.and_eq_true_iff.mp e).1) XL.keeps (by rfl) (by rfl) (by rfl) (fun s e => recFacts_of (Bool.and_eq_true_iff.mp e).2) (by rfl) sd (by decide +kernel) ⟨rfl, rfl, rfl, rfl, rfl, by decide +kernel⟩ ?hw ?hc
  case hw => w_witness2
  clear sd
  k_go0; (all_goals try k_fold); k_steps
  all_goals (
    refine stop' ?_
    (rename IntsAre _ (List.map _ (List.take 40 _)) => hI9)
    have hs9 := seed_of hI9
    have hl9 := len40 hI9
    obtain ⟨hs8, hs7⟩ := hs9
    k_steps)
  all_goals (
    refine stop' ?_
    (try obtain ⟨p1, p2, p3, p4, p5, p6, p7, p8, p9, p10, p11⟩ := (‹(@Ne Nat _ _) ∧ (@Ne Nat _ _) ∧ _›))
    (rename Fr _ _ _ _ => lF'); (rename News _ _ _ _ => lN'); (rename IsRange _ _ _ _ _ _ _ _ => hR')
    with_unfolding_all refine' my_loop ?hh hR' lF' lN' ?m1 ?m2 ?m3 ?m4 ?e1 ?e2 ?e3 ?e4 ?e5 ?e6 ?hb0 ?hb1 ?hni ?hi1 ?hi2 ?hbl ?hz ?ho ?q1 ?q2 ?q3 ?q4 ?n3 ?n7 ?n10 ?n11 ?n12 ?turn ?done
    (case hh => rfl)
    (case m1 => exact rfl); (case m2 => exact rfl); (case m3 => exact rfl); (case m4 => exact rfl)
    (case e1 => k_mem); (case e2 => k_mem); (case e3 => k_mem); (case e4 => k_mem); (case e5 => k_mem); (case e6 => k_mem)
    (case hb0 => omega); (case hb1 => omega)
    (case hni => with_reducible assumption); (case hi1 => with_reducible assumption); (case hi2 => with_reducible assumption)
    (case hbl => exact rfl)
    (case hz => exact sz_start _ (by with_reducible assumption))
    (case ho => exact oct_start _ _)
    (case q1 => omega); (case q2 => omega); (case q3 => omega); (case q4 => omega)
    (case n3 => refine Nq.of ?_; k_ne); (case n7 => refine Nq.of ?_; k_ne); (case n10 => refine Nq.of ?_; k_ne); (case n11 => refine Nq.of ?_; k_ne); (case n12 => refine Nq.of ?_; k_ne))
  case turn =>
    intro nvs9 nns9 es9 i9 t9 h9 tk9 o9 I9 os9 v19 v29 l9 k9 ix9 sd9 t19 t29 u9 hni9 hlen9 hbl9 f1 f2 f3 f4 f5 f6 f7 f8 f9 f10 f11 f12 f13 g1 g2 g3 g4 g5 g6 F9 N9
    clear lF' lN'
    k_steps
    all_goals (
      refine' ⟨rfl, _, _, _, _, rfl, mXY_fr (by assumption), ?eN, ?eO, LJ.mk' ?x1 ?x2 ?x3 ?x4 ?x5 ?x6 ?x7 ?x8 ?y1 ?y2 ?y3 ?y4 ?y5⟩
      (case eN => exact cb_drop (by k_asm) (by kcf_all))
      (case eO => (repeat' (first | exact List.forall_mem_nil _ | (refine List.forall_mem_cons.mpr ⟨by k_ne, ?_⟩))))
      (case x1 => with_reducible assumption); (case x2 => with_reducible assumption); (case x3 => with_reducible assumption); (case x4 => with_reducible assumption)
      (case x5 => omega); (case x6 => omega); (case x7 => omega); (case x8 => omega)
      (case y1 => with_reducible assumption); (case y2 => with_reducible assumption); (case y3 => with_reducible assumption); (case y4 => with_reducible assumption); (case y5 => with_reducible assumption))
  case done =>
    intro l9 u9 h9 tk9 F9
    clear lF' lN'
    k_steps
end
end Mine
theorem PySem.Challenge.cw_nz0566_01_holds : PySem.Challenge.rw_nz0566_01.Holds :=
  Mine.holds0
