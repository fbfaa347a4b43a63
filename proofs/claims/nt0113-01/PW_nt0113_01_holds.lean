import PyProof.Rows.All
import Wide.All
import OpenK.AllK
import Wide.FinOn
import PySem.Challenge.RW_nt0113_01
set_option Elab.async false
set_option linter.unusedVariables false
set_option linter.unusedSimpArgs false
set_option maxHeartbeats 0
set_option maxRecDepth 100000
set_option bootstrap.genMatcherCode false
section
open PySem PySem.W PySem.Spec PySem.Calls PyProof.Rows
namespace Mine

noncomputable def ctx0 : PySem.Ctx := ⟨.builtin "claim.caller" {}, none, none, [], none⟩

theorem ends0 {prog : Program} {w : World} {t : Sem Fin} {s : Shared} {R : Result → Shared → Prop} (hreg : s.asleep)
    (h : Sem.wp (model prog w) ctx0 t (fun fin _ s' => ∃ f, fin = .done f ∧ (R (.ok f) s' ∧ leftWithCleanup s'.gens = false)) (fun e _ s' => R (.error e) s' ∧ leftWithCleanup s'.gens = false) default s) :
    ∃ n r s' s'', runN (denote table) prog w n s ⟨t, .builtin "claim.caller" {}, default, []⟩ = .halted (outcomeOf r) s' ∧
      schedN (denote table) prog w n (.single s ⟨t, .builtin "claim.caller" {}, default, []⟩) = .halted (outcomeOf r) s' ∧ s'.forget = s''.forget ∧ R r s'' := by
  have h' : Sem.wp (model prog w) ctx0 t (Sem.finPost (model prog w) ctx0 fun r s' => R r s' ∧ leftWithCleanup s'.gens = false) (fun e _ s' => R (.error e) s' ∧ leftWithCleanup s'.gens = false) default s := by
    refine Sem.wp_mono _ _ t (fun fin p' s' hh => ?_) (fun _ _ _ x => x) _ _ h
    obtain ⟨f, rfl, hf⟩ := hh
    exact hf
  obtain ⟨n, r, s₁, s₂, hs, hn, hfo, hR⟩ := wp_halts_full (M := model prog w) (R := R) hreg h'
  exact ⟨n, r, s₂, s₁, hn, hs, hfo, hR⟩

end Mine

end
section
open PySem PySem.W PySem.Spec PySem.Calls PyProof.Rows
namespace Mine.O

noncomputable abbrev PG : Program := PySem.Challenge.rw_nt0113_01.row.toRowW.1
noncomputable def nth : List Stmt → Nat → Stmt
  | [], _ => .Pass ⟨0, 0, 0, 0⟩
  | s :: _, 0 => s
  | _ :: r, n + 1 => nth r n
noncomputable def tp (i : Nat) : Stmt := nth PG.main.body i
noncomputable def mp (i j : Nat) : Stmt := match tp i with
  | .ClassDef _ _ _ b .. => nth b j
  | s => s
noncomputable abbrev S (x : String) (t : Nat) : Value := .str (Str.ofString x) t
noncomputable abbrev I (x t : Nat) : Value := .int (Int.ofNat x) t
noncomputable abbrev R (a : Nat) : Value := .ref a
noncomputable abbrev T (x : String) : Value := .type x
noncomputable abbrev B (x : String) : Value := .builtin x
noncomputable abbrev N : Value := .none
noncomputable abbrev e (P : Params) (x : String) (t : Nat) (v : Value) : DictEntry := ⟨PyData.keyHash P (Str.ofString x), S x t, v⟩
noncomputable abbrev tu (l : List Value) : Obj := ⟨T "tuple", none, .seq ⟨l⟩, ⟨[]⟩⟩
noncomputable abbrev fl (c : Value) (l : List Value) : Obj := ⟨c, none, .fields ⟨l⟩, ⟨[]⟩⟩
noncomputable abbrev di (c : Value) (l : List DictEntry) (n : Nat) : Obj := ⟨c, none, .dict ⟨l⟩ n, ⟨[]⟩⟩
noncomputable def parts : Stmt → Str × Arguments × List Stmt × Scope
  | .FunctionDef n a b _ _ _ sc _ _ _ => (n, a, b, sc)
  | _ => (⟨⟨[]⟩⟩, ⟨[], [], none, [], [], none, []⟩, [], PG.main.scope)
noncomputable abbrev nameOf (s : Stmt) : Str := (parts s).1
noncomputable abbrev argsOf (s : Stmt) : Arguments := (parts s).2.1
noncomputable abbrev bodyOf (s : Stmt) : List Stmt := (parts s).2.2.1
noncomputable abbrev scopeOf (s : Stmt) : Scope := (parts s).2.2.2
noncomputable abbrev fd (s : Stmt) (q : String) (g : Nat) (md cd : Value) : Data :=
  .func { name := nameOf s, qualname := Str.ofString q, params := argsOf s, body := .stmts (bodyOf s), scope := scopeOf s, globals := g, closure := [], defaults := .none, kwdefaults := .none, pyModule := md, code := cd }
noncomputable def stv : List String → Nat → List Value
  | [], _ => []
  | x :: r, t => S x t :: stv r (t + 1)
noncomputable def cd (s : Stmt) (q : String) (a t ln na nv : Nat) (x y z : Value) : Obj :=
  fl (T "code") [.str (nameOf s) t, S q (t + 1), S "/claim/cut.py" (t + 2), I ln 0, I na 0, I 0 0, I 0 0, I 3 0, R a, .bool true, I 181 0, R (a + 1), N, x, y, z, I (t + 3 + nv) 0, I ln 0, S "/claim/cut.py" (t + 4 + nv)]
noncomputable def f7 (s : Stmt) (q : String) (md : Value) (a t ln na : Nat) (vs : List String) : List Obj :=
  [tu [], fl N [], tu (stv vs (t + 3)), tu [], ⟨N, none, fd s q 0 N N, ⟨[]⟩⟩, cd s q a t ln na vs.length (R (a + 2)) (R (a + 3)) (R (a + 4)), ⟨T "function", none, fd s q 3 md (R (a + 5)), ⟨[]⟩⟩]
noncomputable def f5 (s : Stmt) (q : String) (md : Value) (a t ln na : Nat) : List Obj :=
  [tu [], fl N [], ⟨N, none, fd s q 0 N N, ⟨[]⟩⟩, cd s q a t ln na 0 N N (R (a + 2)), ⟨T "function", none, fd s q 3 md (R (a + 3)), ⟨[]⟩⟩]
noncomputable def l0 (P : Params) : List Obj := [boot_o_0 P, boot_o_1 P, boot_o_2 P, boot_o_3 P, boot_o_4 P, boot_o_5 P, boot_o_6 P, boot_o_7 P, boot_o_8 P, boot_o_9 P, boot_o_10 P, tu [], fl N [],
  fl (T "code") [S "<module>" 182, S "<module>" 183, S "/claim/cut.py" 184, I 1 0, I 0 0, I 0 0, I 0 0, I 0 0, R 11, .bool false, I 181 0, R 12, N, N, N, N, I 185 0, I 1 0, S "/claim/cut.py" 186],
  ⟨T "frame", none, .plain, ⟨[some (R 13), some (R 3), some (R 3), none, some (S "__main__" 164), none, some (R 0)]⟩⟩]
noncomputable def dl (P : Params) : List DictEntry := [e P "__name__" 165 (S "law_nt0113_01" 784), e P "__doc__" 166 (N), e P "__package__" 167 (N), e P "__loader__" 168 (B "__main__.__loader__#opaque"), e P "__spec__" 169 (N), e P "__annotations__" 170 (R 6), e P "__builtins__" 171 (R 4), e P "__file__" 173 (S "/claim/cut.py" 172), e P "__cached__" 174 (N), e P "_wall" 193 (R 21), e P "PagebaseError" 224 (R 38), e P "CorruptError" 240 (R 51), e P "HEADER_SIZE" 242 (I 32 241), e P "WORD" 246 (I 18446744073709551616 245), e P "put_varint" 258 (R 60), e P "get_varint" 269 (R 67), e P "signed" 276 (R 74), e P "INNER_KEYS" 280 (I 2 279), e P "INNER_ROWS" 282 (I 5 281), e P "LEAF_KEYS" 284 (I 10 283), e P "LEAF_ROWS" 286 (I 13 285), e P "KINDS" 287 (R 75), e P "LEAST_CELL" 289 (I 4 288), e P "two_at" 297 (R 82), e P "four_at" 305 (R 89), e P "put_two" 314 (R 96), e P "put_four" 323 (R 103), e P "four_octets" 331 (R 110), e P "is_leaf" 338 (R 117), e P "max_local" 346 (R 124), e P "min_local" 353 (R 131), e P "local_size" 365 (R 138), e P "Cell" 418 (R 169), e P "read_cell" 435 (R 180), e P "NodeView" 607 (R 314), e P "MOST_FRAGMENTS" 611 (I 57 610), e P "Node" 755 (R 412), e P "areas_of" 768 (R 421), e P "check_node" 783 (R 428), e P "_law_pool" 795 (R 435), e P "_law_take" 804 (R 442), e P "_law_raw" 818 (R 449), e P "_law_cost" 824 (R 454), e P "_law_changed" 837 (R 461), e P "law" 852 (R 468)]
noncomputable def tl : List Value := [I 1 0, I 0 0, R 20, I 5 0, I 0 0, R 27, I 9 0, I 0 0, R 47, I 14 0, I 0 0, R 59, I 31 0, I 0 0, R 66, I 44 0, I 0 0, R 73, I 55 0, I 0 0, R 81, I 57 0, I 0 0, R 88, I 59 0, I 0 0, R 95, I 62 0, I 0 0, R 102, I 65 0, I 0 0, R 109, I 69 0, I 0 0, R 116, I 71 0, I 0 0, R 123, I 75 0, I 0 0, R 130, I 77 0, I 0 0, R 137, I 86 0, I 0 0, R 144, I 111 0, I 0 0, R 179, I 138 0, I 0 0, R 186, I 234 0, I 0 0, R 324, I 361 0, I 0 0, R 420, I 369 0, I 0 0, R 427, I 392 0, I 0 0, R 434, I 399 0, I 0 0, R 441, I 406 0, I 0 0, R 448, I 415 0, I 0 0, R 453, I 417 0, I 0 0, R 460, I 430 0, I 0 0, R 467]
noncomputable def c38 (sub : List Value) : Obj := ⟨T "type", none, .cls {name := Str.ofString "PagebaseError", bases := [T "Exception"], mro := [R 38, T "Exception", T "BaseException", T "object"], ns := 37, qualname := Str.ofString "PagebaseError", subclasses := sub}, ⟨[some (R 22), none, some (S "PagebaseError" 196), some (S "PagebaseError" 204), some (B "Exception.__new__"), some (.bool true)]⟩⟩
noncomputable def c314 (sub : List Value) : Obj := ⟨T "type", none, .cls {name := Str.ofString "NodeView", bases := [T "object"], mro := [R 314, T "object"], ns := 313, qualname := Str.ofString "NodeView", subclasses := sub}, ⟨[none, none, some (S "NodeView" 436), some (S "NodeView" 444), some (B "object.__new__"), some (.bool true)]⟩⟩
noncomputable def l1 (P : Params) : List Obj := [boot_o_0 P, boot_o_1 P, di (N) [e P "type.__subclasses__.Exception.0" 221 (I 38 0), e P "type.__subclasses__.Exception.n" 222 (I 1 0)] 2, di (T "dict") (dl P) 45, boot_o_4 P, boot_o_5 P, boot_o_6 P, boot_o_7 P, boot_o_8 P, boot_o_9 P, boot_o_10 P, tu [], fl N tl, fl (T "code") [S "<module>" 182, S "<module>" 183, S "/claim/cut.py" 184, I 1 0, I 0 0, I 0 0, I 0 0, I 0 0, R 11, .bool false, I 181 0, R 12, N, N, N, N, I 185 0, I 1 0, S "/claim/cut.py" 186], ⟨T "frame", none, .plain, ⟨[some (R 13), some (R 3), some (R 3), none, some (S "__main__" 164), none, some (R 0)]⟩⟩] ++
  (f7 (tp 0) "_wall" (S "__main__" 164) 15 187 1 1 ["k"] ++
  ([tu [T "Exception"], fl (T "builtin_function_or_method") [B "type.__prepare__", T "type"], di (T "dict") [e P "__module__" 203 (S "pagebase.errors" 194), e P "__qualname__" 205 (S "PagebaseError" 204), e P "__firstlineno__" 207 (I 5 206), e P "__init__" 215 (R 35), e P "__static_attributes__" 217 (R 36)] 5, tu [], fl N [I 7 0, I 4 0, R 34], fl (T "code") [S "PagebaseError" 198, S "PagebaseError" 199, S "/claim/cut.py" 200, I 5 0, I 0 0, I 0 0, I 0 0, I 0 0, R 25, .bool false, I 181 0, R 26, N, N, N, N, I 201 0, I 5 0, S "/claim/cut.py" 202], ⟨T "frame", none, .plain, ⟨[some (R 27), some (R 3), some (R 24), none, some (S "pagebase.errors" 194), none, some (R 0)]⟩⟩] ++
  (f7 (mp 2 0) "PagebaseError.__init__" (S "pagebase.errors" 194) 29 208 7 2 ["self", "message"] ++
  ([tu [S "message" 216], di (T "dict") [e P "__module__" 203 (S "pagebase.errors" 194), e P "__firstlineno__" 207 (I 5 206), e P "__init__" 215 (R 35), e P "__static_attributes__" 217 (R 36), e P "__weakref__" 219 (R 39), e P "__doc__" 220 (N)] 3, c38 [R 51], fl (T "getset_descriptor") [S "__weakref__" 218, R 38, B "ExceptionGroup.__weakref__", N], fl (T "super") [R 38, R 38, R 38], fl (T "builtin_function_or_method") [B "object.__init_subclass__", R 38], tu [R 38], fl (T "builtin_function_or_method") [B "type.__prepare__", T "type"], di (T "dict") [e P "__module__" 232 (S "pagebase.errors" 194), e P "__qualname__" 234 (S "CorruptError" 233), e P "__firstlineno__" 236 (I 9 235), e P "__static_attributes__" 237 (R 49)] 4, tu [], fl N [], fl (T "code") [S "CorruptError" 227, S "CorruptError" 228, S "/claim/cut.py" 229, I 9 0, I 0 0, I 0 0, I 0 0, I 0 0, R 45, .bool false, I 181 0, R 46, N, N, N, N, I 230 0, I 9 0, S "/claim/cut.py" 231], ⟨T "frame", none, .plain, ⟨[some (R 47), some (R 3), some (R 44), none, some (S "pagebase.errors" 194), none, some (R 0)]⟩⟩, tu [], di (T "dict") [e P "__module__" 232 (S "pagebase.errors" 194), e P "__firstlineno__" 236 (I 9 235), e P "__static_attributes__" 237 (R 49), e P "__doc__" 238 (N)] 2, ⟨T "type", none, .cls {name := Str.ofString "CorruptError", bases := [R 38], mro := [R 51, R 38, T "Exception", T "BaseException", T "object"], ns := 50, qualname := Str.ofString "CorruptError", subclasses := []}, ⟨[some (R 42), none, some (S "CorruptError" 225), some (S "CorruptError" 233), some (B "Exception.__new__"), some (.bool true)]⟩⟩, fl (T "super") [R 51, R 51, R 51], fl (T "builtin_function_or_method") [B "object.__init_subclass__", R 51]] ++
  (f7 (tp 7) "put_varint" (S "pagebase.records" 247) 54 249 14 1 ["n", "rest", "found", "turn"] ++
  (f7 (tp 8) "get_varint" (S "pagebase.records" 247) 61 259 31 2 ["octets", "at", "number", "turn", "octet"] ++
  (f7 (tp 9) "signed" (S "pagebase.records" 247) 68 270 44 1 ["n"] ++
  ([tu [I 2 279, I 5 281, I 10 283, I 13 285]] ++
  (f7 (tp 17) "two_at" (S "pagebase.node_view" 277) 76 290 55 2 ["octets", "at"] ++
  (f7 (tp 18) "four_at" (S "pagebase.node_view" 277) 83 298 57 2 ["octets", "at"] ++
  (f7 (tp 19) "put_two" (S "pagebase.node_view" 277) 90 306 59 3 ["octets", "at", "number"] ++
  (f7 (tp 20) "put_four" (S "pagebase.node_view" 277) 97 315 62 3 ["octets", "at", "number"] ++
  (f7 (tp 21) "four_octets" (S "pagebase.node_view" 277) 104 324 65 1 ["number", "found"] ++
  (f7 (tp 22) "is_leaf" (S "pagebase.node_view" 277) 111 332 69 1 ["kind"] ++
  (f7 (tp 23) "max_local" (S "pagebase.node_view" 277) 118 339 71 2 ["kind", "usable"] ++
  (f7 (tp 24) "min_local" (S "pagebase.node_view" 277) 125 347 75 1 ["usable"] ++
  (f7 (tp 25) "local_size" (S "pagebase.node_view" 277) 132 354 77 3 ["kind", "usable", "size", "most", "least", "surplus"] ++
  ([tu [], fl (T "builtin_function_or_method") [B "type.__prepare__", T "type"], di (T "dict") [e P "__module__" 373 (S "pagebase.node_view" 277), e P "__qualname__" 375 (S "Cell" 374), e P "__firstlineno__" 377 (I 86 376), e P "__init__" 389 (R 152), e P "rest" 396 (R 159), e P "octets" 405 (R 166), e P "__static_attributes__" 411 (R 167)] 7, tu [], fl N [I 88 0, I 4 0, R 151, I 95 0, I 4 0, R 158, I 98 0, I 4 0, R 165], fl (T "code") [S "Cell" 368, S "Cell" 369, S "/claim/cut.py" 370, I 86 0, I 0 0, I 0 0, I 0 0, I 0 0, R 142, .bool false, I 181 0, R 143, N, N, N, N, I 371 0, I 86 0, S "/claim/cut.py" 372], ⟨T "frame", none, .plain, ⟨[some (R 144), some (R 3), some (R 141), none, some (S "pagebase.node_view" 277), none, some (R 0)]⟩⟩] ++
  (f7 (mp 26 0) "Cell.__init__" (S "pagebase.node_view" 277) 146 378 88 6 ["self", "child", "rowid", "size", "local", "overflow"] ++
  (f7 (mp 26 1) "Cell.rest" (S "pagebase.node_view" 277) 153 390 95 1 ["self"] ++
  (f7 (mp 26 2) "Cell.octets" (S "pagebase.node_view" 277) 160 397 98 2 ["self", "kind", "found"] ++
  ([tu [S "child" 406, S "local" 407, S "overflow" 408, S "rowid" 409, S "size" 410], di (T "dict") [e P "__module__" 373 (S "pagebase.node_view" 277), e P "__firstlineno__" 377 (I 86 376), e P "__init__" 389 (R 152), e P "rest" 396 (R 159), e P "octets" 405 (R 166), e P "__static_attributes__" 411 (R 167), e P "__dict__" 413 (R 170), e P "__weakref__" 415 (R 171), e P "__doc__" 416 (N)] 4, ⟨T "type", none, .cls {name := Str.ofString "Cell", bases := [T "object"], mro := [R 169, T "object"], ns := 168, qualname := Str.ofString "Cell", subclasses := []}, ⟨[none, none, some (S "Cell" 366), some (S "Cell" 374), some (B "object.__new__"), some (.bool true)]⟩⟩, fl (T "getset_descriptor") [S "__dict__" 412, R 169, B "function.__dict__", B "function.__dict__#set"], fl (T "getset_descriptor") [S "__weakref__" 414, R 169, B "ExceptionGroup.__weakref__", N], fl (T "super") [R 169, R 169, R 169], fl (T "builtin_function_or_method") [B "object.__init_subclass__", R 169]] ++
  (f7 (tp 27) "read_cell" (S "pagebase.node_view" 277) 174 419 111 4 ["octets", "at", "kind", "usable", "child", "rowid", "overflow", "number", "size", "many", "local"] ++
  ([tu [], fl (T "builtin_function_or_method") [B "type.__prepare__", T "type"], di (T "dict") [e P "__module__" 443 (S "pagebase.node_view" 277), e P "__qualname__" 445 (S "NodeView" 444), e P "__firstlineno__" 447 (I 138 446), e P "__init__" 457 (R 194), e P "kind" 465 (R 201), e P "is_leaf" 472 (R 208), e P "is_rows" 479 (R 215), e P "count" 486 (R 222), e P "pointers" 493 (R 229), e P "content" 500 (R 236), e P "fragments" 507 (R 243), e P "right" 514 (R 250), e P "octets" 521 (R 257), e P "place" 531 (R 264), e P "cell" 541 (R 271), e P "raw" 552 (R 278), e P "raws" 558 (R 283), e P "rowid" 569 (R 290), e P "child" 577 (R 297), e P "children" 584 (R 304), e P "blocks" 595 (R 311), e P "__static_attributes__" 600 (R 312)] 22, tu [], fl N [I 140 0, I 4 0, R 193, I 148 0, I 4 0, R 200, I 154 0, I 4 0, R 207, I 157 0, I 4 0, R 214, I 160 0, I 4 0, R 221, I 163 0, I 4 0, R 228, I 168 0, I 4 0, R 235, I 171 0, I 4 0, R 242, I 174 0, I 4 0, R 249, I 177 0, I 4 0, R 256, I 180 0, I 4 0, R 263, I 189 0, I 4 0, R 270, I 193 0, I 4 0, R 277, I 198 0, I 4 0, R 282, I 201 0, I 4 0, R 289, I 210 0, I 4 0, R 296, I 215 0, I 4 0, R 303, I 218 0, I 4 0, R 310], fl (T "code") [S "NodeView" 438, S "NodeView" 439, S "/claim/cut.py" 440, I 138 0, I 0 0, I 0 0, I 0 0, I 0 0, R 184, .bool false, I 181 0, R 185, N, N, N, N, I 441 0, I 138 0, S "/claim/cut.py" 442], ⟨T "frame", none, .plain, ⟨[some (R 186), some (R 3), some (R 183), none, some (S "pagebase.node_view" 277), none, some (R 0)]⟩⟩] ++
  (f7 (mp 28 0) "NodeView.__init__" (S "pagebase.node_view" 277) 188 448 140 4 ["self", "octets", "page", "usable"] ++
  (f7 (mp 28 1) "NodeView.kind" (S "pagebase.node_view" 277) 195 458 148 1 ["self", "kind"] ++
  (f7 (mp 28 2) "NodeView.is_leaf" (S "pagebase.node_view" 277) 202 466 154 1 ["self"] ++
  (f7 (mp 28 3) "NodeView.is_rows" (S "pagebase.node_view" 277) 209 473 157 1 ["self"] ++
  (f7 (mp 28 4) "NodeView.count" (S "pagebase.node_view" 277) 216 480 160 1 ["self"] ++
  (f7 (mp 28 5) "NodeView.pointers" (S "pagebase.node_view" 277) 223 487 163 1 ["self"] ++
  (f7 (mp 28 6) "NodeView.content" (S "pagebase.node_view" 277) 230 494 168 1 ["self"] ++
  (f7 (mp 28 7) "NodeView.fragments" (S "pagebase.node_view" 277) 237 501 171 1 ["self"] ++
  (f7 (mp 28 8) "NodeView.right" (S "pagebase.node_view" 277) 244 508 174 1 ["self"] ++
  (f7 (mp 28 9) "NodeView.octets" (S "pagebase.node_view" 277) 251 515 177 1 ["self"] ++
  (f7 (mp 28 10) "NodeView.place" (S "pagebase.node_view" 277) 258 522 180 2 ["self", "i", "first", "at"] ++
  (f7 (mp 28 11) "NodeView.cell" (S "pagebase.node_view" 277) 265 532 189 2 ["self", "i", "cell", "end"] ++
  (f7 (mp 28 12) "NodeView.raw" (S "pagebase.node_view" 277) 272 542 193 2 ["self", "i", "at", "cell", "end"] ++
  (f5 (mp 28 13) "NodeView.raws" (S "pagebase.node_view" 277) 279 553 198 1 ++
  (f7 (mp 28 14) "NodeView.rowid" (S "pagebase.node_view" 277) 284 559 201 2 ["self", "i", "at", "number", "size"] ++
  (f7 (mp 28 15) "NodeView.child" (S "pagebase.node_view" 277) 291 570 210 2 ["self", "i"] ++
  (f7 (mp 28 16) "NodeView.children" (S "pagebase.node_view" 277) 298 578 215 1 ["self"] ++
  (f7 (mp 28 17) "NodeView.blocks" (S "pagebase.node_view" 277) 305 585 218 1 ["self", "found", "at", "behind", "size"] ++
  ([tu [S "base" 596, S "data" 597, S "page" 598, S "usable" 599], di (T "dict") [e P "__module__" 443 (S "pagebase.node_view" 277), e P "__firstlineno__" 447 (I 138 446), e P "__init__" 457 (R 194), e P "kind" 465 (R 201), e P "is_leaf" 472 (R 208), e P "is_rows" 479 (R 215), e P "count" 486 (R 222), e P "pointers" 493 (R 229), e P "content" 500 (R 236), e P "fragments" 507 (R 243), e P "right" 514 (R 250), e P "octets" 521 (R 257), e P "place" 531 (R 264), e P "cell" 541 (R 271), e P "raw" 552 (R 278), e P "raws" 558 (R 283), e P "rowid" 569 (R 290), e P "child" 577 (R 297), e P "children" 584 (R 304), e P "blocks" 595 (R 311), e P "__static_attributes__" 600 (R 312), e P "__dict__" 602 (R 315), e P "__weakref__" 604 (R 316), e P "__doc__" 605 (N)] 4, c314 [R 412], fl (T "getset_descriptor") [S "__dict__" 601, R 314, B "function.__dict__", B "function.__dict__#set"], fl (T "getset_descriptor") [S "__weakref__" 603, R 314, B "ExceptionGroup.__weakref__", N], fl (T "super") [R 314, R 314, R 314], fl (T "builtin_function_or_method") [B "object.__init_subclass__", R 314], tu [R 314], fl (T "builtin_function_or_method") [B "type.__prepare__", T "type"], di (T "dict") [e P "__module__" 619 (S "pagebase.node" 608), e P "__qualname__" 621 (S "Node" 620), e P "__firstlineno__" 623 (I 234 622), e P "set_right" 631 (R 332), e P "clear" 639 (R 339), e P "gap" 646 (R 346), e P "set_blocks" 657 (R 353), e P "room" 667 (R 360), e P "is_sparse" 674 (R 367), e P "take_block" 687 (R 374), e P "allocate" 696 (R 381), e P "put_all" 710 (R 388), e P "insert" 724 (R 395), e P "remove" 737 (R 402), e P "give_back" 751 (R 409), e P "__static_attributes__" 752 (R 410)] 16, tu [], fl N [I 236 0, I 4 0, R 331, I 239 0, I 4 0, R 338, I 244 0, I 4 0, R 345, I 247 0, I 4 0, R 352, I 255 0, I 4 0, R 359, I 261 0, I 4 0, R 366, I 264 0, I 4 0, R 373, I 281 0, I 4 0, R 380, I 292 0, I 4 0, R 387, I 312 0, I 4 0, R 394, I 326 0, I 4 0, R 401, I 339 0, I 4 0, R 408], fl (T "code") [S "Node" 614, S "Node" 615, S "/claim/cut.py" 616, I 234 0, I 0 0, I 0 0, I 0 0, I 0 0, R 322, .bool false, I 181 0, R 323, N, N, N, N, I 617 0, I 234 0, S "/claim/cut.py" 618], ⟨T "frame", none, .plain, ⟨[some (R 324), some (R 3), some (R 321), none, some (S "pagebase.node" 608), none, some (R 0)]⟩⟩] ++
  (f7 (mp 31 0) "Node.set_right" (S "pagebase.node" 608) 326 624 236 2 ["self", "page"] ++
  (f7 (mp 31 1) "Node.clear" (S "pagebase.node" 608) 333 632 239 2 ["self", "kind"] ++
  (f7 (mp 31 2) "Node.gap" (S "pagebase.node" 608) 340 640 244 1 ["self"] ++
  (f7 (mp 31 3) "Node.set_blocks" (S "pagebase.node" 608) 347 647 247 2 ["self", "blocks", "behind", "at", "size"] ++
  (f7 (mp 31 4) "Node.room" (S "pagebase.node" 608) 354 658 255 1 ["self", "free", "at", "size"] ++
  (f7 (mp 31 5) "Node.is_sparse" (S "pagebase.node" 608) 361 668 261 1 ["self"] ++
  (f7 (mp 31 6) "Node.take_block" (S "pagebase.node" 608) 368 675 264 2 ["self", "need", "blocks", "i", "at", "size", "left"] ++
  (f7 (mp 31 7) "Node.allocate" (S "pagebase.node" 608) 375 688 281 2 ["self", "need", "at"] ++
  (f7 (mp 31 8) "Node.put_all" (S "pagebase.node" 608) 382 697 292 2 ["self", "raws", "kind", "right", "at", "pointers", "i", "raw"] ++
  (f7 (mp 31 9) "Node.insert" (S "pagebase.node" 608) 389 711 312 3 ["self", "i", "octets", "need", "count", "at", "pointers", "j"] ++
  (f7 (mp 31 10) "Node.remove" (S "pagebase.node" 608) 396 725 326 2 ["self", "i", "at", "size", "count", "pointers", "j"] ++
  (f7 (mp 31 11) "Node.give_back" (S "pagebase.node" 608) 403 738 339 3 ["self", "at", "size", "found", "fragments", "block", "first", "many"] ++
  ([tu [], di (T "dict") [e P "__module__" 619 (S "pagebase.node" 608), e P "__firstlineno__" 623 (I 234 622), e P "set_right" 631 (R 332), e P "clear" 639 (R 339), e P "gap" 646 (R 346), e P "set_blocks" 657 (R 353), e P "room" 667 (R 360), e P "is_sparse" 674 (R 367), e P "take_block" 687 (R 374), e P "allocate" 696 (R 381), e P "put_all" 710 (R 388), e P "insert" 724 (R 395), e P "remove" 737 (R 402), e P "give_back" 751 (R 409), e P "__static_attributes__" 752 (R 410), e P "__doc__" 753 (N)] 2, ⟨T "type", none, .cls {name := Str.ofString "Node", bases := [R 314], mro := [R 412, R 314, T "object"], ns := 411, qualname := Str.ofString "Node", subclasses := []}, ⟨[some (R 319), none, some (S "Node" 612), some (S "Node" 620), some (B "object.__new__"), some (.bool true)]⟩⟩, fl (T "super") [R 412, R 412, R 412], fl (T "builtin_function_or_method") [B "object.__init_subclass__", R 412]] ++
  (f7 (tp 33) "areas_of" (S "pagebase.node_check" 756) 415 758 361 1 ["node", "found", "i", "at", "size"] ++
  (f7 (tp 34) "check_node" (S "pagebase.node_check" 756) 422 769 369 1 ["node", "areas", "e", "found", "behind", "between", "at", "end", "what"] ++
  (f7 (tp 36) "_law_pool" (S "law_nt0113_01" 784) 429 786 392 1 ["script", "cell", "big", "mixed"] ++
  (f7 (tp 37) "_law_take" (S "law_nt0113_01" 784) 436 796 399 2 ["source", "top", "drawn"] ++
  (f7 (tp 38) "_law_raw" (S "law_nt0113_01" 784) 443 805 406 3 ["source", "kind", "usable", "size", "many", "overflow", "rowid", "local"] ++
  (f5 (tp 39) "_law_cost" (S "law_nt0113_01" 784) 450 819 415 1 ++
  (f7 (tp 40) "_law_changed" (S "law_nt0113_01" 784) 455 825 417 4 ["source", "node", "raws", "most", "at", "raw", "due"] ++
  (f7 (tp 41) "law" (S "law_nt0113_01" 784) 462 838 430 1 ["script", "source", "usable", "page", "kind", "node", "head", "raws", "turn"]))))))))))))))))))))))))))))))))))))))))))))))))))))))))))))))))
noncomputable def put : List Obj → Nat → List (Nat × Obj) → List Obj
  | [], _, _ => []
  | x :: r, _, [] => x :: r
  | x :: r, i, (j, y) :: o => cond (Nat.beq i j) (y :: put r (i + 1) o) (x :: put r (i + 1) ((j, y) :: o))
noncomputable def lx (n m q : Nat) (x : String) (t : Nat) (o : List (Nat × Obj)) (P : Params) : List Obj :=
  put ((l1 P).take n) 0 ((3, di (T "dict") (e P "__name__" 165 (S x t) :: (dl P).tail.take m) (m + 1)) :: (12, fl N (tl.take q)) :: o)
noncomputable def evs : List Obj → List Obj
  | [] => []
  | [x] => [x]
  | x :: _ :: r => x :: evs r
noncomputable def bt : Nat → List Obj → BT
  | 0, _ => .nil
  | _, [] => .nil
  | n + 1, x :: r => .node x (bt n (evs r)) (bt n (evs r.tail))

noncomputable abbrev p0 : Pos := ⟨0, 0, 0, 0⟩
noncomputable def env : Env := { scope := PG.main.scope, locals := mainNs, globals := mainNs, cells := [], code := .ref 13, frame := some 14 }
noncomputable abbrev cE : Code := .body (behindTheImports PG) env
noncomputable abbrev st (l : Params → List Obj) (n t : Nat) (P : Params) (os : OsState) : SharedT := ⟨bt 12 (l P), n, {}, ⟨[]⟩, {}, t, os⟩
noncomputable abbrev s0 := st l0 15 187
noncomputable abbrev sa := st (lx 42 10 6 "pagebase.errors" 194 [(38, c38 [])]) 42 225
noncomputable abbrev sb := st (lx 75 20 18 "pagebase.node_view" 277 []) 75 287
noncomputable abbrev sc := st (lx 139 31 45 "pagebase.node_view" 277 []) 139 366
noncomputable abbrev sd := st (lx 181 33 51 "pagebase.node_view" 277 []) 181 436
noncomputable abbrev se := st (lx 319 35 54 "pagebase.node" 608 [(314, c314 [])]) 319 612
noncomputable abbrev sf := st (lx 415 36 57 "pagebase.node" 608 []) 415 756
noncomputable abbrev s1 := st l1 469 853
noncomputable abbrev BL : List Stmt := behindTheImports PG
noncomputable def Piece (i k n : Nat) (s s' : Params → OsState → SharedT) (p p' : Pos) : Prop := ∀ w : World, (fun os => Fast.tw10110043849684766642 Fast.tw14364793385576792824 PG w 11 (some (.ref 6)) 1 n (s w.params os) (piecesOf ((BL.drop i).take k) env cE p [topFrame p0])) =
    fun os => some (.next, s' w.params os, cE, p')

theorem pre (w : World) : (fun os => Fast.tw15667345088766844465 Fast.tw14364793385576792824 PG w 11 (some (.ref 6)) 12 ⟨boot_heap w.params, ⟨[]⟩, boot_drawn, boot_toks, os⟩ (topStub PG)) =
    fun os => some (⟨⟨⟨l0 w.params⟩, {}⟩, ⟨[]⟩, {}, 187, os⟩, ⟨Fast.tw11892475500146522536 Fast.tw14364793385576792824 cE, cE, p0, [topFrame p0]⟩) := by kernel_rfl
theorem blk (w : World) : (fun os => Fast.tw14374325043358763698 Fast.tw14364793385576792824 PG w 11 (some (.ref 6)) 1 1 ⟨⟨⟨l0 w.params⟩, {}⟩, ⟨[]⟩, {}, 187, os⟩ (blockOf (behindTheImports PG) env cE p0 [topFrame p0])) =
    fun os => some (.next, (s0 w.params os).abs, cE, p0) := by kernel_rfl
theorem run1 : Piece 0 3 300 s0 sa p0 ⟨5, 0, 8, 30⟩ := fun w => by kernel_rfl
theorem run2 : Piece 3 12 400 sa sb ⟨5, 0, 8, 30⟩ ⟨52, 0, 52, 9⟩ := fun w => by kernel_rfl
theorem run3 : Piece 15 11 400 sb sc ⟨52, 0, 52, 9⟩ ⟨77, 0, 85, 16⟩ := fun w => by kernel_rfl
theorem run4 : Piece 26 2 400 sc sd ⟨77, 0, 85, 16⟩ ⟨111, 0, 137, 58⟩ := fun w => by kernel_rfl
theorem run5 : Piece 28 3 900 sd se ⟨111, 0, 137, 58⟩ ⟨233, 0, 233, 14⟩ := fun w => by kernel_rfl
theorem run6 : Piece 31 1 700 se sf ⟨233, 0, 233, 14⟩ ⟨234, 0, 359, 30⟩ := fun w => by kernel_rfl
theorem run7 : Piece 32 10 400 sf s1 ⟨234, 0, 359, 30⟩ ⟨430, 0, 450, 88⟩ := fun w => by kernel_rfl
theorem fin (w : World) : (fun os => Fast.tw14082659384304107361 Fast.tw14364793385576792824 PG w 11 (some (.ref 6)) 2 (s1 w.params os).abs ⟨doneF .next, cE, ⟨430, 0, 450, 88⟩, [topFrame p0]⟩) =
    fun os => some ⟨⟨⟨l1 w.params⟩, {}⟩, ⟨[]⟩, {}, 853, os⟩ := by kernel_rfl
end Mine.O

end
section
open PySem PySem.W PySem.Spec PySem.Calls PyProof.Rows
namespace Mine.O

theorem step {w : World} {os : OsState} {i k n N : Nat} {s s' : Params → OsState → SharedT} {r : Shared} {p p' : Pos} (h : Piece i k n s s' p p')
    (K : topRun treeTable PG w 11 (some (.ref 6)) N (s' w.params os).abs (restOf (BL.drop (i + k)) env cE p' [topFrame p0]) = some r) :
    topRun treeTable PG w 11 (some (.ref 6)) (n + N) (s w.params os).abs (restOf (BL.drop i) env cE p [topFrame p0]) = some r := by
  have e : BL.drop i = (BL.drop i).take k ++ BL.drop (i + k) := by rw [← List.drop_drop]; exact (List.take_append_drop k _).symm
  rw [e]
  refine piece_app (segRun_of (s := s w.params os) (s' := s' w.params os) ?_) K
  rw [Fast.te10110043849684766642, Fast.te14364793385576792824]
  exact congrFun (h w) os
theorem runAll (w : World) (os : OsState) : topRun treeTable PG w 11 (some (.ref 6)) (12 + (1 + (300 + (400 + (400 + (400 + (900 + (700 + (400 + 2))))))))) ⟨boot_heap w.params, ⟨[]⟩, boot_drawn, boot_toks, os⟩ (topStub PG) = some ⟨⟨⟨l1 w.params⟩, {}⟩, ⟨[]⟩, {}, 853, os⟩ := by
  refine go_top (s' := ⟨⟨⟨l0 w.params⟩, {}⟩, ⟨[]⟩, {}, 187, os⟩) (t' := ⟨denote treeTable cE, cE, p0, [topFrame p0]⟩) ?_ (piece_block (s' := (s0 w.params os).abs) (p' := p0) ?_ (step run1 (step run2 (step run3 (step run4 (step run5 (step run6 (step run7 ?_))))))))
  · rw [Fast.te15667345088766844465, Fast.te14364793385576792824, Fast.te11892475500146522536]
    exact congrFun (pre w) os
  · rw [Fast.te14374325043358763698, Fast.te14364793385576792824]
    exact congrFun (blk w) os
  · rw [show BL.drop (32 + 10) = [] by kernel_rfl]
    refine piece_nil ?_
    rw [Fast.te14082659384304107361, Fast.te14364793385576792824]
    exact congrFun (fin w) os

noncomputable def vw : Program := { PG with main := { PG.main with body := [tp 41] } }
noncomputable def loose : List Str := [Str.ofString "_wall", Str.ofString "PagebaseError", Str.ofString "CorruptError", Str.ofString "HEADER_SIZE", Str.ofString "WORD", Str.ofString "put_varint", Str.ofString "get_varint", Str.ofString "signed", Str.ofString "INNER_KEYS", Str.ofString "INNER_ROWS", Str.ofString "LEAF_KEYS", Str.ofString "LEAF_ROWS", Str.ofString "KINDS", Str.ofString "LEAST_CELL", Str.ofString "two_at", Str.ofString "four_at", Str.ofString "put_two", Str.ofString "put_four", Str.ofString "four_octets", Str.ofString "is_leaf", Str.ofString "max_local", Str.ofString "min_local", Str.ofString "local_size", Str.ofString "Cell", Str.ofString "read_cell", Str.ofString "NodeView", Str.ofString "MOST_FRAGMENTS", Str.ofString "Node", Str.ofString "areas_of", Str.ofString "check_node", Str.ofString "_law_pool", Str.ofString "_law_take", Str.ofString "_law_raw", Str.ofString "_law_cost", Str.ofString "_law_changed"]
noncomputable def lookup (P : Params) (a : Nat) : Addr × Obj := (a, ((bt 12 (l1 P)).get a).getD default)
noncomputable def as : List Nat := [3, 412, 411, 314, 313, 169, 168, 75, 21, 20, 35, 34, 60, 59, 67, 66, 74, 73, 82, 81, 89, 88, 96, 95, 103, 102, 110, 109, 117, 116, 124, 123, 131, 130, 138, 137, 152, 151, 159, 158, 166, 165, 180, 179, 194, 193, 201, 200, 208, 207, 215, 214, 222, 221, 229, 228, 236, 235, 243, 242, 250, 249, 257, 256, 264, 263, 271, 270, 278, 277, 283, 282, 290, 289, 297, 296, 304, 303, 311, 310, 332, 331, 339, 338, 346, 345, 353, 352, 360, 359, 367, 366, 374, 373, 381, 380, 388, 387, 395, 394, 402, 401, 409, 408, 421, 420, 428, 427, 435, 434, 442, 441, 449, 448, 454, 453, 461, 460, 468, 467]
noncomputable def K (P : Params) : Frag := as.map (lookup P)
theorem rU (P : Params) : as = (K P).map (·.1) := by
  unfold K; rw [List.map_map]; exact (List.map_id as).symm
noncomputable abbrev Xt (s : Shared) : Bool := xlAt vw [] s && recOk PySem.Challenge.rw_nt0113_01.row.toRowW.records s
noncomputable abbrev sz (w : World) (os : OsState) : Shared := ⟨⟨⟨l1 w.params⟩, {}⟩, ⟨[]⟩, {}, 853, os⟩
noncomputable abbrev LL : OpenLaw := PySem.Challenge.rw_nt0113_01
theorem said1 : namesResolve PG = true := by rw [Fast.te8377067652309620493]; kernel_rfl
theorem said2 : readsOut PG PG.main.body "vars" = false := by unfold readsOut; rw [Fast.te17119622794617984870]; kernel_rfl
theorem said2a : readsOut PG PG.main.body "dir" = false := by unfold readsOut; rw [Fast.te17119622794617984870]; kernel_rfl
theorem said2b : readsOut PG PG.main.body "locals" = false := by unfold readsOut; rw [Fast.te17119622794617984870]; kernel_rfl
theorem filt3 {p : Str → Bool} {a b c : Str} (x : p a = false) (y : p b = false) (z : p c = false) : [a, b, c].filter p = [] := by simp only [List.filter, x, y, z]
theorem said3 : (["vars", "dir", "locals"] : List Str).filter (readsOut PG PG.main.body) = [] := filt3 said2 said2a said2b
theorem said4 : noRoadLSs { strict := !(importedModules PG.main.body).all cThrough.contains, foot := none, bare := (["vars", "dir", "locals"] : List Str).filter (readsOut PG PG.main.body) } PG.main.body = true := by
  rw [said3, show (!(importedModules PG.main.body).all cThrough.contains) = false by kernel_rfl, Fast.te8326940854005059898]; kernel_rfl
theorem said5 : namesMeet PG PG.main.body (fun _ n => attrL n) = true := by rw [Fast.te17119622794617984870]; kernel_rfl
theorem said6 : looksOpen PG = true := look_both (look_both (look_both (look_both (look_both (by kernel_rfl) (by kernel_rfl)) said1) (by kernel_rfl)) said4) said5
theorem said7 : LL.row.partSaid = true := look_both (look_both (look_both (look_both (look_both (look_both (look_both (look_both (look_both (look_both (look_both (look_both (look_both (said6) (by kernel_rfl)) (by kernel_rfl)) (by kernel_rfl)) (by kernel_rfl)) (by kernel_rfl)) (by kernel_rfl)) (by kernel_rfl)) (by kernel_rfl)) (by kernel_rfl)) (by kernel_rfl)) (by kernel_rfl)) (by kernel_rfl)) (by kernel_rfl)
theorem said8 : LL.row.wellSaid = true := look_both (look_both (said7) (by kernel_rfl)) (by kernel_rfl)
theorem said : PySem.Challenge.rw_nt0113_01.wellSaid = true := look_both (look_both (look_both (look_both (look_both (look_both (look_both (look_both (look_both (look_both (look_both (look_both (look_both (look_both (look_both (look_both (look_both (look_both (said8) (by kernel_rfl)) (by kernel_rfl)) (by kernel_rfl)) (by kernel_rfl)) (by kernel_rfl)) (by kernel_rfl)) (by kernel_rfl)) (by kernel_rfl)) (by kernel_rfl)) (by kernel_rfl)) (by kernel_rfl)) (by kernel_rfl)) (by kernel_rfl)) (by kernel_rfl)) (by kernel_rfl)) (by kernel_rfl)) (by kernel_rfl)) (by kernel_rfl)
theorem looks1 (w : World) : (fun os => staticsOk (importedModules PG.main.body) (boot_heap w.params) ⟨⟨l1 w.params⟩, {}⟩ && namesBound PG ⟨⟨l1 w.params⟩, {}⟩ && gensDone (sz w os) && laidKept (boot_heap w.params) ⟨⟨l1 w.params⟩, {}⟩) = fun _ => true := by kernel_rfl
theorem looks2 (w : World) : (fun os => Fast.tw4187177175401517315 vw loose (importedModules PG.main.body) Xt true (sz w os)) = fun _ => openGood vw loose := by kernel_rfl
theorem looks3 (w : World) : (fun os => as.map (sz w os).heap.get?) = fun _ => (K w.params).map fun p => some p.2 := by kernel_rfl
end Mine.O

end
section
open PySem PySem.W PySem.Spec PySem.Calls PyProof.Rows
namespace Mine.O

theorem left : LeftO PG vw loose Xt (fun s => as.map s.heap.get?) (fun w => (K w.params).map fun p => some p.2) 5000 :=
  LeftO.of_pieces (H₀ := boot_heap) (H₁ := fun P => ⟨⟨l1 P⟩, {}⟩) (gs₀ := ⟨[]⟩) (gs₁ := ⟨[]⟩) (m₀ := 11) (ann := some (.ref 6))
    (boot_open (by kernel_rfl) (by rfl) (fun _ => by kernel_rfl)) (fun _ => by kernel_rfl) runAll (by rfl) (fun w => by
      funext os
      have h1 := congrFun (looks1 w) os
      have h2 := congrFun (looks2 w) os
      rw [← Fast.te4187177175401517315] at h2
      have h3 := congrFun (looks3 w) os
      exact looks_pair h1 (looks_pair h2 h3))

noncomputable abbrev LW : RowW := PySem.Challenge.rw_nt0113_01.row.toRowW
noncomputable abbrev CL : ClaimW := LW.claim
noncomputable abbrev GR (w : World) (s : Shared) (mg mb : Str → Option Value) (h : Heap) : Prop := Ground vw loose [] (XL vw []) w s mg mb h

noncomputable def Walk : Prop := ∀ (w : World) (s₀ s₁ : Shared) (mg mb : Str → Option Value), GR w s₀ mg mb s₁.heap → (K w.params).In s₁.heap → mg (Str.ofString "law") = some (.ref 468) → s₁.gens = #[] →
  ∀ (args : List WData) (vals : List Value) (as : List Addr), CL.pre args = true → WData.layableAll args = true → ReadsAllW [] (classAt s₀.heap) s₁.heap vals args as → WellAll w.params s₁.heap vals args →
    ∀ p, Sem.wp (model PG w) ctx0 (PySem.call (.ref 468) vals) (fun v _ s' => GoodWG CL (classAt s₀.heap) (ExcName.means s₀.heap) args s₁ (.ok (.ret v)) s') (fun _ _ _ => False) p s₁

noncomputable def Rd (s s₁ : Shared) (args : List WData) (vs : List Value) (rr : Result) (s' : Shared) : Prop := CL.Ends s args vs s₁ rr s' ∧ s'.os = s.os

theorem frs : (CL.same = none ∧ CL.within = []) ∧ ∀ a b, CL.ident a b = true := ⟨⟨rfl, rfl⟩, ident_freeW (r := LW) rfl rfl rfl⟩
theorem wk1 {α : Type} {A A' B C D E E' F : α → Prop} (j : ∀ v, A v → A' v) (k : ∀ v, E v → E' v) : (∃ v, A v ∧ B v ∧ C v ∧ D v ∧ E v ∧ F v) → ∃ v, A' v ∧ B v ∧ C v ∧ D v ∧ E' v ∧ F v :=
  fun ⟨v, a, b, c, d, e, f⟩ => ⟨v, j v a, b, c, d, k v e, f⟩
theorem wk2 {α β γ : Type} {A A' : α → Prop} {B C D E F F' : α → β → γ → Prop} (j : ∀ v, A v → A' v) (k : ∀ x y z, F x y z → F' x y z) : (∃ x y z, A x ∧ B x y z ∧ C x y z ∧ D x y z ∧ E x y z ∧ F x y z) → ∃ x y z, A' x ∧ B x y z ∧ C x y z ∧ D x y z ∧ E x y z ∧ F' x y z :=
  fun ⟨x, y, z, a, b, c, d, e, f⟩ => ⟨x, y, z, j x a, b, c, d, e, k x y z f⟩
theorem eight {V S N O T : Type} {A : V → S → Prop} {B : V → S → N → O → T → Prop} {C : V → S → O → T → Prop} {D E F G : T → Prop} (vs : V) (s : S) (a : A vs s) (n : N) (o : O) (t : T) (b : B vs s n o t) (c : C vs s o t) (d : D t) (e : E t) (f : F t) (g : G t) :
    ∃ vs s, A vs s ∧ ∃ n o t, B vs s n o t ∧ C vs s o t ∧ D t ∧ E t ∧ F t ∧ G t := ⟨vs, s, a, n, o, t, b, c, d, e, f, g⟩
theorem from_ (call : Walk) {w : World} {s : Shared} (G : GR w s (s.heap.nsMap mainGlobals) (s.heap.nsMap builtinsNs) s.heap) (X : (K w.params).In s.heap) (hz : s.asleep) (hgens : s.gens = #[]) {A : Addr → Prop} {B : Prop} {C : Heap → Prop} (hC : ∀ h, C h) :
    CL.CallFrom (callStub (Str.ofString "law")) w A B C s := by
  intro args hpre hlay ord hord
  obtain ⟨⟨vs, s₁⟩, hlaid⟩ := Option.isSome_iff_exists.mp (layAllW_isSome (P := w.params) (ord := ord) G.has args LW.args s (pre_splitW hpre).1)
  have keeps := layAllW_keeps _ _ _ hlaid
  have hal := layAllW_rest _ _ _ hlaid
  obtain ⟨as, hrd, hin, hold⟩ := reads_layAllW hord _ _ _ hlaid hlay s₁.heap (fun _ _ e => e)
  have L : Laid [] w s s₁ args vs as := ⟨⟨ord, hord, hlaid⟩, hrd, hin, hold, keeps, hal.1.trans hgens, hal.2.2.1⟩
  have G₁ := G.keeps XL.keeps keeps
  have X₁ : (K w.params).In s₁.heap := fun a o e => keeps _ _ (X a o e)
  have hm : s.heap.nsMap mainGlobals (Str.ofString "law") = some (.ref 468) := mg_of X G.T.g (by kernel_rfl)
  have z := call w s s₁ _ _ G₁ X₁ hm L.gens args vs as hpre hlay L.reads L.well default
  obtain ⟨k, rr, s2, s3, hrun, hsched, hfo, hcase, hos⟩ := ends0 (prog := PG) (w := w) (s := s₁) (t := do match ← nsGet mainNs (Str.ofString "law") with
      | some f => do ret (← PySem.call f vs)
      | none => unsupported "claim.caller:no-such-global") (R := Rd s s₁ args vs) (Shared.asleep_of_life hal.2.2.2 hz) (by
    show Sem.wp _ _ (nsGet mainGlobals (Str.ofString "law") >>= _) _ _ _ _
    rw [Sem.wp_bind', Sem.wp_nsGet _ _ _ _ _ G₁.T.g, hm]
    simp only [Sem.wp_bind']
    refine Sem.wp_mono _ _ _ (fun v p' s' g => ?_) (fun _ _ _ x => x.elim) _ _ z
    have zz := g.laid (c := CL) frs.1.1 frs.1.2 frs.2 L
    rw [Sem.wp_cmd_ret]
    exact ⟨_, rfl, ⟨zz.1, zz.2.1⟩, leftWithCleanup_false_of_bare zz.2.2⟩)
  obtain ⟨eh, _, _, eo, _⟩ := Shared.forget_eq hfo
  have hcase := hcase.congr eh
  rw [← eo] at hos
  exact eight vs s₁ hlaid k _ s2 hsched (hcase.imp (wk1 (fun _ h => congrArg outcomeOf h) fun v h b o y _ => h b o y) (wk2 (fun _ h => congrArg outcomeOf h) fun e ob cls h b o y _ => h b o y))
    (fun _ i x hx => by rw [hgens] at hx; cases hx) (hC _) (by rw [(runN_life _ _ _ hrun).trans hal.2.2.2]) (Shared.rest_eq hos)

noncomputable def dk : DefRec × List (Str × Expr) := match defOf vw (Str.ofString "law") with
  | some x => x
  | none => (⟨⟨⟨[]⟩⟩, ⟨[], [], none, [], [], none, []⟩, [], PG.main.scope, p0⟩, [])
theorem pinned {w : World} {s : Shared} (hg : s.heap.isNs mainGlobals = true) (G : GR w s (s.heap.nsMap mainGlobals) (s.heap.nsMap builtinsNs) s.heap) : isTheDefsW PG s.heap (Str.ofString "law") :=
  pinned_of_view (d := dk.1) (kwd := dk.2) hg G (by kernel_rfl) (by kernel_rfl) (by kernel_rfl)

theorem hd (call : Walk) : PySem.Challenge.rw_nt0113_01.Holds := by
  have hw : LW.promised := ⟨[.list []], by decide +kernel, by decide +kernel⟩
  refine holds_law said fun k1 => ⟨k1, hw, ⟨⟨rfl, rfl, rfl, rfl, rfl, by decide +kernel⟩, by kernel_rfl, by rfl⟩, hw.witness, fun w => ?_⟩
  have bh := left.behind (XP := XL vw []) (fun s h => xl_of s (Bool.and_eq_true_iff.mp h).1) (by kernel_rfl) w
  refine ⟨bh.1, fun s' hs' => ?_⟩
  obtain ⟨s₀, hf, hg0, s, hT, hz, hgens, hg, G, y⟩ := bh.2 s' hs'
  have X : (K w.params).In s.heap := InK.of rU w s y
  refine ⟨s₀, hf, hg0, s, hT, fun n hn => ?_, (fun x hx => by cases hx), (fun x hx => by cases hx), from_ call G X hz (Array.eq_empty_of_size_eq_zero (beq_iff_eq.mp hgens)) fun h (q : false = true) => by cases q⟩
  obtain rfl : n = Str.ofString "law" := by
    have : n ∈ [Str.ofString "law"] := by split at hn; exact hn; cases hn
    exact List.mem_singleton.mp this
  exact pinned hg G
end Mine.O

end
section
open PySem PySem.W PySem.Calls PyProof.Rows
namespace Mine

set_option genSizeOf false in
inductive MV where
  | none | bool (b : Bool) | int (i : Int) | str (s : Str) | bytes (b : List UInt8)
  | tup (xs : List MV) | froz (xs : List MV) | ref (k : Nat)
set_option genSizeOf false in
inductive MO where
  | list (xs : List MV) | ba (b : List UInt8) | inst (C : Addr) (fs : List (String × MV))

noncomputable abbrev Loc := String → Option MV
noncomputable abbrev Sto := List MO
noncomputable abbrev Pls := List (Addr × Addr)

noncomputable def tupO (vs : List Value) (n : Nat) : Obj := { cls := .type "tuple", data := .seq vs.toArray n }
noncomputable def listO (vs : List Value) (n : Nat) : Obj := { cls := .type "list", data := .seq vs.toArray n }
noncomputable def baO (b : List UInt8) : Obj := { cls := .type "bytearray", data := .bytearray b.toArray 0 }
noncomputable def IsTupO (o : Obj) : Prop := ∃ vs n, o = tupO vs n

mutual
inductive VRel (h₀ : Heap) (ρ : Pls) (h : Heap) : MV → Value → Prop
  | none : VRel h₀ ρ h .none .none
  | bool (b : Bool) : VRel h₀ ρ h (.bool b) (.bool b)
  | int (i : Int) (t : Tok) : VRel h₀ ρ h (.int i) (.int i t)
  | str (x : Str) (t : Tok) : VRel h₀ ρ h (.str x) (.str x t)
  | bytes (b : List UInt8) (t : Tok) : VRel h₀ ρ h (.bytes b) (.bytes b.toArray t)
  | ref {k : Nat} {p : Addr × Addr} : ρ[k]? = some p → VRel h₀ ρ h (.ref k) (.ref p.1)
  | tup {a : Addr} {xs : List MV} {vs : List Value} {n : Nat} : h.get? a = some (tupO vs n) → VsRel h₀ ρ h xs vs → VRel h₀ ρ h (.tup xs) (.ref a)
  | froz {a : Addr} {xs : List MV} {vs : List Value} {n : Nat} : h₀.get? a = some (listO vs n) → VsRel h₀ ρ h xs vs → VRel h₀ ρ h (.froz xs) (.ref a)
inductive VsRel (h₀ : Heap) (ρ : Pls) (h : Heap) : List MV → List Value → Prop
  | nil : VsRel h₀ ρ h [] []
  | cons {x : MV} {v : Value} {xs : List MV} {vs : List Value} : VRel h₀ ρ h x v → VsRel h₀ ρ h xs vs → VsRel h₀ ρ h (x :: xs) (v :: vs)
end

inductive FsRel (h₀ : Heap) (ρ : Pls) (h : Heap) : List (String × MV) → List DictEntry → Prop
  | nil : FsRel h₀ ρ h [] []
  | cons {x : String} {v : MV} {fs : List (String × MV)} {hs : Int} {t : Tok} {rv : Value} {es : List DictEntry} :
      VRel h₀ ρ h v rv → FsRel h₀ ρ h fs es → FsRel h₀ ρ h ((x, v) :: fs) (⟨hs, .str (Str.ofString x) t, rv⟩ :: es)

noncomputable def ObjIs (h₀ : Heap) (ρ : Pls) (h : Heap) (p : Addr × Addr) : MO → Prop
  | .list xs => p.2 = p.1 ∧ ∃ vs n, h.get? p.1 = some (listO vs n) ∧ VsRel h₀ ρ h xs vs
  | .ba b => p.2 = p.1 ∧ h.get? p.1 = some (baO b)
  | .inst C fs => ∃ es n, h.get? p.1 = some (instObj C p.2) ∧ h.get? p.2 = some (dictOf es n) ∧ FsRel h₀ ρ h fs es

structure Post (ρ ρ' : Pls) (X : Addr → Prop) (h h' : Heap) : Prop where
  ext : ∃ t, ρ' = ρ ++ t
  fr : ∀ b o, h.get? b = some o → (∀ p ∈ ρ, b ≠ p.1 ∧ b ≠ p.2) → ¬ X b → h'.get? b = some o
  tup : ∀ b o, h.get? b = some o → IsTupO o → h'.get? b = some o
  live : ∀ b o, h.get? b = some o → ∃ o', h'.get? b = some o'
  new : ∀ p ∈ ρ', p ∈ ρ ∨ (h.get? p.1 = .none ∧ h.get? p.2 = .none)

theorem hX {ρ ρ' : Pls} (e : ∃ t, ρ' = ρ ++ t) {k : Nat} {p : Addr × Addr} (h : ρ[k]? = some p) : ρ'[k]? = some p := by
  obtain ⟨t, rfl⟩ := e
  rw [List.getElem?_append_left (List.getElem?_eq_some_iff.mp h).1]; exact h
theorem Post.refl (ρ : Pls) (X : Addr → Prop) (h : Heap) : Post ρ ρ X h h :=
  ⟨⟨[], by simp⟩, fun _ _ e _ _ => e, fun _ _ e _ => e, fun _ _ e => ⟨_, e⟩, fun _ hp => .inl hp⟩
theorem Post.of_keep (ρ : Pls) (X : Addr → Prop) {h h' : Heap} (k : ∀ b o, h.get? b = some o → h'.get? b = some o) : Post ρ ρ X h h' :=
  ⟨⟨[], by simp⟩, fun _ _ e _ _ => k _ _ e, fun _ _ e _ => k _ _ e, fun _ _ e => ⟨_, k _ _ e⟩, fun _ hp => .inl hp⟩
theorem Post.trans {ρ ρ' ρ'' : Pls} {X : Addr → Prop} {h h' h'' : Heap} (a : Post ρ ρ' X h h') (b : Post ρ' ρ'' X h' h'') : Post ρ ρ'' X h h'' where
  ext := by obtain ⟨t, rfl⟩ := a.ext; obtain ⟨u, rfl⟩ := b.ext; exact ⟨t ++ u, by simp⟩
  fr := fun x o e hp hx => b.fr x o (a.fr x o e hp hx) (fun p hp' => by
    rcases a.new p hp' with q | ⟨q1, q2⟩
    · exact hp p q
    · exact ⟨fun z => (by rw [z, q1] at e; cases e), fun z => (by rw [z, q2] at e; cases e)⟩) hx
  tup := fun x o e t => b.tup x o (a.tup x o e t) t
  live := fun x o e => let ⟨_, e'⟩ := a.live x o e; b.live x _ e'
  new := fun p hp => by
    have nn : ∀ x, h'.get? x = .none → h.get? x = .none := fun x hx => by
      cases q : h.get? x with
      | none => rfl
      | some o => obtain ⟨o', e'⟩ := a.live x o q; rw [hx] at e'; cases e'
    rcases b.new p hp with q | ⟨q1, q2⟩
    · exact a.new p q
    · exact .inr ⟨nn _ q1, nn _ q2⟩
theorem Post.weaken {ρ ρ' : Pls} {X Y : Addr → Prop} {h h' : Heap} (a : Post ρ ρ' X h h') (k : ∀ b, X b → Y b) : Post ρ ρ' Y h h' :=
  ⟨a.ext, fun b o e hp hx => a.fr b o e hp fun q => hx (k b q), a.tup, a.live, a.new⟩

mutual
theorem VRel.mono {h₀ h h' : Heap} {ρ ρ' : Pls} (e : ∃ t, ρ' = ρ ++ t) (t : ∀ b o, h.get? b = some o → IsTupO o → h'.get? b = some o) : ∀ {x v}, VRel h₀ ρ h x v → VRel h₀ ρ' h' x v
  | _, _, .none => .none
  | _, _, .bool b => .bool b
  | _, _, .int i t => .int i t
  | _, _, .str x t => .str x t
  | _, _, .bytes b t => .bytes b t
  | _, _, .ref hk => .ref (hX e hk)
  | _, _, .tup ha hs => .tup (t _ _ ha ⟨_, _, rfl⟩) (VsRel.mono e t hs)
  | _, _, .froz ha hs => .froz ha (VsRel.mono e t hs)
theorem VsRel.mono {h₀ h h' : Heap} {ρ ρ' : Pls} (e : ∃ t, ρ' = ρ ++ t) (t : ∀ b o, h.get? b = some o → IsTupO o → h'.get? b = some o) : ∀ {xs vs}, VsRel h₀ ρ h xs vs → VsRel h₀ ρ' h' xs vs
  | _, _, .nil => .nil
  | _, _, .cons a b => .cons (VRel.mono e t a) (VsRel.mono e t b)
end
theorem FsRel.mono {h₀ h h' : Heap} {ρ ρ' : Pls} (e : ∃ t, ρ' = ρ ++ t) (t : ∀ b o, h.get? b = some o → IsTupO o → h'.get? b = some o) : ∀ {xs vs}, FsRel h₀ ρ h xs vs → FsRel h₀ ρ' h' xs vs
  | _, _, .nil => .nil
  | _, _, .cons a b => .cons (VRel.mono e t a) (FsRel.mono e t b)
theorem VRel.post {h₀ h h' : Heap} {ρ ρ' : Pls} {X : Addr → Prop} (P : Post ρ ρ' X h h') {x v} (r : VRel h₀ ρ h x v) : VRel h₀ ρ' h' x v := r.mono P.ext P.tup
theorem VsRel.post {h₀ h h' : Heap} {ρ ρ' : Pls} {X : Addr → Prop} (P : Post ρ ρ' X h h') {x v} (r : VsRel h₀ ρ h x v) : VsRel h₀ ρ' h' x v := r.mono P.ext P.tup

theorem VsRel.length {h₀ h : Heap} {ρ : Pls} : ∀ {xs vs}, VsRel h₀ ρ h xs vs → vs.length = xs.length
  | _, _, .nil => rfl
  | _, _, .cons _ b => by simp [b.length]
theorem VsRel.get {h₀ h : Heap} {ρ : Pls} : ∀ {xs vs} {i : Nat} {x : MV}, VsRel h₀ ρ h xs vs → xs[i]? = some x → ∃ v, vs[i]? = some v ∧ VRel h₀ ρ h x v
  | _, _, 0, _, .cons a _, e => by simp at e; subst e; exact ⟨_, rfl, a⟩
  | _, _, i + 1, _, .cons _ b, e => by simp at e; simpa using b.get e
  | _, _, i, _, .nil, e => by simp at e
theorem VsRel.append {h₀ h : Heap} {ρ : Pls} : ∀ {xs ys vs us}, VsRel h₀ ρ h xs vs → VsRel h₀ ρ h ys us → VsRel h₀ ρ h (xs ++ ys) (vs ++ us)
  | _, _, _, _, .nil, b => b
  | _, _, _, _, .cons x a, b => .cons x (a.append b)
theorem VsRel.take {h₀ h : Heap} {ρ : Pls} : ∀ {xs vs} (n : Nat), VsRel h₀ ρ h xs vs → VsRel h₀ ρ h (xs.take n) (vs.take n)
  | _, _, 0, _ => by simpa using VsRel.nil
  | _, _, n + 1, .nil => by simpa using VsRel.nil
  | _, _, n + 1, .cons a b => by simpa using VsRel.cons a (b.take n)
theorem VsRel.drop {h₀ h : Heap} {ρ : Pls} : ∀ {xs vs} (n : Nat), VsRel h₀ ρ h xs vs → VsRel h₀ ρ h (xs.drop n) (vs.drop n)
  | _, _, 0, r => by simpa using r
  | _, _, n + 1, .nil => by simpa using VsRel.nil
  | _, _, n + 1, .cons a b => by simpa using b.drop n
theorem VsRel.set {h₀ h : Heap} {ρ : Pls} {y : MV} {u : Value} (ry : VRel h₀ ρ h y u) : ∀ {xs vs} (n : Nat), VsRel h₀ ρ h xs vs → VsRel h₀ ρ h (xs.set n y) (vs.set n u)
  | _, _, _, .nil => by simpa using VsRel.nil
  | _, _, 0, .cons a b => by simpa using VsRel.cons ry b
  | _, _, n + 1, .cons a b => by simpa using VsRel.cons a (b.set ry n)
theorem VsRel.reverse {h₀ h : Heap} {ρ : Pls} : ∀ {xs vs}, VsRel h₀ ρ h xs vs → VsRel h₀ ρ h xs.reverse vs.reverse
  | _, _, .nil => .nil
  | _, _, .cons a b => by simpa using b.reverse.append (.cons a .nil)

set_option genInjectivity false in
set_option genSizeOf false in
structure Cx where
  prog : Program
  w : World
  K : Frag
  h₀ : Heap
  s₀ : Shared
  mg : Str → Option Value
  mb : Str → Option Value
  p : Program
  loose : List Str
  X : K.In h₀
  T : TopRead p loose mg mb h₀

structure SOk (cx : Cx) (ρ : Pls) (σ : Sto) (s : Shared) : Prop where
  same : ∃ h tk, s = { cx.s₀ with heap := h, toks := tk }
  keep : ∀ b o, cx.h₀.get? b = some o → s.heap.get? b = some o
  len : ρ.length = σ.length
  obj : ∀ (k : Nat) o p, σ[k]? = some o → ρ[k]? = some p → ObjIs cx.h₀ ρ s.heap p o
  inj : ∀ (i j : Nat) p q, ρ[i]? = some p → ρ[j]? = some q → i ≠ j → p.1 ≠ q.1 ∧ p.1 ≠ q.2 ∧ p.2 ≠ q.1 ∧ p.2 ≠ q.2
  fresh : ∀ p ∈ ρ, cx.h₀.get? p.1 = .none ∧ cx.h₀.get? p.2 = .none

theorem ii {vs n} : ¬ IsTupO (listO vs n) := by rintro ⟨a, b, e⟩; simp [listO, tupO] at e
theorem jz {b} : ¬ IsTupO (baO b) := by rintro ⟨a, c, e⟩; simp [baO, tupO] at e
theorem lO {C d} : ¬ IsTupO (instObj C d) := by rintro ⟨a, c, e⟩; simp [tupO] at e
theorem l9 {es n} : ¬ IsTupO (dictOf es n) := by rintro ⟨a, c, e⟩; simp [tupO] at e

theorem ObjIs.at1 {h₀ h : Heap} {ρ : Pls} {p : Addr × Addr} : ∀ {o : MO}, ObjIs h₀ ρ h p o → ∃ ob, h.get? p.1 = some ob ∧ ¬ IsTupO ob
  | .list _, ⟨_, _, _, e, _⟩ => ⟨_, e, ii⟩
  | .ba _, ⟨_, e⟩ => ⟨_, e, jz⟩
  | .inst _ _, ⟨_, _, e, _, _⟩ => ⟨_, e, lO⟩
theorem ObjIs.at2 {h₀ h : Heap} {ρ : Pls} {p : Addr × Addr} : ∀ {o : MO}, ObjIs h₀ ρ h p o → ∃ ob, h.get? p.2 = some ob ∧ ¬ IsTupO ob
  | .list _, ⟨e0, _, _, e, _⟩ => ⟨_, e0 ▸ e, ii⟩
  | .ba _, ⟨e0, e⟩ => ⟨_, e0 ▸ e, jz⟩
  | .inst _ _, ⟨_, _, _, e, _⟩ => ⟨_, e, l9⟩
theorem ObjIs.mono {h₀ h h' : Heap} {ρ ρ' : Pls} {p : Addr × Addr} (e : ∃ t, ρ' = ρ ++ t) (t : ∀ b o, h.get? b = some o → IsTupO o → h'.get? b = some o)
    (k1 : ∀ o, h.get? p.1 = some o → h'.get? p.1 = some o) (k2 : ∀ o, h.get? p.2 = some o → h'.get? p.2 = some o) : ∀ {o : MO}, ObjIs h₀ ρ h p o → ObjIs h₀ ρ' h' p o
  | .list _, ⟨e0, vs, n, q, r⟩ => ⟨e0, vs, n, k1 _ q, r.mono e t⟩
  | .ba _, ⟨e0, q⟩ => ⟨e0, k1 _ q⟩
  | .inst _ _, ⟨es, n, q1, q2, r⟩ => ⟨es, n, k1 _ q1, k2 _ q2, r.mono e t⟩

namespace SOk
variable {cx : Cx} {ρ : Pls} {σ : Sto} {s : Shared}
theorem objOf (S : SOk cx ρ σ s) {p : Addr × Addr} (hp : p ∈ ρ) : ∃ o, ObjIs cx.h₀ ρ s.heap p o := by
  obtain ⟨k, hk⟩ := List.mem_iff_getElem?.mp hp
  have : k < σ.length := by rw [← S.len]; exact (List.getElem?_eq_some_iff.mp hk).1
  exact ⟨_, S.obj _ _ _ (List.getElem?_eq_getElem this) hk⟩
theorem tok (S : SOk cx ρ σ s) (tk : Nat) : SOk cx ρ σ { s with toks := tk } :=
  ⟨let ⟨h, _, e⟩ := S.same; ⟨h, tk, by rw [e]⟩, S.keep, S.len, S.obj, S.inj, S.fresh⟩
theorem kept (S : SOk cx ρ σ s) {h : Heap} (tk : Nat) (k : ∀ b o, s.heap.get? b = some o → h.get? b = some o) : SOk cx ρ σ { s with heap := h, toks := tk } :=
  ⟨let ⟨_, _, e⟩ := S.same; ⟨h, tk, by rw [e]⟩, fun b o e => k _ _ (S.keep b o e), S.len,
    fun k' o p e1 e2 => (S.obj k' o p e1 e2).mono ⟨[], by simp⟩ (fun b o e _ => k b o e) (fun o e => k _ o e) (fun o e => k _ o e), S.inj, S.fresh⟩
theorem XK (S : SOk cx ρ σ s) : cx.K.In s.heap := cx.X.keeps S.keep
theorem TK (S : SOk cx ρ σ s) : TopRead cx.p cx.loose cx.mg cx.mb s.heap := cx.T.keeps S.keep
end SOk

end Mine

end
section
namespace Mine.Z
set_option genSizeOf false in
set_option genInjectivity false in
inductive N where | v (i : Nat) | k (n : Nat) | a (x y : N) | m (n : Nat) (x : N)
set_option genSizeOf false in
set_option genInjectivity false in
inductive I where | v (i : Nat) | k (z : Int) | c (x : N) | a (x y : I) | s (x y : I) | n (x : I) | m (z : Int) (x : I) | r (x : I) (z : Int)
set_option genSizeOf false in
set_option genInjectivity false in
inductive F where | le (x y : I) | lt (x y : I) | eq (x y : I) | nle (x y : N) | nlt (x y : N) | neq (x y : N) | an (p q : F) | or (p q : F) | im (p q : F) | no (p : F) | ff

noncomputable def at_ {α : Type} (d : α) : List α → Nat → α
  | [], _ => d
  | x :: _, 0 => x
  | _ :: r, i + 1 => at_ d r i
noncomputable def N.d (c : List Nat) : N → Nat
  | .v i => at_ 0 c i
  | .k n => n
  | .a x y => x.d c + y.d c
  | .m n x => n * x.d c
noncomputable def I.d (e : List Int) (c : List Nat) : I → Int
  | .v i => at_ 0 e i
  | .k z => z
  | .c x => (x.d c : Nat)
  | .a x y => x.d e c + y.d e c
  | .s x y => x.d e c - y.d e c
  | .n x => - x.d e c
  | .m z x => z * x.d e c
  | .r x z => x.d e c * z
noncomputable def F.d (e : List Int) (c : List Nat) : F → Prop
  | .le x y => x.d e c ≤ y.d e c
  | .lt x y => x.d e c < y.d e c
  | .eq x y => x.d e c = y.d e c
  | .nle x y => x.d c ≤ y.d c
  | .nlt x y => x.d c < y.d c
  | .neq x y => x.d c = y.d c
  | .an p q => p.d e c ∧ q.d e c
  | .or p q => p.d e c ∨ q.d e c
  | .im p q => p.d e c → q.d e c
  | .no p => ¬ p.d e c
  | .ff => False

noncomputable def ev (f : Nat → Int) : List Int → Int
  | [] => 0
  | a :: r => a * f 0 + ev (fun n => f (n + 1)) r
noncomputable def el (f : Nat → Int) (x : Int × List Int) : Int := x.1 + ev f x.2
noncomputable def addL : List Int → List Int → List Int
  | [], y => y
  | a :: x, [] => a :: x
  | a :: x, b :: y => (a + b) :: addL x y
noncomputable def mulL (z : Int) : List Int → List Int
  | [] => []
  | a :: x => z * a :: mulL z x
noncomputable def unit (z : Int) : Nat → List Int
  | 0 => [z]
  | n + 1 => 0 :: unit z n
noncomputable def add (x y : Int × List Int) : Int × List Int := (x.1 + y.1, addL x.2 y.2)
noncomputable def mul (z : Int) (x : Int × List Int) : Int × List Int := (z * x.1, mulL z x.2)
noncomputable def sub (x y : Int × List Int) : Int × List Int := add x (mul (-1) y)
theorem oP : ∀ (x y : List Int) (f : Nat → Int), ev f (addL x y) = ev f x + ev f y
  | [], y, f => by rw [addL, ev, Int.zero_add]
  | a :: x, [], f => by rw [addL, ev, ev, Int.add_zero]
  | a :: x, b :: y, f => by rw [addL, ev, ev, ev, oP x y, Int.add_mul]; ac_rfl
theorem ny (z : Int) : ∀ (x : List Int) (f : Nat → Int), ev f (mulL z x) = z * ev f x
  | [], f => by rw [mulL, ev, Int.mul_zero]
  | a :: x, f => by rw [mulL, ev, ev, ny z x, Int.mul_add, Int.mul_assoc]
theorem j9 (z : Int) : ∀ (n : Nat) (f : Nat → Int), ev f (unit z n) = z * f n
  | 0, f => by rw [unit, ev, ev, Int.add_zero]
  | n + 1, f => by rw [unit, ev, j9 z n, Int.zero_mul, Int.zero_add]
theorem kf (x y : Int × List Int) (f : Nat → Int) : el f (add x y) = el f x + el f y := by
  show x.1 + y.1 + ev f (addL x.2 y.2) = (x.1 + ev f x.2) + (y.1 + ev f y.2)
  rw [oP]; ac_rfl
theorem gy (z : Int) (x : Int × List Int) (f : Nat → Int) : el f (mul z x) = z * el f x := by
  show z * x.1 + ev f (mulL z x.2) = z * (x.1 + ev f x.2)
  rw [ny, Int.mul_add]
theorem lm (x y : Int × List Int) (f : Nat → Int) : el f (sub x y) = el f x - el f y := by
  rw [sub, kf, gy, Int.neg_mul, Int.one_mul]; rfl
noncomputable def N.l : N → Int × List Int
  | .v i => (0, unit 1 (2 * i + 1))
  | .k n => (n, [])
  | .a x y => add x.l y.l
  | .m n x => mul n x.l
noncomputable def I.l : I → Int × List Int
  | .v i => (0, unit 1 (2 * i))
  | .k z => (z, [])
  | .c x => x.l
  | .a x y => add x.l y.l
  | .s x y => sub x.l y.l
  | .n x => mul (-1) x.l
  | .m z x => mul z x.l
  | .r x z => mul z x.l
noncomputable def va (e : List Int) (c : List Nat) (n : Nat) : Int := if n % 2 = 0 then at_ 0 e (n / 2) else (at_ 0 c (n / 2) : Nat)
variable {e : List Int} {c : List Nat}
theorem rQ (i : Nat) : va e c (2 * i) = at_ 0 e i := by
  unfold va; rw [if_pos (Nat.mul_mod_right 2 i), Nat.mul_div_cancel_left i (by decide)]
theorem rW (i : Nat) : va e c (2 * i + 1) = (at_ 0 c i : Nat) := by
  unfold va; rw [if_neg (by rw [Nat.mul_add_mod]; decide), Nat.mul_add_div (by decide)]; rfl
theorem N.sound : ∀ x : N, el (va e c) x.l = (x.d c : Nat)
  | .v i => by show 0 + ev _ (unit 1 (2 * i + 1)) = _; rw [j9, rW, Int.one_mul, Int.zero_add]; rfl
  | .k n => Int.add_zero _
  | .a x y => (kf ..).trans (by rw [N.sound x, N.sound y]; rfl)
  | .m n x => (gy ..).trans (by rw [N.sound x]; rfl)
theorem I.sound : ∀ x : I, el (va e c) x.l = x.d e c
  | .v i => by show 0 + ev _ (unit 1 (2 * i)) = _; rw [j9, rQ, Int.one_mul, Int.zero_add]; rfl
  | .k z => Int.add_zero _
  | .c x => N.sound x
  | .a x y => (kf ..).trans (by rw [I.sound x, I.sound y]; rfl)
  | .s x y => (lm ..).trans (by rw [I.sound x, I.sound y]; rfl)
  | .n x => (gy ..).trans (by rw [I.sound x, Int.neg_mul, Int.one_mul]; rfl)
  | .m z x => (gy ..).trans (by rw [I.sound x]; rfl)
  | .r x z => (gy ..).trans (by rw [I.sound x, Int.mul_comm]; rfl)

noncomputable def pos : Int → Bool
  | .ofNat (_ + 1) => true
  | _ => false
theorem mJ : ∀ {z : Int}, pos z = true → 0 < z
  | .ofNat (n + 1), _ => Int.natCast_pos.mpr (Nat.succ_pos n)
noncomputable def ze (c : Int × List Int) : List (Int × List Int) := match c.2 with
  | [] => [c]
  | a :: r => if pos a || pos (-a) then [] else [(c.1, r)]
noncomputable def po (c : Int × List Int) : List (Int × Int × List Int) := match c.2 with
  | [] => []
  | a :: r => if pos a then [(a, c.1, r)] else []
noncomputable def ng (c : Int × List Int) : List (Int × Int × List Int) := match c.2 with
  | [] => []
  | a :: r => if pos (-a) then [(-a, c.1, r)] else []
noncomputable def elim (cs : List (Int × List Int)) : List (Int × List Int) :=
  cs.flatMap ze ++ (cs.flatMap po).flatMap fun p => (cs.flatMap ng).map fun q => add (mul q.1 p.2) (mul p.1 q.2)
noncomputable def fm : Nat → List (Int × List Int) → Bool
  | 0, cs => cs.any fun c => c.2.isEmpty && pos c.1
  | n + 1, cs => (cs.any fun c => c.2.isEmpty && pos c.1) || fm n (elim cs)
theorem jr {cs : List (Int × List Int)} {f : Nat → Int} (h : (cs.any fun c => c.2.isEmpty && pos c.1) = true) (k : ∀ c ∈ cs, el f c ≤ 0) : False := by
  obtain ⟨c, hc, h⟩ := List.any_eq_true.mp h
  obtain ⟨h1, h2⟩ := Bool.and_eq_true_iff.mp h
  have := k c hc
  unfold el at this
  rw [List.isEmpty_iff.mp h1, ev, Int.add_zero] at this
  exact absurd (mJ h2) (Int.not_lt.mpr this)
theorem lZ : ∀ (n : Nat) (cs : List (Int × List Int)) (f : Nat → Int), fm n cs = true → (∀ c ∈ cs, el f c ≤ 0) → False
  | 0, cs, f, h, k => jr h k
  | n + 1, cs, f, h, k => by
    rcases Bool.or_eq_true_iff.mp h with h | h
    · exact jr h k
    · refine lZ n (elim cs) (fun n => f (n + 1)) h fun c hc => ?_
      have P : ∀ p ∈ cs.flatMap po, 0 ≤ p.1 ∧ p.1 * f 0 + el (fun n => f (n + 1)) p.2 ≤ 0 := fun p hp => by
        obtain ⟨c, hc, hp⟩ := List.mem_flatMap.mp hp
        have := k c hc
        obtain ⟨z, l⟩ := c
        cases l with
        | nil => cases hp
        | cons a r =>
          unfold po at hp
          dsimp only at hp
          split at hp
          · rename_i q
            obtain rfl := List.mem_singleton.mp hp
            exact ⟨Int.le_of_lt (mJ q), (by unfold el at this ⊢; rw [ev] at this; rw [← Int.add_left_comm]; exact this)⟩
          · cases hp
      have Q : ∀ p ∈ cs.flatMap ng, 0 ≤ p.1 ∧ -p.1 * f 0 + el (fun n => f (n + 1)) p.2 ≤ 0 := fun p hp => by
        obtain ⟨c, hc, hp⟩ := List.mem_flatMap.mp hp
        have := k c hc
        obtain ⟨z, l⟩ := c
        cases l with
        | nil => cases hp
        | cons a r =>
          unfold ng at hp
          dsimp only at hp
          split at hp
          · rename_i q
            obtain rfl := List.mem_singleton.mp hp
            exact ⟨Int.le_of_lt (mJ q), (by unfold el at this ⊢; rw [ev] at this; rw [Int.neg_neg, ← Int.add_left_comm]; exact this)⟩
          · cases hp
      rcases List.mem_append.mp hc with hc | hc
      · obtain ⟨c', hc', hc⟩ := List.mem_flatMap.mp hc
        have := k c' hc'
        obtain ⟨z, l⟩ := c'
        cases l with
        | nil => obtain rfl := List.mem_singleton.mp hc; exact this
        | cons a r =>
          unfold ze at hc
          dsimp only at hc
          split at hc
          · cases hc
          · rename_i q
            obtain rfl := List.mem_singleton.mp hc
            have a0 : a = 0 := by
              cases a with
              | ofNat n => cases n with
                | zero => rfl
                | succ n => exact absurd rfl q
              | negSucc n => exact absurd rfl q
            subst a0
            unfold el at this ⊢
            rw [ev, Int.zero_mul, Int.zero_add] at this
            exact this
      · obtain ⟨p, hp, hc⟩ := List.mem_flatMap.mp hc
        obtain ⟨q, hq, rfl⟩ := List.mem_map.mp hc
        obtain ⟨p0, p1⟩ := P p hp
        obtain ⟨q0, q1⟩ := Q q hq
        rw [kf, gy, gy]
        have r1 := Int.mul_le_mul_of_nonneg_left p1 q0
        have r2 := Int.mul_le_mul_of_nonneg_left q1 p0
        rw [Int.mul_zero, Int.mul_add] at r1 r2
        have r := Int.add_le_add r1 r2
        have z : q.1 * (p.1 * f 0) + p.1 * (-q.1 * f 0) = 0 := by
          rw [Int.neg_mul, Int.mul_neg, Int.mul_left_comm]; exact Int.add_right_neg _
        rw [Int.add_zero] at r
        calc _ = (q.1 * (p.1 * f 0) + p.1 * (-q.1 * f 0)) + (q.1 * el (fun n => f (n + 1)) p.2 + p.1 * el (fun n => f (n + 1)) q.2) := by rw [z, Int.zero_add]
          _ ≤ 0 := by rw [show ∀ a b c d : Int, (a + b) + (c + d) = (a + c) + (b + d) from fun a b c d => by ac_rfl]; exact r

noncomputable def one (x : Int × List Int) : Int × List Int := (x.1 + 1, x.2)
noncomputable def go : Nat → List (Bool × F) → List (Int × List Int) → Bool
  | 0, _, _ => false
  | _ + 1, [], cs => fm 12 cs
  | n + 1, (b, .le x y) :: t, cs => go n t ((cond b (sub x.l y.l) (one (sub y.l x.l))) :: cs)
  | n + 1, (b, .lt x y) :: t, cs => go n t ((cond b (one (sub x.l y.l)) (sub y.l x.l)) :: cs)
  | n + 1, (b, .eq x y) :: t, cs => cond b (go n t (sub x.l y.l :: sub y.l x.l :: cs)) (go n t (one (sub x.l y.l) :: cs) && go n t (one (sub y.l x.l) :: cs))
  | n + 1, (b, .nle x y) :: t, cs => go n t ((cond b (sub x.l y.l) (one (sub y.l x.l))) :: cs)
  | n + 1, (b, .nlt x y) :: t, cs => go n t ((cond b (one (sub x.l y.l)) (sub y.l x.l)) :: cs)
  | n + 1, (b, .neq x y) :: t, cs => cond b (go n t (sub x.l y.l :: sub y.l x.l :: cs)) (go n t (one (sub x.l y.l) :: cs) && go n t (one (sub y.l x.l) :: cs))
  | n + 1, (b, .an p q) :: t, cs => cond b (go n ((true, p) :: (true, q) :: t) cs) (go n ((false, p) :: t) cs && go n ((false, q) :: t) cs)
  | n + 1, (b, .or p q) :: t, cs => cond b (go n ((true, p) :: t) cs && go n ((true, q) :: t) cs) (go n ((false, p) :: (false, q) :: t) cs)
  | n + 1, (b, .im p q) :: t, cs => cond b (go n ((false, p) :: t) cs && go n ((true, q) :: t) cs) (go n ((true, p) :: (false, q) :: t) cs)
  | n + 1, (b, .no p) :: t, cs => go n ((!b, p) :: t) cs
  | n + 1, (b, .ff) :: t, cs => b || go n t cs

theorem le0 {f : Nat → Int} {x y : Int × List Int} (h : el f x ≤ el f y) : el f (sub x y) ≤ 0 := by rw [lm]; exact Int.sub_nonpos_of_le h
theorem lt0 {f : Nat → Int} {x y : Int × List Int} (h : el f x < el f y) : el f (one (sub x y)) ≤ 0 := by
  have e : el f (one (sub x y)) = el f (sub x y) + 1 := by unfold el one; ac_rfl
  rw [e, lm]; exact Int.add_one_le_of_lt (Int.sub_neg_of_lt h)
noncomputable def Ho (e : List Int) (c : List Nat) : List (Bool × F) → Prop
  | [] => True
  | x :: t => cond x.1 (x.2.d e c) (¬ x.2.d e c) ∧ Ho e c t
theorem au : ∀ (n : Nat) (t : List (Bool × F)) (cs : List (Int × List Int)), go n t cs = true → Ho e c t → (∀ x ∈ cs, el (va e c) x ≤ 0) → False
  | 0, _, _, h, _, _ => nomatch h
  | n + 1, [], cs, h, _, k => lZ _ _ _ h k
  | n + 1, (b, p) :: t, cs, h, ⟨q, H⟩, k => by
    have cc : ∀ {x : Int × List Int}, el (va e c) x ≤ 0 → ∀ y ∈ x :: cs, el (va e c) y ≤ 0 := fun hx y hy => by
      rcases List.mem_cons.mp hy with rfl | hy
      · exact hx
      · exact k y hy
    have eqq : ∀ {x y : Int × List Int}, (cond b (go n t (sub x y :: sub y x :: cs)) (go n t (one (sub x y) :: cs) && go n t (one (sub y x) :: cs))) = true → cond b (el (va e c) x = el (va e c) y) (¬ el (va e c) x = el (va e c) y) → False := fun {x y} h q => by
      cases b with
      | true =>
        refine au n t _ h H fun z hz => ?_
        rcases List.mem_cons.mp hz with rfl | hz
        · exact le0 (Int.le_of_eq q)
        · exact cc (le0 (Int.le_of_eq q.symm)) z hz
      | false =>
        obtain ⟨h1, h2⟩ := Bool.and_eq_true_iff.mp h
        rcases Int.lt_or_gt_of_ne q with q | q
        · exact au n t _ h1 H (cc (lt0 q))
        · exact au n t _ h2 H (cc (lt0 q))
    have leq : ∀ {x y : Int × List Int}, go n t (cond b (sub x y) (one (sub y x)) :: cs) = true → cond b (el (va e c) x ≤ el (va e c) y) (¬ el (va e c) x ≤ el (va e c) y) → False := fun {x y} h q => by
      cases b with
      | true => exact au n t _ h H (cc (le0 q))
      | false => exact au n t _ h H (cc (lt0 (Int.not_le.mp q)))
    have ltq : ∀ {x y : Int × List Int}, go n t (cond b (one (sub x y)) (sub y x) :: cs) = true → cond b (el (va e c) x < el (va e c) y) (¬ el (va e c) x < el (va e c) y) → False := fun {x y} h q => by
      cases b with
      | true => exact au n t _ h H (cc (lt0 q))
      | false => exact au n t _ h H (cc (le0 (Int.not_lt.mp q)))
    cases p with
    | le x y => exact leq h (by rw [I.sound, I.sound]; exact q)
    | lt x y => exact ltq h (by rw [I.sound, I.sound]; exact q)
    | eq x y => exact eqq h (by rw [I.sound, I.sound]; exact q)
    | nle x y => exact leq h (by rw [N.sound, N.sound, Int.ofNat_le]; exact q)
    | nlt x y => exact ltq h (by rw [N.sound, N.sound, Int.ofNat_lt]; exact q)
    | neq x y => exact eqq h (by rw [N.sound, N.sound, Int.ofNat_inj]; exact q)
    | an x y =>
      cases b with
      | true => exact au n _ _ h ⟨q.1, q.2, H⟩ k
      | false =>
        obtain ⟨h1, h2⟩ := Bool.and_eq_true_iff.mp h
        exact q ⟨Classical.byContradiction fun z => au n _ _ h1 ⟨z, H⟩ k, Classical.byContradiction fun z => au n _ _ h2 ⟨z, H⟩ k⟩
    | or x y =>
      cases b with
      | true =>
        obtain ⟨h1, h2⟩ := Bool.and_eq_true_iff.mp h
        exact q.elim (fun z => au n _ _ h1 ⟨z, H⟩ k) fun z => au n _ _ h2 ⟨z, H⟩ k
      | false => exact au n _ _ h ⟨fun z => q (.inl z), fun z => q (.inr z), H⟩ k
    | im x y =>
      cases b with
      | true =>
        obtain ⟨h1, h2⟩ := Bool.and_eq_true_iff.mp h
        exact au n _ _ h1 ⟨fun z => au n _ _ h2 ⟨q z, H⟩ k, H⟩ k
      | false => exact q fun z => Classical.byContradiction fun w => au n _ _ h ⟨z, w, H⟩ k
    | no x =>
      cases b with
      | true => exact au n _ _ h ⟨q, H⟩ k
      | false => exact q fun z => au n _ _ h ⟨z, H⟩ k
    | ff =>
      cases b with
      | true => exact q
      | false => exact au n _ _ h H k
noncomputable def nn : List (Int × List Int) := [1, 3, 5, 7, 9, 11, 13, 15].map fun j => (0, unit (-1) j)
theorem p (f : F) (h : go 300 [(false, f)] nn = true) (e : List Int) (c : List Nat) : f.d e c :=
  Classical.byContradiction fun q => au _ _ _ h ⟨q, trivial⟩ fun x hx => by
    obtain ⟨j, hj, rfl⟩ := List.mem_map.mp hx
    show 0 + ev _ (unit (-1) j) ≤ 0
    have o : 0 ≤ va e c j := by
      unfold va
      rw [if_neg]
      · exact Int.natCast_nonneg _
      · revert j; decide
    rw [j9, Int.neg_mul, Int.one_mul, Int.zero_add]
    exact Int.neg_nonpos_of_nonneg o
theorem q (f : F) (e : List Int) (c : List Nat) (h : go 300 [(false, f)] nn = true := by kernel_rfl) : f.d e c := p f h e c
theorem sb (a b : Nat) : a - b + b = a ∧ b ≤ a ∨ a - b = 0 ∧ a ≤ b := (Nat.le_total b a).elim (fun h => .inl ⟨Nat.sub_add_cancel h, h⟩) fun h => .inr ⟨Nat.sub_eq_zero_of_le h, h⟩
theorem tn (a : Int) : (a.toNat : Int) = a ∧ 0 ≤ a ∨ (a.toNat : Int) = 0 ∧ a ≤ 0 := (Int.le_total 0 a).elim (fun h => .inl ⟨Int.toNat_of_nonneg h, h⟩) fun h => .inr ⟨by rw [Int.toNat_of_nonpos h]; rfl, h⟩
theorem mn (a b : Nat) : min a b = a ∧ a ≤ b ∨ min a b = b ∧ b ≤ a := (Nat.le_total a b).elim (fun h => .inl ⟨Nat.min_eq_left h, h⟩) fun h => .inr ⟨Nat.min_eq_right h, h⟩
theorem mx (a b : Nat) : max a b = a ∧ b ≤ a ∨ max a b = b ∧ a ≤ b := (Nat.le_total b a).elim (fun h => .inl ⟨Nat.max_eq_left h, h⟩) fun h => .inr ⟨Nat.max_eq_right h, h⟩
theorem mni (a b : Int) : min a b = a ∧ a ≤ b ∨ min a b = b ∧ b ≤ a := (Int.le_total a b).elim (fun h => .inl ⟨Int.min_eq_left h, h⟩) fun h => .inr ⟨Int.min_eq_right h, h⟩
theorem mxi (a b : Int) : max a b = a ∧ b ≤ a ∨ max a b = b ∧ a ≤ b := (Int.le_total b a).elim (fun h => .inl ⟨Int.max_eq_left h, h⟩) fun h => .inr ⟨Int.max_eq_right h, h⟩
theorem dm (a : Int) {k : Int} (h : 0 < k) : k * (a / k) + a % k = a ∧ 0 ≤ a % k ∧ a % k < k := ⟨Int.mul_ediv_add_emod a k, Int.emod_nonneg a (Int.ne_of_gt h), Int.emod_lt_of_pos a h⟩
theorem dn (a : Nat) {k : Nat} (h : 0 < k) : k * (a / k) + a % k = a ∧ a % k < k := ⟨Nat.div_add_mod a k, Nat.mod_lt a h⟩
end Mine.Z

end
section
open PySem PySem.W PySem.Calls PyProof.Rows
namespace Mine
theorem kP {n : Nat} {p : Int} (h0 : 0 ≤ p) (h : p ≤ n) : clipAt n p = p.toNat := by
  unfold clipAt; rw [if_neg (Int.not_lt.mpr h0), Int.min_eq_left h, Int.max_eq_right h0]
theorem len3 {a e : Int} {O C : Nat} (ha : 0 ≤ a) (hae : a ≤ e) (he : e ≤ O) (hc : (C : Int) = e - a) : min a.toNat O + (C + (O - e.toNat)) = O := by
  obtain ⟨A, rfl⟩ := Int.eq_ofNat_of_zero_le ha
  obtain ⟨E, rfl⟩ := Int.eq_ofNat_of_zero_le (Int.le_trans ha hae)
  have e : C + A = E := Int.ofNat.inj (show ((C + A : Nat) : Int) = E by rw [Int.natCast_add, hc, Int.sub_add_cancel])
  rw [Int.toNat_natCast, Int.toNat_natCast, Nat.min_eq_left (Int.ofNat_le.mp (Int.le_trans hae he)), ← Nat.add_assoc, Nat.add_comm A C, e, Nat.add_sub_of_le (Int.ofNat_le.mp he)]

namespace SOk
variable {cx : Cx} {ρ : Pls} {σ : Sto} {s : Shared}

theorem add (S : SOk cx ρ σ s) {h : Heap} {p : Addr × Addr} {o : MO} (tk : Nat) (k : ∀ b o, s.heap.get? b = some o → h.get? b = some o)
    (n1 : s.heap.get? p.1 = .none) (n2 : s.heap.get? p.2 = .none) (ob : ObjIs cx.h₀ (ρ ++ [p]) h p o) :
    SOk cx (ρ ++ [p]) (σ ++ [o]) { s with heap := h, toks := tk } ∧ ∀ X, Post ρ (ρ ++ [p]) X s.heap h := by
  have old : ∀ q ∈ ρ, ∀ b, s.heap.get? b = .none → q.1 ≠ b ∧ q.2 ≠ b := by
    intro q hq b hb
    obtain ⟨o', ho'⟩ := S.objOf hq
    obtain ⟨o1, e1, _⟩ := ho'.at1
    obtain ⟨o2, e2, _⟩ := ho'.at2
    exact ⟨fun z => (by rw [z, hb] at e1; cases e1), fun z => (by rw [z, hb] at e2; cases e2)⟩
  refine ⟨⟨let ⟨_, _, e⟩ := S.same; ⟨h, tk, by rw [e]⟩, fun b o e => k _ _ (S.keep b o e), by simp [S.len], ?_, ?_, ?_⟩, fun X => ⟨⟨[p], rfl⟩, fun b o e _ _ => k b o e, fun b o e _ => k b o e, fun b o e => ⟨_, k b o e⟩, ?_⟩⟩
  · intro i o' q e1 e2
    rcases Nat.lt_or_ge i ρ.length with hi | hi
    · rw [List.getElem?_append_left hi] at e2
      rw [List.getElem?_append_left (by rw [← S.len]; exact hi)] at e1
      exact (S.obj i o' q e1 e2).mono ⟨[p], rfl⟩ (fun b o e _ => k b o e) (fun o e => k _ o e) (fun o e => k _ o e)
    · rw [List.getElem?_append_right hi] at e2
      rw [List.getElem?_append_right (by rw [← S.len]; exact hi)] at e1
      rw [← S.len] at e1
      cases hj : i - ρ.length with
      | zero => rw [hj] at e1 e2; simp at e1 e2; subst e1 e2; exact ob
      | succ j => rw [hj] at e2; simp at e2
  · intro i j q r e1 e2 hij
    rcases Nat.lt_or_ge i ρ.length with hi | hi <;> rcases Nat.lt_or_ge j ρ.length with hj | hj
    · rw [List.getElem?_append_left hi] at e1
      rw [List.getElem?_append_left hj] at e2
      exact S.inj i j q r e1 e2 hij
    · rw [List.getElem?_append_left hi] at e1
      rw [List.getElem?_append_right hj] at e2
      have hr : r = p := by
        cases hjj : j - ρ.length with
        | zero => rw [hjj] at e2; simpa using e2.symm
        | succ j => rw [hjj] at e2; simp at e2
      subst hr
      have m := List.mem_of_getElem? e1
      exact ⟨(old q m _ n1).1, (old q m _ n2).1, (old q m _ n1).2, (old q m _ n2).2⟩
    · rw [List.getElem?_append_left hj] at e2
      rw [List.getElem?_append_right hi] at e1
      have hr : q = p := by
        cases hjj : i - ρ.length with
        | zero => rw [hjj] at e1; simpa using e1.symm
        | succ j => rw [hjj] at e1; simp at e1
      subst hr
      have m := List.mem_of_getElem? e2
      exact ⟨(old r m _ n1).1.symm, (old r m _ n1).2.symm, (old r m _ n2).1.symm, (old r m _ n2).2.symm⟩
    · have a := (List.getElem?_eq_some_iff.mp e1).1
      have b := (List.getElem?_eq_some_iff.mp e2).1
      simp at a b
      (first|lia|omega)
  · intro q hq
    rcases List.mem_append.mp hq with hq | hq
    · exact S.fresh q hq
    · rw [List.mem_singleton.mp hq]
      have nn : ∀ x, s.heap.get? x = .none → cx.h₀.get? x = .none := fun x hx => by
        cases q : cx.h₀.get? x with
        | none => rfl
        | some o => rw [S.keep x o q] at hx; cases hx
      exact ⟨nn _ n1, nn _ n2⟩
  · intro q hq
    rcases List.mem_append.mp hq with hq | hq
    · exact .inl hq
    · rw [List.mem_singleton.mp hq]; exact .inr ⟨n1, n2⟩

theorem get_size (h : Heap) : h.get? h.objs.size = .none := by
  cases q : h.get? h.objs.size with
  | none => rfl
  | some o => exact absurd (Heap.lt_size q) (Nat.lt_irrefl _)

theorem pushList (S : SOk cx ρ σ s) {xs : List MV} {vs : List Value} {n : Nat} (tk : Nat) (r : VsRel cx.h₀ ρ s.heap xs vs) :
    SOk cx (ρ ++ [(s.heap.objs.size, s.heap.objs.size)]) (σ ++ [.list xs]) { s with heap := s.heap.push (listO vs n), toks := tk } ∧ ∀ X, Post ρ (ρ ++ [(s.heap.objs.size, s.heap.objs.size)]) X s.heap (s.heap.push (listO vs n)) :=
  S.add tk (fun _ _ e => Heap.get?_push_of_some _ e) (get_size _) (get_size _)
    ⟨rfl, vs, n, Heap.get?_push_size _ rfl, r.mono ⟨_, rfl⟩ fun _ _ e _ => Heap.get?_push_of_some _ e⟩
theorem refAt (S : SOk cx ρ σ s) {k : Nat} {rv : Value} (r : VRel cx.h₀ ρ s.heap (.ref k) rv) {o : MO} (hk : σ[k]? = some o) : ∃ p, rv = .ref p.1 ∧ ρ[k]? = some p ∧ ObjIs cx.h₀ ρ s.heap p o := by
  cases r with
  | ref hp => exact ⟨_, rfl, hp, S.obj _ _ _ hk hp⟩

theorem put (S : SOk cx ρ σ s) {h : Heap} {k : Nat} {p : Addr × Addr} {o o' : MO} (tk : Nat) (hk : σ[k]? = some o) (hp : ρ[k]? = some p)
    (kb : ∀ b o, b ≠ p.1 → b ≠ p.2 → s.heap.get? b = some o → h.get? b = some o) (ob : (∀ b o, s.heap.get? b = some o → IsTupO o → h.get? b = some o) → ObjIs cx.h₀ ρ h p o') :
    SOk cx ρ (σ.set k o') { s with heap := h, toks := tk } ∧ ∀ X, Post ρ ρ X s.heap h := by
  have hm := List.mem_of_getElem? hp
  have ob0 := S.obj k o p hk hp
  have tup : ∀ b o, s.heap.get? b = some o → IsTupO o → h.get? b = some o := by
    intro b ob e t
    refine kb b ob ?_ ?_ e
    · rintro rfl; obtain ⟨x, e', nt⟩ := ob0.at1; rw [e] at e'; cases e'; exact nt t
    · rintro rfl; obtain ⟨x, e', nt⟩ := ob0.at2; rw [e] at e'; cases e'; exact nt t
  have ob := ob tup
  have live : ∀ b o, s.heap.get? b = some o → ∃ o', h.get? b = some o' := by
    intro b o e
    by_cases h1 : b = p.1
    · subst h1; obtain ⟨x, e', _⟩ := ob.at1; exact ⟨x, e'⟩
    · by_cases h2 : b = p.2
      · subst h2; obtain ⟨x, e', _⟩ := ob.at2; exact ⟨x, e'⟩
      · exact ⟨_, kb b o h1 h2 e⟩
  refine ⟨⟨let ⟨_, _, e⟩ := S.same; ⟨h, tk, by rw [e]⟩, ?_, by simp [S.len], ?_, S.inj, S.fresh⟩, fun X => ⟨⟨[], by simp⟩, ?_, tup, live, fun _ hq => .inl hq⟩⟩
  · intro b o' e
    refine kb b o' ?_ ?_ (S.keep b o' e)
    · rintro rfl; rw [(S.fresh p hm).1] at e; cases e
    · rintro rfl; rw [(S.fresh p hm).2] at e; cases e
  · intro i x q e1 e2
    by_cases hik : i = k
    · subst hik
      rw [hp] at e2; cases e2
      rw [List.getElem?_set_self (List.getElem?_eq_some_iff.mp hk).1] at e1
      cases e1; exact ob
    · rw [List.getElem?_set_ne (Ne.symm hik)] at e1
      have ne := S.inj i k q p e2 hp hik
      exact (S.obj i x q e1 e2).mono ⟨[], by simp⟩ tup (fun o e => kb _ o ne.1 ne.2.1 e) (fun o e => kb _ o ne.2.2.1 ne.2.2.2 e)
  · intro b o e hq _
    exact kb b o (hq p hm).1 (hq p hm).2 e
end SOk

structure LOk (cx : Cx) (ρ : Pls) (loc : Loc) (L : Addr) (h : Heap) : Prop where
  ns : ∃ m, h.Ns L m ∧ ∀ x v, loc x = some v → ∃ rv, m (Str.ofString x) = some rv ∧ VRel cx.h₀ ρ h v rv
  apart : ∀ p ∈ ρ, L ≠ p.1 ∧ L ≠ p.2
  fresh : cx.h₀.get? L = .none

theorem LOk.post {cx : Cx} {ρ ρ' : Pls} {loc : Loc} {L : Addr} {h h' : Heap} (l : LOk cx ρ loc L h) (P : Post ρ ρ' (fun _ => False) h h') : LOk cx ρ' loc L h' := by
  obtain ⟨⟨m, ⟨o, es, ep, ho, hd, r⟩, hm⟩, ap, fr⟩ := l
  have hL : h'.get? L = some o := P.fr L o ho ap (fun x => x)
  refine ⟨⟨m, ⟨o, es, ep, hL, hd, r⟩, fun x v e => let ⟨rv, a, b⟩ := hm x v e; ⟨rv, a, b.post P⟩⟩, fun p hp => ?_, fr⟩
  rcases P.new p hp with q | ⟨q1, q2⟩
  · exact ap p q
  · exact ⟨fun z => (by rw [← z, ho] at q1; cases q1), fun z => (by rw [← z, ho] at q2; cases q2)⟩

theorem fV {x y : String} (h : Str.ofString x = Str.ofString y) : x = y := by
  rw [Str.ofString_eq_toList, Str.ofString_eq_toList] at h
  have h1 : x.toList.map Char.toNat = y.toList.map Char.toNat := by simpa using congrArg (fun (z : Str) => z.cps.toList) h
  have inj : ∀ a b : Char, a.toNat = b.toNat → a = b := fun a b e => Char.ext (UInt32.toNat_inj.mp e)
  exact String.toList_injective ((List.map_inj_right (fun a b => inj a b)).mp h1)

noncomputable def upd (x : String) (v : MV) (loc : Loc) : Loc := fun y => if y = x then some v else loc y

theorem fb {o : Obj} {es ep} (h : o.data = .dict es ep) : ¬ IsTupO o := by rintro ⟨a, b, rfl⟩; simp [tupO] at h

theorem LOk.set {cx : Cx} {ρ : Pls} {loc : Loc} {L : Addr} {s : Shared} {σ : Sto} (S : SOk cx ρ σ s) (l : LOk cx ρ loc L s.heap) {x : String} {v : MV} {rv : Value} (rx : VRel cx.h₀ ρ s.heap v rv)
    {m : Str → Option Value} (hn : s.heap.Ns L m) (hm : ∀ x v, loc x = some v → ∃ rv, m (Str.ofString x) = some rv ∧ VRel cx.h₀ ρ s.heap v rv) {h : Heap} (tk : Nat)
    (hn' : h.Ns L (fun y => if y = Str.ofString x then some rv else m y)) (sb : Heap.SameBut L s.heap h) :
    SOk cx ρ σ { s with heap := h, toks := tk } ∧ LOk cx ρ (upd x v loc) L h ∧ Post ρ ρ (fun b => b = L) s.heap h := by
  obtain ⟨o, es, ep, ho, hd, _⟩ := id hn
  obtain ⟨o', es', ep', ho', hd', _⟩ := id hn'
  have tup : ∀ b ob, s.heap.get? b = some ob → IsTupO ob → h.get? b = some ob := by
    intro b ob e t
    refine (sb.2 b ?_).trans e
    rintro rfl; rw [ho] at e; cases e; exact fb hd t
  have kb : ∀ b ob, b ≠ L → s.heap.get? b = some ob → h.get? b = some ob := fun b ob hb e => (sb.2 b hb).trans e
  refine ⟨⟨let ⟨_, _, e⟩ := S.same; ⟨h, tk, by rw [e]⟩, fun b ob e => kb b ob (by rintro rfl; rw [l.fresh] at e; cases e) (S.keep b ob e), S.len, fun k ob p e1 e2 => ?_, S.inj, S.fresh⟩, ⟨⟨_, hn', fun y u e => ?_⟩, l.apart, l.fresh⟩, ⟨⟨[], by simp⟩, fun b ob e _ hb => kb b ob hb e, tup, fun b ob e => ?_, fun _ hq => .inl hq⟩⟩
  · have ap := l.apart p (List.mem_of_getElem? e2)
    exact (S.obj k ob p e1 e2).mono ⟨[], by simp⟩ tup (fun o e => kb _ o ap.1.symm e) (fun o e => kb _ o ap.2.symm e)
  · unfold upd at e
    by_cases hy : y = x
    · subst hy; simp at e; subst e; exact ⟨rv, by simp, rx.mono ⟨[], by simp⟩ tup⟩
    · simp only [if_neg hy] at e
      obtain ⟨rv', a, b⟩ := hm y u e
      have hne : ¬ (Str.ofString y = Str.ofString x) := fun z => hy (fV z)
      exact ⟨rv', by simp [hne, a], b.mono ⟨[], by simp⟩ tup⟩
  · by_cases hb : b = L
    · subst hb; exact ⟨_, ho'⟩
    · exact ⟨_, kb b ob hb e⟩

structure AOk (A : Around) (n : Nat) : Prop where
  handled : A.handled = .none
  depth : A.depth + 2 * n + 10 < recursionLimit
  units : A.units + 10 * n + 30 < cLine
theorem AOk.le {A : Around} {n m : Nat} (a : AOk A n) (h : m ≤ n) : AOk A m := ⟨a.handled, by have := a.depth; exact (Z.q (.im (.nle (.v 0) (.v 1)) (.im (.nlt (.a (.a (.v 2) (.m 2 (.v 1))) (.k 10)) (.v 3)) (.nlt (.a (.a (.v 2) (.m 2 (.v 0))) (.k 10)) (.v 3)))) [] [_,_,_,_]) h this, by have := a.units; exact (Z.q (.im (.nle (.v 0) (.v 1)) (.im (.nlt (.a (.a (.v 2) (.m 10 (.v 1))) (.k 30)) (.v 3)) (.nlt (.a (.a (.v 2) (.m 10 (.v 0))) (.k 30)) (.v 3)))) [] [_,_,_,_]) h this⟩

structure EnvOk (env : Env) (sc : Scope) (L : Addr) : Prop where
  isSc : env.scope = sc
  kind : sc.kind = .function
  loc : env.locals = L
  glob : env.globals = mainGlobals
  bi : env.builtins = builtinsNs

noncomputable abbrev EF := Loc → Sto → Option (MV × Sto)
noncomputable abbrev EsF := Loc → Sto → Option (List MV × Sto)
noncomputable abbrev TF := Loc → Sto → Option (Bool × Sto)
set_option genSizeOf false in
inductive Fl where
  | next | ret (v : MV)
noncomputable abbrev SF := Loc → Sto → Option (Fl × Loc × Sto)
noncomputable abbrev FF := List MV → Sto → Option (MV × Sto)

noncomputable def NoE : Value → Shared → Prop := fun _ _ => False
noncomputable def ValAt (cx : Cx) (ρ : Pls) (s : Shared) (v : MV) (σ' : Sto) (rv : Value) (s' : Shared) : Prop :=
  ∃ ρ', SOk cx ρ' σ' s' ∧ Post ρ ρ' (fun _ => False) s.heap s'.heap ∧ VRel cx.h₀ ρ' s'.heap v rv
noncomputable def ValsAt (cx : Cx) (ρ : Pls) (s : Shared) (v : List MV) (σ' : Sto) (rv : List Value) (s' : Shared) : Prop :=
  ∃ ρ', SOk cx ρ' σ' s' ∧ Post ρ ρ' (fun _ => False) s.heap s'.heap ∧ VsRel cx.h₀ ρ' s'.heap v rv

inductive FlRel (h₀ : Heap) (ρ : Pls) (h : Heap) : Fl → Flow → Prop
  | next : FlRel h₀ ρ h .next .next
  | ret {v rv} : VRel h₀ ρ h v rv → FlRel h₀ ρ h (.ret v) (.ret rv)
noncomputable def FlAt (cx : Cx) (ρ : Pls) (L : Addr) (s : Shared) (fl : Fl) (loc' : Loc) (σ' : Sto) (rf : Flow) (s' : Shared) : Prop :=
  ∃ ρ', SOk cx ρ' σ' s' ∧ Post ρ ρ' (fun b => b = L) s.heap s'.heap ∧ LOk cx ρ' loc' L s'.heap ∧ FlRel cx.h₀ ρ' s'.heap fl rf
theorem i8 {α : Type} {M : Model} {A : Around} {E : Value → Shared → Prop} {s : Shared} {t : Sem α} {Q Q' : α → Shared → Prop} (h : wpAny M A t Q NoE s) (hQ : ∀ a s, Q a s → Q' a s) : wpAny M A t Q' E s :=
  wpAny_mono h hQ fun _ _ x => x.elim

theorem aZ {α : Type} {c : Prop} [Decidable c] {a : Option α} {b : α} (h : (if c then a else none) = some b) : c ∧ a = some b := by
  by_cases q : c
  · rw [if_pos q] at h; exact ⟨q, h⟩
  · rw [if_neg q] at h; cases h
section
variable {γ : Type} {r : γ}
theorem m2v {o : Option (MV × Sto)} {F : MV → Sto → Option γ} (h : (match o with | some (a, b) => F a b | none => none) = some r) : ∃ a b, o = some (a, b) ∧ F a b = some r := by
  match o, h with
  | some (a, b), h => exact ⟨a, b, rfl, h⟩
theorem m2l {o : Option (List MV × Sto)} {F : List MV → Sto → Option γ} (h : (match o with | some (a, b) => F a b | none => none) = some r) : ∃ a b, o = some (a, b) ∧ F a b = some r := by
  match o, h with
  | some (a, b), h => exact ⟨a, b, rfl, h⟩
theorem m2b {o : Option (Bool × Sto)} {F : Bool → Sto → Option γ} (h : (match o with | some (a, b) => F a b | none => none) = some r) : ∃ a b, o = some (a, b) ∧ F a b = some r := by
  match o, h with
  | some (a, b), h => exact ⟨a, b, rfl, h⟩
theorem m2o {o : Option (Option Int × Sto)} {F : Option Int → Sto → Option γ} (h : (match o with | some (a, b) => F a b | none => none) = some r) : ∃ a b, o = some (a, b) ∧ F a b = some r := by
  match o, h with
  | some (a, b), h => exact ⟨a, b, rfl, h⟩
theorem m3i {o : Option (Int × Int × Int)} {F : Int → Int → Int → Option γ} (h : (match o with | some (x, y, c) => F x y c | none => none) = some r) : ∃ x y c, o = some (x, y, c) ∧ F x y c = some r := by
  match o, h with
  | some (x, y, c), h => exact ⟨x, y, c, rfl, h⟩
theorem mrf {o : Option (MV × Sto)} {F : Nat → Sto → Option γ} (h : (match o with | some (.ref k, s) => F k s | _ => none) = some r) : ∃ k s, o = some (.ref k, s) ∧ F k s = some r := by
  match o, h with
  | some (.ref k, s), h => exact ⟨k, s, rfl, h⟩
theorem mit {o : Option (MV × Sto)} {F : Int → Sto → Option γ} (h : (match o with | some (.int k, s) => F k s | _ => none) = some r) : ∃ k s, o = some (.int k, s) ∧ F k s = some r := by
  match o, h with
  | some (.int k, s), h => exact ⟨k, s, rfl, h⟩
theorem mbl {o : Option (MV × Sto)} {F : Bool → Sto → Option γ} (h : (match o with | some (.bool k, s) => F k s | _ => none) = some r) : ∃ k s, o = some (.bool k, s) ∧ F k s = some r := by
  match o, h with
  | some (.bool k, s), h => exact ⟨k, s, rfl, h⟩
theorem mis {o : Option MO} {F : Addr → List (String × MV) → Option γ} (h : (match o with | some (.inst C fs) => F C fs | _ => none) = some r) : ∃ C fs, o = some (.inst C fs) ∧ F C fs = some r := by
  match o, h with
  | some (.inst C fs), h => exact ⟨C, fs, rfl, h⟩
theorem mls {o : Option MO} {F : List MV → Option γ} (h : (match o with | some (.list xs) => F xs | _ => none) = some r) : ∃ xs, o = some (.list xs) ∧ F xs = some r := by
  match o, h with
  | some (.list xs), h => exact ⟨xs, rfl, h⟩
theorem mba {o : Option MO} {F : List UInt8 → Option γ} (h : (match o with | some (.ba b) => F b | _ => none) = some r) : ∃ b, o = some (.ba b) ∧ F b = some r := by
  match o, h with
  | some (.ba b), h => exact ⟨b, rfl, h⟩
theorem m1s {o : Option Sto} {F : Sto → Option γ} (h : (match o with | some a => F a | none => none) = some r) : ∃ a, o = some a ∧ F a = some r := by
  match o, h with
  | some a, h => exact ⟨a, rfl, h⟩
theorem m1l {o : Option Loc} {F : Loc → Option γ} (h : (match o with | some a => F a | none => none) = some r) : ∃ a, o = some a ∧ F a = some r := by
  match o, h with
  | some a, h => exact ⟨a, rfl, h⟩
theorem m1v {o : Option MV} {F : MV → Option γ} (h : (match o with | some a => F a | none => none) = some r) : ∃ a, o = some a ∧ F a = some r := by
  match o, h with
  | some a, h => exact ⟨a, rfl, h⟩
theorem m1i {o : Option (List Int)} {F : List Int → Option γ} (h : (match o with | some a => F a | none => none) = some r) : ∃ a, o = some a ∧ F a = some r := by
  match o, h with
  | some a, h => exact ⟨a, rfl, h⟩
theorem m1b {o : Option Bool} {F : Bool → Option γ} (h : (match o with | some a => F a | none => none) = some r) : ∃ a, o = some a ∧ F a = some r := by
  match o, h with
  | some a, h => exact ⟨a, rfl, h⟩
end
section
variable {h₀ h : Heap} {ρ : Pls}
theorem VsRel.nilE {vs : List Value} (r : VsRel h₀ ρ h [] vs) : vs = [] := by cases r; rfl
theorem VsRel.consE {x : MV} {xs : List MV} {vs : List Value} (r : VsRel h₀ ρ h (x :: xs) vs) : ∃ v us, vs = v :: us ∧ VRel h₀ ρ h x v ∧ VsRel h₀ ρ h xs us := by cases r with | cons a b => exact ⟨_, _, rfl, a, b⟩
theorem VsRel.one {x : MV} {vs : List Value} (r : VsRel h₀ ρ h [x] vs) : ∃ v, vs = [v] ∧ VRel h₀ ρ h x v := by
  obtain ⟨v, us, rfl, a, b⟩ := r.consE
  cases b.nilE
  exact ⟨v, rfl, a⟩
theorem VsRel.two {x y : MV} {vs : List Value} (r : VsRel h₀ ρ h [x, y] vs) : ∃ v u, vs = [v, u] ∧ VRel h₀ ρ h x v ∧ VRel h₀ ρ h y u := by
  obtain ⟨v, us, rfl, a, b⟩ := r.consE
  obtain ⟨u, rfl, b1⟩ := b.one
  exact ⟨v, u, rfl, a, b1⟩
theorem VsRel.three {x y z : MV} {vs : List Value} (r : VsRel h₀ ρ h [x, y, z] vs) : ∃ v u w, vs = [v, u, w] ∧ VRel h₀ ρ h x v ∧ VRel h₀ ρ h y u ∧ VRel h₀ ρ h z w := by
  obtain ⟨v, us, rfl, a, b⟩ := r.consE
  obtain ⟨u, w, rfl, b1, c⟩ := b.two
  exact ⟨v, u, w, rfl, a, b1, c⟩
theorem VRel.bytesE {b : List UInt8} {v : Value} (r : VRel h₀ ρ h (.bytes b) v) : ∃ t, v = .bytes b.toArray t := by cases r; exact ⟨_, rfl⟩
theorem VRel.intE {i : Int} {v : Value} (r : VRel h₀ ρ h (.int i) v) : ∃ t, v = .int i t := by cases r; exact ⟨_, rfl⟩
theorem VRel.boolE {b : Bool} {v : Value} (r : VRel h₀ ρ h (.bool b) v) : ∃ _ : Unit, v = .bool b := by cases r; exact ⟨(), rfl⟩
theorem VRel.noneE {v : Value} (r : VRel h₀ ρ h .none v) : ∃ _ : Unit, v = .none := by cases r; exact ⟨(), rfl⟩
end
section
variable {γ : Type} {r : γ}
noncomputable def a1 (args : List MV) (F : MV → Option γ) : Option γ := match args with | [x] => F x | _ => none
noncomputable def a2 (args : List MV) (F : MV → MV → Option γ) : Option γ := match args with | [x, y] => F x y | _ => none
noncomputable def a3 (args : List MV) (F : MV → MV → MV → Option γ) : Option γ := match args with | [x, y, z] => F x y z | _ => none
theorem a1E {args : List MV} {F : MV → Option γ} (h : a1 args F = some r) : ∃ x, args = [x] ∧ F x = some r := by
  cases args with
  | nil => cases h
  | cons x s => cases s with
    | nil => exact ⟨x, rfl, h⟩
    | cons _ _ => cases h
theorem a2E {args : List MV} {F : MV → MV → Option γ} (h : a2 args F = some r) : ∃ x y, args = [x, y] ∧ F x y = some r := by
  cases args with
  | nil => cases h
  | cons x s => cases s with
    | nil => cases h
    | cons y s => cases s with
      | nil => exact ⟨x, y, rfl, h⟩
      | cons _ _ => cases h
theorem a3E {args : List MV} {F : MV → MV → MV → Option γ} (h : a3 args F = some r) : ∃ x y z, args = [x, y, z] ∧ F x y z = some r := by
  cases args with
  | nil => cases h
  | cons x s => cases s with
    | nil => cases h
    | cons y s => cases s with
      | nil => cases h
      | cons z s => cases s with
        | nil => exact ⟨x, y, z, rfl, h⟩
        | cons _ _ => cases h
noncomputable def eRef (v : MV) (F : Nat → Option γ) (e : Option γ) : Option γ := match v with | .ref k => F k | _ => e
noncomputable def eInt (v : MV) (F : Int → Option γ) (e : Option γ) : Option γ := match v with | .int k => F k | _ => e
noncomputable def eBytes (v : MV) (F : List UInt8 → Option γ) (e : Option γ) : Option γ := match v with | .bytes k => F k | _ => e
noncomputable def eTupl (v : MV) (F : List MV → Option γ) (e : Option γ) : Option γ := match v with | .tup k => F k | _ => e
noncomputable def eFroz (v : MV) (F : List MV → Option γ) (e : Option γ) : Option γ := match v with | .froz k => F k | _ => e
noncomputable def eBool (v : MV) (F : Bool → Option γ) (e : Option γ) : Option γ := match v with | .bool k => F k | _ => e
noncomputable def eLst (o : Option MO) (F : List MV → Option γ) (e : Option γ) : Option γ := match o with | some (.list xs) => F xs | _ => e
noncomputable def eBa (o : Option MO) (F : List UInt8 → Option γ) (e : Option γ) : Option γ := match o with | some (.ba b) => F b | _ => e
variable {e : Option γ}
theorem eRefE {v : MV} {F : Nat → Option γ} (h : eRef v F e = some r) : (∃ k, v = .ref k ∧ F k = some r) ∨ e = some r := by cases v <;> first | exact .inl ⟨_, rfl, h⟩ | exact .inr h
theorem eIntE {v : MV} {F : Int → Option γ} (h : eInt v F e = some r) : (∃ k, v = .int k ∧ F k = some r) ∨ e = some r := by cases v <;> first | exact .inl ⟨_, rfl, h⟩ | exact .inr h
theorem eBytesE {v : MV} {F : List UInt8 → Option γ} (h : eBytes v F e = some r) : (∃ k, v = .bytes k ∧ F k = some r) ∨ e = some r := by cases v <;> first | exact .inl ⟨_, rfl, h⟩ | exact .inr h
theorem eTuplE {v : MV} {F : List MV → Option γ} (h : eTupl v F e = some r) : (∃ k, v = .tup k ∧ F k = some r) ∨ e = some r := by cases v <;> first | exact .inl ⟨_, rfl, h⟩ | exact .inr h
theorem eFrozE {v : MV} {F : List MV → Option γ} (h : eFroz v F e = some r) : (∃ k, v = .froz k ∧ F k = some r) ∨ e = some r := by cases v <;> first | exact .inl ⟨_, rfl, h⟩ | exact .inr h
theorem eBoolE {v : MV} {F : Bool → Option γ} (h : eBool v F e = some r) : (∃ k, v = .bool k ∧ F k = some r) ∨ e = some r := by cases v <;> first | exact .inl ⟨_, rfl, h⟩ | exact .inr h
theorem eLstE {o : Option MO} {F : List MV → Option γ} (h : eLst o F e = some r) : (∃ k, o = some (.list k) ∧ F k = some r) ∨ e = some r := by
  cases o with
  | none => exact .inr h
  | some v => cases v <;> first | exact .inl ⟨_, rfl, h⟩ | exact .inr h
theorem eBaE {o : Option MO} {F : List UInt8 → Option γ} (h : eBa o F e = some r) : (∃ k, o = some (.ba k) ∧ F k = some r) ∨ e = some r := by
  cases o with
  | none => exact .inr h
  | some v => cases v <;> first | exact .inl ⟨_, rfl, h⟩ | exact .inr h
theorem gS {P : Prop} {a : γ} (h : (none : Option γ) = some a) : P := by cases h
theorem dRefE {v : MV} {F : Nat → Option γ} (h : eRef v F none = some r) : ∃ k, v = .ref k ∧ F k = some r := (eRefE h).elim id gS
theorem dIntE {v : MV} {F : Int → Option γ} (h : eInt v F none = some r) : ∃ k, v = .int k ∧ F k = some r := (eIntE h).elim id gS
theorem dTuplE {v : MV} {F : List MV → Option γ} (h : eTupl v F none = some r) : ∃ k, v = .tup k ∧ F k = some r := (eTuplE h).elim id gS
theorem dBoolE {v : MV} {F : Bool → Option γ} (h : eBool v F none = some r) : ∃ k, v = .bool k ∧ F k = some r := (eBoolE h).elim id gS
theorem dLstE {o : Option MO} {F : List MV → Option γ} (h : eLst o F none = some r) : ∃ k, o = some (.list k) ∧ F k = some r := (eLstE h).elim id gS
theorem dBaE {o : Option MO} {F : List UInt8 → Option γ} (h : eBa o F none = some r) : ∃ k, o = some (.ba k) ∧ F k = some r := (eBaE h).elim id gS
end
end Mine

end
section
open PySem PySem.W PySem.Calls PyProof.Rows
open Sem (wp)
namespace Mine

noncomputable def decOk : Code → Bool
  | .builtin id _ => !Builtin.Bytes.decodersThatHold.contains id && !(["bytearray.__contains__", "bytearray.__mod__", "bytearray.__rmod__", "_struct.pack_into.held", "bytearray.find.held"] : List String).contains id
  | _ => true

structure GoodB (Γ : PySem.Ctx) (n : Nat) : Prop where
  handled : Γ.handled = .none
  depth : frameCount Γ.below + 2 * n + 10 < recursionLimit
  units : unitsOf Γ.below + 10 * n + 30 < cLine
  dec : ∀ x ∈ Γ.below, decOk x.1 = true
structure Good (Γ : PySem.Ctx) (n : Nat) : Prop where
  handled : Γ.handled = .none
  depth : frameCount Γ.below + Γ.code.weight + 2 * n + 10 < recursionLimit
  units : Γ.units + 10 * n + 30 < cLine
  dec : ∀ x ∈ Γ.below, decOk x.1 = true
  own : decOk Γ.code = true
theorem GoodB.le {Γ : PySem.Ctx} {n m : Nat} (g : GoodB Γ n) (h : m ≤ n) : GoodB Γ m := ⟨g.handled, by have := g.depth; exact (Z.q (.im (.nle (.v 0) (.v 1)) (.im (.nlt (.a (.a (.v 2) (.m 2 (.v 1))) (.k 10)) (.v 3)) (.nlt (.a (.a (.v 2) (.m 2 (.v 0))) (.k 10)) (.v 3)))) [] [_,_,_,_]) h this, by have := g.units; exact (Z.q (.im (.nle (.v 0) (.v 1)) (.im (.nlt (.a (.a (.v 2) (.m 10 (.v 1))) (.k 30)) (.v 3)) (.nlt (.a (.a (.v 2) (.m 10 (.v 0))) (.k 30)) (.v 3)))) [] [_,_,_,_]) h this, g.dec⟩

variable {α β : Type} {M : Model} {n m : Nat} {s : Shared}

structure wpN (M : Model) (n : Nat) (t : Sem α) (Q : α → Shared → Prop) (s : Shared) : Prop where
  go : ∀ Γ p, Good Γ n → wp M Γ t (fun a _ s' => Q a s') (fun _ _ _ => False) p s
structure codeN (M : Model) (n : Nat) (c : Code) (R : Result → Shared → Prop) (s : Shared) : Prop where
  go : ∀ Γ p, Γ.code = c → GoodB Γ n → wpCode M Γ R p s

noncomputable def around (Γ : PySem.Ctx) : Around := { handled := Γ.handled, depth := frameCount Γ.below + Γ.code.weight, frames := none, guards := none, units := Γ.units }
theorem ml (Γ : PySem.Ctx) : Γ.In (around Γ) := ⟨rfl, Nat.le_refl _, (fun _ h => nomatch h), (fun _ h => nomatch h), Nat.le_refl _⟩
theorem Good.around {Γ : PySem.Ctx} {n : Nat} (g : Good Γ n) : AOk (around Γ) n := ⟨g.handled, g.depth, g.units⟩
noncomputable def aroundB (Γ : PySem.Ctx) : Around := { handled := Γ.handled, depth := frameCount Γ.below, frames := none, guards := none, units := unitsOf Γ.below }
theorem kQ (Γ : PySem.Ctx) : Γ.Below (aroundB Γ) := ⟨rfl, Nat.le_refl _, (fun _ h => nomatch h), (fun _ h => nomatch h), Nat.le_refl _⟩
theorem GoodB.around {Γ : PySem.Ctx} {n : Nat} (g : GoodB Γ n) : AOk (aroundB Γ) n := ⟨g.handled, g.depth, g.units⟩

theorem aG {t : Sem α} {Q : α → Shared → Prop} (h : ∀ A, AOk A n → wpAny M A t Q NoE s) : wpN M n t Q s := ⟨fun Γ p g => h _ g.around Γ p (ml Γ)⟩
theorem js {c : Code} {R : Result → Shared → Prop} (h : ∀ A, AOk A n → codeAny M A c R s) : codeN M n c R s := ⟨fun Γ p hc g => h _ g.around Γ p hc (kQ Γ)⟩
theorem jD {c : Code} {R : Result → Shared → Prop} (h : codeN M m c R s) (l : m ≤ n) : codeN M n c R s := ⟨fun Γ p hc g => h.go Γ p hc (g.le l)⟩

theorem aF {a : α} {Q : α → Shared → Prop} (h : Q a s) : wpN M n (pure a) Q s := ⟨fun _ _ _ => h⟩
theorem aE {t : Sem α} {Q Q' : α → Shared → Prop} (h : wpN M n t Q s) (hQ : ∀ a s', Q a s' → Q' a s') : wpN M n t Q' s :=
  ⟨fun Γ p g => Sem.wp_mono M Γ t (fun a _ s' => hQ a s') (fun _ _ _ x => x) p s (h.go Γ p g)⟩
theorem a9 {t : Sem α} {f : α → Sem β} {Q : β → Shared → Prop} (h : wpN M n t (fun a s' => wpN M n (f a) Q s') s) : wpN M n (t >>= f) Q s := .mk fun Γ p g => by
  rw [Sem.wp_bind']
  exact Sem.wp_mono M Γ t (fun a p' s' h' => h'.go Γ p' g) (fun _ _ _ x => x) p s (h.go Γ p g)
theorem aI {vs : List Value} {t : Sem α} {Q : α → Shared → Prop} (h : wpN M n t Q s) : wpN M n (holding vs t) Q s := .mk fun Γ p g => by rw [Sem.wp_holding]; exact h.go Γ p g
theorem lR {vs : List Value} {t : Sem α} {Q : α → Shared → Prop} (h : wpN M n t Q s) : wpN M n (t.keep vs) Q s := .mk fun Γ p g => by rw [Sem.wp_keep]; exact h.go Γ p g
theorem aH {pos : Pos} {Q : Unit → Shared → Prop} (h : Q () s) : wpN M n (standAt pos) Q s := ⟨fun _ _ _ => h⟩
theorem dy {tag : String} {Q : Unit → Shared → Prop} (h : Q () s) : wpN M n (rule tag) Q s := ⟨fun _ _ _ => h⟩
theorem f9 {Q : Unit → Shared → Prop} (h : Q () s) : wpN M n point Q s := ⟨fun _ _ _ => h⟩
theorem dW {vs : List Value} {t : Sem Value} {Q : Value → Shared → Prop} (h : wpN M n t Q s) : wpN M n (operate vs t) Q s := .mk fun Γ p g => by rw [Sem.wp_operate]; exact h.go Γ p g
theorem gG {vs keep : List Value} {Q : Unit → Shared → Prop} (h : Q () s) : wpN M n (release vs keep) Q s := .mk fun Γ p g => by rw [Sem.wp_release]; exact h
theorem bm {t : Sem α} {k : Value → Sem Unit} {Q : α → Shared → Prop} (h : wpN M n t Q s) : wpN M n (t.onRaise k) Q s := .mk fun Γ p g => by
  rw [Sem.wp_onRaise]; exact Sem.wp_mono M Γ t (fun _ _ _ x => x) (fun _ _ _ x => x.elim) p s (h.go Γ p g)
theorem gB {t : Sem α} {Q : Except Value α → Shared → Prop} (h : wpN M n t (fun a => Q (.ok a)) s) : wpN M n t.attempt Q s := .mk fun Γ p g => by
  rw [Sem.wp_attempt]; exact Sem.wp_mono M Γ t (fun _ _ _ x => x) (fun _ _ _ x => x.elim) p s (h.go Γ p g)
theorem fx {a : Addr} {o : Obj} {Q : Obj → Shared → Prop} (ho : s.heap.get? a = some o) (h : Q o s) : wpN M n (load a) Q s := aG fun A _ => wpAny_load ho h
theorem bj {t : Sem α} {a : α} {Q : α → Shared → Prop} (e : t = pure a) (h : Q a s) : wpN M n t Q s := e ▸ aF h
theorem gF {t u : Sem α} {c : Bool} {Q : α → Shared → Prop} (e : c = true) (h : wpN M n t Q s) : wpN M n (if c = true then t else u) Q s := by rw [if_pos e]; exact h
theorem ah {t u : Sem α} {c : Bool} {Q : α → Shared → Prop} (e : c = false) (h : wpN M n u Q s) : wpN M n (if c = true then t else u) Q s := by rw [if_neg (by rw [e]; exact Bool.false_ne_true)]; exact h

theorem dN {c : Code} {R R' : Result → Shared → Prop} (h : codeN M n c R s) (hR : ∀ r s', R r s' → R' r s') : codeN M n c R' s := ⟨fun Γ p hc g => wpCode_mono hR (h.go Γ p hc g)⟩

theorem Good.enter {Γ : PySem.Ctx} {n : Nat} (g : Good Γ n) (c : Code) (p : Pos) : GoodB (Γ.enter c none p) n where
  handled := by show markOver none Γ.handled Γ.past = none; exact g.handled
  depth := by show frameCount ((Γ.code, p) :: Γ.below) + _ + _ < _; rw [frameCount_cons]; have := g.depth; exact (Z.q (.im (.nlt (.a (.a (.a (.v 0) (.v 1)) (.m 2 (.v 2))) (.k 10)) (.v 3)) (.nlt (.a (.a (.a (.v 1) (.v 0)) (.m 2 (.v 2))) (.k 10)) (.v 3))) [] [_,_,_,_]) this
  units := by show unitsOf ((Γ.code, p) :: Γ.below) + _ + _ < _; rw [unitsOf_cons]; exact g.units
  dec := by
    intro x hx
    rcases List.mem_cons.mp hx with rfl | hx
    · exact g.own
    · exact g.dec x hx
theorem mZ {c : Code} {Q : Flow → Shared → Prop} (h : codeN M n c (fun r s' => ∃ f, r = .ok f ∧ Q f s') s) : wpN M n (run c) Q s := .mk fun Γ p g => by
  rw [Sem.wp_run]
  refine wpCode_mono (fun r s' z => ?_) (h.go _ p rfl (g.enter c p))
  obtain ⟨f, rfl, hf⟩ := z
  exact hf
theorem kW {c : Code} {Q : Value → Shared → Prop} (h : codeN M n c (fun r s' => ∃ v, r = .ok (.ret v) ∧ Q v s') s) : wpN M n (runValue c) Q s := .mk fun Γ p g => by
  rw [Sem.wp_runValue]
  refine wpCode_mono (fun r s' z => ?_) (h.go _ p rfl (g.enter c p))
  obtain ⟨v, rfl, hf⟩ := z
  exact hf
theorem cy {f : Value} {pos : List Value} {kw : List (Str × Value)} {Q : Value → Shared → Prop} (h : codeN M n (.call f ⟨pos, kw⟩) (fun r s' => ∃ v, r = .ok (.ret v) ∧ Q v s') s) : wpN M n (call f pos kw) Q s := kW h
theorem gz {c : Code} {env : Env} {Q : Flow → Shared → Prop} (h : codeN M n c (fun r s' => ∃ f, r = .ok f ∧ Q f s') s) : wpN M n (runOwn c env) Q s := by
  unfold runOwn; exact bm (mZ h)

theorem bf {c : Code} {R : Result → Shared → Prop} (hw : c.weight ≤ 2) (hu : c.cUnits ≤ 10) (hd : decOk c = true)
    (h : wpN M n (M.den c) (fun fin s' => match fin with | .done f => R (.ok f) s' | .again c' => c'.quiet = true ∧ codeN M (n + 1) c' R s') s) : codeN M (n + 1) c R s := .mk fun Γ p hc g => by
  have g' : Good Γ n := ⟨g.handled, by have := g.depth; rw [hc]; exact (Z.q (.im (.nle (.v 0) (.k 2)) (.im (.nlt (.a (.a (.v 1) (.m 2 (.a (.v 2) (.k 1)))) (.k 10)) (.v 3)) (.nlt (.a (.a (.a (.v 1) (.v 0)) (.m 2 (.v 2))) (.k 10)) (.v 3)))) [] [_,_,_,_]) hw this, by have := g.units; show Γ.code.cUnits + unitsOf Γ.below + _ + _ < _; rw [hc]; exact (Z.q (.im (.nle (.v 0) (.k 10)) (.im (.nlt (.a (.a (.v 1) (.m 10 (.a (.v 2) (.k 1)))) (.k 30)) (.v 3)) (.nlt (.a (.a (.a (.v 0) (.v 1)) (.m 10 (.v 2))) (.k 30)) (.v 3)))) [] [_,_,_,_]) hu this, g.dec, by rw [hc]; exact hd⟩
  rw [wpCode_iff_wp, hc]
  refine Sem.wp_mono M Γ _ (fun fin p' s' h' => ?_) (fun _ _ _ x => x.elim) p s (h.go Γ p g')
  cases fin with
  | done f => exact h'
  | again c' => exact ⟨h'.1, h'.2.go (Γ.goto c') p' rfl ⟨g.handled, g.depth, g.units, g.dec⟩⟩
theorem c7 {c : Code} {R : Result → Shared → Prop} (hw : c.weight = 0) (hu : c.cUnits = 0) (hd : decOk c = true)
    (h : wpN M n (M.den c) (fun fin s' => match fin with | .done f => R (.ok f) s' | .again c' => c'.quiet = true ∧ codeN M n c' R s') s) : codeN M n c R s := .mk fun Γ p hc g => by
  have g' : Good Γ n := ⟨g.handled, by have := g.depth; rw [hc]; exact (Z.q (.im (.neq (.v 0) (.k 0)) (.im (.nlt (.a (.a (.v 1) (.m 2 (.v 2))) (.k 10)) (.v 3)) (.nlt (.a (.a (.a (.v 1) (.v 0)) (.m 2 (.v 2))) (.k 10)) (.v 3)))) [] [_,_,_,_]) hw this, by have := g.units; show Γ.code.cUnits + unitsOf Γ.below + _ + _ < _; rw [hc]; exact (Z.q (.im (.neq (.v 0) (.k 0)) (.im (.nlt (.a (.a (.v 1) (.m 10 (.v 2))) (.k 30)) (.v 3)) (.nlt (.a (.a (.a (.v 0) (.v 1)) (.m 10 (.v 2))) (.k 30)) (.v 3)))) [] [_,_,_,_]) hu this, g.dec, by rw [hc]; exact hd⟩
  rw [wpCode_iff_wp, hc]
  refine Sem.wp_mono M Γ _ (fun fin p' s' h' => ?_) (fun _ _ _ x => x.elim) p s (h.go Γ p g')
  cases fin with
  | done f => exact h'
  | again c' => exact ⟨h'.1, h'.2.go (Γ.goto c') p' rfl ⟨g.handled, g.depth, g.units, g.dec⟩⟩
end Mine

end
section
open PySem PySem.W PySem.Calls PyProof.Rows
namespace Mine

noncomputable abbrev Cx.M (cx : Cx) : Model := model cx.prog cx.w
noncomputable def DenE (cx : Cx) (sc : Scope) (n : Nat) (e : Expr) (f : EF) : Prop :=
  ∀ env L ρ σ loc s v σ', EnvOk env sc L → SOk cx ρ σ s → LOk cx ρ loc L s.heap → f loc σ = some (v, σ') → wpN cx.M n (eval e env) (ValAt cx ρ s v σ') s
noncomputable def DenEs (cx : Cx) (sc : Scope) (n : Nat) (es : List Expr) (f : EsF) : Prop :=
  (∀ env pos, (backTo pos (starEach es env)).any (·.1) = false) ∧ ∀ env L ρ σ loc s v σ' pos, EnvOk env sc L → SOk cx ρ σ s → LOk cx ρ loc L s.heap → f loc σ = some (v, σ') →
    wpN cx.M n (spliced (backTo pos (starEach es env))) (ValsAt cx ρ s v σ') s
noncomputable def DenT (cx : Cx) (sc : Scope) (n : Nat) (e : Expr) (f : TF) : Prop :=
  ∀ env L ρ σ loc s b σ', EnvOk env sc L → SOk cx ρ σ s → LOk cx ρ loc L s.heap → f loc σ = some (b, σ') →
    wpN cx.M n (isTrue e env (eval e env)) (fun rb s' => rb = b ∧ ∃ ρ', SOk cx ρ' σ' s' ∧ Post ρ ρ' (fun _ => False) s.heap s'.heap) s
noncomputable def DenS1 (cx : Cx) (sc : Scope) (n : Nat) (st : Stmt) (f : SF) : Prop :=
  ∀ env L ρ σ loc s fl loc' σ', EnvOk env sc L → SOk cx ρ σ s → LOk cx ρ loc L s.heap → f loc σ = some (fl, loc', σ') → wpN cx.M n (exec st env) (FlAt cx ρ L s fl loc' σ') s
noncomputable def DenS (cx : Cx) (sc : Scope) (n : Nat) (sts : List Stmt) (f : SF) : Prop :=
  ∀ env L ρ σ loc s fl loc' σ', EnvOk env sc L → SOk cx ρ σ s → LOk cx ρ loc L s.heap → f loc σ = some (fl, loc', σ') → wpN cx.M n (execs sts env) (FlAt cx ρ L s fl loc' σ') s
noncomputable def DenF (cx : Cx) (n : Nat) (f : Value) (g : FF) : Prop :=
  ∀ ρ σ s args vs v σ', SOk cx ρ σ s → VsRel cx.h₀ ρ s.heap args vs → g args σ = some (v, σ') →
    codeN cx.M n (.call f ⟨vs, []⟩) (fun r s' => ∃ rv, r = .ok (.ret rv) ∧ ValAt cx ρ s v σ' rv s') s

variable {cx : Cx} {sc : Scope} {n : Nat}

noncomputable def eN (x : String) : EF := fun loc σ => match loc x with | some v => some (v, σ) | none => none
noncomputable def eK (v : MV) : EF := fun _ σ => some (v, σ)

theorem ValAt.here {ρ : Pls} {σ : Sto} {s : Shared} {v : MV} {rv : Value} (S : SOk cx ρ σ s) (r : VRel cx.h₀ ρ s.heap v rv) : ValAt cx ρ s v σ rv s := ⟨ρ, S, .refl .., r⟩
theorem ValAt.tok {ρ : Pls} {σ : Sto} {s : Shared} {v : MV} {rv : Value} (S : SOk cx ρ σ s) (tk : Nat) (r : VRel cx.h₀ ρ s.heap v rv) : ValAt cx ρ s v σ rv { s with toks := tk } := ⟨ρ, S.tok tk, .refl .., r⟩
theorem ValAt.kept {ρ : Pls} {σ : Sto} {s : Shared} {h : Heap} {v : MV} {rv : Value} (S : SOk cx ρ σ s) (tk : Nat) (k : ∀ b o, s.heap.get? b = some o → h.get? b = some o) (r : VRel cx.h₀ ρ h v rv) : ValAt cx ρ s v σ rv { s with heap := h, toks := tk } :=
  ⟨ρ, S.kept tk k, .of_keep _ _ k, r⟩
theorem ValAt.after {ρ ρ' : Pls} {σ : Sto} {s s' s'' : Shared} {v : MV} {rv : Value} (P : Post ρ ρ' (fun _ => False) s.heap s'.heap) (x : ValAt cx ρ' s' v σ rv s'') : ValAt cx ρ s v σ rv s'' :=
  let ⟨ρ₂, a, b, c⟩ := x; ⟨ρ₂, a, P.trans b, c⟩

theorem a7 {x : String} {pos : Pos} (hl : sc.names.lookup (Str.ofString x) = some .local) (hd : (Str.ofString x == ("__debug__" : Str)) = false) :
    DenE cx sc n (.Name (Str.ofString x) pos) (eN x) := by
  intro env L ρ σ loc s v σ' eo S l hf
  obtain ⟨rfl, hk, rfl, _, _⟩ := eo
  unfold eN at hf
  first | have hf := mls hf | have hf := mba hf | have hf := m1s hf | have hf := m1l hf | have hf := m1v hf | have hf := m1o hf | have hf := m1i hf | have hf := m1b hf
  obtain ⟨u, hu, hf⟩ := hf
  cases hf
  obtain ⟨m, hn, hm⟩ := l.ns
  obtain ⟨rv, e1, r⟩ := hm x _ hu
  exact aG fun A _ => wpAny_Name (wpAny_loadName_local hk hl hn e1 (.here S r)) hd

theorem gQ {env : Env} {L : Addr} {ρ : Pls} {σ : Sto} {s : Shared} {x : Str} {pos : Pos} {v : Value} {Q : Value → Shared → Prop}
    (eo : EnvOk env sc L) (S : SOk cx ρ σ s) (e : nsIn cx.K mainGlobals x = some (some v)) (hl : sc.names.lookup x = some .globalImplicit) (hd : (x == ("__debug__" : Str)) = false)
    (h : Q v s) : wpN cx.M n (eval (.Name x pos) env) Q s := by
  obtain ⟨rfl, hk, rfl, hg, _⟩ := eo
  exact aG fun A _ => Name_function_global hk hl (loadGlobal_global (hg ▸ S.TK.g) (mg_of S.XK S.TK.g e) h) hd
theorem iT {env : Env} {L : Addr} {ρ : Pls} {σ : Sto} {s : Shared} {x : Str} {pos : Pos} {v : Value} {Q : Value → Shared → Prop}
    (eo : EnvOk env sc L) (S : SOk cx ρ σ s) (e : nsIn cx.K mainGlobals x = some none) (hb : bootBuiltins x = some v) (hn : x ≠ "__name__") (hl : sc.names.lookup x = some .globalImplicit) (hd : (x == ("__debug__" : Str)) = false)
    (h : Q v s) : wpN cx.M n (eval (.Name x pos) env) Q s := by
  obtain ⟨rfl, hk, rfl, hg, hbi⟩ := eo
  exact aG fun A _ => Name_function_global hk hl (loadGlobal_builtin (hg ▸ S.TK.g) (mg_none_of S.XK S.TK.g e) (hbi ▸ S.TK.b) ((S.TK.builtins x hn).trans hb) h) hd

theorem aU {x : String} {pos : Pos} {i : Int} {t : Tok} (e : nsIn cx.K mainGlobals (Str.ofString x) = some (some (.int i t))) (hl : sc.names.lookup (Str.ofString x) = some .globalImplicit) (hd : (Str.ofString x == ("__debug__" : Str)) = false) :
    DenE cx sc n (.Name (Str.ofString x) pos) (eK (.int i)) := by
  intro env L ρ σ loc s v σ' eo S l hf
  cases hf
  exact gQ eo S e hl hd (.here S (.int _ _))

theorem aB {i : Int} {k : Nat} {pos : Pos} : DenE cx sc n (.Constant (.int i) k pos) (eK (.int i)) := by
  intro env L ρ σ loc s v σ' eo S l hf
  cases hf
  exact aG fun A _ => wpAny_Constant_int (.tok S _ (.int _ _))
theorem pL {x : Str} {k : Nat} {pos : Pos} : DenE cx sc n (.Constant (.str x) k pos) (eK (.str x)) := by
  intro env L ρ σ loc s v σ' eo S l hf
  cases hf
  exact aG fun A _ => Constant_str (.tok S _ (.str _ _))
theorem k3 {x : List UInt8} {k : Nat} {pos : Pos} : DenE cx sc n (.Constant (.bytes x) k pos) (eK (.bytes x)) := by
  intro env L ρ σ loc s v σ' eo S l hf
  cases hf
  exact aG fun A _ => Constant_bytes (.tok S _ (.bytes _ _))
theorem f4 {b : Bool} {k : Nat} {pos : Pos} : DenE cx sc n (.Constant (.bool b) k pos) (eK (.bool b)) := by
  intro env L ρ σ loc s v σ' eo S l hf
  cases hf
  rw [eval_Constant]
  exact aF (.here S (.bool _))
theorem oE {k : Nat} {pos : Pos} : DenE cx sc n (.Constant .none k pos) (eK .none) := by
  intro env L ρ σ loc s v σ' eo S l hf
  cases hf
  rw [eval_Constant]
  exact aF (.here S .none)

noncomputable abbrev Op2 := MV → MV → Sto → Option (MV × Sto)
noncomputable def eOp2 (op : Op2) (a b : EF) : EF := fun loc σ => match a loc σ with
  | some (x, σ1) => (match b loc σ1 with | some (y, σ2) => op x y σ2 | none => none)
  | none => none
noncomputable def Op2Ok (cx : Cx) (op : Op2) (t : Value → Value → Sem Value) : Prop :=
  ∀ A ρ σ s x y z σ' rx ry, AOk A 0 → SOk cx ρ σ s → VRel cx.h₀ ρ s.heap x rx → VRel cx.h₀ ρ s.heap y ry → op x y σ = some (z, σ') → wpAny (model cx.prog cx.w) A (t rx ry) (ValAt cx ρ s z σ') NoE s

theorem gv {op : Op2} {a b : EF} {loc : Loc} {σ σ' : Sto} {z : MV} (h : eOp2 op a b loc σ = some (z, σ')) :
    ∃ x σ1 y σ2, a loc σ = some (x, σ1) ∧ b loc σ1 = some (y, σ2) ∧ op x y σ2 = some (z, σ') := by
  unfold eOp2 at h
  first | have h := m2v h | have h := mrf h | have h := m2l h | have h := m2b h | have h := mit h | have h := mbl h | have h := m2o h | have h := mis h
  obtain ⟨x, σ1, e1, h⟩ := h
  first | have h := m2v h | have h := mrf h | have h := m2l h | have h := m2b h | have h := mit h | have h := mbl h | have h := m2o h | have h := mis h
  obtain ⟨y, σ2, e2, h⟩ := h
  exact ⟨x, σ1, y, σ2, e1, e2, h⟩

theorem kF {env : Env} {L : Addr} {ρ : Pls} {σ σ' : Sto} {loc : Loc} {s : Shared} {z : MV} {l r : Expr} {a b : EF} {op : Op2} {t : Value → Value → Sem Value}
    (ha : DenE cx sc n l a) (hb : DenE cx sc n r b) (ho : Op2Ok cx op t) (eo : EnvOk env sc L) (S : SOk cx ρ σ s) (lo : LOk cx ρ loc L s.heap) (hf : eOp2 op a b loc σ = some (z, σ')) :
    wpN cx.M n (eval l env) (fun u s₁ => wpN cx.M n (eval r env) (fun v s₂ => wpN cx.M n (t u v) (ValAt cx ρ s z σ') s₂) s₁) s := by
  obtain ⟨x, σ1, y, σ2, e1, e2, e3⟩ := gv hf
  refine aE (ha env L ρ σ loc s x σ1 eo S lo e1) fun u s₁ h₁ => ?_
  obtain ⟨ρ₁, S₁, P₁, r₁⟩ := h₁
  refine aE (hb env L ρ₁ σ1 loc s₁ y σ2 eo S₁ (lo.post P₁) e2) fun v s₂ h₂ => ?_
  obtain ⟨ρ₂, S₂, P₂, r₂⟩ := h₂
  exact aG fun A ao => i8 (ho A ρ₂ σ2 s₂ x y z σ' u v (ao.le (Nat.zero_le _)) S₂ (r₁.post P₂) r₂ e3) fun w s₃ h₃ => .after (P₁.trans P₂) h₃

theorem aD {l r : Expr} {o : Operator} {pos : Pos} {a b : EF} {op : Op2} (ha : DenE cx sc n l a) (hb : DenE cx sc n r b) (ho : Op2Ok cx op (binaryOp o)) : DenE cx sc n (.BinOp l o r pos) (eOp2 op a b) := by
  intro env L ρ σ loc s v σ' eo S lo hf
  rw [eval_BinOp]
  exact a9 (aE (kF ha hb ho eo S lo hf) fun u s₁ h₁ => a9 (aI (aE h₁ fun v s₂ h₂ => a9 (aH (dW h₂)))))
theorem fE {l r : Expr} {o : CmpOp} {pos : Pos} {a b : EF} {op : Op2} (ha : DenE cx sc n l a) (hb : DenE cx sc n r b) (ho : Op2Ok cx op (compareOp o)) (hm : behindInMarks o r = false) : DenE cx sc n (.Compare l [o] [r] pos) (eOp2 op a b) := by
  intro env L ρ σ loc s v σ' eo S lo hf
  rw [eval_Compare1, markedBehindIn_of_false hm]
  exact a9 (aE (kF ha hb ho eo S lo hf) fun u s₁ h₁ => a9 (aI (aE h₁ fun v s₂ h₂ => a9 (aH (dW h₂)))))

noncomputable def tOf (f : EF) : TF := fun loc σ => match f loc σ with | some (.bool b, σ1) => some (b, σ1) | _ => none
theorem k5 {f : EF} {loc : Loc} {σ σ' : Sto} {b : Bool} (h : tOf f loc σ = some (b, σ')) : f loc σ = some (.bool b, σ') := by
  unfold tOf at h
  first | have h := m2v h | have h := mrf h | have h := m2l h | have h := m2b h | have h := mit h | have h := mbl h | have h := m2o h | have h := mis h
  obtain ⟨b', σ1, e, h⟩ := h
  cases h; exact e
theorem aL {l r : Expr} {o : CmpOp} {pos : Pos} {a b : EF} {op : Op2} (ha : DenE cx sc n l a) (hb : DenE cx sc n r b) (ho : Op2Ok cx op (compareOp o)) (hm : behindInMarks o r = false) : DenT cx sc n (.Compare l [o] [r] pos) (tOf (eOp2 op a b)) := by
  intro env L ρ σ loc s v σ' eo S lo hf
  rw [isTrue_Compare1, markedBehindIn_of_false hm]
  refine a9 (aE (kF ha hb ho eo S lo (k5 hf)) fun u s₁ h₁ => a9 (aI (aE h₁ fun v s₂ h₂ => a9 (aH (a9 (dW (aE h₂ fun c s₃ h₃ => ?_)))))))
  obtain ⟨ρ₃, S₃, P₃, r₃⟩ := h₃
  first | have r₃ := r₃.intE | have r₃ := r₃.bytesE | have r₃ := r₃.boolE | have r₃ := r₃.noneE | have r₃ := r₃.strE
  obtain ⟨_, rfl⟩ := r₃
  exact aG fun A _ => wpAny_holding (wpAny_truthy_bool ⟨rfl, ρ₃, S₃, P₃⟩)
noncomputable def tNot (f : TF) : TF := fun loc σ => match f loc σ with | some (b, σ1) => some (!b, σ1) | none => none
theorem f6 {x : Expr} {pos : Pos} {f : TF} (h : DenT cx sc n x f) : DenT cx sc n (.UnaryOp .Not x pos) (tNot f) := by
  intro env L ρ σ loc s v σ' eo S lo hf
  unfold tNot at hf
  first | have hf := m2v hf | have hf := mrf hf | have hf := m2l hf | have hf := m2b hf | have hf := mit hf | have hf := mbl hf | have hf := m2o hf | have hf := mis hf
  obtain ⟨b, σ1, e, hf⟩ := hf
  cases hf
  rw [arm_isTrue_UnaryOp]
  exact a9 (aE (h env L ρ σ loc s b _ eo S lo e) fun b' s₁ h₁ => aF ⟨by rw [h₁.1], h₁.2⟩)
theorem dx {x : Expr} {f : EF} (h : DenE cx sc n x f) (he : ∀ env whole, isTrue x env whole = (do let c ← whole; standAt x.pos; holding [c] (truthy c))) : DenT cx sc n x (tOf f) := by
  intro env L ρ σ loc s v σ' eo S lo hf
  rw [he]
  refine a9 (aE (h env L ρ σ loc s _ _ eo S lo (k5 hf)) fun c s₃ h₃ => a9 (aH ?_))
  obtain ⟨ρ₃, S₃, P₃, r₃⟩ := h₃
  first | have r₃ := r₃.intE | have r₃ := r₃.bytesE | have r₃ := r₃.boolE | have r₃ := r₃.noneE | have r₃ := r₃.strE
  obtain ⟨_, rfl⟩ := r₃
  exact aG fun A _ => wpAny_holding (wpAny_truthy_bool ⟨rfl, ρ₃, S₃, P₃⟩)

noncomputable def sNil : SF := fun loc σ => some (.next, loc, σ)
noncomputable def sSeq (f g : SF) : SF := fun loc σ => match f loc σ with | some (.next, loc1, σ1) => g loc1 σ1 | r => r
theorem FlAt.here {ρ : Pls} {L : Addr} {s : Shared} {loc : Loc} {σ : Sto} (S : SOk cx ρ σ s) (lo : LOk cx ρ loc L s.heap) : FlAt cx ρ L s .next loc σ .next s := ⟨ρ, S, .refl .., lo, .next⟩
theorem FlAt.after {ρ ρ' : Pls} {L : Addr} {s s' s'' : Shared} {fl : Fl} {loc : Loc} {σ : Sto} {rf : Flow} (P : Post ρ ρ' (fun b => b = L) s.heap s'.heap) (x : FlAt cx ρ' L s' fl loc σ rf s'') : FlAt cx ρ L s fl loc σ rf s'' :=
  let ⟨ρ₂, a, b, c, d⟩ := x; ⟨ρ₂, a, P.trans b, c, d⟩

theorem aC : DenS cx sc n [] sNil := by
  intro env L ρ σ loc s fl loc' σ' eo S lo hf
  cases hf
  rw [execs_nil]
  exact aF (.here S lo)
theorem aA {st : Stmt} {rest : List Stmt} {f g : SF} (h1 : DenS1 cx sc n st f) (h2 : DenS cx sc n rest g) : DenS cx sc n (st :: rest) (sSeq f g) := by
  intro env L ρ σ loc s fl loc' σ' eo S lo hf
  rw [execs_cons]
  unfold sSeq at hf
  split at hf
  · rename_i loc1 σ1 e
    refine a9 (aE (h1 env L ρ σ loc s _ loc1 σ1 eo S lo e) fun rf s₁ h₁ => ?_)
    obtain ⟨ρ₁, S₁, P₁, l₁, fr⟩ := h₁
    cases fr
    exact aE (h2 env L ρ₁ σ1 loc1 s₁ fl loc' σ' eo S₁ l₁ hf) fun rf' s₂ h₂ => .after P₁ h₂
  · rename_i r hne
    refine a9 (aE (h1 env L ρ σ loc s _ loc' σ' eo S lo hf) fun rf s₁ h₁ => ?_)
    obtain ⟨ρ₁, S₁, P₁, l₁, fr⟩ := h₁
    cases fr with
    | next => exact absurd hf (hne _ _)
    | ret r => exact aF ⟨ρ₁, S₁, P₁, l₁, .ret r⟩

noncomputable def sRet (f : EF) : SF := fun loc σ => match f loc σ with | some (v, σ1) => some (.ret v, loc, σ1) | none => none
theorem Post.toL {ρ ρ' : Pls} {L : Addr} {h h' : Heap} (P : Post ρ ρ' (fun _ => False) h h') : Post ρ ρ' (fun b => b = L) h h' := P.weaken fun _ x => x.elim
theorem aR {e : Expr} {pos : Pos} {f : EF} (h : DenE cx sc n e f) : DenS1 cx sc n (.Return (some e) pos) (sRet f) := by
  intro env L ρ σ loc s fl loc' σ' eo S lo hf
  unfold sRet at hf
  first | have hf := m2v hf | have hf := mrf hf | have hf := m2l hf | have hf := m2b hf | have hf := mit hf | have hf := mbl hf | have hf := m2o hf | have hf := mis hf
  obtain ⟨v, σ1, e1, hf⟩ := hf
  cases hf
  rw [exec_Return_some]
  refine a9 (aH (a9 (aE (h env L ρ σ loc s v _ eo S lo e1) fun rv s₁ h₁ => ?_)))
  obtain ⟨ρ₁, S₁, P₁, r₁⟩ := h₁
  exact aF ⟨ρ₁, S₁, P₁.toL, lo.post P₁, .ret r₁⟩
noncomputable def sRet0 : SF := fun loc σ => some (.ret .none, loc, σ)
theorem nU {pos : Pos} : DenS1 cx sc n (.Return none pos) sRet0 := by
  intro env L ρ σ loc s fl loc' σ' eo S lo hf
  cases hf
  rw [exec_Return_none]
  exact a9 (aH (aF ⟨ρ, S, .refl .., lo, .ret .none⟩))

noncomputable def sIf (t : TF) (f g : SF) : SF := fun loc σ => match t loc σ with | some (true, σ1) => f loc σ1 | some (false, σ1) => g loc σ1 | none => none
theorem aX {t : Expr} {b c : List Stmt} {pos : Pos} {ft : TF} {f g : SF} (ht : DenT cx sc n t ft) (hb : DenS cx sc n b f) (hc : DenS cx sc n c g) : DenS1 cx sc n (.If t b c pos) (sIf ft f g) := by
  intro env L ρ σ loc s fl loc' σ' eo S lo hf
  have run : ∀ bb σ1, ft loc σ = some (bb, σ1) → (if bb then f loc σ1 else g loc σ1) = some (fl, loc', σ') → wpN cx.M n (exec (.If t b c pos) env) (FlAt cx ρ L s fl loc' σ') s := by
    intro bb σ1 e1 e2
    rw [exec_If]
    refine a9 (aH (a9 (aE (ht env L ρ σ loc s bb σ1 eo S lo e1) fun b' s₁ h₁ => ?_)))
    obtain ⟨rfl, ρ₁, S₁, P₁⟩ := h₁
    cases b' with
    | true => exact aE (hb env L ρ₁ σ1 loc s₁ fl loc' σ' eo S₁ (lo.post P₁) e2) fun rf' s₂ h₂ => .after P₁.toL h₂
    | false => exact aE (hc env L ρ₁ σ1 loc s₁ fl loc' σ' eo S₁ (lo.post P₁) e2) fun rf' s₂ h₂ => .after P₁.toL h₂
  unfold sIf at hf
  split at hf
  · rename_i σ1 e; exact run true σ1 e hf
  · rename_i σ1 e; exact run false σ1 e hf
  · cases hf

theorem eJ {env : Env} {L : Addr} {ρ ρ₀ : Pls} {σ : Sto} {loc : Loc} {s s₀ : Shared} {x : String} {v : MV} {rv : Value} (eo : EnvOk env sc L) (S : SOk cx ρ σ s) (lo : LOk cx ρ loc L s.heap) (r : VRel cx.h₀ ρ s.heap v rv)
    (P : Post ρ₀ ρ (fun b => b = L) s₀.heap s.heap) (hl : sc.names.lookup (Str.ofString x) = some .local) {Q : Unit → Shared → Prop}
    (h : ∀ s', FlAt cx ρ₀ L s₀ .next (upd x v loc) σ .next s' → Q () s') : wpN cx.M n (bindName env (Str.ofString x) rv) Q s := by
  obtain ⟨rfl, hk, rfl, hg, _⟩ := eo
  obtain ⟨m, hn, hm⟩ := id lo.ns
  refine aG fun A _ => wpAny_bindName (wpAny_storeName_local hl hn (fun h' hn' hs' => ?_) (by rw [hk]; rfl))
  obtain ⟨a, b, c⟩ := LOk.set S lo r hn hm (s.toks + 1) hn' hs'
  exact h _ ⟨ρ, a, P.trans c, b, .next⟩
noncomputable def sSet (x : String) (f : EF) : SF := fun loc σ => match f loc σ with | some (v, σ1) => some (.next, upd x v loc, σ1) | none => none
theorem aJ {x : String} {e : Expr} {p1 pos : Pos} {f : EF} (h : DenE cx sc n e f) (hl : sc.names.lookup (Str.ofString x) = some .local)
    (hs : ∀ env : Env, swapsWith e (some (.Name (Str.ofString x) p1)) pos.line env = pure false) : DenS1 cx sc n (.Assign [.Name (Str.ofString x) p1] e pos) (sSet x f) := by
  intro env L ρ σ loc s fl loc' σ' eo S lo hf
  unfold sSet at hf
  first | have hf := m2v hf | have hf := mrf hf | have hf := m2l hf | have hf := m2b hf | have hf := mit hf | have hf := mbl hf | have hf := m2o hf | have hf := mis hf
  obtain ⟨v, σ1, e1, hf⟩ := hf
  cases hf
  rw [exec_Assign_Name env _ p1 e pos (hs env)]
  refine a9 (aH (a9 (aE (h env L ρ σ loc s v _ eo S lo e1) fun rv s₁ h₁ => a9 (aH (a9 ?_)))))
  obtain ⟨ρ₁, S₁, P₁, r₁⟩ := h₁
  exact eJ eo S₁ (lo.post P₁) r₁ P₁.toL hl fun s' q => aF q
noncomputable def sAug (x : String) (op : Op2) (f : EF) : SF := fun loc σ => match eOp2 op (eN x) f loc σ with | some (v, σ1) => some (.next, upd x v loc, σ1) | none => none
theorem i9 {x : String} {o : Operator} {e : Expr} {p1 pos : Pos} {f : EF} {op : Op2} (h : DenE cx sc n e f) (ho : Op2Ok cx op (inplaceOp o)) (hl : sc.names.lookup (Str.ofString x) = some .local) : DenS1 cx sc n (.AugAssign (.Name (Str.ofString x) p1) o e pos) (sAug x op f) := by
  intro env L ρ σ loc s fl loc' σ' eo S lo hf
  unfold sAug at hf
  first | have hf := m2v hf | have hf := mrf hf | have hf := m2l hf | have hf := m2b hf | have hf := mit hf | have hf := mbl hf | have hf := m2o hf | have hf := mis hf
  obtain ⟨v, σ1, e1, hf⟩ := hf
  cases hf
  obtain ⟨a, σ2, b, σ3, e2, e3, e4⟩ := gv e1
  unfold eN at e2
  first | have e2 := mls e2 | have e2 := mba e2 | have e2 := m1s e2 | have e2 := m1l e2 | have e2 := m1v e2 | have e2 := m1o e2 | have e2 := m1i e2 | have e2 := m1b e2
  obtain ⟨u, hu, e2⟩ := e2
  cases e2
  rw [exec_AugAssign_Name]
  obtain ⟨m, hn, hm⟩ := lo.ns
  obtain ⟨rv, k1, r⟩ := hm x _ hu
  have eo' := eo
  obtain ⟨rfl, hk, rfl, _, _⟩ := eo'
  refine a9 (aH (a9 (aG fun A _ => wpAny_loadName_local hk hl hn k1 ?_)))
  refine a9 (aI (aE (h env _ ρ _ loc s b σ3 eo S lo e3) fun w s₁ h₁ => a9 (aH (a9 (dW ?_)))))
  obtain ⟨ρ₁, S₁, P₁, r₁⟩ := h₁
  refine aG fun A ao => i8 (ho A ρ₁ _ s₁ a b v _ rv w (ao.le (Nat.zero_le _)) S₁ (r.post P₁) r₁ e4) fun q s₂ h₂ => a9 (aH (a9 ?_))
  obtain ⟨ρ₂, S₂, P₂, r₂⟩ := h₂
  exact eJ eo S₂ (lo.post (P₁.trans P₂)) r₂ (P₁.trans P₂).toL hl fun s' q => aF q

noncomputable def iOp (f : Int → Int → Int) : Op2 := fun x y σ => match x, y with | .int a, .int b => some (.int (f a b), σ) | _, _ => none
noncomputable def iCmp (f : Int → Int → Bool) : Op2 := fun x y σ => match x, y with | .int a, .int b => some (.bool (f a b), σ) | _, _ => none
theorem mH {t : Value → Value → Sem Value} {f : Int → Int → Int} (h : ∀ (A : Around) (a b : Int) (t' u : Tok) (s : Shared) (Q : Value → Shared → Prop), AOk A 0 → Q (.int (f a b) s.toks) { s with toks := s.toks + 1 } → wpAny (model cx.prog cx.w) A (t (.int a t') (.int b u)) Q NoE s) :
    Op2Ok cx (iOp f) t := by
  intro A ρ σ s x y z σ' rx ry ao S r1 r2 hf
  unfold iOp at hf
  split at hf
  · cases hf
    first | have r1 := r1.intE | have r1 := r1.bytesE | have r1 := r1.boolE | have r1 := r1.noneE | have r1 := r1.strE
    obtain ⟨_, rfl⟩ := r1
    first | have r2 := r2.intE | have r2 := r2.bytesE | have r2 := r2.boolE | have r2 := r2.noneE | have r2 := r2.strE
    obtain ⟨_, rfl⟩ := r2
    exact h A _ _ _ _ s _ ao (.tok S _ (.int _ _))
  · cases hf
theorem jA {o : CmpOp} {f : Int → Int → Bool} (h : ∀ (A : Around) (a b : Int) (t u : Tok) (s : Shared) (Q : Value → Shared → Prop), AOk A 0 → Q (.bool (f a b)) s → wpAny (model cx.prog cx.w) A (compareOp o (.int a t) (.int b u)) Q NoE s) :
    Op2Ok cx (iCmp f) (compareOp o) := by
  intro A ρ σ s x y z σ' rx ry ao S r1 r2 hf
  unfold iCmp at hf
  split at hf
  · cases hf
    first | have r1 := r1.intE | have r1 := r1.bytesE | have r1 := r1.boolE | have r1 := r1.noneE | have r1 := r1.strE
    obtain ⟨_, rfl⟩ := r1
    first | have r2 := r2.intE | have r2 := r2.bytesE | have r2 := r2.boolE | have r2 := r2.noneE | have r2 := r2.strE
    obtain ⟨_, rfl⟩ := r2
    exact h A _ _ _ _ s _ ao (.here S (.bool _))
  · cases hf
noncomputable def oSub : Op2 := iOp (· - ·)
theorem ag : Op2Ok cx oSub (binaryOp .Sub) := mH fun A a b t u s Q _ h => P.sub_int h
noncomputable def oLt : Op2 := iCmp fun a b => decide (a < b)
theorem be : Op2Ok cx oLt (compareOp .Lt) := jA fun A a b t u s Q _ h => P.lt_int h
noncomputable def oLe : Op2 := iCmp fun a b => decide (a ≤ b)
theorem mM : Op2Ok cx oLe (compareOp .LtE) := jA fun A a b t u s Q _ h => P.le_int h
noncomputable def oGt : Op2 := iCmp fun a b => decide (a > b)
theorem d5 : Op2Ok cx oGt (compareOp .Gt) := jA fun A a b t u s Q _ h => P.gt_int h
noncomputable def oGe : Op2 := iCmp fun a b => decide (a ≥ b)
theorem fU : Op2Ok cx oGe (compareOp .GtE) := jA fun A a b t u s Q _ h => P.ge_int h
end Mine

end
section
open PySem PySem.W PySem.Calls PyProof.Rows
namespace Mine
variable {cx : Cx} {sc : Scope} {n : Nat}

noncomputable def big : Nat := 100000

noncomputable def oAdd : Op2 := fun x y σ => match x, y with
  | .int a, .int b => some (.int (a + b), σ)
  | .bytes a, .bytes b => if a.length + b.length ≤ big then some (.bytes (a ++ b), σ) else none
  | .ref i, .ref j => (match σ[i]?, σ[j]? with
    | some (.list a), some (.list b) => if a.length + b.length ≤ big then some (.ref σ.length, σ ++ [.list (a ++ b)]) else none
    | _, _ => none)
  | _, _ => none

theorem listAt {ρ : Pls} {σ : Sto} {s : Shared} (S : SOk cx ρ σ s) {k : Nat} {rv : Value} {xs : List MV} (r : VRel cx.h₀ ρ s.heap (.ref k) rv) (hk : σ[k]? = some (.list xs)) :
    ∃ p vs m, rv = .ref p.1 ∧ ρ[k]? = some p ∧ p.2 = p.1 ∧ s.heap.get? p.1 = some (listO vs m) ∧ VsRel cx.h₀ ρ s.heap xs vs := by
  obtain ⟨p, rfl, hp, e0, vs, m, e1, e2⟩ := S.refAt r hk
  exact ⟨p, vs, m, rfl, hp, e0, e1, e2⟩
theorem baAt {ρ : Pls} {σ : Sto} {s : Shared} (S : SOk cx ρ σ s) {k : Nat} {rv : Value} {b : List UInt8} (r : VRel cx.h₀ ρ s.heap (.ref k) rv) (hk : σ[k]? = some (.ba b)) :
    ∃ p, rv = .ref p.1 ∧ ρ[k]? = some p ∧ p.2 = p.1 ∧ s.heap.get? p.1 = some (baO b) := by
  obtain ⟨p, rfl, hp, e0, e1⟩ := S.refAt r hk
  exact ⟨p, rfl, hp, e0, e1⟩
theorem ValAt.newList {ρ : Pls} {σ : Sto} {s : Shared} (S : SOk cx ρ σ s) {xs : List MV} {vs : List Value} {m : Nat} (tk : Nat) (r : VsRel cx.h₀ ρ s.heap xs vs) :
    ValAt cx ρ s (.ref σ.length) (σ ++ [.list xs]) (.ref s.heap.objs.size) { s with heap := s.heap.push (listO vs m), toks := tk } := by
  obtain ⟨a, b⟩ := S.pushList (n := m) tk r
  exact ⟨_, a, b _, .ref (p := (s.heap.objs.size, s.heap.objs.size)) (by rw [← S.len]; simp)⟩

theorem aM : Op2Ok cx oAdd (binaryOp .Add) := by
  intro A ρ σ s x y z σ' rx ry ao S r1 r2 hf
  unfold oAdd at hf
  split at hf
  · cases hf
    first | have r1 := r1.intE | have r1 := r1.bytesE | have r1 := r1.boolE | have r1 := r1.noneE | have r1 := r1.strE
    obtain ⟨_, rfl⟩ := r1
    first | have r2 := r2.intE | have r2 := r2.bytesE | have r2 := r2.boolE | have r2 := r2.noneE | have r2 := r2.strE
    obtain ⟨_, rfl⟩ := r2
    exact P.add_int (.tok S _ (.int _ _))
  · split at hf
    · rename_i hz
      cases hf
      first | have r1 := r1.intE | have r1 := r1.bytesE | have r1 := r1.boolE | have r1 := r1.noneE | have r1 := r1.strE
      obtain ⟨_, rfl⟩ := r1
      first | have r2 := r2.intE | have r2 := r2.bytesE | have r2 := r2.boolE | have r2 := r2.noneE | have r2 := r2.strE
      obtain ⟨_, rfl⟩ := r2
      refine KBy.add_bytes (by simp; unfold big at hz; exact (Z.q (.im (.nle (.a (.v 0) (.v 1)) (.k 100000)) (.nle (.a (.v 0) (.v 1)) (.k 16777216))) [] [_,_]) hz) fun t' k => ?_
      rw [List.append_toArray]
      exact .tok S _ (.bytes _ _)
    · cases hf
  · rename_i i j
    split at hf
    · rename_i a b e1 e2
      first | have hf := aZ hf
      obtain ⟨hz, hf⟩ := hf
      cases hf
      obtain ⟨p, vs, m, rfl, hp, _, o1, q1⟩ := listAt S r1 e1
      obtain ⟨q, us, l, rfl, hq, _, o2, q2⟩ := listAt S r2 e2
      refine P.add_list o1 o2 ?_ (by simp [q1.length, q2.length, sizeLine_eq]; unfold big at hz; exact (Z.q (.im (.nle (.a (.v 0) (.v 1)) (.k 100000)) (.nle (.a (.v 0) (.v 1)) (.k 16777216))) [] [_,_]) hz)
      rw [List.append_toArray]
      exact .newList (m := 0) S s.toks (q1.append q2)
    · cases hf
  · cases hf

noncomputable def small64 (i : Int) : Bool := decide (-(2 ^ 64) < i) && decide (i < 2 ^ 64)
noncomputable def oMul : Op2 := fun x y σ => match x, y with
  | .int a, .int b => if small64 a || small64 b then some (.int (a * b), σ) else none
  | .ref i, .int k => (match σ[i]? with
    | some (.list [v]) => if 0 ≤ k ∧ k ≤ 100000 then some (.ref σ.length, σ ++ [.list (List.replicate k.toNat v)]) else none
    | _ => none)
  | _, _ => none
theorem lW (v : Value) : ∀ (k : Nat) (acc : Array Value), List.foldl (fun x1 x2 => x1 ++ x2) acc (List.replicate k #[v]) = acc ++ (List.replicate k v).toArray
  | 0, acc => by simp
  | k + 1, acc => by
    rw [List.replicate_succ, List.foldl_cons, lW v k, List.replicate_succ]
    apply Array.toList_inj.mp; simp
theorem VsRel.replicate {h₀ h : Heap} {ρ : Pls} {x : MV} {v : Value} (r : VRel h₀ ρ h x v) : ∀ k, VsRel h₀ ρ h (List.replicate k x) (List.replicate k v)
  | 0 => .nil
  | k + 1 => .cons r (replicate r k)
theorem bI : Op2Ok cx oMul (binaryOp .Mult) := by
  intro A ρ σ s x y z σ' rx ry ao S r1 r2 hf
  unfold oMul at hf
  split at hf
  · split at hf
    · rename_i a b hz
      cases hf
      first | have r1 := r1.intE | have r1 := r1.bytesE | have r1 := r1.boolE | have r1 := r1.noneE | have r1 := r1.strE
      obtain ⟨_, rfl⟩ := r1
      first | have r2 := r2.intE | have r2 := r2.bytesE | have r2 := r2.boolE | have r2 := r2.noneE | have r2 := r2.strE
      obtain ⟨_, rfl⟩ := r2
      refine P.mul_int (.tok S _ (.int _ _)) ?_
      rcases Bool.or_eq_true_iff.mp hz with q | q
      · simp only [small64, Bool.and_eq_true, decide_eq_true_eq] at q
        exact .of_left (intBits_le_64 q.1 q.2)
      · simp only [small64, Bool.and_eq_true, decide_eq_true_eq] at q
        exact .of_right (intBits_le_64 q.1 q.2)
    · cases hf
  · rename_i i k
    split at hf
    · rename_i v e1
      first | have hf := aZ hf
      obtain ⟨hz, hf⟩ := hf
      cases hf
      obtain ⟨p, vs, m, rfl, hp, _, o1, q1⟩ := listAt S r1 e1
      first | have r2 := r2.intE | have r2 := r2.bytesE | have r2 := r2.boolE | have r2 := r2.noneE | have r2 := r2.strE
      obtain ⟨_, rfl⟩ := r2
      cases q1 with
      | cons rv rn =>
        cases rn
        rename_i w
        refine wpAny_binaryOp_repeat_ref (T := "list") (U := "int") (by decide) ⟨_, o1, rfl⟩ (fun s' => typeIs_int s' _ _) noFill_list_mul PySem.F.fills_int_mul PySem.F.slot_int_rmul repeat_list PySem.F.slot_int_index.lookup
          (call_meets PySem.F.slot_int_rmul (typeIs_int s _ _) PySem.F.entry_int_rmul (PySem.F.args_int_rmul_2 _ _) (int___rmul___int_list _ _ p.1 #[w] m)
            ⟨o1, rfl, ⟨_, o1, rfl⟩, call_meets PySem.F.slot_list_mul ⟨_, o1, rfl⟩ PySem.F.entry_list_mul (PySem.F.args_list_mul_2 _ _)
              (AutoListH.list___mul___list_int_3 p.1 #[w] m _ _ (by simp [Builtin.List.listFitsIndex]; exact (Z.q (.im (.le (.k 0) (.v 0)) (.im (.le (.v 0) (.k 100000)) (.an (.le (.k (-9223372036854775808)) (.v 0)) (.lt (.v 0) (.k 9223372036854775808))))) [_] []) hz.1 hz.2) (by simp; exact (Z.q (.im (.le (.v 0) (.k 100000)) (.le (.v 0) (.k 1152921504606846975))) [_] []) hz.2) (by simp [Builtin.List.listTooLong, sizeLine]; exact (Z.q (.im (.le (.v 0) (.k 100000)) (.le (.v 0) (.k 16777216))) [_] []) hz.2))
              ⟨o1, ?_⟩⟩)
        have e : (if (#[w] : Array Value).isEmpty = true then 0 else k.toNat) = k.toNat := by simp
        rw [e, lW]
        simp only [Array.empty_append]
        exact .newList (m := 0) S s.toks (.replicate rv _)
    · cases hf
  · cases hf

noncomputable def oDiv : Op2 := fun x y σ => match x, y with | .int a, .int b => if 0 < b ∧ b < 1073741824 then some (.int (a / b), σ) else none | _, _ => none
theorem fL : Op2Ok cx oDiv (binaryOp .FloorDiv) := by
  intro A ρ σ s x y z σ' rx ry ao S r1 r2 hf
  unfold oDiv at hf
  split at hf
  · split at hf
    · rename_i a b hz
      cases hf
      first | have r1 := r1.intE | have r1 := r1.bytesE | have r1 := r1.boolE | have r1 := r1.noneE | have r1 := r1.strE
      obtain ⟨_, rfl⟩ := r1
      first | have r2 := r2.intE | have r2 := r2.bytesE | have r2 := r2.boolE | have r2 := r2.noneE | have r2 := r2.strE
      obtain ⟨_, rfl⟩ := r2
      refine floordiv_int (by exact (Z.q (.im (.lt (.k 0) (.v 0)) (.no (.eq (.v 0) (.k 0)))) [_] []) hz.1) ?_ (Or.inl (PyProof.noPylong_small (Int.ofNat_lt.mp (by rw [Int.natAbs_of_nonneg (Int.le_of_lt hz.1)]; exact hz.2))))
      rw [Int.fdiv_eq_ediv_of_nonneg _ (by exact (Z.q (.im (.lt (.k 0) (.v 0)) (.le (.k 0) (.v 0))) [_] []) hz.1)]
      exact .tok S _ (.int _ _)
    · cases hf
  · cases hf
noncomputable def oMod : Op2 := fun x y σ => match x, y with | .int a, .int b => if 0 < b then some (.int (a % b), σ) else none | _, _ => none
theorem dP : Op2Ok cx oMod (binaryOp .Mod) := by
  intro A ρ σ s x y z σ' rx ry ao S r1 r2 hf
  unfold oMod at hf
  split at hf
  · split at hf
    · rename_i a b hz
      cases hf
      first | have r1 := r1.intE | have r1 := r1.bytesE | have r1 := r1.boolE | have r1 := r1.noneE | have r1 := r1.strE
      obtain ⟨_, rfl⟩ := r1
      first | have r2 := r2.intE | have r2 := r2.bytesE | have r2 := r2.boolE | have r2 := r2.noneE | have r2 := r2.strE
      obtain ⟨_, rfl⟩ := r2
      refine mod_int' (by exact (Z.q (.im (.lt (.k 0) (.v 0)) (.no (.eq (.v 0) (.k 0)))) [_] []) hz) ?_
      rw [Int.fmod_eq_emod_of_nonneg _ (by exact (Z.q (.im (.lt (.k 0) (.v 0)) (.le (.k 0) (.v 0))) [_] []) hz)]
      exact .tok S _ (.int _ _)
    · cases hf
  · cases hf
noncomputable def shr (a k : Int) : Int := a / 2 ^ k.toNat
theorem nr (a : Int) (k : Nat) : a.fdiv (2 ^ k) = a / 2 ^ k := Int.fdiv_eq_ediv_of_nonneg _ (Int.le_of_lt (Int.pow_pos (by decide)))
noncomputable def oShr : Op2 := fun x y σ => match x, y with | .int a, .int k => if 0 ≤ k then some (.int (shr a k), σ) else none | _, _ => none
theorem iH : Op2Ok cx oShr (inplaceOp .RShift) := by
  intro A ρ σ s x y z σ' rx ry ao S r1 r2 hf
  unfold oShr at hf
  split at hf
  · split at hf
    · cases hf
      first | have r1 := r1.intE | have r1 := r1.bytesE | have r1 := r1.boolE | have r1 := r1.noneE | have r1 := r1.strE
      obtain ⟨_, rfl⟩ := r1
      first | have r2 := r2.intE | have r2 := r2.bytesE | have r2 := r2.boolE | have r2 := r2.noneE | have r2 := r2.strE
      obtain ⟨_, rfl⟩ := r2
      refine irshift_int (by exact (Z.q (.im (.le (.k 0) (.v 0)) (.le (.k 0) (.v 0))) [_] []) (by assumption)) ?_
      rw [nr]
      exact .tok S _ (.int _ _)
    · cases hf
  · cases hf
noncomputable def oAddI : Op2 := iOp (· + ·)
theorem nO : Op2Ok cx oAddI (inplaceOp .Add) := by
  intro A ρ σ s x y z σ' rx ry ao S r1 r2 hf
  unfold oAddI iOp at hf
  split at hf
  · cases hf
    first | have r1 := r1.intE | have r1 := r1.bytesE | have r1 := r1.boolE | have r1 := r1.noneE | have r1 := r1.strE
    obtain ⟨_, rfl⟩ := r1
    first | have r2 := r2.intE | have r2 := r2.bytesE | have r2 := r2.boolE | have r2 := r2.noneE | have r2 := r2.strE
    obtain ⟨_, rfl⟩ := r2
    exact P.iadd_int (.tok S _ (.int _ _))
  · cases hf
noncomputable def oShl : Op2 := fun x y σ => match x, y with | .int a, .int k => if 0 ≤ k ∧ k < 100 ∧ Builtin.Int.intBits a < 1000 then some (.int (a * 2 ^ k.toNat), σ) else none | _, _ => none
theorem mP : Op2Ok cx oShl (binaryOp .LShift) := by
  intro A ρ σ s x y z σ' rx ry ao S r1 r2 hf
  unfold oShl at hf
  split at hf
  · split at hf
    · rename_i hz
      cases hf
      first | have r1 := r1.intE | have r1 := r1.bytesE | have r1 := r1.boolE | have r1 := r1.noneE | have r1 := r1.strE
      obtain ⟨_, rfl⟩ := r1
      first | have r2 := r2.intE | have r2 := r2.bytesE | have r2 := r2.boolE | have r2 := r2.noneE | have r2 := r2.strE
      obtain ⟨_, rfl⟩ := r2
      exact lshift_int (by exact (Z.q (.im (.le (.k 0) (.v 0)) (.le (.k 0) (.v 0))) [_] []) hz.1) (by exact (Z.q (.im (.lt (.v 0) (.k 100)) (.im (.nlt (.v 0) (.k 1000)) (.le (.a (.c (.v 0)) (.v 0)) (.k (2 ^ 27))))) [_] [_]) hz.2.1 hz.2.2) (.tok S _ (.int _ _))
    · cases hf
  · cases hf
noncomputable def oPow : Op2 := fun x y σ => match x, y with | .int a, .int k => if 0 ≤ k ∧ k < 1000 ∧ Builtin.Int.intBits a < 1000 then some (.int (a ^ k.toNat), σ) else none | _, _ => none
theorem mV : Op2Ok cx oPow (binaryOp .Pow) := by
  intro A ρ σ s x y z σ' rx ry ao S r1 r2 hf
  unfold oPow at hf
  split at hf
  · rename_i a k
    first | have hf := aZ hf
    obtain ⟨hz, hf⟩ := hf
    cases hf
    first | have r1 := r1.intE | have r1 := r1.bytesE | have r1 := r1.boolE | have r1 := r1.noneE | have r1 := r1.strE
    obtain ⟨_, rfl⟩ := r1
    first | have r2 := r2.intE | have r2 := r2.bytesE | have r2 := r2.boolE | have r2 := r2.noneE | have r2 := r2.strE
    obtain ⟨_, rfl⟩ := r2
    refine pow_int (by exact (Z.q (.im (.le (.k 0) (.v 0)) (.le (.k 0) (.v 0))) [_] []) hz.1) ?_ (.tok S _ (.int _ _))
    have h1 : (Builtin.Int.intBits a : Int) * k ≤ 1000 * 1000 := Int.mul_le_mul (by exact (Z.q (.im (.nlt (.v 0) (.k 1000)) (.le (.c (.v 0)) (.k 1000))) [] [_]) hz.2.2) (by exact (Z.q (.im (.lt (.v 0) (.k 1000)) (.le (.v 0) (.k 1000))) [_] []) hz.2.1) (by exact (Z.q (.im (.le (.k 0) (.v 0)) (.le (.k 0) (.v 0))) [_] []) hz.1) (by decide)
    exact (Z.q (.im (.le (.v 0) (.m 1000 (.k 1000))) (.le (.v 0) (.k (2 ^ 27)))) [_] []) h1
  · cases hf
noncomputable def oAnd : Op2 := iOp Builtin.bitAnd
theorem hY : Op2Ok cx oAnd (binaryOp .BitAnd) := mH fun A a b t u s Q _ h => and_int h
noncomputable def oOr : Op2 := iOp Builtin.bitOr
theorem kv : Op2Ok cx oOr (binaryOp .BitOr) := mH fun A a b t u s Q _ h => or_int h

noncomputable def eqV : MV → MV → Option Bool
  | .int a, .int b => some (decide (a = b))
  | .bytes a, .bytes b => some (decide (a = b))
  | _, _ => none
noncomputable def eqL : List MV → List MV → Option Bool
  | [], [] => some true
  | x :: xs, y :: ys => (match eqV x y, eqL xs ys with | some a, some b => some (a && b) | _, _ => none)
  | [], _ :: _ => some false
  | _ :: _, [] => some false

end Mine

end
section
open PySem PySem.W PySem.Calls PyProof.Rows
open Sem (wp)
namespace Mine
variable {cx : Cx} {sc : Scope} {n : Nat}

noncomputable def bindL : Loc → List String → List MV → Loc
  | loc, x :: xs, v :: vs => bindL (upd x v loc) xs vs
  | loc, _, _ => loc
noncomputable def fnF (names : List String) (sf : SF) : FF := fun args σ => if args.length = names.length then
    (match sf (bindL (fun _ => none) names args) σ with
     | some (.ret v, _, σ') => some (v, σ')
     | some (.next, _, σ') => some (.none, σ')
     | none => none) else none

theorem lj {h₀ h : Heap} {ρ : Pls} : ∀ (names : List String) (args : List MV) (vals : List Value) (loc : Loc) (done : List (Str × Value)),
    VsRel h₀ ρ h args vals → (∀ x v, loc x = some v → ∃ rv, done.reverse.lookup (Str.ofString x) = some rv ∧ VRel h₀ ρ h v rv) →
    ∀ x v, bindL loc names args x = some v → ∃ rv, (done ++ (names.map Str.ofString).zip vals).reverse.lookup (Str.ofString x) = some rv ∧ VRel h₀ ρ h v rv
  | [], args, vals, loc, done, r, hd, x, v, e => by simpa [bindL] using hd x v e
  | y :: ys, [], vals, loc, done, r, hd, x, v, e => by
    cases r
    simpa [bindL] using hd x v e
  | y :: ys, a :: as, vals, loc, done, r, hd, x, v, e => by
    cases r with
    | cons ra rs =>
      rename_i rv vs
      have := lj ys as vs (upd y a loc) (done ++ [(Str.ofString y, rv)]) rs (fun z u hz => by
        rw [congrFun (lookup_reverse_snoc done (Str.ofString y) rv) (Str.ofString z)]
        unfold upd at hz
        by_cases hzy : z = y
        · subst hzy; simp at hz; subst hz; exact ⟨rv, by simp, ra⟩
        · simp only [if_neg hzy] at hz
          obtain ⟨w, e1, e2⟩ := hd z u hz
          exact ⟨w, by simp only [if_neg (fun q => hzy (fV q))]; exact e1, e2⟩) x v (by simpa [bindL] using e)
      simpa using this

theorem iA {prog : Program} {w : World} {A : Around} {s : Shared} {E : Value → Shared → Prop} {a : Addr} {args : Args} {o : Obj} {fd : FuncData} {body : List Stmt} {binds : List (Str × Value)} {Q : Fin → Shared → Prop} (hroom : A.depth < recursionLimit)
    (ho : s.heap.get? a = some o) (hd' : o.data = .func fd) (hco : fd.scope.isCoroutine = false) (hgen : fd.scope.isGenerator = false) (hbody : fd.body = .stmts body) (hcd : s.heap.CodeRec fd.code fd.qualname)
    (hb : bindArgs fd args = pure binds)
    (h : wpAny (model prog w) A (newFunctionEnv fd.scope fd.globals fd.closure binds (fd.qualname ++ ".<locals>.") (some a) fd.code none fd.builtins)
        (fun env s₂ => s₂.heap.NoLimit ∧ Q (.again (.func body env)) s₂) E s) :
    wpAny (model prog w) A (callAny (.ref a) args) Q E s := by
  simp only [callAny]
  refine wpAny_bind (wpAny_load ho ?_)
  obtain ⟨c, oc, vs, tq, hc, hoc, hdc, hq⟩ := hcd
  simp only [hd', callFunction, hco, hgen, hbody, hc]
  rw [hc] at h
  refine wpAny_bind (m := field (.ref c) 1) (wpAny_field hoc hdc hq (wpAny_bind (wpAny_pure ?_)))
  rw [hb]
  refine wpAny_bind (wpAny_pure (wpAny_bind (wpAny_mono h (fun env s₂ h₂ => ?_) fun _ _ h' => h')))
  exact wpAny_bind (wpAny_enterFrame h₂.1 hroom (wpAny_pure h₂.2))

theorem SOk.fresh0 {ρ : Pls} {σ : Sto} {s : Shared} (S : SOk cx ρ σ s) : (∀ p ∈ ρ, s.heap.objs.size ≠ p.1 ∧ s.heap.objs.size ≠ p.2) ∧ cx.h₀.get? s.heap.objs.size = .none := by
  refine ⟨fun p hp => ?_, ?_⟩
  · obtain ⟨o, ho⟩ := S.objOf hp
    obtain ⟨o1, e1, _⟩ := ho.at1
    obtain ⟨o2, e2, _⟩ := ho.at2
    exact ⟨fun z => Nat.lt_irrefl _ (z ▸ Heap.lt_size e1), fun z => Nat.lt_irrefl _ (z ▸ Heap.lt_size e2)⟩
  · cases q : cx.h₀.get? s.heap.objs.size with
    | none => rfl
    | some o => exact absurd (Heap.lt_size (S.keep _ _ q)) (Nat.lt_irrefl _)

theorem Post.leave {ρ ρ' : Pls} {L : Addr} {h h₁ h' : Heap} (k : ∀ b o, h.get? b = some o → h₁.get? b = some o) (hL : h.get? L = .none) (P : Post ρ ρ' (fun b => b = L) h₁ h') : Post ρ ρ' (fun _ => False) h h' where
  ext := P.ext
  fr := fun b o e hp _ => P.fr b o (k b o e) hp fun q => by rw [q, hL] at e; cases e
  tup := fun b o e t => P.tup b o (k b o e) t
  live := fun b o e => P.live b o (k b o e)
  new := fun p hp => by
    have nn : ∀ x, h₁.get? x = .none → h.get? x = .none := fun x hx => by
      cases q : h.get? x with
      | none => rfl
      | some o => rw [k x o q] at hx; cases hx
    rcases P.new p hp with q | ⟨q1, q2⟩
    · exact .inl q
    · exact .inr ⟨nn _ q1, nn _ q2⟩

theorem aW {f : Addr} {names : List String} {sf : SF} {name qual : Str} {params : Arguments} {body : List Stmt} {scope : Scope} {dV kV doc pm cdv ct oc : Value} {an od : Option Addr} {osl : Array (Option Value)}
    (ho : cx.K.lookup f = some ⟨oc, od, .func (fnOf name qual params body scope dV kV doc pm an cdv ct), osl⟩) (hcd : codeIn cx.K cdv qual = true)
    (hb : DenS cx scope n body sf)
    (hbind : ∀ vals, vals.length = names.length → bindArgs (fnOf name qual params body scope dV kV doc pm an cdv ct) ⟨vals, []⟩ = pure ((names.map Str.ofString).zip vals))
    (hloc : ∀ x ∈ names, scope.names.lookup (Str.ofString x) = some .local)
    (hcell : ∀ x ∈ scope.names, x.2 ≠ .cell)
    (hco : scope.isCoroutine = false) (hgen : scope.isGenerator = false) (hk : scope.kind = .function) : DenF cx (n + 1) (.ref f) (fnF names sf) := by
  intro ρ σ s args vs v σ' S r hf
  unfold fnF at hf
  first | have hf := aZ hf
  obtain ⟨hlen, hf⟩ := hf
  refine bf (show (0:Nat) ≤ 2 by decide) (show (1:Nat) ≤ 10 by decide) rfl ?_
  show wpN cx.M n (callAny (.ref f) ⟨vs, []⟩) _ s
  refine aG fun A ao => ?_
  have hroom : A.depth < recursionLimit := by have := ao.depth; exact (Z.q (.im (.nlt (.a (.a (.v 0) (.m 2 (.v 1))) (.k 10)) (.v 2)) (.nlt (.v 0) (.v 2))) [] [_,_,_]) this
  refine iA (fd := fnOf name qual params body scope dV kV doc pm an cdv ct) hroom (S.XK _ _ ho) rfl hco hgen rfl (codeRec_of S.XK hcd) (hbind vs (by rw [r.length, hlen])) ?_
  refine wpAny_newFunctionEnv hcell (fun x hx => ?_) (fun h₁ hns hsb => ?_) hk
  · obtain ⟨y, hy, hxy⟩ := List.mem_map.mp (List.of_mem_zip hx).1
    rw [← hxy]; exact hloc y hy
  · have k : ∀ b o, s.heap.get? b = some o → h₁.get? b = some o := fun b o e => hsb.extBut b o (Nat.ne_of_lt (Heap.lt_size e)) (Heap.get?_push_of_some _ e)
    refine ⟨(S.TK.keeps k).nolimit, rfl, ?_⟩
    have S₁ := S.kept (s.toks + ((names.map Str.ofString).zip vs).length) k
    have l₁ : LOk cx ρ (bindL (fun _ => none) names args) s.heap.objs.size h₁ := by
      refine ⟨⟨_, hns, fun x v e => ?_⟩, S.fresh0.1, S.fresh0.2⟩
      have := lj (h₀ := cx.h₀) (h := s.heap) (ρ := ρ) names args vs (fun _ => none) [] r (fun _ _ e => nomatch e) x v e
      obtain ⟨rv, e1, e2⟩ := this
      exact ⟨rv, by simpa using e1, e2.mono ⟨[], by simp⟩ fun b o e _ => k b o e⟩
    refine bf (n := n) (show (1:Nat) ≤ 2 by decide) (show (3:Nat) ≤ 10 by decide) rfl ?_
    have fin : ∀ fl loc' σ₁, sf (bindL (fun _ => none) names args) σ = some (fl, loc', σ₁) → (match fl with | .ret v => some (v, σ₁) | .next => some (MV.none, σ₁)) = some (v, σ') → wpN cx.M n (do point; match ← (execs body (newEnv scope s.heap.objs.size mainGlobals [] (qual ++ ".<locals>.") (some f) cdv none builtinsNs)).onRaise (leaving (newEnv scope s.heap.objs.size mainGlobals [] (qual ++ ".<locals>.") (some f) cdv none builtinsNs)) with | .ret v => ret v | _ => ret .none) (fun fin s' => match fin with | .done f => (∃ rv, (Except.ok f : Result) = .ok (.ret rv) ∧ ValAt cx ρ s v σ' rv s') | .again c' => c'.quiet = true ∧ codeN cx.M (n + 1) c' (fun r s' => ∃ rv, r = .ok (.ret rv) ∧ ValAt cx ρ s v σ' rv s') s') { s with heap := h₁, toks := s.toks + ((names.map Str.ofString).zip vs).length } := by
      intro fl loc' σ₁ e1 e2
      refine a9 (f9 (a9 (bm (aE (hb _ _ ρ σ _ _ fl loc' σ₁ ⟨rfl, hk, rfl, rfl, rfl⟩ S₁ l₁ e1) fun rf s' h' => ?_))))
      obtain ⟨ρ', S', P', l', fr⟩ := h'
      cases fr with
      | next => cases e2; exact aF ⟨.none, rfl, ρ', S', P'.leave k (SOk.get_size _), .none⟩
      | ret rr => cases e2; exact aF ⟨_, rfl, ρ', S', P'.leave k (SOk.get_size _), rr⟩
    split at hf
    · rename_i e; exact fin _ _ _ e hf
    · rename_i e; exact fin _ _ _ e hf
    · cases hf

noncomputable def eNil : EsF := fun _ σ => some ([], σ)
noncomputable def eCons (f : EF) (g : EsF) : EsF := fun loc σ => match f loc σ with
  | some (v, σ1) => (match g loc σ1 with | some (vs, σ2) => some (v :: vs, σ2) | none => none)
  | none => none
noncomputable def eCall (g : FF) (fs : EsF) : EF := fun loc σ => match fs loc σ with | some (vs, σ1) => g vs σ1 | none => none

theorem cF {x : Sem Value} {rest : List (Bool × Sem Value)} {M : Model} {s : Shared} {Q : List Value → Shared → Prop}
    (h : wpN M n x (fun v s₁ => wpN M n (spliced rest) (fun vs s₂ => Q (v :: vs) s₂) s₁) s) : wpN M n (spliced ((false, x) :: rest)) Q s := by
  rw [spliced]
  refine a9 (aE h (fun v s₁ h₁ => ?_))
  simp only [Bool.false_eq_true, if_false]
  exact a9 (aF (a9 (aI (aE h₁ (fun vs s₂ h₂ => aF h₂)))))
theorem a8 : DenEs cx sc n [] eNil := by
  refine ⟨fun _ _ => rfl, ?_⟩
  intro env L ρ σ loc s v σ' pos eo S lo hf
  cases hf
  exact aF ⟨ρ, S, .refl .., .nil⟩
theorem il {e : Expr} {es : List Expr} {f : EF} {g : EsF} (h : DenE cx sc n e f) (hs : DenEs cx sc n es g) (hne : ∀ env, starEach (e :: es) env = (false, eval e env) :: starEach es env) : DenEs cx sc n (e :: es) (eCons f g) := by
  have eb : ∀ env pos, backTo pos (starEach (e :: es) env) = (false, eval e env) :: backTo pos (starEach es env) := fun env pos => by rw [hne]; rfl
  refine ⟨fun env pos => by rw [eb, List.any_cons, hs.1]; rfl, ?_⟩
  intro env L ρ σ loc s v σ' pos eo S lo hf
  unfold eCons at hf
  first | have hf := m2v hf | have hf := mrf hf | have hf := m2l hf | have hf := m2b hf | have hf := mit hf | have hf := mbl hf | have hf := m2o hf | have hf := mis hf
  obtain ⟨u, σ1, e1, hf⟩ := hf
  first | have hf := m2v hf | have hf := mrf hf | have hf := m2l hf | have hf := m2b hf | have hf := mit hf | have hf := mbl hf | have hf := m2o hf | have hf := mis hf
  obtain ⟨us, σ2, e2, hf⟩ := hf
  cases hf
  rw [eb]
  refine cF (aE (h env L ρ σ loc s u σ1 eo S lo e1) fun rv s₁ h₁ => ?_)
  obtain ⟨ρ₁, S₁, P₁, r₁⟩ := h₁
  refine aE (hs.2 env L ρ₁ σ1 loc s₁ us _ pos eo S₁ (lo.post P₁) e2) fun rvs s₂ h₂ => ?_
  obtain ⟨ρ₂, S₂, P₂, r₂⟩ := h₂
  exact ⟨ρ₂, S₂, P₁.trans P₂, .cons (r₁.post P₂) r₂⟩

theorem fG {f : Value} {args : List (Bool × Sem Value)} {M : Model} {s : Shared} {Q : Args → Shared → Prop} (hp : args.any (·.1) = false)
    (h : wpN M n (spliced args) (fun vs s' => Q ⟨vs, []⟩ s') s) : wpN M n (evalArgs f true args []) Q s := by
  cases args with
  | nil =>
    unfold evalArgs
    show wpN M n (spliced [] >>= _) _ s
    refine a9 (aE h fun vs s' h' => ?_)
    exact aI (a9 (aF (a9 (aF (aF h')))))
  | cons x rest =>
    obtain ⟨b, x⟩ := x
    cases b with
    | true => simp at hp
    | false =>
      unfold evalArgs
      show wpN M n (spliced ((false, x) :: rest) >>= _) _ s
      refine a9 (aE h fun vs s' h' => ?_)
      exact aI (a9 (aF (a9 (aF (aF h')))))

theorem fZ {pos : Pos} {a : Addr} {o : Obj} {fd : FuncData} {first : List Value} {args : List (Bool × Sem Value)} {M : Model} {s : Shared} {Q : Value → Shared → Prop} (hp : args.any (·.1) = false)
    (h : wpN M n (spliced args) (fun vs s₁ => (s₁.heap.get? a = some o ∧ o.data = .func fd) ∧ wpN M n (call (.ref a) (first ++ vs) []) Q s₁) s) :
    wpN M n (callWith pos (.ref a) first args []) Q s := by
  unfold callWith
  refine a9 (aI (fG hp (aE h fun vs s₁ h₁ => a9 (aH ?_))))
  have tail : ∀ {t : Sem Value}, wpN M n t Q s₁ → wpN M n (t >>= fun r => holding [r] point >>= fun _ => pure r) Q s₁ :=
    fun ht => a9 (aE ht (fun r s₂ hr => a9 (aI (f9 (aF hr)))))
  have kp : ∀ {Q' : Keeper → Shared → Prop}, Q' .frame s₁ → wpN M n (keeperOf (.ref a)) Q' s₁ := by
    intro Q' q
    unfold keeperOf
    refine a9 (fx h₁.1.1 ?_)
    rw [h₁.1.2]; exact aF q
  simp only [hp, List.any_nil, Bool.or_false]
  refine a9 (kp ?_)
  show wpN M n (if _ then _ else _) Q s₁
  split
  · exact tail h₁.2
  · exact tail (by unfold callMarked; exact lR h₁.2)

noncomputable def fnB (o : Option Obj) : Bool := match o with
  | some ⟨_, _, .func _, _⟩ => true
  | _ => false
noncomputable def FnAt (K : Frag) (f : Addr) : Prop := fnB (K.lookup f) = true
theorem FnAt.get {K : Frag} {f : Addr} (h : FnAt K f) : ∃ oc od fd osl, K.lookup f = some ⟨oc, od, .func fd, osl⟩ := by
  unfold FnAt at h
  generalize K.lookup f = o at h
  cases o with
  | none => cases h
  | some o =>
    obtain ⟨oc, od, d, osl⟩ := o
    cases d with
    | func fd => exact ⟨_, _, _, _, rfl⟩
    | _ => cases h
theorem aN {x : String} {p pos : Pos} {es : List Expr} {fs : EsF} {g : FF} {f : Addr} {m : Nat}
    (e : nsIn cx.K mainGlobals (Str.ofString x) = some (some (.ref f))) (ho : FnAt cx.K f) (hF : DenF cx m (.ref f) g) (hm : m ≤ n) (hs : DenEs cx sc n es fs)
    (hl : sc.names.lookup (Str.ofString x) = some .globalImplicit) (hd : (Str.ofString x == ("__debug__" : Str)) = false) :
    DenE cx sc n (.Call (.Name (Str.ofString x) p) es [] pos) (eCall g fs) := by
  intro env L ρ σ loc s v σ' eo S lo hf
  obtain ⟨oc, od, fd, osl, ho⟩ := ho.get
  unfold eCall at hf
  first | have hf := m2v hf | have hf := mrf hf | have hf := m2l hf | have hf := m2b hf | have hf := mit hf | have hf := mbl hf | have hf := m2o hf | have hf := mis hf
  obtain ⟨us, σ1, e1, hf⟩ := hf
  rw [arm_eval_Call_Name']
  refine a9 (gQ eo S e hl hd ?_)
  refine fZ (o := ⟨oc, od, .func fd, osl⟩) (fd := fd) (hs.1 _ _) (aE (hs.2 env L ρ σ loc s us σ1 pos eo S lo e1) fun vs s₁ h₁ => ?_)
  obtain ⟨ρ₁, S₁, P₁, r₁⟩ := h₁
  refine ⟨⟨S₁.XK _ _ ho, rfl⟩, cy (dN (jD (hF ρ₁ σ1 s₁ us vs v σ' S₁ r₁ hf) hm) fun r s₂ h₂ => ?_)⟩
  obtain ⟨rv, e2, h₃⟩ := h₂
  exact ⟨rv, e2, .after P₁ h₃⟩
end Mine

end
section
open PySem PySem.W PySem.Calls PyProof.Rows
open Sem (wp)
namespace Mine
variable {cx : Cx} {sc : Scope} {n : Nat}

theorem SOk.aside {ρ : Pls} {σ : Sto} {s : Shared} (S : SOk cx ρ σ s) {h : Heap} {I : Addr} (tk : Nat) (e : Heap.ExtBut I s.heap h) (ap : ∀ p ∈ ρ, I ≠ p.1 ∧ I ≠ p.2) (fr : cx.h₀.get? I = .none)
    (nt : ∀ o, s.heap.get? I = some o → ¬ IsTupO o) : SOk cx ρ σ { s with heap := h, toks := tk } := by
  have tup : ∀ b o, s.heap.get? b = some o → IsTupO o → h.get? b = some o := fun b o q t => e b o (by rintro rfl; exact nt _ q t) q
  exact ⟨let ⟨_, _, q⟩ := S.same; ⟨h, tk, by rw [q]⟩, fun b o q => e b o (by rintro rfl; rw [fr] at q; cases q) (S.keep b o q), S.len,
    fun k o p e1 e2 => (S.obj k o p e1 e2).mono ⟨[], by simp⟩ tup (fun o q => e _ o (ap p (List.mem_of_getElem? e2)).1.symm q) (fun o q => e _ o (ap p (List.mem_of_getElem? e2)).2.symm q), S.inj, S.fresh⟩
theorem LOk.aside {ρ : Pls} {loc : Loc} {L : Addr} {g h : Heap} {I : Addr} (l : LOk cx ρ loc L g) (e : Heap.ExtBut I g h) (hL : L ≠ I) (nt : ∀ o, g.get? I = some o → ¬ IsTupO o) : LOk cx ρ loc L h := by
  have tup : ∀ b o, g.get? b = some o → IsTupO o → h.get? b = some o := fun b o q t => e b o (by rintro rfl; exact nt _ q t) q
  obtain ⟨⟨m, hn, hm⟩, ap, fr⟩ := l
  exact ⟨⟨m, hn.extBut e hL, fun x v q => let ⟨rv, a, b⟩ := hm x v q; ⟨rv, a, b.mono ⟨[], by simp⟩ tup⟩⟩, ap, fr⟩
theorem Post.aside {ρ ρ' : Pls} {X : Addr → Prop} {g h h' : Heap} {I : Addr} (P : Post ρ ρ' X g h) (e : Heap.ExtBut I h h') (hI : g.get? I = .none) : Post ρ ρ' X g h' where
  ext := P.ext
  fr := fun b o q hp hx => e b o (by rintro rfl; rw [hI] at q; cases q) (P.fr b o q hp hx)
  tup := fun b o q t => e b o (by rintro rfl; rw [hI] at q; cases q) (P.tup b o q t)
  live := fun b o q => let ⟨o', q'⟩ := P.live b o q; ⟨o', e b o' (by rintro rfl; rw [hI] at q; cases q) q'⟩
  new := P.new

noncomputable abbrev Bd := MV → Loc → Option Loc
noncomputable abbrev Bds := List MV → Loc → Option Loc
noncomputable def TgtOk (cx : Cx) (sc : Scope) (n : Nat) (t : Expr) (b : Bd) : Prop :=
  ∀ env L ρ σ loc s x rv loc', EnvOk env sc L → SOk cx ρ σ s → LOk cx ρ loc L s.heap → VRel cx.h₀ ρ s.heap x rv → b x loc = some loc' → wpN cx.M n (assign t env rv) (fun _ s' => FlAt cx ρ L s .next loc' σ .next s') s
noncomputable def TgtsOk (cx : Cx) (sc : Scope) (n : Nat) (ts : List Expr) (b : Bds) : Prop :=
  (∀ env, (assignEach ts env).findIdx? (·.1) = none ∧ (assignEach ts env).length = ts.length ∧ ∀ xs loc loc', b xs loc = some loc' → xs.length = ts.length) ∧
  ∀ env L ρ σ loc s xs rvs loc', EnvOk env sc L → SOk cx ρ σ s → LOk cx ρ loc L s.heap → VsRel cx.h₀ ρ s.heap xs rvs → b xs loc = some loc' →
    wpN cx.M n (assignInOrder ((assignEach ts env).map (·.2)) rvs) (fun _ s' => FlAt cx ρ L s .next loc' σ .next s') s
noncomputable def bN (x : String) : Bd := fun v loc => some (upd x v loc)
noncomputable def bNil : Bds := fun vs loc => match vs with | [] => some loc | _ => none
noncomputable def bCons (x : String) (b : Bds) : Bds := fun vs loc => match vs with | v :: vs => b vs (upd x v loc) | [] => none
noncomputable def bT (b : Bds) : Bd := fun v loc => match v with | .tup xs => b xs loc | _ => none

theorem FlAt.ρ {ρ : Pls} {L : Addr} {s s' : Shared} {loc : Loc} {σ : Sto} (x : FlAt cx ρ L s .next loc σ .next s') : ∃ ρ', SOk cx ρ' σ s' ∧ Post ρ ρ' (fun b => b = L) s.heap s'.heap ∧ LOk cx ρ' loc L s'.heap := let ⟨a, b, c, d, _⟩ := x; ⟨a, b, c, d⟩
theorem bp {x : String} {p : Pos} (hl : sc.names.lookup (Str.ofString x) = some .local) : TgtOk cx sc n (.Name (Str.ofString x) p) (bN x) := by
  intro env L ρ σ loc s v rv loc' eo S lo r hb
  cases hb
  rw [PySem.assign_Name]
  exact a9 (aH (eJ eo S lo r (.refl ..) hl fun s' q => q))
theorem cA : TgtsOk cx sc n [] bNil := by
  refine ⟨fun env => ⟨rfl, rfl, fun xs loc loc' h => ?_⟩, fun env L ρ σ loc s xs rvs loc' eo S lo r hb => ?_⟩
  · cases xs with
    | nil => rfl
    | cons => simp [bNil] at h
  · cases xs with
    | nil => cases hb; cases r; exact aF (.here S lo)
    | cons => simp [bNil] at hb
theorem af {x : String} {p : Pos} {ts : List Expr} {b : Bds} (h : TgtsOk cx sc n ts b) (hl : sc.names.lookup (Str.ofString x) = some .local) : TgtsOk cx sc n (.Name (Str.ofString x) p :: ts) (bCons x b) := by
  have ae : ∀ env, assignEach (.Name (Str.ofString x) p :: ts) env = (false, assign (.Name (Str.ofString x) p) env) :: assignEach ts env := fun _ => rfl
  refine ⟨fun env => ⟨?_, ?_, fun xs loc loc' q => ?_⟩, fun env L ρ σ loc s xs rvs loc' eo S lo r hb => ?_⟩
  · rw [ae, List.findIdx?_cons]; simp [(h.1 env).1]
  · rw [ae, List.length_cons, (h.1 env).2.1]; rfl
  · cases xs with
    | nil => simp [bCons] at q
    | cons y ys => rw [List.length_cons, List.length_cons, (h.1 env).2.2 ys _ _ q]
  · cases r with
    | nil => simp [bCons] at hb
    | cons r1 rs =>
      rw [ae, List.map_cons]
      refine a9 (aI (aE (bp hl env L ρ σ loc s _ _ _ eo S lo r1 rfl) fun _ s₁ h₁ => ?_))
      obtain ⟨ρ₁, S₁, P₁, l₁⟩ := h₁.ρ
      exact aE (h.2 env L ρ₁ σ _ s₁ _ _ loc' eo S₁ l₁ (rs.post P₁) hb) fun _ s₂ h₂ => .after P₁ h₂
theorem ci {ts : List Expr} {k : Nat} {p : Pos} {b : Bds} (h : TgtsOk cx sc n ts b) : TgtOk cx sc n (.Tuple ts k p) (bT b) := by
  intro env L ρ σ loc s v rv loc' eo S lo r hb
  unfold bT at hb
  split at hb
  · rename_i xs
    cases r with
    | tup ha rs =>
      rename_i a vs m
      have hz := (h.1 env).2.2 _ _ _ hb
      rw [arm_assign_Tuple]
      refine a9 (aH ?_)
      unfold unpack
      rw [(h.1 env).1, (h.1 env).2.1, ← hz, ← rs.length]
      refine a9 (aI (aG fun A ao => ?_))
      rw [show vs.length = vs.toArray.size from List.size_toArray.symm]
      refine wpAny_unpackItems_tuple ao.handled ⟨_, ha, rfl, _, rfl⟩ fun h' e => ?_
      have k : ∀ b o, s.heap.get? b = some o → h'.get? b = some o := fun b o q => e b o (Nat.ne_of_lt (Heap.lt_size q)) q
      refine aE (h.2 env L ρ σ loc _ xs vs loc' eo (S.kept s.toks k) (lo.post (Post.of_keep _ _ k)) (rs.mono ⟨[], by simp⟩ fun b o e _ => k b o e) hb) fun _ s₂ h₂ => ?_
      exact .after (ρ := ρ) (Post.of_keep ρ _ k) h₂
  · cases hb

noncomputable def sAsg (b : Bd) (f : EF) : SF := fun loc σ => match f loc σ with | some (v, σ1) => (match b v loc with | some loc' => some (.next, loc', σ1) | none => none) | none => none
theorem fP {t e : Expr} {pos : Pos} {f : EF} {b : Bd} (h : DenE cx sc n e f) (ht : TgtOk cx sc n t b) (hs : ∀ env, swapsWithSole [t] e pos.line env = pure false) (hw : ∀ env, swappedStores [t] e env = pure none)
    (ha : ∀ env, (assignEach [t] env).map (·.2) = [assign t env]) : DenS1 cx sc n (.Assign [t] e pos) (sAsg b f) := by
  intro env L ρ σ loc s fl loc' σ' eo S lo hf
  unfold sAsg at hf
  first | have hf := m2v hf | have hf := mrf hf | have hf := m2l hf | have hf := m2b hf | have hf := mit hf | have hf := mbl hf | have hf := m2o hf | have hf := mis hf
  obtain ⟨v, σ1, e1, hf⟩ := hf
  first | have hf := mls hf | have hf := mba hf | have hf := m1s hf | have hf := m1l hf | have hf := m1v hf | have hf := m1o hf | have hf := m1i hf | have hf := m1b hf
  obtain ⟨loc1, e2, hf⟩ := hf
  cases hf
  rw [exec_Assign_arm, hs, hw, ha]
  refine a9 (aH (a9 (aF ?_)))
  rw [if_neg (by decide)]
  refine a9 (aE (h env L ρ σ loc s v _ eo S lo e1) fun rv s₁ h₁ => a9 (aF ?_))
  obtain ⟨ρ₁, S₁, P₁, r₁⟩ := h₁
  refine a9 (aE (ht env L ρ₁ _ loc s₁ v rv loc' eo S₁ (lo.post P₁) r₁ e2) fun _ s₂ h₂ => aF (.after P₁.toL h₂))
noncomputable def sDo (f : EF) : SF := fun loc σ => match f loc σ with | some (_, σ1) => some (.next, loc, σ1) | none => none
theorem jZ {e : Expr} {pos : Pos} {v : Value} {Q : Flow → Shared → Prop} {s : Shared} (h : Q .next s) : wpN cx.M n (dropValue e pos v) Q s := aG fun A _ => wpAny_dropValue h
theorem aa {e : Expr} {pos : Pos} {f : EF} (h : DenE cx sc n e f) (hs : ∀ env, swapsWith e none pos.line env = pure false) : DenS1 cx sc n (.Expr e pos) (sDo f) := by
  intro env L ρ σ loc s fl loc' σ' eo S lo hf
  unfold sDo at hf
  first | have hf := m2v hf | have hf := mrf hf | have hf := m2l hf | have hf := m2b hf | have hf := mit hf | have hf := mbl hf | have hf := m2o hf | have hf := mis hf
  obtain ⟨v, σ1, e1, hf⟩ := hf
  cases hf
  rw [exec_Expr env e pos (by unfold interactive; rw [eo.isSc, eo.kind]; rfl) (hs env)]
  refine a9 (aH (a9 (aE (h env L ρ σ loc s v _ eo S lo e1) fun rv s₁ h₁ => ?_)))
  obtain ⟨ρ₁, S₁, P₁, r₁⟩ := h₁
  exact jZ ⟨ρ₁, S₁, P₁.toL, lo.post P₁, .next⟩

noncomputable def eList (fs : EsF) : EF := fun loc σ => match fs loc σ with | some (vs, σ1) => if vs.length ≤ big then some (.ref σ1.length, σ1 ++ [.list vs]) else none | none => none
noncomputable def eTup (fs : EsF) : EF := fun loc σ => match fs loc σ with | some (vs, σ1) => if vs.length ≤ big then some (.tup vs, σ1) else none | none => none
theorem ValAt.newTup {ρ : Pls} {σ : Sto} {s : Shared} (S : SOk cx ρ σ s) {xs : List MV} {vs : List Value} {m : Nat} (tk : Nat) (r : VsRel cx.h₀ ρ s.heap xs vs) :
    ValAt cx ρ s (.tup xs) σ (.ref s.heap.objs.size) { s with heap := s.heap.push (tupO vs m), toks := tk } :=
  .kept S tk (fun _ _ e => Heap.get?_push_of_some _ e) (.tup (Heap.get?_push_size _ rfl) (r.mono ⟨[], by simp⟩ fun _ _ e _ => Heap.get?_push_of_some _ e))
theorem aq {es : List Expr} {pos : Pos} {fs : EsF} (h : DenEs cx sc n es fs) : DenE cx sc n (.List es pos) (eList fs) := by
  intro env L ρ σ loc s v σ' eo S lo hf
  unfold eList at hf
  first | have hf := m2v hf | have hf := mrf hf | have hf := m2l hf | have hf := m2b hf | have hf := mit hf | have hf := mbl hf | have hf := m2o hf | have hf := mis hf
  obtain ⟨vs, σ1, e1, hf⟩ := hf
  first | have hf := aZ hf
  obtain ⟨hz, hf⟩ := hf
  cases hf
  rw [arm_eval_List]
  refine a9 (aH (a9 (aE (h.2 env L ρ σ loc s vs σ1 pos eo S lo e1) fun rvs s₁ h₁ => ?_)))
  obtain ⟨ρ₁, S₁, P₁, r₁⟩ := h₁
  refine aG fun A _ => wpAny_newList ?_ (by rw [r₁.length, sizeLine_eq]; unfold big at hz; exact (Z.q (.im (.nle (.v 0) (.k 100000)) (.nle (.v 0) (.k 16777216))) [] [_]) hz)
  exact .after P₁ (.newList (m := 0) S₁ s₁.toks r₁)
theorem dQ {es : List Expr} {k : Nat} {pos : Pos} {fs : EsF} (h : DenEs cx sc n es fs) : DenE cx sc n (.Tuple es k pos) (eTup fs) := by
  intro env L ρ σ loc s v σ' eo S lo hf
  unfold eTup at hf
  first | have hf := m2v hf | have hf := mrf hf | have hf := m2l hf | have hf := m2b hf | have hf := mit hf | have hf := mbl hf | have hf := m2o hf | have hf := mis hf
  obtain ⟨vs, σ1, e1, hf⟩ := hf
  first | have hf := aZ hf
  obtain ⟨hz, hf⟩ := hf
  cases hf
  rw [arm_eval_Tuple]
  refine a9 (aH (a9 (aE (h.2 env L ρ σ loc s vs _ pos eo S lo e1) fun rvs s₁ h₁ => ?_)))
  obtain ⟨ρ₁, S₁, P₁, r₁⟩ := h₁
  refine aG fun A _ => wpAny_newTuple ?_ (by rw [r₁.length, sizeLine_eq]; unfold big at hz; exact (Z.q (.im (.nle (.v 0) (.k 100000)) (.nle (.v 0) (.k 16777216))) [] [_]) hz)
  exact .after P₁ (.newTup (m := 0) S₁ s₁.toks r₁)

noncomputable def whileF (t : TF) (body : SF) : Nat → SF
  | 0, _, _ => none
  | k + 1, loc, σ => match t loc σ with
    | some (true, σ1) => (match body loc σ1 with
      | some (.next, loc2, σ2) => whileF t body k loc2 σ2
      | r => r)
    | some (false, σ1) => some (.next, loc, σ1)
    | none => none
theorem lF (t : TF) (body : SF) (k : Nat) (loc : Loc) (σ : Sto) : whileF t body (k + 1) loc σ = match t loc σ with
    | some (true, σ1) => (match body loc σ1 with
      | some (.next, loc2, σ2) => whileF t body k loc2 σ2
      | r => r)
    | some (false, σ1) => some (.next, loc, σ1)
    | none => none := rfl
theorem f8 {α : Type} {M : Model} {s : Shared} {env : Env} {m : Sem α} {Q : α → Shared → Prop} (h : wpN M n m Q s) : wpN M n (m.onRaise fun x => do noteFrame x env; theTreesLotGoes x) Q s := bm h
theorem jQ {t : Expr} {body : List Stmt} {ft : TF} {f : SF} (ht : DenT cx sc n t ft) (hb : DenS cx sc n body f) {env : Env} {L : Addr} (eo : EnvOk env sc L) {ρ₀ : Pls} {s₀ : Shared} {fl : Fl} {loc' : Loc} {σ' : Sto} :
    ∀ (k : Nat) (ρ : Pls) (σ : Sto) (loc : Loc) (s : Shared), SOk cx ρ σ s → LOk cx ρ loc L s.heap → Post ρ₀ ρ (fun b => b = L) s₀.heap s.heap → whileF ft f k loc σ = some (fl, loc', σ') →
      codeN cx.M n (.whileLoop t body [] env) (fun r s' => ∃ rf, r = .ok rf ∧ FlAt cx ρ₀ L s₀ fl loc' σ' rf s') s
  | 0, _, _, _, _, _, _, _, hf => nomatch hf
  | k + 1, ρ, σ, loc, s, S, lo, P, hf => by
    refine c7 (n := n) rfl rfl rfl ?_
    show wpN cx.M n ((whileTurn t body [] env).onRaise (fun x => do noteFrame x env; theTreesLotGoes x)) _ s
    refine f8 ?_
    unfold whileTurn
    rw [lF] at hf
    split at hf
    · rename_i σ1 e1
      refine a9 (aE (ht env L ρ σ loc s _ _ eo S lo e1) fun b s₁ h₁ => ?_)
      obtain ⟨rfl, ρ₁, S₁, P₁⟩ := h₁
      split at hf
      · rename_i loc2 σ2 e2
        refine a9 (aE (hb env L ρ₁ σ1 loc s₁ _ _ _ eo S₁ (lo.post P₁) e2) fun rf s₂ h₂ => ?_)
        obtain ⟨ρ₂, S₂, P₂, l₂, fr⟩ := h₂
        cases fr
        exact aF ⟨rfl, jQ ht hb eo k ρ₂ σ2 loc2 s₂ S₂ l₂ ((P.trans P₁.toL).trans P₂) hf⟩
      · rename_i r hne
        refine a9 (aE (hb env L ρ₁ σ1 loc s₁ _ _ _ eo S₁ (lo.post P₁) hf) fun rf s₂ h₂ => ?_)
        obtain ⟨ρ₂, S₂, P₂, l₂, fr⟩ := h₂
        cases fr with
        | next => exact absurd hf (hne _ _)
        | ret r => exact aF ⟨_, rfl, ρ₂, S₂, (P.trans P₁.toL).trans P₂, l₂, .ret r⟩
    · rename_i σ1 e1
      cases hf
      refine a9 (aE (ht env L ρ σ _ s _ _ eo S lo e1) fun b s₁ h₁ => ?_)
      obtain ⟨rfl, ρ₁, S₁, P₁⟩ := h₁
      exact a9 (aF (aF ⟨_, rfl, ρ₁, S₁, P.trans P₁.toL, lo.post P₁, .next⟩))
    · cases hf
theorem jy {t : Expr} {body : List Stmt} {pos : Pos} {ft : TF} {f : SF} (k : Nat) (ht : DenT cx sc n t ft) (hb : DenS cx sc n body f) : DenS1 cx sc n (.While t body [] pos) (whileF ft f k) := by
  intro env L ρ σ loc s fl loc' σ' eo S lo hf
  rw [exec_While]
  exact a9 (aH (gz (jQ ht hb eo k ρ σ loc s S lo (.refl ..) hf)))

end Mine

end
section
open PySem PySem.W PySem.Calls PyProof.Rows
open Sem (wp)
namespace Mine
variable {cx : Cx} {sc : Scope} {n : Nat}

open Classical in
noncomputable def loopC (chk : Sto → Prop) (b : Bd) (f : SF) : List MV → SF
  | [], loc, σ => if chk σ then some (.next, loc, σ) else none
  | x :: rest, loc, σ => if chk σ then (match b x loc with
      | some loc1 => (match f loc1 σ with
        | some (.next, loc2, σ2) => loopC chk b f rest loc2 σ2
        | r => r)
      | none => none) else none
theorem nI {chk : Sto → Prop} {b : Bd} {f : SF} {loc : Loc} {σ : Sto} : loopC chk b f [] loc σ = (open Classical in if chk σ then some (.next, loc, σ) else none) := rfl
theorem mL {chk : Sto → Prop} {b : Bd} {f : SF} {x : MV} {rest : List MV} {loc : Loc} {σ : Sto} : loopC chk b f (x :: rest) loc σ = (open Classical in if chk σ then (match b x loc with
      | some loc1 => (match f loc1 σ with
        | some (.next, loc2, σ2) => loopC chk b f rest loc2 σ2
        | r => r)
      | none => none) else none) := rfl

noncomputable def IterCls (o : Obj) : Prop := o.cls = .type "list_iterator" ∨ o.cls = .type "range_iterator"
theorem IterCls.notTup {o : Obj} (h : IterCls o) : ¬ IsTupO o := by
  rintro ⟨a, b, rfl⟩
  rcases h with h | h <;> simp [tupO] at h
theorem kX {t : Expr} {I : Addr} {rv : Value} {M : Model} {s : Shared} {o : Obj} (ho : s.heap.get? I = some o) (hc : IterCls o) {Q : Unit → Shared → Prop} (h : Q () s) : wpN M n (letOwnedTupleGo t (.ref I) rv) Q s := by
  have core : ∀ a, wpN M n (do
      let o ← load I
      match o.cls, o.data with
      | .type n, .fields vs =>
        if ["enumerate", "zip", "dict_itemiterator", "dict_reverseitemiterator", "odict_iterator", "itertools.zip_longest", "itertools.pairwise"].contains n && vs[0]? == some (rawInt a) then
          rule "for.unpacks-the-owned-tuple"
          updateField I 0 .none
      | _, _ => pure ()) Q s := by
    intro a
    refine a9 (fx ho ?_)
    have hcl : ∀ T, o.cls = .type T → (["enumerate", "zip", "dict_itemiterator", "dict_reverseitemiterator", "odict_iterator", "itertools.zip_longest", "itertools.pairwise"].contains T) = false → wpN M n (match o.cls, o.data with
      | .type n, .fields vs =>
        if ["enumerate", "zip", "dict_itemiterator", "dict_reverseitemiterator", "odict_iterator", "itertools.zip_longest", "itertools.pairwise"].contains n && vs[0]? == some (rawInt a) then do
          rule "for.unpacks-the-owned-tuple"
          updateField I 0 .none
        else pure ()
      | _, _ => pure ()) Q s := by
      intro T e1 e2
      rw [e1]
      cases o.data with
      | fields vs =>
        show wpN M n (if (["enumerate", "zip", "dict_itemiterator", "dict_reverseitemiterator", "odict_iterator", "itertools.zip_longest", "itertools.pairwise"].contains T && vs[0]? == some (rawInt a)) = true then _ else _) Q s
        rw [e2, Bool.false_and]
        exact aF h
      | _ => exact aF h
    rcases hc with e | e
    · exact hcl _ e (by decide)
    · exact hcl _ e (by decide)
  cases t with
  | Tuple _ _ _ => cases rv with
    | ref a => exact core a
    | _ => exact aF h
  | List _ _ => cases rv with
    | ref a => exact core a
    | _ => exact aF h
  | _ => exact aF h

theorem lg {t : Expr} {body : List Stmt} {b : Bd} {f : SF} (ht : TgtOk cx sc n t b) (hb : DenS cx sc n body f) {env : Env} {L : Addr} (eo : EnvOk env sc L) {ρ₀ : Pls} {s₀ : Shared} {fl : Fl} {loc' : Loc} {σ' : Sto} {I : Addr}
    (hI0 : s₀.heap.get? I = .none) (hI1 : cx.h₀.get? I = .none) (hIL : I ≠ L)
    (chk : Sto → Prop) (It : List MV → Obj → Prop) (PX : Pls → Prop) (pxm : ∀ ρ t, PX ρ → PX (ρ ++ t)) (hcls : ∀ r o, It r o → IterCls o)
    (next : ∀ x rest σ ρ s o, SOk cx ρ σ s → PX ρ → chk σ → s.heap.get? I = some o → It (x :: rest) o → wpN cx.M n (pyNext (.ref I)) (fun r s' => ∃ rv h tk o', r = some rv ∧ s' = { s with heap := h, toks := tk } ∧ Heap.ExtBut I s.heap h ∧ VRel cx.h₀ ρ h x rv ∧ h.get? I = some o' ∧ It rest o') s)
    (fin : ∀ σ ρ s o, SOk cx ρ σ s → PX ρ → chk σ → s.heap.get? I = some o → It [] o → wpN cx.M n (pyNext (.ref I)) (fun r s' => r = none ∧ ∃ h tk, s' = { s with heap := h, toks := tk } ∧ Heap.ExtBut I s.heap h) s) :
    ∀ (rest : List MV) (ρ : Pls) (σ : Sto) (loc : Loc) (s : Shared) (o : Obj), SOk cx ρ σ s → LOk cx ρ loc L s.heap → Post ρ₀ ρ (fun b => b = L) s₀.heap s.heap → PX ρ → s.heap.get? I = some o → It rest o → (∀ p ∈ ρ, I ≠ p.1 ∧ I ≠ p.2) →
      loopC chk b f rest loc σ = some (fl, loc', σ') →
      codeN cx.M n (.forLoop t (.ref I) body [] env) (fun r s' => ∃ rf, r = .ok rf ∧ FlAt cx ρ₀ L s₀ fl loc' σ' rf s') s := by
  intro rest
  induction rest with
  | nil =>
    intro ρ σ loc s o S lo P px ho hit ap hf
    rw [nI] at hf
    split at hf
    · rename_i hc
      cases hf
      refine c7 (n := n) rfl rfl rfl ?_
      show wpN cx.M n ((forTurn t (.ref I) body [] env).onRaise (fun x => do noteFrame x env; theTreesLotGoes x)) _ s
      refine f8 ?_
      unfold forTurn
      refine a9 (aH (a9 (bm (aE (fin σ' ρ s o S px hc ho hit) fun r s₁ h₁ => ?_))))
      obtain ⟨rfl, h, tk, rfl, e⟩ := h₁
      have nt := fun q (hq : s.heap.get? I = some q) => (by rw [ho] at hq; cases hq; exact (hcls _ _ hit).notTup : ¬ IsTupO q)
      have S₁ := S.aside tk e ap hI1 nt
      have l₁ := lo.aside e hIL.symm nt
      have P₁ := P.aside e hI0
      refine aF ⟨rfl, c7 (n := n) rfl rfl rfl ?_⟩
      show wpN cx.M n (do return Fin.done (← (execs [] env).onRaise (fun x => do noteFrame x env; theTreesLotGoes x))) _ _
      refine a9 (bm ?_)
      rw [execs_nil]
      exact aF (aF ⟨_, rfl, ρ, S₁, P₁, l₁, .next⟩)
    · cases hf
  | cons x rest ih =>
    intro ρ σ loc s o S lo P px ho hit ap hf
    rw [mL] at hf
    split at hf
    · rename_i hc
      refine c7 (n := n) rfl rfl rfl ?_
      show wpN cx.M n ((forTurn t (.ref I) body [] env).onRaise (fun x => do noteFrame x env; theTreesLotGoes x)) _ s
      refine f8 ?_
      unfold forTurn
      refine a9 (aH (a9 (bm (aE (next x rest σ ρ s o S px hc ho hit) fun r s₁ h₁ => ?_))))
      obtain ⟨rv, h, tk, o', rfl, rfl, e, r, ho', hit'⟩ := h₁
      have nt := fun q (hq : s.heap.get? I = some q) => (by rw [ho] at hq; cases hq; exact (hcls _ _ hit).notTup : ¬ IsTupO q)
      have S₁ := S.aside tk e ap hI1 nt
      have l₁ := lo.aside e hIL.symm nt
      have P₁ := P.aside e hI0
      refine a9 (kX ho' (hcls _ _ hit') ?_)
      first | have hf := mls hf | have hf := mba hf | have hf := m1s hf | have hf := m1l hf | have hf := m1v hf | have hf := m1o hf | have hf := m1i hf | have hf := m1b hf
      obtain ⟨loc1, e1, hf⟩ := hf
      refine a9 (aE (ht env L ρ σ loc _ x rv loc1 eo S₁ l₁ r e1) fun _ s₂ h₂ => ?_)
      obtain ⟨ρ₂, S₂, P₂, l₂⟩ := h₂.ρ
      have apI : ∀ ρ' ρ'' h h' o, Post ρ' ρ'' (fun b => b = L) h h' → h.get? I = some o → (∀ p ∈ ρ', I ≠ p.1 ∧ I ≠ p.2) → h'.get? I = some o ∧ ∀ p ∈ ρ'', I ≠ p.1 ∧ I ≠ p.2 := by
        intro ρ' ρ'' h h' o P e ap
        refine ⟨P.fr I o e ap hIL, fun p hp => ?_⟩
        rcases P.new p hp with q | ⟨q1, q2⟩
        · exact ap p q
        · exact ⟨fun z => (by rw [← z, e] at q1; cases q1), fun z => (by rw [← z, e] at q2; cases q2)⟩
      have a₂ := apI _ _ _ _ _ P₂ ho' ap
      have px₂ : PX ρ₂ := by obtain ⟨t, rfl⟩ := P₂.ext; exact pxm _ _ px
      have step : ∀ flx locx σx, f loc1 σ = some (flx, locx, σx) → wpN cx.M n (execs body env) (fun rf s₃ => ∃ ρ₃, SOk cx ρ₃ σx s₃ ∧ Post ρ₀ ρ₃ (fun b => b = L) s₀.heap s₃.heap ∧ LOk cx ρ₃ locx L s₃.heap ∧ FlRel cx.h₀ ρ₃ s₃.heap flx rf ∧ PX ρ₃ ∧ s₃.heap.get? I = some o' ∧ ∀ p ∈ ρ₃, I ≠ p.1 ∧ I ≠ p.2) s₂ := by
        intro flx locx σx e2
        refine aE (hb env L ρ₂ σ loc1 s₂ _ _ _ eo S₂ l₂ e2) fun rf s₃ h₃ => ?_
        obtain ⟨ρ₃, S₃, P₃, l₃, fr⟩ := h₃
        have a₃ := apI _ _ _ _ _ P₃ a₂.1 a₂.2
        exact ⟨ρ₃, S₃, (P₁.trans P₂).trans P₃, l₃, fr, by obtain ⟨t, rfl⟩ := P₃.ext; exact pxm _ _ px₂, a₃.1, a₃.2⟩
      split at hf
      · rename_i loc2 σ2 e2
        refine a9 (aE (step _ _ _ e2) fun rf s₃ h₃ => ?_)
        obtain ⟨ρ₃, S₃, P₃, l₃, fr, px₃, i₃, ap₃⟩ := h₃
        cases fr
        exact aF ⟨rfl, ih ρ₃ σ2 loc2 s₃ o' S₃ l₃ P₃ px₃ i₃ hit' ap₃ hf⟩
      · rename_i r hne
        refine a9 (aE (step _ _ _ hf) fun rf s₃ h₃ => ?_)
        obtain ⟨ρ₃, S₃, P₃, l₃, fr, px₃, i₃, ap₃⟩ := h₃
        cases fr with
        | next => exact absurd hf (hne _ _)
        | ret r => exact aF ⟨_, rfl, ρ₃, S₃, P₃, l₃, .ret r⟩
    · cases hf

theorem gC {ρ : Pls} {σ : Sto} {s : Shared} {loc : Loc} {L : Addr} (S : SOk cx ρ σ s) (lo : LOk cx ρ loc L s.heap) : (∀ p ∈ ρ, s.heap.objs.size ≠ p.1 ∧ s.heap.objs.size ≠ p.2) ∧ cx.h₀.get? s.heap.objs.size = .none ∧ s.heap.objs.size ≠ L := by
  refine ⟨S.fresh0.1, S.fresh0.2, ?_⟩
  obtain ⟨⟨m, ⟨o, es, ep, ho, _⟩, _⟩, _, _⟩ := lo
  exact fun z => Nat.lt_irrefl _ (z ▸ Heap.lt_size ho)

noncomputable def sForL (b : Bd) (f : EF) (body : SF) : SF := fun loc σ => match f loc σ with
  | some (.ref k, σ1) => (match σ1[k]? with | some (.list xs) => loopC (fun σ => σ[k]? = some (.list xs)) b body xs loc σ1 | _ => none)
  | _ => none
theorem dA {t e : Expr} {body : List Stmt} {pos : Pos} {b : Bd} {f : EF} {g : SF} (h : DenE cx sc n e f) (ht : TgtOk cx sc n t b) (hb : DenS cx sc n body g) (hs : ∀ env x, foldedSetIterable e env x = pure x) :
    DenS1 cx sc n (.For t e body [] pos) (sForL b f g) := by
  intro env L ρ σ loc s fl loc' σ' eo S lo hf
  unfold sForL at hf
  first | have hf := m2v hf | have hf := mrf hf | have hf := m2l hf | have hf := m2b hf | have hf := mit hf | have hf := mbl hf | have hf := m2o hf | have hf := mis hf
  obtain ⟨k, σ1, e1, hf⟩ := hf
  first | have hf := mls hf | have hf := mba hf | have hf := m1s hf | have hf := m1l hf | have hf := m1v hf | have hf := m1o hf | have hf := m1i hf | have hf := m1b hf
  obtain ⟨xs, e2, hf⟩ := hf
  rw [PySem.exec_For]
  refine a9 (aH (a9 (aE (h env L ρ σ loc s _ _ eo S lo e1) fun rv s₁ h₁ => ?_)))
  obtain ⟨ρ₁, S₁, P₁, r₁⟩ := h₁
  obtain ⟨p, vs, m, rfl, hp, hpp, o1, q1⟩ := listAt S₁ r₁ e2
  rw [hs]
  refine a9 (aF (a9 (aH (a9 (aI (aG fun A ao => wpAny_pyIter_list (items := vs.toArray) ⟨_, o1, rfl, _, rfl⟩ ?_))))))
  have l₁ := lo.post P₁
  have fp := gC S₁ l₁
  have kk : ∀ b o, s₁.heap.get? b = some o → (s₁.heap.push { cls := .type "list_iterator", data := .fields #[.ref p.1, .int 0 0] }).get? b = some o := fun b o e => Heap.get?_push_of_some _ e
  have hI0 : s.heap.get? s₁.heap.objs.size = .none := by
    cases q : s.heap.get? s₁.heap.objs.size with
    | none => rfl
    | some o => obtain ⟨o', e'⟩ := P₁.live _ _ q; exact absurd (Heap.lt_size e') (Nat.lt_irrefl _)
  refine gz (lg ht hb eo hI0 fp.2.1 fp.2.2 (fun σ => σ[k]? = some (.list xs)) (fun r o => o.cls = .type "list_iterator" ∧ ∃ i : Nat, o.data = .fields #[.ref p.1, .int i 0] ∧ r = xs.drop i) (fun ρ => ρ[k]? = some p)
    (fun ρ t e => by rw [List.getElem?_append_left (List.getElem?_eq_some_iff.mp e).1]; exact e) (fun r o q => .inl q.1) ?_ ?_ xs ρ₁ σ1 loc _ _ (S₁.kept s₁.toks kk) (l₁.post (Post.of_keep _ _ kk)) ((P₁.toL).trans (Post.of_keep _ _ kk)) hp (Heap.get?_push_size _ rfl) ⟨rfl, 0, rfl, rfl⟩ fp.1 hf)
  · intro x rest σ₂ ρ₂ s₂ o S₂ px hc ho hit
    obtain ⟨hcl, i, hd, hr⟩ := hit
    obtain ⟨e0, us, m', o2, q2⟩ := S₂.obj k _ p hc px
    have hx : xs[i]? = some x := by
      have := congrArg List.head? hr
      rwa [List.head?_cons, List.head?_drop, eq_comm] at this
    obtain ⟨rv, hv, rr⟩ := q2.get hx
    refine aG fun A ao => wpAny_pyNext_list_item (items := us.toArray) (x := rv) (i := i) ⟨o, ho, hcl, hd⟩ ⟨_, o2, rfl, _, rfl⟩ (by simpa using hv) fun h' hit' sb => ?_
    obtain ⟨o', ho', hcl', hd'⟩ := hit'
    have tup : ∀ b ob, s₂.heap.get? b = some ob → IsTupO ob → h'.get? b = some ob := fun b ob q t => sb.extBut b ob (by rintro rfl; rw [ho] at q; cases q; exact (IterCls.notTup (.inl hcl)) t) q
    exact ⟨rv, h', s₂.toks, o', rfl, rfl, sb.extBut, rr.mono ⟨[], by simp⟩ tup, ho', hcl', i + 1, hd', by
      have := congrArg List.tail hr
      rwa [List.tail_cons, List.tail_drop] at this⟩
  · intro σ₂ ρ₂ s₂ o S₂ px hc ho hit
    obtain ⟨hcl, i, hd, hr⟩ := hit
    obtain ⟨e0, us, m', o2, q2⟩ := S₂.obj k _ p hc px
    have hi : us[i]? = none := by
      have := congrArg List.length hr
      rw [List.length_nil, List.length_drop] at this
      rw [List.getElem?_eq_none]; rw [q2.length]; exact (Z.q (.im (.neq (.k 0) (.v 0)) (.im (.or (.an (.neq (.a (.v 0) (.v 1)) (.v 2)) (.nle (.v 1) (.v 2))) (.an (.neq (.v 0) (.k 0)) (.nle (.v 2) (.v 1)))) (.nle (.v 2) (.v 1)))) [] [_,_,_]) this (Z.sb _ _)
    exact aG fun A ao => wpAny_pyNext_list_end (items := us.toArray) (i := i) ao.handled ⟨o, ho, hcl, hd⟩ ⟨_, o2, rfl, _, rfl⟩ (by simpa using hi) fun h' eb => ⟨rfl, h', s₂.toks, rfl, eb⟩

theorem bx {pos : Pos} {f : Value} {first : List Value} {args : List (Bool × Sem Value)} {M : Model} {s : Shared} {Q : Value → Shared → Prop} (hm : keeperOf f = pure .machine) (hp : args.any (·.1) = false)
    (h : wpN M n (spliced args) (fun vs s₁ => wpN M n (call f (first ++ vs) []) Q s₁) s) : wpN M n (callWith pos f first args []) Q s := by
  unfold callWith
  refine a9 (aI (fG hp (aE h fun vs s₁ h₁ => a9 (aH ?_))))
  simp only [hp, List.any_nil, Bool.or_false]
  rw [hm]
  refine a9 (aF ?_)
  exact a9 (aE h₁ (fun r s₂ hr => a9 (aI (f9 (aF hr)))))

noncomputable def rArgs : List MV → Option (Int × Int × Int)
  | [.int b] => if -(2 ^ 40) ≤ b ∧ b ≤ 2 ^ 40 then some (0, b, 1) else none
  | [.int a, .int b] => if -(2 ^ 40) ≤ a ∧ a ≤ 2 ^ 40 ∧ -(2 ^ 40) ≤ b ∧ b ≤ 2 ^ 40 then some (a, b, 1) else none
  | [.int a, .int b, .int c] => if c = -1 ∧ -100000 ≤ a ∧ a ≤ 100000 ∧ -100000 ≤ b ∧ b ≤ 100000 then some (a, b, c) else none
  | _ => none
noncomputable def rItems (x left step : Int) : List MV := (List.range left.toNat).map fun (i : Nat) => .int (x + i * step)
theorem ip {x left step : Int} {y : MV} {rest : List MV} (h : y :: rest = rItems x left step) : 0 < left ∧ y = .int x ∧ rest = rItems (x + step) (left - 1) step := by
  unfold rItems at h
  obtain ⟨k, hk⟩ : ∃ k, left.toNat = k + 1 := by
    cases q : left.toNat with
    | zero => rw [q] at h; simp at h
    | succ k => exact ⟨k, rfl⟩
  rw [hk, List.range_succ_eq_map, List.map_cons] at h
  injection h with h1 h2
  refine ⟨by exact (Z.q (.im (.neq (.v 0) (.a (.v 1) (.k 1))) (.im (.or (.an (.eq (.c (.v 0)) (.v 0)) (.le (.k 0) (.v 0))) (.an (.eq (.c (.v 0)) (.k 0)) (.le (.v 0) (.k 0)))) (.lt (.k 0) (.v 0)))) [_] [_,_]) hk (Z.tn _), by simpa using h1, ?_⟩
  rw [h2, List.map_map]
  unfold rItems
  rw [show (left - 1).toNat = k by exact (Z.q (.im (.neq (.v 0) (.a (.v 1) (.k 1))) (.im (.or (.an (.eq (.c (.v 2)) (.s (.v 0) (.k 1))) (.le (.k 0) (.s (.v 0) (.k 1)))) (.an (.eq (.c (.v 2)) (.k 0)) (.le (.s (.v 0) (.k 1)) (.k 0)))) (.im (.or (.an (.eq (.c (.v 0)) (.v 0)) (.le (.k 0) (.v 0))) (.an (.eq (.c (.v 0)) (.k 0)) (.le (.v 0) (.k 0)))) (.neq (.v 2) (.v 1))))) [_] [_,_,_]) hk (Z.tn _) (Z.tn _)]
  refine List.map_congr_left fun i hi => ?_
  simp only [Function.comp_apply, MV.int.injEq]
  rw [show ((Nat.succ i : Nat) : Int) = (i : Int) + 1 from by simp, Int.add_mul]; exact (Z.q (.eq (.a (.v 0) (.a (.v 1) (.m 1 (.v 2)))) (.a (.a (.v 0) (.v 2)) (.v 1))) [_,_,_] [])
noncomputable def sForR (b : Bd) (fs : EsF) (body : SF) : SF := fun loc σ => match fs loc σ with
  | some (vs, σ1) => (match rArgs vs with | some (x, y, c) => loopC (fun _ => True) b body (rItems x (Builtin.Range.rangeSize x y c) c) loc σ1 | none => none)
  | none => none
theorem mw {a b : Int} (ha : -100000 ≤ a) (ha' : a ≤ 100000) (hb : -100000 ≤ b) (hb' : b ≤ 100000) : Builtin.Range.small a b (-1) = true := by
  unfold Builtin.Range.small Builtin.Range.rangeSize
  simp only [Builtin.Range.rangeFitsLong, Bool.and_eq_true, Bool.or_eq_true, decide_eq_true_eq, beq_iff_eq, show ¬ ((-1 : Int) > 0) by decide, if_false]
  split <;> simp <;> (first|exact (Z.q (.im (.le (.k (-100000)) (.v 0)) (.im (.le (.v 0) (.k 100000)) (.im (.le (.k (-100000)) (.v 1)) (.im (.le (.v 1) (.k 100000)) (.an (.an (.an (.an (.le (.k (-9223372036854775808)) (.v 0)) (.lt (.v 0) (.k 9223372036854775808))) (.an (.le (.k (-9223372036854775808)) (.v 1)) (.lt (.v 1) (.k 9223372036854775808)))) (.an (.le (.k (-9223372036854775808)) (.s (.v 0) (.v 1))) (.lt (.s (.v 0) (.v 1)) (.k 9223372036854775808)))) (.or (.eq (.s (.v 0) (.v 1)) (.k 0)) (.an (.le (.k (-9223372036854775808)) (.v 1)) (.lt (.v 1) (.k 9223372036854775808))))))))) [_,_] []) ha ha' hb hb'|exact (Z.q (.im (.le (.k (-100000)) (.v 0)) (.im (.le (.v 0) (.k 100000)) (.im (.le (.k (-100000)) (.v 1)) (.im (.le (.v 1) (.k 100000)) (.an (.an (.le (.k (-9223372036854775808)) (.v 0)) (.lt (.v 0) (.k 9223372036854775808))) (.an (.le (.k (-9223372036854775808)) (.v 1)) (.lt (.v 1) (.k 9223372036854775808)))))))) [_,_] []) ha ha' hb hb'|omega)
theorem k0 {vs : List Value} {args : List MV} {ρ : Pls} {σ : Sto} {s : Shared} {x y c : Int} (S : SOk cx ρ σ s) (r : VsRel cx.h₀ ρ s.heap args vs) (hr : rArgs args = some (x, y, c)) {Q : Value → Shared → Prop}
    (h : Builtin.Range.small x y c = true → ∀ t u v tk, Q (.ref s.heap.objs.size) { s with heap := s.heap.push { cls := .type "range", data := .fields #[.int x t, .int y u, .int c v] }, toks := tk }) : wpN cx.M n (call (.type "range") vs []) Q s := by
  unfold rArgs at hr
  split at hr
  · split at hr
    · cases hr
      obtain ⟨_, rfl, r1⟩ := r.one
      first | have r1 := r1.intE | have r1 := r1.bytesE | have r1 := r1.boolE | have r1 := r1.noneE | have r1 := r1.strE
      obtain ⟨_, rfl⟩ := r1
      exact aG fun A _ => call_range_1 (h (small_one (by decide) (by decide) (by exact (Z.q (.im (.an (.le (.n (.k (2 ^ 40))) (.v 0)) (.le (.v 0) (.k (2 ^ 40)))) (.le (.n (.k (2 ^ 62))) (.v 0))) [_] []) (by assumption)) (by exact (Z.q (.im (.an (.le (.n (.k (2 ^ 40))) (.v 0)) (.le (.v 0) (.k (2 ^ 40)))) (.lt (.v 0) (.k (2 ^ 62)))) [_] []) (by assumption))) ..)
    · cases hr
  · split at hr
    · cases hr
      cases r with | cons r1 r2 => cases r1; cases r2 with | cons r2 r3 => cases r2; cases r3; exact aG fun A _ => call_range_2 (h (small_one (by exact (Z.q (.im (.an (.le (.n (.k (2 ^ 40))) (.v 0)) (.an (.le (.v 0) (.k (2 ^ 40))) (.an (.le (.n (.k (2 ^ 40))) (.v 1)) (.le (.v 1) (.k (2 ^ 40)))))) (.le (.n (.k (2 ^ 62))) (.v 0))) [_,_] []) (by assumption)) (by exact (Z.q (.im (.an (.le (.n (.k (2 ^ 40))) (.v 0)) (.an (.le (.v 0) (.k (2 ^ 40))) (.an (.le (.n (.k (2 ^ 40))) (.v 1)) (.le (.v 1) (.k (2 ^ 40)))))) (.lt (.v 0) (.k (2 ^ 62)))) [_,_] []) (by assumption)) (by exact (Z.q (.im (.an (.le (.n (.k (2 ^ 40))) (.v 0)) (.an (.le (.v 0) (.k (2 ^ 40))) (.an (.le (.n (.k (2 ^ 40))) (.v 1)) (.le (.v 1) (.k (2 ^ 40)))))) (.le (.n (.k (2 ^ 62))) (.v 1))) [_,_] []) (by assumption)) (by exact (Z.q (.im (.an (.le (.n (.k (2 ^ 40))) (.v 0)) (.an (.le (.v 0) (.k (2 ^ 40))) (.an (.le (.n (.k (2 ^ 40))) (.v 1)) (.le (.v 1) (.k (2 ^ 40)))))) (.lt (.v 1) (.k (2 ^ 62)))) [_,_] []) (by assumption))) ..)
    · cases hr
  · split at hr
    · rename_i hc
      cases hr
      obtain ⟨rfl, hc⟩ := hc
      cases r with | cons r1 r2 => cases r1; cases r2 with | cons r2 r3 => cases r2; cases r3 with | cons r3 r4 => cases r3; cases r4; exact aG fun A _ => call_range_3 (by decide) (h (mw (by exact (Z.q (.im (.le (.k (-100000)) (.v 0)) (.le (.k (-100000)) (.v 0))) [_] []) hc.1) (by exact (Z.q (.im (.le (.v 0) (.k 100000)) (.le (.v 0) (.k 100000))) [_] []) hc.2.1) (by exact (Z.q (.im (.le (.k (-100000)) (.v 0)) (.le (.k (-100000)) (.v 0))) [_] []) hc.2.2.1) (by exact (Z.q (.im (.le (.v 0) (.k 100000)) (.le (.v 0) (.k 100000))) [_] []) hc.2.2.2)) ..) (.inl (PyProof.noPylong_small (by decide)))
    · cases hr
  · cases hr
theorem bQ {t : Expr} {es : List Expr} {body : List Stmt} {p1 p2 pos : Pos} {b : Bd} {fs : EsF} {g : SF} (h : DenEs cx sc n es fs) (ht : TgtOk cx sc n t b) (hb : DenS cx sc n body g)
    (hg : nsIn cx.K mainGlobals (Str.ofString "range") = some none) (hl : sc.names.lookup (Str.ofString "range") = some .globalImplicit) :
    DenS1 cx sc n (.For t (.Call (.Name (Str.ofString "range") p1) es [] p2) body [] pos) (sForR b fs g) := by
  intro env L ρ σ loc s fl loc' σ' eo S lo hf
  unfold sForR at hf
  first | have hf := m2v hf | have hf := mrf hf | have hf := m2l hf | have hf := m2b hf | have hf := mit hf | have hf := mbl hf | have hf := m2o hf | have hf := mis hf
  obtain ⟨vs, σ1, e1, hf⟩ := hf
  first | have hf := m3i hf
  obtain ⟨x, y, c, e2, hf⟩ := hf
  rw [PySem.exec_For, arm_eval_Call_Name']
  refine a9 (aH (a9 (a9 (iT (v := .type "range") eo S hg rfl (by decide) hl (by decide) ?_))))
  refine bx rfl (h.1 _ _) (aE (h.2 env L ρ σ loc s _ _ p2 eo S lo e1) fun rvs s₁ h₁ => ?_)
  obtain ⟨ρ₁, S₁, P₁, r₁⟩ := h₁
  refine k0 S₁ r₁ e2 fun small t u v tk => ?_
  rw [show ∀ env x, foldedSetIterable (.Call (.Name (Str.ofString "range") p1) es [] p2) env x = pure x from fun _ _ => rfl]
  have kk : ∀ b o, s₁.heap.get? b = some o → (s₁.heap.push { cls := .type "range", data := .fields #[.int x t, .int y u, .int c v] }).get? b = some o := fun b o e => Heap.get?_push_of_some _ e
  have S₂ := S₁.kept tk kk
  have P₂ : Post ρ ρ₁ (fun _ => False) s.heap ({ s₁ with heap := s₁.heap.push { cls := .type "range", data := .fields #[.int x t, .int y u, .int c v] }, toks := tk } : Shared).heap := P₁.trans (Post.of_keep ρ₁ _ kk)
  have l₂ : LOk cx ρ₁ loc L ({ s₁ with heap := s₁.heap.push { cls := .type "range", data := .fields #[.int x t, .int y u, .int c v] }, toks := tk } : Shared).heap := lo.post P₂
  refine a9 (aF (a9 (aH (a9 (aI (aG fun A ao => wpAny_pyIter_range (IsRange.new ..) small ?_))))))
  have fp := gC S₂ l₂
  generalize hs₂ : ({ s₁ with heap := s₁.heap.push { cls := .type "range", data := .fields #[.int x t, .int y u, .int c v] }, toks := tk } : Shared) = s₂ at S₂ P₂ l₂ fp
  have kk₂ : ∀ b o, s₂.heap.get? b = some o → (s₂.heap.push { cls := .type "range_iterator", data := .fields #[rawInt x, rawInt (Builtin.Range.rangeSize x y c), rawInt c] }).get? b = some o := fun b o e => Heap.get?_push_of_some _ e
  have hI0 : s.heap.get? s₂.heap.objs.size = .none := by
    cases q : s.heap.get? s₂.heap.objs.size with
    | none => rfl
    | some o => obtain ⟨o', e'⟩ := P₂.live _ _ q; exact absurd (Heap.lt_size e') (Nat.lt_irrefl _)
  refine gz (lg ht hb eo hI0 fp.2.1 fp.2.2 (fun σ => True) (fun r o => ∃ x left step, o = { cls := .type "range_iterator", dict := none, data := .fields #[rawInt x, rawInt left, rawInt step], slots := #[] } ∧ r = rItems x left step) (fun ρ => True)
    (fun ρ t e => trivial) (fun r o q => by obtain ⟨_, _, _, rfl, _⟩ := q; exact .inr rfl) ?_ ?_ (rItems x (Builtin.Range.rangeSize x y c) c) ρ₁ σ1 loc _ _ (S₂.kept s₂.toks kk₂) (l₂.post (Post.of_keep _ _ kk₂)) ((P₂.toL).trans (Post.of_keep _ _ kk₂)) trivial (Heap.get?_push_size _ rfl) ⟨_, _, _, rfl, rfl⟩ fp.1 hf)
  · intro z rest σ₃ ρ₃ s₃ o S₃ px hc ho hit
    obtain ⟨x, left, step, rfl, hr⟩ := hit
    obtain ⟨hl, rfl, hr'⟩ := ip hr
    refine aG fun A ao => wpAny_pyNext_range_item ho hl fun h' hit' sb => ?_
    exact ⟨_, h', s₃.toks + 1, _, rfl, rfl, sb.extBut, .int _ _, hit', _, _, _, rfl, hr'⟩
  · intro σ₃ ρ₃ s₃ o S₃ px hc ho hit
    obtain ⟨x, left, step, rfl, hr⟩ := hit
    have hl : left ≤ 0 := by
      have := congrArg List.length hr
      unfold rItems at this
      rw [List.length_nil, List.length_map, List.length_range] at this
      exact (Z.q (.im (.neq (.k 0) (.v 0)) (.im (.or (.an (.eq (.c (.v 0)) (.v 0)) (.le (.k 0) (.v 0))) (.an (.eq (.c (.v 0)) (.k 0)) (.le (.v 0) (.k 0)))) (.le (.v 0) (.k 0)))) [_] [_]) this (Z.tn _)
    exact aG fun A ao => wpAny_pyNext_range_end ao.handled ho hl fun h' eb => ⟨rfl, h', s₃.toks, rfl, eb⟩
end Mine

end
section
open PySem PySem.W PySem.Calls PyProof.Rows
open Sem (wp)
namespace Mine
namespace FA
theorem i6 : Manifest.owners.lookup (String.ofList ['y', 'a', 'r', 'r', 'a', 'e', 't', 'y', 'b'].reverse) = some Manifest.sig_bytearray := by kernel_rfl
theorem slot_len : Slot "bytearray" "__len__" "bytearray.__len__" :=
  .of (owner := "bytearray") (n := "__len__") (by rw [typeLookup_type, builtinLookup_eq_fast]; kernel_rfl) (by decide +kernel) (by decide +kernel) (by decide +kernel)
    (by first | exact .inl (by decide +kernel) | exact .inr (by decide +kernel)) (by rw [isSubtype_type]; kernel_rfl)
theorem entry_len : entryFor table "bytearray.__len__" = some Builtin.«bytearray.__len__» := entryFor_of_tree (by kernel_rfl)
theorem args_len (a : Value) : argsOk "bytearray.__len__" ⟨[a], []⟩ := by
  unfold argsOk; rw [signature?_of (id := "bytearray.__len__") (n := ['_', '_', 'n', 'e', 'l', '_', '_']) (o := ['y', 'a', 'r', 'r', 'a', 'e', 't', 'y', 'b']) (by kernel_rfl) i6]; kernel_rfl
theorem slot_getitem : Slot "bytearray" "__getitem__" "bytearray.__getitem__" :=
  .of (owner := "bytearray") (n := "__getitem__") (by rw [typeLookup_type, builtinLookup_eq_fast]; kernel_rfl) (by decide +kernel) (by decide +kernel) (by decide +kernel)
    (by first | exact .inl (by decide +kernel) | exact .inr (by decide +kernel)) (by rw [isSubtype_type]; kernel_rfl)
theorem entry_getitem : entryFor table "bytearray.__getitem__" = some Builtin.«bytearray.__getitem__» := entryFor_of_tree (by kernel_rfl)
theorem args_getitem (a b : Value) : argsOk "bytearray.__getitem__" ⟨[a, b], []⟩ := by
  unfold argsOk; rw [signature?_of (id := "bytearray.__getitem__") (n := ['_', '_', 'm', 'e', 't', 'i', 't', 'e', 'g', '_', '_']) (o := ['y', 'a', 'r', 'r', 'a', 'e', 't', 'y', 'b']) (by kernel_rfl) i6]; kernel_rfl
theorem slot_setitem : Slot "bytearray" "__setitem__" "bytearray.__setitem__" :=
  .of (owner := "bytearray") (n := "__setitem__") (by rw [typeLookup_type, builtinLookup_eq_fast]; kernel_rfl) (by decide +kernel) (by decide +kernel) (by decide +kernel)
    (by first | exact .inl (by decide +kernel) | exact .inr (by decide +kernel)) (by rw [isSubtype_type]; kernel_rfl)
theorem entry_setitem : entryFor table "bytearray.__setitem__" = some Builtin.«bytearray.__setitem__» := entryFor_of_tree (by kernel_rfl)
theorem args_setitem (a b c : Value) : argsOk "bytearray.__setitem__" ⟨[a, b, c], []⟩ := by
  unfold argsOk; rw [signature?_of (id := "bytearray.__setitem__") (n := ['_', '_', 'm', 'e', 't', 'i', 't', 'e', 's', '_', '_']) (o := ['y', 'a', 'r', 'r', 'a', 'e', 't', 'y', 'b']) (by kernel_rfl) i6]; kernel_rfl
theorem slot_init : Slot "bytearray" "__init__" "bytearray.__init__" :=
  .of (owner := "bytearray") (n := "__init__") (by rw [typeLookup_type, builtinLookup_eq_fast]; kernel_rfl) (by decide +kernel) (by decide +kernel) (by decide +kernel)
    (by first | exact .inl (by decide +kernel) | exact .inr (by decide +kernel)) (by rw [isSubtype_type]; kernel_rfl)
theorem entry_init : entryFor table "bytearray.__init__" = some Builtin.«bytearray.__init__» := entryFor_of_tree (by kernel_rfl)
theorem args_init (a b : Value) : argsOk "bytearray.__init__" ⟨[a, b], []⟩ := by
  unfold argsOk; rw [signature?_of (id := "bytearray.__init__") (n := ['_', '_', 't', 'i', 'n', 'i', '_', '_']) (o := ['y', 'a', 'r', 'r', 'a', 'e', 't', 'y', 'b']) (by kernel_rfl) i6]; kernel_rfl
theorem mro : mroOf (.type "bytearray") = pure [.type "bytearray", .type "object"] := by rw [mroOf_type]; kernel_rfl
theorem mC : typeLookup (.type "bytearray") "__new__" = pure (some (.builtin "bytearray.__new__")) := by rw [typeLookup_type, builtinLookup_eq_fast]; kernel_rfl
theorem called : TypeCalled "bytearray" "bytearray.__new__" "bytearray.__init__" :=
  ⟨by decide +kernel, by decide +kernel, ⟨_, _, mro⟩, madeBy_type mro mC (by decide +kernel), by decide +kernel, by rw [isSubtype_type]; kernel_rfl, slot_init⟩
theorem typeCall (a : Value) : checkTypeCall "bytearray" ⟨[a], []⟩ = pure () := by kernel_rfl
theorem newCall (a : Value) : checkBuiltinCall "bytearray.__new__" ⟨[.type "bytearray", a], []⟩ = pure () := by kernel_rfl
theorem entry_new : entryFor table "bytearray.__new__" = some Builtin.«list.__new__» := entryFor_alias (id' := "list.__new__") (by rw [fastTable_eq_tree]; kernel_rfl) (by decide +kernel) (by decide +kernel) (by rw [fastTable_eq_tree]; kernel_rfl)
theorem plain_new : plainId "bytearray.__new__" = true := by decide +kernel
theorem sub_self : isSubtype (.type "bytearray") (.type "bytearray") = pure true := by rw [isSubtype_type]; kernel_rfl
theorem noIndex : typeLookup (.type "bytearray") "__index__" = pure none := by rw [typeLookup_type, builtinLookup_eq_fast]; kernel_rfl
theorem noBytes : typeLookup (.type "bytearray") "__bytes__" = pure none := by rw [typeLookup_type, builtinLookup_eq_fast]; kernel_rfl
theorem buffer : typeLookup (.type "bytearray") "__buffer__" = pure (some (.builtin "bytearray.__buffer__")) := by rw [typeLookup_type, builtinLookup_eq_fast]; kernel_rfl
theorem relbuf : typeLookup (.type "bytearray") "__release_buffer__" = pure (some (.builtin "bytearray.__release_buffer__")) := by rw [typeLookup_type, builtinLookup_eq_fast]; kernel_rfl
theorem b_buffer : typeLookup (.type "bytes") "__buffer__" = pure (some (.builtin "bytes.__buffer__")) := by rw [typeLookup_type, builtinLookup_eq_fast]; kernel_rfl
theorem b_relbuf : typeLookup (.type "bytes") "__release_buffer__" = pure none := by rw [typeLookup_type, builtinLookup_eq_fast]; kernel_rfl
theorem b_no_index : typeLookup (.type "bytes") "__index__" = pure none := by rw [typeLookup_type, builtinLookup_eq_fast]; kernel_rfl
theorem b_no_int : typeLookup (.type "bytes") "__int__" = pure none := by rw [typeLookup_type, builtinLookup_eq_fast]; kernel_rfl
theorem b_no_float : typeLookup (.type "bytes") "__float__" = pure none := by rw [typeLookup_type, builtinLookup_eq_fast]; kernel_rfl
theorem b_not_complex : isSubtype (.type "bytes") (.type "complex") = pure false := by rw [isSubtype_type]; kernel_rfl
theorem b_not_ba : isSubtype (.type "bytes") (.type "bytearray") = pure false := by rw [isSubtype_type]; kernel_rfl
theorem bind_init (v : Value) : Builtin.Bytes.bindOptional "bytearray.__init__" "bytearray" ["source", "encoding", "errors"] [v] [] = pure [some v, none, none] := by kernel_rfl
theorem rb_ends : "bytearray.__release_buffer__".endsWith ("." ++ "__release_buffer__") = true := by decide +kernel
theorem rb_cut : "bytearray.__release_buffer__".dropRight ("__release_buffer__".length + 1) = "bytearray" := by decide +kernel
theorem bu_ends : "bytearray.__buffer__".endsWith ("." ++ "__buffer__") = true := by decide +kernel
theorem bu_cut : "bytearray.__buffer__".dropRight ("__buffer__".length + 1) = "bytearray" := by decide +kernel
theorem bub_ends : "bytes.__buffer__".endsWith ("." ++ "__buffer__") = true := by decide +kernel
theorem bub_cut : "bytes.__buffer__".dropRight ("__buffer__".length + 1) = "bytes" := by decide +kernel
theorem b_sub : isSubtype (.type "bytes") (.type "bytes") = pure true := by rw [isSubtype_type]; kernel_rfl
end FA
set_option maxHeartbeats 4000000 in
theorem kU : ("bytearray.__new__".splitOn ".__new__").headD "" = "bytearray" := by simp +decide [String.splitOn, String.splitOnAux]
end Mine

end
section
open PySem PySem.W PySem.Calls PyProof.Rows
open Sem (wp)
namespace Mine
open PySem.Builtin
theorem fj {M : Model} {n : Nat} {s : Shared} {T : String} {name : Str} {id : String} {self : Value} {args : List Value} {Q : Option Value → Shared → Prop} (hT : s.TypeIs self T) (slot : Slot T name id)
    (h : wpN M n (call (.builtin id) (self :: args)) (fun v s' => Q (some v) s') s) : wpN M n (callSpecial? self name args) Q s := by
  unfold callSpecial?
  refine a9 (aG fun A _ => wpAny_specialOf hT slot.lookup ?_)
  refine aI ?_
  rw [slot.bind]
  refine a9 (aF ?_)
  exact a9 (aE h fun v s' h' => aF h')
theorem iq {M : Model} {n : Nat} {s : Shared} {T id : String} {o i v : Value} {Q : Unit → Shared → Prop} (hT : s.TypeIs o T) (hn : seqItemTypes.contains T = false) (slot : Slot T "__setitem__" id)
    (h : wpN M n (call (.builtin id) [o, i, v]) (fun _ s' => Q () s') s) : wpN M n (setItem o i v) Q s := by
  unfold setItem
  refine aI (a9 (aG fun A _ => wpAny_sequenceKey hT hn ?_))
  exact a9 (fj (name := Str.ofString "__setitem__") hT slot (aE h fun v s' h' => aF h'))
section
variable {prog : Program} {w : World} {A : Around} {E : Value → Shared → Prop} {s : Shared} {a : Addr} {b : List UInt8}
theorem bH (hb : s.heap.get? a = some (baO b)) : s.TypeIs (.ref a) "bytearray" := ⟨_, hb, rfl⟩
theorem cb {Q : Array UInt8 → Shared → Prop} (hb : s.heap.get? a = some (baO b)) (h : Q b.toArray s) : wpAny (model prog w) A (Bytes.payload (.ref a)) Q E s := by
  unfold Bytes.payload Bytes.payload?
  refine wpAny_bind (wpAny_bind (wpAny_load hb ?_))
  exact wpAny_pure (wpAny_pure h)
theorem fB {f : Array UInt8 → Array UInt8} {c : List UInt8} {Q : Unit → Shared → Prop} (hb : s.heap.get? a = some (baO b)) (hf : f b.toArray = c.toArray) (hz : c.length ≤ sizeLine)
    (h : ∀ h', h'.get? a = some (baO c) → (∀ x, x ≠ a → h'.get? x = s.heap.get? x) → Q () { s with heap := h' }) : wpAny (model prog w) A (Bytes.write (.ref a) f) Q E s := by
  show wpAny _ _ (updateBytearray a f) _ _ _
  unfold updateBytearray
  refine wpAny_bind (wpAny_load hb ?_)
  show wpAny _ _ (update a (Obj.mapBytearray f) >>= fun _ => lookBehind a) _ _ _
  refine wpAny_bind (wpAny_update hb ?_)
  have h2 : (s.heap.update a (Obj.mapBytearray f)).get? a = some (baO c) := by
    rw [Heap.get?_update_self (Obj.mapBytearray f) hb rfl]
    unfold baO
    rw [← hf]; rfl
  refine wpAny_lookBehind h2 ?_ (h _ h2 fun x hx => Heap.get?_update_other _ _ (Ne.symm hx))
  show (if c.toArray.size > sizeLine then some "bytearray:memory" else none) = none
  rw [if_neg]; rw [List.size_toArray]; (first|lia|omega)
theorem gi {i : Int} {u : Tok} {Q : Option Int → Shared → Prop} (hr : Bytes.fitsIndex i = true) (h : Q (some i) s) : wpAny (model prog w) A (Bytes.subscript? (.int i u)) Q E s := by
  unfold Bytes.subscript?
  refine wpAny_bind (wpAny_specialOf (typeIs_int s i u) F.slot_int_index.lookup ?_)
  show wpAny _ A (if (!Bytes.fitsIndex i) = true then _ else pure (some i)) _ E s
  rw [hr]
  exact wpAny_pure h
theorem qt {Q : Value → Shared → Prop} (hb : s.heap.get? a = some (baO b)) (hz : b.length ≤ 1099511627776) (h : Q (.int b.length (s.toks + 1)) { s with toks := s.toks + 1 + 1 }) : wpAny (model prog w) A (call (.builtin "len") [.ref a]) Q E s := by
  refine call_len_meets (S := fun _ R s => s.heap.get? a = some (baO b) ∧ R (.ok (.ret (.int b.length s.toks))) { s with toks := s.toks + 1 }) (bH hb) FA.slot_len FA.entry_len (FA.args_len _) ?_ (by (first|lia|omega)) (by (first|lia|omega)) (fun Q' h' => ⟨hb, h'⟩) h
  refine .of_wp fun prog w A R s hS => ?_
  show wpAny _ _ (Bytes.payload (.ref a) >>= fun r => _) _ _ s
  refine wpAny_bind (cb hS.1 ?_)
  exact wpAny_bind (wpAny_mkInt (wpAny_pure ⟨_, rfl, by simpa using hS.2⟩))
theorem seqI {i : Int} {n : Nat} (h0 : 0 ≤ i) (h1 : i < n) : seqIndex? i n = some i.toNat := by
  have hn : ¬ i < 0 := by (first|lia|omega)
  simp [seqIndex?, hn, h0, h1]
theorem qk {i : Int} {u : Tok} {Q : Value → Shared → Prop} (hb : s.heap.get? a = some (baO b)) (hz : b.length ≤ 1099511627776) (h0 : 0 ≤ i) (h1 : i < b.length)
    (h : Q (.int (b.getD i.toNat 0).toNat s.toks) { s with toks := s.toks + 1 }) : wpAny (model prog w) A (getItem (.ref a) (.int i u)) Q E s := by
  refine getItem_meets (S := fun _ R s => s.heap.get? a = some (baO b) ∧ R (.ok (.ret (.int (b.getD i.toNat 0).toNat s.toks))) { s with toks := s.toks + 1 }) (bH hb) (by decide) FA.slot_getitem FA.entry_getitem (FA.args_getitem _ _) ?_ ⟨hb, h⟩
  refine .of_wp fun prog w A R s hS => ?_
  show wpAny _ _ (Bytes.subscript? (.int i u) >>= fun r => _) _ _ s
  refine wpAny_bind (gi (by simp only [Bytes.fitsIndex, Bool.and_eq_true, decide_eq_true_eq]; (first|lia|omega)) ?_)
  show wpAny _ _ (Bytes.payload (.ref a) >>= fun r => _) _ _ s
  refine wpAny_bind (cb hS.1 ?_)
  rw [List.size_toArray, seqI h0 h1]
  have hl : i.toNat < b.length := by (first|lia|omega)
  show wpAny _ _ (match b.toArray[i.toNat]? with | some x => retInt x.toNat | none => _) _ _ s
  rw [List.getElem?_toArray, List.getElem?_eq_getElem hl]
  have e : b.getD i.toNat 0 = b[i.toNat] := by simp [hl]
  rw [e] at hS
  exact wpAny_bind (wpAny_mkInt (wpAny_pure ⟨_, rfl, hS.2⟩))
theorem qS {n : Nat} {i x : Int} {u t : Tok} {Q : Unit → Shared → Prop} (hb : s.heap.get? a = some (baO b)) (hz : b.length ≤ sizeLine) (h0 : 0 ≤ i) (h1 : i < b.length) (hx0 : 0 ≤ x) (hx1 : x < 256)
    (h : ∀ h', h'.get? a = some (baO (b.set i.toNat x.toNat.toUInt8)) → (∀ x, x ≠ a → h'.get? x = s.heap.get? x) → Q () { s with heap := h' }) : wpN (model prog w) n (setItem (.ref a) (.int i u) (.int x t)) Q s := by
  have hz' : b.length ≤ 16777216 := by rw [sizeLine_eq] at hz; exact hz
  refine iq (bH hb) (by decide) FA.slot_setitem (aG fun A _ => call_meets (S := fun _ R s => s.heap.get? a = some (baO b) ∧ ∀ h', h'.get? a = some (baO (b.set i.toNat x.toNat.toUInt8)) → (∀ x, x ≠ a → h'.get? x = s.heap.get? x) → R (.ok (.ret .none)) { s with heap := h' }) FA.slot_setitem (bH hb) FA.entry_setitem (FA.args_setitem _ _ _) ?_ ⟨hb, h⟩)
  refine .of_wp fun prog w A R s hS => ?_
  show wpAny _ _ (Bytes.subscript? (.int i u) >>= fun r => _) _ _ s
  refine wpAny_bind (gi (by simp only [Bytes.fitsIndex, Bool.and_eq_true, decide_eq_true_eq]; (first|lia|omega)) ?_)
  refine wpAny_bind ?_
  unfold Bytes.byteValue
  refine wpAny_bind (wpAny_of_eq (rfl : asIndex (.int x t) = pure x) ?_)
  refine bm_if_false (by simp only [Bool.or_eq_false_iff, decide_eq_false_iff_not]; (first|lia|omega)) ?_
  refine wpAny_pure ?_
  refine wpAny_bind (cb hS.1 ?_)
  rw [List.size_toArray, seqI h0 h1]
  refine wpAny_bind (fB hS.1 (c := b.set i.toNat x.toNat.toUInt8) (by simp) (by simpa using hz) fun h' e1 e2 => ?_)
  exact wpAny_pure ⟨_, rfl, hS.2 h' e1 e2⟩
end
end Mine

end
section
open PySem PySem.W PySem.Calls PyProof.Rows
open Sem (wp)
namespace Mine
open PySem.Builtin
noncomputable def bcut (lo hi : Option Int) (b : List UInt8) : List UInt8 := (b.drop (lo.elim 0 (clipAt b.length))).take (hi.elim b.length (clipAt b.length) - lo.elim 0 (clipAt b.length))
theorem pV (lo hi : Option Int) (b : List UInt8) : (bcut lo hi b).length ≤ b.length := by unfold bcut; rw [List.length_take, List.length_drop]; exact Nat.le_trans (Nat.min_le_right ..) (Nat.sub_le ..)
theorem lP (b : List UInt8) (lo hi : Option Int) : KBy.picked b.toArray lo hi = (bcut lo hi b).toArray := by rw [KBc.picked_eq]; unfold bcut; simp
section
variable {prog : Program} {w : World} {A : Around} {E : Value → Shared → Prop} {s : Shared} {a : Addr} {b : List UInt8}
open KBy in
theorem iL {sl : Addr} {l u : Value} {lo hi : Option Int} {Q : Value × Value × Value → Shared → Prop} (hl : IsPart l lo) (hu : IsPart u hi) (hs : s.heap.IsSliceOf sl l u .none) (h : Q (rawPart lo, rawPart hi, rawPart none) s) :
    wpAny (model prog w) A (Bytes.sliceParts (.ref sl)) Q E s := by
  obtain ⟨o, ho, hc, hd⟩ := hs
  unfold Bytes.sliceParts
  refine wpAny_bind (wpAny_field (x := .none) ho hd rfl ?_)
  kby_none
  refine wpAny_ite (ite_no (show ¬ ((Value.none == rawInt 0) = true) from Bool.false_ne_true) ?_)
  refine wpAny_bind (wpAny_field (x := l) ho hd rfl ?_)
  cases hl <;> cases hu <;> (first
    | (kby_none; (refine wpAny_bind (wpAny_field (x := .none) ho hd rfl ?_)); kby_none)
    | (kby_none; (refine wpAny_bind (wpAny_field (x := .int _ _) ho hd rfl ?_)); kby_int)
    | (kby_int; (refine wpAny_bind (wpAny_field (x := .none) ho hd rfl ?_)); kby_none)
    | (kby_int; (refine wpAny_bind (wpAny_field (x := .int _ _) ho hd rfl ?_)); kby_int)) <;> refine wpAny_pure ?_
  all_goals exact h
theorem fk {sl : Addr} {Q : Option Int → Shared → Prop} (hT : s.TypeIs (.ref sl) "slice") (h : Q none s) : wpAny (model prog w) A (Bytes.subscript? (.ref sl)) Q E s := by
  unfold Bytes.subscript?
  exact wpAny_bind (wpAny_specialOf hT slice_no_index (wpAny_pure h))
theorem pp {sl : Addr} {l u : Value} {lo hi : Option Int} {Q : Value → Shared → Prop} (hb : s.heap.get? a = some (baO b)) (hz : b.length ≤ sizeLine) (hl : IsPart l lo) (hu : IsPart u hi) (hs : s.heap.IsSliceOf sl l u .none)
    (h : Q (.ref s.heap.objs.size) { s with heap := s.heap.push (baO (bcut lo hi b)) }) : wpAny (model prog w) A (getItem (.ref a) (.ref sl)) Q E s := by
  refine getItem_meets (S := fun _ R s => s.heap.get? a = some (baO b) ∧ s.heap.IsSliceOf sl l u .none ∧ R (.ok (.ret (.ref s.heap.objs.size))) { s with heap := s.heap.push (baO (bcut lo hi b)) }) (bH hb) (by decide) FA.slot_getitem FA.entry_getitem (FA.args_getitem _ _) ?_ ⟨hb, hs, h⟩
  refine .of_wp fun prog w A R s hS => ?_
  obtain ⟨hb, hs, h⟩ := hS
  have hT : s.TypeIs (.ref sl) "slice" := let ⟨o, ho, hc, _⟩ := hs; ⟨o, ho, hc⟩
  show wpAny _ _ (Bytes.subscript? (.ref sl) >>= fun r => _) _ _ s
  refine wpAny_bind (fk hT ?_)
  refine wpAny_bind (wpAny_typeOf hT ?_)
  refine wpAny_bind (iL hl hu hs ?_)
  refine wpAny_bind (cb hb ?_)
  refine wpAny_bind (wpAny_of_eq (sliceIndices_raw lo hi none b.toArray.size (fun e => nomatch e)) ?_)
  show wpAny _ _ (Bytes.newBytearray (KBy.picked b.toArray lo hi) >>= fun v => ret v) _ _ s
  rw [lP]
  unfold Bytes.newBytearray
  refine wpAny_bind (wpAny_newObj_type (wpAny_pure ⟨_, rfl, h⟩) ?_)
  show (bcut lo hi b).toArray.size ≤ sizeLine
  rw [List.size_toArray]
  exact Nat.le_trans (pV ..) hz
end

theorem gj {n : Nat} {s : Shared} {prog : Program} {w : World} {id : String} {args : Args} {b : Builtin} {R : Result → Shared → Prop} (hb : entryFor table id = some b)
    (hd : decOk (.builtin id args) = true) (hw : (Code.builtin id args).weight ≤ 2) (hu : (Code.builtin id args).cUnits ≤ 10)
    (h : wpN (model prog w) n (b args) (fun fin s' => match fin with | .done f => R (.ok f) s' | .again c' => c'.quiet = true ∧ codeN (model prog w) (n + 1) c' R s') s) : codeN (model prog w) (n + 1) (.builtin id args) R s := by
  refine bf (n := n) hw hu hd ?_
  show wpN (model prog w) n (match entryFor table id with | some b => b args | none => unsupported ((withoutEnding? id "#data").getD id)) _ s
  rw [hb]; exact h
theorem jq {n : Nat} {s : Shared} {prog : Program} {w : World} {id : String} {args : List Value} {b : Builtin} {Q : Value → Shared → Prop} (hq : plainId id = true) (hb : entryFor table id = some b)
    (hd : decOk (.builtin id ⟨args, []⟩) = true) (hw : (Code.builtin id ⟨args, []⟩).weight ≤ 2) (hu : (Code.builtin id ⟨args, []⟩).cUnits ≤ 10)
    (hc : ∀ (A : Around) (Q : Unit → Shared → Prop), Q () s → wpAny (model prog w) A (checkBuiltinCall id ⟨args, []⟩) Q NoE s)
    (h : wpN (model prog w) n (b ⟨args, []⟩) (fun fin s' => ∃ v, fin = .done (.ret v) ∧ Q v s') s) : wpN (model prog w) (n + 1) (call (.builtin id) args) Q s := by
  refine cy (bf (n := n) (show (0:Nat) ≤ 2 by decide) (show (1:Nat) ≤ 10 by decide) rfl ?_)
  show wpN (model prog w) n (do checkBuiltinCall id ⟨args, []⟩; again (.builtin id ⟨args, []⟩)) _ s
  refine a9 (aG fun A _ => hc A _ (aF ⟨plainId_quiet hq _, bf (n := n) hw hu hd ?_⟩))
  show wpN (model prog w) n (match entryFor table id with | some b => b ⟨args, []⟩ | none => unsupported ((withoutEnding? id "#data").getD id)) _ s
  rw [hb]
  refine aE h fun fin s' h' => ?_
  obtain ⟨v, rfl, hv⟩ := h'
  exact ⟨v, rfl, hv⟩
theorem nJ {M : Model} {n : Nat} {s : Shared} {Q : List (Code × Pos) → Shared → Prop} (h : ∀ st, (∀ x ∈ st, decOk x.1 = true) → Q st s) : wpN M n stack Q s := .mk fun Γ p g => by
  unfold stack
  rw [Sem.wp_stack]
  refine h _ fun x hx => ?_
  rcases List.mem_cons.mp hx with rfl | hx
  · exact g.own
  · exact g.dec x hx
theorem h7 {M : Model} {n : Nat} {s : Shared} {self : Value} {Q : Bool → Shared → Prop} (h : Q false s) : wpN M n (Bytes.exported self) Q s := by
  unfold Bytes.exported
  refine a9 (nJ fun st hst => aF ?_)
  refine (congrArg (fun b => Q b s) (?_ : _ = false)).mpr h
  rw [List.any_eq_false]
  rintro ⟨c, env⟩ hx
  have hd := hst _ hx
  dsimp only at hd
  cases c with
  | builtin id args =>
    simp only [decOk, Bool.and_eq_true, Bool.not_eq_true'] at hd
    obtain ⟨h1, h2⟩ := hd
    have n : ∀ y ∈ (["bytearray.__contains__", "bytearray.__mod__", "bytearray.__rmod__", "_struct.pack_into.held", "bytearray.find.held"] : List String), ¬ id = y := by
      rintro y hy rfl
      rw [List.contains_eq_mem, decide_eq_true hy] at h2
      cases h2
    have n1 := n _ (.head _)
    have n2 := n _ (.tail _ (.head _))
    have n3 := n _ (.tail _ (.tail _ (.head _)))
    have n4 := n _ (.tail _ (.tail _ (.tail _ (.head _))))
    have n5 := n _ (.tail _ (.tail _ (.tail _ (.tail _ (.head _)))))
    intro q
    unfold PySem.Builtin.Bytes.exported.match_1 at q
    dsimp only at q
    replace q := (dif_neg n1).symm.trans q
    replace q := (dif_neg n2).symm.trans q
    replace q := (dif_neg n3).symm.trans q
    replace q := (dif_neg n4).symm.trans q
    replace q := (dif_neg n5).symm.trans q
    obtain ⟨pos, kw⟩ := args
    cases pos with
    | nil => exact Bool.noConfusion (q : false = true)
    | cons v r =>
      have q : (Bytes.sameRef v self && Bytes.decodersThatHold.contains id) = true := q
      rw [h1, Bool.and_false] at q
      cases q
  | _ => exact Bool.false_ne_true
end Mine

end
section
open PySem PySem.W PySem.Calls PyProof.Rows
open Sem (wp)
namespace Mine
open PySem.Builtin
section
variable {prog : Program} {w : World} {n : Nat} {s : Shared} {a : Addr} {b : List UInt8}
section
variable {A : Around} {E : Value → Shared → Prop}
theorem em {Q : Bool → Shared → Prop} (hb : s.heap.get? a = some (baO b)) (h : Q false s) : wpAny (model prog w) A (Bytes.ownRelease (.ref a)) Q E s := by
  unfold Bytes.ownRelease Bytes.slotIsOwn
  refine wpAny_bind (wpAny_bind (wpAny_specialOf (name := Str.ofString "__release_buffer__") (bH hb) FA.relbuf ?_))
  show wpAny _ _ (if (!("bytearray.__release_buffer__".endsWith ("." ++ "__release_buffer__"))) = true then _ else _) _ _ _
  rw [FA.rb_ends]
  refine bm_if_false rfl ?_
  rw [FA.rb_cut]
  exact wpAny_isInstance (bH hb) FA.sub_self (wpAny_pure h)
theorem iY {c : Array UInt8} {t : Tok} {Q : Bool → Shared → Prop} (h : Q false s) : wpAny (model prog w) A (Bytes.ownRelease (.bytes c t)) Q E s := by
  unfold Bytes.ownRelease Bytes.slotIsOwn
  refine wpAny_bind (wpAny_bind (wpAny_specialOf (name := Str.ofString "__release_buffer__") (typeIs_bytes s c t) FA.b_relbuf ?_))
  exact wpAny_pure (wpAny_pure h)
theorem kC {id : String} {full : Bool} {c : Array UInt8} {t : Tok} {Q : Option (Array UInt8) → Shared → Prop} (h : Q (some c) s) : wpAny (model prog w) A (Bytes.buffer? id (.bytes c t) full) Q E s := by
  unfold Bytes.buffer?
  refine wpAny_bind (wpAny_specialOf (name := Str.ofString "__buffer__") (typeIs_bytes s c t) FA.b_buffer ?_)
  unfold Bytes.slotIsOwn
  refine wpAny_bind (wpAny_bind (wpAny_specialOf (name := Str.ofString "__buffer__") (typeIs_bytes s c t) FA.b_buffer ?_))
  show wpAny _ _ (if (!("bytes.__buffer__".endsWith ("." ++ "__buffer__"))) = true then _ else _) _ _ _
  rw [FA.bub_ends]
  refine bm_if_false rfl ?_
  rw [FA.bub_cut]
  refine wpAny_isInstance (typeIs_bytes s c t) FA.b_sub ?_
  refine bm_if_false rfl ?_
  refine wpAny_bind (wpAny_specialOf (name := Str.ofString "__buffer__") (typeIs_bytes s c t) FA.b_buffer ?_)
  refine wpAny_bind (iY ?_)
  refine bm_if_false rfl ?_
  exact wpAny_bind (wpAny_of_eq (a := c) rfl (wpAny_pure h))
theorem nD {id : String} {full : Bool} {Q : Option (Array UInt8) → Shared → Prop} (hb : s.heap.get? a = some (baO b)) (h : Q (some b.toArray) s) : wpAny (model prog w) A (Bytes.buffer? id (.ref a) full) Q E s := by
  unfold Bytes.buffer?
  refine wpAny_bind (wpAny_specialOf (name := Str.ofString "__buffer__") (bH hb) FA.buffer ?_)
  unfold Bytes.slotIsOwn
  refine wpAny_bind (wpAny_bind (wpAny_specialOf (name := Str.ofString "__buffer__") (bH hb) FA.buffer ?_))
  show wpAny _ _ (if (!("bytearray.__buffer__".endsWith ("." ++ "__buffer__"))) = true then _ else _) _ _ _
  rw [FA.bu_ends]
  refine bm_if_false rfl ?_
  rw [FA.bu_cut]
  refine wpAny_isInstance (bH hb) FA.sub_self ?_
  refine bm_if_false rfl ?_
  refine wpAny_bind (wpAny_specialOf (name := Str.ofString "__buffer__") (bH hb) FA.buffer ?_)
  refine wpAny_bind (em hb ?_)
  refine bm_if_false rfl ?_
  exact wpAny_bind (cb hb (wpAny_pure h))
end

theorem jf {c : List UInt8} {t : Tok} {Q : Value → Shared → Prop} (hb : s.heap.get? a = some (baO [])) (hz : c.length ≤ sizeLine)
    (h : ∀ h', h'.get? a = some (baO c) → (∀ x, x ≠ a → h'.get? x = s.heap.get? x) → Q .none { s with heap := h' }) :
    wpN (model prog w) n («bytearray.__init__» ⟨[.ref a, .bytes c.toArray t], []⟩) (fun fin s' => ∃ v, fin = .done (.ret v) ∧ Q v s') s := by
  unfold «bytearray.__init__»
  refine a9 (aG fun A _ => em hb ?_)
  refine ah rfl ?_
  refine a9 (bj (FA.bind_init _) ?_)
  refine a9 (bj (a := ()) rfl (a9 (bj (a := ()) rfl ?_)))
  refine a9 ?_
  show wpN _ _ (Bytes.exported (.ref a) >>= fun r => _) _ _
  refine a9 (h7 ?_)
  show wpN _ _ ((Bytes.exportsOf (.ref a)) >>= fun r => pure (decide (r > 0))) _ _
  refine a9 ?_
  unfold Bytes.exportsOf
  refine a9 (fx hb (aF (aF ?_)))
  refine ah rfl ?_
  refine a9 (aG fun A _ => fB hb (c := []) rfl (Nat.zero_le _) fun h1 e1 k1 => ?_)
  refine a9 (bj (a := none) rfl ?_)
  refine ah rfl ?_
  refine a9 (bj (a := ()) rfl ?_)
  refine a9 (aG fun A _ => wpAny_specialOf (typeIs_bytes _ _ _) FA.b_no_index ?_)
  refine ah rfl ?_
  refine a9 (aG fun A _ => kC ?_)
  refine a9 (dy (a9 (aG fun A _ => fB e1 (c := c) rfl hz fun h2 e2 k2 => ?_)))
  exact a9 (aF (aF ⟨_, rfl, h h2 e2 fun x hx => (k2 x hx).trans (k1 x hx)⟩))
theorem lX {i : Int} {t : Tok} {Q : Value → Shared → Prop} (hb : s.heap.get? a = some (baO [])) (h0 : 0 < i) (hz : i ≤ 100000)
    (h : ∀ h', h'.get? a = some (baO (List.replicate i.toNat 0)) → (∀ x, x ≠ a → h'.get? x = s.heap.get? x) → Q .none { s with heap := h' }) :
    wpN (model prog w) n («bytearray.__init__» ⟨[.ref a, .int i t], []⟩) (fun fin s' => ∃ v, fin = .done (.ret v) ∧ Q v s') s := by
  unfold «bytearray.__init__»
  refine a9 (aG fun A _ => em hb ?_)
  refine ah rfl ?_
  refine a9 (bj (FA.bind_init _) ?_)
  refine a9 (bj (a := ()) rfl (a9 (bj (a := ()) rfl ?_)))
  refine a9 ?_
  show wpN _ _ (Bytes.exported (.ref a) >>= fun r => _) _ _
  refine a9 (h7 ?_)
  show wpN _ _ ((Bytes.exportsOf (.ref a)) >>= fun r => pure (decide (r > 0))) _ _
  refine a9 ?_
  unfold Bytes.exportsOf
  refine a9 (fx hb (aF (aF ?_)))
  refine ah rfl ?_
  refine a9 (aG fun A _ => fB hb (c := []) rfl (Nat.zero_le _) fun h1 e1 k1 => ?_)
  refine a9 (bj (a := none) rfl ?_)
  refine ah rfl ?_
  refine a9 (bj (a := ()) rfl ?_)
  refine a9 (aG fun A _ => wpAny_specialOf (typeIs_int _ _ _) F.slot_int_index.lookup ?_)
  refine gF rfl ?_
  refine a9 (gB (bj (a := i) rfl ?_))
  have f1 : Bytes.fitsIndex i = true := by simp only [Bytes.fitsIndex, Bool.and_eq_true, decide_eq_true_eq]; (first|lia|omega)
  show wpN _ _ (if (!Bytes.fitsIndex i) = true then _ else _) _ _
  rw [f1]
  refine ah rfl ?_
  show wpN _ _ (if i < 0 then _ else _) _ _
  rw [if_neg (by (first|lia|omega))]
  show wpN _ _ (if (i == 2 ^ 63 - 1) = true then _ else _) _ _
  refine ah (by simp only [beq_eq_false_iff_ne]; (first|lia|omega)) ?_
  have f2 : Bytes.tooLong i.toNat = false := by simp only [Bytes.tooLong, decide_eq_false_iff_not, sizeLine_eq]; (first|lia|omega)
  show wpN _ _ (if (Bytes.tooLong i.toNat) = true then _ else _) _ _
  refine ah f2 ?_
  refine a9 (dy ?_)
  show wpN _ _ (if i > 0 then _ else _) _ _
  rw [if_pos (by (first|lia|omega))]
  refine a9 (aG fun A _ => fB e1 (c := List.replicate i.toNat 0) (by simp) (by rw [List.length_replicate, sizeLine_eq]; (first|lia|omega)) fun h2 e2 k2 => ?_)
  exact a9 (aF (aF ⟨_, rfl, h h2 e2 fun x hx => (k2 x hx).trans (k1 x hx)⟩))
end
end Mine

end
section
open PySem PySem.W PySem.Calls PyProof.Rows
open Sem (wp)
namespace Mine
open PySem.Builtin
section
variable {prog : Program} {w : World} {n : Nat} {s : Shared}
theorem l5 {A : Around} {E : Value → Shared → Prop} (a : Value) {Q₁ : Value → Shared → Prop}
    (h : Q₁ (.ref s.heap.objs.size) { s with heap := s.heap.push (baO []) }) :
    codeAny (model prog w) A (.call (.builtin "bytearray.__new__") ⟨[.type "bytearray", a], []⟩) (wants Q₁ E) s := by
  refine codeAny_of_tree ?_
  show wpAny _ A.in1 (do checkBuiltinCall "bytearray.__new__" ⟨[.type "bytearray", a], []⟩; again (.builtin "bytearray.__new__" ⟨[.type "bytearray", a], []⟩)) _ _ s
  refine wpAny_bind (wpAny_of_eq (FA.newCall a) (wpAny_pure ⟨plainId_quiet FA.plain_new _, codeAny_builtin_stack FA.entry_new rfl fun p st => ?_⟩))
  rw [Around.under_plainId FA.plain_new _]
  have hsub := FA.sub_self
  have hown := kU
  obtain ⟨hp, g, d, tk, os⟩ := s
  simp only [hown]
  wp_walk
  exact h
theorem hZ {v : Value} {Q : Value → Shared → Prop}
    (hi : wpN (model prog w) n («bytearray.__init__» ⟨[.ref s.heap.objs.size, v], []⟩) (fun fin s' => ∃ r, fin = .done (.ret r) ∧ (r = .none ∧ Q (.ref s.heap.objs.size) s')) { s with heap := s.heap.push (baO []) }) :
    wpN (model prog w) (n + 2) (call (.type "bytearray") [v]) Q s := by
  refine cy (bf (n := n + 1) (show (0:Nat) ≤ 2 by decide) (show (1:Nat) ≤ 10 by decide) rfl ?_)
  show wpN _ (n + 1) (callAny (.type "bytearray") _) _ _
  refine aF ⟨Code.quiet_builtin _ (by decide +kernel), gj (n := n + 1) F.entry_type_call rfl (show (0:Nat) ≤ 2 by decide) (show (1:Nat) ≤ 10 by decide) ?_⟩
  unfold «type.__call__»
  have h1 := FA.called.notType
  have h2 := FA.called.canCreate
  simp only [h1, Bool.false_eq_true, if_false]
  rw [if_neg (by rw [h2]; exact Bool.false_ne_true)]
  refine a9 (bj (FA.typeCall v) ?_)
  refine a9 (bj FA.mro ?_)
  refine ah rfl ?_
  refine a9 (bj FA.called.made ?_)
  refine a9 (aF ?_)
  refine a9 (aI (cy (js fun A ao => codeAny_mono (l5 (Q₁ := fun r s' => r = .ref s.heap.objs.size ∧ s' = { s with heap := s.heap.push (baO []) }) (E := NoE) v ⟨rfl, rfl⟩) fun r s₁ hr => ?_)))
  have hb : ({ s with heap := s.heap.push (baO []) } : Shared).heap.get? s.heap.objs.size = some (baO []) := Heap.get?_push_size _ rfl
  cases r with
  | error e => exact hr.elim
  | ok fl =>
    cases fl with
    | ret obj =>
      obtain ⟨rfl, rfl⟩ := hr
      refine ⟨_, rfl, ?_⟩
      refine a9 (aG fun A _ => wpAny_isInstance (bH hb) FA.sub_self ?_)
      refine ah rfl ?_
      refine a9 (aI (fj (name := Str.ofString "__init__") (bH hb) FA.slot_init (jq FA.slot_init.plain FA.entry_init rfl (show (0:Nat) ≤ 2 by decide) (show (1:Nat) ≤ 10 by decide)
        (fun A Q q => FA.slot_init.check _ _ _ _ _ _ _ _ (bH hb) (FA.args_init _ _) q) (aE hi fun fin s' h' => ?_))))
      obtain ⟨r, rfl, rfl, hq⟩ := h'
      refine ⟨_, rfl, ?_⟩
      refine ah rfl ?_
      exact aF ⟨_, rfl, hq⟩
    | _ => exact hr.elim
theorem gb {c : List UInt8} {t : Tok} {Q : Value → Shared → Prop} (hz : c.length ≤ sizeLine)
    (h : ∀ h', h'.get? s.heap.objs.size = some (baO c) → (∀ b o, s.heap.get? b = some o → h'.get? b = some o) → Q (.ref s.heap.objs.size) { s with heap := h' }) : wpN (model prog w) (n + 2) (call (.type "bytearray") [.bytes c.toArray t]) Q s :=
  hZ (aE (jf (Q := fun r s' => r = .none ∧ Q (.ref s.heap.objs.size) s') (Heap.get?_push_size _ rfl) hz fun h' e k => ⟨rfl, h h' e fun b o q => (k b (Nat.ne_of_lt (Heap.lt_size q))).trans (Heap.get?_push_of_some _ q)⟩) fun _ _ x => x)
theorem kz {i : Int} {t : Tok} {Q : Value → Shared → Prop} (h0 : 0 < i) (hz : i ≤ 100000)
    (h : ∀ h', h'.get? s.heap.objs.size = some (baO (List.replicate i.toNat 0)) → (∀ b o, s.heap.get? b = some o → h'.get? b = some o) → Q (.ref s.heap.objs.size) { s with heap := h' }) : wpN (model prog w) (n + 2) (call (.type "bytearray") [.int i t]) Q s :=
  hZ (aE (lX (Q := fun r s' => r = .none ∧ Q (.ref s.heap.objs.size) s') (Heap.get?_push_size _ rfl) h0 hz fun h' e k => ⟨rfl, h h' e fun b o q => (k b (Nat.ne_of_lt (Heap.lt_size q))).trans (Heap.get?_push_of_some _ q)⟩) fun _ _ x => x)

theorem kj {M : Model} {x y : Sem Bool} {Q : Bool → Shared → Prop} (h : wpN M n x (fun b s' => b = false ∧ wpN M n y Q s') s) : wpN M n (x <||> y) Q s := by
  show wpN M n (x >>= fun b => match (ToBool.toBool b) with | true => pure b | false => y) Q s
  exact a9 (aE h fun b s' h' => by rw [h'.1]; exact h'.2)

theorem qg {a : Addr} {b c : List UInt8} {t : Tok} {sl : Addr} {i j : Int} {l u : Value} {Q : Unit → Shared → Prop} (hb : s.heap.get? a = some (baO b)) (hz : b.length ≤ sizeLine) (hl : IsPart l (some i)) (hu : IsPart u (some j)) (hs : s.heap.IsSliceOf sl l u .none)
    (h0 : 0 ≤ i) (h1 : i ≤ j) (h2 : j ≤ b.length) (hc : (c.length : Int) = j - i)
    (h : ∀ h', h'.get? a = some (baO (b.take i.toNat ++ c ++ b.drop j.toNat)) → (∀ x o, x ≠ a → s.heap.get? x = some o → h'.get? x = some o) → Q () { s with heap := h' }) :
    wpN (model prog w) (n + 3) (setItem (.ref a) (.ref sl) (.bytes c.toArray t)) Q s := by
  refine iq (bH hb) (by decide) FA.slot_setitem (jq FA.slot_setitem.plain FA.entry_setitem rfl (show (0:Nat) ≤ 2 by decide) (show (1:Nat) ≤ 10 by decide)
        (fun A Q q => FA.slot_setitem.check _ _ _ _ _ _ _ _ (bH hb) (FA.args_setitem _ _ _) q) ?_)
  have hT : s.TypeIs (.ref sl) "slice" := let ⟨o, ho, hc, _⟩ := hs; ⟨o, ho, hc⟩
  have tb : ∀ s : Shared, s.TypeIs (.bytes c.toArray t) "bytes" := fun s => typeIs_bytes s _ _
  unfold «bytearray.__setitem__»
  refine ah rfl ?_
  refine a9 (aG fun A _ => fk hT ?_)
  refine a9 (aG fun A _ => wpAny_typeOf hT ?_)
  refine ah rfl ?_
  refine a9 (aG fun A _ => iL hl hu hs ?_)
  refine a9 (aG fun A _ => ?_)
  show wpAny _ _ (isInstance (.bytes c.toArray t) (.type "bytearray")) _ _ _
  refine wpAny_isInstance (tb _) FA.b_not_ba ?_
  refine gF rfl ?_
  refine a9 ?_
  refine kj ?_
  refine a9 (aG fun A _ => wpAny_specialOf (tb _) FA.b_no_index (aF ⟨rfl, ?_⟩))
  refine kj ?_
  refine a9 (aG fun A _ => wpAny_specialOf (tb _) FA.b_no_int (aF ⟨rfl, ?_⟩))
  refine kj ?_
  refine a9 (aG fun A _ => wpAny_specialOf (tb _) FA.b_no_float (aF ⟨rfl, ?_⟩))
  refine aG fun A _ => wpAny_isInstance (tb _) FA.b_not_complex ?_
  refine a9 (bj (a := none) rfl ?_)
  refine ah rfl ?_
  refine a9 (dy ?_)
  have hcz : c.length ≤ sizeLine := by (first|lia|omega)
  have hij := h1
  refine a9 (gb hcz fun h1 e1 k1 => ?_)
  have hs1 : h1.IsSliceOf sl l u .none := let ⟨o, ho, hc, hd⟩ := hs; ⟨o, k1 _ _ ho, hc, hd⟩
  have hb1 := k1 _ _ hb
  refine a9 (aI (aG fun A _ => iL hl hu hs1 ?_))
  refine a9 (aG fun A _ => cb e1 ?_)
  refine a9 (aG fun A _ => cb hb1 ?_)
  refine a9 (bj (sliceIndices_raw (some i) (some j) none b.toArray.size (fun e => nomatch e)) ?_)
  rw [sliceBounds_plain]
  have c1 : clipAt b.toArray.size i = i.toNat := by
    have := clipAt_nat b.length i.toNat
    rw [Int.toNat_of_nonneg h0] at this
    rw [List.size_toArray, this, Nat.min_eq_left (Int.toNat_le.mpr (Int.le_trans hij h2))]
  have c2 : clipAt b.toArray.size j = j.toNat := by
    have := clipAt_nat b.length j.toNat
    rw [Int.toNat_of_nonneg (Int.le_trans h0 hij)] at this
    rw [List.size_toArray, this, Nat.min_eq_left (Int.toNat_le.mpr h2)]
  show wpN _ _ (if ((1 : Int) == 1) = true then _ else _) _ _
  refine gF rfl (a9 (dy ?_))
  simp only [Option.elim_some, c1, c2]
  have hm : max (i.toNat : Int) (j.toNat : Int) = j := by rw [Int.toNat_of_nonneg h0, Int.toNat_of_nonneg (Int.le_trans h0 hij), Int.max_eq_right hij]
  rw [hm]
  refine ah (by simp only [bne_eq_false_iff_eq, List.size_toArray]; (first|lia|omega)) ?_
  refine a9 (aG fun A _ => fB hb1 (c := b.take i.toNat ++ c ++ b.drop j.toNat) ?_ ?_ fun h2 e2 k2 => aF ⟨_, rfl, h h2 e2 fun x o hx q => (k2 x hx).trans (k1 _ _ q)⟩)
  · apply Array.toList_inj.mp
    simp
    rw [Int.max_eq_left h0, List.take_of_length_le (l := List.drop j.toNat b) (Nat.le_of_eq List.length_drop)]
  · simp only [List.length_append, List.length_take, List.length_drop]; rw [Nat.add_assoc, len3 h0 hij h2 hc]; exact hz
end
end Mine

end
section
open PySem PySem.W PySem.Calls PyProof.Rows
open Sem (wp)
namespace Mine
open PySem.Builtin
namespace FA
theorem int_no_bytes : typeLookup (.type "int") "__bytes__" = pure none := by rw [typeLookup_type, builtinLookup_eq_fast]; kernel_rfl
end FA
section
variable {prog : Program} {w : World} {A : Around} {E : Value → Shared → Prop} {s : Shared}
theorem jd {i : Int} {u : Tok} {Q : Value → Shared → Prop} (h0 : 0 ≤ i) (hz : i ≤ 100000) (hQ : ∀ t k, Q (.bytes (List.replicate i.toNat 0).toArray t) { s with toks := k }) :
    codeAny (model prog w) A (.call (.builtin "bytes.__new__") ⟨[.type "bytes", .int i u], []⟩) (wants Q E) s := by
  refine codeAny_of_tree ?_
  show wpAny _ A.in1 (do checkBuiltinCall "bytes.__new__" ⟨[.type "bytes", .int i u], []⟩; again (.builtin "bytes.__new__" ⟨[.type "bytes", .int i u], []⟩)) _ _ s
  refine wpAny_bind (wpAny_of_eq (F.bm_newCall _) (wpAny_pure ⟨plainId_quiet F.bm_plain _, codeAny_builtin F.bm_entry ?_⟩))
  rw [Around.under_plainId F.bm_plain _]
  unfold Builtin.«bytes.__new__»
  refine wpAny_bind (wpAny_of_eq (a := true) rfl ?_)
  refine bm_if_false rfl ?_
  refine wpAny_bind (wpAny_of_eq F.bm_sub ?_)
  refine bm_if_false rfl ?_
  refine wpAny_bind (wpAny_of_eq (F.bm_bind _) ?_)
  refine wpAny_bind (wpAny_of_eq (a := ()) rfl ?_)
  refine wpAny_bind (wpAny_of_eq (a := ()) rfl ?_)
  refine bm_if_false rfl ?_
  refine wpAny_bind (wpAny_specialOf (typeIs_int s i u) FA.int_no_bytes ?_)
  refine wpAny_bind (wpAny_of_eq (a := false) rfl ?_)
  refine bm_if_false rfl ?_
  refine wpAny_bind (wpAny_specialOf (typeIs_int s i u) F.slot_int_index.lookup ?_)
  refine bm_if_false rfl ?_
  refine wpAny_bind (wpAny_attempt (wpAny_of_eq (a := i) rfl ?_))
  have f1 : Bytes.fitsIndex i = true := by simp only [Bytes.fitsIndex, Bool.and_eq_true, decide_eq_true_eq]; (first|lia|omega)
  show wpAny _ _ (if (!Bytes.fitsIndex i) = true then _ else _) _ _ _
  rw [f1]
  refine bm_if_false rfl ?_
  show wpAny _ _ (if i < 0 then _ else _) _ _ _
  rw [if_neg (by (first|lia|omega))]
  show wpAny _ _ (if i > 2 ^ 63 - 34 then _ else _) _ _ _
  rw [if_neg (by (first|lia|omega))]
  have f2 : Bytes.tooLong i.toNat = false := by simp only [Bytes.tooLong, decide_eq_false_iff_not, sizeLine_eq]; (first|lia|omega)
  refine bm_if_false f2 ?_
  refine wpAny_bind (wpAny_rule (wpAny_bind (wpAny_mkBytes ?_ (by rw [Array.size_replicate, sizeLine_eq]; (first|lia|omega)))))
  show wpAny _ _ (if (Value.type "bytes" == Value.type "bytes") = true then _ else _) _ _ _
  refine bm_if_true (by decide) ?_
  have e : Array.replicate i.toNat (0 : UInt8) = (List.replicate i.toNat 0).toArray := by simp
  rw [e]
  first
    | exact wpAny_pure (hQ _ _)
    | exact wpAny_bind (wpAny_pure (wpAny_pure (hQ _ _)))
theorem kh {a : Addr} {b : List UInt8} {Q : Value → Shared → Prop} (hb : s.heap.get? a = some (baO b)) (hz : b.length ≤ sizeLine) (hQ : ∀ t k, Q (.bytes b.toArray t) { s with toks := k }) :
    codeAny (model prog w) A (.call (.builtin "bytes.__new__") ⟨[.type "bytes", .ref a], []⟩) (wants Q E) s := by
  refine codeAny_of_tree ?_
  show wpAny _ A.in1 (do checkBuiltinCall "bytes.__new__" ⟨[.type "bytes", .ref a], []⟩; again (.builtin "bytes.__new__" ⟨[.type "bytes", .ref a], []⟩)) _ _ s
  refine wpAny_bind (wpAny_of_eq (F.bm_newCall _) (wpAny_pure ⟨plainId_quiet F.bm_plain _, codeAny_builtin F.bm_entry ?_⟩))
  rw [Around.under_plainId F.bm_plain _]
  unfold Builtin.«bytes.__new__»
  refine wpAny_bind (wpAny_of_eq (a := true) rfl ?_)
  refine bm_if_false rfl ?_
  refine wpAny_bind (wpAny_of_eq F.bm_sub ?_)
  refine bm_if_false rfl ?_
  refine wpAny_bind (wpAny_of_eq (F.bm_bind _) ?_)
  refine wpAny_bind (wpAny_of_eq (a := ()) rfl ?_)
  refine wpAny_bind (wpAny_of_eq (a := ()) rfl ?_)
  refine bm_if_false rfl ?_
  refine wpAny_bind (wpAny_specialOf (bH hb) FA.noBytes ?_)
  refine wpAny_bind (wpAny_bind ?_)
  show wpAny _ _ (load a >>= _) _ _ _
  refine wpAny_bind (wpAny_load hb ?_)
  refine wpAny_pure (wpAny_pure ?_)
  refine bm_if_false rfl ?_
  refine wpAny_bind (wpAny_specialOf (bH hb) FA.noIndex ?_)
  refine bm_if_true rfl ?_
  first
    | show wpAny _ _ (Builtin.Bytes.buffer? "bytes.__new__" (.ref a) true >>= _) _ _ _
    | (refine wpAny_bind ?_; show wpAny _ _ (Builtin.Bytes.buffer? "bytes.__new__" (.ref a) true >>= _) _ _ _)
  refine wpAny_bind (nD hb ?_)
  refine wpAny_bind (wpAny_rule (wpAny_bind (wpAny_mkBytes ?_ (by rw [List.size_toArray]; exact hz))))
  show wpAny _ _ (if (Value.type "bytes" == Value.type "bytes") = true then _ else _) _ _ _
  refine bm_if_true (by decide) ?_
  first
    | exact wpAny_pure (hQ _ _)
    | exact wpAny_pure (wpAny_pure (hQ _ _))
    | exact wpAny_bind (wpAny_pure (wpAny_pure (hQ _ _)))
theorem gh {v : Value} {c : List UInt8} {Q : Value → Shared → Prop} (hnew : ∀ (A : Around) (Q : Value → Shared → Prop), (∀ t k, Q (.bytes c.toArray t) { s with toks := k }) → codeAny (model prog w) A (.call (.builtin "bytes.__new__") ⟨[.type "bytes", v], []⟩) (wants Q E) s)
    (hQ : ∀ t k, Q (.bytes c.toArray t) { s with toks := k }) : wpAny (model prog w) A (call (.type "bytes") [v]) Q E s := by
  refine callType_codes (Q₁ := fun obj s₁ => s₁.TypeIs obj "bytes" ∧ Q obj s₁) F.bm_called (F.bm_typeCall _) F.entry_object_init
    (hnew _ _ fun t k => ⟨PySem.W.typeIs_bytes _ _ _, hQ t k⟩) fun obj s₁ h₁ => ?_
  exact ⟨h₁.1, F.args_object_init_2 obj _, object_init_meets F.bm_called.init.lookup F.bm_called.made (by decide) prog w A.in1 _ s₁ ⟨h₁.1, rfl, h₁.2⟩⟩
end
end Mine

end
section
open PySem PySem.W PySem.Calls PyProof.Rows
open Sem (wp)
namespace Mine
open PySem.Builtin
variable {cx : Cx} {sc : Scope} {n : Nat}

noncomputable def CallOk (cx : Cx) (n : Nat) (f : Value) (g : FF) : Prop := ∀ ρ σ s args vs z σ', SOk cx ρ σ s → VsRel cx.h₀ ρ s.heap args vs → g args σ = some (z, σ') → wpN cx.M n (call f vs []) (ValAt cx ρ s z σ') s
theorem aP {x : String} {p pos : Pos} {es : List Expr} {fs : EsF} {g : FF} {f : Value} (hm : keeperOf f = pure .machine) (hF : CallOk cx n f g) (hb : bootBuiltins (Str.ofString x) = some f)
    (hg : nsIn cx.K mainGlobals (Str.ofString x) = some none) (hs : DenEs cx sc n es fs) (hl : sc.names.lookup (Str.ofString x) = some .globalImplicit) (hd : (Str.ofString x == ("__debug__" : Str)) = false) (hn : (Str.ofString x == ("__name__" : Str)) = false) :
    DenE cx sc n (.Call (.Name (Str.ofString x) p) es [] pos) (eCall g fs) := by
  intro env L ρ σ loc s v σ' eo S lo hf
  unfold eCall at hf
  first | have hf := m2v hf | have hf := mrf hf | have hf := m2l hf | have hf := m2b hf | have hf := mit hf | have hf := mbl hf | have hf := m2o hf | have hf := mis hf
  obtain ⟨us, σ1, e1, hf⟩ := hf
  rw [arm_eval_Call_Name']
  refine a9 (iT eo S hg hb (by simpa using hn) hl hd ?_)
  refine bx hm (hs.1 _ _) (aE (hs.2 env L ρ σ loc s us σ1 pos eo S lo e1) fun vs s₁ h₁ => ?_)
  obtain ⟨ρ₁, S₁, P₁, r₁⟩ := h₁
  exact aE (hF ρ₁ σ1 s₁ us vs v σ' S₁ r₁ hf) fun w s₂ h₂ => .after P₁ h₂

noncomputable def cLen : FF := fun args σ => a1 args fun x => eBytes x (fun b => if b.length ≤ big then some (.int b.length, σ) else none) (eFroz x (fun xs => if xs.length ≤ 2 ^ 40 then some (.int xs.length, σ) else none)
  (eRef x (fun k => eLst σ[k]? (fun xs => if xs.length ≤ big then some (.int xs.length, σ) else none) (eBa σ[k]? (fun b => if b.length ≤ big then some (.int b.length, σ) else none) none)) none))
theorem frozAt {ρ : Pls} {σ : Sto} {s : Shared} (S : SOk cx ρ σ s) {rv : Value} {xs : List MV} (r : VRel cx.h₀ ρ s.heap (.froz xs) rv) : ∃ a vs m, rv = .ref a ∧ s.heap.get? a = some (listO vs m) ∧ VsRel cx.h₀ ρ s.heap xs vs := by
  cases r with
  | froz h rs => exact ⟨_, _, _, rfl, S.keep _ _ h, rs⟩
theorem bM : CallOk cx n (.builtin "len") cLen := by
  intro ρ σ s args vs z σ' S r hf
  obtain ⟨x, rfl, hf⟩ := a1E hf
  obtain ⟨_, rfl, r1⟩ := r.one
  rcases eBytesE hf with ⟨b, rfl, hf⟩ | hf
  · obtain ⟨hz, hf⟩ := aZ hf
    cases hf
    obtain ⟨_, rfl⟩ := r1.bytesE
    exact aG fun A _ => len_bytes (by simp; unfold big at hz; (first|lia|omega)) (.tok S _ (by simpa using VRel.int _ _))
  rcases eFrozE hf with ⟨xs, rfl, hf⟩ | hf
  · obtain ⟨hz, hf⟩ := aZ hf
    cases hf
    obtain ⟨a, vs, m, rfl, o1, q1⟩ := frozAt S r1
    refine aG fun A _ => call_len_list (items := vs.toArray) ⟨_, o1, rfl, _, rfl⟩ (by simp [q1.length]; (first|lia|omega)) ?_
    refine .tok S _ ?_
    rw [List.size_toArray, q1.length]; exact .int _ _
  obtain ⟨k, rfl, hf⟩ := dRefE hf
  rcases eLstE hf with ⟨xs, e1, hf⟩ | hf
  · obtain ⟨hz, hf⟩ := aZ hf
    cases hf
    obtain ⟨p, vs, m, rfl, hp, _, o1, q1⟩ := listAt S r1 e1
    refine aG fun A _ => call_len_list (items := vs.toArray) ⟨_, o1, rfl, _, rfl⟩ (by simp [q1.length]; unfold big at hz; (first|lia|omega)) ?_
    refine .tok S _ ?_
    rw [List.size_toArray, q1.length]; exact .int _ _
  · obtain ⟨b, e1, hf⟩ := dBaE hf
    obtain ⟨hz, hf⟩ := aZ hf
    cases hf
    obtain ⟨p, rfl, hp, _, o1⟩ := baAt S r1 e1
    exact aG fun A _ => qt o1 (by unfold big at hz; (first|lia|omega)) (.tok S _ (.int _ _))
noncomputable def cMax : FF := fun args σ => a2 args fun x y => eInt x (fun a => eInt y (fun b => some (.int (max a b), σ)) none) none
theorem cz : CallOk cx n (.builtin "max") cMax := by
  intro ρ σ s args vs z σ' S r hf
  obtain ⟨x, y, rfl, hf⟩ := a2E hf
  obtain ⟨a, rfl, hf⟩ := dIntE hf
  obtain ⟨b, rfl, hf⟩ := dIntE hf
  cases hf
  obtain ⟨_, _, rfl, r1, r2⟩ := r.two
  obtain ⟨_, rfl⟩ := r1.intE
  obtain ⟨_, rfl⟩ := r2.intE
  refine aG fun A ao => max_two_ints ao.handled fun h' tk k => ?_
  split
  · rw [show max a b = b by (first|lia|omega)]; exact .kept S tk k (.int _ _)
  · rw [show max a b = a by (first|lia|omega)]; exact .kept S tk k (.int _ _)
noncomputable def cInt : FF := fun args σ => a1 args fun x => eInt x (fun a => some (.int a, σ)) (eBool x (fun b => some (.int (if b then 1 else 0), σ)) none)
theorem dr : CallOk cx n (.type "int") cInt := by
  intro ρ σ s args vs z σ' S r hf
  obtain ⟨x, rfl, hf⟩ := a1E hf
  obtain ⟨_, rfl, r1⟩ := r.one
  rcases eIntE hf with ⟨a, rfl, hf⟩ | hf
  · cases hf
    obtain ⟨_, rfl⟩ := r1.intE
    exact aG fun A _ => call_int_int (.here S (.int _ _))
  · obtain ⟨b, rfl, hf⟩ := dBoolE hf
    cases hf
    obtain ⟨_, rfl⟩ := r1.boolE
    exact aG fun A _ => call_int_bool (.tok S _ (.int _ _))

noncomputable def octs : List MV → Option (List UInt8)
  | [] => some []
  | .int i :: r => if 0 ≤ i ∧ i < 256 then (octs r).map (i.toNat.toUInt8 :: ·) else none
  | _ :: _ => none
theorem mt {h₀ h : Heap} {ρ : Pls} {xs : List MV} : ∀ {vs : List Value} {b : List UInt8}, VsRel h₀ ρ h xs vs → octs xs = some b → ∃ ns, IntsAre vs ns ∧ (∀ n ∈ ns, 0 ≤ n ∧ n < 256) ∧ byteArr ns = b.toArray := by
  induction xs with
  | nil => intro vs b r e; cases r.nilE; cases e; exact ⟨[], .nil, (fun _ h => by cases h), rfl⟩
  | cons x xs ih =>
    intro vs b r e
    obtain ⟨v, us, rfl, r1, r2⟩ := r.consE
    obtain ⟨i, rfl, e⟩ := dIntE (F := fun i => if 0 ≤ i ∧ i < 256 then (octs xs).map (i.toNat.toUInt8 :: ·) else none) (v := x) (by cases x <;> exact e)
    obtain ⟨hi, e⟩ := aZ e
    obtain ⟨c, q, e⟩ := Option.map_eq_some_iff.mp e
    cases e
    obtain ⟨ns, a1, a2, a3⟩ := ih r2 q
    obtain ⟨_, rfl⟩ := r1.intE
    refine ⟨i :: ns, .cons _ _ a1, fun n hn => ?_, ?_⟩
    · rcases List.mem_cons.mp hn with rfl | hn
      · exact hi
      · exact a2 n hn
    · unfold byteArr at a3 ⊢
      have := congrArg Array.toList a3
      simp at this
      simp [this]
noncomputable def cBytes : FF := fun args σ => a1 args fun x => eInt x (fun i => if 0 ≤ i ∧ i ≤ 100000 then some (.bytes (List.replicate i.toNat 0), σ) else none)
  (eRef x (fun k => eLst σ[k]? (fun xs => if xs.length ≤ big then (octs xs).bind fun b => some (.bytes b, σ) else none) (eBa σ[k]? (fun b => if b.length ≤ big then some (.bytes b, σ) else none) none)) none)
theorem cG : CallOk cx n (.type "bytes") cBytes := by
  intro ρ σ s args vs z σ' S r hf
  obtain ⟨x, rfl, hf⟩ := a1E hf
  obtain ⟨_, rfl, r1⟩ := r.one
  rcases eIntE hf with ⟨i, rfl, hf⟩ | hf
  · obtain ⟨hz, hf⟩ := aZ hf
    cases hf
    obtain ⟨_, rfl⟩ := r1.intE
    exact aG fun A _ => gh (fun A Q q => jd hz.1 hz.2 q) fun t k => .tok S _ (.bytes _ _)
  obtain ⟨k, rfl, hf⟩ := dRefE hf
  rcases eLstE hf with ⟨xs, e1, hf⟩ | hf
  · obtain ⟨hz, hf⟩ := aZ hf
    obtain ⟨b, e2, hf⟩ := Option.bind_eq_some_iff.mp hf
    cases hf
    obtain ⟨p, vs, m, rfl, hp, _, o1, q1⟩ := listAt S r1 e1
    obtain ⟨ns, a1, a2, a3⟩ := mt q1 e2
    refine aG fun A ao => call_bytes_ints (vs := vs) ⟨_, o1, rfl, _, rfl⟩ a1 a2 (by rw [q1.length, sizeLine_eq]; unfold big at hz; (first|lia|omega)) ao.handled fun h' t k kp => ?_
    rw [a3]
    exact .kept S k kp (.bytes _ _)
  · obtain ⟨b, e1, hf⟩ := dBaE hf
    obtain ⟨hz, hf⟩ := aZ hf
    cases hf
    obtain ⟨p, rfl, hp, _, o1⟩ := baAt S r1 e1
    exact aG fun A _ => gh (fun A Q q => kh o1 (by rw [sizeLine_eq]; unfold big at hz; (first|lia|omega)) q) fun t k => .tok S _ (.bytes _ _)
noncomputable def cBa : FF := fun args σ => a1 args fun x => eBytes x (fun b => if b.length ≤ big then some (.ref σ.length, σ ++ [.ba b]) else none) (eInt x (fun i => if 0 < i ∧ i ≤ 100000 then some (.ref σ.length, σ ++ [.ba (List.replicate i.toNat 0)]) else none) none)
theorem ValAt.newBa {ρ : Pls} {σ : Sto} {s : Shared} (S : SOk cx ρ σ s) {b : List UInt8} {h' : Heap} (e : h'.get? s.heap.objs.size = some (baO b)) (k : ∀ b o, s.heap.get? b = some o → h'.get? b = some o) :
    ValAt cx ρ s (.ref σ.length) (σ ++ [.ba b]) (.ref s.heap.objs.size) { s with heap := h' } := by
  obtain ⟨x, y⟩ := S.add (p := (s.heap.objs.size, s.heap.objs.size)) (o := .ba b) s.toks k (SOk.get_size _) (SOk.get_size _) ⟨rfl, e⟩
  exact ⟨_, x, y _, .ref (p := (s.heap.objs.size, s.heap.objs.size)) (by rw [← S.len]; simp)⟩
theorem oN : CallOk cx (n + 2) (.type "bytearray") cBa := by
  intro ρ σ s args vs z σ' S r hf
  obtain ⟨x, rfl, hf⟩ := a1E hf
  obtain ⟨_, rfl, r1⟩ := r.one
  rcases eBytesE hf with ⟨b, rfl, hf⟩ | hf
  · obtain ⟨hz, hf⟩ := aZ hf
    cases hf
    obtain ⟨_, rfl⟩ := r1.bytesE
    exact gb (by rw [sizeLine_eq]; unfold big at hz; (first|lia|omega)) fun h' e k => .newBa S e k
  · obtain ⟨i, rfl, hf⟩ := dIntE hf
    obtain ⟨hz, hf⟩ := aZ hf
    cases hf
    obtain ⟨_, rfl⟩ := r1.intE
    exact kz hz.1 hz.2 fun h' e k => .newBa S e k
noncomputable def intsOf : List MV → Option (List Int)
  | [] => some []
  | .int i :: r => (intsOf r).map (i :: ·)
  | _ :: _ => none
theorem jJ {h₀ h : Heap} {ρ : Pls} {xs : List MV} : ∀ {vs : List Value} {ns : List Int}, VsRel h₀ ρ h xs vs → intsOf xs = some ns → IntsAre vs ns := by
  induction xs with
  | nil => intro vs b r e; cases r.nilE; cases e; exact .nil
  | cons x xs ih =>
    intro vs b r e
    obtain ⟨v, us, rfl, r1, r2⟩ := r.consE
    obtain ⟨i, rfl, e⟩ := dIntE (F := fun i => (intsOf xs).map (i :: ·)) (v := x) (by cases x <;> exact e)
    obtain ⟨c, q, e⟩ := Option.map_eq_some_iff.mp e
    cases e
    obtain ⟨_, rfl⟩ := r1.intE
    exact .cons _ _ (ih r2 q)
noncomputable def cSum : FF := fun args σ => a1 args fun x => eRef x (fun k => eLst σ[k]? (fun xs => (intsOf xs).bind fun ns => some (.int ns.sum, σ)) none) none
theorem oa : CallOk cx n (.builtin "sum") cSum := by
  intro ρ σ s args vs z σ' S r hf
  obtain ⟨x, rfl, hf⟩ := a1E hf
  obtain ⟨k, rfl, hf⟩ := dRefE hf
  obtain ⟨xs, e1, hf⟩ := dLstE hf
  obtain ⟨ns, e2, hf⟩ := Option.bind_eq_some_iff.mp hf
  obtain ⟨_, rfl, r1⟩ := r.one
  cases hf
  obtain ⟨p, vs, m, rfl, hp, _, o1, q1⟩ := listAt S r1 e1
  have hi := jJ q1 e2
  obtain ⟨ys, hx⟩ := hi.allInts.items
  refine aG fun A ao => sum_intListG (xs := ys) ao.handled (hx ▸ ⟨_, o1, rfl, _, rfl⟩) fun h' tk t' kp => ?_
  have e3 : preSum (numAt ys) ys.size = ns.sum := by
    have e1 : ns = ys.toList.map (·.1) := by
      rw [← nums_intItems, ← hx]
      exact (show numsOf vs.toArray.toList = ns from hi.numsOf).symm
    rw [preSum_eq, List.take_of_length_le (by simp), e1]
  rw [e3]
  exact .kept S tk kp (.int _ _)
end Mine

end
section
open PySem PySem.W PySem.Calls PyProof.Rows
open Sem (wp)
namespace Mine
open PySem.Builtin
variable {cx : Cx} {sc : Scope} {n : Nat}

noncomputable def oItem : Op2 := fun x y σ => eInt y (fun i => eRef x (fun k => eLst σ[k]? (fun xs => if 0 ≤ i then (if i < 2 ^ 60 then (xs[i.toNat]?).map (·, σ) else none) else if -(xs.length : Int) ≤ i ∧ xs.length ≤ big then (xs[(i + xs.length).toNat]?).map (·, σ) else none)
    (eBa σ[k]? (fun b => if 0 ≤ i ∧ i < b.length ∧ b.length ≤ big then some (.int (b.getD i.toNat 0).toNat, σ) else none) none))
  (eFroz x (fun xs => if 0 ≤ i ∧ i < 2 ^ 60 then (xs[i.toNat]?).map (·, σ) else none) (eTupl x (fun xs => if 0 ≤ i ∧ i < 2 ^ 60 then (xs[i.toNat]?).map (·, σ) else none) none))) none

theorem VRel.tupE {h₀ h : Heap} {ρ : Pls} {xs : List MV} {v : Value} (r : VRel h₀ ρ h (.tup xs) v) : ∃ a vs m, v = .ref a ∧ h.get? a = some (tupO vs m) ∧ VsRel h₀ ρ h xs vs := by cases r with | tup a b => exact ⟨_, _, _, rfl, a, b⟩
theorem jv {ρ : Pls} {σ : Sto} {s : Shared} (S : SOk cx ρ σ s) {a : Addr} {xs : List MV} {vs : List Value} {m : Nat} (o1 : s.heap.get? a = some (listO vs m)) (q1 : VsRel cx.h₀ ρ s.heap xs vs) {i : Int} {t : Tok} {z : MV} {A : Around}
    (h0 : 0 ≤ i) (h1 : i < 2 ^ 60) (hz : xs[i.toNat]? = some z) : wpAny cx.M A (getItem (.ref a) (.int i t)) (ValAt cx ρ s z σ) NoE s := by
  obtain ⟨v, e1, r⟩ := q1.get hz
  exact wpAny_getItem_list (items := vs.toArray) ⟨_, o1, rfl, _, rfl⟩ h0 (by (first|lia|omega)) (by simpa using e1) (.here S r)
theorem nY {ρ : Pls} {σ σ' : Sto} {s : Shared} {x y z : MV} {rx ry : Value} (S : SOk cx ρ σ s) (r1 : VRel cx.h₀ ρ s.heap x rx) (r2 : VRel cx.h₀ ρ s.heap y ry) (hf : oItem x y σ = some (z, σ')) :
    ∃ T id, s.TypeIs rx T ∧ typeLookup (.type T) "__getitem__" = pure (some (.builtin id)) ∧ ∀ A, AOk A 0 → wpAny cx.M A (getItem rx ry) (ValAt cx ρ s z σ') NoE s := by
  obtain ⟨i, rfl, hf⟩ := dIntE hf
  obtain ⟨t, rfl⟩ := r2.intE
  rcases eRefE hf with ⟨k, rfl, hf⟩ | hf
  · rcases eLstE hf with ⟨xs, e1, hf⟩ | hf
    · obtain ⟨p, vs, m, rfl, hp, _, o1, q1⟩ := listAt S r1 e1
      refine ⟨"list", _, ⟨_, o1, rfl⟩, slot_list_getitem.lookup, fun A ao => ?_⟩
      by_cases h0 : 0 ≤ i
      · rw [if_pos h0] at hf
        obtain ⟨h1, hf⟩ := aZ hf
        obtain ⟨u, q, hf⟩ := Option.map_eq_some_iff.mp hf
        cases hf
        exact jv S o1 q1 h0 h1 q
      · rw [if_neg h0] at hf
        obtain ⟨h1, hf⟩ := aZ hf
        obtain ⟨u, q, hf⟩ := Option.map_eq_some_iff.mp hf
        cases hf
        obtain ⟨v, e1, r⟩ := q1.get q
        unfold big at h1
        refine wpAny_getItem_list_neg (items := vs.toArray) ⟨_, o1, rfl, _, rfl⟩ (by (first|lia|omega)) (by simp [q1.length]; (first|lia|omega)) (by (first|lia|omega)) (by simpa [q1.length] using e1) (.here S r)
    · obtain ⟨b, e1, hf⟩ := dBaE hf
      obtain ⟨hz, hf⟩ := aZ hf
      cases hf
      obtain ⟨p, rfl, hp, _, o1⟩ := baAt S r1 e1
      exact ⟨"bytearray", _, bH o1, FA.slot_getitem.lookup, fun A ao => qk o1 (by unfold big at hz; (first|lia|omega)) hz.1 hz.2.1 (.tok S _ (.int _ _))⟩
  · rcases eFrozE hf with ⟨xs, rfl, hf⟩ | hf
    · obtain ⟨h0, hf⟩ := aZ hf
      obtain ⟨u, q, hf⟩ := Option.map_eq_some_iff.mp hf
      cases hf
      obtain ⟨a, vs, m, rfl, o1, q1⟩ := frozAt S r1
      exact ⟨"list", _, ⟨_, o1, rfl⟩, slot_list_getitem.lookup, fun A ao => jv S o1 q1 h0.1 h0.2 q⟩
    · obtain ⟨xs, rfl, hf⟩ := dTuplE hf
      obtain ⟨h0, hf⟩ := aZ hf
      obtain ⟨u, q, hf⟩ := Option.map_eq_some_iff.mp hf
      cases hf
      obtain ⟨a, vs, m, rfl, o1, q1⟩ := r1.tupE
      obtain ⟨v, e1, r⟩ := q1.get q
      refine ⟨"tuple", _, ⟨_, o1, rfl⟩, slot_tuple_getitem.lookup, fun A ao => P.getItem_tuple (items := vs.toArray) (n := m) o1 (by (first|lia|omega)) (by (first|lia|omega)) (k := i.toNat) ?_ (by simpa using e1) (.here S r)⟩
      have hl := (List.getElem?_eq_some_iff.mp e1).1
      rw [List.size_toArray]; exact seqI h0.1 (by (first|lia|omega))

theorem lY {value slice : Expr} {o i : Value} {T id : String} {s : Shared} {Q : Value → Shared → Prop} (hT : s.TypeIs o T) (hl : typeLookup (.type T) "__getitem__" = pure (some (.builtin id))) (h : wpN cx.M n (getItem o i) Q s) :
    wpN cx.M n (do let r ← subscripted slice (← getitemInPython o) o i; letTemporaryGo value o r; pure r) Q s := by
  refine a9 ?_
  rw [getitemInPython_of_ne hT.not_modules]
  refine a9 (aG fun A _ => wpAny_specialOf hT hl (aF ?_))
  have fin : ∀ vs, wpN cx.M n (operate vs (getItem o i) >>= fun r => letTemporaryGo value o r >>= fun _ => pure r) Q s := fun vs =>
    a9 (dW (aE h fun r s₃ h₃ => a9 (aG fun A _ => wpAny_letTemporaryGo (aF h₃))))
  cases slice with
  | Slice l u c p => cases c <;> exact fin _
  | _ => exact fin _
theorem ab {a b : Expr} {f g : EF} {pos : Pos} (h1 : DenE cx sc n a f) (h2 : DenE cx sc n b g) : DenE cx sc n (.Subscript a b pos) (eOp2 oItem f g) := by
  intro env L ρ σ loc s v σ' eo S lo hf
  obtain ⟨x, σ1, y, σ2, e1, e2, e3⟩ := gv hf
  rw [arm_eval_Subscript]
  refine a9 (aE (h1 env L ρ σ loc s x σ1 eo S lo e1) fun u s₁ h₁ => ?_)
  obtain ⟨ρ₁, S₁, P₁, r₁⟩ := h₁
  refine a9 (aI (aE (h2 env L ρ₁ σ1 loc s₁ y σ2 eo S₁ (lo.post P₁) e2) fun w s₂ h₂ => a9 (aH ?_)))
  obtain ⟨ρ₂, S₂, P₂, r₂⟩ := h₂
  obtain ⟨T, id, hT, hl, g⟩ := nY S₂ (r₁.post P₂) r₂ e3
  exact lY hT hl (aG fun A ao => i8 (g A (ao.le (Nat.zero_le _))) fun q s₃ h₃ => .after (P₁.trans P₂) h₃)
end Mine

end
section
open PySem PySem.W PySem.Calls PyProof.Rows
open Sem (wp)
namespace Mine
open PySem.Builtin
variable {cx : Cx} {sc : Scope} {n : Nat}

noncomputable abbrev OF := Loc → Sto → Option (Option Int × Sto)
noncomputable def DenO (cx : Cx) (sc : Scope) (n : Nat) (e : Option Expr) (f : OF) : Prop :=
  ∀ env L ρ σ loc s i σ', EnvOk env sc L → SOk cx ρ σ s → LOk cx ρ loc L s.heap → f loc σ = some (i, σ') →
    wpN cx.M n (valueOrNone (evalOpt e env)) (fun rv s' => IsPart rv i ∧ ∃ ρ', SOk cx ρ' σ' s' ∧ Post ρ ρ' (fun _ => False) s.heap s'.heap) s
noncomputable def oNo : OF := fun _ σ => some (none, σ)
noncomputable def oYes (f : EF) : OF := fun loc σ => match f loc σ with | some (.int i, σ1) => some (some i, σ1) | _ => none
theorem kR : DenO cx sc n none oNo := by
  intro env L ρ σ loc s i σ' eo S lo hf
  cases hf
  exact aF ⟨.none, ρ, S, .refl ..⟩
theorem bw {e : Expr} {f : EF} (h : DenE cx sc n e f) : DenO cx sc n (some e) (oYes f) := by
  intro env L ρ σ loc s i σ' eo S lo hf
  unfold oYes at hf
  first | have hf := m2v hf | have hf := mrf hf | have hf := m2l hf | have hf := m2b hf | have hf := mit hf | have hf := mbl hf | have hf := m2o hf | have hf := mis hf
  obtain ⟨j, σ1, e1, hf⟩ := hf
  cases hf
  refine aE (h env L ρ σ loc s _ _ eo S lo e1) fun rv s₁ h₁ => ?_
  obtain ⟨ρ₁, S₁, P₁, r₁⟩ := h₁
  first | have r₁ := r₁.intE | have r₁ := r₁.bytesE | have r₁ := r₁.boolE | have r₁ := r₁.noneE | have r₁ := r₁.strE
  obtain ⟨_, rfl⟩ := r₁
  exact ⟨.int _ _, ρ₁, S₁, P₁⟩
theorem ju {lo hi : Option Expr} {fl fh : OF} {pos : Pos} (h1 : DenO cx sc n lo fl) (h2 : DenO cx sc n hi fh) {env : Env} {L : Addr} {ρ : Pls} {σ σ1 σ2 : Sto} {loc : Loc} {s : Shared} {i j : Option Int}
    (eo : EnvOk env sc L) (S : SOk cx ρ σ s) (l : LOk cx ρ loc L s.heap) (e1 : fl loc σ = some (i, σ1)) (e2 : fh loc σ1 = some (j, σ2)) :
    wpN cx.M n (eval (.Slice lo hi none pos) env) (fun v s' => ∃ sl lv hv ρ', v = .ref sl ∧ IsPart lv i ∧ IsPart hv j ∧ s'.heap.IsSliceOf sl lv hv .none ∧ SOk cx ρ' σ2 s' ∧ Post ρ ρ' (fun _ => False) s.heap s'.heap) s := by
  rw [arm_eval_Slice]
  refine a9 (aE (h1 env L ρ σ loc s i σ1 eo S l e1) fun lv s₁ h₁ => ?_)
  obtain ⟨p1, ρ₁, S₁, P₁⟩ := h₁
  refine a9 (aI (aE (h2 env L ρ₁ σ1 loc s₁ j σ2 eo S₁ (l.post P₁) e2) fun hv s₂ h₂ => ?_))
  obtain ⟨p2, ρ₂, S₂, P₂⟩ := h₂
  refine a9 (aI (bj (a := .none) rfl ?_))
  unfold newFields
  refine aG fun A _ => wpAny_newObj_type ?_
  have k : ∀ b o, s₂.heap.get? b = some o → (s₂.heap.push { cls := .type "slice", data := .fields [lv, hv, .none].toArray }).get? b = some o := fun b o e => Heap.get?_push_of_some _ e
  exact ⟨_, lv, hv, ρ₂, rfl, p1, p2, Heap.IsSliceOf.new .., S₂.kept s₂.toks k, (P₁.trans P₂).trans (.of_keep _ _ k)⟩

noncomputable def lcut (lo hi : Option Int) (xs : List MV) : List MV := (xs.drop (lo.elim 0 (clipAt xs.length))).take (hi.elim xs.length (clipAt xs.length) - lo.elim 0 (clipAt xs.length))
noncomputable def oCut (x : MV) (lo hi : Option Int) (σ : Sto) : Option (MV × Sto) := match x with
  | .ref k => (match σ[k]? with
    | some (.list xs) => if xs.length ≤ big then some (.ref σ.length, σ ++ [.list (lcut lo hi xs)]) else none
    | some (.ba b) => if b.length ≤ big then some (.ref σ.length, σ ++ [.ba (bcut lo hi b)]) else none
    | _ => none)
  | .bytes b => if b.length ≤ big then some (.bytes (bcut lo hi b), σ) else none
  | _ => none
theorem pJ {ρ : Pls} {σ σ' : Sto} {s : Shared} {x z : MV} {rx : Value} {sl : Addr} {lv hv : Value} {lo hi : Option Int} (S : SOk cx ρ σ s) (r1 : VRel cx.h₀ ρ s.heap x rx) (p1 : IsPart lv lo) (p2 : IsPart hv hi) (hs : s.heap.IsSliceOf sl lv hv .none)
    (hf : oCut x lo hi σ = some (z, σ')) :
    ∃ T id, s.TypeIs rx T ∧ typeLookup (.type T) "__getitem__" = pure (some (.builtin id)) ∧ ∀ A, AOk A 0 → wpAny cx.M A (getItem rx (.ref sl)) (ValAt cx ρ s z σ') NoE s := by
  unfold oCut at hf
  split at hf
  · rename_i k
    split at hf
    · rename_i xs e1
      first | have hf := aZ hf
      obtain ⟨hz, hf⟩ := hf
      cases hf
      obtain ⟨p, vs, m, rfl, hp, _, o1, q1⟩ := listAt S r1 e1
      refine ⟨"list", _, ⟨_, o1, rfl⟩, slot_list_getitem.lookup, fun A ao => wpAny_getItem_list_slice (items := vs.toArray) ⟨_, o1, rfl, _, rfl⟩ hs p1 p2 .none (by simp) ?_ (by rw [List.size_toArray, q1.length, sizeLine_eq]; unfold big at hz; (first|lia|omega))⟩
      rw [slicePick_plain]
      refine .newList (m := 0) S s.toks ?_
      unfold lcut
      simp only [List.size_toArray, q1.length]
      exact (q1.drop _).take _
    · rename_i b e1
      first | have hf := aZ hf
      obtain ⟨hz, hf⟩ := hf
      cases hf
      obtain ⟨p, rfl, hp, _, o1⟩ := baAt S r1 e1
      refine ⟨"bytearray", _, bH o1, FA.slot_getitem.lookup, fun A ao => pp o1 (by rw [sizeLine_eq]; unfold big at hz; (first|lia|omega)) p1 p2 hs (.newBa S (Heap.get?_push_size _ rfl) fun _ _ e => Heap.get?_push_of_some _ e)⟩
    · cases hf
  · rename_i b
    first | have hf := aZ hf
    obtain ⟨hz, hf⟩ := hf
    cases hf
    first | have r1 := r1.intE | have r1 := r1.bytesE | have r1 := r1.boolE | have r1 := r1.noneE | have r1 := r1.strE
    obtain ⟨_, rfl⟩ := r1
    refine ⟨"bytes", _, typeIs_bytes _ _ _, FB.slot_bytes_getitem.lookup, fun A ao => getItem_meets (typeIs_bytes _ _ _) (by decide) FB.slot_bytes_getitem FB.entry_bytes_getitem (FB.args_bytes_getitem_2 _ _) (KBc.meets_slice2 b.toArray _ _ p1 p2)
      ⟨hs, Nat.le_trans (KBc.size_picked_le ..) (by rw [List.size_toArray, sizeLine_eq]; unfold big at hz; (first|lia|omega)), fun t' k => ?_⟩⟩
    rw [lP]
    exact .tok S _ (.bytes _ _)
  · cases hf
noncomputable def eCut (f : EF) (lo hi : OF) : EF := fun loc σ => match f loc σ with
  | some (x, σ1) => (match lo loc σ1 with
    | some (i, σ2) => (match hi loc σ2 with | some (j, σ3) => oCut x i j σ3 | none => none)
    | none => none)
  | none => none
theorem mG {f : EF} {lo hi : OF} {loc : Loc} {σ σ' : Sto} {z : MV} (h : eCut f lo hi loc σ = some (z, σ')) :
    ∃ x σ1 i σ2 j σ3, f loc σ = some (x, σ1) ∧ lo loc σ1 = some (i, σ2) ∧ hi loc σ2 = some (j, σ3) ∧ oCut x i j σ3 = some (z, σ') := by
  unfold eCut at h
  first | have h := m2v h | have h := mrf h | have h := m2l h | have h := m2b h | have h := mit h | have h := mbl h | have h := m2o h | have h := mis h
  obtain ⟨x, σ1, e1, h⟩ := h
  first | have h := m2v h | have h := mrf h | have h := m2l h | have h := m2b h | have h := mit h | have h := mbl h | have h := m2o h | have h := mis h
  obtain ⟨i, σ2, e2, h⟩ := h
  first | have h := m2v h | have h := mrf h | have h := m2l h | have h := m2b h | have h := mit h | have h := mbl h | have h := m2o h | have h := mis h
  obtain ⟨j, σ3, e3, h⟩ := h
  exact ⟨x, σ1, i, σ2, j, σ3, e1, e2, e3, h⟩
theorem gV {a : Expr} {lo hi : Option Expr} {f : EF} {fl fh : OF} {p1 pos : Pos} (h0 : DenE cx sc n a f) (h1 : DenO cx sc n lo fl) (h2 : DenO cx sc n hi fh) : DenE cx sc n (.Subscript a (.Slice lo hi none p1) pos) (eCut f fl fh) := by
  intro env L ρ σ loc s v σ' eo S l hf
  obtain ⟨x, σ1, i, σ2, j, σ3, e1, e2, e3, e4⟩ := mG hf
  rw [arm_eval_Subscript]
  refine a9 (aE (h0 env L ρ σ loc s x σ1 eo S l e1) fun u s₁ h₁ => ?_)
  obtain ⟨ρ₁, S₁, P₁, r₁⟩ := h₁
  refine a9 (aI (aE (ju h1 h2 eo S₁ (l.post P₁) e2 e3) fun w s₂ h₂ => a9 (aH ?_)))
  obtain ⟨sl, lv, hv, ρ₂, rfl, q1, q2, hs, S₂, P₂⟩ := h₂
  obtain ⟨T, id, hT, hl, g⟩ := pJ S₂ (r₁.post P₂) q1 q2 hs e4
  exact lY hT hl (aG fun A ao => i8 (g A (ao.le (Nat.zero_le _))) fun q s₃ h₃ => .after (P₁.trans P₂) h₃)

noncomputable def pItem (x y v : MV) (σ : Sto) : Option Sto := match x, y with
  | .ref k, .int i => (match σ[k]? with
    | some (.list xs) => if 0 ≤ i ∧ i < xs.length ∧ xs.length ≤ big then some (σ.set k (.list (xs.set i.toNat v))) else if i < 0 ∧ -(xs.length : Int) ≤ i ∧ xs.length ≤ big then some (σ.set k (.list (xs.set (i + xs.length).toNat v))) else none
    | some (.ba b) => (match v with
      | .int c => if 0 ≤ i ∧ i < b.length ∧ b.length ≤ big ∧ 0 ≤ c ∧ c < 256 then some (σ.set k (.ba (b.set i.toNat c.toNat.toUInt8))) else none
      | _ => none)
    | _ => none)
  | _, _ => none
theorem VRel.sub {h₀ h h' : Heap} {ρ : Pls} {x v} (t : ∀ b o, h.get? b = some o → IsTupO o → h'.get? b = some o) (r : VRel h₀ ρ h x v) : VRel h₀ ρ h' x v := r.mono ⟨[], by simp⟩ t
theorem nc {s : Shared} {l : Addr} {items : Array Value} {m : Nat} {k : Int} {t : Tok} {v : Value} {j : Nat} {Q : Unit → Shared → Prop} {A : Around} (ho : s.heap.get? l = some { cls := .type "list", data := .seq items m })
    (hf : Builtin.List.listFitsIndex k = true) (hk : seqIndex? k items.size = some j) (hj : j < items.size)
    (hQ : Q () { s with heap := s.heap.update l (Obj.mapSeq (·.setIfInBounds j v)) }) :
    wpAny cx.M A (setItem (.ref l) (.int k t) v) Q NoE s := by
  have hT : s.TypeIs (.ref l) "list" := ⟨_, ho, rfl⟩
  unfold setItem
  try with_reducible refine wpAny_holding ?_
  first | refine wpAny_bind (wpAny_pure ?_) | skip
  refine wpAny_bind (wpAny_sequenceKey hT (by decide) ?_)
  refine wpAny_bind (wpAny_callSpecial?_slot (name := Str.ofString "__setitem__") hT slot_list_setitem
    (wpAny_call_entry slot_list_setitem hT entry_list_setitem ?_ (args_list_setitem _ _ _)))
  show wpAny _ _ (Builtin.List.listSubscript? (.int k t) >>= _) _ _ s
  refine wpAny_bind (wpAny_listSubscript_int hf ?_)
  have hx' : items[j]? = some items[j] := Array.getElem?_eq_getElem hj
  cases k with
  | ofNat n =>
    have hn : n = j := by
      unfold seqIndex? at hk
      have h1 : ¬ ((Int.ofNat n) < 0) := by simp
      rw [if_neg h1] at hk
      dsimp only at hk
      split at hk
      · cases hk; rfl
      · cases hk
    subst hn
    show wpAny _ _ ((seqItemAt l n >>= fun r => pure (r.map (n, ·))) >>= _) _ _ s
    refine wpAny_bind (wpAny_bind (wpAny_seqItemAt ho rfl (wpAny_pure ?_)))
    rw [hx']
    show wpAny _ _ (setSeqItemAt l n v >>= _) _ _ s
    refine wpAny_bind (wpAny_setSeqItemAt ho rfl ?_)
    first
      | exact wpAny_bind (wpAny_pure (wpAny_pure ⟨.none, rfl, wpAny_pure hQ⟩))
      | exact wpAny_pure ⟨.none, rfl, wpAny_pure hQ⟩
  | negSucc n =>
    show wpAny _ _ ((Builtin.List.listItems (.ref l) >>= fun xs => pure ((seqIndex? (Int.negSucc n) xs.size).bind fun i => xs[i]?.map (i, ·))) >>= _) _ _ s
    refine wpAny_bind (wpAny_bind ?_)
    show wpAny _ _ (seqItems? (.ref l) >>= _) _ _ s
    refine wpAny_bind (wpAny_seqItems ho rfl (wpAny_pure (wpAny_pure ?_)))
    rw [hk]
    simp only [Option.bind_some, hx', Option.map_some]
    show wpAny _ _ (setSeqItemAt l j v >>= _) _ _ s
    refine wpAny_bind (wpAny_setSeqItemAt ho rfl ?_)
    first
      | exact wpAny_bind (wpAny_pure (wpAny_pure ⟨.none, rfl, wpAny_pure hQ⟩))
      | exact wpAny_pure ⟨.none, rfl, wpAny_pure hQ⟩

noncomputable def StoAt (cx : Cx) (ρ : Pls) (s : Shared) (σ' : Sto) (s' : Shared) : Prop := ∃ ρ', SOk cx ρ' σ' s' ∧ Post ρ ρ' (fun _ => False) s.heap s'.heap
theorem lI {ρ : Pls} {σ : Sto} {s : Shared} {k : Nat} {xs : List MV} {v : MV} {rv : Value} {p : Addr × Addr} {vs : List Value} {m j : Nat} (S : SOk cx ρ σ s) (hk : σ[k]? = some (.list xs)) (hp : ρ[k]? = some p) (hpp : p.2 = p.1)
    (o1 : s.heap.get? p.1 = some (listO vs m)) (q1 : VsRel cx.h₀ ρ s.heap xs vs) (r : VRel cx.h₀ ρ s.heap v rv) : StoAt cx ρ s (σ.set k (.list (xs.set j v))) { s with heap := s.heap.update p.1 (Obj.mapSeq (·.setIfInBounds j rv)) } := by
  have e1 : (s.heap.update p.1 (Obj.mapSeq (·.setIfInBounds j rv))).get? p.1 = some (listO (vs.set j rv) (if (vs.toArray.setIfInBounds j rv).size == vs.toArray.size then m else m + 1)) := by
    rw [Heap.get?_update_self _ o1 rfl]
    unfold listO
    rw [← show vs.toArray.setIfInBounds j rv = (vs.set j rv).toArray by simp]
    rfl
  obtain ⟨a, b⟩ := S.put (o' := .list (xs.set j v)) (h := s.heap.update p.1 (Obj.mapSeq (·.setIfInBounds j rv))) s.toks hk hp (fun b o h1 h2 e => (Heap.get?_update_other _ _ (Ne.symm h1)).trans e)
    (fun t => ⟨hpp, _, _, e1, (q1.mono ⟨[], by simp⟩ t).set (r.sub t) j⟩)
  exact ⟨ρ, a, b _⟩
theorem nQ {ρ : Pls} {σ : Sto} {s : Shared} {k : Nat} {b c : List UInt8} {p : Addr × Addr} {h' : Heap} (S : SOk cx ρ σ s) (hk : σ[k]? = some (.ba b)) (hp : ρ[k]? = some p) (hpp : p.2 = p.1)
    (e : h'.get? p.1 = some (baO c)) (kb : ∀ x o, x ≠ p.1 → s.heap.get? x = some o → h'.get? x = some o) : StoAt cx ρ s (σ.set k (.ba c)) { s with heap := h' } := by
  obtain ⟨a, b⟩ := S.put (o' := .ba c) (h := h') s.toks hk hp (fun b o h1 _ e => kb b o h1 e) (fun t => ⟨hpp, e⟩)
  exact ⟨ρ, a, b _⟩
theorem oD {ρ : Pls} {σ σ' : Sto} {s : Shared} {x y v : MV} {rx ry rv : Value} (S : SOk cx ρ σ s) (r1 : VRel cx.h₀ ρ s.heap x rx) (r2 : VRel cx.h₀ ρ s.heap y ry) (r3 : VRel cx.h₀ ρ s.heap v rv) (hf : pItem x y v σ = some σ') :
    wpN cx.M n (setItem rx ry rv) (fun _ s' => StoAt cx ρ s σ' s') s := by
  unfold pItem at hf
  split at hf
  · rename_i k i
    split at hf
    · rename_i xs e1
      obtain ⟨p, vs, m, rfl, hp, hpp, o1, q1⟩ := listAt S r1 e1
      first | have r2 := r2.intE | have r2 := r2.bytesE | have r2 := r2.boolE | have r2 := r2.noneE | have r2 := r2.strE
      obtain ⟨_, rfl⟩ := r2
      have hsz : vs.toArray.size = xs.length := by simp [q1.length]
      split at hf
      · rename_i h0
        cases hf
        have hb := h0.2.2
        unfold big at hb
        exact aG fun A _ => nc (items := vs.toArray) (j := i.toNat) o1 (fitsIndex_of h0.1 (by (first|lia|omega))) (by rw [hsz]; exact seqI h0.1 h0.2.1) (by (first|lia|omega)) (lI S e1 hp hpp o1 q1 r3)
      · split at hf
        · rename_i h0
          cases hf
          have hb := h0.2.2
          unfold big at hb
          exact aG fun A _ => nc (items := vs.toArray) (j := (i + xs.length).toNat) o1 (fitsIndex_neg h0.1 (by (first|lia|omega))) (by rw [hsz]; exact seqIndex_neg h0.1 h0.2.1) (by (first|lia|omega)) (lI S e1 hp hpp o1 q1 r3)
        · cases hf
    · rename_i b e1
      split at hf
      · rename_i c
        first | have hf := aZ hf
        obtain ⟨hz, hf⟩ := hf
        cases hf
        obtain ⟨p, rfl, hp, hpp, o1⟩ := baAt S r1 e1
        first | have r2 := r2.intE | have r2 := r2.bytesE | have r2 := r2.boolE | have r2 := r2.noneE | have r2 := r2.strE
        obtain ⟨_, rfl⟩ := r2
        first | have r3 := r3.intE | have r3 := r3.bytesE | have r3 := r3.boolE | have r3 := r3.noneE | have r3 := r3.strE
        obtain ⟨_, rfl⟩ := r3
        have hb := hz.2.2.1
        unfold big at hb
        exact qS o1 (by rw [sizeLine_eq]; (first|lia|omega)) hz.1 hz.2.1 hz.2.2.2.1 hz.2.2.2.2 fun h' e k => nQ S e1 hp hpp e fun x o hx q => (k x hx).trans q
      · cases hf
    · cases hf
  · cases hf
noncomputable def pCut (x : MV) (i j : Option Int) (v : MV) (σ : Sto) : Option Sto := match x, i, j, v with
  | .ref k, some i, some j, .bytes c => (match σ[k]? with
    | some (.ba b) => if 0 ≤ i ∧ i ≤ j ∧ j ≤ b.length ∧ b.length ≤ big ∧ (c.length : Int) = j - i then some (σ.set k (.ba (b.take i.toNat ++ c ++ b.drop j.toNat))) else none
    | _ => none)
  | _, _, _, _ => none
theorem pF {ρ : Pls} {σ σ' : Sto} {s : Shared} {x v : MV} {rx rv : Value} {sl : Addr} {lv hv : Value} {lo hi : Option Int} (S : SOk cx ρ σ s) (r1 : VRel cx.h₀ ρ s.heap x rx) (p1 : IsPart lv lo) (p2 : IsPart hv hi) (hs : s.heap.IsSliceOf sl lv hv .none)
    (r3 : VRel cx.h₀ ρ s.heap v rv) (hf : pCut x lo hi v σ = some σ') : wpN cx.M (n + 3) (setItem rx (.ref sl) rv) (fun _ s' => StoAt cx ρ s σ' s') s := by
  unfold pCut at hf
  split at hf
  · rename_i k i j c
    first | have hf := mls hf | have hf := mba hf | have hf := m1s hf | have hf := m1l hf | have hf := m1v hf | have hf := m1o hf | have hf := m1i hf | have hf := m1b hf
    obtain ⟨b, e1, hf⟩ := hf
    first | have hf := aZ hf
    obtain ⟨hz, hf⟩ := hf
    cases hf
    obtain ⟨p, rfl, hp, hpp, o1⟩ := baAt S r1 e1
    first | have r3 := r3.intE | have r3 := r3.bytesE | have r3 := r3.boolE | have r3 := r3.noneE | have r3 := r3.strE
    obtain ⟨_, rfl⟩ := r3
    have hb := hz.2.2.2.1
    unfold big at hb
    exact qg o1 (by rw [sizeLine_eq]; (first|lia|omega)) p1 p2 hs hz.1 hz.2.1 hz.2.2.1 hz.2.2.2.2 fun h' e k => nQ S e1 hp hpp e k
  · cases hf

noncomputable def sPut (f g e : EF) : SF := fun loc σ => match e loc σ with
  | some (v, σ1) => (match f loc σ1 with
    | some (x, σ2) => (match g loc σ2 with
      | some (y, σ3) => (match pItem x y v σ3 with | some σ4 => some (.next, loc, σ4) | none => none)
      | none => none)
    | none => none)
  | none => none
theorem du {a b e : Expr} {f g fe : EF} {p1 pos : Pos} (he : DenE cx sc n e fe) (h1 : DenE cx sc n a f) (h2 : DenE cx sc n b g) (hs : ∀ env, swapsWithSole [.Subscript a b p1] e pos.line env = pure false) (hw : ∀ env, swappedStores [.Subscript a b p1] e env = pure none)
    (hsl : ∀ (v ov iv : Value), (match b with | .Slice _ _ none _ => [iv, v, ov] | _ => [v, ov, iv]) = [v, ov, iv]) : DenS1 cx sc n (.Assign [.Subscript a b p1] e pos) (sPut f g fe) := by
  intro env L ρ σ loc s fl loc' σ' eo S lo hf
  unfold sPut at hf
  first | have hf := m2v hf | have hf := mrf hf | have hf := m2l hf | have hf := m2b hf | have hf := mit hf | have hf := mbl hf | have hf := m2o hf | have hf := mis hf
  obtain ⟨v, σ1, e1, hf⟩ := hf
  first | have hf := m2v hf | have hf := mrf hf | have hf := m2l hf | have hf := m2b hf | have hf := mit hf | have hf := mbl hf | have hf := m2o hf | have hf := mis hf
  obtain ⟨x, σ2, e2, hf⟩ := hf
  first | have hf := m2v hf | have hf := mrf hf | have hf := m2l hf | have hf := m2b hf | have hf := mit hf | have hf := mbl hf | have hf := m2o hf | have hf := mis hf
  obtain ⟨y, σ3, e3, hf⟩ := hf
  first | have hf := mls hf | have hf := mba hf | have hf := m1s hf | have hf := m1l hf | have hf := m1v hf | have hf := m1o hf | have hf := m1i hf | have hf := m1b hf
  obtain ⟨σ4, e4, hf⟩ := hf
  cases hf
  rw [exec_Assign_arm, hs, hw]
  refine a9 (aH (a9 (aF ?_)))
  rw [if_neg (by decide)]
  refine a9 (aE (he env L ρ σ loc s v σ1 eo S lo e1) fun rv s₁ h₁ => a9 (aF ?_))
  obtain ⟨ρ₁, S₁, P₁, r₁⟩ := h₁
  refine a9 ?_
  refine a9 (aI (aE (h1 env L ρ₁ σ1 loc s₁ x σ2 eo S₁ (lo.post P₁) e2) fun ov s₂ h₂ => ?_))
  obtain ⟨ρ₂, S₂, P₂, r₂⟩ := h₂
  refine a9 (aI (aE (h2 env L ρ₂ σ2 loc s₂ y σ3 eo S₂ (lo.post (P₁.trans P₂)) e3) fun iv s₃ h₃ => a9 (aH ?_)))
  obtain ⟨ρ₃, S₃, P₃, r₃⟩ := h₃
  refine a9 (aI (aE (oD S₃ ((r₂.post P₃)) r₃ ((r₁.post P₂).post P₃) e4) fun _ s₄ h₄ => gG (aF ?_)))
  obtain ⟨ρ₄, S₄, P₄⟩ := h₄
  have P := ((P₁.trans P₂).trans P₃).trans P₄
  exact ⟨ρ₄, S₄, P.toL, lo.post P, .next⟩
noncomputable def sPutCut (f : EF) (fl fh : OF) (e : EF) : SF := fun loc σ => match e loc σ with
  | some (v, σ1) => (match f loc σ1 with
    | some (x, σ2) => (match fl loc σ2 with
      | some (i, σ3) => (match fh loc σ3 with
        | some (j, σ4) => (match pCut x i j v σ4 with | some σ5 => some (.next, loc, σ5) | none => none)
        | none => none)
      | none => none)
    | none => none)
  | none => none
theorem gu {a e : Expr} {lo hi : Option Expr} {f fe : EF} {fl fh : OF} {p0 p1 pos : Pos} (he : DenE cx sc (n + 3) e fe) (h0 : DenE cx sc (n + 3) a f) (h1 : DenO cx sc (n + 3) lo fl) (h2 : DenO cx sc (n + 3) hi fh)
    (hs : ∀ env, swapsWithSole [.Subscript a (.Slice lo hi none p0) p1] e pos.line env = pure false) (hw : ∀ env, swappedStores [.Subscript a (.Slice lo hi none p0) p1] e env = pure none) : DenS1 cx sc (n + 3) (.Assign [.Subscript a (.Slice lo hi none p0) p1] e pos) (sPutCut f fl fh fe) := by
  intro env L ρ σ loc s flw loc' σ' eo S lo' hf
  unfold sPutCut at hf
  first | have hf := m2v hf | have hf := mrf hf | have hf := m2l hf | have hf := m2b hf | have hf := mit hf | have hf := mbl hf | have hf := m2o hf | have hf := mis hf
  obtain ⟨v, σ1, e1, hf⟩ := hf
  first | have hf := m2v hf | have hf := mrf hf | have hf := m2l hf | have hf := m2b hf | have hf := mit hf | have hf := mbl hf | have hf := m2o hf | have hf := mis hf
  obtain ⟨x, σ2, e2, hf⟩ := hf
  first | have hf := m2v hf | have hf := mrf hf | have hf := m2l hf | have hf := m2b hf | have hf := mit hf | have hf := mbl hf | have hf := m2o hf | have hf := mis hf
  obtain ⟨i, σ3, e3, hf⟩ := hf
  first | have hf := m2v hf | have hf := mrf hf | have hf := m2l hf | have hf := m2b hf | have hf := mit hf | have hf := mbl hf | have hf := m2o hf | have hf := mis hf
  obtain ⟨j, σ4, e4, hf⟩ := hf
  first | have hf := mls hf | have hf := mba hf | have hf := m1s hf | have hf := m1l hf | have hf := m1v hf | have hf := m1o hf | have hf := m1i hf | have hf := m1b hf
  obtain ⟨σ5, e5, hf⟩ := hf
  cases hf
  rw [exec_Assign_arm, hs, hw]
  refine a9 (aH (a9 (aF ?_)))
  rw [if_neg (by decide)]
  refine a9 (aE (he env L ρ σ loc s v σ1 eo S lo' e1) fun rv s₁ h₁ => a9 (aF ?_))
  obtain ⟨ρ₁, S₁, P₁, r₁⟩ := h₁
  refine a9 ?_
  refine a9 (aI (aE (h0 env L ρ₁ σ1 loc s₁ x σ2 eo S₁ (lo'.post P₁) e2) fun ov s₂ h₂ => ?_))
  obtain ⟨ρ₂, S₂, P₂, r₂⟩ := h₂
  refine a9 (aI (aE (ju h1 h2 eo S₂ (lo'.post (P₁.trans P₂)) e3 e4) fun iv s₃ h₃ => a9 (aH ?_)))
  obtain ⟨sl, lv, hv, ρ₃, rfl, q1, q2, hsl, S₃, P₃⟩ := h₃
  refine a9 (aI (aE (pF S₃ (r₂.post P₃) q1 q2 hsl ((r₁.post P₂).post P₃) e5) fun _ s₄ h₄ => gG (aF ?_)))
  obtain ⟨ρ₄, S₄, P₄⟩ := h₄
  have P := ((P₁.trans P₂).trans P₃).trans P₄
  exact ⟨ρ₄, S₄, P.toL, lo'.post P, .next⟩
end Mine

end
section
open PySem PySem.W PySem.Calls PyProof.Rows
open Sem (wp)
namespace Mine
open PySem.Builtin
variable {cx : Cx} {sc : Scope} {n : Nat}

noncomputable def fget (x : String) : List (String × MV) → Option MV
  | [] => none
  | (y, v) :: r => if y = x then some v else fget x r
noncomputable def fput (x : String) (v : MV) : List (String × MV) → List (String × MV)
  | [] => [(x, v)]
  | (y, u) :: r => if y = x then (y, v) :: r else (y, u) :: fput x v r
theorem jt {x y : String} {t : Tok} : (Value.str (Str.ofString y) t).isStr (Str.ofString x) = decide (y = x) := by
  show (Str.ofString y == Str.ofString x) = _
  by_cases h : y = x
  · subst h; simp
  · have : Str.ofString y ≠ Str.ofString x := fun q => h (fV q)
    simp [this, h]
theorem FsRel.noRef {h₀ h : Heap} {ρ : Pls} : ∀ {fs es}, FsRel h₀ ρ h fs es → es.any (·.refKey) = false
  | _, _, .nil => rfl
  | _, _, .cons _ r => by rw [List.any_cons, r.noRef]; rfl
theorem FsRel.length {h₀ h : Heap} {ρ : Pls} : ∀ {fs es}, FsRel h₀ ρ h fs es → es.length = fs.length
  | _, _, .nil => rfl
  | _, _, .cons _ r => by simp [r.length]
theorem FsRel.find {h₀ h : Heap} {ρ : Pls} {x : String} : ∀ {fs es}, FsRel h₀ ρ h fs es → match fget x fs with
    | some v => ∃ e, es.find? (·.key.isStr (Str.ofString x)) = some e ∧ VRel h₀ ρ h v e.val
    | none => es.find? (·.key.isStr (Str.ofString x)) = none
  | _, _, .nil => rfl
  | _, _, .cons (x := y) (fs := fs) ra r => by
    have ih := FsRel.find (x := x) r
    rw [List.find?_cons]
    unfold fget
    rw [jt]
    by_cases h : y = x
    · simp only [h, if_true, decide_true]
      exact ⟨_, rfl, ra⟩
    · simp only [h, if_false, decide_false]
      exact ih
theorem FsRel.get {h₀ h : Heap} {ρ : Pls} {x : String} {fs es v} (r : FsRel h₀ ρ h fs es) (e : fget x fs = some v) : ∃ rv, getL (Str.ofString x) es = some (some rv) ∧ VRel h₀ ρ h v rv := by
  have := r.find (x := x)
  rw [e] at this
  obtain ⟨en, e1, e2⟩ := this
  exact ⟨en.val, by unfold getL; rw [e1], e2⟩
theorem FsRel.miss {h₀ h : Heap} {ρ : Pls} {x : String} {fs es} (r : FsRel h₀ ρ h fs es) (e : fget x fs = none) : getL (Str.ofString x) es = some none := by
  have := r.find (x := x)
  rw [e] at this
  unfold getL
  rw [this, r.noRef]; rfl
theorem FsRel.put {h₀ h : Heap} {ρ : Pls} {x : String} {v : MV} {rv : Value} {hs : Int} {t : Tok} (rx : VRel h₀ ρ h v rv) : ∀ {fs es}, FsRel h₀ ρ h fs es → FsRel h₀ ρ h (fput x v fs) (putL (Str.ofString x) hs (.str (Str.ofString x) t) rv es)
  | _, _, .nil => .cons rx .nil
  | _, _, .cons (x := y) (fs := fs) ra r => by
    unfold fput putL
    rw [jt]
    by_cases h : y = x
    · subst h
      simp only [if_true, decide_true]
      exact .cons rx r
    · simp only [h, if_false, decide_false, Bool.false_eq_true]
      exact .cons ra (FsRel.put rx r)
theorem VRel.handed {h₀ h : Heap} {ρ : Pls} {v rv} (r : VRel h₀ ρ h v rv) : handedIn rv = true := by cases r <;> rfl

theorem instAt {ρ : Pls} {σ : Sto} {s : Shared} (S : SOk cx ρ σ s) {k : Nat} {rv : Value} {C : Addr} {fs : List (String × MV)} (r : VRel cx.h₀ ρ s.heap (.ref k) rv) (hk : σ[k]? = some (.inst C fs)) :
    ∃ p es m, rv = .ref p.1 ∧ ρ[k]? = some p ∧ InstAt s.heap p.1 (instObj C p.2) C (some (dictOf es m)) ∧ s.heap.get? p.2 = some (dictOf es m) ∧ FsRel cx.h₀ ρ s.heap fs es := by
  obtain ⟨p, rfl, hp, es, m, e1, e2, r⟩ := S.refAt r hk
  exact ⟨p, es, m, rfl, hp, ⟨e1, rfl, rfl, e2⟩, e2, r⟩

structure AttrOk (K : Frag) (C : Addr) (x : String) : Prop where
  plain : plainGet K C (Str.ofString x) = true
  dict : hasDictIn K C = true
  none : findIn K (.ref C) (Str.ofString x) = some none
noncomputable def eAttr (C : Addr) (x : String) (f : EF) : EF := fun loc σ => match f loc σ with
  | some (.ref k, σ1) => (match σ1[k]? with | some (.inst C' fs) => if C' = C then (fget x fs).map (·, σ1) else none | _ => none)
  | _ => none
theorem lE {base : Expr} {o r : Value} {s : Shared} {Q : Unit → Shared → Prop} (h : Q () s) : wpN cx.M n (letTemporaryGo base o r) Q s := aG fun A _ => wpAny_letTemporaryGo h
theorem aK {C : Addr} {x : String} {e : Expr} {f : EF} {pos : Pos} (ok : AttrOk cx.K C x) (h : DenE cx sc n e f) (hb : ∀ env whole, attributeBase e (Str.ofString x) env whole = whole) :
    DenE cx sc n (.Attribute e (Str.ofString x) pos) (eAttr C x f) := by
  intro env L ρ σ loc s v σ' eo S lo hf
  unfold eAttr at hf
  split at hf
  · rename_i k σ1 e1
    split at hf
    · rename_i C' fs e2
      split at hf
      · rename_i hC
        subst hC
        cases q : fget x fs with
        | none => rw [q] at hf; cases hf
        | some u =>
          rw [q] at hf; cases hf
          rw [arm_eval_Attribute, hb]
          refine a9 (aE (h env L ρ σ loc s _ _ eo S lo e1) fun o s₁ h₁ => a9 (aH (a9 (aI ?_))))
          obtain ⟨ρ₁, S₁, P₁, r₁⟩ := h₁
          obtain ⟨p, es, m, rfl, hp, I, _, F⟩ := instAt S₁ r₁ e2
          obtain ⟨rv, g1, g2⟩ := F.get q
          refine aG fun A _ => get_value S₁.XK I (plainGet_of ok.plain).1 (findObj_own ok.dict ok.none rfl g1) g2.handed (a9 (lE (aF ?_)))
          exact .after P₁ (.tok S₁ _ g2)
      · cases hf
    · cases hf
  · cases hf

structure SetOk (K : Frag) (C : Addr) (x : String) : Prop where
  plain : findIn K (.ref C) "__setattr__" = some (some (.builtin "object.__setattr__"))
  over : plainOver K C = true
  taker : takerIn K C (Str.ofString x) = some none
  dict : (clsIn K C).any (·.hasDict) = true
noncomputable def sSetAttr (C : Addr) (x : String) (f e : EF) : SF := fun loc σ => match e loc σ with
  | some (v, σ1) => (match f loc σ1 with
    | some (.ref k, σ2) => (match σ2[k]? with | some (.inst C' fs) => if C' = C ∧ fs.length ≤ 100 then some (.next, loc, σ2.set k (.inst C (fput x v fs))) else none | _ => none)
    | _ => none)
  | none => none
theorem lB (name : Str) (hsh : Int) (key v : Value) : ∀ es : List DictEntry, (putL name hsh key v es).length ≤ es.length + 1
  | [] => by simp [putL]
  | e :: r => by
    unfold putL
    split
    · simp
    · have := lB name hsh key v r
      simp only [List.length_cons]; (first|lia|omega)
theorem mF {ρ : Pls} {σ : Sto} {s : Shared} {k : Nat} {C : Addr} {fs : List (String × MV)} {x : String} {v : MV} {ro rv : Value} (ok : SetOk cx.K C x) (S : SOk cx ρ σ s) (r1 : VRel cx.h₀ ρ s.heap (.ref k) ro) (hk : σ[k]? = some (.inst C fs)) (hz : fs.length ≤ 100)
    (r2 : VRel cx.h₀ ρ s.heap v rv) : wpN cx.M n (setAttr ro (Str.ofString x) rv) (fun _ s' => StoAt cx ρ s (σ.set k (.inst C (fput x v fs))) s') s := by
  obtain ⟨p, es, m, rfl, hp, I, hd, F⟩ := instAt S r1 hk
  refine aG fun A _ => set_plain S.XK I ok.plain ?_
  refine osa_open (s := { s with toks := s.toks + 1 }) (name := Str.ofString x) (r := none) S.XK I ok.over ok.taker fun b => ?_
  obtain ⟨cd, hc, hd'⟩ := any_some ok.dict
  obtain ⟨hx, hcl, hn, -⟩ := I
  refine wpAny_bind (wpAny_pure (wpAny_bind (wpAny_bind (wpAny_loadPart hx (wpAny_bind (looks_clsIn S.XK hc _ _ _ _ (fun _ _ e => e) ?_))))))
  rw [hd']
  refine wpAny_pure (a := some p.2) (wpAny_bind (wpAny_pure (wpAny_bind ?_)))
  unfold nsSet
  refine wpAny_bind (wpAny_bind (wpAny_askSetting (wpAny_pure (wpAny_bind (wpAny_mkText (wpAny_bind (wpAny_loadPart hd ?_)))))))
  dsimp only
  have c : (!es.toArray.any (·.key.isStr (Str.ofString x)) && es.toArray.any (·.refKey)) = false := by
    rw [← Array.any_toList, ← Array.any_toList, F.noRef, Bool.and_false]
  rw [aRefKeyMayBeTheName_at, c]
  refine wpAny_updatePart hd ?_
  have D' : (s.heap.update p.2 (Obj.putName (Str.ofString x) (PyData.keyHash cx.w.params (Str.ofString x)) (.str (Str.ofString x) (s.toks + 1)) rv)).get? p.2 = some (dictOf (putL (Str.ofString x) (PyData.keyHash cx.w.params (Str.ofString x)) (.str (Str.ofString x) (s.toks + 1)) rv es) (putN (Str.ofString x) es m)) := by
    rw [← putName_dict]
    exact Heap.get?_update_self _ hd (by rw [putName_dict]; rfl)
  refine wpAny_bind (wpAny_lookBehind D' (pastItsLine_dict (by have := lB (Str.ofString x) (PyData.keyHash cx.w.params (Str.ofString x)) (.str (Str.ofString x) (s.toks + 1)) rv es; rw [F.length] at this; rw [List.size_toArray, sizeLine_eq]; (first|lia|omega))) ?_)
  refine wpAny_pure ?_
  have hne : p.1 ≠ p.2 := by
    intro z
    rw [z] at hx
    rw [hd] at hx
    cases hx
  obtain ⟨a, b⟩ := S.put (o' := .inst C (fput x v fs)) (h := s.heap.update p.2 (Obj.putName (Str.ofString x) (PyData.keyHash cx.w.params (Str.ofString x)) (.str (Str.ofString x) (s.toks + 1)) rv)) (s.toks + 1 + 1) hk hp (fun b o _ h2 e => (Heap.get?_update_other _ _ (Ne.symm h2)).trans e)
    (fun t => ⟨_, _, (Heap.get?_update_other _ _ (Ne.symm hne)).trans hx, D', (F.mono ⟨[], by simp⟩ t).put (r2.sub t)⟩)
  exact ⟨ρ, a, b _⟩
theorem bP {C : Addr} {x : String} {o e : Expr} {f fe : EF} {p1 pos : Pos} (ok : SetOk cx.K C x) (he : DenE cx sc n e fe) (h1 : DenE cx sc n o f)
    (hs : ∀ env, swapsWithSole [.Attribute o (Str.ofString x) p1] e pos.line env = pure false) (hw : ∀ env, swappedStores [.Attribute o (Str.ofString x) p1] e env = pure none) : DenS1 cx sc n (.Assign [.Attribute o (Str.ofString x) p1] e pos) (sSetAttr C x f fe) := by
  intro env L ρ σ loc s fl loc' σ' eo S lo hf
  unfold sSetAttr at hf
  first | have hf := m2v hf | have hf := mrf hf | have hf := m2l hf | have hf := m2b hf | have hf := mit hf | have hf := mbl hf | have hf := m2o hf | have hf := mis hf
  obtain ⟨v, σ1, e1, hf⟩ := hf
  first | have hf := m2v hf | have hf := mrf hf | have hf := m2l hf | have hf := m2b hf | have hf := mit hf | have hf := mbl hf | have hf := m2o hf | have hf := mis hf
  obtain ⟨k, σ2, e2, hf⟩ := hf
  first | have hf := m2v hf | have hf := mrf hf | have hf := m2l hf | have hf := m2b hf | have hf := mit hf | have hf := mbl hf | have hf := m2o hf | have hf := mis hf
  obtain ⟨C', fs, e3, hf⟩ := hf
  first | have hf := aZ hf
  obtain ⟨hC, hf⟩ := hf
  obtain ⟨rfl, hz⟩ := hC
  cases hf
  rw [exec_Assign_arm, hs, hw]
  refine a9 (aH (a9 (aF ?_)))
  rw [if_neg (by decide)]
  refine a9 (aE (he env L ρ σ loc s v σ1 eo S lo e1) fun rv s₁ h₁ => a9 (aF ?_))
  obtain ⟨ρ₁, S₁, P₁, r₁⟩ := h₁
  refine a9 ?_
  refine a9 (aI (aE (h1 env L ρ₁ σ1 loc s₁ _ σ2 eo S₁ (lo.post P₁) e2) fun ov s₂ h₂ => a9 (aH ?_)))
  obtain ⟨ρ₂, S₂, P₂, r₂⟩ := h₂
  refine a9 (aI (aE (mF ok S₂ r₂ e3 hz (r₁.post P₂)) fun _ s₄ h₄ => gG (aF ?_)))
  obtain ⟨ρ₄, S₄, P₄⟩ := h₄
  have P := (P₁.trans P₂).trans P₄
  exact ⟨ρ₄, S₄, P.toL, lo.post P, .next⟩

structure MethOk (cx : Cx) (C : Addr) (x : String) (f : Addr) : Prop where
  plain : plainGet cx.K C (Str.ofString x) = true
  find : findIn cx.K (.ref C) (Str.ofString x) = some (some (.ref f))
  fn : isFn cx.K (.ref f) = true
  at_ : FnAt cx.K f
noncomputable def eMeth (C : Addr) (x : String) (g : FF) (f : EF) (fs : EsF) : EF := fun loc σ => match f loc σ with
  | some (.ref k, σ1) => (match σ1[k]? with
    | some (.inst C' fl) => if C' = C ∧ fget x fl = none then (match fs loc σ1 with | some (vs, σ2) => g (.ref k :: vs) σ2 | none => none) else none
    | _ => none)
  | _ => none
theorem jN {C f : Addr} {x : String} {g : FF} {m : Nat} (ok : MethOk cx C x f) (hF : DenF cx m (.ref f) g) (hm : m ≤ n) {es : List Expr} {fs : EsF} (hs : DenEs cx sc n es fs) {env : Env} {L : Addr} {ρ : Pls} {σ σ2 σ' : Sto} {loc : Loc} {s : Shared} {k : Nat} {fl : List (String × MV)} {ov : Value} {vs : List MV} {v : MV} {pl : Sem Bool} {pos : Pos}
    (eo : EnvOk env sc L) (S : SOk cx ρ σ s) (lo : LOk cx ρ loc L s.heap) (r : VRel cx.h₀ ρ s.heap (.ref k) ov) (hk : σ[k]? = some (.inst C fl)) (hn : fget x fl = none) (e2 : fs loc σ = some (vs, σ2)) (e3 : g (.ref k :: vs) σ2 = some (v, σ')) :
    wpN cx.M n (do let (f, first) ← holding [ov] (getMethod ov (Str.ofString x) pl); callWith pos f first (backTo pos (starEach es env)) []) (ValAt cx ρ s v σ') s := by
  obtain ⟨p, des, m, rfl, hp, I, hd, F⟩ := instAt S r hk
  refine a9 (aI (aG fun A _ => method_fn S.XK I (plainGet_of ok.plain).1 (plainGet_of ok.plain).2 ok.find (beq_iff_eq.mp ok.fn) (by show (lookIn (Str.ofString x) (dictOf des m)).map _ = _; rw [lookIn_dict, F.miss hn]; rfl) ?_))
  obtain ⟨oc, od, fd, osl, ho⟩ := ok.at_.get
  refine fZ (o := ⟨oc, od, .func fd, osl⟩) (fd := fd) (hs.1 _ _) (aE (hs.2 env L ρ σ loc s vs σ2 pos eo S lo e2) fun rvs s₁ h₁ => ?_)
  obtain ⟨ρ₁, S₁, P₁, r₁⟩ := h₁
  refine ⟨⟨S₁.XK _ _ ho, rfl⟩, cy (dN (jD (hF ρ₁ σ2 s₁ (.ref k :: vs) (.ref p.1 :: rvs) v σ' S₁ (.cons (r.post P₁) r₁) e3) hm) fun r s₂ h₂ => ?_)⟩
  obtain ⟨rv, e4, h₃⟩ := h₂
  exact ⟨rv, e4, .after P₁ h₃⟩
theorem aO {C f : Addr} {x : String} {g : FF} {m : Nat} {o : Expr} {fo : EF} {es : List Expr} {fs : EsF} {ap pos : Pos} (ok : MethOk cx C x f) (hF : DenF cx m (.ref f) g) (hm : m ≤ n) (h0 : DenE cx sc n o fo) (hs : DenEs cx sc n es fs)
    (hb : ∀ env whole, attributeBase o (Str.ofString x) env whole = whole)
    (he : ∀ o env ov, methodCall o (Str.ofString x) ap pos env ov (es.length + ([] : List Keyword).length) (backTo pos (starEach es env)) (backToKw pos (keywordEach [] env)) = (do
      let (f, first) ← holding [ov] (getMethod ov (Str.ofString x) (do return (← importBound o env).getD true))
      callWith pos f first (backTo pos (starEach es env)) [])) : DenE cx sc n (.Call (.Attribute o (Str.ofString x) ap) es [] pos) (eMeth C x g fo fs) := by
  intro env L ρ σ loc s v σ' eo S lo hf
  unfold eMeth at hf
  split at hf
  · rename_i k σ1 e1
    split at hf
    · rename_i C' fl hk
      split at hf
      · rename_i hC
        obtain ⟨rfl, hn⟩ := hC
        split at hf
        · rename_i vs σ2 e2
          rw [arm_eval_Call, hb]
          refine a9 (aE (h0 env L ρ σ loc s _ _ eo S lo e1) fun ov s₁ h₁ => a9 (aH ?_))
          obtain ⟨ρ₁, S₁, P₁, r₁⟩ := h₁
          rw [he]
          exact aE (jN ok hF hm hs eo S₁ (lo.post P₁) r₁ hk hn e2 hf) fun w s₂ h₂ => .after P₁ h₂
        · cases hf
      · cases hf
    · cases hf
  · cases hf
end Mine

end
section
open PySem PySem.W PySem.Calls PyProof.Rows
open Sem (wp)
namespace Mine
open PySem.Builtin
variable {cx : Cx} {sc : Scope} {n : Nat}

theorem iw {ρ : Pls} {σ : Sto} {s : Shared} {k : Nat} {xs ys : List MV} {p : Addr × Addr} {vs us : List Value} {m : Nat} {f : Array Value → Array Value} (S : SOk cx ρ σ s) (hk : σ[k]? = some (.list xs)) (hp : ρ[k]? = some p) (hpp : p.2 = p.1)
    (o1 : s.heap.get? p.1 = some (listO vs m)) (hf : f vs.toArray = us.toArray) (r : VsRel cx.h₀ ρ s.heap ys us) :
    SOk cx ρ (σ.set k (.list ys)) { s with heap := s.heap.update p.1 (Obj.mapSeq f) } ∧ ∀ X, Post ρ ρ X s.heap (s.heap.update p.1 (Obj.mapSeq f)) := by
  have e1 : (s.heap.update p.1 (Obj.mapSeq f)).get? p.1 = some (listO us (if (f vs.toArray).size == vs.toArray.size then m else m + 1)) := by
    rw [Heap.get?_update_self _ o1 rfl]
    unfold listO
    rw [← hf]
    rfl
  exact S.put (o' := .list ys) (h := s.heap.update p.1 (Obj.mapSeq f)) s.toks hk hp (fun b o h1 h2 e => (Heap.get?_update_other _ _ (Ne.symm h1)).trans e)
    (fun t => ⟨hpp, _, _, e1, r.mono ⟨[], by simp⟩ t⟩)
noncomputable def mAppend : FF := fun args σ => a2 args fun x v => eRef x (fun k => eLst σ[k]? (fun xs => if xs.length < big then some (.none, σ.set k (.list (xs ++ [v]))) else none) none) none
theorem bD : CallOk cx n (.builtin "list.append") mAppend := by
  intro ρ σ s args vs z σ' S r hf
  obtain ⟨x, v, rfl, hf⟩ := a2E hf
  obtain ⟨k, rfl, hf⟩ := dRefE hf
  obtain ⟨xs, e1, hf⟩ := dLstE hf
  first | have hf := aZ hf
  obtain ⟨hz, hf⟩ := hf
  cases hf
  obtain ⟨_, _, rfl, r1, r2⟩ := r.two
  obtain ⟨p, us, m, rfl, hp, hpp, o1, q1⟩ := listAt S r1 e1
  refine aG fun A _ => call_meets F.slot_list_append ⟨_, o1, rfl⟩ F.entry_list_append (F.args_list_append_2 _ _) (list_append p.1 us.toArray m _ (by rw [List.size_toArray, q1.length, sizeLine_eq]; unfold big at hz; (first|lia|omega))) ⟨o1, ?_⟩
  obtain ⟨a, b⟩ := iw (ys := xs ++ [v]) (f := fun x => x.push _) S e1 hp hpp o1 (by simp; rfl) (q1.append (.cons r2 .nil))
  exact ⟨ρ, a, b _, .none⟩
noncomputable def mReverse : FF := fun args σ => a1 args fun x => eRef x (fun k => eLst σ[k]? (fun xs => if xs.length ≤ big then some (.none, σ.set k (.list xs.reverse)) else none) none) none
theorem lH : CallOk cx n (.builtin "list.reverse") mReverse := by
  intro ρ σ s args vs z σ' S r hf
  obtain ⟨x, rfl, hf⟩ := a1E hf
  obtain ⟨k, rfl, hf⟩ := dRefE hf
  obtain ⟨xs, e1, hf⟩ := dLstE hf
  first | have hf := aZ hf
  obtain ⟨hz, hf⟩ := hf
  cases hf
  obtain ⟨_, rfl, r1⟩ := r.one
  obtain ⟨p, us, m, rfl, hp, hpp, o1, q1⟩ := listAt S r1 e1
  refine aG fun A _ => call_meets F.slot_list_reverse ⟨_, o1, rfl⟩ F.entry_list_reverse (F.args_list_reverse_1 _) (AutoListH.list_reverse_list_0 p.1 us.toArray m (by rw [List.size_toArray, q1.length, sizeLine_eq]; unfold big at hz; (first|lia|omega))) ⟨o1, ?_⟩
  obtain ⟨a, b⟩ := iw (ys := xs.reverse) (f := fun x => x.reverse) S e1 hp hpp o1 (by simp) q1.reverse
  exact ⟨ρ, a, b _, .none⟩
theorem VsRel.eraseIdx {h₀ h : Heap} {ρ : Pls} : ∀ {xs vs} (n : Nat), VsRel h₀ ρ h xs vs → VsRel h₀ ρ h (xs.eraseIdx n) (vs.eraseIdx n)
  | _, _, _, .nil => by simpa using VsRel.nil
  | _, _, 0, .cons a b => by simpa using b
  | _, _, n + 1, .cons a b => by simpa using VsRel.cons a (b.eraseIdx n)
noncomputable def mPop : FF := fun args σ => a2 args fun x y => eRef x (fun k => eInt y (fun i => eLst σ[k]? (fun xs => if 0 ≤ i ∧ xs.length ≤ big then (xs[i.toNat]?).bind fun v => some (v, σ.set k (.list (xs.eraseIdx i.toNat))) else none) none) none) none
theorem om : CallOk cx n (.builtin "list.pop") mPop := by
  intro ρ σ s args vs z σ' S r hf
  obtain ⟨x, y, rfl, hf⟩ := a2E hf
  obtain ⟨k, rfl, hf⟩ := dRefE hf
  obtain ⟨i, rfl, hf⟩ := dIntE hf
  obtain ⟨xs, e1, hf⟩ := dLstE hf
  obtain ⟨hz, hf⟩ := aZ hf
  obtain ⟨v, e2, hf⟩ := Option.bind_eq_some_iff.mp hf
  cases hf
  obtain ⟨_, _, rfl, r1, r2⟩ := r.two
  first | have r2 := r2.intE | have r2 := r2.bytesE | have r2 := r2.boolE | have r2 := r2.noneE | have r2 := r2.strE
  obtain ⟨_, rfl⟩ := r2
  obtain ⟨p, us, m, rfl, hp, hpp, o1, q1⟩ := listAt S r1 e1
  obtain ⟨w, e3, r4⟩ := q1.get e2
  have hlt := (List.getElem?_eq_some_iff.mp e3).1
  have hb := hz.2
  have hl := q1.length
  unfold big at hb
  have hlt2 := (Int.toNat_lt hz.1).mp hlt
  refine aG fun A _ => call_meets F.slot_list_pop ⟨_, o1, rfl⟩ F.entry_list_pop (F.args_list_pop_2 _ _) (MeetsSeq.list_pop_at p.1 us.toArray m i _ i.toNat w (fitsIndex_of hz.1 (Int.lt_of_lt_of_le hlt2 (by rw [hl]; exact Int.le_trans (Int.ofNat_le.mpr hb) (by decide)))) (by rw [List.size_toArray]; exact seqI hz.1 hlt2) (by simpa using e3) (by rw [List.size_toArray, sizeLine_eq]; (first|lia|omega))) ⟨o1, ?_⟩
  obtain ⟨a, b⟩ := iw (ys := xs.eraseIdx i.toNat) (us := us.eraseIdx i.toNat) (f := fun x => x.eraseIdxIfInBounds i.toNat) S e1 hp hpp o1 (by simp) (q1.eraseIdx _)
  exact ⟨ρ, a, b _, r4.post (b fun _ => False)⟩
noncomputable def mInsert : FF := fun args σ => a3 args fun x y v => eRef x (fun k => eInt y (fun i => eLst σ[k]? (fun xs => if 0 ≤ i ∧ i ≤ xs.length ∧ xs.length < big then some (.none, σ.set k (.list (xs.take i.toNat ++ v :: xs.drop i.toNat))) else none) none) none) none
theorem ls : CallOk cx n (.builtin "list.insert") mInsert := by
  intro ρ σ s args vs z σ' S r hf
  obtain ⟨x, y, v, rfl, hf⟩ := a3E hf
  obtain ⟨k, rfl, hf⟩ := dRefE hf
  obtain ⟨i, rfl, hf⟩ := dIntE hf
  obtain ⟨xs, e1, hf⟩ := dLstE hf
  first | have hf := aZ hf
  obtain ⟨hz, hf⟩ := hf
  cases hf
  obtain ⟨_, _, rv, rfl, r1, r2, r3⟩ := r.three
  obtain ⟨t, rfl⟩ := r2.intE
  obtain ⟨p, us, m, rfl, hp, hpp, o1, q1⟩ := listAt S r1 e1
  have hb := hz.2.2
  have hl := q1.length
  unfold big at hb
  refine aG fun A _ => call_meets F.slot_list_insert ⟨_, o1, rfl⟩ F.entry_list_insert (F.args_list_insert_3 _ _ _) (AutoListH.list_insert_list_int_val_1 p.1 us.toArray m i t rv (by rw [fitsIndex_of hz.1 (by (first|lia|omega))]; decide) (by rw [List.size_toArray, sizeLine_eq]; (first|lia|omega))) ⟨o1, ?_⟩
  obtain ⟨a, b⟩ := iw (ys := xs.take i.toNat ++ v :: xs.drop i.toNat) (us := us.take i.toNat ++ rv :: us.drop i.toNat) (f := fun xs => have k := if i < 0 then (i + ((xs.size : Nat) : Int)).toNat else min i.toNat xs.size; (xs.extract 0 k).push rv ++ xs.extract k) S e1 hp hpp o1 (by
    dsimp only
    rw [if_neg (by (first|lia|omega)), List.size_toArray, Nat.min_eq_left (by (first|lia|omega))]
    apply Array.toList_inj.mp
    simp
    exact List.take_of_length_le (by rw [List.length_drop]; (first|lia|omega))) ((q1.take _).append (.cons r3 (q1.drop _)))
  exact ⟨ρ, a, b _, .none⟩

noncomputable def eLMeth (g : FF) (f : EF) (fs : EsF) : EF := fun loc σ => match f loc σ with
  | some (.ref k, σ1) => (match σ1[k]? with
    | some (.list _) => (match fs loc σ1 with | some (vs, σ2) => g (.ref k :: vs) σ2 | none => none)
    | _ => none)
  | _ => none
theorem bC {x id : String} {g : FF} {o : Expr} {fo : EF} {es : List Expr} {fs : EsF} {ap pos : Pos} (slot : Slot "list" (Str.ofString x) id) (hty : typeOf (.builtin id) = pure (.type "method_descriptor")) (hF : CallOk cx n (.builtin id) g) (h0 : DenE cx sc n o fo) (hs : DenEs cx sc n es fs)
    (hb : ∀ env whole, attributeBase o (Str.ofString x) env whole = whole := by intro _ _; rfl)
    (he : ∀ o env ov, methodCall o (Str.ofString x) ap pos env ov (es.length + ([] : List Keyword).length) (backTo pos (starEach es env)) (backToKw pos (keywordEach [] env)) = (do
      let (f, first) ← holding [ov] (getMethod ov (Str.ofString x) (do return (← importBound o env).getD true))
      callWith pos f first (backTo pos (starEach es env)) []) := by intro _ _ _; rfl) : DenE cx sc n (.Call (.Attribute o (Str.ofString x) ap) es [] pos) (eLMeth g fo fs) := by
  intro env L ρ σ loc s v σ' eo S lo hf
  unfold eLMeth at hf
  first | have hf := m2v hf | have hf := mrf hf | have hf := m2l hf | have hf := m2b hf | have hf := mit hf | have hf := mbl hf | have hf := m2o hf | have hf := mis hf
  obtain ⟨k, σ1, e1, hf⟩ := hf
  first | have hf := mls hf | have hf := mba hf | have hf := m1s hf | have hf := m1l hf | have hf := m1v hf | have hf := m1o hf | have hf := m1i hf | have hf := m1b hf
  obtain ⟨xs, hk, hf⟩ := hf
  first | have hf := m2v hf | have hf := mrf hf | have hf := m2l hf | have hf := m2b hf | have hf := mit hf | have hf := mbl hf | have hf := m2o hf | have hf := mis hf
  obtain ⟨vs, σ2, e2, hf⟩ := hf
  rw [arm_eval_Call, hb]
  refine a9 (aE (h0 env L ρ σ loc s _ _ eo S lo e1) fun ov s₁ h₁ => a9 (aH ?_))
  obtain ⟨ρ₁, S₁, P₁, r₁⟩ := h₁
  obtain ⟨p, us, m, rfl, hp, hpp, o1, q1⟩ := listAt S₁ r₁ hk
  rw [he]
  refine a9 (aI (aG fun A _ => getMethod_builtin ⟨_, o1, rfl⟩ PySem.F.plainAttrs_list slot hty (fun a e => by cases e; exact ⟨_, o1, rfl⟩) ?_))
  refine bx rfl (hs.1 _ _) (aE (hs.2 env L ρ₁ σ1 loc s₁ vs σ2 pos eo S₁ (lo.post P₁) e2) fun rvs s₂ h₂ => ?_)
  obtain ⟨ρ₂, S₂, P₂, r₂⟩ := h₂
  exact aE (hF ρ₂ σ2 s₂ (.ref k :: vs) (.ref p.1 :: rvs) v σ' S₂ (.cons (r₁.post P₂) r₂) hf) fun w s₃ h₃ => .after (P₁.trans P₂) h₃

noncomputable def oEq : Op2 := fun x y σ => match x, y with
  | .int a, .int b => some (.bool (decide (a = b)), σ)
  | .bytes a, .bytes b => some (.bool (decide (a = b)), σ)
  | _, _ => none
theorem cw : Op2Ok cx oEq (compareOp .Eq) := by
  intro A ρ σ s x y z σ' rx ry ao S r1 r2 hf
  unfold oEq at hf
  split at hf
  · rename_i a b
    cases hf
    first | have r1 := r1.intE | have r1 := r1.bytesE | have r1 := r1.boolE | have r1 := r1.noneE | have r1 := r1.strE
    obtain ⟨_, rfl⟩ := r1
    first | have r2 := r2.intE | have r2 := r2.bytesE | have r2 := r2.boolE | have r2 := r2.noneE | have r2 := r2.strE
    obtain ⟨_, rfl⟩ := r2
    refine P.eq_int ?_
    rw [show (a == b) = decide (a = b) by rw [Bool.eq_iff_iff]; simp]
    exact .here S (.bool _)
  · rename_i a b
    cases hf
    first | have r1 := r1.intE | have r1 := r1.bytesE | have r1 := r1.boolE | have r1 := r1.noneE | have r1 := r1.strE
    obtain ⟨_, rfl⟩ := r1
    first | have r2 := r2.intE | have r2 := r2.bytesE | have r2 := r2.boolE | have r2 := r2.noneE | have r2 := r2.strE
    obtain ⟨_, rfl⟩ := r2
    refine PySem.W.eq_bytes ?_
    rw [show (a.toArray.toList == b.toArray.toList) = decide (a = b) by rw [Bool.eq_iff_iff]; simp]
    exact .here S (.bool _)
  · cases hf
theorem qW {ρ : Pls} {s : Shared} {h : Heap} {x y : MV} {rx ry : Value} {b : Bool} {A : Around} (r1 : VRel cx.h₀ ρ h x rx) (r2 : VRel cx.h₀ ρ h y ry) (e : eqV x y = some b) : SeqAt.EqAt A s rx ry b := by
  unfold eqV at e
  split at e
  · cases e
    first | have r1 := r1.intE | have r1 := r1.bytesE | have r1 := r1.boolE | have r1 := r1.noneE | have r1 := r1.strE
    obtain ⟨_, rfl⟩ := r1
    first | have r2 := r2.intE | have r2 := r2.bytesE | have r2 := r2.boolE | have r2 := r2.noneE | have r2 := r2.strE
    obtain ⟨_, rfl⟩ := r2
    rename_i a c t u
    rw [show decide (a = c) = (a == c) by rw [Bool.eq_iff_iff]; simp]
    exact SeqAt.EqAt.int_int a t c u
  · cases e
    first | have r1 := r1.intE | have r1 := r1.bytesE | have r1 := r1.boolE | have r1 := r1.noneE | have r1 := r1.strE
    obtain ⟨_, rfl⟩ := r1
    first | have r2 := r2.intE | have r2 := r2.bytesE | have r2 := r2.boolE | have r2 := r2.noneE | have r2 := r2.strE
    obtain ⟨_, rfl⟩ := r2
    intro prog w E Q hq
    exact PySem.W.eqBool_bytes (by simpa using hq)
  · cases e
theorem pW {xs ys : List MV} {b : Bool} (h : xs.length ≠ ys.length) (e : eqL xs ys = some b) : b = false := by
  induction xs generalizing ys b with
  | nil => cases ys with
    | nil => exact absurd rfl h
    | cons => cases e; rfl
  | cons x xs ih => cases ys with
    | nil => cases e; rfl
    | cons y ys =>
      unfold eqL at e
      split at e
      · rename_i a c e1 e2
        cases e
        rw [ih (by simpa using h) e2, Bool.and_false]
      · cases e
theorem qo {ρ : Pls} {s : Shared} {h : Heap} {A : Around} {xs : List MV} : ∀ {ys : List MV} {vs us : List Value} {b : Bool}, VsRel cx.h₀ ρ h xs vs → VsRel cx.h₀ ρ h ys us → xs.length = ys.length → eqL xs ys = some b →
    ∃ e : Nat → Bool, (∀ j (h1 : j < vs.length) (h2 : j < us.length), SeqAt.EqAt A s vs[j] us[j] (e j)) ∧ (List.range vs.length).all e = b := by
  induction xs with
  | nil =>
    intro ys vs us b r q hl e
    cases ys with
    | nil =>
      cases r.nilE
      cases e
      exact ⟨fun _ => true, fun j h => absurd h (Nat.not_lt_zero _), rfl⟩
    | cons y ys => cases hl
  | cons x xs ih =>
    intro ys vs us b r q hl e
    cases ys with
    | nil => cases hl
    | cons y ys =>
      obtain ⟨v, vs', rfl, a, r⟩ := r.consE
      obtain ⟨u, us', rfl, c, q⟩ := q.consE
      replace e : (match eqV x y, eqL xs ys with | some a, some b => some (a && b) | _, _ => none) = some b := e
      cases e1 : eqV x y with
      | none => rw [e1] at e; cases e
      | some b1 =>
        cases e2 : eqL xs ys with
        | none => rw [e1, e2] at e; cases e
        | some b2 =>
          rw [e1, e2] at e
          cases e
          obtain ⟨f, f1, f2⟩ := ih r q (Nat.succ.inj hl) e2
          refine ⟨fun j => match j with | 0 => b1 | j + 1 => f j, fun j h1 h2 => ?_, ?_⟩
          · cases j with
            | zero => exact qW a c e1
            | succ j => exact f1 j (Nat.lt_of_succ_lt_succ h1) (Nat.lt_of_succ_lt_succ h2)
          · rw [List.length_cons, List.range_succ_eq_map, List.all_cons, List.all_map, ← f2]; rfl
noncomputable def oNe : Op2 := fun x y σ => match x, y with
  | .int a, .int b => some (.bool (!decide (a = b)), σ)
  | .ref i, .ref j => (match σ[i]?, σ[j]? with
    | some (.list xs), some (.list ys) => (match eqL xs ys with | some b => some (.bool (!b), σ) | none => none)
    | _, _ => none)
  | _, _ => none
theorem eL : Op2Ok cx oNe (compareOp .NotEq) := by
  intro A ρ σ s x y z σ' rx ry ao S r1 r2 hf
  unfold oNe at hf
  split at hf
  · rename_i a b
    cases hf
    first | have r1 := r1.intE | have r1 := r1.bytesE | have r1 := r1.boolE | have r1 := r1.noneE | have r1 := r1.strE
    obtain ⟨_, rfl⟩ := r1
    first | have r2 := r2.intE | have r2 := r2.bytesE | have r2 := r2.boolE | have r2 := r2.noneE | have r2 := r2.strE
    obtain ⟨_, rfl⟩ := r2
    refine P.ne_int ?_
    rw [show (a != b) = !decide (a = b) by rw [Bool.eq_iff_iff]; simp]
    exact .here S (.bool _)
  · rename_i i j
    split at hf
    · rename_i xs ys e1 e2
      first | have hf := mls hf | have hf := mba hf | have hf := m1s hf | have hf := m1l hf | have hf := m1v hf | have hf := m1o hf | have hf := m1i hf | have hf := m1b hf
      obtain ⟨b, e3, hf⟩ := hf
      cases hf
      obtain ⟨p, vs, m, rfl, hp, _, o1, q1⟩ := listAt S r1 e1
      obtain ⟨q, us, l, rfl, hq, _, o2, q2⟩ := listAt S r2 e2
      have hu : A.units < cLine := by have := ao.units; (first|lia|omega)
      by_cases hl : xs.length = ys.length
      · obtain ⟨f, f1, f2⟩ := qo (s := s) (A := A.in1) q1 q2 hl e3
        refine (show ∀ {a b : Value} {k : Bool} {Q : Value → Shared → Prop}, SeqAt.RcNeAt A s a b k → Q (.bool k) s → wpAny cx.M A (compareOp .NotEq a b) Q NoE s from fun h hq => h _ _ _ _ hq) (SeqAt.RcNeAt.lists (items := vs.toArray) (items2 := us.toArray) (e := f) ⟨_, o1, rfl, _, rfl⟩ ⟨_, o2, rfl, _, rfl⟩ (by simp [q1.length, q2.length, hl]) hu (fun j h1 h2 => f1 j (by simpa using h1) (by simpa using h2))) ?_
        rw [List.size_toArray, f2]
        exact .here S (.bool _)
      · have hb := pW hl e3
        subst hb
        refine (show ∀ {a b : Value} {k : Bool} {Q : Value → Shared → Prop}, SeqAt.RcNeAt A s a b k → Q (.bool k) s → wpAny cx.M A (compareOp .NotEq a b) Q NoE s from fun h hq => h _ _ _ _ hq) (SeqAt.RcNeAt.lists_lengths (items := vs.toArray) (items2 := us.toArray) ⟨_, o1, rfl, _, rfl⟩ ⟨_, o2, rfl, _, rfl⟩ (by simp [q1.length, q2.length, hl]) hu) ?_
        exact .here S (.bool _)
    · cases hf
  · cases hf
noncomputable def isI (a : Int) : Value → Bool
  | .int b _ => b == a
  | _ => false
theorem ma {a : Int} : ∀ {vs : List Value} {ns : List Int}, IntsAre vs ns → vs.any (isI a) = ns.contains a
  | _, _, .nil => rfl
  | _, _, .cons b u r => by
    rw [List.any_cons, ma r, List.contains_cons]
    have : isI a (.int b u) = (a == b) := by
      show (b == a) = (a == b)
      by_cases h : a = b
      · subst h; rfl
      · rw [beq_eq_false_iff_ne.mpr h, beq_eq_false_iff_ne.mpr (Ne.symm h)]
    rw [this]
noncomputable def oNotIn : Op2 := fun x y σ => match x, y with
  | .int a, .tup xs => (match intsOf xs with | some ns => some (.bool (!ns.contains a), σ) | none => none)
  | _, _ => none
theorem nG : Op2Ok cx oNotIn (compareOp .NotIn) := by
  intro A ρ σ s x y z σ' rx ry ao S r1 r2 hf
  unfold oNotIn at hf
  split at hf
  · rename_i a xs
    first | have hf := mls hf | have hf := mba hf | have hf := m1s hf | have hf := m1l hf | have hf := m1v hf | have hf := m1o hf | have hf := m1i hf | have hf := m1b hf
    obtain ⟨ns, e1, hf⟩ := hf
    cases hf
    first | have r1 := r1.intE | have r1 := r1.bytesE | have r1 := r1.boolE | have r1 := r1.noneE | have r1 := r1.strE
    obtain ⟨_, rfl⟩ := r1
    rename_i t
    cases r2 with
    | tup o1 q1 =>
      rename_i ta vs m
      have hi := jJ q1 e1
      refine SeqAt.notIn_tupleAt (items := vs.toArray) (isI a) ⟨_, o1, rfl, _, rfl⟩ (fun y hy => ?_) ?_
      · obtain ⟨k, hk⟩ := List.getElem?_of_mem (by simpa using hy : y ∈ vs)
        obtain ⟨b, u, rfl, _⟩ := IntsAre.at hi k y hk
        exact SeqAt.EqAt.int_int b u a t
      · rw [List.any_toArray, ma hi]
        exact .here S (.bool _)
  · cases hf
end Mine

end
section
open PySem PySem.W PySem.Calls PyProof.Rows
open Sem (wp)
namespace Mine
open PySem.Builtin
variable {cx : Cx} {sc : Scope} {n : Nat}

noncomputable def eFail : EF := fun _ _ => none
noncomputable def sFail : SF := fun _ _ => none
theorem iG {e : Expr} : DenE cx sc n e eFail := fun _ _ _ _ _ _ _ _ _ _ _ hf => nomatch hf
theorem bR {st : Stmt} : DenS1 cx sc n st sFail := fun _ _ _ _ _ _ _ _ _ _ _ _ hf => nomatch hf

noncomputable def DenTs (cx : Cx) (sc : Scope) (n : Nat) (op : BoolOp) (es : List Expr) (f : TF) : Prop :=
  ∀ env L ρ σ loc s b σ', EnvOk env sc L → SOk cx ρ σ s → LOk cx ρ loc L s.heap → f loc σ = some (b, σ') →
    wpN cx.M n (allTrue op es env) (fun rb s' => rb = b ∧ ∃ ρ', SOk cx ρ' σ' s' ∧ Post ρ ρ' (fun _ => False) s.heap s'.heap) s
noncomputable def tsAndNil : TF := fun _ σ => some (true, σ)
noncomputable def tsOrNil : TF := fun _ σ => some (false, σ)
noncomputable def tsAnd (f g : TF) : TF := fun loc σ => match f loc σ with | some (true, σ1) => g loc σ1 | r => r
noncomputable def tsOr (f g : TF) : TF := fun loc σ => match f loc σ with | some (false, σ1) => g loc σ1 | r => r
theorem dY : DenTs cx sc n .And [] tsAndNil := by
  intro env L ρ σ loc s b σ' eo S lo hf
  cases hf
  exact aF ⟨rfl, ρ, S, .refl ..⟩
theorem cY : DenTs cx sc n .Or [] tsOrNil := by
  intro env L ρ σ loc s b σ' eo S lo hf
  cases hf
  exact aF ⟨rfl, ρ, S, .refl ..⟩
theorem dS {e : Expr} {es : List Expr} {f g : TF} (h : DenT cx sc n e f) (hs : DenTs cx sc n .And es g) : DenTs cx sc n .And (e :: es) (tsAnd f g) := by
  intro env L ρ σ loc s b σ' eo S lo hf
  show wpN _ _ (isTrue e env (eval e env) >>= fun r => _) _ _
  unfold tsAnd at hf
  split at hf
  · rename_i σ1 e1
    refine a9 (aE (h env L ρ σ loc s _ _ eo S lo e1) fun b' s₁ h₁ => ?_)
    obtain ⟨rfl, ρ₁, S₁, P₁⟩ := h₁
    refine aE (hs env L ρ₁ σ1 loc s₁ b σ' eo S₁ (lo.post P₁) hf) fun b' s₂ h₂ => ?_
    obtain ⟨e2, ρ₂, S₂, P₂⟩ := h₂
    exact ⟨e2, ρ₂, S₂, P₁.trans P₂⟩
  · rename_i r hne
    refine a9 (aE (h env L ρ σ loc s _ _ eo S lo hf) fun b' s₁ h₁ => ?_)
    obtain ⟨rfl, ρ₁, S₁, P₁⟩ := h₁
    cases b' with
    | true => exact absurd hf (hne _)
    | false => exact aF ⟨rfl, ρ₁, S₁, P₁⟩
theorem cK {e : Expr} {es : List Expr} {f g : TF} (h : DenT cx sc n e f) (hs : DenTs cx sc n .Or es g) : DenTs cx sc n .Or (e :: es) (tsOr f g) := by
  intro env L ρ σ loc s b σ' eo S lo hf
  show wpN _ _ (isTrue e env (eval e env) >>= fun r => _) _ _
  unfold tsOr at hf
  split at hf
  · rename_i σ1 e1
    refine a9 (aE (h env L ρ σ loc s _ _ eo S lo e1) fun b' s₁ h₁ => ?_)
    obtain ⟨rfl, ρ₁, S₁, P₁⟩ := h₁
    refine aE (hs env L ρ₁ σ1 loc s₁ b σ' eo S₁ (lo.post P₁) hf) fun b' s₂ h₂ => ?_
    obtain ⟨e2, ρ₂, S₂, P₂⟩ := h₂
    exact ⟨e2, ρ₂, S₂, P₁.trans P₂⟩
  · rename_i r hne
    refine a9 (aE (h env L ρ σ loc s _ _ eo S lo hf) fun b' s₁ h₁ => ?_)
    obtain ⟨rfl, ρ₁, S₁, P₁⟩ := h₁
    cases b' with
    | false => exact absurd hf (hne _)
    | true => exact aF ⟨rfl, ρ₁, S₁, P₁⟩
theorem bL {op : BoolOp} {es : List Expr} {pos : Pos} {f : TF} (h : DenTs cx sc n op es f) : DenT cx sc n (.BoolOp op es pos) f := by
  intro env L ρ σ loc s b σ' eo S lo hf
  rw [arm_isTrue_BoolOp]
  exact h env L ρ σ loc s b σ' eo S lo hf
noncomputable def DenBs (cx : Cx) (sc : Scope) (n : Nat) (op : BoolOp) (es : List Expr) (f : EF) : Prop :=
  ∀ env L ρ σ loc s v σ' pos, EnvOk env sc L → SOk cx ρ σ s → LOk cx ρ loc L s.heap → f loc σ = some (v, σ') → wpN cx.M n (boolOp pos op (evalEach es env)) (ValAt cx ρ s v σ') s
noncomputable def eAnd (f g : EF) : EF := fun loc σ => match f loc σ with | some (.bool true, σ1) => g loc σ1 | some (.bool false, σ1) => some (.bool false, σ1) | _ => none
noncomputable def eOr (f g : EF) : EF := fun loc σ => match f loc σ with | some (.bool false, σ1) => g loc σ1 | some (.bool true, σ1) => some (.bool true, σ1) | _ => none
theorem kK {op : BoolOp} {e : Expr} {f : EF} (h : DenE cx sc n e f) : DenBs cx sc n op [e] f := fun env L ρ σ loc s v σ' pos eo S lo hf => h env L ρ σ loc s v σ' eo S lo hf
theorem oe {e e' : Expr} {es : List Expr} {f g : EF} (h : DenE cx sc n e f) (hs : DenBs cx sc n .And (e' :: es) g) : DenBs cx sc n .And (e :: e' :: es) (eAnd f g) := by
  intro env L ρ σ loc s v σ' pos eo S lo hf
  show wpN _ _ (eval e env >>= fun r => standAt pos >>= fun _ => holding [r] (truthy r) >>= fun t => _) _ _
  unfold eAnd at hf
  split at hf
  · rename_i σ1 e1
    refine a9 (aE (h env L ρ σ loc s _ _ eo S lo e1) fun rv s₁ h₁ => a9 (aH ?_))
    obtain ⟨ρ₁, S₁, P₁, r₁⟩ := h₁
    first | have r₁ := r₁.intE | have r₁ := r₁.bytesE | have r₁ := r₁.boolE | have r₁ := r₁.noneE | have r₁ := r₁.strE
    obtain ⟨_, rfl⟩ := r₁
    refine a9 (aI (aG fun A _ => wpAny_truthy_bool ?_))
    exact aE (hs env L ρ₁ σ1 loc s₁ v σ' pos eo S₁ (lo.post P₁) hf) fun w s₂ h₂ => .after P₁ h₂
  · rename_i σ1 e1
    cases hf
    refine a9 (aE (h env L ρ σ loc s _ _ eo S lo e1) fun rv s₁ h₁ => a9 (aH ?_))
    obtain ⟨ρ₁, S₁, P₁, r₁⟩ := h₁
    first | have r₁ := r₁.intE | have r₁ := r₁.bytesE | have r₁ := r₁.boolE | have r₁ := r₁.noneE | have r₁ := r₁.strE
    obtain ⟨_, rfl⟩ := r₁
    refine a9 (aI (aG fun A _ => wpAny_truthy_bool ?_))
    exact aF ⟨ρ₁, S₁, P₁, .bool _⟩
  · cases hf
theorem oA {e e' : Expr} {es : List Expr} {f g : EF} (h : DenE cx sc n e f) (hs : DenBs cx sc n .Or (e' :: es) g) : DenBs cx sc n .Or (e :: e' :: es) (eOr f g) := by
  intro env L ρ σ loc s v σ' pos eo S lo hf
  show wpN _ _ (eval e env >>= fun r => standAt pos >>= fun _ => holding [r] (truthy r) >>= fun t => _) _ _
  unfold eOr at hf
  split at hf
  · rename_i σ1 e1
    refine a9 (aE (h env L ρ σ loc s _ _ eo S lo e1) fun rv s₁ h₁ => a9 (aH ?_))
    obtain ⟨ρ₁, S₁, P₁, r₁⟩ := h₁
    first | have r₁ := r₁.intE | have r₁ := r₁.bytesE | have r₁ := r₁.boolE | have r₁ := r₁.noneE | have r₁ := r₁.strE
    obtain ⟨_, rfl⟩ := r₁
    refine a9 (aI (aG fun A _ => wpAny_truthy_bool ?_))
    exact aE (hs env L ρ₁ σ1 loc s₁ v σ' pos eo S₁ (lo.post P₁) hf) fun w s₂ h₂ => .after P₁ h₂
  · rename_i σ1 e1
    cases hf
    refine a9 (aE (h env L ρ σ loc s _ _ eo S lo e1) fun rv s₁ h₁ => a9 (aH ?_))
    obtain ⟨ρ₁, S₁, P₁, r₁⟩ := h₁
    first | have r₁ := r₁.intE | have r₁ := r₁.bytesE | have r₁ := r₁.boolE | have r₁ := r₁.noneE | have r₁ := r₁.strE
    obtain ⟨_, rfl⟩ := r₁
    refine a9 (aI (aG fun A _ => wpAny_truthy_bool ?_))
    exact aF ⟨ρ₁, S₁, P₁, .bool _⟩
  · cases hf
theorem iK {op : BoolOp} {es : List Expr} {pos : Pos} {f : EF} (h : DenBs cx sc n op es f) : DenE cx sc n (.BoolOp op es pos) f := by
  intro env L ρ σ loc s b σ' eo S lo hf
  rw [arm_eval_BoolOp]
  exact h env L ρ σ loc s b σ' pos eo S lo hf

noncomputable def eNeg (f : EF) : EF := fun loc σ => match f loc σ with | some (.int a, σ1) => some (.int (-a), σ1) | _ => none
theorem dt {e : Expr} {pos : Pos} {f : EF} (h : DenE cx sc n e f) : DenE cx sc n (.UnaryOp .USub e pos) (eNeg f) := by
  intro env L ρ σ loc s v σ' eo S lo hf
  unfold eNeg at hf
  first | have hf := m2v hf | have hf := mrf hf | have hf := m2l hf | have hf := m2b hf | have hf := mit hf | have hf := mbl hf | have hf := m2o hf | have hf := mis hf
  obtain ⟨a, σ1, e1, hf⟩ := hf
  cases hf
  rw [arm_eval_UnaryOp]
  refine a9 (aE (h env L ρ σ loc s _ _ eo S lo e1) fun rv s₁ h₁ => a9 (aH ?_))
  obtain ⟨ρ₁, S₁, P₁, r₁⟩ := h₁
  first | have r₁ := r₁.intE | have r₁ := r₁.bytesE | have r₁ := r₁.boolE | have r₁ := r₁.noneE | have r₁ := r₁.strE
  obtain ⟨_, rfl⟩ := r₁
  exact aI (aG fun A _ => P.neg_int (.after P₁ (.tok S₁ _ (.int _ _))))
noncomputable def eNot (f : EF) : EF := fun loc σ => match f loc σ with | some (.bool a, σ1) => some (.bool (!a), σ1) | _ => none
theorem pf {e : Expr} {pos : Pos} {f : EF} (h : DenE cx sc n e f) : DenE cx sc n (.UnaryOp .Not e pos) (eNot f) := by
  intro env L ρ σ loc s v σ' eo S lo hf
  unfold eNot at hf
  first | have hf := m2v hf | have hf := mrf hf | have hf := m2l hf | have hf := m2b hf | have hf := mit hf | have hf := mbl hf | have hf := m2o hf | have hf := mis hf
  obtain ⟨a, σ1, e1, hf⟩ := hf
  cases hf
  rw [arm_eval_UnaryOp]
  refine a9 (aE (h env L ρ σ loc s _ _ eo S lo e1) fun rv s₁ h₁ => a9 (aH ?_))
  obtain ⟨ρ₁, S₁, P₁, r₁⟩ := h₁
  first | have r₁ := r₁.intE | have r₁ := r₁.bytesE | have r₁ := r₁.boolE | have r₁ := r₁.noneE | have r₁ := r₁.strE
  obtain ⟨_, rfl⟩ := r₁
  refine aI ?_
  unfold unaryOp
  refine aI ?_
  refine gF (by decide) ?_
  exact a9 (aG fun A _ => wpAny_truthy_bool (aF (.after P₁ (.here S₁ (.bool _)))))

theorem kT {x : String} {pos : Pos} {a : Addr} {ns : List Int} {vs : List Value} {m : Nat} (e : nsIn cx.K mainGlobals (Str.ofString x) = some (some (.ref a))) (ho : cx.K.lookup a = some (tupO vs m)) (hi : IntsAre vs ns)
    (hl : sc.names.lookup (Str.ofString x) = some .globalImplicit) (hd : (Str.ofString x == ("__debug__" : Str)) = false) :
    DenE cx sc n (.Name (Str.ofString x) pos) (eK (.tup (ns.map .int))) := by
  intro env L ρ σ loc s v σ' eo S l hf
  cases hf
  refine gQ eo S e hl hd (.here S (.tup (S.XK _ _ ho) ?_))
  clear ho e
  induction hi with
  | nil => exact .nil
  | cons k t r ih => exact .cons (.int _ _) ih

noncomputable def sSwap2 (x y : String) (f g : EF) : SF := fun loc σ => match f loc σ with
  | some (v, σ1) => (match g loc σ1 with | some (u, σ2) => some (.next, upd x v (upd y u loc), σ2) | none => none)
  | none => none
theorem mm {x y : String} {p1 p2 p3 p4 pos : Pos} {k1 k2 : Nat} {a b : Expr} {f g : EF} (h1 : DenE cx sc n a f) (h2 : DenE cx sc n b g) (hx : sc.names.lookup (Str.ofString x) = some .local) (hy : sc.names.lookup (Str.ofString y) = some .local)
    (hne1 : ∀ env, starEach [a, b] env = [(false, eval a env), (false, eval b env)])
    (hs : ∀ env, swapsWithSole [.Tuple [.Name (Str.ofString x) p1, .Name (Str.ofString y) p2] k1 p3] (.Tuple [a, b] k2 p4) pos.line env = pure false)
    (hw : ∀ env : Env, env.blockKind = .function → env.kindOf (Str.ofString x) = some .local → env.kindOf (Str.ofString y) = some .local → swappedStores [.Tuple [.Name (Str.ofString x) p1, .Name (Str.ofString y) p2] k1 p3] (.Tuple [a, b] k2 p4) env = pure (some [Str.ofString x, Str.ofString y])) :
    DenS1 cx sc n (.Assign [.Tuple [.Name (Str.ofString x) p1, .Name (Str.ofString y) p2] k1 p3] (.Tuple [a, b] k2 p4) pos) (sSwap2 x y f g) := by
  intro env L ρ σ loc s fl loc' σ' eo S lo hf
  unfold sSwap2 at hf
  first | have hf := m2v hf | have hf := mrf hf | have hf := m2l hf | have hf := m2b hf | have hf := mit hf | have hf := mbl hf | have hf := m2o hf | have hf := mis hf
  obtain ⟨v, σ1, e1, hf⟩ := hf
  first | have hf := m2v hf | have hf := mrf hf | have hf := m2l hf | have hf := m2b hf | have hf := mit hf | have hf := mbl hf | have hf := m2o hf | have hf := mis hf
  obtain ⟨u, σ2, e2, hf⟩ := hf
  cases hf
  rw [exec_Assign_arm, hs]
  refine a9 (aH (a9 (aF ?_)))
  rw [if_neg (by decide), arm_eval_Tuple, hne1]
  refine a9 (a9 (aH (a9 (cF (aE (h1 env L ρ σ loc s v σ1 eo S lo e1) fun rv s₁ h₁ => ?_)))))
  obtain ⟨ρ₁, S₁, P₁, r₁⟩ := h₁
  refine cF (aE (h2 env L ρ₁ σ1 loc s₁ u _ eo S₁ (lo.post P₁) e2) fun ru s₂ h₂ => aF ?_)
  obtain ⟨ρ₂, S₂, P₂, r₂⟩ := h₂
  refine aG fun A _ => wpAny_newTuple ?_ (by rw [sizeLine_eq]; simp)
  have k : ∀ b o, s₂.heap.get? b = some o → (s₂.heap.push (tupO [rv, ru] 0)).get? b = some o := fun _ _ e => Heap.get?_push_of_some _ e
  have bk : env.blockKind = .function := by unfold Env.blockKind; rw [eo.isSc, eo.kind]; rfl
  refine a9 (bj (hw env bk (by unfold Env.kindOf; rw [eo.isSc]; exact hx) (by unfold Env.kindOf; rw [eo.isSc]; exact hy)) ?_)
  unfold assignStores
  refine a9 (dy (a9 (aG fun A ao => ?_)))
  show wpAny _ _ (unpackItems (.ref s₂.heap.objs.size) (#[rv, ru] : Array Value).size none) _ _ _
  refine wpAny_unpackItems_tuple ao.handled ⟨_, Heap.get?_push_size _ rfl, rfl, _, rfl⟩ fun h' e => ?_
  have k' : ∀ b o, s₂.heap.get? b = some o → h'.get? b = some o := fun b o q => e b o (Nat.ne_of_lt (Nat.lt_of_lt_of_le (Heap.lt_size q) (by show _ ≤ (s₂.heap.push (tupO [rv, ru] 0)).objs.size; rw [Heap.size_push]; (first|lia|omega)))) (k b o q)
  have S₃ := S₂.kept s₂.toks k'
  have P₃ : Post ρ ρ₂ (fun _ => False) s.heap h' := (P₁.trans P₂).trans (.of_keep _ _ k')
  have sub : ∀ {z rz}, VRel cx.h₀ ρ₂ s₂.heap z rz → VRel cx.h₀ ρ₂ h' z rz := fun r => r.sub fun b o q _ => k' b o q
  refine a9 (a9 (aI ?_))
  refine eJ (ρ₀ := ρ₂) (s₀ := { s₂ with heap := h' }) eo S₃ (lo.post P₃) (sub r₂) (.refl ..) hy fun s₄ h₄ => ?_
  obtain ⟨ρ₄, S₄, P₄, l₄⟩ := h₄.ρ
  refine a9 (aI ?_)
  exact eJ (ρ₀ := ρ) (s₀ := s) eo S₄ l₄ ((sub (r₁.post P₂)).post P₄) (P₃.toL.trans P₄) hx fun s₅ h₅ => aF (aF h₅)

theorem oY {body : List Stmt} {hs : List ExceptHandler} {pos : Pos} {f : SF} (h : DenS cx sc n body f) : DenS1 cx sc n (.Try body hs [] [] pos) f := by
  intro env L ρ σ loc s fl loc' σ' eo S lo hf
  rw [arm_exec_Try]
  refine a9 (aH ?_)
  unfold tryStmt
  refine gF rfl ?_
  refine a9 (gB (aE (h env L ρ σ loc s fl loc' σ' eo S lo hf) fun rf s₁ h₁ => ?_))
  obtain ⟨ρ₁, S₁, P₁, l₁, fr⟩ := h₁
  cases fr with
  | next => dsimp only; rw [execs_nil]; exact aF ⟨ρ₁, S₁, P₁, l₁, .next⟩
  | ret r => exact aF ⟨ρ₁, S₁, P₁, l₁, .ret r⟩

noncomputable def eFStr (pre x : String) : EF := fun loc σ => match loc x with
  | some (.int a) => if 0 ≤ a ∧ a ≤ 100000 ∧ (Str.empty ++ Str.ofString pre).length ≤ 100000 ∧ (Str.empty ++ Str.ofString pre ++ Str.ofString (toString a)).length ≤ 100000 then some (.str (Str.empty ++ Str.ofString pre ++ Str.ofString (toString a)), σ) else none
  | _ => none
theorem m0 {a : Int} (h0 : 0 ≤ a) (h1 : a ≤ 100000) : a.natAbs.log2 < 1920 := by
  have h : a.natAbs.log2 ≤ a.natAbs := Nat.log2_le_self _
  by_cases q : a.natAbs = 0
  · rw [q]; decide
  · have := (Nat.log2_lt q (k := 17)).mpr (by (first|lia|omega))
    (first|lia|omega)
theorem ni {pre x : String} {k : Nat} {p1 p2 p3 pos : Pos} (hl : sc.names.lookup (Str.ofString x) = some .local) (hd : (Str.ofString x == ("__debug__" : Str)) = false) :
    DenE cx sc n (.JoinedStr [.Constant (.str (Str.ofString pre)) k p1, .FormattedValue (.Name (Str.ofString x) p2) (-1) none p3] pos) (eFStr pre x) := by
  intro env L ρ σ loc s v σ' eo S lo hf
  unfold eFStr at hf
  split at hf
  · rename_i a ha
    first | have hf := aZ hf
    obtain ⟨hz, hf⟩ := hf
    cases hf
    obtain ⟨rfl, hk, rfl, _, _⟩ := eo
    obtain ⟨m, hn, hm⟩ := lo.ns
    obtain ⟨rv, k1, r⟩ := hm x _ ha
    cases r
    refine aG fun A _ => wpAny_JoinedStr ?_
    refine Calls.Constant_str ⟨_, _, rfl, by rw [sizeLine_eq]; (first|lia|omega), ?_⟩
    refine wpAny_FormattedValue_plain (wpAny_Name (wpAny_loadName_local hk hl hn k1 ?_) hd)
    refine wpAny_formatField_int (m0 hz.1 hz.2.1) ?_
    exact ⟨_, _, rfl, by rw [sizeLine_eq]; (first|lia|omega), by rw [sizeLine_eq]; (first|lia|omega), .tok S _ (.str _ _)⟩
  · cases hf
end Mine

end
section
open PySem PySem.W PySem.Calls PyProof.Rows
open Sem (wp)
namespace Mine
open PySem.Builtin
variable {cx : Cx} {sc : Scope} {n : Nat}

theorem dK {α : Type} {M : Model} {s : Shared} {t : Sem α} {r : α} {Q : α → Shared → Prop} (x : Looks M s.heap t r) (q : Q r s) : wpN M n t Q s := aG fun A _ => x.here q
theorem oJ {C fI : Addr} {gI : FF} {m : Nat} (hm : makesIn cx.K C = true) (hi : findIn cx.K (.ref C) "__init__" = some (some (.ref fI))) (hf : typeIn cx.K (.ref fI) = some (.type "function")) (hF : DenF cx m (.ref fI) gI) (hn : m ≤ n)
    {ρ : Pls} {σ σ' : Sto} {s : Shared} {args : List MV} {vs : List Value} (S : SOk cx ρ σ s) (r : VsRel cx.h₀ ρ s.heap args vs) (hg : gI (.ref σ.length :: args) (σ ++ [.inst C []]) = some (.none, σ')) :
    codeN cx.M (n + 2) (.call (.ref C) ⟨vs, []⟩) (fun r s' => ∃ rv, r = .ok (.ret rv) ∧ ValAt cx ρ s (.ref σ.length) σ' rv s') s := by
  have Y := makes_of (M := cx.M) S.XK hm
  have Y' := Y
  have L0 := looks_findIn (M := cx.M) S.XK hi
  obtain ⟨⟨oc, od, cd, sl, hC, e1, e2, e4⟩, made, base, self, top, call, typ⟩ := Y
  refine bf (n := n + 1) (show (0:Nat) ≤ 2 by decide) (show (1:Nat) ≤ 10 by decide) rfl ?_
  show wpN cx.M (n + 1) (callAny (.ref C) ⟨vs, []⟩) _ s
  unfold callAny
  refine a9 (fx hC ?_)
  show wpN _ _ (callAny.viaDunder (.ref C) _) _ _
  unfold callAny.viaDunder
  refine a9 (dK call ?_)
  dsimp only
  rw [tc_bind]
  refine a9 (aF (a9 (aF ?_)))
  refine aF (a := Fin.again (.call (.builtin "type.__call__") ⟨.ref C :: vs, []⟩)) ⟨rfl, ?_⟩
  refine bf (n := n + 1) (show (0:Nat) ≤ 2 by decide) (show (1:Nat) ≤ 10 by decide) rfl ?_
  show wpN cx.M (n + 1) (do checkBuiltinCall "type.__call__" ⟨.ref C :: vs, []⟩; again (.builtin "type.__call__" ⟨.ref C :: vs, []⟩)) _ s
  refine a9 (aG fun A _ => check_slot tc_kind tc_split typ (tc_args _ _ _) (aF ⟨Code.quiet_builtin _ (by decide +kernel), gj (n := n + 1) entry_typeCall rfl (show (1:Nat) ≤ 2 by decide) (show (1:Nat) ≤ 10 by decide) ?_⟩))
  unfold Builtin.«type.__call__»
  have hmro : Looks cx.M s.heap (mroOf (.ref C)) cd.mro := ((Looks.ld (part := none) hC).andThen .now).andThen .now
  refine ah rfl ?_
  refine a9 (dK hmro ?_)
  refine ah e4 ?_
  refine a9 (dK made ?_)
  refine a9 (aF ?_)
  refine a9 (aI (cy (js fun A ao => ?_)))
  obtain ⟨hh, g, d, t, os⟩ := s
  refine new_K (R := _) Y' L0 (.inl rfl) ⟨_, rfl, ?_⟩
  have kk : ∀ b o, hh.get? b = some o → ((hh.push emptyDict).push (instObj C hh.objs.size)).get? b = some o := fun b o e => Heap.get?_push_of_some _ (Heap.get?_push_of_some _ e)
  have hsz : (hh.push emptyDict).objs.size = hh.objs.size + 1 := Heap.size_push _ _
  have hx : ((hh.push emptyDict).push (instObj C hh.objs.size)).get? (hh.objs.size + 1) = some (instObj C hh.objs.size) := by rw [← hsz]; exact Heap.get?_push_size _ rfl
  have hd : ((hh.push emptyDict).push (instObj C hh.objs.size)).get? hh.objs.size = some (dictOf [] 0) := Heap.get?_push_of_some _ (Heap.get?_push_size _ rfl)
  have hn1 : hh.get? (hh.objs.size + 1) = .none := by
    cases q : hh.get? (hh.objs.size + 1) with
    | none => rfl
    | some o => exact absurd (Heap.lt_size q) (Nat.not_lt.mpr (Nat.le_succ _))
  obtain ⟨S₁, P₁⟩ := S.add (p := (hh.objs.size + 1, hh.objs.size)) (o := .inst C []) (h := (hh.push emptyDict).push (instObj C hh.objs.size)) t kk hn1 (SOk.get_size _) ⟨[], 0, hx, hd, .nil⟩
  have P₁' := P₁ fun _ => False
  have kr : VRel cx.h₀ (ρ ++ [(hh.objs.size + 1, hh.objs.size)]) ((hh.push emptyDict).push (instObj C hh.objs.size)) (.ref σ.length) (.ref (hh.objs.size + 1)) := .ref (p := (hh.objs.size + 1, hh.objs.size)) (by rw [← S.len]; simp)
  have t1 : Looks cx.M ((hh.push emptyDict).push (instObj C hh.objs.size)) (typeOf (.ref (hh.objs.size + 1))) (.ref C) := (Looks.ld hx).andThen .now
  have s1 := self.keeps kk
  have i1 := L0.keeps kk
  have b1 := (bind_fn (M := cx.M) S.XK (.ref (hh.objs.size + 1)) hf).keeps kk
  refine a9 (dK (t1.andThen s1) ?_)
  refine ah rfl ?_
  refine a9 (aI ?_)
  unfold callSpecial? specialOf
  refine a9 (dK (t1.andThen i1) ?_)
  refine aI (a9 (dK b1 ?_))
  refine a9 (cy (dN (jD (hF _ _ _ (.ref σ.length :: args) (.ref (hh.objs.size + 1) :: vs) .none σ' S₁ (.cons kr (r.post P₁')) hg) (Nat.le_succ_of_le hn)) fun q s₂ h₂ => ?_))
  obtain ⟨rv, rfl, ρ₂, S₂, P₂, r₂⟩ := h₂
  first | have r₂ := r₂.intE | have r₂ := r₂.bytesE | have r₂ := r₂.boolE | have r₂ := r₂.noneE | have r₂ := r₂.strE
  obtain ⟨_, rfl⟩ := r₂
  refine ⟨_, rfl, aF ?_⟩
  refine ah rfl (aF ⟨_, rfl, ρ₂, S₂, P₁'.trans P₂, kr.post P₂⟩)

theorem jR {pos : Pos} {f : Value} {first : List Value} {args : List (Bool × Sem Value)} {s : Shared} {Q : Value → Shared → Prop} (hk : keepIn cx.K f = true) (hp : args.any (·.1) = false)
    (h : wpN cx.M n (spliced args) (fun vs s₁ => cx.K.In s₁.heap ∧ wpN cx.M n (call f (first ++ vs) []) Q s₁) s) : wpN cx.M n (callWith pos f first args []) Q s := by
  unfold callWith
  refine a9 (aI (fG hp (aE h fun vs s₁ h₁ => a9 (aH ?_))))
  simp only [hp, List.any_nil, Bool.or_false]
  obtain ⟨k, hkk, L⟩ := looks_keep hk h₁.1 (M := cx.M)
  refine a9 (dK L ?_)
  have tail : ∀ {t : Sem Value}, wpN cx.M n t Q s₁ → wpN cx.M n (t >>= fun r => holding [r] point >>= fun _ => pure r) Q s₁ :=
    fun ht => a9 (aE ht (fun r s₂ hr => a9 (aI (f9 (aF hr)))))
  rcases hkk with rfl | rfl
  · show wpN cx.M n (if _ then _ else _) Q s₁
    split
    · exact tail h₁.2
    · exact tail (by unfold callMarked; exact lR h₁.2)
  · exact tail h₁.2
noncomputable def eNew (C : Addr) (gI : FF) (fs : EsF) : EF := fun loc σ => match fs loc σ with
  | some (vs, σ1) => (match gI (.ref σ1.length :: vs) (σ1 ++ [.inst C []]) with | some (.none, σ2) => some (.ref σ1.length, σ2) | _ => none)
  | none => none
theorem iz {x : String} {p pos : Pos} {es : List Expr} {fs : EsF} {C fI : Addr} {gI : FF} {m : Nat} (e : nsIn cx.K mainGlobals (Str.ofString x) = some (some (.ref C))) (hk : keepIn cx.K (.ref C) = true) (hm : makesIn cx.K C = true) (hi : findIn cx.K (.ref C) "__init__" = some (some (.ref fI)))
    (hf : typeIn cx.K (.ref fI) = some (.type "function")) (hF : DenF cx m (.ref fI) gI) (hn : m ≤ n) (hs : DenEs cx sc (n + 2) es fs)
    (hl : sc.names.lookup (Str.ofString x) = some .globalImplicit) (hd : (Str.ofString x == ("__debug__" : Str)) = false) :
    DenE cx sc (n + 2) (.Call (.Name (Str.ofString x) p) es [] pos) (eNew C gI fs) := by
  intro env L ρ σ loc s v σ' eo S lo hf'
  unfold eNew at hf'
  split at hf'
  · rename_i us σ1 e1
    split at hf'
    · rename_i σ2 e2
      cases hf'
      rw [arm_eval_Call_Name']
      refine a9 (gQ eo S e hl hd ?_)
      refine jR hk (hs.1 _ _) (aE (hs.2 env L ρ σ loc s us σ1 pos eo S lo e1) fun vs s₁ h₁ => ?_)
      obtain ⟨ρ₁, S₁, P₁, r₁⟩ := h₁
      refine ⟨S₁.XK, cy (dN (oJ hm hi hf hF hn S₁ r₁ e2) fun r s₂ h₂ => ?_)⟩
      obtain ⟨rv, e3, h₃⟩ := h₂
      exact ⟨rv, e3, .after P₁ h₃⟩
    · cases hf'
  · cases hf'
end Mine

end
section
open PySem PySem.W PySem.Calls PyProof.Rows
open Sem (wp)
namespace Mine
open PySem.Builtin
variable {cx : Cx} {sc : Scope} {n : Nat}

open Classical in
noncomputable def compC (chk : Sto → Prop) (b : Bd) (fe : EF) (kA : Nat) : List MV → Loc → Sto → Option Sto
  | [], loc, σ => if chk σ then some σ else none
  | x :: rest, loc, σ => if chk σ then (match b x loc with
      | some loc1 => (match fe loc1 σ with
        | some (v, σ1) => (match mAppend [.ref kA, v] σ1 with
          | some (_, σ2) => compC chk b fe kA rest loc1 σ2
          | none => none)
        | none => none)
      | none => none) else none
theorem mj {chk : Sto → Prop} {b : Bd} {fe : EF} {kA : Nat} {loc : Loc} {σ : Sto} : compC chk b fe kA [] loc σ = (open Classical in if chk σ then some σ else none) := rfl
theorem mO {chk : Sto → Prop} {b : Bd} {fe : EF} {kA : Nat} {x : MV} {rest : List MV} {loc : Loc} {σ : Sto} : compC chk b fe kA (x :: rest) loc σ = (open Classical in if chk σ then (match b x loc with
      | some loc1 => (match fe loc1 σ with
        | some (v, σ1) => (match mAppend [.ref kA, v] σ1 with
          | some (_, σ2) => compC chk b fe kA rest loc1 σ2
          | none => none)
        | none => none)
      | none => none) else none) := rfl

structure Apart (ρ : Pls) (L : Addr) (h : Heap) (c : Addr) (o : Obj) : Prop where
  at_ : h.get? c = some o
  ne : c ≠ L
  ap : ∀ p ∈ ρ, c ≠ p.1 ∧ c ≠ p.2
theorem Apart.post {ρ ρ' : Pls} {L : Addr} {h h' : Heap} {c : Addr} {o : Obj} (a : Apart ρ L h c o) (P : Post ρ ρ' (fun b => b = L) h h') : Apart ρ' L h' c o := by
  refine ⟨P.fr c o a.at_ a.ap a.ne, a.ne, fun p hp => ?_⟩
  rcases P.new p hp with q | ⟨q1, q2⟩
  · exact a.ap p q
  · exact ⟨fun z => (by rw [← z, a.at_] at q1; cases q1), fun z => (by rw [← z, a.at_] at q2; cases q2)⟩
theorem Apart.ext {ρ : Pls} {L I : Addr} {h h' : Heap} {c : Addr} {o : Obj} (a : Apart ρ L h c o) (hI : c ≠ I) (e : Heap.ExtBut I h h') : Apart ρ L h' c o := ⟨e c o hI a.at_, a.ne, a.ap⟩

theorem my {elt target iter : Expr} {scope : Scope} {pos : Pos} {b : Bd} {fe : EF} (ht : TgtOk cx sc n target b) {env : Env} {L : Addr} (eo : EnvOk env sc L) (wc : Option (Addr × Obj))
    {ρ₀ : Pls} {s₀ : Shared} {σ' : Sto} {I : Addr} {kA : Nat} {pA : Addr × Addr}
    (hI0 : s₀.heap.get? I = .none) (hI1 : cx.h₀.get? I = .none) (hIw : ∀ c o, wc = some (c, o) → c ≠ I)
    (chk : Sto → Prop) (It : List MV → Obj → Prop) (PX : Pls → Prop) (pxm : ∀ ρ t, PX ρ → PX (ρ ++ t)) (hcls : ∀ r o, It r o → IterCls o)
    (he : ∀ ρ σ loc s v σ', PX ρ → SOk cx ρ σ s → LOk cx ρ loc L s.heap → (∀ c o, wc = some (c, o) → Apart ρ L s.heap c o) → fe loc σ = some (v, σ') → wpN cx.M n (eval elt env) (ValAt cx ρ s v σ') s)
    (next : ∀ x rest σ ρ s o, SOk cx ρ σ s → PX ρ → chk σ → s.heap.get? I = some o → It (x :: rest) o → wpN cx.M n (pyNext (.ref I)) (fun r s' => ∃ rv h tk o', r = some rv ∧ s' = { s with heap := h, toks := tk } ∧ Heap.ExtBut I s.heap h ∧ VRel cx.h₀ ρ h x rv ∧ h.get? I = some o' ∧ It rest o') s)
    (fin : ∀ σ ρ s o, SOk cx ρ σ s → PX ρ → chk σ → s.heap.get? I = some o → It [] o → wpN cx.M n (pyNext (.ref I)) (fun r s' => r = none ∧ ∃ h tk, s' = { s with heap := h, toks := tk } ∧ Heap.ExtBut I s.heap h) s)
    (htg : ∀ v, letOwnedTupleGo target (.ref I) v = pure ()) :
    ∀ (rest : List MV) (ρ : Pls) (σ : Sto) (loc : Loc) (s : Shared) (o : Obj), SOk cx ρ σ s → LOk cx ρ loc L s.heap → Post ρ₀ ρ (fun b => b = L) s₀.heap s.heap → PX ρ → ρ[kA]? = some pA → Apart ρ L s.heap I o → It rest o → (∀ c o, wc = some (c, o) → Apart ρ L s.heap c o) →
      compC chk b fe kA rest loc σ = some σ' →
      codeN cx.M n (.compLoop (.ListComp elt [⟨target, iter, [], 0⟩] scope pos) 0 (.ref I) (.ref pA.1) env) (fun r s' => ∃ rf, r = .ok rf ∧ ∃ ρ' loc', SOk cx ρ' σ' s' ∧ Post ρ₀ ρ' (fun b => b = L) s₀.heap s'.heap ∧ LOk cx ρ' loc' L s'.heap ∧ ρ'[kA]? = some pA) s := by
  intro rest
  induction rest with
  | nil =>
    intro ρ σ loc s o S lo P px hA hI hit hw hf
    rw [mj] at hf
    split at hf
    · rename_i hc
      cases hf
      refine c7 (n := n) rfl rfl rfl ?_
      show wpN cx.M n ((compTurn (.ListComp elt [⟨target, iter, [], 0⟩] scope pos) 0 (.ref I) (.ref pA.1) env).onRaise (fun x => do noteFrame x env; theTreesLotGoes x)) _ s
      refine f8 ?_
      rw [compTurn_list1]
      refine a9 (aH (a9 (aE (fin σ' ρ s o S px hc hI.at_ hit) fun r s₁ h₁ => ?_)))
      obtain ⟨rfl, h, tk, rfl, e⟩ := h₁
      have nt := fun q (hq : s.heap.get? I = some q) => (by rw [hI.at_] at hq; cases hq; exact (hcls _ _ hit).notTup : ¬ IsTupO q)
      exact aF ⟨_, rfl, ρ, loc, S.aside tk e hI.ap hI1 nt, P.aside e hI0, lo.aside e hI.ne.symm nt, hA⟩
    · cases hf
  | cons x rest ih =>
    intro ρ σ loc s o S lo P px hA hI hit hw hf
    rw [mO] at hf
    split at hf
    · rename_i hc
      first | have hf := mls hf | have hf := mba hf | have hf := m1s hf | have hf := m1l hf | have hf := m1v hf | have hf := m1o hf | have hf := m1i hf | have hf := m1b hf
      obtain ⟨loc1, e1, hf⟩ := hf
      first | have hf := m2v hf | have hf := mrf hf | have hf := m2l hf | have hf := m2b hf | have hf := mit hf | have hf := mbl hf | have hf := m2o hf | have hf := mis hf
      obtain ⟨v, σ1, e2, hf⟩ := hf
      first | have hf := m2v hf | have hf := mrf hf | have hf := m2l hf | have hf := m2b hf | have hf := mit hf | have hf := mbl hf | have hf := m2o hf | have hf := mis hf
      obtain ⟨z, σ2, e3, hf⟩ := hf
      refine c7 (n := n) rfl rfl rfl ?_
      show wpN cx.M n ((compTurn (.ListComp elt [⟨target, iter, [], 0⟩] scope pos) 0 (.ref I) (.ref pA.1) env).onRaise (fun x => do noteFrame x env; theTreesLotGoes x)) _ s
      refine f8 ?_
      rw [compTurn_list1]
      refine a9 (aH (a9 (aE (next x rest σ ρ s o S px hc hI.at_ hit) fun r s₁ h₁ => ?_)))
      obtain ⟨rv, h, tk, o', rfl, rfl, e, r, ho', hit'⟩ := h₁
      have nt := fun q (hq : s.heap.get? I = some q) => (by rw [hI.at_] at hq; cases hq; exact (hcls _ _ hit).notTup : ¬ IsTupO q)
      have S₁ := S.aside tk e hI.ap hI1 nt
      have l₁ := lo.aside e hI.ne.symm nt
      have P₁ := P.aside e hI0
      have I₁ : Apart ρ L h I o' := ⟨ho', hI.ne, hI.ap⟩
      have w₁ : ∀ c o, wc = some (c, o) → Apart ρ L h c o := fun c o q => (hw c o q).ext (hIw c o q) e
      refine a9 (bj (htg rv) ?_)
      refine a9 (aE (ht env L ρ σ loc _ x rv loc1 eo S₁ l₁ r e1) fun _ s₂ h₂ => ?_)
      obtain ⟨ρ₂, S₂, P₂, l₂⟩ := h₂.ρ
      have w₂ : ∀ c o, wc = some (c, o) → Apart ρ₂ L s₂.heap c o := fun c o q => (w₁ c o q).post P₂
      have I₂ := I₁.post P₂
      refine a9 (a9 (aE (he ρ₂ σ loc1 s₂ v σ1 (by obtain ⟨t, rfl⟩ := P₂.ext; exact pxm _ _ px) S₂ l₂ w₂ e2) fun rv s₃ h₃ => ?_))
      obtain ⟨ρ₃, S₃, P₃, r₃⟩ := h₃
      have hA₃ : ρ₃[kA]? = some pA := hX P₃.ext (hX P₂.ext hA)
      refine a9 (aE (bD ρ₃ σ1 s₃ [.ref kA, v] [.ref pA.1, rv] z σ2 S₃ (.cons (.ref hA₃) (.cons r₃ .nil)) e3) fun u s₄ h₄ => ?_)
      obtain ⟨ρ₄, S₄, P₄, _⟩ := h₄
      have P₃₄ := (P₃.trans P₄).toL (L := L)
      refine aF (aF ⟨rfl, ih ρ₄ σ2 loc1 s₄ o' S₄ (l₂.post (P₃.trans P₄)) ((P₁.trans P₂).trans P₃₄) ?_ (hX P₄.ext hA₃) (I₂.post P₃₄) hit' (fun c o q => (w₂ c o q).post P₃₄) hf⟩)
      have pe : ∀ ρ ρ' : Pls, (∃ t, ρ' = ρ ++ t) → PX ρ → PX ρ' := fun ρ ρ' e px => by obtain ⟨t, rfl⟩ := e; exact pxm _ _ px
      exact pe _ _ P₄.ext (pe _ _ P₃.ext (pe _ _ P₂.ext px))
    · cases hf

theorem Post.drop {ρ ρ' : Pls} {L : Addr} {h h' : Heap} (hL : h.get? L = .none) (P : Post ρ ρ' (fun b => b = L) h h') : Post ρ ρ' (fun _ => False) h h' := P.leave (fun _ _ e => e) hL

theorem lh {α : Type} {elt target iter : Expr} {scope : Scope} {pos : Pos} {b : Bd} {fe : EF} (ht : TgtOk cx sc n target b) {env : Env} {cl : List (Str × Addr)} {fi : Sem Value} {pos0 : Pos}
    (hcl : ∀ (s : Shared) (Q : List (Str × Addr) → Shared → Prop), (∀ c ∈ cl, ∃ o, s.heap.get? c.2 = some o) → Q cl s → wpN cx.M n (closureFor scope env) Q s)
    (hsc : ∀ L', EnvOk { newEnv scope L' env.globals cl env.qual none .none (some env) env.builtins with scope := sc } sc L') (hkf : scope.kind = .function) (hnc : ∀ x ∈ scope.names, x.2 ≠ .cell)
    (hmap : ∀ (cenv : Env), ({ cenv with scope := { scope with names := scope.names.map fun (n, k) => if (k == .free && env.scope.kind == .function && env.kindOf n == some .cell) then (n, NameKind.cell) else (n, k) } } : Env) = { cenv with scope := sc })
    (hvars : ∀ x ∈ scope.names, x.2 = .local → sc.names.lookup x.1 = some .local)
    {s : Shared} {ρ : Pls} {σ σ₁ σ' : Sto} (wc : Option (Addr × Obj)) (hw0 : ∀ c o, wc = some (c, o) → s.heap.get? c = some o ∧ ∀ p ∈ ρ, c ≠ p.1 ∧ c ≠ p.2) (S : SOk cx ρ σ s)
    (chk : Sto → Prop) (It : α → List MV → Obj → Prop) (PX : α → Pls → Prop) (pxm : ∀ a ρ t, PX a ρ → PX a (ρ ++ t)) (hcls : ∀ a r o, It a r o → IterCls o) (items : List MV)
    (he : ∀ a L' ρ σ loc s v σ', PX a ρ → SOk cx ρ σ s → LOk cx ρ loc L' s.heap → (∀ c o, wc = some (c, o) → Apart ρ L' s.heap c o) → fe loc σ = some (v, σ') →
      wpN cx.M n (eval elt { newEnv scope L' env.globals cl env.qual none .none (some env) env.builtins with scope := sc }) (ValAt cx ρ s v σ') s)
    (next : ∀ a I x rest σ ρ s o, SOk cx ρ σ s → PX a ρ → chk σ → s.heap.get? I = some o → It a (x :: rest) o → wpN cx.M n (pyNext (.ref I)) (fun r s' => ∃ rv h tk o', r = some rv ∧ s' = { s with heap := h, toks := tk } ∧ Heap.ExtBut I s.heap h ∧ VRel cx.h₀ ρ h x rv ∧ h.get? I = some o' ∧ It a rest o') s)
    (fin : ∀ a I σ ρ s o, SOk cx ρ σ s → PX a ρ → chk σ → s.heap.get? I = some o → It a [] o → wpN cx.M n (pyNext (.ref I)) (fun r s' => r = none ∧ ∃ h tk, s' = { s with heap := h, toks := tk } ∧ Heap.ExtBut I s.heap h) s)
    (again : ∀ a I r o (s : Shared) (Q : Value → Shared → Prop), s.heap.get? I = some o → It a r o → Q (.ref I) s → wpN cx.M n (pyIter (.ref I)) Q s)
    (htg : ∀ I v, letOwnedTupleGo target (.ref I) v = pure ()) (hfs : ∀ x, foldedSetIterable iter env x = pure x)
    (hfirst : wpN cx.M n fi (fun x s₁ => wpN cx.M n (pyIter x) (fun it s₂ => ∃ a I o ρ₂, it = .ref I ∧ s.heap.get? I = .none ∧ cx.h₀.get? I = .none ∧ s₂.heap.get? I = some o ∧ It a items o ∧ SOk cx ρ₂ σ₁ s₂ ∧ Post ρ ρ₂ (fun _ => False) s.heap s₂.heap ∧ PX a ρ₂ ∧ (∀ p ∈ ρ₂, I ≠ p.1 ∧ I ≠ p.2)) s₁) s)
    (hclo : ∀ c ∈ cl, ∃ o, wc = some (c.2, o))
    (hf : compC chk b fe σ₁.length items (fun _ => none) (σ₁ ++ [.list []]) = some σ') :
    wpN cx.M n (comprehension (.ListComp elt [⟨target, iter, [], 0⟩] scope pos) scope env pos0 (newList []) false fi) (ValAt cx ρ s (.ref σ₁.length) σ') s := by
  unfold comprehension
  refine a9 (aE hfirst fun x s₁ h₁ => a9 (aH (a9 (bj (hfs x) (a9 (aI (aE h₁ fun it s₂ h₂ => ?_)))))))
  obtain ⟨a, I, o, ρ₂, rfl, hI0, hI1, hIo, hit, S₂, P₂, px, hIap⟩ := h₂
  refine ah rfl ?_
  refine a9 (aG fun A _ => wpAny_newList ?_ (by rw [sizeLine_eq]; simp))
  obtain ⟨S₃, P₃⟩ := S₂.pushList (n := 0) s₂.toks (xs := []) (vs := []) .nil
  have hA : (ρ₂ ++ [(s₂.heap.objs.size, s₂.heap.objs.size)])[σ₁.length]? = some (s₂.heap.objs.size, s₂.heap.objs.size) := by rw [← S₂.len]; simp
  have k₃ : ∀ b o, s₂.heap.get? b = some o → (s₂.heap.push (listO [] 0)).get? b = some o := fun _ _ e => Heap.get?_push_of_some _ e
  have watch : ∀ c o, wc = some (c, o) → (s₂.heap.push (listO [] 0)).get? c = some o ∧ ∀ p ∈ ρ₂ ++ [(s₂.heap.objs.size, s₂.heap.objs.size)], c ≠ p.1 ∧ c ≠ p.2 := by
    intro c o q
    obtain ⟨w1, w2⟩ := hw0 c o q
    have g1 := P₂.fr c o w1 w2 (fun x => x)
    refine ⟨k₃ _ _ g1, fun p hp => ?_⟩
    rcases List.mem_append.mp hp with hp | hp
    · rcases P₂.new p hp with q | ⟨q1, q2⟩
      · exact w2 p q
      · exact ⟨fun z => (by rw [← z, w1] at q1; cases q1), fun z => (by rw [← z, w1] at q2; cases q2)⟩
    · rw [List.mem_singleton.mp hp]; exact ⟨Nat.ne_of_lt (Heap.lt_size g1), Nat.ne_of_lt (Heap.lt_size g1)⟩
  have hIs : I < s₂.heap.objs.size := Heap.lt_size hIo
  refine a9 (hcl _ _ (fun c hc => let ⟨o, q⟩ := hclo c hc; ⟨o, (watch c.2 o q).1⟩) ?_)
  refine a9 (aG fun A _ => wpAny_newFunctionEnv hnc (fun x hx => nomatch hx) (fun h₁ hns hsb => ?_) hkf)
  have hsz : ({ s₂ with heap := s₂.heap.push (listO [] 0) } : Shared).heap.objs.size = s₂.heap.objs.size + 1 := Heap.size_push _ _
  have k₄ : ∀ b o, (s₂.heap.push (listO [] 0)).get? b = some o → h₁.get? b = some o := fun b o e => hsb.extBut b o (Nat.ne_of_lt (Heap.lt_size e)) (Heap.get?_push_of_some _ e)
  have S₄ := S₃.kept (s₂.toks + ([] : List (Str × Value)).length) k₄
  have hL0 : s.heap.get? (s₂.heap.push (listO [] 0)).objs.size = .none := by
    cases q : s.heap.get? (s₂.heap.push (listO [] 0)).objs.size with
    | none => rfl
    | some o =>
      obtain ⟨o', e'⟩ := P₂.live _ _ q
      exact absurd (Heap.lt_size (k₃ _ _ e')) (Nat.lt_irrefl _)
  have lo : LOk cx (ρ₂ ++ [(s₂.heap.objs.size, s₂.heap.objs.size)]) (fun _ => none) (s₂.heap.push (listO [] 0)).objs.size h₁ := ⟨⟨_, hns, fun x v e => nomatch e⟩, S₃.fresh0.1, S₃.fresh0.2⟩
  have P₄ : Post ρ (ρ₂ ++ [(s₂.heap.objs.size, s₂.heap.objs.size)]) (fun b => b = (s₂.heap.push (listO [] 0)).objs.size) s.heap h₁ := (P₂.toL.trans (P₃ _)).trans (.of_keep _ _ k₄)
  have eo := hsc (s₂.heap.push (listO [] 0)).objs.size
  have hLw : ∀ c o, wc = some (c, o) → c ≠ (s₂.heap.push (listO [] 0)).objs.size := fun c o q => Nat.ne_of_lt (Heap.lt_size (watch c o q).1)
  have hIL : I ≠ (s₂.heap.push (listO [] 0)).objs.size := Nat.ne_of_lt (Heap.lt_size (k₃ _ _ hIo))
  have hIA : ∀ p ∈ ρ₂ ++ [(s₂.heap.objs.size, s₂.heap.objs.size)], I ≠ p.1 ∧ I ≠ p.2 := by
    intro p hp
    rcases List.mem_append.mp hp with hp | hp
    · exact hIap p hp
    · rw [List.mem_singleton.mp hp]; exact ⟨Nat.ne_of_lt hIs, Nat.ne_of_lt hIs⟩
  have hIw : ∀ c o, wc = some (c, o) → c ≠ I := fun c o q z => by
    obtain ⟨w1, _⟩ := hw0 c o q
    rw [z, hI0] at w1; cases w1
  dsimp only
  rw [hmap]
  refine aI ?_
  have loop := my (elt := elt) (iter := iter) (scope := scope) (pos := pos) ht eo wc (ρ₀ := ρ) (s₀ := s) (kA := σ₁.length) (pA := (s₂.heap.objs.size, s₂.heap.objs.size)) hI0 hI1 hIw chk (It a) (PX a) (pxm a) (hcls a) (fun ρ σ loc s v σ' pa b c d => he a _ ρ σ loc s v σ' pa b c d) (next a I) (fin a I) (htg I)
    items _ _ _ _ o S₄ lo P₄ (pxm _ _ _ px) hA ⟨k₄ _ _ (k₃ _ _ hIo), hIL, hIA⟩ hit (fun c o q => ⟨k₄ _ _ (watch c o q).1, hLw c o q, (watch c o q).2⟩) hf
  refine a9 (gB (aI (mZ (c7 (n := n) rfl rfl rfl ?_))))
  have after : codeN cx.M n (.compLoop (.ListComp elt [⟨target, iter, [], 0⟩] scope pos) 0 (.ref I) (.ref s₂.heap.objs.size) { newEnv scope (s₂.heap.push (listO [] 0)).objs.size env.globals cl env.qual none .none (some env) env.builtins with scope := sc })
      (fun r s' => ∃ f, r = .ok f ∧ wpN cx.M n (do
        match (Except.ok f : Except Value Flow), (none : Option (Value → Sem Unit)) with
        | .ok _, none => holding [.ref s₂.heap.objs.size] (comprehension.letGo { newEnv scope (s₂.heap.push (listO [] 0)).objs.size env.globals cl env.qual none .none (some env) env.builtins with scope := sc }
            (fun vs => vs.flatMap fun (n, k) => if k == .cell then ((cl.lookup n).map Value.ref).toList else []) (scope.names.filter fun (n, k) => (k == .local || k == .cell) && n != (".0" : Str)).reverse); pure (.ref s₂.heap.objs.size)
        | _, _ => pure .none) (ValAt cx ρ s (.ref σ₁.length) σ') s') ({ s₂ with heap := h₁, toks := s₂.toks + ([] : List (Str × Value)).length }) := by
    refine dN loop fun r s' hr => ?_
    obtain ⟨rf, rfl, ρ', loc', S', P', lo', hA'⟩ := hr
    refine ⟨_, rfl, ?_⟩
    obtain ⟨⟨m, hn, hm⟩, lap, lfr⟩ := lo'
    refine a9 (aI (aG fun A _ => wpAny_comp_letGo (cenv := { newEnv scope (s₂.heap.push (listO [] 0)).objs.size env.globals cl env.qual none .none (some env) env.builtins with scope := sc }) (show sc.kind = .function from eo.kind) _ s' m (fun x hx hl => ?_) hn fun h' m' hn' hs' => aF ?_))
    · exact hvars x (List.mem_filter.mp (List.mem_reverse.mp hx)).1 hl
    · obtain ⟨oL, es, ep, hoL, hdL, _⟩ := hn
      have nt : ∀ o, s'.heap.get? (s₂.heap.push (listO [] 0)).objs.size = some o → ¬ IsTupO o := fun o q => by rw [hoL] at q; cases q; exact fb hdL
      have S'' := S'.aside s'.toks hs'.extBut lap lfr nt
      exact ⟨ρ', S'', (P'.drop hL0).aside hs'.extBut hL0, .ref (p := (s₂.heap.objs.size, s₂.heap.objs.size)) hA'⟩
  show wpN cx.M n ((compStart (.ListComp elt [⟨target, iter, [], 0⟩] scope pos) 0 (.ref I) (.ref s₂.heap.objs.size) { newEnv scope (s₂.heap.push (listO [] 0)).objs.size env.globals cl env.qual none .none (some env) env.builtins with scope := sc }).onRaise (fun x => do noteFrame x _; standAt theWindowsPlace)) _ _
  refine bm ?_
  unfold compStart
  show wpN _ _ (ask >>= _) _ _
  refine a9 (aG fun A _ => wpAny_askSetting ?_)
  have hI₁ : h₁.get? I = some o := k₄ _ _ (k₃ _ _ hIo)
  split
  · first
      | exact a9 (aF (aF (And.intro rfl after)))
      | exact aF (And.intro rfl after)
  · first
      | exact a9 (dy (a9 (aH (a9 (again a I items o _ _ hI₁ hit (aF (And.intro rfl after)))))))
      | (refine a9 (dy ?_); show wpN _ _ (standAt iter.pos >>= _) _ _; exact a9 (aH (a9 (again a I items o _ _ hI₁ hit (aF (And.intro rfl after))))))
end Mine

end
section
open PySem PySem.W PySem.Calls PyProof.Rows
open Sem (wp)
namespace Mine
open PySem.Builtin
variable {cx : Cx} {sc : Scope} {n : Nat}

noncomputable def ItL (ax : Addr) (xs : List MV) (r : List MV) (o : Obj) : Prop := o.cls = .type "list_iterator" ∧ ∃ i : Nat, o.data = .fields #[.ref ax, .int i 0] ∧ r = xs.drop i
theorem nq {k : Nat} {p : Addr × Addr} {xs : List MV} {I : Addr} {x : MV} {rest : List MV} {σ : Sto} {ρ : Pls} {s : Shared} {o : Obj} (S : SOk cx ρ σ s) (px : ρ[k]? = some p) (hc : σ[k]? = some (.list xs)) (ho : s.heap.get? I = some o) (hit : ItL p.1 xs (x :: rest) o) :
    wpN cx.M n (pyNext (.ref I)) (fun r s' => ∃ rv h tk o', r = some rv ∧ s' = { s with heap := h, toks := tk } ∧ Heap.ExtBut I s.heap h ∧ VRel cx.h₀ ρ h x rv ∧ h.get? I = some o' ∧ ItL p.1 xs rest o') s := by
  obtain ⟨hcl, i, hd, hr⟩ := hit
  obtain ⟨e0, us, m', o2, q2⟩ := S.obj k _ p hc px
  have hx : xs[i]? = some x := by
    have := congrArg List.head? hr
    rwa [List.head?_cons, List.head?_drop, eq_comm] at this
  obtain ⟨rv, hv, rr⟩ := q2.get hx
  refine aG fun A ao => wpAny_pyNext_list_item (items := us.toArray) (x := rv) (i := i) ⟨o, ho, hcl, hd⟩ ⟨_, o2, rfl, _, rfl⟩ (by simpa using hv) fun h' hit' sb => ?_
  obtain ⟨o', ho', hcl', hd'⟩ := hit'
  have tup : ∀ b ob, s.heap.get? b = some ob → IsTupO ob → h'.get? b = some ob := fun b ob q t => sb.extBut b ob (by rintro rfl; rw [ho] at q; cases q; exact (IterCls.notTup (.inl hcl)) t) q
  exact ⟨rv, h', s.toks, o', rfl, rfl, sb.extBut, rr.mono ⟨[], by simp⟩ tup, ho', hcl', i + 1, hd', by
    have := congrArg List.tail hr
    rwa [List.tail_cons, List.tail_drop] at this⟩
theorem pR {k : Nat} {p : Addr × Addr} {xs : List MV} {I : Addr} {σ : Sto} {ρ : Pls} {s : Shared} {o : Obj} (S : SOk cx ρ σ s) (px : ρ[k]? = some p) (hc : σ[k]? = some (.list xs)) (ho : s.heap.get? I = some o) (hit : ItL p.1 xs [] o) :
    wpN cx.M n (pyNext (.ref I)) (fun r s' => r = none ∧ ∃ h tk, s' = { s with heap := h, toks := tk } ∧ Heap.ExtBut I s.heap h) s := by
  obtain ⟨hcl, i, hd, hr⟩ := hit
  obtain ⟨e0, us, m', o2, q2⟩ := S.obj k _ p hc px
  have hi : us[i]? = none := by
    have := congrArg List.length hr
    rw [List.length_nil, List.length_drop] at this
    rw [List.getElem?_eq_none]; rw [q2.length]; (first|lia|omega)
  exact aG fun A ao => wpAny_pyNext_list_end (items := us.toArray) (i := i) ao.handled ⟨o, ho, hcl, hd⟩ ⟨_, o2, rfl, _, rfl⟩ (by simpa using hi) fun h' eb => ⟨rfl, h', s.toks, rfl, eb⟩
noncomputable def ItR (r : List MV) (o : Obj) : Prop := ∃ x left step, o = { cls := .type "range_iterator", dict := none, data := .fields #[rawInt x, rawInt left, rawInt step], slots := #[] } ∧ r = rItems x left step
theorem nu {I : Addr} {x : MV} {rest : List MV} {ρ : Pls} {s : Shared} {o : Obj} (ho : s.heap.get? I = some o) (hit : ItR (x :: rest) o) :
    wpN cx.M n (pyNext (.ref I)) (fun r s' => ∃ rv h tk o', r = some rv ∧ s' = { s with heap := h, toks := tk } ∧ Heap.ExtBut I s.heap h ∧ VRel cx.h₀ ρ h x rv ∧ h.get? I = some o' ∧ ItR rest o') s := by
  obtain ⟨y, left, step, rfl, hr⟩ := hit
  obtain ⟨hl, rfl, hr'⟩ := ip hr
  refine aG fun A ao => wpAny_pyNext_range_item ho hl fun h' hit' sb => ?_
  exact ⟨_, h', s.toks + 1, _, rfl, rfl, sb.extBut, .int _ _, hit', _, _, _, rfl, hr'⟩
theorem pK {I : Addr} {s : Shared} {o : Obj} (ho : s.heap.get? I = some o) (hit : ItR [] o) :
    wpN cx.M n (pyNext (.ref I)) (fun r s' => r = none ∧ ∃ h tk, s' = { s with heap := h, toks := tk } ∧ Heap.ExtBut I s.heap h) s := by
  obtain ⟨y, left, step, rfl, hr⟩ := hit
  have hl : left ≤ 0 := by
    have := congrArg List.length hr
    unfold rItems at this
    rw [List.length_nil, List.length_map, List.length_range] at this
    (first|lia|omega)
  exact aG fun A ao => wpAny_pyNext_range_end ao.handled ho hl fun h' eb => ⟨rfl, h', s.toks, rfl, eb⟩

noncomputable def eComp (b : Bd) (f fe : EF) : EF := fun loc σ => match f loc σ with
  | some (.ref k, σ1) => (match σ1[k]? with
    | some (.list xs) => (match compC (fun σ => σ[k]? = some (.list xs)) b fe σ1.length xs (fun _ => none) (σ1 ++ [.list []]) with | some σ' => some (.ref σ1.length, σ') | none => none)
    | _ => none)
  | _ => none
theorem o6 {elt target iter : Expr} {scope : Scope} {pos : Pos} {b : Bd} {f fe : EF} (hi : DenE cx sc n iter f) (ht : TgtOk cx scope n target b) (hel : DenE cx scope n elt fe)
    (hk : scope.kind = .function) (hfree : ∀ x ∈ scope.names, x.2 ≠ .free) (hnc : ∀ x ∈ scope.names, x.2 ≠ .cell) (hnames : ∀ x ∈ scope.names, x.2 = .local → scope.names.lookup x.1 = some .local)
    (htg : ∀ I v, letOwnedTupleGo target (.ref I) v = pure () := by intro _ _; rfl) (hfs : ∀ env x, foldedSetIterable iter env x = pure x := by intro _ _; rfl) :
    DenE cx sc n (.ListComp elt [⟨target, iter, [], 0⟩] scope pos) (eComp b f fe) := by
  intro env L ρ σ loc s v σ' eo S lo hf
  unfold eComp at hf
  first | have hf := m2v hf | have hf := mrf hf | have hf := m2l hf | have hf := m2b hf | have hf := mit hf | have hf := mbl hf | have hf := m2o hf | have hf := mis hf
  obtain ⟨k, σ1, e1, hf⟩ := hf
  first | have hf := mls hf | have hf := mba hf | have hf := m1s hf | have hf := m1l hf | have hf := m1v hf | have hf := m1o hf | have hf := m1i hf | have hf := m1b hf
  obtain ⟨xs, e2, hf⟩ := hf
  first | have hf := mls hf | have hf := mba hf | have hf := m1s hf | have hf := m1l hf | have hf := m1v hf | have hf := m1o hf | have hf := m1i hf | have hf := m1b hf
  obtain ⟨σ2, e3, hf⟩ := hf
  cases hf
  rw [eval_ListComp]
  refine lh (α := Addr × Addr) (sc := scope) (b := b) (fe := fe) (cl := []) (σ₁ := σ1) ht (fun s Q _ q => by rw [closureFor_none hfree]; exact aF q) (fun L' => ⟨rfl, hk, rfl, eo.glob, eo.bi⟩) hk hnc (fun cenv => ?_) hnames none (fun _ _ h => nomatch h) S
    (fun σ => σ[k]? = some (.list xs)) (fun p => ItL p.1 xs) (fun p ρ => ρ[k]? = some p) (fun p ρ t e => by rw [List.getElem?_append_left (List.getElem?_eq_some_iff.mp e).1]; exact e) (fun p r o h => .inl h.1) xs (fun _ L' ρ σ loc s v σ' _ S lo _ e => hel _ L' ρ σ loc s v σ' ⟨rfl, hk, rfl, eo.glob, eo.bi⟩ S lo e)
    (fun p I x rest σ ρ s o S px hc ho hit => nq S px hc ho hit) (fun p I σ ρ s o S px hc ho hit => pR S px hc ho hit) (fun p I r o s Q ho hit q => aG fun A _ => let ⟨i, hd, _⟩ := hit.2; wpAny_pyIter_listiter (i := i) ⟨o, ho, hit.1, hd⟩ q) htg (hfs env) ?_ (fun _ h => nomatch h) e3
  · rw [map_eq_self (l := scope.names) (fun x hx => by
      obtain ⟨nm, kd⟩ := x
      have : (kd == NameKind.free) = false := by simpa using hfree _ hx
      simp [this])]
  · refine aE (hi env L ρ σ loc s _ _ eo S lo e1) fun rv s₁ h₁ => ?_
    obtain ⟨ρ₁, S₁, P₁, r₁⟩ := h₁
    obtain ⟨p, vs, m, rfl, hp, hpp, o1, q1⟩ := listAt S₁ r₁ e2
    refine aG fun A ao => wpAny_pyIter_list (items := vs.toArray) ⟨_, o1, rfl, _, rfl⟩ ?_
    have l₁ := lo.post P₁
    have fp := gC S₁ l₁
    have kk : ∀ b o, s₁.heap.get? b = some o → (s₁.heap.push { cls := .type "list_iterator", data := .fields #[.ref p.1, .int 0 0] }).get? b = some o := fun b o e => Heap.get?_push_of_some _ e
    have hI0 : s.heap.get? s₁.heap.objs.size = .none := by
      cases q : s.heap.get? s₁.heap.objs.size with
      | none => rfl
      | some o => obtain ⟨o', e'⟩ := P₁.live _ _ q; exact absurd (Heap.lt_size e') (Nat.lt_irrefl _)
    exact ⟨p, _, _, ρ₁, rfl, hI0, fp.2.1, Heap.get?_push_size _ rfl, ⟨rfl, 0, rfl, rfl⟩, S₁.kept s₁.toks kk, P₁.trans (.of_keep _ _ kk), hp, fp.1⟩
end Mine

end
section
open PySem PySem.W PySem.Calls PyProof.Rows
open Sem (wp)
namespace Mine
open PySem.Builtin
variable {cx : Cx} {sc : Scope} {n : Nat}

noncomputable abbrev rawsScope (mr : List (Str × Const)) : Scope := { kind := .function, names := [(Str.ofString "self", .cell), (Str.ofString "range", .globalImplicit)], isGenerator := false, isCoroutine := false, more := mr }
noncomputable abbrev rawsComp : Scope := { kind := .function, names := [(Str.ofString ".0", .local), (Str.ofString "i", .local), (Str.ofString "self", .free)], isGenerator := false, isCoroutine := false }
noncomputable abbrev rawsIn : Scope := { kind := .function, names := [(Str.ofString ".0", .local), (Str.ofString "i", .local), (Str.ofString "self", .cell)], isGenerator := false, isCoroutine := false }
noncomputable def fRaws (C : Addr) (gc gr : FF) : FF := fun args σ => match args with
  | [.ref k] => (match σ[k]? with
    | some (.inst C' fl) => if C' = C ∧ fget "count" fl = none then (match gc [.ref k] σ with
      | some (v, σ1) => (match rArgs [v] with
        | some (x, y, c) => (match compC (fun _ => True) (bN "i") (eMeth C "raw" gr (eK (.ref k)) (eCons (eN "i") eNil)) σ1.length (rItems x (Builtin.Range.rangeSize x y c) c) (fun _ => none) (σ1 ++ [.list []]) with
          | some σ2 => some (.ref σ1.length, σ2)
          | none => none)
        | none => none)
      | none => none) else none
    | _ => none)
  | _ => none

theorem jo {env : Env} {c : Addr} {v : Value} {pos : Pos} {s : Shared} {Q : Value → Shared → Prop} (hk : env.scope.kind = .function) (hl : env.kindOf (Str.ofString "self") = some .cell) (hc : env.cells.lookup (Str.ofString "self") = some c)
    (hv : s.heap.IsCell c (some v)) (h : Q v s) : wpN cx.M n (eval (.Name (Str.ofString "self") pos) env) Q s := aG fun A _ => wpAny_Name (wpAny_loadName_cell hk hl hc hv h) (by decide)

theorem nb {C f fc fr : Addr} {gc gr : FF} {mc mr : Nat} {name qual : Str} {params : Arguments} {mo : List (Str × Const)} {dV kV doc pm cdv ct oc : Value} {an od : Option Addr} {osl : Array (Option Value)} {p1 p2 p3 p4 p5 p6 p7 p8 p9 p10 p11 p12 : Pos}
    (ho : cx.K.lookup f = some ⟨oc, od, .func (fnOf name qual params [.Return (some (.ListComp (.Call (.Attribute (.Name (Str.ofString "self") p1) (Str.ofString "raw") p2) [.Name (Str.ofString "i") p3] [] p4) [⟨.Name (Str.ofString "i") p5, .Call (.Name (Str.ofString "range") p6) [.Call (.Attribute (.Name (Str.ofString "self") p7) (Str.ofString "count") p8) [] [] p9] [] p10, [], 0⟩] rawsComp p11)) p12] (rawsScope mo) dV kV doc pm an cdv ct), osl⟩) (hcd : codeIn cx.K cdv qual = true)
    (hbind : ∀ v, bindArgs (fnOf name qual params [.Return (some (.ListComp (.Call (.Attribute (.Name (Str.ofString "self") p1) (Str.ofString "raw") p2) [.Name (Str.ofString "i") p3] [] p4) [⟨.Name (Str.ofString "i") p5, .Call (.Name (Str.ofString "range") p6) [.Call (.Attribute (.Name (Str.ofString "self") p7) (Str.ofString "count") p8) [] [] p9] [] p10, [], 0⟩] rawsComp p11)) p12] (rawsScope mo) dV kV doc pm an cdv ct) ⟨[v], []⟩ = pure [(Str.ofString "self", v)])
    (okc : MethOk cx C "count" fc) (hFc : DenF cx mc (.ref fc) gc) (hmc : mc ≤ n) (okr : MethOk cx C "raw" fr) (hFr : DenF cx mr (.ref fr) gr) (hmr : mr ≤ n)
    (hg : nsIn cx.K mainGlobals (Str.ofString "range") = some none)
    (heR : ∀ env, eval (.Call (.Attribute (.Name (Str.ofString "self") p1) (Str.ofString "raw") p2) [.Name (Str.ofString "i") p3] [] p4) env = (do
      let ov ← eval (.Name (Str.ofString "self") p1) env
      standAt p2.atName
      let (f, first) ← holding [ov] (getMethod ov (Str.ofString "raw") (do return (← importBound (.Name (Str.ofString "self") p1) env).getD true))
      callWith p4 f first (backTo p4 (starEach [.Name (Str.ofString "i") p3] env)) []))
    (heC : ∀ env, eval (.Call (.Attribute (.Name (Str.ofString "self") p7) (Str.ofString "count") p8) [] [] p9) env = (do
      let ov ← eval (.Name (Str.ofString "self") p7) env
      standAt p8.atName
      let (f, first) ← holding [ov] (getMethod ov (Str.ofString "count") (do return (← importBound (.Name (Str.ofString "self") p7) env).getD true))
      callWith p9 f first (backTo p9 (starEach [] env)) [])) :
    DenF cx (n + 1) (.ref f) (fRaws C gc gr) := by
  intro ρ σ s args vs v σ' S r hf
  unfold fRaws at hf
  split at hf
  · rename_i k
    first | have hf := m2v hf | have hf := mrf hf | have hf := m2l hf | have hf := m2b hf | have hf := mit hf | have hf := mbl hf | have hf := m2o hf | have hf := mis hf
    obtain ⟨C', fl, hk, hf⟩ := hf
    first | have hf := aZ hf
    obtain ⟨hC, hf⟩ := hf
    obtain ⟨rfl, hcn⟩ := hC
    first | have hf := m2v hf | have hf := mrf hf | have hf := m2l hf | have hf := m2b hf | have hf := mit hf | have hf := mbl hf | have hf := m2o hf | have hf := mis hf
    obtain ⟨cnt, σ1, e1, hf⟩ := hf
    first | have hf := m3i hf
    obtain ⟨x, y, c, e2, hf⟩ := hf
    first | have hf := mls hf | have hf := mba hf | have hf := m1s hf | have hf := m1l hf | have hf := m1v hf | have hf := m1o hf | have hf := m1i hf | have hf := m1b hf
    obtain ⟨σ2, e3, hf⟩ := hf
    cases hf
    obtain ⟨_, rfl, r1⟩ := r.one
    rename_i self
    refine bf (show (0:Nat) ≤ 2 by decide) (show (1:Nat) ≤ 10 by decide) rfl ?_
    show wpN cx.M n (callAny (.ref f) ⟨[self], []⟩) _ s
    refine aG fun A ao => ?_
    have hroom : A.depth < recursionLimit := by have := ao.depth; (first|lia|omega)
    refine iA (fd := fnOf name qual params _ (rawsScope mo) dV kV doc pm an cdv ct) hroom (S.XK _ _ ho) rfl rfl rfl rfl (codeRec_of S.XK hcd) (hbind self) ?_
    refine wpAny_newFunctionEnv_cells (hk := rfl) (fun x hx => ?_) (fun env henv s₁ ic => ?_)
    · rw [List.mem_singleton.mp hx]
      exact .inr ⟨rfl, rfl⟩
    · subst henv
      obtain ⟨h₁, tk, rfl⟩ := ic.toInCall.same
      have keep := ic.toInCall.keep
      have hcell : h₁.IsCell (s.heap.objs.size + 1) (some self) := by
        have := ic.cell (Str.ofString "self") (s.heap.objs.size + 1) rfl
        exact this
      obtain ⟨oce, hoc, hdc⟩ := hcell
      refine ⟨(S.TK.keeps keep).nolimit, rfl, ?_⟩
      have S₁ := S.kept tk keep
      have lo : LOk cx ρ (fun _ => none) s.heap.objs.size h₁ := ⟨⟨_, ic.toInCall.ns, fun x v e => nomatch e⟩, S.fresh0.1, S.fresh0.2⟩
      have hcr : ∀ p ∈ ρ, s.heap.objs.size + 1 ≠ p.1 ∧ s.heap.objs.size + 1 ≠ p.2 := by
        intro p hp
        obtain ⟨o, ho⟩ := S.objOf hp
        obtain ⟨o1, e1, _⟩ := ho.at1
        obtain ⟨o2, e2, _⟩ := ho.at2
        exact ⟨fun z => absurd (Heap.lt_size e1) (by rw [← z]; exact Nat.not_lt.mpr (Nat.le_succ _)), fun z => absurd (Heap.lt_size e2) (by rw [← z]; exact Nat.not_lt.mpr (Nat.le_succ _))⟩
      obtain ⟨p, es, m, rfl, hp, I, hd, F⟩ := instAt S r1 hk
      have r1' : VRel cx.h₀ ρ h₁ (.ref k) (.ref p.1) := .ref hp
      generalize hE : newEnv (rawsScope mo) s.heap.objs.size mainGlobals [(Str.ofString "self", s.heap.objs.size + 1)] (qual ++ ".<locals>.") (some f) cdv none builtinsNs = env
      have eo : EnvOk env (rawsScope mo) s.heap.objs.size := by rw [← hE]; exact ⟨rfl, rfl, rfl, rfl, rfl⟩
      have hcl : env.cells = [(Str.ofString "self", s.heap.objs.size + 1)] := by rw [← hE]; rfl
      refine bf (n := n) (show (1:Nat) ≤ 2 by decide) (show (3:Nat) ≤ 10 by decide) rfl ?_
      refine a9 (f9 (a9 (bm ?_)))
      have hEnv : newEnv (rawsScope mo) s.heap.objs.size mainGlobals (cellsFrom (s.heap.objs.size + 1) (rawsScope mo).names []) (qual ++ Str.ofString ".<locals>.") (some f) cdv none builtinsNs = env := hE
      have fin : wpN cx.M n (execs [.Return (some (.ListComp (.Call (.Attribute (.Name (Str.ofString "self") p1) (Str.ofString "raw") p2) [.Name (Str.ofString "i") p3] [] p4) [⟨.Name (Str.ofString "i") p5, .Call (.Name (Str.ofString "range") p6) [.Call (.Attribute (.Name (Str.ofString "self") p7) (Str.ofString "count") p8) [] [] p9] [] p10, [], 0⟩] rawsComp p11)) p12] env)
          (fun fl s' => ∃ rv, fl = .ret rv ∧ ValAt cx ρ s (.ref σ1.length) σ' rv s') { s with heap := h₁, toks := tk } := by
        rw [execs_cons, exec_Return_some, eval_ListComp]
        refine a9 (a9 (aH (a9 (aE (s := { s with heap := h₁, toks := tk }) (Q := ValAt cx ρ { s with heap := h₁, toks := tk } (.ref σ1.length) σ') ?_ fun rv s' h' => aF (aF ⟨rv, rfl, ?_⟩)))))
        · refine lh (α := Unit) (sc := rawsIn) (b := bN "i") (fe := eMeth C' "raw" gr (eK (.ref k)) (eCons (eN "i") eNil)) (cl := [(Str.ofString "self", s.heap.objs.size + 1)]) (σ₁ := σ1) (bp rfl) (fun s₉ Q _ q => ?_) (fun L' => ⟨rfl, rfl, rfl, eo.glob, eo.bi⟩) rfl (by decide) (fun cenv => ?_) ?_
            (some (s.heap.objs.size + 1, oce)) (fun c o e => by cases e; exact ⟨hoc, hcr⟩) S₁ (fun _ => True) (fun _ => ItR) (fun _ ρ => ρ[k]? = some p) (fun _ ρ t e => by rw [List.getElem?_append_left (List.getElem?_eq_some_iff.mp e).1]; exact e) (fun _ r o h => by obtain ⟨_, _, _, rfl, _⟩ := h; exact .inr rfl)
            (rItems x (Builtin.Range.rangeSize x y c) c) ?_ (fun _ I x rest σ ρ s o S px hc ho hit => nu ho hit) (fun _ I σ ρ s o S px hc ho hit => pK ho hit) (fun _ I r o s Q ho hit q => aG fun A _ => by obtain ⟨x, left, step, rfl, _⟩ := hit; exact wpAny_pyIter_rangeiter ho q) (fun _ _ => rfl) (fun _ => rfl) ?_ (fun c h => by rw [List.mem_singleton.mp h]; exact ⟨_, rfl⟩) e3
          · have e : closureFor rawsComp env = pure [(Str.ofString "self", s.heap.objs.size + 1)] := by
              simp only [closureFor, List.forIn_cons, List.forIn_nil, cellOf, hcl]
              rfl
            rw [e]; exact aF q
          · have hs' : env.scope = rawsScope mo := eo.isSc
            have hkd : env.kindOf = fun x => (rawsScope mo).names.lookup x := by funext x; unfold Env.kindOf; rw [hs']
            rw [hs', hkd]
            rfl
          · decide
          · intro _ L' ρ' σ' loc s' v τ px S' lo' w' e
            obtain ⟨wa, wb, wd⟩ := w' _ _ rfl
            unfold eMeth at e
            simp only [eK] at e
            split at e
            · rename_i C2 fl2 hk2
              split at e
              · rename_i hC2
                obtain ⟨rfl, hn2⟩ := hC2
                split at e
                · rename_i us τ2 e5
                  rw [heR]
                  refine a9 (jo (c := s.heap.objs.size + 1) (v := .ref p.1) rfl rfl rfl ⟨_, wa, hdc⟩ (a9 (aH ?_)))
                  exact jN okr hFr hmr (il (a7 rfl (by decide)) a8 (fun _ => rfl)) (sc := rawsIn) ⟨rfl, rfl, rfl, eo.glob, eo.bi⟩ S' lo' (.ref px) hk2 hn2 e5 e
                · cases e
              · cases e
            · cases e
          · show wpN _ _ (eval (.Call (.Name (Str.ofString "range") p6) [.Call (.Attribute (.Name (Str.ofString "self") p7) (Str.ofString "count") p8) [] [] p9] [] p10) env) _ _
            rw [arm_eval_Call_Name']
            refine a9 (iT (v := .type "range") eo S₁ hg rfl (by decide) rfl (by decide) ?_)
            have hst : starEach [(.Call (.Attribute (.Name (Str.ofString "self") p7) (Str.ofString "count") p8) [] [] p9)] env = [(false, eval (.Call (.Attribute (.Name (Str.ofString "self") p7) (Str.ofString "count") p8) [] [] p9) env)] := rfl
            rw [hst]
            refine bx rfl rfl (cF ?_)
            rw [heC]
            refine a9 (jo (c := s.heap.objs.size + 1) (v := .ref p.1) (by rw [eo.isSc]) (by unfold Env.kindOf; rw [eo.isSc]; rfl) (by rw [hcl]; rfl) ⟨_, hoc, hdc⟩ (a9 (aH ?_)))
            refine aE (jN (fs := eNil) (vs := []) okc hFc hmc a8 eo S₁ lo r1' hk hcn rfl e1) fun rv s₂ h₂ => aF ?_
            obtain ⟨ρ₂, S₂, P₂, r₂⟩ := h₂
            refine k0 S₂ (.cons r₂ .nil) e2 fun small t u v tk₂ => ?_
            have kk : ∀ b o, s₂.heap.get? b = some o → (s₂.heap.push { cls := .type "range", data := .fields #[.int x t, .int y u, .int c v] }).get? b = some o := fun b o e => Heap.get?_push_of_some _ e
            have S₃ := S₂.kept tk₂ kk
            have P₃ : Post ρ ρ₂ (fun _ => False) h₁ (s₂.heap.push { cls := .type "range", data := .fields #[.int x t, .int y u, .int c v] }) := P₂.trans (Post.of_keep ρ₂ _ kk)
            refine aG fun A ao => wpAny_pyIter_range (IsRange.new ..) small ?_
            generalize hs₃ : ({ s₂ with heap := s₂.heap.push { cls := .type "range", data := .fields #[.int x t, .int y u, .int c v] }, toks := tk₂ } : Shared) = s₃ at S₃
            have P₃' : Post ρ ρ₂ (fun _ => False) h₁ s₃.heap := by rw [← hs₃]; exact P₃
            have fp := S₃.fresh0
            have kk₂ : ∀ b o, s₃.heap.get? b = some o → (s₃.heap.push { cls := .type "range_iterator", data := .fields #[rawInt x, rawInt (Builtin.Range.rangeSize x y c), rawInt c] }).get? b = some o := fun b o e => Heap.get?_push_of_some _ e
            have hI0 : h₁.get? s₃.heap.objs.size = .none := by
              cases q : h₁.get? s₃.heap.objs.size with
              | none => rfl
              | some o => obtain ⟨o', e'⟩ := P₃'.live _ _ q; exact absurd (Heap.lt_size e') (Nat.lt_irrefl _)
            exact ⟨(), _, _, ρ₂, rfl, hI0, fp.2, Heap.get?_push_size _ rfl, ⟨_, _, _, rfl, rfl⟩, S₃.kept s₃.toks kk₂, P₃'.trans (.of_keep _ _ kk₂), hX P₃'.ext hp, fp.1⟩
        · obtain ⟨ρ', S', P', r'⟩ := h'
          exact ⟨ρ', S', (Post.of_keep ρ _ keep).trans P', r'⟩
      rw [← hEnv] at fin
      refine aE fin fun fl s' h' => ?_
      obtain ⟨rv, rfl, h'⟩ := h'
      exact aF ⟨rv, rfl, h'⟩
  · cases hf
end Mine

end
section
open PySem PySem.W PySem.Calls PyProof.Rows
open Sem (wp)
namespace Mine
theorem mid {l r : Nat} (h : l ≤ r) : l ≤ (l + r) / 2 := (Nat.le_div_iff_mul_le (by decide)).mpr (by rw [Nat.mul_two]; exact Nat.add_le_add_left h l)
theorem half1 {f l r : Nat} (hf : r - l ≤ f + 1) (h : ¬ l ≥ r) : (l + r) / 2 - l ≤ f := by
  have h1 := mid (Nat.le_of_lt (Nat.lt_of_not_ge h))
  have h2 : (l + r) / 2 + 1 ≤ r := Nat.div_lt_of_lt_mul (by rw [Nat.two_mul]; exact Nat.add_lt_add_right (Nat.lt_of_not_ge h) r)
  have h3 := Nat.sub_le_sub_right h2 l
  rw [Nat.sub_add_comm h1] at h3
  exact Nat.le_of_succ_le_succ (Nat.le_trans h3 hf)
theorem half2 {f l r : Nat} (hf : r - l ≤ f + 1) : r - ((l + r) / 2 + 1) ≤ f := by
  rcases Nat.le_total r l with h | h
  · have h1 := mid h
    rw [Nat.add_comm r l] at h1
    rw [Nat.sub_eq_zero_of_le (Nat.le_succ_of_le h1)]; exact Nat.zero_le f
  · have h1 := mid h
    rw [Nat.sub_add_eq]
    exact Nat.sub_le_of_le_add (Nat.le_trans (Nat.sub_le_sub_left h1 r) hf)

noncomputable def ev {α : Type} (c : Nat → Nat → Bool) : KasT α → α
  | .ret a => a
  | .ask i j k => ev c (k (c i j))
noncomputable def Run {α : Type} (c : Nat → Nat → Bool) (dom : Nat → Nat → Prop) : KasT α → (α → Prop) → Prop
  | .ret a, Q => Q a
  | .ask i j k, Q => dom i j ∧ Run c dom (k (c i j)) Q
theorem Run.bind {α β : Type} {c : Nat → Nat → Bool} {dom : Nat → Nat → Prop} {f : α → KasT β} {Q : β → Prop} : ∀ {t : KasT α}, Run c dom t (fun a => Run c dom (f a) Q) → Run c dom (t.bind f) Q
  | .ret _, h => h
  | .ask _ _ _, h => ⟨h.1, Run.bind h.2⟩
theorem Run.mono {α : Type} {c : Nat → Nat → Bool} {dom : Nat → Nat → Prop} {Q Q' : α → Prop} (hq : ∀ a, Q a → Q' a) : ∀ {t : KasT α}, Run c dom t Q → Run c dom t Q'
  | .ret _, h => hq _ h
  | .ask _ _ _, h => ⟨h.1, Run.mono hq h.2⟩
theorem Run.val {α : Type} {c : Nat → Nat → Bool} {dom : Nat → Nat → Prop} {Q : α → Prop} : ∀ {t : KasT α}, Run c dom t Q → Q (Mine.ev c t)
  | .ret _, h => h
  | .ask i j k, h => by
    show Q (Mine.ev c (k (c i j)))
    exact Run.val h.2
theorem Run.kasE {α : Type} {c : Nat → Nat → Bool} {dom : Nat → Nat → Prop} {cmp : Nat → Nat → (Bool → Shared → Prop) → Shared → Prop} {s : Shared} (hc : ∀ i j C, dom i j → C (c i j) s → cmp i j C s) {Q : α → Prop} {G : α → Shared → Prop} :
    ∀ {t : KasT α}, Run c dom t Q → G (Mine.ev c t) s → t.kasWp cmp G s
  | .ret _, h, g => g
  | .ask i j k, h, g => hc i j _ h.1 (Run.kasE hc h.2 g)

section
variable {n : Nat} {κ : Nat → Int}
structure Gd (n : Nat) (p : Array Nat) : Prop where
  perm : p.toList.Perm (List.range n)
theorem Gd.size {p : Array Nat} (g : Gd n p) : p.size = n := by have := g.perm.length_eq; simpa using this
theorem iy {p : Array Nat} {t : Nat} (h : t < p.size) : p.getD t 0 = p[t] := by simp [Array.getD, h]
theorem Gd.lt {p : Array Nat} (g : Gd n p) {t : Nat} (h : t < n) : p.getD t 0 < n := by
  have ht : t < p.size := by rw [g.size]; exact h
  rw [iy ht]
  have : p[t] ∈ List.range n := g.perm.mem_iff.mp (Array.mem_toList_iff.mpr (Array.getElem_mem ht))
  simpa using this
theorem Gd.ne {p : Array Nat} (g : Gd n p) {t u : Nat} (ht : t < n) (hu : u < n) (h : t ≠ u) : p.getD t 0 ≠ p.getD u 0 := by
  have nd : p.toList.Nodup := g.perm.nodup_iff.mpr List.nodup_range
  have ht' : t < p.size := by rw [g.size]; exact ht
  have hu' : u < p.size := by rw [g.size]; exact hu
  rw [iy ht', iy hu']
  intro e
  have hp := List.pairwise_iff_getElem.mp nd
  rcases Nat.lt_or_gt_of_ne h with q | q
  · exact hp t u (by simpa using ht') (by simpa using hu') q (by simpa using e)
  · exact hp u t (by simpa using hu') (by simpa using ht') q (by simpa using e.symm)
noncomputable abbrev Kp (κ : Nat → Int) (p : Array Nat) (t : Nat) : Int := κ (p.getD t 0)
noncomputable def Srt (κ : Nat → Int) (p : Array Nat) (k : Nat) : Prop := ∀ i j, i < j → j < k → Kp κ p i < Kp κ p j
noncomputable def Dsc (κ : Nat → Int) (p : Array Nat) (k : Nat) : Prop := ∀ i j, i < j → j < k → Kp κ p j < Kp κ p i
noncomputable def cOf (κ : Nat → Int) (i j : Nat) : Bool := decide (κ i < κ j)
noncomputable def domOf (n : Nat) (i j : Nat) : Prop := i < n ∧ j < n ∧ i ≠ j
theorem Gd.dom {p : Array Nat} (g : Gd n p) {t u : Nat} (ht : t < n) (hu : u < n) (h : t ≠ u) : domOf n (p.getD t 0) (p.getD u 0) := ⟨g.lt ht, g.lt hu, g.ne ht hu h⟩
theorem Gd.kne (hκ : ∀ i j, i < n → j < n → i ≠ j → κ i ≠ κ j) {p : Array Nat} (g : Gd n p) {t u : Nat} (ht : t < n) (hu : u < n) (h : t ≠ u) : Kp κ p t ≠ Kp κ p u := hκ _ _ (g.lt ht) (g.lt hu) (g.ne ht hu h)
variable (hκ : ∀ i j, i < n → j < n → i ≠ j → κ i ≠ κ j)
include hκ
theorem kE {p : Array Nat} (g : Gd n p) {N : Nat} (hN : N ≤ n) : ∀ (f m : Nat), 1 ≤ m → m + f = N → Srt κ p m → Run (cOf κ) (domOf n) (kas_asc p f m) (fun r => m ≤ r ∧ r ≤ N ∧ Srt κ p r ∧ (r < N → Kp κ p r < Kp κ p (r - 1)))
  | 0, m, h1, h2, hs => ⟨Nat.le_refl _, by exact (Z.q (.im (.neq (.a (.v 0) (.k 0)) (.v 1)) (.nle (.v 0) (.v 1))) [] [_,_]) h2, hs, fun h => by exact (Z.q (.im (.neq (.a (.v 0) (.k 0)) (.v 1)) (.im (.nlt (.v 0) (.v 1)) (.lt (.v 0) (.v 1)))) [_,_] [_,_]) h2 h⟩
  | f + 1, m, h1, h2, hs => by
    refine ⟨g.dom (by exact (Z.q (.im (.nle (.v 0) (.v 1)) (.im (.neq (.a (.v 2) (.a (.v 3) (.k 1))) (.v 0)) (.nlt (.v 2) (.v 1)))) [] [_,_,_,_]) hN h2) (by exact (Z.q (.im (.nle (.v 0) (.v 1)) (.im (.neq (.a (.v 2) (.a (.v 3) (.k 1))) (.v 0)) (.im (.or (.an (.neq (.a (.v 4) (.k 1)) (.v 2)) (.nle (.k 1) (.v 2))) (.an (.neq (.v 4) (.k 0)) (.nle (.v 2) (.k 1)))) (.nlt (.v 4) (.v 1))))) [] [_,_,_,_,_]) hN h2 (Z.sb _ _)) (by exact (Z.q (.im (.nle (.k 1) (.v 0)) (.im (.or (.an (.neq (.a (.v 1) (.k 1)) (.v 0)) (.nle (.k 1) (.v 0))) (.an (.neq (.v 1) (.k 0)) (.nle (.v 0) (.k 1)))) (.no (.neq (.v 0) (.v 1))))) [] [_,_]) h1 (Z.sb _ _)), ?_⟩
    have hne := g.kne hκ (t := m) (u := m - 1) (by exact (Z.q (.im (.nle (.v 0) (.v 1)) (.im (.neq (.a (.v 2) (.a (.v 3) (.k 1))) (.v 0)) (.nlt (.v 2) (.v 1)))) [] [_,_,_,_]) hN h2) (by exact (Z.q (.im (.nle (.v 0) (.v 1)) (.im (.neq (.a (.v 2) (.a (.v 3) (.k 1))) (.v 0)) (.im (.or (.an (.neq (.a (.v 4) (.k 1)) (.v 2)) (.nle (.k 1) (.v 2))) (.an (.neq (.v 4) (.k 0)) (.nle (.v 2) (.k 1)))) (.nlt (.v 4) (.v 1))))) [] [_,_,_,_,_]) hN h2 (Z.sb _ _)) (by exact (Z.q (.im (.nle (.k 1) (.v 0)) (.im (.or (.an (.neq (.a (.v 1) (.k 1)) (.v 0)) (.nle (.k 1) (.v 0))) (.an (.neq (.v 1) (.k 0)) (.nle (.v 0) (.k 1)))) (.no (.neq (.v 0) (.v 1))))) [] [_,_]) h1 (Z.sb _ _))
    by_cases h : Kp κ p m < Kp κ p (m - 1)
    · have hc : cOf κ (p.getD m 0) (p.getD (m - 1) 0) = true := decide_eq_true h
      rw [hc]; dsimp only; rw [if_pos rfl]
      exact ⟨Nat.le_refl _, by exact (Z.q (.im (.neq (.a (.v 0) (.a (.v 1) (.k 1))) (.v 2)) (.nle (.v 0) (.v 2))) [] [_,_,_]) h2, hs, fun _ => h⟩
    · have hc : cOf κ (p.getD m 0) (p.getD (m - 1) 0) = false := decide_eq_false h
      rw [hc]; dsimp only; rw [if_neg (by decide)]
      refine Run.mono (fun r hr => ⟨by exact (Z.q (.im (.nle (.a (.v 0) (.k 1)) (.v 1)) (.nle (.v 0) (.v 1))) [] [_,_]) hr.1, hr.2⟩) (kE g hN f (m + 1) (by exact (Z.q (.nle (.k 1) (.a (.v 0) (.k 1))) [] [_])) (by exact (Z.q (.im (.neq (.a (.v 0) (.a (.v 1) (.k 1))) (.v 2)) (.neq (.a (.a (.v 0) (.k 1)) (.v 1)) (.v 2))) [] [_,_,_]) h2) ?_)
      intro i j hij hj
      by_cases hjm : j = m
      · subst hjm
        by_cases hi : i = j - 1
        · subst hi; exact (Z.q (.im (.no (.eq (.v 0) (.v 1))) (.im (.no (.lt (.v 0) (.v 1))) (.lt (.v 1) (.v 0)))) [_,_] []) hne h
        · have := hs i (j - 1) (by exact (Z.q (.im (.nlt (.v 0) (.v 1)) (.im (.no (.neq (.v 0) (.v 2))) (.im (.or (.an (.neq (.a (.v 2) (.k 1)) (.v 1)) (.nle (.k 1) (.v 1))) (.an (.neq (.v 2) (.k 0)) (.nle (.v 1) (.k 1)))) (.nlt (.v 0) (.v 2))))) [] [_,_,_]) hij hi (Z.sb _ _)) (by exact (Z.q (.im (.nle (.k 1) (.v 0)) (.im (.or (.an (.neq (.a (.v 1) (.k 1)) (.v 0)) (.nle (.k 1) (.v 0))) (.an (.neq (.v 1) (.k 0)) (.nle (.v 0) (.k 1)))) (.nlt (.v 1) (.v 0)))) [] [_,_]) h1 (Z.sb _ _)); exact (Z.q (.im (.no (.lt (.v 0) (.v 1))) (.im (.lt (.v 2) (.v 1)) (.lt (.v 2) (.v 0)))) [_,_,_] []) h this
      · exact hs i j hij (by exact (Z.q (.im (.nlt (.v 0) (.a (.v 1) (.k 1))) (.im (.no (.neq (.v 0) (.v 1))) (.nlt (.v 0) (.v 1)))) [] [_,_]) hj hjm)
theorem lG {p : Array Nat} (g : Gd n p) {N : Nat} (hN : N ≤ n) : ∀ (f m : Nat), 1 ≤ m → m + f = N → Dsc κ p m → Run (cOf κ) (domOf n) (kas_desc f p m 0) (fun r => r.1 = p ∧ r.2.2 = 0 ∧ m ≤ r.2.1 ∧ r.2.1 ≤ N ∧ Dsc κ p r.2.1)
  | 0, m, h1, h2, hs => ⟨rfl, rfl, Nat.le_refl _, by show m ≤ N; exact (Z.q (.im (.neq (.a (.v 0) (.k 0)) (.v 1)) (.nle (.v 0) (.v 1))) [] [_,_]) h2, hs⟩
  | f + 1, m, h1, h2, hs => by
    refine ⟨g.dom (by exact (Z.q (.im (.nle (.v 0) (.v 1)) (.im (.neq (.a (.v 2) (.a (.v 3) (.k 1))) (.v 0)) (.nlt (.v 2) (.v 1)))) [] [_,_,_,_]) hN h2) (by exact (Z.q (.im (.nle (.v 0) (.v 1)) (.im (.neq (.a (.v 2) (.a (.v 3) (.k 1))) (.v 0)) (.im (.or (.an (.neq (.a (.v 4) (.k 1)) (.v 2)) (.nle (.k 1) (.v 2))) (.an (.neq (.v 4) (.k 0)) (.nle (.v 2) (.k 1)))) (.nlt (.v 4) (.v 1))))) [] [_,_,_,_,_]) hN h2 (Z.sb _ _)) (by exact (Z.q (.im (.nle (.k 1) (.v 0)) (.im (.or (.an (.neq (.a (.v 1) (.k 1)) (.v 0)) (.nle (.k 1) (.v 0))) (.an (.neq (.v 1) (.k 0)) (.nle (.v 0) (.k 1)))) (.no (.neq (.v 0) (.v 1))))) [] [_,_]) h1 (Z.sb _ _)), ?_⟩
    have hne := g.kne hκ (t := m) (u := m - 1) (by exact (Z.q (.im (.nle (.v 0) (.v 1)) (.im (.neq (.a (.v 2) (.a (.v 3) (.k 1))) (.v 0)) (.nlt (.v 2) (.v 1)))) [] [_,_,_,_]) hN h2) (by exact (Z.q (.im (.nle (.v 0) (.v 1)) (.im (.neq (.a (.v 2) (.a (.v 3) (.k 1))) (.v 0)) (.im (.or (.an (.neq (.a (.v 4) (.k 1)) (.v 2)) (.nle (.k 1) (.v 2))) (.an (.neq (.v 4) (.k 0)) (.nle (.v 2) (.k 1)))) (.nlt (.v 4) (.v 1))))) [] [_,_,_,_,_]) hN h2 (Z.sb _ _)) (by exact (Z.q (.im (.nle (.k 1) (.v 0)) (.im (.or (.an (.neq (.a (.v 1) (.k 1)) (.v 0)) (.nle (.k 1) (.v 0))) (.an (.neq (.v 1) (.k 0)) (.nle (.v 0) (.k 1)))) (.no (.neq (.v 0) (.v 1))))) [] [_,_]) h1 (Z.sb _ _))
    by_cases h : Kp κ p m < Kp κ p (m - 1)
    · have hc : cOf κ (p.getD m 0) (p.getD (m - 1) 0) = true := decide_eq_true h
      rw [hc]; dsimp only; rw [if_pos rfl, if_neg (by decide)]
      refine Run.mono (fun r hr => ⟨hr.1, hr.2.1, by exact (Z.q (.im (.nle (.a (.v 0) (.k 1)) (.v 1)) (.nle (.v 0) (.v 1))) [] [_,_]) hr.2.2.1, hr.2.2.2⟩) (lG g hN f (m + 1) (by exact (Z.q (.nle (.k 1) (.a (.v 0) (.k 1))) [] [_])) (by exact (Z.q (.im (.neq (.a (.v 0) (.a (.v 1) (.k 1))) (.v 2)) (.neq (.a (.a (.v 0) (.k 1)) (.v 1)) (.v 2))) [] [_,_,_]) h2) ?_)
      intro i j hij hj
      by_cases hjm : j = m
      · subst hjm
        by_cases hi : i = j - 1
        · subst hi; exact (Z.q (.im (.lt (.v 0) (.v 1)) (.lt (.v 0) (.v 1))) [_,_] []) h
        · have := hs i (j - 1) (by exact (Z.q (.im (.nlt (.v 0) (.v 1)) (.im (.no (.neq (.v 0) (.v 2))) (.im (.or (.an (.neq (.a (.v 2) (.k 1)) (.v 1)) (.nle (.k 1) (.v 1))) (.an (.neq (.v 2) (.k 0)) (.nle (.v 1) (.k 1)))) (.nlt (.v 0) (.v 2))))) [] [_,_,_]) hij hi (Z.sb _ _)) (by exact (Z.q (.im (.nle (.k 1) (.v 0)) (.im (.or (.an (.neq (.a (.v 1) (.k 1)) (.v 0)) (.nle (.k 1) (.v 0))) (.an (.neq (.v 1) (.k 0)) (.nle (.v 0) (.k 1)))) (.nlt (.v 1) (.v 0)))) [] [_,_]) h1 (Z.sb _ _)); exact (Z.q (.im (.lt (.v 0) (.v 1)) (.im (.lt (.v 1) (.v 2)) (.lt (.v 0) (.v 2)))) [_,_,_] []) h this
      · exact hs i j hij (by exact (Z.q (.im (.nlt (.v 0) (.a (.v 1) (.k 1))) (.im (.no (.neq (.v 0) (.v 1))) (.nlt (.v 0) (.v 1)))) [] [_,_]) hj hjm)
    · have hc : cOf κ (p.getD m 0) (p.getD (m - 1) 0) = false := decide_eq_false h
      rw [hc]; dsimp only; rw [if_neg (by decide)]
      refine ⟨g.dom (by exact (Z.q (.im (.nle (.v 0) (.v 1)) (.im (.neq (.a (.v 2) (.a (.v 3) (.k 1))) (.v 0)) (.im (.or (.an (.neq (.a (.v 4) (.k 1)) (.v 2)) (.nle (.k 1) (.v 2))) (.an (.neq (.v 4) (.k 0)) (.nle (.v 2) (.k 1)))) (.nlt (.v 4) (.v 1))))) [] [_,_,_,_,_]) hN h2 (Z.sb _ _)) (by exact (Z.q (.im (.nle (.v 0) (.v 1)) (.im (.neq (.a (.v 2) (.a (.v 3) (.k 1))) (.v 0)) (.nlt (.v 2) (.v 1)))) [] [_,_,_,_]) hN h2) (by exact (Z.q (.im (.nle (.k 1) (.v 0)) (.im (.or (.an (.neq (.a (.v 1) (.k 1)) (.v 0)) (.nle (.k 1) (.v 0))) (.an (.neq (.v 1) (.k 0)) (.nle (.v 0) (.k 1)))) (.no (.neq (.v 1) (.v 0))))) [] [_,_]) h1 (Z.sb _ _)), ?_⟩
      have hd : cOf κ (p.getD (m - 1) 0) (p.getD m 0) = true := decide_eq_true (by show Kp κ p (m - 1) < Kp κ p m; exact (Z.q (.im (.no (.eq (.v 0) (.v 1))) (.im (.no (.lt (.v 0) (.v 1))) (.lt (.v 1) (.v 0)))) [_,_] []) hne h)
      rw [hd]; dsimp only; rw [if_pos rfl]
      exact ⟨rfl, rfl, Nat.le_refl _, by show m ≤ N; exact (Z.q (.im (.neq (.a (.v 0) (.a (.v 1) (.k 1))) (.v 2)) (.nle (.v 0) (.v 2))) [] [_,_,_]) h2, hs⟩
omit hκ in
theorem Gd.rev {p : Array Nat} (g : Gd n p) (i j : Nat) : Gd n (kas_rev p i j) := ⟨(Array.Perm.toList (mirror_perm p i j _)).trans g.perm⟩
omit hκ in
theorem jB {p q : Array Nat} {t u : Nat} (h : p[t]? = q[u]?) : p.getD t 0 = q.getD u 0 := by
  simp [Array.getD_eq_getD_getElem?, h]
omit hκ in
theorem m7 {p : Array Nat} (g : Gd n p) {m : Nat} (hm : m ≤ n) (h : Dsc κ p m) : Srt κ (kas_rev p 0 m) m := by
  intro i j hij hj
  have e : ∀ t, t < m → Kp κ (kas_rev p 0 m) t = Kp κ p (m - 1 - t) := fun t ht => by
    unfold Kp kas_rev
    rw [jB (getElem?_mirror_all (i := 0) (j := m) (by rw [g.size]; exact hm) t |>.trans (if_pos ⟨Nat.zero_le _, ht⟩))]
    rw [Nat.zero_add]
  rw [e i (by exact (Z.q (.im (.nlt (.v 0) (.v 1)) (.im (.nlt (.v 1) (.v 2)) (.nlt (.v 0) (.v 2)))) [] [_,_,_]) hij hj), e j hj]
  exact h _ _ (by exact (Z.q (.im (.nlt (.v 0) (.v 1)) (.im (.nlt (.v 1) (.v 2)) (.im (.or (.an (.neq (.a (.v 3) (.v 1)) (.v 4)) (.nle (.v 1) (.v 4))) (.an (.neq (.v 3) (.k 0)) (.nle (.v 4) (.v 1)))) (.im (.or (.an (.neq (.a (.v 5) (.v 0)) (.v 4)) (.nle (.v 0) (.v 4))) (.an (.neq (.v 5) (.k 0)) (.nle (.v 4) (.v 0)))) (.im (.or (.an (.neq (.a (.v 4) (.k 1)) (.v 2)) (.nle (.k 1) (.v 2))) (.an (.neq (.v 4) (.k 0)) (.nle (.v 2) (.k 1)))) (.nlt (.v 3) (.v 5))))))) [] [_,_,_,_,_,_]) hij hj (Z.sb _ _) (Z.sb _ _) (Z.sb _ _)) (by exact (Z.q (.im (.nlt (.v 0) (.v 1)) (.im (.or (.an (.neq (.a (.v 2) (.v 3)) (.v 4)) (.nle (.v 3) (.v 4))) (.an (.neq (.v 2) (.k 0)) (.nle (.v 4) (.v 3)))) (.im (.or (.an (.neq (.a (.v 4) (.k 1)) (.v 1)) (.nle (.k 1) (.v 1))) (.an (.neq (.v 4) (.k 0)) (.nle (.v 1) (.k 1)))) (.nlt (.v 2) (.v 1))))) [] [_,_,_,_,_]) hj (Z.sb _ _) (Z.sb _ _))
theorem nC (h2 : 2 ≤ n) {p : Array Nat} (g : Gd n p) : Run (cOf κ) (domOf n) (kas_count n p) (fun r => 1 ≤ r.1 ∧ r.1 ≤ n ∧ Gd n r.2 ∧ Srt κ r.2 r.1) := by
  unfold kas_count
  refine Run.bind (Run.mono (fun m hm => ?_) (kE hκ g (Nat.le_refl n) (n - 1) 1 (Nat.le_refl _) (by exact (Z.q (.im (.nle (.k 2) (.v 0)) (.im (.or (.an (.neq (.a (.v 1) (.k 1)) (.v 0)) (.nle (.k 1) (.v 0))) (.an (.neq (.v 1) (.k 0)) (.nle (.v 0) (.k 1)))) (.neq (.a (.k 1) (.v 1)) (.v 0)))) [] [_,_]) h2 (Z.sb _ _)) fun i j hij hj => by exact (Z.q (.im (.nlt (.v 0) (.v 1)) (.im (.nlt (.v 1) (.k 1)) (.lt (.v 0) (.v 1)))) [_,_] [_,_]) hij hj))
  obtain ⟨h1, h3, hs, hlt⟩ := hm
  by_cases hn : m = n
  · rw [if_pos (by simpa using hn)]
    exact ⟨h1, by exact (Z.q (.im (.neq (.v 0) (.v 1)) (.nle (.v 0) (.v 1))) [] [_,_]) hn, g, hs⟩
  · rw [if_neg (by simpa using hn)]
    by_cases hm1 : m > 1
    · rw [if_pos hm1]
      refine ⟨g.dom (by exact (Z.q (.im (.nle (.k 2) (.v 0)) (.nlt (.k 0) (.v 0))) [] [_]) h2) (by exact (Z.q (.im (.nle (.v 0) (.v 1)) (.im (.nlt (.k 1) (.v 0)) (.im (.or (.an (.neq (.a (.v 2) (.k 1)) (.v 0)) (.nle (.k 1) (.v 0))) (.an (.neq (.v 2) (.k 0)) (.nle (.v 0) (.k 1)))) (.nlt (.v 2) (.v 1))))) [] [_,_,_]) h3 hm1 (Z.sb _ _)) (by exact (Z.q (.im (.nlt (.k 1) (.v 0)) (.im (.or (.an (.neq (.a (.v 1) (.k 1)) (.v 0)) (.nle (.k 1) (.v 0))) (.an (.neq (.v 1) (.k 0)) (.nle (.v 0) (.k 1)))) (.no (.neq (.k 0) (.v 1))))) [] [_,_]) hm1 (Z.sb _ _)), ?_⟩
      have hc : cOf κ (p.getD 0 0) (p.getD (m - 1) 0) = true := decide_eq_true (hs 0 (m - 1) (by exact (Z.q (.im (.nlt (.k 1) (.v 0)) (.im (.or (.an (.neq (.a (.v 1) (.k 1)) (.v 0)) (.nle (.k 1) (.v 0))) (.an (.neq (.v 1) (.k 0)) (.nle (.v 0) (.k 1)))) (.nlt (.k 0) (.v 1)))) [] [_,_]) hm1 (Z.sb _ _)) (by exact (Z.q (.im (.nlt (.k 1) (.v 0)) (.im (.or (.an (.neq (.a (.v 1) (.k 1)) (.v 0)) (.nle (.k 1) (.v 0))) (.an (.neq (.v 1) (.k 0)) (.nle (.v 0) (.k 1)))) (.nlt (.v 1) (.v 0)))) [] [_,_]) hm1 (Z.sb _ _)))
      rw [hc]; dsimp only; rw [if_pos rfl]
      exact ⟨h1, h3, g, hs⟩
    · rw [if_neg hm1]
      have : m = 1 := by exact (Z.q (.im (.nle (.k 1) (.v 0)) (.im (.no (.nlt (.k 1) (.v 0))) (.neq (.v 0) (.k 1)))) [] [_]) h1 hm1
      subst this
      unfold kas_descPart
      refine Run.bind (Run.mono (fun r hr => ?_) (lG hκ g (Nat.le_refl n) (n - (1 + 1)) (1 + 1) (by decide) (by exact (Z.q (.im (.nle (.k 2) (.v 0)) (.im (.or (.an (.neq (.a (.v 1) (.a (.k 1) (.k 1))) (.v 0)) (.nle (.a (.k 1) (.k 1)) (.v 0))) (.an (.neq (.v 1) (.k 0)) (.nle (.v 0) (.a (.k 1) (.k 1))))) (.neq (.a (.a (.k 1) (.k 1)) (.v 1)) (.v 0)))) [] [_,_]) h2 (Z.sb _ _)) ?_))
      · obtain ⟨e1, e2, e3, e4, e5⟩ := hr
        rw [e2, if_neg (by decide), e1]
        unfold kas_tail3
        refine Run.bind (Run.mono (fun m hm => ?_) (kE hκ (g.rev 0 r.2.1) (Nat.le_refl n) (n - r.2.1) r.2.1 (by exact (Z.q (.im (.nle (.a (.k 1) (.k 1)) (.v 0)) (.nle (.k 1) (.v 0))) [] [_]) e3) (by exact (Z.q (.im (.nle (.v 0) (.v 1)) (.im (.or (.an (.neq (.a (.v 2) (.v 0)) (.v 1)) (.nle (.v 0) (.v 1))) (.an (.neq (.v 2) (.k 0)) (.nle (.v 1) (.v 0)))) (.neq (.a (.v 0) (.v 2)) (.v 1)))) [] [_,_,_]) e4 (Z.sb _ _)) (m7 g e4 e5)))
        exact ⟨by exact (Z.q (.im (.nle (.a (.k 1) (.k 1)) (.v 0)) (.im (.nle (.v 0) (.v 1)) (.nle (.k 1) (.v 1)))) [] [_,_]) e3 hm.1, hm.2.1, g.rev _ _, hm.2.2.1⟩
      · intro i j hij hj
        have : i = 0 := by exact (Z.q (.im (.nlt (.v 0) (.v 1)) (.im (.nlt (.v 1) (.a (.k 1) (.k 1))) (.neq (.v 0) (.k 0)))) [] [_,_]) hij hj
        have : j = 1 := by exact (Z.q (.im (.nlt (.v 0) (.v 1)) (.im (.nlt (.v 1) (.a (.k 1) (.k 1))) (.neq (.v 1) (.k 1)))) [] [_,_]) hij hj
        subst_vars
        exact hlt (by exact (Z.q (.im (.nle (.k 2) (.v 0)) (.nlt (.k 1) (.v 0))) [] [_]) h2)
theorem ia {p : Array Nat} (g : Gd n p) {k : Nat} (hk : k < n) (hs : Srt κ p k) : ∀ (f l r : Nat), r - l ≤ f → l ≤ r → r ≤ k → (∀ t, t < l → Kp κ p t < Kp κ p k) → (∀ t, r ≤ t → t < k → Kp κ p k < Kp κ p t) →
    Run (cOf κ) (domOf n) (kas_place p k f l r) (fun x => x ≤ k ∧ (∀ t, t < x → Kp κ p t < Kp κ p k) ∧ ∀ t, x ≤ t → t < k → Kp κ p k < Kp κ p t)
  | 0, l, r, hf, hlr, hrk, h1, h2 => ⟨by exact (Z.q (.im (.nle (.v 0) (.v 1)) (.im (.nle (.v 1) (.v 2)) (.nle (.v 0) (.v 2)))) [] [_,_,_]) hlr hrk, h1, fun t a b => h2 t (by exact (Z.q (.im (.nle (.v 0) (.k 0)) (.im (.nle (.v 1) (.v 2)) (.im (.or (.an (.neq (.a (.v 0) (.v 1)) (.v 3)) (.nle (.v 1) (.v 3))) (.an (.neq (.v 0) (.k 0)) (.nle (.v 3) (.v 1)))) (.nle (.v 3) (.v 2))))) [] [_,_,_,_]) hf a (Z.sb _ _)) b⟩
  | f + 1, l, r, hf, hlr, hrk, h1, h2 => by
    unfold kas_place
    by_cases h : l ≥ r
    · rw [if_pos h]
      exact ⟨by exact (Z.q (.im (.nle (.v 0) (.v 1)) (.im (.nle (.v 1) (.v 2)) (.nle (.v 0) (.v 2)))) [] [_,_,_]) hlr hrk, h1, fun t a b => h2 t (by exact (Z.q (.im (.nle (.v 1) (.v 0)) (.im (.nle (.v 0) (.v 2)) (.nle (.v 1) (.v 2)))) [] [_,_,_]) h a) b⟩
    · rw [if_neg h]
      refine ⟨g.dom hk (by exact (Z.q (.im (.nlt (.v 0) (.v 1)) (.im (.nle (.v 2) (.v 0)) (.im (.no (.nle (.v 2) (.v 3))) (.im (.an (.neq (.a (.m 2 (.v 4)) (.v 5)) (.a (.v 3) (.v 2))) (.nlt (.v 5) (.k 2))) (.nlt (.v 4) (.v 1)))))) [] [_,_,_,_,_,_]) hk hrk h (Z.dn _ (k := 2) (by decide))) (by exact (Z.q (.im (.nle (.v 0) (.v 1)) (.im (.no (.nle (.v 0) (.v 2))) (.im (.an (.neq (.a (.m 2 (.v 3)) (.v 4)) (.a (.v 2) (.v 0))) (.nlt (.v 4) (.k 2))) (.no (.neq (.v 1) (.v 3)))))) [] [_,_,_,_,_]) hrk h (Z.dn _ (k := 2) (by decide))), ?_⟩
      have hne := g.kne hκ (t := k) (u := (l + r) / 2) hk (by exact (Z.q (.im (.nlt (.v 0) (.v 1)) (.im (.nle (.v 2) (.v 0)) (.im (.no (.nle (.v 2) (.v 3))) (.im (.an (.neq (.a (.m 2 (.v 4)) (.v 5)) (.a (.v 3) (.v 2))) (.nlt (.v 5) (.k 2))) (.nlt (.v 4) (.v 1)))))) [] [_,_,_,_,_,_]) hk hrk h (Z.dn _ (k := 2) (by decide))) (by exact (Z.q (.im (.nle (.v 0) (.v 1)) (.im (.no (.nle (.v 0) (.v 2))) (.im (.an (.neq (.a (.m 2 (.v 3)) (.v 4)) (.a (.v 2) (.v 0))) (.nlt (.v 4) (.k 2))) (.no (.neq (.v 1) (.v 3)))))) [] [_,_,_,_,_]) hrk h (Z.dn _ (k := 2) (by decide)))
      by_cases hc : Kp κ p k < Kp κ p ((l + r) / 2)
      · have hc' : cOf κ (p.getD k 0) (p.getD ((l + r) / 2) 0) = true := decide_eq_true hc
        rw [hc']; dsimp only; rw [if_pos rfl]
        refine ia g hk hs f l ((l + r) / 2) (half1 hf h) (by exact (Z.q (.im (.no (.nle (.v 1) (.v 0))) (.im (.an (.neq (.a (.m 2 (.v 2)) (.v 3)) (.a (.v 0) (.v 1))) (.nlt (.v 3) (.k 2))) (.nle (.v 0) (.v 2)))) [] [_,_,_,_]) h (Z.dn _ (k := 2) (by decide))) (by exact (Z.q (.im (.nle (.v 0) (.v 1)) (.im (.no (.nle (.v 0) (.v 2))) (.im (.an (.neq (.a (.m 2 (.v 3)) (.v 4)) (.a (.v 2) (.v 0))) (.nlt (.v 4) (.k 2))) (.nle (.v 3) (.v 1))))) [] [_,_,_,_,_]) hrk h (Z.dn _ (k := 2) (by decide))) h1 fun t a b => ?_
        by_cases q : t = (l + r) / 2
        · subst q; exact hc
        · have := hs ((l + r) / 2) t (by exact (Z.q (.im (.nle (.v 0) (.v 1)) (.im (.no (.neq (.v 1) (.v 0))) (.nlt (.v 0) (.v 1)))) [] [_,_]) a q) b; exact (Z.q (.im (.lt (.v 0) (.v 1)) (.im (.lt (.v 1) (.v 2)) (.lt (.v 0) (.v 2)))) [_,_,_] []) hc this
      · have hc' : cOf κ (p.getD k 0) (p.getD ((l + r) / 2) 0) = false := decide_eq_false hc
        rw [hc']; dsimp only; rw [if_neg (by decide)]
        refine ia g hk hs f ((l + r) / 2 + 1) r (half2 hf) (by exact (Z.q (.im (.no (.nle (.v 1) (.v 0))) (.im (.an (.neq (.a (.m 2 (.v 2)) (.v 3)) (.a (.v 0) (.v 1))) (.nlt (.v 3) (.k 2))) (.nle (.a (.v 2) (.k 1)) (.v 1)))) [] [_,_,_,_]) h (Z.dn _ (k := 2) (by decide))) hrk (fun t a => ?_) h2
        by_cases q : t = (l + r) / 2
        · subst q; exact (Z.q (.im (.no (.eq (.v 0) (.v 1))) (.im (.no (.lt (.v 0) (.v 1))) (.lt (.v 1) (.v 0)))) [_,_] []) hne hc
        · have := hs t ((l + r) / 2) (by exact (Z.q (.im (.nlt (.v 0) (.a (.v 1) (.k 1))) (.im (.no (.neq (.v 0) (.v 1))) (.nlt (.v 0) (.v 1)))) [] [_,_]) a q) (by exact (Z.q (.im (.nle (.v 0) (.v 1)) (.im (.no (.nle (.v 0) (.v 2))) (.im (.an (.neq (.a (.m 2 (.v 3)) (.v 4)) (.a (.v 2) (.v 0))) (.nlt (.v 4) (.k 2))) (.nlt (.v 3) (.v 1))))) [] [_,_,_,_,_]) hrk h (Z.dn _ (k := 2) (by decide))); exact (Z.q (.im (.no (.lt (.v 0) (.v 1))) (.im (.lt (.v 2) (.v 1)) (.lt (.v 2) (.v 0)))) [_,_,_] []) hc this
theorem mQ : ∀ (f k : Nat) (p : Array Nat), Gd n p → k + f = n → 1 ≤ k → Srt κ p k → Run (cOf κ) (domOf n) (kas_bin f p k) (fun q => Gd n q ∧ Srt κ q n)
  | 0, k, p, g, hk, h1, hs => ⟨g, by have : k = n := by exact (Z.q (.im (.neq (.a (.v 0) (.k 0)) (.v 1)) (.neq (.v 0) (.v 1))) [] [_,_]) hk
                                     rw [← this]; exact hs⟩
  | f + 1, k, p, g, hk, h1, hs => by
    unfold kas_bin
    refine Run.bind (Run.mono (fun l hl => ?_) (ia hκ g (k := k) (by exact (Z.q (.im (.neq (.a (.v 0) (.a (.v 1) (.k 1))) (.v 2)) (.nlt (.v 0) (.v 2))) [] [_,_,_]) hk) hs k 0 k (by exact (Z.q (.im (.or (.an (.neq (.a (.v 0) (.k 0)) (.v 1)) (.nle (.k 0) (.v 1))) (.an (.neq (.v 0) (.k 0)) (.nle (.v 1) (.k 0)))) (.nle (.v 0) (.v 1))) [] [_,_]) (Z.sb _ _)) (by exact (Z.q (.nle (.k 0) (.v 0)) [] [_])) (Nat.le_refl _) (fun t h => by exact (Z.q (.im (.nlt (.v 0) (.k 0)) (.lt (.v 0) (.v 1))) [_,_] [_]) h) (fun t a b => by exact (Z.q (.im (.nle (.v 0) (.v 1)) (.im (.nlt (.v 1) (.v 0)) (.lt (.v 0) (.v 1)))) [_,_] [_,_]) a b)))
    obtain ⟨hlk, a1, a2⟩ := hl
    have g' : Gd n (bubble p k (k - l)) := ⟨(Array.Perm.toList (bubble_perm p k _)).trans g.perm⟩
    refine mQ f (k + 1) _ g' (by exact (Z.q (.im (.neq (.a (.v 0) (.a (.v 1) (.k 1))) (.v 2)) (.neq (.a (.a (.v 0) (.k 1)) (.v 1)) (.v 2))) [] [_,_,_]) hk) (by exact (Z.q (.nle (.k 1) (.a (.v 0) (.k 1))) [] [_])) ?_
    have e : ∀ t, Kp κ (bubble p k (k - l)) t = if t = l then Kp κ p k else if l < t ∧ t ≤ k then Kp κ p (t - 1) else Kp κ p t := fun t => by
      have := getElem?_bubble (xs := p) (src := k) (by rw [g.size]; exact (Z.q (.im (.neq (.a (.v 0) (.a (.v 1) (.k 1))) (.v 2)) (.nlt (.v 0) (.v 2))) [] [_,_,_]) hk) (k - l) (by exact (Z.q (.im (.or (.an (.neq (.a (.v 0) (.v 1)) (.v 2)) (.nle (.v 1) (.v 2))) (.an (.neq (.v 0) (.k 0)) (.nle (.v 2) (.v 1)))) (.nle (.v 0) (.v 2))) [] [_,_,_]) (Z.sb _ _)) t
      rw [show k - (k - l) = l by exact (Z.q (.im (.nle (.v 0) (.v 1)) (.im (.or (.an (.neq (.a (.v 2) (.v 3)) (.v 1)) (.nle (.v 3) (.v 1))) (.an (.neq (.v 2) (.k 0)) (.nle (.v 1) (.v 3)))) (.im (.or (.an (.neq (.a (.v 3) (.v 0)) (.v 1)) (.nle (.v 0) (.v 1))) (.an (.neq (.v 3) (.k 0)) (.nle (.v 1) (.v 0)))) (.neq (.v 2) (.v 0))))) [] [_,_,_,_]) hlk (Z.sb _ _) (Z.sb _ _)] at this
      unfold Kp
      split at this
      · rename_i h; rw [if_pos h, jB this]
      · rename_i h
        split at this
        · rename_i h3; rw [if_neg h, if_pos h3, jB this]
        · rename_i h3; rw [if_neg h, if_neg h3, jB this]
    intro i j hij hj
    rw [e i, e j]
    split
    · rw [if_neg (by exact (Z.q (.im (.nlt (.v 0) (.v 1)) (.im (.neq (.v 0) (.v 2)) (.no (.neq (.v 1) (.v 2))))) [] [_,_,_]) hij (by assumption)), if_pos (by exact (Z.q (.im (.nlt (.v 0) (.v 1)) (.im (.nlt (.v 1) (.a (.v 2) (.k 1))) (.im (.neq (.v 0) (.v 3)) (.an (.nlt (.v 3) (.v 1)) (.nle (.v 1) (.v 2)))))) [] [_,_,_,_]) hij hj (by assumption))]
      exact a2 _ (by exact (Z.q (.im (.nlt (.v 0) (.v 1)) (.im (.neq (.v 0) (.v 2)) (.im (.or (.an (.neq (.a (.v 3) (.k 1)) (.v 1)) (.nle (.k 1) (.v 1))) (.an (.neq (.v 3) (.k 0)) (.nle (.v 1) (.k 1)))) (.nle (.v 2) (.v 3))))) [] [_,_,_,_]) hij (by assumption) (Z.sb _ _)) (by exact (Z.q (.im (.nlt (.v 0) (.v 1)) (.im (.nlt (.v 1) (.a (.v 2) (.k 1))) (.im (.or (.an (.neq (.a (.v 3) (.k 1)) (.v 1)) (.nle (.k 1) (.v 1))) (.an (.neq (.v 3) (.k 0)) (.nle (.v 1) (.k 1)))) (.nlt (.v 3) (.v 2))))) [] [_,_,_,_]) hij hj (Z.sb _ _))
    · split
      · rw [if_neg (by exact (Z.q (.im (.nlt (.v 0) (.v 1)) (.im (.an (.nlt (.v 2) (.v 0)) (.nle (.v 0) (.v 3))) (.no (.neq (.v 1) (.v 2))))) [] [_,_,_,_]) hij (by assumption)), if_pos (by exact (Z.q (.im (.nlt (.v 0) (.v 1)) (.im (.nlt (.v 1) (.a (.v 2) (.k 1))) (.im (.an (.nlt (.v 3) (.v 0)) (.nle (.v 0) (.v 2))) (.an (.nlt (.v 3) (.v 1)) (.nle (.v 1) (.v 2)))))) [] [_,_,_,_]) hij hj (by assumption))]
        exact hs _ _ (by exact (Z.q (.im (.nlt (.v 0) (.v 1)) (.im (.an (.nlt (.v 2) (.v 0)) (.nle (.v 0) (.v 3))) (.im (.or (.an (.neq (.a (.v 4) (.k 1)) (.v 0)) (.nle (.k 1) (.v 0))) (.an (.neq (.v 4) (.k 0)) (.nle (.v 0) (.k 1)))) (.im (.or (.an (.neq (.a (.v 5) (.k 1)) (.v 1)) (.nle (.k 1) (.v 1))) (.an (.neq (.v 5) (.k 0)) (.nle (.v 1) (.k 1)))) (.nlt (.v 4) (.v 5)))))) [] [_,_,_,_,_,_]) hij (by assumption) (Z.sb _ _) (Z.sb _ _)) (by exact (Z.q (.im (.nlt (.v 0) (.v 1)) (.im (.nlt (.v 1) (.a (.v 2) (.k 1))) (.im (.or (.an (.neq (.a (.v 3) (.k 1)) (.v 1)) (.nle (.k 1) (.v 1))) (.an (.neq (.v 3) (.k 0)) (.nle (.v 1) (.k 1)))) (.nlt (.v 3) (.v 2))))) [] [_,_,_,_]) hij hj (Z.sb _ _))
      · split
        · exact a1 _ (by exact (Z.q (.im (.nlt (.v 0) (.v 1)) (.im (.neq (.v 1) (.v 2)) (.nlt (.v 0) (.v 2)))) [] [_,_,_]) hij (by assumption))
        · split
          · rename_i q1 q2 q3 q4
            by_cases q : i = j - 1
            · (first|lia|omega)
            · exact hs _ _ (by exact (Z.q (.im (.nlt (.v 0) (.v 1)) (.im (.no (.neq (.v 0) (.v 2))) (.im (.or (.an (.neq (.a (.v 2) (.k 1)) (.v 1)) (.nle (.k 1) (.v 1))) (.an (.neq (.v 2) (.k 0)) (.nle (.v 1) (.k 1)))) (.nlt (.v 0) (.v 2))))) [] [_,_,_]) hij q (Z.sb _ _)) (by exact (Z.q (.im (.nlt (.v 0) (.v 1)) (.im (.nlt (.v 1) (.a (.v 2) (.k 1))) (.im (.or (.an (.neq (.a (.v 3) (.k 1)) (.v 1)) (.nle (.k 1) (.v 1))) (.an (.neq (.v 3) (.k 0)) (.nle (.v 1) (.k 1)))) (.nlt (.v 3) (.v 2))))) [] [_,_,_,_]) hij hj (Z.sb _ _))
          · exact hs _ _ (by exact (Z.q (.im (.nlt (.v 0) (.v 1)) (.nlt (.v 0) (.v 1))) [] [_,_]) hij) (by exact (Z.q (.im (.nle (.v 0) (.v 1)) (.im (.nlt (.v 2) (.a (.v 1) (.k 1))) (.im (.no (.neq (.v 2) (.v 0))) (.im (.no (.an (.nlt (.v 0) (.v 2)) (.nle (.v 2) (.v 1)))) (.nlt (.v 2) (.v 1)))))) [] [_,_,_]) hlk hj (by assumption) (by assumption))
theorem lU (h2 : 2 ≤ n) : Run (cOf κ) (domOf n) (kas_sort n) (fun q => Gd n q ∧ Srt κ q n) := by
  unfold kas_sort
  have g : Gd n (List.toArray (List.range n)) := ⟨by simp⟩
  refine Run.bind (Run.mono (fun r hr => ?_) (nC hκ h2 g))
  obtain ⟨h1, h3, g', hs⟩ := hr
  by_cases h : r.1 < n
  · rw [if_pos h]
    rw [Nat.max_eq_left h1]
    exact mQ hκ (n - r.1) r.1 r.2 g' (by exact (Z.q (.im (.nlt (.v 0) (.v 1)) (.im (.or (.an (.neq (.a (.v 2) (.v 0)) (.v 1)) (.nle (.v 0) (.v 1))) (.an (.neq (.v 2) (.k 0)) (.nle (.v 1) (.v 0)))) (.neq (.a (.v 0) (.v 2)) (.v 1)))) [] [_,_,_]) h (Z.sb _ _)) h1 hs
  · rw [if_neg h]
    have : r.1 = n := by exact (Z.q (.im (.nle (.v 0) (.v 1)) (.im (.no (.nlt (.v 0) (.v 1))) (.neq (.v 0) (.v 1)))) [] [_,_]) h3 h
    exact ⟨g', by rw [← this]; exact hs⟩
end
end Mine

end
section
open PySem PySem.W PySem.Calls PyProof.Rows
open Sem (wp)
namespace Mine
variable {cx : Cx} {sc : Scope} {n : Nat}

noncomputable def keyOf : MV → Option Int
  | .tup (.int a :: _) => some a
  | _ => none
noncomputable def keyD (x : MV) : Int := (keyOf x).getD 0
noncomputable def SortOk (xs : List MV) : Prop := xs.length < 64 ∧ (∀ x ∈ xs, (keyOf x).isSome = true) ∧ ∀ i j, i < xs.length → j < xs.length → i ≠ j → keyD (xs.getD i .none) ≠ keyD (xs.getD j .none)
noncomputable def sortM (xs : List MV) : List MV := if xs.length < 2 then xs else (ev (cOf fun i => keyD (xs.getD i .none)) (kas_sort xs.length)).toList.map fun i => xs.getD i .none
open Classical in
noncomputable def cSorted : FF := fun args σ => match args with
  | [.ref k] => (match σ[k]? with | some (.list xs) => if SortOk xs then some (.ref σ.length, σ ++ [.list (sortM xs)]) else none | _ => none)
  | _ => none

theorem ll {xs : List MV} (h : SortOk xs) : (sortM xs).Perm xs ∧ ∀ i j, i < j → j < xs.length → keyD ((sortM xs).getD i .none) < keyD ((sortM xs).getD j .none) := by
  unfold sortM
  by_cases h2 : xs.length < 2
  · rw [if_pos h2]
    exact ⟨.refl _, fun i j a b => by exact (Z.q (.im (.nlt (.v 0) (.k 2)) (.im (.nlt (.v 1) (.v 2)) (.im (.nlt (.v 2) (.v 0)) (.lt (.v 0) (.v 1))))) [_,_] [_,_,_]) h2 a b⟩
  · rw [if_neg h2]
    obtain ⟨g, hs⟩ := (lU (n := xs.length) (κ := fun i => keyD (xs.getD i .none)) h.2.2 (by exact (Z.q (.im (.no (.nlt (.v 0) (.k 2))) (.nle (.k 2) (.v 0))) [] [_]) h2)).val
    generalize ev (cOf fun i => keyD (xs.getD i .none)) (kas_sort xs.length) = p at g hs
    refine ⟨?_, fun i j a b => ?_⟩
    · have e : xs = (List.range xs.length).map fun i => xs.getD i .none := by
        refine List.ext_getElem (by simp) fun i h1 h2 => ?_
        simp [h1]
      have := g.perm.map fun i => xs.getD i MV.none
      rw [← e] at this
      exact this
    · have e : ∀ t, t < xs.length → (p.toList.map fun i => xs.getD i MV.none).getD t .none = xs.getD (p.getD t 0) .none := fun t ht => by
        have ht' : t < p.size := by rw [g.size]; exact ht
        rw [iy ht']
        simp [ht']
      rw [e i (by exact (Z.q (.im (.nlt (.v 0) (.v 1)) (.im (.nlt (.v 1) (.v 2)) (.nlt (.v 0) (.v 2)))) [] [_,_,_]) a b), e j b]
      exact hs i j a b

section
variable {prog : Program} {w : World} {A : Around} {E : Value → Shared → Prop} {s : Shared}
theorem mq {a : Addr} {vs : List Value} {m : Nat} {P : PySem.Fin → Shared → Prop} (ho : s.heap.get? a = some (seqObj "list" vs.toArray m)) (h64 : vs.length < 64) (c : Nat → Nat → Bool) (dom : Nat → Nat → Prop)
    (hone : vs.length < 2 → P (.done (.ret .none)) { s with heap := sortedHeap s.heap a vs vs.toArray })
    (hk : ∀ (h' : Heap) (Q : SortKind → Shared → Prop), 2 ≤ vs.length → (∀ b o, b ≠ a → s.heap.get? b = some o → h'.get? b = some o) → Q (tuples' true) { s with heap := h' } → wpAny (model prog w) A (keyKind' vs.toArray) Q (fun _ _ => False) { s with heap := h' })
    (hc : ∀ (h' : Heap), (∀ b o, b ≠ a → s.heap.get? b = some o → h'.get? b = some o) → ∀ i j C, dom i j → C (c i j) { s with heap := h' } → kas_ask prog w A (tuples' true) vs i j C { s with heap := h' })
    (hr : 2 ≤ vs.length → Run c dom (kas_sort vs.length) (fun q => q.size = vs.length))
    (h : 2 ≤ vs.length → P (.done (.ret .none)) { s with heap := sortedHeap s.heap a vs (List.toArray ((ev c (kas_sort vs.length)).toList.map fun i => vs.getD i Value.none)) }) :
    wpAny (model prog w) A (Builtin.«list.sort» ⟨[.ref a], []⟩) P E s := by
  rw [list_sort_plain]
  have ha : a < s.heap.objs.size := Heap.lt_size ho
  have hsz : vs.toArray.size = vs.length := by simp
  refine wpAny_bind (listItems_at ho rfl ?_)
  refine wpAny_bind (listUpdate_at ho rfl ?_ (by rw [hsz, sizeLine_eq]; exact (Z.q (.im (.nlt (.v 0) (.k 64)) (.nle (.v 0) (.k 16777216))) [] [_]) h64) (Nat.zero_le _))
  obtain ⟨e1, ho1⟩ : ∃ e1, (s.heap.update a (Obj.mapSeq fun _ => #[])).get? a = some (seqObj "list" #[] e1) := ⟨_, get?_update_seq ho (fun _ => #[])⟩
  refine wpAny_bind (seqEpoch_at ho1 rfl ?_)
  refine wpAny_bind (wpAny_newTuple ?_ (by show vs.length ≤ _; rw [sizeLine_eq]; exact (Z.q (.im (.nlt (.v 0) (.k 64)) (.nle (.v 0) (.k 16777216))) [] [_]) h64))
  refine wpAny_bind (wpAny_newList ?_ (Nat.zero_le _))
  refine wpAny_holding ?_
  have ho6 : (((s.heap.update a (Obj.mapSeq fun _ => #[])).push (seqObj "tuple" vs.toArray 0)).push (seqObj "list" #[] 0)).get? a = some (seqObj "list" #[] e1) := by
    rw [Heap.get?_push_ne _ _ _ (by rw [size_push', Heap.size_update]; exact Nat.ne_of_lt (Nat.lt_succ_of_lt ha)), Heap.get?_push_ne _ _ _ (by rw [Heap.size_update]; exact Nat.ne_of_lt ha)]
    exact ho1
  have kb : ∀ b o, b ≠ a → s.heap.get? b = some o → (((s.heap.update a (Obj.mapSeq fun _ => #[])).push (seqObj "tuple" vs.toArray 0)).push (seqObj "list" #[] 0)).get? b = some o := fun b o hb e =>
    Heap.get?_push_of_some _ (Heap.get?_push_of_some _ ((Heap.get?_update_other _ _ (Ne.symm hb)).trans e))
  show wpAny (model prog w) A _ P E { s with heap := ((s.heap.update a (Obj.mapSeq fun _ => #[])).push (seqObj "tuple" vs.toArray 0)).push (seqObj "list" #[] 0) }
  dsimp only
  by_cases h2 : vs.toArray.size < 2
  · rw [if_pos h2, if_pos h2]
    refine wpAny_bind (wpAny_pure ?_)
    rw [StateT.run_pure]
    refine wpAny_bind (wpAny_pure ?_)
    dsimp only
    have hz : (vs.toArray.zip vs.toArray).map (·.2) = vs.toArray := by
      apply Array.toList_inj.mp
      simp [List.map_snd_zip]
    refine wpAny_bind (seqEpoch_at ho6 rfl ?_)
    refine wpAny_bind (listUpdate_at ho6 rfl ?_ (Nat.zero_le _) (hsz2 := by rw [Array.size_map]; show (vs.toArray.zip vs.toArray).size ≤ _; simp; rw [sizeLine_eq]; exact (Z.q (.im (.nlt (.v 0) (.k 64)) (.nle (.v 0) (.a (.k 16777216) (.k 1)))) [] [_]) h64))
    simp only [bne_self_eq_false, Bool.false_eq_true, if_false]
    refine wpAny_pure ?_
    have e2 : (arrOf (SortSt.mk' general' (vs.toArray.zip vs.toArray) #[] 7 none)).map (·.2) = vs.toArray := hz
    have := hone (by exact (Z.q (.im (.neq (.v 0) (.v 1)) (.im (.nlt (.v 0) (.k 2)) (.nlt (.v 1) (.k 2)))) [] [_,_]) hsz h2)
    rw [e2]
    exact this
  · rw [if_neg h2, if_neg h2]
    have h2' : 2 ≤ vs.length := by exact (Z.q (.im (.neq (.v 0) (.v 1)) (.im (.no (.nlt (.v 0) (.k 2))) (.nle (.k 2) (.v 1)))) [] [_,_]) hsz h2
    refine wpAny_bind (wpAny_mono (hk _ (fun κ s' => κ = tuples' true ∧ s' = { s with heap := ((s.heap.update a (Obj.mapSeq fun _ => #[])).push (seqObj "tuple" vs.toArray 0)).push (seqObj "list" #[] 0) }) h2' kb ⟨rfl, rfl⟩) (fun κ s0 hκ => ?_) fun _ _ x => x.elim)
    obtain ⟨rfl, rfl⟩ := hκ
    refine wpAny_bind (wpAny_mono (kat_run (ks := vs) (vs := vs) (Q := fun st' s' => s' = { s with heap := ((s.heap.update a (Obj.mapSeq fun _ => #[])).push (seqObj "tuple" vs.toArray 0)).push (seqObj "list" #[] 0) } ∧ arrOf st' = (ev c (kas_sort vs.length)).map (kas_item (vs.toArray.zip vs.toArray)) ∧ failedOf st' = none)
      (G := fun p s' => p = ev c (kas_sort vs.length) ∧ s' = { s with heap := ((s.heap.update a (Obj.mapSeq fun _ => #[])).push (seqObj "tuple" vs.toArray 0)).push (seqObj "list" #[] 0) })
      rfl h2' h64 (fun p' st' s' a1 a2 a3 a4 => ⟨a4.2, by rw [← a4.1]; exact a2, a3⟩) (Run.kasE (hc _ kb) (hr h2') ⟨rfl, rfl⟩)) ?_ fun _ _ e => e)
    rintro ⟨⟨⟩, st'⟩ s' ⟨rfl, har, hf⟩
    dsimp only
    have hout := kat_snds (ks := vs) (vs := vs) rfl har
    refine wpAny_bind (seqEpoch_at ho6 rfl ?_)
    have hz : (List.toArray ((ev c (kas_sort vs.length)).toList.map fun i => vs.getD i Value.none)).size ≤ sizeLine := by
      rw [List.size_toArray, List.length_map, Array.length_toList, (hr h2').val, sizeLine_eq]; exact (Z.q (.im (.nlt (.v 0) (.k 64)) (.nle (.v 0) (.k 16777216))) [] [_]) h64
    refine wpAny_bind (listUpdate_at ho6 rfl ?_ (Nat.zero_le _) (by rw [hout]; exact Nat.le_succ_of_le hz))
    rw [hf]
    simp only [bne_self_eq_false, Bool.false_eq_true, if_false]
    refine wpAny_pure ?_
    rw [hout]
    exact h h2'

theorem m8 {l : Addr} {vs : List Value} {Q : Value → Shared → Prop} (hl : s.heap.IsList l vs.toArray) (h64 : vs.length < 64) (c : Nat → Nat → Bool) (dom : Nat → Nat → Prop)
    (hk : ∀ (A : Around) (h' : Heap) (Q : SortKind → Shared → Prop), 2 ≤ vs.length → (∀ b o, s.heap.get? b = some o → h'.get? b = some o) → Q (tuples' true) { s with heap := h' } → wpAny (model prog w) A (keyKind' vs.toArray) Q (fun _ _ => False) { s with heap := h' })
    (hc : ∀ (A : Around) (h' : Heap), (∀ b o, s.heap.get? b = some o → h'.get? b = some o) → ∀ i j C, dom i j → C (c i j) { s with heap := h' } → kas_ask prog w A (tuples' true) vs i j C { s with heap := h' })
    (hr : 2 ≤ vs.length → Run c dom (kas_sort vs.length) (fun q => q.size = vs.length))
    (hone : vs.length < 2 → Q (.ref (s.heap.objs.size + 1)) { s with heap := sortedAll s.heap vs vs.toArray })
    (h : 2 ≤ vs.length → Q (.ref (s.heap.objs.size + 1)) { s with heap := sortedAll s.heap vs (List.toArray ((ev c (kas_sort vs.length)).toList.map fun i => vs.getD i Value.none)) }) :
    wpAny (model prog w) A (call (.builtin "sorted") [.ref l]) Q E s := by
  refine Calls.call_function_entry kind_sorted plain_sorted entry_sorted (args_sorted1 _) ?_
  unfold Builtin.«sorted»
  refine wpAny_bind (m := checkCount "sorted" 1 1 _) (wpAny_pure ?_)
  refine wpAny_bind (collect_list hl ?_ (by rw [sizeLine_eq]; exact (Z.q (.im (.nlt (.v 0) (.k 64)) (.nle (.v 0) (.k 16777216))) [] [_]) h64))
  refine wpAny_bind (wpAny_newList ?_ (by rw [sizeLine_eq]; exact (Z.q (.im (.nlt (.v 0) (.k 64)) (.nle (.v 0) (.k 16777216))) [] [_]) h64))
  have hsz : ((s.heap.push (seqObj "list" #[] 0)).update s.heap.objs.size (Obj.mapSeq (· ++ vs.toArray))).objs.size = s.heap.objs.size + 1 := by
    rw [Heap.size_update, size_push']
  have hoL : (((s.heap.push (seqObj "list" #[] 0)).update s.heap.objs.size (Obj.mapSeq (· ++ vs.toArray))).push (seqObj "list" vs.toArray 0)).get? (s.heap.objs.size + 1) = some (seqObj "list" vs.toArray 0) := by
    rw [← hsz]; exact Heap.get?_push_size _ rfl
  have keep : ∀ b o, s.heap.get? b = some o → b ≠ s.heap.objs.size + 1 ∧ (((s.heap.push (seqObj "list" #[] 0)).update s.heap.objs.size (Obj.mapSeq (· ++ vs.toArray))).push (seqObj "list" vs.toArray 0)).get? b = some o := fun b o q => by
    have hlt : b < s.heap.objs.size := Heap.lt_size q
    refine ⟨Nat.ne_of_lt (Nat.lt_succ_of_lt hlt), ?_⟩
    rw [Heap.get?_push_ne _ _ _ (by rw [hsz]; exact Nat.ne_of_lt (Nat.lt_succ_of_lt hlt)), Heap.get?_update_ne _ _ _ _ (Nat.ne_of_lt hlt), Heap.get?_push_ne _ _ _ (Nat.ne_of_lt hlt)]
    exact q
  show wpAny _ _ _ _ _ { s with heap := ((s.heap.push (seqObj "list" #[] 0)).update s.heap.objs.size (Obj.mapSeq (· ++ vs.toArray))).push (seqObj "list" vs.toArray 0) }
  rw [hsz]
  refine wpAny_bind (wpAny_holding (wpAny_call_entry slot_list_sort ⟨_, hoL, rfl⟩ entry_list_sort (mq (s := { s with heap := ((s.heap.push (seqObj "list" #[] 0)).update s.heap.objs.size (Obj.mapSeq (· ++ vs.toArray))).push (seqObj "list" vs.toArray 0) }) hoL h64 c dom
    (fun h2 => ⟨_, rfl, wpAny_pure ⟨_, rfl, hone h2⟩⟩)
    (fun h' Q h2 kb q => hk _ h' Q h2 (fun b o e => kb b o (keep b o e).1 (keep b o e).2) q)
    (fun h' kb i j C d q => hc _ h' (fun b o e => kb b o (keep b o e).1 (keep b o e).2) i j C d q) hr
    (fun h2 => ⟨_, rfl, wpAny_pure ⟨_, rfl, h h2⟩⟩)) (args_list_sort _)))
end

theorem n9 {prog : Program} {w : World} {A : Around} {E : Value → Shared → Prop} {s : Shared} {x y : Int} {t u : Tok} {Q : Bool → Shared → Prop} (h : Q (decide (x < y)) s) : wpAny (model prog w) A (oneLt' true (.int x t) (.int y u)) Q E s := by
  have := kat_lt_int (prog := prog) (w := w) (A := A) (E := E) (s := s) (x := x) (y := y) (t := t) (u := u) (Q := Q) h
  rw [keyLt'_oneType] at this
  exact this
theorem firstAt {h₀ h : Heap} {ρ : Pls} {x : MV} {v : Value} (r : VRel h₀ ρ h x v) (hk : (keyOf x).isSome = true) : ∃ a i t us m, v = .ref a ∧ h.get? a = some (tupO (.int i t :: us) m) ∧ keyD x = i := by
  cases r with
  | tup ha rs =>
    cases rs with
    | nil => cases hk
    | cons r1 rs =>
      cases r1 with
      | int i t => exact ⟨_, i, t, _, _, rfl, ha, rfl⟩
      | _ => cases hk
  | _ => cases hk
theorem tupsOf {h₀ h g : Heap} {ρ : Pls} (k : ∀ b o, h.get? b = some o → g.get? b = some o) : ∀ {xs : List MV} {vs : List Value}, VsRel h₀ ρ h xs vs → (∀ x ∈ xs, (keyOf x).isSome = true) → ∃ fs, fs.length = xs.length ∧ KatTups g vs fs ∧ ∀ v ∈ fs, ∃ i t, v = .int i t
  | _, _, .nil, _ => ⟨[], rfl, trivial, fun _ h => nomatch h⟩
  | _, _, .cons a r, hk => by
    obtain ⟨fs, f1, f2, f3⟩ := tupsOf k r fun x hx => hk x (.tail _ hx)
    obtain ⟨ad, i, t, us, m, rfl, e, _⟩ := firstAt a (hk _ (.head _))
    refine ⟨.int i t :: fs, by simp [f1], KatTups.cons (k _ _ e) rfl rfl (by simp) f2, fun v hv => ?_⟩
    rcases List.mem_cons.mp hv with rfl | hv
    · exact ⟨i, t, rfl⟩
    · exact f3 v hv
theorem VsRel.getD {h₀ h : Heap} {ρ : Pls} {xs : List MV} {vs : List Value} (r : VsRel h₀ ρ h xs vs) {i : Nat} (hi : i < xs.length) : VRel h₀ ρ h (xs.getD i .none) (vs.getD i .none) := by
  obtain ⟨v, e, rr⟩ := r.get (List.getElem?_eq_getElem hi)
  have e1 : xs.getD i .none = xs[i] := by simp [hi]
  have e2 : vs.getD i .none = v := by simp [e]
  rw [e1, e2]; exact rr
theorem VsRel.mapD {h₀ h : Heap} {ρ : Pls} {xs : List MV} {vs : List Value} (r : VsRel h₀ ρ h xs vs) : ∀ (l : List Nat), (∀ i ∈ l, i < xs.length) → VsRel h₀ ρ h (l.map fun i => xs.getD i .none) (l.map fun i => vs.getD i .none)
  | [], _ => .nil
  | i :: l, h => .cons (r.getD (h i (.head _))) (VsRel.mapD r l fun j hj => h j (.tail _ hj))

theorem jH : CallOk cx n (.builtin "sorted") cSorted := by
  intro ρ σ s args vs z σ' S r hf
  unfold cSorted at hf
  split at hf
  · rename_i k
    first | have hf := mls hf | have hf := mba hf | have hf := m1s hf | have hf := m1l hf | have hf := m1v hf | have hf := m1o hf | have hf := m1i hf | have hf := m1b hf
    obtain ⟨xs, e1, hf⟩ := hf
    split at hf
    · rename_i hz
      cases hf
      obtain ⟨_, rfl, r1⟩ := r.one
      obtain ⟨p, us, m, rfl, hp, hpp, o1, q1⟩ := listAt S r1 e1
      have hl := q1.length
      have R := lU (n := xs.length) (κ := fun i => keyD (xs.getD i .none)) hz.2.2
      have out : ∀ (ys : List MV) (ws : List Value), VsRel cx.h₀ ρ s.heap ys ws → ValAt cx ρ s (.ref σ.length) (σ ++ [.list ys]) (.ref (s.heap.objs.size + 1)) { s with heap := sortedAll s.heap us ws.toArray } := by
        intro ys ws rw'
        obtain ⟨e, he⟩ := sortedAll_at s.heap us ws.toArray
        have kp : ∀ b o, s.heap.get? b = some o → (sortedAll s.heap us ws.toArray).get? b = some o := fun b o q => sortedAll_old q
        have hn : s.heap.get? (s.heap.objs.size + 1) = .none := by
          cases q : s.heap.get? (s.heap.objs.size + 1) with
          | none => rfl
          | some o => exact absurd (Heap.lt_size q) (Nat.not_lt.mpr (Nat.le_succ _))
        obtain ⟨x, y⟩ := S.add (p := (s.heap.objs.size + 1, s.heap.objs.size + 1)) (o := .list ys) s.toks kp hn hn ⟨rfl, ws, e, he, rw'.mono ⟨_, rfl⟩ fun b o q _ => kp b o q⟩
        exact ⟨_, x, y _, .ref (p := (s.heap.objs.size + 1, s.heap.objs.size + 1)) (by rw [← S.len]; simp)⟩
      refine aG fun A ao => m8 (vs := us) ⟨_, o1, rfl, _, rfl⟩ (by rw [hl]; exact hz.1) (cOf fun i => keyD (xs.getD i .none)) (domOf xs.length) (fun A h' Q h2 kp q => ?_) (fun A h' kp i j C d q => ?_) (fun h2 => ?_) (fun h2 => ?_) (fun h2 => ?_)
      · obtain ⟨fs, f1, f2, f3⟩ := tupsOf kp q1 hz.2.1
        exact kat_kind (T := .type "int") f2 (by exact (Z.q (.im (.neq (.v 0) (.v 1)) (.im (.nle (.k 2) (.v 0)) (.im (.neq (.v 2) (.v 1)) (.nlt (.k 0) (.v 2))))) [] [_,_,_]) hl h2 f1) (fun v hv => by obtain ⟨i, t, rfl⟩ := f3 v hv; exact Looks.of_pure rfl) (by decide) q
      · obtain ⟨d1, d2, d3⟩ := d
        obtain ⟨a1, i1, t1, u1, m1, x1, y1, z1⟩ := firstAt (q1.getD d1) (hz.2.1 _ (by simp [d1]))
        obtain ⟨a2, i2, t2, u2, m2, x2, y2, z2⟩ := firstAt (q1.getD d2) (hz.2.1 _ (by simp [d2]))
        have hne := hz.2.2 i j d1 d2 d3
        unfold kas_ask
        rw [x1, x2]
        refine kat_lt (kp _ _ y1) rfl (kp _ _ y2) rfl ?_
        refine kat_cons (SeqAt.EqAt.int_int i1 t1 i2 t2 _ _ _ _ ?_)
        have : (i1 == i2) = false := by rw [beq_eq_false_iff_ne, ← z1, ← z2]; exact hne
        rw [this]
        refine kat_no (n9 ?_)
        have e : cOf (fun i => keyD (xs.getD i .none)) i j = decide (i1 < i2) := by unfold cOf; rw [← z1, ← z2]
        rw [← e]; exact q
      · rw [hl] at h2 ⊢
        exact (R h2).mono fun q hq => hq.1.size
      · have := out xs us q1
        unfold sortM
        rw [if_pos (by exact (Z.q (.im (.neq (.v 0) (.v 1)) (.im (.nlt (.v 0) (.k 2)) (.nlt (.v 1) (.k 2)))) [] [_,_]) hl h2)]
        exact this
      · rw [hl] at h2 ⊢
        have := out (sortM xs) ((ev (cOf fun i => keyD (xs.getD i .none)) (kas_sort xs.length)).toList.map fun i => us.getD i Value.none) ?_
        · exact this
        · unfold sortM
          rw [if_neg (by exact (Z.q (.im (.nle (.k 2) (.v 0)) (.no (.nlt (.v 0) (.k 2)))) [] [_]) h2)]
          refine q1.mapD _ fun i hi => ?_
          have := (R h2).val.1.perm.mem_iff.mp hi
          simpa using this
    · cases hf
  · cases hf
end Mine

end
section
open PySem PySem.W PySem.Calls PyProof.Rows
namespace Mine

structure KOk (cx : Cx) : Prop where
  hK : cx.K = O.K cx.w.params
variable {cx : Cx}
theorem jm (h : KOk cx) : nsIn cx.K mainGlobals (Str.ofString "HEADER_SIZE") = some (some (.int 32 241)) := by rw [h.hK]; kernel_rfl
theorem mK (h : KOk cx) : nsIn cx.K mainGlobals (Str.ofString "WORD") = some (some (.int 18446744073709551616 245)) := by rw [h.hK]; kernel_rfl
theorem pG (h : KOk cx) : nsIn cx.K mainGlobals (Str.ofString "INNER_KEYS") = some (some (.int 2 279)) := by rw [h.hK]; kernel_rfl
theorem fQ (h : KOk cx) : nsIn cx.K mainGlobals (Str.ofString "INNER_ROWS") = some (some (.int 5 281)) := by rw [h.hK]; kernel_rfl
theorem lJ (h : KOk cx) : nsIn cx.K mainGlobals (Str.ofString "LEAF_KEYS") = some (some (.int 10 283)) := by rw [h.hK]; kernel_rfl
theorem eP (h : KOk cx) : nsIn cx.K mainGlobals (Str.ofString "LEAF_ROWS") = some (some (.int 13 285)) := by rw [h.hK]; kernel_rfl
theorem bE (h : KOk cx) : nsIn cx.K mainGlobals (Str.ofString "LEAST_CELL") = some (some (.int 4 288)) := by rw [h.hK]; kernel_rfl
theorem iO (h : KOk cx) : nsIn cx.K mainGlobals (Str.ofString "MOST_FRAGMENTS") = some (some (.int 57 610)) := by rw [h.hK]; kernel_rfl
theorem pc (h : KOk cx) : nsIn cx.K mainGlobals (Str.ofString "KINDS") = some (some (.ref 75)) := by rw [h.hK]; kernel_rfl
theorem oz (h : KOk cx) : cx.K.lookup 75 = some (tupO [.int 2 279, .int 5 281, .int 10 283, .int 13 285] 0) := by rw [h.hK]; kernel_rfl
theorem bn (h : KOk cx) : nsIn cx.K mainGlobals (Str.ofString "len") = some none := by rw [h.hK]; kernel_rfl
theorem eO (h : KOk cx) : nsIn cx.K mainGlobals (Str.ofString "max") = some none := by rw [h.hK]; kernel_rfl
theorem fR (h : KOk cx) : nsIn cx.K mainGlobals (Str.ofString "int") = some none := by rw [h.hK]; kernel_rfl
theorem cj (h : KOk cx) : nsIn cx.K mainGlobals (Str.ofString "bytes") = some none := by rw [h.hK]; kernel_rfl
theorem iC (h : KOk cx) : nsIn cx.K mainGlobals (Str.ofString "bytearray") = some none := by rw [h.hK]; kernel_rfl
theorem q5 (h : KOk cx) : nsIn cx.K mainGlobals (Str.ofString "sum") = some none := by rw [h.hK]; kernel_rfl
theorem k7 (h : KOk cx) : nsIn cx.K mainGlobals (Str.ofString "sorted") = some none := by rw [h.hK]; kernel_rfl
theorem d8 (h : KOk cx) : nsIn cx.K mainGlobals (Str.ofString "range") = some none := by rw [h.hK]; kernel_rfl
theorem rV (h : KOk cx) : FnAt cx.K 194 := by rw [h.hK]; show fnB _ = true; kernel_rfl
theorem qr (h : KOk cx) : FnAt cx.K 201 := by rw [h.hK]; show fnB _ = true; kernel_rfl
theorem qG (h : KOk cx) : FnAt cx.K 257 := by rw [h.hK]; show fnB _ = true; kernel_rfl
theorem cQ (h : KOk cx) : nsIn cx.K mainGlobals (Str.ofString "two_at") = some (some (.ref 82)) := by rw [h.hK]; kernel_rfl
theorem gd (h : KOk cx) : FnAt cx.K 82 := by rw [h.hK]; show fnB _ = true; kernel_rfl
theorem qv (h : KOk cx) : FnAt cx.K 222 := by rw [h.hK]; show fnB _ = true; kernel_rfl
theorem qO (h : KOk cx) : FnAt cx.K 229 := by rw [h.hK]; show fnB _ = true; kernel_rfl
theorem qB (h : KOk cx) : FnAt cx.K 264 := by rw [h.hK]; show fnB _ = true; kernel_rfl
theorem rT (h : KOk cx) : FnAt cx.K 152 := by rw [h.hK]; show fnB _ = true; kernel_rfl
theorem iX (h : KOk cx) : nsIn cx.K mainGlobals (Str.ofString "four_at") = some (some (.ref 89)) := by rw [h.hK]; kernel_rfl
theorem nf (h : KOk cx) : FnAt cx.K 89 := by rw [h.hK]; show fnB _ = true; kernel_rfl
theorem fW (h : KOk cx) : nsIn cx.K mainGlobals (Str.ofString "get_varint") = some (some (.ref 67)) := by rw [h.hK]; kernel_rfl
theorem oG (h : KOk cx) : FnAt cx.K 67 := by rw [h.hK]; show fnB _ = true; kernel_rfl
theorem gR (h : KOk cx) : nsIn cx.K mainGlobals (Str.ofString "is_leaf") = some (some (.ref 117)) := by rw [h.hK]; kernel_rfl
theorem ke (h : KOk cx) : FnAt cx.K 117 := by rw [h.hK]; show fnB _ = true; kernel_rfl
theorem lS (h : KOk cx) : nsIn cx.K mainGlobals (Str.ofString "max_local") = some (some (.ref 124)) := by rw [h.hK]; kernel_rfl
theorem q8 (h : KOk cx) : FnAt cx.K 124 := by rw [h.hK]; show fnB _ = true; kernel_rfl
theorem lL (h : KOk cx) : nsIn cx.K mainGlobals (Str.ofString "min_local") = some (some (.ref 131)) := by rw [h.hK]; kernel_rfl
theorem qq (h : KOk cx) : FnAt cx.K 131 := by rw [h.hK]; show fnB _ = true; kernel_rfl
theorem iD (h : KOk cx) : nsIn cx.K mainGlobals (Str.ofString "local_size") = some (some (.ref 138)) := by rw [h.hK]; kernel_rfl
theorem nX (h : KOk cx) : FnAt cx.K 138 := by rw [h.hK]; show fnB _ = true; kernel_rfl
theorem lD (h : KOk cx) : nsIn cx.K mainGlobals (Str.ofString "signed") = some (some (.ref 74)) := by rw [h.hK]; kernel_rfl
theorem pk (h : KOk cx) : FnAt cx.K 74 := by rw [h.hK]; show fnB _ = true; kernel_rfl
theorem lC (h : KOk cx) : nsIn cx.K mainGlobals (Str.ofString "read_cell") = some (some (.ref 180)) := by rw [h.hK]; kernel_rfl
theorem qV (h : KOk cx) : FnAt cx.K 180 := by rw [h.hK]; show fnB _ = true; kernel_rfl
theorem qN (h : KOk cx) : FnAt cx.K 278 := by rw [h.hK]; show fnB _ = true; kernel_rfl
theorem pu (h : KOk cx) : FnAt cx.K 283 := by rw [h.hK]; show fnB _ = true; kernel_rfl
theorem qU (h : KOk cx) : FnAt cx.K 250 := by rw [h.hK]; show fnB _ = true; kernel_rfl
theorem b7 (h : KOk cx) : nsIn cx.K mainGlobals (Str.ofString "put_two") = some (some (.ref 96)) := by rw [h.hK]; kernel_rfl
theorem dh (h : KOk cx) : FnAt cx.K 96 := by rw [h.hK]; show fnB _ = true; kernel_rfl
theorem qn (h : KOk cx) : FnAt cx.K 339 := by rw [h.hK]; show fnB _ = true; kernel_rfl
theorem qw (h : KOk cx) : FnAt cx.K 236 := by rw [h.hK]; show fnB _ = true; kernel_rfl
theorem qe (h : KOk cx) : FnAt cx.K 311 := by rw [h.hK]; show fnB _ = true; kernel_rfl
theorem pt (h : KOk cx) : FnAt cx.K 243 := by rw [h.hK]; show fnB _ = true; kernel_rfl
theorem qR (h : KOk cx) : FnAt cx.K 346 := by rw [h.hK]; show fnB _ = true; kernel_rfl
theorem r8 (h : KOk cx) : FnAt cx.K 360 := by rw [h.hK]; show fnB _ = true; kernel_rfl
theorem jF (h : KOk cx) : nsIn cx.K mainGlobals (Str.ofString "put_four") = some (some (.ref 103)) := by rw [h.hK]; kernel_rfl
theorem np (h : KOk cx) : FnAt cx.K 103 := by rw [h.hK]; show fnB _ = true; kernel_rfl
theorem qC (h : KOk cx) : FnAt cx.K 332 := by rw [h.hK]; show fnB _ = true; kernel_rfl
theorem qX (h : KOk cx) : FnAt cx.K 388 := by rw [h.hK]; show fnB _ = true; kernel_rfl
theorem qJ (h : KOk cx) : FnAt cx.K 353 := by rw [h.hK]; show fnB _ = true; kernel_rfl
theorem ql (h : KOk cx) : FnAt cx.K 374 := by rw [h.hK]; show fnB _ = true; kernel_rfl
theorem qa (h : KOk cx) : FnAt cx.K 381 := by rw [h.hK]; show fnB _ = true; kernel_rfl
theorem qj (h : KOk cx) : FnAt cx.K 395 := by rw [h.hK]; show fnB _ = true; kernel_rfl
theorem qm (h : KOk cx) : FnAt cx.K 409 := by rw [h.hK]; show fnB _ = true; kernel_rfl
theorem qK (h : KOk cx) : FnAt cx.K 402 := by rw [h.hK]; show fnB _ = true; kernel_rfl
theorem ir (h : KOk cx) : nsIn cx.K mainGlobals (Str.ofString "_law_cost") = some (some (.ref 454)) := by rw [h.hK]; kernel_rfl
theorem nz (h : KOk cx) : FnAt cx.K 454 := by rw [h.hK]; show fnB _ = true; kernel_rfl
theorem ga (h : KOk cx) : nsIn cx.K mainGlobals (Str.ofString "four_octets") = some (some (.ref 110)) := by rw [h.hK]; kernel_rfl
theorem oF (h : KOk cx) : FnAt cx.K 110 := by rw [h.hK]; show fnB _ = true; kernel_rfl
theorem fY (h : KOk cx) : nsIn cx.K mainGlobals (Str.ofString "put_varint") = some (some (.ref 60)) := by rw [h.hK]; kernel_rfl
theorem oB (h : KOk cx) : FnAt cx.K 60 := by rw [h.hK]; show fnB _ = true; kernel_rfl
theorem qd (h : KOk cx) : FnAt cx.K 166 := by rw [h.hK]; show fnB _ = true; kernel_rfl
theorem bB (h : KOk cx) : nsIn cx.K mainGlobals (Str.ofString "_law_take") = some (some (.ref 442)) := by rw [h.hK]; kernel_rfl
theorem dd (h : KOk cx) : FnAt cx.K 442 := by rw [h.hK]; show fnB _ = true; kernel_rfl
theorem m6 (h : KOk cx) : nsIn cx.K mainGlobals (Str.ofString "_law_raw") = some (some (.ref 449)) := by rw [h.hK]; kernel_rfl
theorem ps (h : KOk cx) : FnAt cx.K 449 := by rw [h.hK]; show fnB _ = true; kernel_rfl
theorem jE (h : KOk cx) : nsIn cx.K mainGlobals (Str.ofString "_law_changed") = some (some (.ref 461)) := by rw [h.hK]; kernel_rfl
theorem pn (h : KOk cx) : FnAt cx.K 461 := by rw [h.hK]; show fnB _ = true; kernel_rfl
theorem lN (h : KOk cx) : nsIn cx.K mainGlobals (Str.ofString "_law_pool") = some (some (.ref 435)) := by rw [h.hK]; kernel_rfl
theorem qI (h : KOk cx) : FnAt cx.K 435 := by rw [h.hK]; show fnB _ = true; kernel_rfl
theorem lz (h : KOk cx) : nsIn cx.K mainGlobals (Str.ofString "areas_of") = some (some (.ref 421)) := by rw [h.hK]; kernel_rfl
theorem qQ (h : KOk cx) : FnAt cx.K 421 := by rw [h.hK]; show fnB _ = true; kernel_rfl
theorem kY (h : KOk cx) : nsIn cx.K mainGlobals (Str.ofString "check_node") = some (some (.ref 428)) := by rw [h.hK]; kernel_rfl
theorem qc (h : KOk cx) : FnAt cx.K 428 := by rw [h.hK]; show fnB _ = true; kernel_rfl
theorem rR (h : KOk cx) : FnAt cx.K 468 := by rw [h.hK]; show fnB _ = true; kernel_rfl
theorem lu (h : KOk cx) : nsIn cx.K mainGlobals (Str.ofString "Cell") = some (some (.ref 169)) := by rw [h.hK]; kernel_rfl
theorem kI (h : KOk cx) : keepIn cx.K (.ref 169) = true := by rw [h.hK]; kernel_rfl
theorem km (h : KOk cx) : makesIn cx.K 169 = true := by rw [h.hK]; kernel_rfl
theorem kn (h : KOk cx) : findIn cx.K (.ref 169) "__init__" = some (some (.ref 152)) := by rw [h.hK]; kernel_rfl
theorem kJ (h : KOk cx) : typeIn cx.K (.ref 152) = some (.type "function") := by rw [h.hK]; kernel_rfl
theorem qp (h : KOk cx) : nsIn cx.K mainGlobals (Str.ofString "Node") = some (some (.ref 412)) := by rw [h.hK]; kernel_rfl
theorem oW (h : KOk cx) : keepIn cx.K (.ref 412) = true := by rw [h.hK]; kernel_rfl
theorem pB (h : KOk cx) : makesIn cx.K 412 = true := by rw [h.hK]; kernel_rfl
theorem oZ (h : KOk cx) : findIn cx.K (.ref 412) "__init__" = some (some (.ref 194)) := by rw [h.hK]; kernel_rfl
theorem oi (h : KOk cx) : typeIn cx.K (.ref 194) = some (.type "function") := by rw [h.hK]; kernel_rfl
theorem ja (h : KOk cx) : AttrOk cx.K 169 "child" := by rw [h.hK]; exact ⟨by kernel_rfl, by kernel_rfl, by kernel_rfl⟩
theorem jl (h : KOk cx) : SetOk cx.K 169 "child" := by rw [h.hK]; exact ⟨by kernel_rfl, by kernel_rfl, by kernel_rfl, by kernel_rfl⟩
theorem gY (h : KOk cx) : AttrOk cx.K 169 "rowid" := by rw [h.hK]; exact ⟨by kernel_rfl, by kernel_rfl, by kernel_rfl⟩
theorem jn (h : KOk cx) : SetOk cx.K 169 "rowid" := by rw [h.hK]; exact ⟨by kernel_rfl, by kernel_rfl, by kernel_rfl, by kernel_rfl⟩
theorem kt (h : KOk cx) : AttrOk cx.K 169 "size" := by rw [h.hK]; exact ⟨by kernel_rfl, by kernel_rfl, by kernel_rfl⟩
theorem kO (h : KOk cx) : SetOk cx.K 169 "size" := by rw [h.hK]; exact ⟨by kernel_rfl, by kernel_rfl, by kernel_rfl, by kernel_rfl⟩
theorem jh (h : KOk cx) : AttrOk cx.K 169 "local" := by rw [h.hK]; exact ⟨by kernel_rfl, by kernel_rfl, by kernel_rfl⟩
theorem je (h : KOk cx) : SetOk cx.K 169 "local" := by rw [h.hK]; exact ⟨by kernel_rfl, by kernel_rfl, by kernel_rfl, by kernel_rfl⟩
theorem ey (h : KOk cx) : AttrOk cx.K 169 "overflow" := by rw [h.hK]; exact ⟨by kernel_rfl, by kernel_rfl, by kernel_rfl⟩
theorem iZ (h : KOk cx) : SetOk cx.K 169 "overflow" := by rw [h.hK]; exact ⟨by kernel_rfl, by kernel_rfl, by kernel_rfl, by kernel_rfl⟩
theorem aQ (h : KOk cx) : AttrOk cx.K 412 "data" := by rw [h.hK]; exact ⟨by kernel_rfl, by kernel_rfl, by kernel_rfl⟩
theorem ko (h : KOk cx) : SetOk cx.K 412 "data" := by rw [h.hK]; exact ⟨by kernel_rfl, by kernel_rfl, by kernel_rfl, by kernel_rfl⟩
theorem oy (h : KOk cx) : AttrOk cx.K 412 "page" := by rw [h.hK]; exact ⟨by kernel_rfl, by kernel_rfl, by kernel_rfl⟩
theorem kg (h : KOk cx) : SetOk cx.K 412 "page" := by rw [h.hK]; exact ⟨by kernel_rfl, by kernel_rfl, by kernel_rfl, by kernel_rfl⟩
theorem aj (h : KOk cx) : AttrOk cx.K 412 "usable" := by rw [h.hK]; exact ⟨by kernel_rfl, by kernel_rfl, by kernel_rfl⟩
theorem jY (h : KOk cx) : SetOk cx.K 412 "usable" := by rw [h.hK]; exact ⟨by kernel_rfl, by kernel_rfl, by kernel_rfl, by kernel_rfl⟩
theorem aV (h : KOk cx) : AttrOk cx.K 412 "base" := by rw [h.hK]; exact ⟨by kernel_rfl, by kernel_rfl, by kernel_rfl⟩
theorem i4 (h : KOk cx) : SetOk cx.K 412 "base" := by rw [h.hK]; exact ⟨by kernel_rfl, by kernel_rfl, by kernel_rfl, by kernel_rfl⟩
theorem dq (h : KOk cx) : MethOk cx 412 "kind" 201 := by refine ⟨?_, ?_, ?_, qr h⟩ <;> (rw [h.hK]; kernel_rfl)
theorem jS (h : KOk cx) : MethOk cx 412 "octets" 257 := by refine ⟨?_, ?_, ?_, qG h⟩ <;> (rw [h.hK]; kernel_rfl)
theorem bO (h : KOk cx) : MethOk cx 412 "count" 222 := by refine ⟨?_, ?_, ?_, qv h⟩ <;> (rw [h.hK]; kernel_rfl)
theorem bS (h : KOk cx) : MethOk cx 412 "pointers" 229 := by refine ⟨?_, ?_, ?_, qO h⟩ <;> (rw [h.hK]; kernel_rfl)
theorem ei (h : KOk cx) : MethOk cx 412 "place" 264 := by refine ⟨?_, ?_, ?_, qB h⟩ <;> (rw [h.hK]; kernel_rfl)
theorem gL (h : KOk cx) : MethOk cx 412 "raw" 278 := by refine ⟨?_, ?_, ?_, qN h⟩ <;> (rw [h.hK]; kernel_rfl)
theorem iF (h : KOk cx) : MethOk cx 412 "raws" 283 := by refine ⟨?_, ?_, ?_, pu h⟩ <;> (rw [h.hK]; kernel_rfl)
theorem gZ (h : KOk cx) : MethOk cx 412 "right" 250 := by refine ⟨?_, ?_, ?_, qU h⟩ <;> (rw [h.hK]; kernel_rfl)
theorem gf (h : KOk cx) : MethOk cx 412 "clear" 339 := by refine ⟨?_, ?_, ?_, qn h⟩ <;> (rw [h.hK]; kernel_rfl)
theorem bK (h : KOk cx) : MethOk cx 412 "content" 236 := by refine ⟨?_, ?_, ?_, qw h⟩ <;> (rw [h.hK]; kernel_rfl)
theorem d4 (h : KOk cx) : MethOk cx 412 "blocks" 311 := by refine ⟨?_, ?_, ?_, qe h⟩ <;> (rw [h.hK]; kernel_rfl)
theorem bZ (h : KOk cx) : MethOk cx 412 "fragments" 243 := by refine ⟨?_, ?_, ?_, pt h⟩ <;> (rw [h.hK]; kernel_rfl)
theorem gH (h : KOk cx) : MethOk cx 412 "gap" 346 := by refine ⟨?_, ?_, ?_, qR h⟩ <;> (rw [h.hK]; kernel_rfl)
theorem hW (h : KOk cx) : MethOk cx 412 "room" 360 := by refine ⟨?_, ?_, ?_, r8 h⟩ <;> (rw [h.hK]; kernel_rfl)
theorem eU (h : KOk cx) : MethOk cx 412 "set_right" 332 := by refine ⟨?_, ?_, ?_, qC h⟩ <;> (rw [h.hK]; kernel_rfl)
theorem fa (h : KOk cx) : MethOk cx 412 "put_all" 388 := by refine ⟨?_, ?_, ?_, qX h⟩ <;> (rw [h.hK]; kernel_rfl)
theorem ca (h : KOk cx) : MethOk cx 412 "set_blocks" 353 := by refine ⟨?_, ?_, ?_, qJ h⟩ <;> (rw [h.hK]; kernel_rfl)
theorem gm (h : KOk cx) : MethOk cx 412 "take_block" 374 := by refine ⟨?_, ?_, ?_, ql h⟩ <;> (rw [h.hK]; kernel_rfl)
theorem ie (h : KOk cx) : MethOk cx 412 "allocate" 381 := by refine ⟨?_, ?_, ?_, qa h⟩ <;> (rw [h.hK]; kernel_rfl)
theorem gK (h : KOk cx) : MethOk cx 412 "insert" 395 := by refine ⟨?_, ?_, ?_, qj h⟩ <;> (rw [h.hK]; kernel_rfl)
theorem iE (h : KOk cx) : MethOk cx 412 "give_back" 409 := by refine ⟨?_, ?_, ?_, qm h⟩ <;> (rw [h.hK]; kernel_rfl)
theorem jW (h : KOk cx) : MethOk cx 412 "remove" 402 := by refine ⟨?_, ?_, ?_, qK h⟩ <;> (rw [h.hK]; kernel_rfl)
theorem jL (h : KOk cx) : MethOk cx 169 "octets" 166 := by refine ⟨?_, ?_, ?_, qd h⟩ <;> (rw [h.hK]; kernel_rfl)
end Mine

end
section
open PySem PySem.W PySem.Calls PyProof.Rows
namespace Mine

noncomputable def notStar : PySem.Expr → Bool
  | .Starred .. => false
  | _ => true
theorem n8 {e : PySem.Expr} {es : List PySem.Expr} {env : Env} (h : notStar e = true) : starEach (e :: es) env = (false, eval e env) :: starEach es env := by cases e <;> first | rfl | cases h
theorem de {cx : Cx} {sc : Scope} {n : Nat} {e : PySem.Expr} {es : List PySem.Expr} {f : EF} {fs : EsF} (h : DenE cx sc n e f) (hs : DenEs cx sc n es fs) (k : notStar e = true) : DenEs cx sc n (e :: es) (eCons f fs) := il h hs fun _ => n8 k
theorem nx {x y : String} {p1 p2 p3 p4 q1 q2 : Pos} {k1 k2 : Nat} {v s l r : PySem.Expr} {o : Operator} {env : Env}
   (hb : env.blockKind = .function) (hx : env.kindOf (Str.ofString x) = some .local) (hy : env.kindOf (Str.ofString y) = some .local)
   (hp : p2.line = p1.line) (hne : (Str.ofString x == Str.ofString y) = false) (hc : constantsAlone 8 (.Subscript v s q1) = false) :
   swappedStores [.Tuple [.Name (Str.ofString x) p1, .Name (Str.ofString y) p2] k1 p3] (.Tuple [.Subscript v s q1, .BinOp l o r q2] k2 p4) env = pure (some [Str.ofString x, Str.ofString y]) := by
  have a1 : (env.kindOf (Str.ofString x) == some .local && p1.line == p1.line) = true := by rw [hx, beq_self_eq_true p1.line]; rfl
  have a2 : (env.kindOf (Str.ofString y) == some .local && p2.line == p1.line) = true := by rw [hy, hp, beq_self_eq_true p1.line]; rfl
  have hne' : (Str.ofString y == Str.ofString x) = false := by
    rw [beq_eq_false_iff_ne] at hne ⊢; exact fun q => hne q.symm
  have ed : [Str.ofString x, Str.ofString y].eraseDups = [Str.ofString x, Str.ofString y] := by
    rw [List.eraseDups_cons, List.filter_cons, hne']; rfl
  unfold swappedStores
  dsimp only
  rw [hb]
  dsimp only [List.filterMap, List.all, List.any, List.head?, Option.map, Option.getD, Expr.pos]
  simp only [a1, a2, if_true]
  show (if (_ || [Str.ofString x, Str.ofString y].eraseDups.length != 2) = true then _ else if (false && _) = true then _ else if (constantsAlone 8 (.Subscript v s q1) && _) = true then _ else _) = _
  rw [ed, hc]
  rfl
theorem cf {α : Type} {P : List α → Prop} (h : ∀ a0, P [a0]) : ∀ vals : List α, vals.length = 1 → P vals
  | [a0], _ => h a0
theorem eE {α : Type} {P : List α → Prop} (h : ∀ a0 a1, P [a0, a1]) : ∀ vals : List α, vals.length = 2 → P vals
  | [a0, a1], _ => h a0 a1
theorem k4 {α : Type} {P : List α → Prop} (h : ∀ a0 a1 a2, P [a0, a1, a2]) : ∀ vals : List α, vals.length = 3 → P vals
  | [a0, a1, a2], _ => h a0 a1 a2
theorem nj {α : Type} {P : List α → Prop} (h : ∀ a0 a1 a2 a3, P [a0, a1, a2, a3]) : ∀ vals : List α, vals.length = 4 → P vals
  | [a0, a1, a2, a3], _ => h a0 a1 a2 a3
theorem rJ {α : Type} {P : List α → Prop} (h : ∀ a0 a1 a2 a3 a4 a5, P [a0, a1, a2, a3, a4, a5]) : ∀ vals : List α, vals.length = 6 → P vals
  | [a0, a1, a2, a3, a4, a5], _ => h a0 a1 a2 a3 a4 a5
variable {cx : Cx}
noncomputable def c9 : SF := sSeq (sSetAttr 412 "data" (eN "self") (eCall cBa (eCons (eN "octets") (eNil))))
 (sSeq (sSetAttr 412 "page" (eN "self") (eN "page"))
 (sSeq (sSetAttr 412 "usable" (eN "self") (eN "usable"))
 (sSeq (sSetAttr 412 "base" (eN "self") (eK (.int 0)))
 (sSeq (sIf (tOf (eOp2 oEq (eN "page") (eK (.int 1)))) (sSeq (sSetAttr 412 "base" (eN "self") (eK (.int 32)))
 (sNil)) (sNil))
 (sNil)))))
noncomputable def cL : FF := fnF ["self", "octets", "page", "usable"] c9
theorem gX (h : KOk cx) : DenF cx 8 (.ref 194) cL := by
  refine @aW cx 7 194 ["self", "octets", "page", "usable"] c9 (O.nameOf (O.mp 28 0)) (Str.ofString "NodeView.__init__") (O.argsOf (O.mp 28 0)) (O.bodyOf (O.mp 28 0)) (O.scopeOf (O.mp 28 0)) .none .none .none (O.S "pagebase.node_view" 277) (.ref 193) .none (.type "function") none none ⟨[]⟩ ?ho ?hcd ?hb ?hbind ?hloc ?hcell ?h1 ?h2 ?h3
  case ho => rw [h.hK]; kernel_rfl
  case hcd => rw [h.hK]; kernel_rfl
  case hb =>
    refine aA ?_ ?_
    · exact bP (ko h) (aP rfl (oN (n := 5)) rfl (iC h) (de (a7 rfl rfl) (a8) rfl) rfl rfl (by decide)) (a7 rfl rfl) (fun _ => rfl) (fun _ => rfl)
    refine aA ?_ ?_
    · exact bP (kg h) (a7 rfl rfl) (a7 rfl rfl) (fun _ => rfl) (fun _ => rfl)
    refine aA ?_ ?_
    · exact bP (jY h) (a7 rfl rfl) (a7 rfl rfl) (fun _ => rfl) (fun _ => rfl)
    refine aA ?_ ?_
    · exact bP (i4 h) (aB) (a7 rfl rfl) (fun _ => rfl) (fun _ => rfl)
    refine aA ?_ ?_
    · exact aX (aL (a7 rfl rfl) (aB) cw (by with_unfolding_all rfl)) (aA (bP (i4 h) (aU (jm h) rfl rfl) (a7 rfl rfl) (fun _ => rfl) (fun _ => rfl)) (aC)) (aC)
    exact aC
  case hbind => exact nj fun _ _ _ _ => rfl
  case hloc => decide +kernel
  case hcell => decide +kernel
  case h1 => kernel_rfl
  case h2 => kernel_rfl
  case h3 => kernel_rfl
noncomputable def dL : SF := sSeq (sSet "kind" (eOp2 oItem (eAttr 412 "data" (eN "self")) (eAttr 412 "base" (eN "self"))))
 (sSeq (sIf (tOf (eOp2 oNotIn (eN "kind") (eK (.tup ([2, 5, 10, 13].map .int))))) (sSeq (sFail)
 (sNil)) (sNil))
 (sSeq (sRet (eN "kind"))
 (sNil)))
noncomputable def bW : FF := fnF ["self"] dL
theorem cS (h : KOk cx) : DenF cx 8 (.ref 201) bW := by
  refine @aW cx 7 201 ["self"] dL (O.nameOf (O.mp 28 1)) (Str.ofString "NodeView.kind") (O.argsOf (O.mp 28 1)) (O.bodyOf (O.mp 28 1)) (O.scopeOf (O.mp 28 1)) .none .none .none (O.S "pagebase.node_view" 277) (.ref 200) .none (.type "function") none none ⟨[]⟩ ?ho ?hcd ?hb ?hbind ?hloc ?hcell ?h1 ?h2 ?h3
  case ho => rw [h.hK]; kernel_rfl
  case hcd => rw [h.hK]; kernel_rfl
  case hb =>
    refine aA ?_ ?_
    · exact aJ (ab (aK (aQ h) (a7 rfl rfl) (fun _ _ => rfl)) (aK (aV h) (a7 rfl rfl) (fun _ _ => rfl))) rfl (fun _ => rfl)
    refine aA ?_ ?_
    · exact aX (aL (a7 rfl rfl) (kT (ns := [2, 5, 10, 13]) (pc h) (oz h) (.cons _ _ (.cons _ _ (.cons _ _ (.cons _ _ .nil)))) rfl rfl) nG (by with_unfolding_all rfl)) (aA (bR) (aC)) (aC)
    refine aA ?_ ?_
    · exact aR (a7 rfl rfl)
    exact aC
  case hbind => exact cf fun _ => rfl
  case hloc => decide +kernel
  case hcell => decide +kernel
  case h1 => kernel_rfl
  case h2 => kernel_rfl
  case h3 => kernel_rfl
noncomputable def cV : SF := sSeq (sRet (eCall cBytes (eCons (eAttr 412 "data" (eN "self")) (eNil))))
 (sNil)
noncomputable def cp : FF := fnF ["self"] cV
theorem i7 (h : KOk cx) : DenF cx 8 (.ref 257) cp := by
  refine @aW cx 7 257 ["self"] cV (O.nameOf (O.mp 28 9)) (Str.ofString "NodeView.octets") (O.argsOf (O.mp 28 9)) (O.bodyOf (O.mp 28 9)) (O.scopeOf (O.mp 28 9)) .none .none .none (O.S "pagebase.node_view" 277) (.ref 256) .none (.type "function") none none ⟨[]⟩ ?ho ?hcd ?hb ?hbind ?hloc ?hcell ?h1 ?h2 ?h3
  case ho => rw [h.hK]; kernel_rfl
  case hcd => rw [h.hK]; kernel_rfl
  case hb =>
    refine aA ?_ ?_
    · exact aR (aP rfl cG rfl (cj h) (de (aK (aQ h) (a7 rfl rfl) (fun _ _ => rfl)) (a8) rfl) rfl rfl (by decide))
    exact aC
  case hbind => exact cf fun _ => rfl
  case hloc => decide +kernel
  case hcell => decide +kernel
  case h1 => kernel_rfl
  case h2 => kernel_rfl
  case h3 => kernel_rfl
noncomputable def iS : SF := sSeq (sRet (eOp2 oAdd (eOp2 oMul (eOp2 oItem (eN "octets") (eN "at")) (eK (.int 256))) (eOp2 oItem (eN "octets") (eOp2 oAdd (eN "at") (eK (.int 1))))))
 (sNil)
noncomputable def bo : FF := fnF ["octets", "at"] iS
theorem cP (h : KOk cx) : DenF cx 8 (.ref 82) bo := by
  refine @aW cx 7 82 ["octets", "at"] iS (O.nameOf (O.tp 17)) (Str.ofString "two_at") (O.argsOf (O.tp 17)) (O.bodyOf (O.tp 17)) (O.scopeOf (O.tp 17)) .none .none .none (O.S "pagebase.node_view" 277) (.ref 81) .none (.type "function") none none ⟨[]⟩ ?ho ?hcd ?hb ?hbind ?hloc ?hcell ?h1 ?h2 ?h3
  case ho => rw [h.hK]; kernel_rfl
  case hcd => rw [h.hK]; kernel_rfl
  case hb =>
    refine aA ?_ ?_
    · exact aR (aD (aD (ab (a7 rfl rfl) (a7 rfl rfl)) (aB) bI) (ab (a7 rfl rfl) (aD (a7 rfl rfl) (aB) aM)) aM)
    exact aC
  case hbind => exact eE fun _ _ => rfl
  case hloc => decide +kernel
  case hcell => decide +kernel
  case h1 => kernel_rfl
  case h2 => kernel_rfl
  case h3 => kernel_rfl
noncomputable def ck : SF := sSeq (sRet (eCall bo (eCons (eAttr 412 "data" (eN "self")) (eCons (eOp2 oAdd (eAttr 412 "base" (eN "self")) (eK (.int 3))) (eNil)))))
 (sNil)
noncomputable def ac : FF := fnF ["self"] ck
theorem aw (h : KOk cx) : DenF cx 9 (.ref 222) ac := by
  refine @aW cx 8 222 ["self"] ck (O.nameOf (O.mp 28 4)) (Str.ofString "NodeView.count") (O.argsOf (O.mp 28 4)) (O.bodyOf (O.mp 28 4)) (O.scopeOf (O.mp 28 4)) .none .none .none (O.S "pagebase.node_view" 277) (.ref 221) .none (.type "function") none none ⟨[]⟩ ?ho ?hcd ?hb ?hbind ?hloc ?hcell ?h1 ?h2 ?h3
  case ho => rw [h.hK]; kernel_rfl
  case hcd => rw [h.hK]; kernel_rfl
  case hb =>
    refine aA ?_ ?_
    · exact aR (aN (cQ h) (gd h) (cP h) (by decide) (de (aK (aQ h) (a7 rfl rfl) (fun _ _ => rfl)) (de (aD (aK (aV h) (a7 rfl rfl) (fun _ _ => rfl)) (aB) aM) (a8) rfl) rfl) rfl rfl)
    exact aC
  case hbind => exact cf fun _ => rfl
  case hloc => decide +kernel
  case hcell => decide +kernel
  case h1 => kernel_rfl
  case h2 => kernel_rfl
  case h3 => kernel_rfl
noncomputable def cB : SF := sSeq (sIf (tOf (eOp2 oGt (eOp2 oItem (eAttr 412 "data" (eN "self")) (eAttr 412 "base" (eN "self"))) (eK (.int 5)))) (sSeq (sRet (eOp2 oAdd (eAttr 412 "base" (eN "self")) (eK (.int 8))))
 (sNil)) (sNil))
 (sSeq (sRet (eOp2 oAdd (eAttr 412 "base" (eN "self")) (eK (.int 12))))
 (sNil))
noncomputable def ak : FF := fnF ["self"] cB
theorem b9 (h : KOk cx) : DenF cx 8 (.ref 229) ak := by
  refine @aW cx 7 229 ["self"] cB (O.nameOf (O.mp 28 5)) (Str.ofString "NodeView.pointers") (O.argsOf (O.mp 28 5)) (O.bodyOf (O.mp 28 5)) (O.scopeOf (O.mp 28 5)) .none .none .none (O.S "pagebase.node_view" 277) (.ref 228) .none (.type "function") none none ⟨[]⟩ ?ho ?hcd ?hb ?hbind ?hloc ?hcell ?h1 ?h2 ?h3
  case ho => rw [h.hK]; kernel_rfl
  case hcd => rw [h.hK]; kernel_rfl
  case hb =>
    refine aA ?_ ?_
    · exact aX (aL (ab (aK (aQ h) (a7 rfl rfl) (fun _ _ => rfl)) (aK (aV h) (a7 rfl rfl) (fun _ _ => rfl))) (aU (fQ h) rfl rfl) d5 (by with_unfolding_all rfl)) (aA (aR (aD (aK (aV h) (a7 rfl rfl) (fun _ _ => rfl)) (aB) aM)) (aC)) (aC)
    refine aA ?_ ?_
    · exact aR (aD (aK (aV h) (a7 rfl rfl) (fun _ _ => rfl)) (aB) aM)
    exact aC
  case hbind => exact cf fun _ => rfl
  case hloc => decide +kernel
  case hcell => decide +kernel
  case h1 => kernel_rfl
  case h2 => kernel_rfl
  case h3 => kernel_rfl
noncomputable def cn : SF := sSeq (sIf (tsOr (tOf (eOp2 oLt (eN "i") (eK (.int 0)))) (tsOr (tOf (eOp2 oGe (eN "i") (eMeth 412 "count" ac (eN "self") (eNil)))) (tsOrNil))) (sSeq (sFail)
 (sNil)) (sNil))
 (sSeq (sSet "first" (eMeth 412 "pointers" ak (eN "self") (eNil)))
 (sSeq (sSet "at" (eCall bo (eCons (eAttr 412 "data" (eN "self")) (eCons (eOp2 oAdd (eN "first") (eOp2 oMul (eK (.int 2)) (eN "i"))) (eNil)))))
 (sSeq (sIf (tsOr (tOf (eOp2 oLt (eN "at") (eOp2 oAdd (eN "first") (eOp2 oMul (eK (.int 2)) (eMeth 412 "count" ac (eN "self") (eNil)))))) (tsOr (tOf (eOp2 oGt (eOp2 oAdd (eN "at") (eK (.int 4))) (eAttr 412 "usable" (eN "self")))) (tsOrNil))) (sSeq (sFail)
 (sNil)) (sNil))
 (sSeq (sRet (eN "at"))
 (sNil)))))
noncomputable def bU : FF := fnF ["self", "i"] cn
theorem dH (h : KOk cx) : DenF cx 10 (.ref 264) bU := by
  refine @aW cx 9 264 ["self", "i"] cn (O.nameOf (O.mp 28 10)) (Str.ofString "NodeView.place") (O.argsOf (O.mp 28 10)) (O.bodyOf (O.mp 28 10)) (O.scopeOf (O.mp 28 10)) .none .none .none (O.S "pagebase.node_view" 277) (.ref 263) .none (.type "function") none none ⟨[]⟩ ?ho ?hcd ?hb ?hbind ?hloc ?hcell ?h1 ?h2 ?h3
  case ho => rw [h.hK]; kernel_rfl
  case hcd => rw [h.hK]; kernel_rfl
  case hb =>
    refine aA ?_ ?_
    · exact aX (bL (cK (aL (a7 rfl rfl) (aB) be (by with_unfolding_all rfl)) (cK (aL (a7 rfl rfl) (aO (bO h) (aw h) (by decide) (a7 rfl rfl) (a8) (fun _ _ => rfl) (fun _ _ _ => rfl)) fU (by with_unfolding_all rfl)) (cY)))) (aA (bR) (aC)) (aC)
    refine aA ?_ ?_
    · exact aJ (aO (bS h) (b9 h) (by decide) (a7 rfl rfl) (a8) (fun _ _ => rfl) (fun _ _ _ => rfl)) rfl (fun _ => rfl)
    refine aA ?_ ?_
    · exact aJ (aN (cQ h) (gd h) (cP h) (by decide) (de (aK (aQ h) (a7 rfl rfl) (fun _ _ => rfl)) (de (aD (a7 rfl rfl) (aD (aB) (a7 rfl rfl) bI) aM) (a8) rfl) rfl) rfl rfl) rfl (fun _ => rfl)
    refine aA ?_ ?_
    · exact aX (bL (cK (aL (a7 rfl rfl) (aD (a7 rfl rfl) (aD (aB) (aO (bO h) (aw h) (by decide) (a7 rfl rfl) (a8) (fun _ _ => rfl) (fun _ _ _ => rfl)) bI) aM) be (by with_unfolding_all rfl)) (cK (aL (aD (a7 rfl rfl) (aU (bE h) rfl rfl) aM) (aK (aj h) (a7 rfl rfl) (fun _ _ => rfl)) d5 (by with_unfolding_all rfl)) (cY)))) (aA (bR) (aC)) (aC)
    refine aA ?_ ?_
    · exact aR (a7 rfl rfl)
    exact aC
  case hbind => exact eE fun _ _ => rfl
  case hloc => decide +kernel
  case hcell => decide +kernel
  case h1 => kernel_rfl
  case h2 => kernel_rfl
  case h3 => kernel_rfl
noncomputable def dD : SF := sSeq (sSetAttr 169 "child" (eN "self") (eN "child"))
 (sSeq (sSetAttr 169 "rowid" (eN "self") (eN "rowid"))
 (sSeq (sSetAttr 169 "size" (eN "self") (eN "size"))
 (sSeq (sSetAttr 169 "local" (eN "self") (eN "local"))
 (sSeq (sSetAttr 169 "overflow" (eN "self") (eN "overflow"))
 (sNil)))))
noncomputable def bX : FF := fnF ["self", "child", "rowid", "size", "local", "overflow"] dD
theorem da (h : KOk cx) : DenF cx 8 (.ref 152) bX := by
  refine @aW cx 7 152 ["self", "child", "rowid", "size", "local", "overflow"] dD (O.nameOf (O.mp 26 0)) (Str.ofString "Cell.__init__") (O.argsOf (O.mp 26 0)) (O.bodyOf (O.mp 26 0)) (O.scopeOf (O.mp 26 0)) .none .none .none (O.S "pagebase.node_view" 277) (.ref 151) .none (.type "function") none none ⟨[]⟩ ?ho ?hcd ?hb ?hbind ?hloc ?hcell ?h1 ?h2 ?h3
  case ho => rw [h.hK]; kernel_rfl
  case hcd => rw [h.hK]; kernel_rfl
  case hb =>
    refine aA ?_ ?_
    · exact bP (jl h) (a7 rfl rfl) (a7 rfl rfl) (fun _ => rfl) (fun _ => rfl)
    refine aA ?_ ?_
    · exact bP (jn h) (a7 rfl rfl) (a7 rfl rfl) (fun _ => rfl) (fun _ => rfl)
    refine aA ?_ ?_
    · exact bP (kO h) (a7 rfl rfl) (a7 rfl rfl) (fun _ => rfl) (fun _ => rfl)
    refine aA ?_ ?_
    · exact bP (je h) (a7 rfl rfl) (a7 rfl rfl) (fun _ => rfl) (fun _ => rfl)
    refine aA ?_ ?_
    · exact bP (iZ h) (a7 rfl rfl) (a7 rfl rfl) (fun _ => rfl) (fun _ => rfl)
    exact aC
  case hbind => exact rJ fun _ _ _ _ _ _ => rfl
  case hloc => decide +kernel
  case hcell => decide +kernel
  case h1 => kernel_rfl
  case h2 => kernel_rfl
  case h3 => kernel_rfl
noncomputable def gk : SF := sSeq (sRet (eOp2 oAdd (eOp2 oMul (eCall bo (eCons (eN "octets") (eCons (eN "at") (eNil)))) (eK (.int 65536))) (eCall bo (eCons (eN "octets") (eCons (eOp2 oAdd (eN "at") (eK (.int 2))) (eNil))))))
 (sNil)
noncomputable def fA : FF := fnF ["octets", "at"] gk
theorem iP (h : KOk cx) : DenF cx 9 (.ref 89) fA := by
  refine @aW cx 8 89 ["octets", "at"] gk (O.nameOf (O.tp 18)) (Str.ofString "four_at") (O.argsOf (O.tp 18)) (O.bodyOf (O.tp 18)) (O.scopeOf (O.tp 18)) .none .none .none (O.S "pagebase.node_view" 277) (.ref 88) .none (.type "function") none none ⟨[]⟩ ?ho ?hcd ?hb ?hbind ?hloc ?hcell ?h1 ?h2 ?h3
  case ho => rw [h.hK]; kernel_rfl
  case hcd => rw [h.hK]; kernel_rfl
  case hb =>
    refine aA ?_ ?_
    · exact aR (aD (aD (aN (cQ h) (gd h) (cP h) (by decide) (de (a7 rfl rfl) (de (a7 rfl rfl) (a8) rfl) rfl) rfl rfl) (aB) bI) (aN (cQ h) (gd h) (cP h) (by decide) (de (a7 rfl rfl) (de (aD (a7 rfl rfl) (aB) aM) (a8) rfl) rfl) rfl rfl) aM)
    exact aC
  case hbind => exact eE fun _ _ => rfl
  case hloc => decide +kernel
  case hcell => decide +kernel
  case h1 => kernel_rfl
  case h2 => kernel_rfl
  case h3 => kernel_rfl
noncomputable def ef : SF := sSeq (sSet "number" (eK (.int 0)))
 (sSeq (sForR (bN "turn") (eCons (eK (.int 9)) (eNil)) (sSeq (sIf (tOf (eOp2 oGe (eN "at") (eCall cLen (eCons (eN "octets") (eNil))))) (sSeq (sFail)
 (sNil)) (sNil))
 (sSeq (sSet "octet" (eOp2 oItem (eN "octets") (eN "at")))
 (sSeq (sAug "at" oAddI (eK (.int 1)))
 (sSeq (sIf (tOf (eOp2 oEq (eN "turn") (eK (.int 8)))) (sSeq (sRet (eTup (eCons (eOp2 oOr (eOp2 oShl (eN "number") (eK (.int 8))) (eN "octet")) (eCons (eN "at") (eNil)))))
 (sNil)) (sNil))
 (sSeq (sSet "number" (eOp2 oOr (eOp2 oShl (eN "number") (eK (.int 7))) (eOp2 oAnd (eN "octet") (eK (.int 127)))))
 (sSeq (sIf (tOf (eOp2 oLt (eN "octet") (eK (.int 128)))) (sSeq (sRet (eTup (eCons (eN "number") (eCons (eN "at") (eNil)))))
 (sNil)) (sNil))
 (sNil))))))))
 (sSeq (sFail)
 (sNil)))
noncomputable def d9 : FF := fnF ["octets", "at"] ef
theorem fX (h : KOk cx) : DenF cx 8 (.ref 67) d9 := by
  refine @aW cx 7 67 ["octets", "at"] ef (O.nameOf (O.tp 8)) (Str.ofString "get_varint") (O.argsOf (O.tp 8)) (O.bodyOf (O.tp 8)) (O.scopeOf (O.tp 8)) .none .none .none (O.S "pagebase.records" 247) (.ref 66) .none (.type "function") none none ⟨[]⟩ ?ho ?hcd ?hb ?hbind ?hloc ?hcell ?h1 ?h2 ?h3
  case ho => rw [h.hK]; kernel_rfl
  case hcd => rw [h.hK]; kernel_rfl
  case hb =>
    refine aA ?_ ?_
    · exact aJ (aB) rfl (fun _ => rfl)
    refine aA ?_ ?_
    · exact bQ (de (aB) (a8) rfl) (bp rfl) (aA (aX (aL (a7 rfl rfl) (aP rfl bM rfl (bn h) (de (a7 rfl rfl) (a8) rfl) rfl rfl (by decide)) fU (by with_unfolding_all rfl)) (aA (bR) (aC)) (aC)) (aA (aJ (ab (a7 rfl rfl) (a7 rfl rfl)) rfl (fun _ => rfl)) (aA (i9 (aB) nO rfl) (aA (aX (aL (a7 rfl rfl) (aB) cw (by with_unfolding_all rfl)) (aA (aR (dQ (de (aD (aD (a7 rfl rfl) (aB) mP) (a7 rfl rfl) kv) (de (a7 rfl rfl) (a8) rfl) rfl))) (aC)) (aC)) (aA (aJ (aD (aD (a7 rfl rfl) (aB) mP) (aD (a7 rfl rfl) (aB) hY) kv) rfl (fun _ => rfl)) (aA (aX (aL (a7 rfl rfl) (aB) be (by with_unfolding_all rfl)) (aA (aR (dQ (de (a7 rfl rfl) (de (a7 rfl rfl) (a8) rfl) rfl))) (aC)) (aC)) (aC))))))) (d8 h) rfl
    refine aA ?_ ?_
    · exact bR
    exact aC
  case hbind => exact eE fun _ _ => rfl
  case hloc => decide +kernel
  case hcell => decide +kernel
  case h1 => kernel_rfl
  case h2 => kernel_rfl
  case h3 => kernel_rfl
noncomputable def gq : SF := sSeq (sRet (eOr (eOp2 oEq (eN "kind") (eK (.int 13))) (eOp2 oEq (eN "kind") (eK (.int 10)))))
 (sNil)
noncomputable def dG : FF := fnF ["kind"] gq
theorem gP (h : KOk cx) : DenF cx 8 (.ref 117) dG := by
  refine @aW cx 7 117 ["kind"] gq (O.nameOf (O.tp 22)) (Str.ofString "is_leaf") (O.argsOf (O.tp 22)) (O.bodyOf (O.tp 22)) (O.scopeOf (O.tp 22)) .none .none .none (O.S "pagebase.node_view" 277) (.ref 116) .none (.type "function") none none ⟨[]⟩ ?ho ?hcd ?hb ?hbind ?hloc ?hcell ?h1 ?h2 ?h3
  case ho => rw [h.hK]; kernel_rfl
  case hcd => rw [h.hK]; kernel_rfl
  case hb =>
    refine aA ?_ ?_
    · exact aR (iK (oA (fE (a7 rfl rfl) (aU (eP h) rfl rfl) cw (by with_unfolding_all rfl)) (kK (fE (a7 rfl rfl) (aU (lJ h) rfl rfl) cw (by with_unfolding_all rfl)))))
    exact aC
  case hbind => exact cf fun _ => rfl
  case hloc => decide +kernel
  case hcell => decide +kernel
  case h1 => kernel_rfl
  case h2 => kernel_rfl
  case h3 => kernel_rfl
noncomputable def fF : SF := sSeq (sIf (tOf (eOp2 oEq (eN "kind") (eK (.int 13)))) (sSeq (sRet (eOp2 oSub (eN "usable") (eK (.int 35))))
 (sNil)) (sNil))
 (sSeq (sRet (eCall cMax (eCons (eK (.int 1)) (eCons (eOp2 oSub (eOp2 oDiv (eOp2 oSub (eN "usable") (eK (.int 12))) (eK (.int 4))) (eK (.int 12))) (eNil)))))
 (sNil))
noncomputable def gE : FF := fnF ["kind", "usable"] fF
theorem li (h : KOk cx) : DenF cx 8 (.ref 124) gE := by
  refine @aW cx 7 124 ["kind", "usable"] fF (O.nameOf (O.tp 23)) (Str.ofString "max_local") (O.argsOf (O.tp 23)) (O.bodyOf (O.tp 23)) (O.scopeOf (O.tp 23)) .none .none .none (O.S "pagebase.node_view" 277) (.ref 123) .none (.type "function") none none ⟨[]⟩ ?ho ?hcd ?hb ?hbind ?hloc ?hcell ?h1 ?h2 ?h3
  case ho => rw [h.hK]; kernel_rfl
  case hcd => rw [h.hK]; kernel_rfl
  case hb =>
    refine aA ?_ ?_
    · exact aX (aL (a7 rfl rfl) (aU (eP h) rfl rfl) cw (by with_unfolding_all rfl)) (aA (aR (aD (a7 rfl rfl) (aB) ag)) (aC)) (aC)
    refine aA ?_ ?_
    · exact aR (aP rfl cz rfl (eO h) (de (aB) (de (aD (aD (aD (a7 rfl rfl) (aB) ag) (aB) fL) (aB) ag) (a8) rfl) rfl) rfl rfl (by decide))
    exact aC
  case hbind => exact eE fun _ _ => rfl
  case hloc => decide +kernel
  case hcell => decide +kernel
  case h1 => kernel_rfl
  case h2 => kernel_rfl
  case h3 => kernel_rfl
noncomputable def fO : SF := sSeq (sRet (eCall cMax (eCons (eK (.int 0)) (eCons (eOp2 oSub (eOp2 oDiv (eOp2 oSub (eN "usable") (eK (.int 12))) (eK (.int 8))) (eK (.int 12))) (eNil)))))
 (sNil)
noncomputable def fq : FF := fnF ["usable"] fO
theorem ky (h : KOk cx) : DenF cx 8 (.ref 131) fq := by
  refine @aW cx 7 131 ["usable"] fO (O.nameOf (O.tp 24)) (Str.ofString "min_local") (O.argsOf (O.tp 24)) (O.bodyOf (O.tp 24)) (O.scopeOf (O.tp 24)) .none .none .none (O.S "pagebase.node_view" 277) (.ref 130) .none (.type "function") none none ⟨[]⟩ ?ho ?hcd ?hb ?hbind ?hloc ?hcell ?h1 ?h2 ?h3
  case ho => rw [h.hK]; kernel_rfl
  case hcd => rw [h.hK]; kernel_rfl
  case hb =>
    refine aA ?_ ?_
    · exact aR (aP rfl cz rfl (eO h) (de (aB) (de (aD (aD (aD (a7 rfl rfl) (aB) ag) (aB) fL) (aB) ag) (a8) rfl) rfl) rfl rfl (by decide))
    exact aC
  case hbind => exact cf fun _ => rfl
  case hloc => decide +kernel
  case hcell => decide +kernel
  case h1 => kernel_rfl
  case h2 => kernel_rfl
  case h3 => kernel_rfl
noncomputable def eX : SF := sSeq (sSet "most" (eCall gE (eCons (eN "kind") (eCons (eN "usable") (eNil)))))
 (sSeq (sIf (tOf (eOp2 oLe (eN "size") (eN "most"))) (sSeq (sRet (eN "size"))
 (sNil)) (sNil))
 (sSeq (sSet "least" (eCall fq (eCons (eN "usable") (eNil))))
 (sSeq (sSet "surplus" (eOp2 oAdd (eN "least") (eOp2 oMod (eOp2 oSub (eN "size") (eN "least")) (eOp2 oSub (eN "usable") (eK (.int 4))))))
 (sSeq (sIf (tOf (eOp2 oLe (eN "surplus") (eN "most"))) (sSeq (sRet (eN "surplus"))
 (sNil)) (sNil))
 (sSeq (sRet (eN "least"))
 (sNil))))))
noncomputable def ds : FF := fnF ["kind", "usable", "size"] eX
theorem hV (h : KOk cx) : DenF cx 9 (.ref 138) ds := by
  refine @aW cx 8 138 ["kind", "usable", "size"] eX (O.nameOf (O.tp 25)) (Str.ofString "local_size") (O.argsOf (O.tp 25)) (O.bodyOf (O.tp 25)) (O.scopeOf (O.tp 25)) .none .none .none (O.S "pagebase.node_view" 277) (.ref 137) .none (.type "function") none none ⟨[]⟩ ?ho ?hcd ?hb ?hbind ?hloc ?hcell ?h1 ?h2 ?h3
  case ho => rw [h.hK]; kernel_rfl
  case hcd => rw [h.hK]; kernel_rfl
  case hb =>
    refine aA ?_ ?_
    · exact aJ (aN (lS h) (q8 h) (li h) (by decide) (de (a7 rfl rfl) (de (a7 rfl rfl) (a8) rfl) rfl) rfl rfl) rfl (fun _ => rfl)
    refine aA ?_ ?_
    · exact aX (aL (a7 rfl rfl) (a7 rfl rfl) mM (by with_unfolding_all rfl)) (aA (aR (a7 rfl rfl)) (aC)) (aC)
    refine aA ?_ ?_
    · exact aJ (aN (lL h) (qq h) (ky h) (by decide) (de (a7 rfl rfl) (a8) rfl) rfl rfl) rfl (fun _ => rfl)
    refine aA ?_ ?_
    · exact aJ (aD (a7 rfl rfl) (aD (aD (a7 rfl rfl) (a7 rfl rfl) ag) (aD (a7 rfl rfl) (aB) ag) dP) aM) rfl (fun _ => rfl)
    refine aA ?_ ?_
    · exact aX (aL (a7 rfl rfl) (a7 rfl rfl) mM (by with_unfolding_all rfl)) (aA (aR (a7 rfl rfl)) (aC)) (aC)
    refine aA ?_ ?_
    · exact aR (a7 rfl rfl)
    exact aC
  case hbind => exact k4 fun _ _ _ => rfl
  case hloc => decide +kernel
  case hcell => decide +kernel
  case h1 => kernel_rfl
  case h2 => kernel_rfl
  case h3 => kernel_rfl
noncomputable def iN : SF := sSeq (sIf (tOf (eOp2 oGe (eN "n") (eOp2 oDiv (eK (.int 18446744073709551616)) (eK (.int 2))))) (sSeq (sRet (eOp2 oSub (eN "n") (eK (.int 18446744073709551616))))
 (sNil)) (sNil))
 (sSeq (sRet (eN "n"))
 (sNil))
noncomputable def h9 : FF := fnF ["n"] iN
theorem la (h : KOk cx) : DenF cx 8 (.ref 74) h9 := by
  refine @aW cx 7 74 ["n"] iN (O.nameOf (O.tp 9)) (Str.ofString "signed") (O.argsOf (O.tp 9)) (O.bodyOf (O.tp 9)) (O.scopeOf (O.tp 9)) .none .none .none (O.S "pagebase.records" 247) (.ref 73) .none (.type "function") none none ⟨[]⟩ ?ho ?hcd ?hb ?hbind ?hloc ?hcell ?h1 ?h2 ?h3
  case ho => rw [h.hK]; kernel_rfl
  case hcd => rw [h.hK]; kernel_rfl
  case hb =>
    refine aA ?_ ?_
    · exact aX (aL (a7 rfl rfl) (aD (aU (mK h) rfl rfl) (aB) fL) fU (by with_unfolding_all rfl)) (aA (aR (aD (a7 rfl rfl) (aU (mK h) rfl rfl) ag)) (aC)) (aC)
    refine aA ?_ ?_
    · exact aR (a7 rfl rfl)
    exact aC
  case hbind => exact cf fun _ => rfl
  case hloc => decide +kernel
  case hcell => decide +kernel
  case h1 => kernel_rfl
  case h2 => kernel_rfl
  case h3 => kernel_rfl
noncomputable def cD : SF := sSeq (sSet "child" (eK (.int 0)))
 (sSeq (sSet "rowid" (eK .none))
 (sSeq (sSet "overflow" (eK (.int 0)))
 (sSeq (sIf (tNot (tOf (eCall dG (eCons (eN "kind") (eNil))))) (sSeq (sIf (tOf (eOp2 oGt (eOp2 oAdd (eN "at") (eK (.int 4))) (eCall cLen (eCons (eN "octets") (eNil))))) (sSeq (sFail)
 (sNil)) (sNil))
 (sSeq (sSet "child" (eCall fA (eCons (eN "octets") (eCons (eN "at") (eNil)))))
 (sSeq (sSet "at" (eOp2 oAdd (eN "at") (eK (.int 4))))
 (sNil)))) (sNil))
 (sSeq (sIf (tOf (eOp2 oEq (eN "kind") (eK (.int 5)))) (sSeq (sAsg (bT (bCons "number" (bCons "at" (bNil)))) (eCall d9 (eCons (eN "octets") (eCons (eN "at") (eNil)))))
 (sSeq (sRet (eTup (eCons (eNew 169 bX (eCons (eN "child") (eCons (eCall h9 (eCons (eN "number") (eNil))) (eCons (eK (.int 0)) (eCons (eK (.bytes [])) (eCons (eK (.int 0)) (eNil))))))) (eCons (eN "at") (eNil)))))
 (sNil))) (sNil))
 (sSeq (sAsg (bT (bCons "size" (bCons "at" (bNil)))) (eCall d9 (eCons (eN "octets") (eCons (eN "at") (eNil)))))
 (sSeq (sIf (tOf (eOp2 oEq (eN "kind") (eK (.int 13)))) (sSeq (sAsg (bT (bCons "number" (bCons "at" (bNil)))) (eCall d9 (eCons (eN "octets") (eCons (eN "at") (eNil)))))
 (sSeq (sSet "rowid" (eCall h9 (eCons (eN "number") (eNil))))
 (sNil))) (sNil))
 (sSeq (sSet "many" (eCall ds (eCons (eN "kind") (eCons (eN "usable") (eCons (eN "size") (eNil))))))
 (sSeq (sSet "local" (eCall cBytes (eCons (eCut (eN "octets") (oYes (eN "at")) (oYes (eOp2 oAdd (eN "at") (eN "many")))) (eNil))))
 (sSeq (sSet "at" (eOp2 oAdd (eN "at") (eN "many")))
 (sSeq (sIf (tOf (eOp2 oLt (eN "many") (eN "size"))) (sSeq (sIf (tOf (eOp2 oGt (eOp2 oAdd (eN "at") (eK (.int 4))) (eCall cLen (eCons (eN "octets") (eNil))))) (sSeq (sFail)
 (sNil)) (sNil))
 (sSeq (sSet "overflow" (eCall fA (eCons (eN "octets") (eCons (eN "at") (eNil)))))
 (sSeq (sSet "at" (eOp2 oAdd (eN "at") (eK (.int 4))))
 (sNil)))) (sNil))
 (sSeq (sIf (tsOr (tOf (eOp2 oGt (eN "at") (eCall cLen (eCons (eN "octets") (eNil))))) (tsOr (tOf (eOp2 oLt (eCall cLen (eCons (eN "local") (eNil))) (eN "many"))) (tsOrNil))) (sSeq (sFail)
 (sNil)) (sNil))
 (sSeq (sRet (eTup (eCons (eNew 169 bX (eCons (eN "child") (eCons (eN "rowid") (eCons (eN "size") (eCons (eN "local") (eCons (eN "overflow") (eNil))))))) (eCons (eN "at") (eNil)))))
 (sNil)))))))))))))
noncomputable def gJ : FF := fnF ["octets", "at", "kind", "usable"] cD
theorem lc (h : KOk cx) : DenF cx 11 (.ref 180) gJ := by
  refine @aW cx 10 180 ["octets", "at", "kind", "usable"] cD (O.nameOf (O.tp 27)) (Str.ofString "read_cell") (O.argsOf (O.tp 27)) (O.bodyOf (O.tp 27)) (O.scopeOf (O.tp 27)) .none .none .none (O.S "pagebase.node_view" 277) (.ref 179) .none (.type "function") none none ⟨[]⟩ ?ho ?hcd ?hb ?hbind ?hloc ?hcell ?h1 ?h2 ?h3
  case ho => rw [h.hK]; kernel_rfl
  case hcd => rw [h.hK]; kernel_rfl
  case hb =>
    refine aA ?_ ?_
    · exact aJ (aB) rfl (fun _ => rfl)
    refine aA ?_ ?_
    · exact aJ (oE) rfl (fun _ => rfl)
    refine aA ?_ ?_
    · exact aJ (aB) rfl (fun _ => rfl)
    refine aA ?_ ?_
    · exact aX (f6 (dx (aN (gR h) (ke h) (gP h) (by decide) (de (a7 rfl rfl) (a8) rfl) rfl rfl) (fun _ _ => rfl))) (aA (aX (aL (aD (a7 rfl rfl) (aB) aM) (aP rfl bM rfl (bn h) (de (a7 rfl rfl) (a8) rfl) rfl rfl (by decide)) d5 (by with_unfolding_all rfl)) (aA (bR) (aC)) (aC)) (aA (aJ (aN (iX h) (nf h) (iP h) (by decide) (de (a7 rfl rfl) (de (a7 rfl rfl) (a8) rfl) rfl) rfl rfl) rfl (fun _ => rfl)) (aA (aJ (aD (a7 rfl rfl) (aB) aM) rfl (fun _ => rfl)) (aC)))) (aC)
    refine aA ?_ ?_
    · exact aX (aL (a7 rfl rfl) (aU (fQ h) rfl rfl) cw (by with_unfolding_all rfl)) (aA (fP (aN (fW h) (oG h) (fX h) (by decide) (de (a7 rfl rfl) (de (a7 rfl rfl) (a8) rfl) rfl) rfl rfl) (ci (af (af (cA) rfl) rfl)) (fun _ => rfl) (fun _ => rfl) (fun _ => rfl)) (aA (aR (dQ (de (iz (n := 8) (lu h) (kI h) (km h) (kn h) (kJ h) (da h) (by decide) (de (a7 rfl rfl) (de (aN (lD h) (pk h) (la h) (by decide) (de (a7 rfl rfl) (a8) rfl) rfl rfl) (de (aB) (de (k3) (de (aB) (a8) rfl) rfl) rfl) rfl) rfl) rfl rfl) (de (a7 rfl rfl) (a8) rfl) rfl))) (aC))) (aC)
    refine aA ?_ ?_
    · exact fP (aN (fW h) (oG h) (fX h) (by decide) (de (a7 rfl rfl) (de (a7 rfl rfl) (a8) rfl) rfl) rfl rfl) (ci (af (af (cA) rfl) rfl)) (fun _ => rfl) (fun _ => rfl) (fun _ => rfl)
    refine aA ?_ ?_
    · exact aX (aL (a7 rfl rfl) (aU (eP h) rfl rfl) cw (by with_unfolding_all rfl)) (aA (fP (aN (fW h) (oG h) (fX h) (by decide) (de (a7 rfl rfl) (de (a7 rfl rfl) (a8) rfl) rfl) rfl rfl) (ci (af (af (cA) rfl) rfl)) (fun _ => rfl) (fun _ => rfl) (fun _ => rfl)) (aA (aJ (aN (lD h) (pk h) (la h) (by decide) (de (a7 rfl rfl) (a8) rfl) rfl rfl) rfl (fun _ => rfl)) (aC))) (aC)
    refine aA ?_ ?_
    · exact aJ (aN (iD h) (nX h) (hV h) (by decide) (de (a7 rfl rfl) (de (a7 rfl rfl) (de (a7 rfl rfl) (a8) rfl) rfl) rfl) rfl rfl) rfl (fun _ => rfl)
    refine aA ?_ ?_
    · exact aJ (aP rfl cG rfl (cj h) (de (gV (a7 rfl rfl) (bw (a7 rfl rfl)) (bw (aD (a7 rfl rfl) (a7 rfl rfl) aM))) (a8) rfl) rfl rfl (by decide)) rfl (fun _ => rfl)
    refine aA ?_ ?_
    · exact aJ (aD (a7 rfl rfl) (a7 rfl rfl) aM) rfl (fun _ => rfl)
    refine aA ?_ ?_
    · exact aX (aL (a7 rfl rfl) (a7 rfl rfl) be (by with_unfolding_all rfl)) (aA (aX (aL (aD (a7 rfl rfl) (aB) aM) (aP rfl bM rfl (bn h) (de (a7 rfl rfl) (a8) rfl) rfl rfl (by decide)) d5 (by with_unfolding_all rfl)) (aA (bR) (aC)) (aC)) (aA (aJ (aN (iX h) (nf h) (iP h) (by decide) (de (a7 rfl rfl) (de (a7 rfl rfl) (a8) rfl) rfl) rfl rfl) rfl (fun _ => rfl)) (aA (aJ (aD (a7 rfl rfl) (aB) aM) rfl (fun _ => rfl)) (aC)))) (aC)
    refine aA ?_ ?_
    · exact aX (bL (cK (aL (a7 rfl rfl) (aP rfl bM rfl (bn h) (de (a7 rfl rfl) (a8) rfl) rfl rfl (by decide)) d5 (by with_unfolding_all rfl)) (cK (aL (aP rfl bM rfl (bn h) (de (a7 rfl rfl) (a8) rfl) rfl rfl (by decide)) (a7 rfl rfl) be (by with_unfolding_all rfl)) (cY)))) (aA (bR) (aC)) (aC)
    refine aA ?_ ?_
    · exact aR (dQ (de (iz (n := 8) (lu h) (kI h) (km h) (kn h) (kJ h) (da h) (by decide) (de (a7 rfl rfl) (de (a7 rfl rfl) (de (a7 rfl rfl) (de (a7 rfl rfl) (de (a7 rfl rfl) (a8) rfl) rfl) rfl) rfl) rfl) rfl rfl) (de (a7 rfl rfl) (a8) rfl) rfl))
    exact aC
  case hbind => exact nj fun _ _ _ _ => rfl
  case hloc => decide +kernel
  case hcell => decide +kernel
  case h1 => kernel_rfl
  case h2 => kernel_rfl
  case h3 => kernel_rfl
noncomputable def dc : SF := sSeq (sSet "at" (eMeth 412 "place" bU (eN "self") (eCons (eN "i") (eNil))))
 (sSeq (sAsg (bT (bCons "cell" (bCons "end" (bNil)))) (eCall gJ (eCons (eAttr 412 "data" (eN "self")) (eCons (eN "at") (eCons (eMeth 412 "kind" bW (eN "self") (eNil)) (eCons (eAttr 412 "usable" (eN "self")) (eNil)))))))
 (sSeq (sRet (eCall cBytes (eCons (eCut (eAttr 412 "data" (eN "self")) (oYes (eN "at")) (oYes (eN "end"))) (eNil))))
 (sNil)))
noncomputable def bV : FF := fnF ["self", "i"] dc
theorem eF (h : KOk cx) : DenF cx 12 (.ref 278) bV := by
  refine @aW cx 11 278 ["self", "i"] dc (O.nameOf (O.mp 28 12)) (Str.ofString "NodeView.raw") (O.argsOf (O.mp 28 12)) (O.bodyOf (O.mp 28 12)) (O.scopeOf (O.mp 28 12)) .none .none .none (O.S "pagebase.node_view" 277) (.ref 277) .none (.type "function") none none ⟨[]⟩ ?ho ?hcd ?hb ?hbind ?hloc ?hcell ?h1 ?h2 ?h3
  case ho => rw [h.hK]; kernel_rfl
  case hcd => rw [h.hK]; kernel_rfl
  case hb =>
    refine aA ?_ ?_
    · exact aJ (aO (ei h) (dH h) (by decide) (a7 rfl rfl) (de (a7 rfl rfl) (a8) rfl) (fun _ _ => rfl) (fun _ _ _ => rfl)) rfl (fun _ => rfl)
    refine aA ?_ ?_
    · exact fP (aN (lC h) (qV h) (lc h) (by decide) (de (aK (aQ h) (a7 rfl rfl) (fun _ _ => rfl)) (de (a7 rfl rfl) (de (aO (dq h) (cS h) (by decide) (a7 rfl rfl) (a8) (fun _ _ => rfl) (fun _ _ _ => rfl)) (de (aK (aj h) (a7 rfl rfl) (fun _ _ => rfl)) (a8) rfl) rfl) rfl) rfl) rfl rfl) (ci (af (af (cA) rfl) rfl)) (fun _ => rfl) (fun _ => rfl) (fun _ => rfl)
    refine aA ?_ ?_
    · exact aR (aP rfl cG rfl (cj h) (de (gV (aK (aQ h) (a7 rfl rfl) (fun _ _ => rfl)) (bw (a7 rfl rfl)) (bw (a7 rfl rfl))) (a8) rfl) rfl rfl (by decide))
    exact aC
  case hbind => exact eE fun _ _ => rfl
  case hloc => decide +kernel
  case hcell => decide +kernel
  case h1 => kernel_rfl
  case h2 => kernel_rfl
  case h3 => kernel_rfl
noncomputable def bq : FF := fRaws 412 ac bV
theorem fg (h : KOk cx) : DenF cx 13 (.ref 283) bq := by
  refine @nb cx 12 412 283 222 278 ac bV 9 12 ?_ ?_ ?_ ?_ ?_ ?_ ?_ ?_ ?_ ?_ ?_ ?_ ?_ ?_ ?_ ?_ ?_ ?_ ?_ ?_ ?_ ?_ ?_ ?_ ?_ ?_ ?ho ?hcd ?hbind (bO h) (aw h) (by decide) (gL h) (eF h) (by decide) (d8 h) ?h1 ?h2
  case ho => rw [h.hK]; rfl
  case hcd => rw [h.hK]; rfl
  case hbind => intro v; rfl
  case h1 => intro _; rfl
  case h2 => intro _; rfl
noncomputable def dB : SF := sSeq (sRet (eCall fA (eCons (eAttr 412 "data" (eN "self")) (eCons (eOp2 oAdd (eAttr 412 "base" (eN "self")) (eK (.int 8))) (eNil)))))
 (sNil)
noncomputable def cC : FF := fnF ["self"] dB
theorem ew (h : KOk cx) : DenF cx 10 (.ref 250) cC := by
  refine @aW cx 9 250 ["self"] dB (O.nameOf (O.mp 28 8)) (Str.ofString "NodeView.right") (O.argsOf (O.mp 28 8)) (O.bodyOf (O.mp 28 8)) (O.scopeOf (O.mp 28 8)) .none .none .none (O.S "pagebase.node_view" 277) (.ref 249) .none (.type "function") none none ⟨[]⟩ ?ho ?hcd ?hb ?hbind ?hloc ?hcell ?h1 ?h2 ?h3
  case ho => rw [h.hK]; kernel_rfl
  case hcd => rw [h.hK]; kernel_rfl
  case hb =>
    refine aA ?_ ?_
    · exact aR (aN (iX h) (nf h) (iP h) (by decide) (de (aK (aQ h) (a7 rfl rfl) (fun _ _ => rfl)) (de (aD (aK (aV h) (a7 rfl rfl) (fun _ _ => rfl)) (aB) aM) (a8) rfl) rfl) rfl rfl)
    exact aC
  case hbind => exact cf fun _ => rfl
  case hloc => decide +kernel
  case hcell => decide +kernel
  case h1 => kernel_rfl
  case h2 => kernel_rfl
  case h3 => kernel_rfl
noncomputable def gx : SF := sSeq (sPut (eN "octets") (eN "at") (eOp2 oDiv (eN "number") (eK (.int 256))))
 (sSeq (sPut (eN "octets") (eOp2 oAdd (eN "at") (eK (.int 1))) (eOp2 oMod (eN "number") (eK (.int 256))))
 (sNil))
noncomputable def am : FF := fnF ["octets", "at", "number"] gx
theorem bA (h : KOk cx) : DenF cx 8 (.ref 96) am := by
  refine @aW cx 7 96 ["octets", "at", "number"] gx (O.nameOf (O.tp 19)) (Str.ofString "put_two") (O.argsOf (O.tp 19)) (O.bodyOf (O.tp 19)) (O.scopeOf (O.tp 19)) .none .none .none (O.S "pagebase.node_view" 277) (.ref 95) .none (.type "function") none none ⟨[]⟩ ?ho ?hcd ?hb ?hbind ?hloc ?hcell ?h1 ?h2 ?h3
  case ho => rw [h.hK]; kernel_rfl
  case hcd => rw [h.hK]; kernel_rfl
  case hb =>
    refine aA ?_ ?_
    · exact du (aD (a7 rfl rfl) (aB) fL) (a7 rfl rfl) (a7 rfl rfl) (fun _ => rfl) (fun _ => rfl) (fun _ _ _ => rfl)
    refine aA ?_ ?_
    · exact du (aD (a7 rfl rfl) (aB) dP) (a7 rfl rfl) (aD (a7 rfl rfl) (aB) aM) (fun _ => rfl) (fun _ => rfl) (fun _ _ _ => rfl)
    exact aC
  case hbind => exact k4 fun _ _ _ => rfl
  case hloc => decide +kernel
  case hcell => decide +kernel
  case h1 => kernel_rfl
  case h2 => kernel_rfl
  case h3 => kernel_rfl
noncomputable def eW : SF := sSeq (sPutCut (eAttr 412 "data" (eN "self")) (oYes (eAttr 412 "base" (eN "self"))) (oYes (eAttr 412 "usable" (eN "self"))) (eCall cBytes (eCons (eOp2 oSub (eAttr 412 "usable" (eN "self")) (eAttr 412 "base" (eN "self"))) (eNil))))
 (sSeq (sPut (eAttr 412 "data" (eN "self")) (eAttr 412 "base" (eN "self")) (eN "kind"))
 (sSeq (sDo (eCall am (eCons (eAttr 412 "data" (eN "self")) (eCons (eOp2 oAdd (eAttr 412 "base" (eN "self")) (eK (.int 5))) (eCons (eAttr 412 "usable" (eN "self")) (eNil))))))
 (sNil)))
noncomputable def dp : FF := fnF ["self", "kind"] eW
theorem i3 (h : KOk cx) : DenF cx 9 (.ref 339) dp := by
  refine @aW cx 8 339 ["self", "kind"] eW (O.nameOf (O.mp 31 1)) (Str.ofString "Node.clear") (O.argsOf (O.mp 31 1)) (O.bodyOf (O.mp 31 1)) (O.scopeOf (O.mp 31 1)) .none .none .none (O.S "pagebase.node" 608) (.ref 338) .none (.type "function") none none ⟨[]⟩ ?ho ?hcd ?hb ?hbind ?hloc ?hcell ?h1 ?h2 ?h3
  case ho => rw [h.hK]; kernel_rfl
  case hcd => rw [h.hK]; kernel_rfl
  case hb =>
    refine aA ?_ ?_
    · exact gu (n := 5) (aP rfl cG rfl (cj h) (de (aD (aK (aj h) (a7 rfl rfl) (fun _ _ => rfl)) (aK (aV h) (a7 rfl rfl) (fun _ _ => rfl)) ag) (a8) rfl) rfl rfl (by decide)) (aK (aQ h) (a7 rfl rfl) (fun _ _ => rfl)) (bw (aK (aV h) (a7 rfl rfl) (fun _ _ => rfl))) (bw (aK (aj h) (a7 rfl rfl) (fun _ _ => rfl))) (fun _ => rfl) (fun _ => rfl)
    refine aA ?_ ?_
    · exact du (a7 rfl rfl) (aK (aQ h) (a7 rfl rfl) (fun _ _ => rfl)) (aK (aV h) (a7 rfl rfl) (fun _ _ => rfl)) (fun _ => rfl) (fun _ => rfl) (fun _ _ _ => rfl)
    refine aA ?_ ?_
    · exact aa (aN (b7 h) (dh h) (bA h) (by decide) (de (aK (aQ h) (a7 rfl rfl) (fun _ _ => rfl)) (de (aD (aK (aV h) (a7 rfl rfl) (fun _ _ => rfl)) (aB) aM) (de (aK (aj h) (a7 rfl rfl) (fun _ _ => rfl)) (a8) rfl) rfl) rfl) rfl rfl) (fun _ => rfl)
    exact aC
  case hbind => exact eE fun _ _ => rfl
  case hloc => decide +kernel
  case hcell => decide +kernel
  case h1 => kernel_rfl
  case h2 => kernel_rfl
  case h3 => kernel_rfl
noncomputable def cM : SF := sSeq (sRet (eCall bo (eCons (eAttr 412 "data" (eN "self")) (eCons (eOp2 oAdd (eAttr 412 "base" (eN "self")) (eK (.int 5))) (eNil)))))
 (sNil)
noncomputable def ai : FF := fnF ["self"] cM
theorem ar (h : KOk cx) : DenF cx 9 (.ref 236) ai := by
  refine @aW cx 8 236 ["self"] cM (O.nameOf (O.mp 28 6)) (Str.ofString "NodeView.content") (O.argsOf (O.mp 28 6)) (O.bodyOf (O.mp 28 6)) (O.scopeOf (O.mp 28 6)) .none .none .none (O.S "pagebase.node_view" 277) (.ref 235) .none (.type "function") none none ⟨[]⟩ ?ho ?hcd ?hb ?hbind ?hloc ?hcell ?h1 ?h2 ?h3
  case ho => rw [h.hK]; kernel_rfl
  case hcd => rw [h.hK]; kernel_rfl
  case hb =>
    refine aA ?_ ?_
    · exact aR (aN (cQ h) (gd h) (cP h) (by decide) (de (aK (aQ h) (a7 rfl rfl) (fun _ _ => rfl)) (de (aD (aK (aV h) (a7 rfl rfl) (fun _ _ => rfl)) (aB) aM) (a8) rfl) rfl) rfl rfl)
    exact aC
  case hbind => exact cf fun _ => rfl
  case hloc => decide +kernel
  case hcell => decide +kernel
  case h1 => kernel_rfl
  case h2 => kernel_rfl
  case h3 => kernel_rfl
noncomputable def cU : SF := sSeq (sSet "found" (eList (eNil)))
 (sSeq (sSet "at" (eCall bo (eCons (eAttr 412 "data" (eN "self")) (eCons (eOp2 oAdd (eAttr 412 "base" (eN "self")) (eK (.int 1))) (eNil)))))
 (sSeq (sSet "behind" (eK (.int 0)))
 (sSeq (whileF (tOf (eOp2 oNe (eN "at") (eK (.int 0)))) (sSeq (sIf (tsOr (tOf (eOp2 oLt (eN "at") (eN "behind"))) (tsOr (tOf (eOp2 oLt (eN "at") (eMeth 412 "content" ai (eN "self") (eNil)))) (tsOr (tOf (eOp2 oGt (eOp2 oAdd (eN "at") (eK (.int 4))) (eAttr 412 "usable" (eN "self")))) (tsOrNil)))) (sSeq (sFail)
 (sNil)) (sNil))
 (sSeq (sSet "size" (eCall bo (eCons (eAttr 412 "data" (eN "self")) (eCons (eOp2 oAdd (eN "at") (eK (.int 2))) (eNil)))))
 (sSeq (sIf (tsOr (tOf (eOp2 oLt (eN "size") (eK (.int 4)))) (tsOr (tOf (eOp2 oGt (eOp2 oAdd (eN "at") (eN "size")) (eAttr 412 "usable" (eN "self")))) (tsOrNil))) (sSeq (sFail)
 (sNil)) (sNil))
 (sSeq (sDo (eLMeth mAppend (eN "found") (eCons (eTup (eCons (eN "at") (eCons (eN "size") (eNil)))) (eNil))))
 (sSeq (sSet "behind" (eOp2 oAdd (eN "at") (eN "size")))
 (sSeq (sSet "at" (eCall bo (eCons (eAttr 412 "data" (eN "self")) (eCons (eN "at") (eNil)))))
 (sNil))))))) 100)
 (sSeq (sRet (eN "found"))
 (sNil)))))
noncomputable def bG : FF := fnF ["self"] cU
theorem bz (h : KOk cx) : DenF cx 10 (.ref 311) bG := by
  refine @aW cx 9 311 ["self"] cU (O.nameOf (O.mp 28 17)) (Str.ofString "NodeView.blocks") (O.argsOf (O.mp 28 17)) (O.bodyOf (O.mp 28 17)) (O.scopeOf (O.mp 28 17)) .none .none .none (O.S "pagebase.node_view" 277) (.ref 310) .none (.type "function") none none ⟨[]⟩ ?ho ?hcd ?hb ?hbind ?hloc ?hcell ?h1 ?h2 ?h3
  case ho => rw [h.hK]; kernel_rfl
  case hcd => rw [h.hK]; kernel_rfl
  case hb =>
    refine aA ?_ ?_
    · exact aJ (aq (a8)) rfl (fun _ => rfl)
    refine aA ?_ ?_
    · exact aJ (aN (cQ h) (gd h) (cP h) (by decide) (de (aK (aQ h) (a7 rfl rfl) (fun _ _ => rfl)) (de (aD (aK (aV h) (a7 rfl rfl) (fun _ _ => rfl)) (aB) aM) (a8) rfl) rfl) rfl rfl) rfl (fun _ => rfl)
    refine aA ?_ ?_
    · exact aJ (aB) rfl (fun _ => rfl)
    refine aA ?_ ?_
    · exact jy 100 (aL (a7 rfl rfl) (aB) eL (by with_unfolding_all rfl)) (aA (aX (bL (cK (aL (a7 rfl rfl) (a7 rfl rfl) be (by with_unfolding_all rfl)) (cK (aL (a7 rfl rfl) (aO (bK h) (ar h) (by decide) (a7 rfl rfl) (a8) (fun _ _ => rfl) (fun _ _ _ => rfl)) be (by with_unfolding_all rfl)) (cK (aL (aD (a7 rfl rfl) (aU (bE h) rfl rfl) aM) (aK (aj h) (a7 rfl rfl) (fun _ _ => rfl)) d5 (by with_unfolding_all rfl)) (cY))))) (aA (bR) (aC)) (aC)) (aA (aJ (aN (cQ h) (gd h) (cP h) (by decide) (de (aK (aQ h) (a7 rfl rfl) (fun _ _ => rfl)) (de (aD (a7 rfl rfl) (aB) aM) (a8) rfl) rfl) rfl rfl) rfl (fun _ => rfl)) (aA (aX (bL (cK (aL (a7 rfl rfl) (aU (bE h) rfl rfl) be (by with_unfolding_all rfl)) (cK (aL (aD (a7 rfl rfl) (a7 rfl rfl) aM) (aK (aj h) (a7 rfl rfl) (fun _ _ => rfl)) d5 (by with_unfolding_all rfl)) (cY)))) (aA (bR) (aC)) (aC)) (aA (aa (bC PySem.F.slot_list_append PySem.F.type_list_append bD (a7 rfl rfl) (de (dQ (de (a7 rfl rfl) (de (a7 rfl rfl) (a8) rfl) rfl)) (a8) rfl) (fun _ _ => rfl) (fun _ _ _ => rfl)) (fun _ => rfl)) (aA (aJ (aD (a7 rfl rfl) (a7 rfl rfl) aM) rfl (fun _ => rfl)) (aA (aJ (aN (cQ h) (gd h) (cP h) (by decide) (de (aK (aQ h) (a7 rfl rfl) (fun _ _ => rfl)) (de (a7 rfl rfl) (a8) rfl) rfl) rfl rfl) rfl (fun _ => rfl)) (aC)))))))
    refine aA ?_ ?_
    · exact aR (a7 rfl rfl)
    exact aC
  case hbind => exact cf fun _ => rfl
  case hloc => decide +kernel
  case hcell => decide +kernel
  case h1 => kernel_rfl
  case h2 => kernel_rfl
  case h3 => kernel_rfl
noncomputable def bu : SF := sSeq (sRet (eOp2 oItem (eAttr 412 "data" (eN "self")) (eOp2 oAdd (eAttr 412 "base" (eN "self")) (eK (.int 7)))))
 (sNil)
noncomputable def al : FF := fnF ["self"] bu
theorem bF (h : KOk cx) : DenF cx 8 (.ref 243) al := by
  refine @aW cx 7 243 ["self"] bu (O.nameOf (O.mp 28 7)) (Str.ofString "NodeView.fragments") (O.argsOf (O.mp 28 7)) (O.bodyOf (O.mp 28 7)) (O.scopeOf (O.mp 28 7)) .none .none .none (O.S "pagebase.node_view" 277) (.ref 242) .none (.type "function") none none ⟨[]⟩ ?ho ?hcd ?hb ?hbind ?hloc ?hcell ?h1 ?h2 ?h3
  case ho => rw [h.hK]; kernel_rfl
  case hcd => rw [h.hK]; kernel_rfl
  case hb =>
    refine aA ?_ ?_
    · exact aR (ab (aK (aQ h) (a7 rfl rfl) (fun _ _ => rfl)) (aD (aK (aV h) (a7 rfl rfl) (fun _ _ => rfl)) (aB) aM))
    exact aC
  case hbind => exact cf fun _ => rfl
  case hloc => decide +kernel
  case hcell => decide +kernel
  case h1 => kernel_rfl
  case h2 => kernel_rfl
  case h3 => kernel_rfl
noncomputable def g9 : SF := sSeq (sRet (eOp2 oSub (eOp2 oSub (eMeth 412 "content" ai (eN "self") (eNil)) (eMeth 412 "pointers" ak (eN "self") (eNil))) (eOp2 oMul (eK (.int 2)) (eMeth 412 "count" ac (eN "self") (eNil)))))
 (sNil)
noncomputable def eI : FF := fnF ["self"] g9
theorem gp (h : KOk cx) : DenF cx 10 (.ref 346) eI := by
  refine @aW cx 9 346 ["self"] g9 (O.nameOf (O.mp 31 2)) (Str.ofString "Node.gap") (O.argsOf (O.mp 31 2)) (O.bodyOf (O.mp 31 2)) (O.scopeOf (O.mp 31 2)) .none .none .none (O.S "pagebase.node" 608) (.ref 345) .none (.type "function") none none ⟨[]⟩ ?ho ?hcd ?hb ?hbind ?hloc ?hcell ?h1 ?h2 ?h3
  case ho => rw [h.hK]; kernel_rfl
  case hcd => rw [h.hK]; kernel_rfl
  case hb =>
    refine aA ?_ ?_
    · exact aR (aD (aD (aO (bK h) (ar h) (by decide) (a7 rfl rfl) (a8) (fun _ _ => rfl) (fun _ _ _ => rfl)) (aO (bS h) (b9 h) (by decide) (a7 rfl rfl) (a8) (fun _ _ => rfl) (fun _ _ _ => rfl)) ag) (aD (aB) (aO (bO h) (aw h) (by decide) (a7 rfl rfl) (a8) (fun _ _ => rfl) (fun _ _ _ => rfl)) bI) ag)
    exact aC
  case hbind => exact cf fun _ => rfl
  case hloc => decide +kernel
  case hcell => decide +kernel
  case h1 => kernel_rfl
  case h2 => kernel_rfl
  case h3 => kernel_rfl
noncomputable def fH : SF := sSeq (sSet "free" (eOp2 oAdd (eMeth 412 "gap" eI (eN "self") (eNil)) (eMeth 412 "fragments" al (eN "self") (eNil))))
 (sSeq (sForL (bT (bCons "at" (bCons "size" (bNil)))) (eMeth 412 "blocks" bG (eN "self") (eNil)) (sSeq (sSet "free" (eOp2 oAdd (eN "free") (eN "size")))
 (sNil)))
 (sSeq (sRet (eN "free"))
 (sNil)))
noncomputable def dZ : FF := fnF ["self"] fH
theorem io (h : KOk cx) : DenF cx 11 (.ref 360) dZ := by
  refine @aW cx 10 360 ["self"] fH (O.nameOf (O.mp 31 4)) (Str.ofString "Node.room") (O.argsOf (O.mp 31 4)) (O.bodyOf (O.mp 31 4)) (O.scopeOf (O.mp 31 4)) .none .none .none (O.S "pagebase.node" 608) (.ref 359) .none (.type "function") none none ⟨[]⟩ ?ho ?hcd ?hb ?hbind ?hloc ?hcell ?h1 ?h2 ?h3
  case ho => rw [h.hK]; kernel_rfl
  case hcd => rw [h.hK]; kernel_rfl
  case hb =>
    refine aA ?_ ?_
    · exact aJ (aD (aO (gH h) (gp h) (by decide) (a7 rfl rfl) (a8) (fun _ _ => rfl) (fun _ _ _ => rfl)) (aO (bZ h) (bF h) (by decide) (a7 rfl rfl) (a8) (fun _ _ => rfl) (fun _ _ _ => rfl)) aM) rfl (fun _ => rfl)
    refine aA ?_ ?_
    · exact dA (aO (d4 h) (bz h) (by decide) (a7 rfl rfl) (a8) (fun _ _ => rfl) (fun _ _ _ => rfl)) (ci (af (af (cA) rfl) rfl)) (aA (aJ (aD (a7 rfl rfl) (a7 rfl rfl) aM) rfl (fun _ => rfl)) (aC)) (fun _ _ => rfl)
    refine aA ?_ ?_
    · exact aR (a7 rfl rfl)
    exact aC
  case hbind => exact cf fun _ => rfl
  case hloc => decide +kernel
  case hcell => decide +kernel
  case h1 => kernel_rfl
  case h2 => kernel_rfl
  case h3 => kernel_rfl
noncomputable def g8 : SF := sSeq (sDo (eCall am (eCons (eN "octets") (eCons (eN "at") (eCons (eOp2 oDiv (eN "number") (eK (.int 65536))) (eNil))))))
 (sSeq (sDo (eCall am (eCons (eN "octets") (eCons (eOp2 oAdd (eN "at") (eK (.int 2))) (eCons (eOp2 oMod (eN "number") (eK (.int 65536))) (eNil))))))
 (sNil))
noncomputable def fM : FF := fnF ["octets", "at", "number"] g8
theorem jP (h : KOk cx) : DenF cx 9 (.ref 103) fM := by
  refine @aW cx 8 103 ["octets", "at", "number"] g8 (O.nameOf (O.tp 20)) (Str.ofString "put_four") (O.argsOf (O.tp 20)) (O.bodyOf (O.tp 20)) (O.scopeOf (O.tp 20)) .none .none .none (O.S "pagebase.node_view" 277) (.ref 102) .none (.type "function") none none ⟨[]⟩ ?ho ?hcd ?hb ?hbind ?hloc ?hcell ?h1 ?h2 ?h3
  case ho => rw [h.hK]; kernel_rfl
  case hcd => rw [h.hK]; kernel_rfl
  case hb =>
    refine aA ?_ ?_
    · exact aa (aN (b7 h) (dh h) (bA h) (by decide) (de (a7 rfl rfl) (de (a7 rfl rfl) (de (aD (a7 rfl rfl) (aB) fL) (a8) rfl) rfl) rfl) rfl rfl) (fun _ => rfl)
    refine aA ?_ ?_
    · exact aa (aN (b7 h) (dh h) (bA h) (by decide) (de (a7 rfl rfl) (de (aD (a7 rfl rfl) (aB) aM) (de (aD (a7 rfl rfl) (aB) dP) (a8) rfl) rfl) rfl) rfl rfl) (fun _ => rfl)
    exact aC
  case hbind => exact k4 fun _ _ _ => rfl
  case hloc => decide +kernel
  case hcell => decide +kernel
  case h1 => kernel_rfl
  case h2 => kernel_rfl
  case h3 => kernel_rfl
noncomputable def co : SF := sSeq (sDo (eCall fM (eCons (eAttr 412 "data" (eN "self")) (eCons (eOp2 oAdd (eAttr 412 "base" (eN "self")) (eK (.int 8))) (eCons (eN "page") (eNil))))))
 (sNil)
noncomputable def cJ : FF := fnF ["self", "page"] co
theorem eu (h : KOk cx) : DenF cx 10 (.ref 332) cJ := by
  refine @aW cx 9 332 ["self", "page"] co (O.nameOf (O.mp 31 0)) (Str.ofString "Node.set_right") (O.argsOf (O.mp 31 0)) (O.bodyOf (O.mp 31 0)) (O.scopeOf (O.mp 31 0)) .none .none .none (O.S "pagebase.node" 608) (.ref 331) .none (.type "function") none none ⟨[]⟩ ?ho ?hcd ?hb ?hbind ?hloc ?hcell ?h1 ?h2 ?h3
  case ho => rw [h.hK]; kernel_rfl
  case hcd => rw [h.hK]; kernel_rfl
  case hb =>
    refine aA ?_ ?_
    · exact aa (aN (jF h) (np h) (jP h) (by decide) (de (aK (aQ h) (a7 rfl rfl) (fun _ _ => rfl)) (de (aD (aK (aV h) (a7 rfl rfl) (fun _ _ => rfl)) (aB) aM) (de (a7 rfl rfl) (a8) rfl) rfl) rfl) rfl rfl) (fun _ => rfl)
    exact aC
  case hbind => exact eE fun _ _ => rfl
  case hloc => decide +kernel
  case hcell => decide +kernel
  case h1 => kernel_rfl
  case h2 => kernel_rfl
  case h3 => kernel_rfl
noncomputable def df : SF := sSeq (sSet "kind" (eMeth 412 "kind" bW (eN "self") (eNil)))
 (sSeq (sSet "right" (eK (.int 0)))
 (sSeq (sIf (tNot (tOf (eCall dG (eCons (eN "kind") (eNil))))) (sSeq (sSet "right" (eMeth 412 "right" cC (eN "self") (eNil)))
 (sNil)) (sNil))
 (sSeq (sDo (eMeth 412 "clear" dp (eN "self") (eCons (eN "kind") (eNil))))
 (sSeq (sIf (tNot (tOf (eCall dG (eCons (eN "kind") (eNil))))) (sSeq (sDo (eMeth 412 "set_right" cJ (eN "self") (eCons (eN "right") (eNil))))
 (sNil)) (sNil))
 (sSeq (sSet "at" (eAttr 412 "usable" (eN "self")))
 (sSeq (sSet "pointers" (eMeth 412 "pointers" ak (eN "self") (eNil)))
 (sSeq (sForR (bN "i") (eCons (eCall cLen (eCons (eN "raws") (eNil))) (eNil)) (sSeq (sSet "raw" (eOp2 oItem (eN "raws") (eN "i")))
 (sSeq (sSet "at" (eOp2 oSub (eN "at") (eCall cMax (eCons (eK (.int 4)) (eCons (eCall cLen (eCons (eN "raw") (eNil))) (eNil))))))
 (sSeq (sIf (tOf (eOp2 oLt (eN "at") (eOp2 oAdd (eN "pointers") (eOp2 oMul (eK (.int 2)) (eCall cLen (eCons (eN "raws") (eNil))))))) (sSeq (sFail)
 (sNil)) (sNil))
 (sSeq (sPutCut (eAttr 412 "data" (eN "self")) (oYes (eN "at")) (oYes (eOp2 oAdd (eN "at") (eCall cLen (eCons (eN "raw") (eNil))))) (eN "raw"))
 (sSeq (sDo (eCall am (eCons (eAttr 412 "data" (eN "self")) (eCons (eOp2 oAdd (eN "pointers") (eOp2 oMul (eK (.int 2)) (eN "i"))) (eCons (eN "at") (eNil))))))
 (sNil)))))))
 (sSeq (sDo (eCall am (eCons (eAttr 412 "data" (eN "self")) (eCons (eOp2 oAdd (eAttr 412 "base" (eN "self")) (eK (.int 3))) (eCons (eCall cLen (eCons (eN "raws") (eNil))) (eNil))))))
 (sSeq (sDo (eCall am (eCons (eAttr 412 "data" (eN "self")) (eCons (eOp2 oAdd (eAttr 412 "base" (eN "self")) (eK (.int 5))) (eCons (eN "at") (eNil))))))
 (sNil))))))))))
noncomputable def cm : FF := fnF ["self", "raws"] df
theorem gD (h : KOk cx) : DenF cx 11 (.ref 388) cm := by
  refine @aW cx 10 388 ["self", "raws"] df (O.nameOf (O.mp 31 8)) (Str.ofString "Node.put_all") (O.argsOf (O.mp 31 8)) (O.bodyOf (O.mp 31 8)) (O.scopeOf (O.mp 31 8)) .none .none .none (O.S "pagebase.node" 608) (.ref 387) .none (.type "function") none none ⟨[]⟩ ?ho ?hcd ?hb ?hbind ?hloc ?hcell ?h1 ?h2 ?h3
  case ho => rw [h.hK]; kernel_rfl
  case hcd => rw [h.hK]; kernel_rfl
  case hb =>
    refine aA ?_ ?_
    · exact aJ (aO (dq h) (cS h) (by decide) (a7 rfl rfl) (a8) (fun _ _ => rfl) (fun _ _ _ => rfl)) rfl (fun _ => rfl)
    refine aA ?_ ?_
    · exact aJ (aB) rfl (fun _ => rfl)
    refine aA ?_ ?_
    · exact aX (f6 (dx (aN (gR h) (ke h) (gP h) (by decide) (de (a7 rfl rfl) (a8) rfl) rfl rfl) (fun _ _ => rfl))) (aA (aJ (aO (gZ h) (ew h) (by decide) (a7 rfl rfl) (a8) (fun _ _ => rfl) (fun _ _ _ => rfl)) rfl (fun _ => rfl)) (aC)) (aC)
    refine aA ?_ ?_
    · exact aa (aO (gf h) (i3 h) (by decide) (a7 rfl rfl) (de (a7 rfl rfl) (a8) rfl) (fun _ _ => rfl) (fun _ _ _ => rfl)) (fun _ => rfl)
    refine aA ?_ ?_
    · exact aX (f6 (dx (aN (gR h) (ke h) (gP h) (by decide) (de (a7 rfl rfl) (a8) rfl) rfl rfl) (fun _ _ => rfl))) (aA (aa (aO (eU h) (eu h) (by decide) (a7 rfl rfl) (de (a7 rfl rfl) (a8) rfl) (fun _ _ => rfl) (fun _ _ _ => rfl)) (fun _ => rfl)) (aC)) (aC)
    refine aA ?_ ?_
    · exact aJ (aK (aj h) (a7 rfl rfl) (fun _ _ => rfl)) rfl (fun _ => rfl)
    refine aA ?_ ?_
    · exact aJ (aO (bS h) (b9 h) (by decide) (a7 rfl rfl) (a8) (fun _ _ => rfl) (fun _ _ _ => rfl)) rfl (fun _ => rfl)
    refine aA ?_ ?_
    · exact bQ (de (aP rfl bM rfl (bn h) (de (a7 rfl rfl) (a8) rfl) rfl rfl (by decide)) (a8) rfl) (bp rfl) (aA (aJ (ab (a7 rfl rfl) (a7 rfl rfl)) rfl (fun _ => rfl)) (aA (aJ (aD (a7 rfl rfl) (aP rfl cz rfl (eO h) (de (aU (bE h) rfl rfl) (de (aP rfl bM rfl (bn h) (de (a7 rfl rfl) (a8) rfl) rfl rfl (by decide)) (a8) rfl) rfl) rfl rfl (by decide)) ag) rfl (fun _ => rfl)) (aA (aX (aL (a7 rfl rfl) (aD (a7 rfl rfl) (aD (aB) (aP rfl bM rfl (bn h) (de (a7 rfl rfl) (a8) rfl) rfl rfl (by decide)) bI) aM) be (by with_unfolding_all rfl)) (aA (bR) (aC)) (aC)) (aA (gu (n := 7) (a7 rfl rfl) (aK (aQ h) (a7 rfl rfl) (fun _ _ => rfl)) (bw (a7 rfl rfl)) (bw (aD (a7 rfl rfl) (aP rfl bM rfl (bn h) (de (a7 rfl rfl) (a8) rfl) rfl rfl (by decide)) aM)) (fun _ => rfl) (fun _ => rfl)) (aA (aa (aN (b7 h) (dh h) (bA h) (by decide) (de (aK (aQ h) (a7 rfl rfl) (fun _ _ => rfl)) (de (aD (a7 rfl rfl) (aD (aB) (a7 rfl rfl) bI) aM) (de (a7 rfl rfl) (a8) rfl) rfl) rfl) rfl rfl) (fun _ => rfl)) (aC)))))) (d8 h) rfl
    refine aA ?_ ?_
    · exact aa (aN (b7 h) (dh h) (bA h) (by decide) (de (aK (aQ h) (a7 rfl rfl) (fun _ _ => rfl)) (de (aD (aK (aV h) (a7 rfl rfl) (fun _ _ => rfl)) (aB) aM) (de (aP rfl bM rfl (bn h) (de (a7 rfl rfl) (a8) rfl) rfl rfl (by decide)) (a8) rfl) rfl) rfl) rfl rfl) (fun _ => rfl)
    refine aA ?_ ?_
    · exact aa (aN (b7 h) (dh h) (bA h) (by decide) (de (aK (aQ h) (a7 rfl rfl) (fun _ _ => rfl)) (de (aD (aK (aV h) (a7 rfl rfl) (fun _ _ => rfl)) (aB) aM) (de (a7 rfl rfl) (a8) rfl) rfl) rfl) rfl rfl) (fun _ => rfl)
    exact aC
  case hbind => exact eE fun _ _ => rfl
  case hloc => decide +kernel
  case hcell => decide +kernel
  case h1 => kernel_rfl
  case h2 => kernel_rfl
  case h3 => kernel_rfl
noncomputable def cZ : SF := sSeq (sSet "behind" (eOp2 oAdd (eAttr 412 "base" (eN "self")) (eK (.int 1))))
 (sSeq (sForL (bT (bCons "at" (bCons "size" (bNil)))) (eN "blocks") (sSeq (sDo (eCall am (eCons (eAttr 412 "data" (eN "self")) (eCons (eN "behind") (eCons (eN "at") (eNil))))))
 (sSeq (sDo (eCall am (eCons (eAttr 412 "data" (eN "self")) (eCons (eOp2 oAdd (eN "at") (eK (.int 2))) (eCons (eN "size") (eNil))))))
 (sSeq (sSet "behind" (eN "at"))
 (sNil)))))
 (sSeq (sDo (eCall am (eCons (eAttr 412 "data" (eN "self")) (eCons (eN "behind") (eCons (eK (.int 0)) (eNil))))))
 (sNil)))
noncomputable def bY : FF := fnF ["self", "blocks"] cZ
theorem d7 (h : KOk cx) : DenF cx 9 (.ref 353) bY := by
  refine @aW cx 8 353 ["self", "blocks"] cZ (O.nameOf (O.mp 31 3)) (Str.ofString "Node.set_blocks") (O.argsOf (O.mp 31 3)) (O.bodyOf (O.mp 31 3)) (O.scopeOf (O.mp 31 3)) .none .none .none (O.S "pagebase.node" 608) (.ref 352) .none (.type "function") none none ⟨[]⟩ ?ho ?hcd ?hb ?hbind ?hloc ?hcell ?h1 ?h2 ?h3
  case ho => rw [h.hK]; kernel_rfl
  case hcd => rw [h.hK]; kernel_rfl
  case hb =>
    refine aA ?_ ?_
    · exact aJ (aD (aK (aV h) (a7 rfl rfl) (fun _ _ => rfl)) (aB) aM) rfl (fun _ => rfl)
    refine aA ?_ ?_
    · exact dA (a7 rfl rfl) (ci (af (af (cA) rfl) rfl)) (aA (aa (aN (b7 h) (dh h) (bA h) (by decide) (de (aK (aQ h) (a7 rfl rfl) (fun _ _ => rfl)) (de (a7 rfl rfl) (de (a7 rfl rfl) (a8) rfl) rfl) rfl) rfl rfl) (fun _ => rfl)) (aA (aa (aN (b7 h) (dh h) (bA h) (by decide) (de (aK (aQ h) (a7 rfl rfl) (fun _ _ => rfl)) (de (aD (a7 rfl rfl) (aB) aM) (de (a7 rfl rfl) (a8) rfl) rfl) rfl) rfl rfl) (fun _ => rfl)) (aA (aJ (a7 rfl rfl) rfl (fun _ => rfl)) (aC)))) (fun _ _ => rfl)
    refine aA ?_ ?_
    · exact aa (aN (b7 h) (dh h) (bA h) (by decide) (de (aK (aQ h) (a7 rfl rfl) (fun _ _ => rfl)) (de (a7 rfl rfl) (de (aB) (a8) rfl) rfl) rfl) rfl rfl) (fun _ => rfl)
    exact aC
  case hbind => exact eE fun _ _ => rfl
  case hloc => decide +kernel
  case hcell => decide +kernel
  case h1 => kernel_rfl
  case h2 => kernel_rfl
  case h3 => kernel_rfl
noncomputable def cX : SF := sSeq (sSet "blocks" (eMeth 412 "blocks" bG (eN "self") (eNil)))
 (sSeq (sForR (bN "i") (eCons (eCall cLen (eCons (eN "blocks") (eNil))) (eNil)) (sSeq (sAsg (bT (bCons "at" (bCons "size" (bNil)))) (eOp2 oItem (eN "blocks") (eN "i")))
 (sSeq (sSet "left" (eOp2 oSub (eN "size") (eN "need")))
 (sSeq (sIf (tOf (eOp2 oGe (eN "left") (eK (.int 4)))) (sSeq (sPut (eN "blocks") (eN "i") (eTup (eCons (eN "at") (eCons (eN "left") (eNil)))))
 (sSeq (sDo (eMeth 412 "set_blocks" bY (eN "self") (eCons (eN "blocks") (eNil))))
 (sSeq (sRet (eOp2 oAdd (eN "at") (eN "left")))
 (sNil)))) (sNil))
 (sSeq (sIf (tOf (eOp2 oGe (eN "left") (eK (.int 0)))) (sSeq (sIf (tOf (eOp2 oGt (eOp2 oAdd (eMeth 412 "fragments" al (eN "self") (eNil)) (eN "left")) (eK (.int 57)))) (sSeq (sRet (eK (.int 0)))
 (sNil)) (sNil))
 (sSeq (sPut (eAttr 412 "data" (eN "self")) (eOp2 oAdd (eAttr 412 "base" (eN "self")) (eK (.int 7))) (eOp2 oAdd (eMeth 412 "fragments" al (eN "self") (eNil)) (eN "left")))
 (sSeq (sDo (eMeth 412 "set_blocks" bY (eN "self") (eCons (eOp2 oAdd (eCut (eN "blocks") (oNo) (oYes (eN "i"))) (eCut (eN "blocks") (oYes (eOp2 oAdd (eN "i") (eK (.int 1)))) (oNo))) (eNil))))
 (sSeq (sRet (eN "at"))
 (sNil))))) (sNil))
 (sNil))))))
 (sSeq (sRet (eK (.int 0)))
 (sNil)))
noncomputable def d0 : FF := fnF ["self", "need"] cX
theorem iB (h : KOk cx) : DenF cx 11 (.ref 374) d0 := by
  refine @aW cx 10 374 ["self", "need"] cX (O.nameOf (O.mp 31 6)) (Str.ofString "Node.take_block") (O.argsOf (O.mp 31 6)) (O.bodyOf (O.mp 31 6)) (O.scopeOf (O.mp 31 6)) .none .none .none (O.S "pagebase.node" 608) (.ref 373) .none (.type "function") none none ⟨[]⟩ ?ho ?hcd ?hb ?hbind ?hloc ?hcell ?h1 ?h2 ?h3
  case ho => rw [h.hK]; kernel_rfl
  case hcd => rw [h.hK]; kernel_rfl
  case hb =>
    refine aA ?_ ?_
    · exact aJ (aO (d4 h) (bz h) (by decide) (a7 rfl rfl) (a8) (fun _ _ => rfl) (fun _ _ _ => rfl)) rfl (fun _ => rfl)
    refine aA ?_ ?_
    · exact bQ (de (aP rfl bM rfl (bn h) (de (a7 rfl rfl) (a8) rfl) rfl rfl (by decide)) (a8) rfl) (bp rfl) (aA (fP (ab (a7 rfl rfl) (a7 rfl rfl)) (ci (af (af (cA) rfl) rfl)) (fun _ => rfl) (fun _ => rfl) (fun _ => rfl)) (aA (aJ (aD (a7 rfl rfl) (a7 rfl rfl) ag) rfl (fun _ => rfl)) (aA (aX (aL (a7 rfl rfl) (aU (bE h) rfl rfl) fU (by with_unfolding_all rfl)) (aA (du (dQ (de (a7 rfl rfl) (de (a7 rfl rfl) (a8) rfl) rfl)) (a7 rfl rfl) (a7 rfl rfl) (fun _ => rfl) (fun _ => rfl) (fun _ _ _ => rfl)) (aA (aa (aO (ca h) (d7 h) (by decide) (a7 rfl rfl) (de (a7 rfl rfl) (a8) rfl) (fun _ _ => rfl) (fun _ _ _ => rfl)) (fun _ => rfl)) (aA (aR (aD (a7 rfl rfl) (a7 rfl rfl) aM)) (aC)))) (aC)) (aA (aX (aL (a7 rfl rfl) (aB) fU (by with_unfolding_all rfl)) (aA (aX (aL (aD (aO (bZ h) (bF h) (by decide) (a7 rfl rfl) (a8) (fun _ _ => rfl) (fun _ _ _ => rfl)) (a7 rfl rfl) aM) (aU (iO h) rfl rfl) d5 (by with_unfolding_all rfl)) (aA (aR (aB)) (aC)) (aC)) (aA (du (aD (aO (bZ h) (bF h) (by decide) (a7 rfl rfl) (a8) (fun _ _ => rfl) (fun _ _ _ => rfl)) (a7 rfl rfl) aM) (aK (aQ h) (a7 rfl rfl) (fun _ _ => rfl)) (aD (aK (aV h) (a7 rfl rfl) (fun _ _ => rfl)) (aB) aM) (fun _ => rfl) (fun _ => rfl) (fun _ _ _ => rfl)) (aA (aa (aO (ca h) (d7 h) (by decide) (a7 rfl rfl) (de (aD (gV (a7 rfl rfl) (kR) (bw (a7 rfl rfl))) (gV (a7 rfl rfl) (bw (aD (a7 rfl rfl) (aB) aM)) (kR)) aM) (a8) rfl) (fun _ _ => rfl) (fun _ _ _ => rfl)) (fun _ => rfl)) (aA (aR (a7 rfl rfl)) (aC))))) (aC)) (aC))))) (d8 h) rfl
    refine aA ?_ ?_
    · exact aR (aB)
    exact aC
  case hbind => exact eE fun _ _ => rfl
  case hloc => decide +kernel
  case hcell => decide +kernel
  case h1 => kernel_rfl
  case h2 => kernel_rfl
  case h3 => kernel_rfl
noncomputable def dM : SF := sSeq (sIf (tOf (eOp2 oGe (eMeth 412 "gap" eI (eN "self") (eNil)) (eK (.int 2)))) (sSeq (sSet "at" (eMeth 412 "take_block" d0 (eN "self") (eCons (eN "need") (eNil))))
 (sSeq (sIf (tOf (eOp2 oNe (eN "at") (eK (.int 0)))) (sSeq (sRet (eN "at"))
 (sNil)) (sNil))
 (sNil))) (sNil))
 (sSeq (sIf (tOf (eOp2 oLt (eMeth 412 "gap" eI (eN "self") (eNil)) (eOp2 oAdd (eN "need") (eK (.int 2))))) (sSeq (sDo (eMeth 412 "put_all" cm (eN "self") (eCons (eMeth 412 "raws" bq (eN "self") (eNil)) (eNil))))
 (sNil)) (sNil))
 (sSeq (sSet "at" (eOp2 oSub (eMeth 412 "content" ai (eN "self") (eNil)) (eN "need")))
 (sSeq (sDo (eCall am (eCons (eAttr 412 "data" (eN "self")) (eCons (eOp2 oAdd (eAttr 412 "base" (eN "self")) (eK (.int 5))) (eCons (eN "at") (eNil))))))
 (sSeq (sRet (eN "at"))
 (sNil)))))
noncomputable def dg : FF := fnF ["self", "need"] dM
theorem iu (h : KOk cx) : DenF cx 14 (.ref 381) dg := by
  refine @aW cx 13 381 ["self", "need"] dM (O.nameOf (O.mp 31 7)) (Str.ofString "Node.allocate") (O.argsOf (O.mp 31 7)) (O.bodyOf (O.mp 31 7)) (O.scopeOf (O.mp 31 7)) .none .none .none (O.S "pagebase.node" 608) (.ref 380) .none (.type "function") none none ⟨[]⟩ ?ho ?hcd ?hb ?hbind ?hloc ?hcell ?h1 ?h2 ?h3
  case ho => rw [h.hK]; kernel_rfl
  case hcd => rw [h.hK]; kernel_rfl
  case hb =>
    refine aA ?_ ?_
    · exact aX (aL (aO (gH h) (gp h) (by decide) (a7 rfl rfl) (a8) (fun _ _ => rfl) (fun _ _ _ => rfl)) (aB) fU (by with_unfolding_all rfl)) (aA (aJ (aO (gm h) (iB h) (by decide) (a7 rfl rfl) (de (a7 rfl rfl) (a8) rfl) (fun _ _ => rfl) (fun _ _ _ => rfl)) rfl (fun _ => rfl)) (aA (aX (aL (a7 rfl rfl) (aB) eL (by with_unfolding_all rfl)) (aA (aR (a7 rfl rfl)) (aC)) (aC)) (aC))) (aC)
    refine aA ?_ ?_
    · exact aX (aL (aO (gH h) (gp h) (by decide) (a7 rfl rfl) (a8) (fun _ _ => rfl) (fun _ _ _ => rfl)) (aD (a7 rfl rfl) (aB) aM) be (by with_unfolding_all rfl)) (aA (aa (aO (fa h) (gD h) (by decide) (a7 rfl rfl) (de (aO (iF h) (fg h) (by decide) (a7 rfl rfl) (a8) (fun _ _ => rfl) (fun _ _ _ => rfl)) (a8) rfl) (fun _ _ => rfl) (fun _ _ _ => rfl)) (fun _ => rfl)) (aC)) (aC)
    refine aA ?_ ?_
    · exact aJ (aD (aO (bK h) (ar h) (by decide) (a7 rfl rfl) (a8) (fun _ _ => rfl) (fun _ _ _ => rfl)) (a7 rfl rfl) ag) rfl (fun _ => rfl)
    refine aA ?_ ?_
    · exact aa (aN (b7 h) (dh h) (bA h) (by decide) (de (aK (aQ h) (a7 rfl rfl) (fun _ _ => rfl)) (de (aD (aK (aV h) (a7 rfl rfl) (fun _ _ => rfl)) (aB) aM) (de (a7 rfl rfl) (a8) rfl) rfl) rfl) rfl rfl) (fun _ => rfl)
    refine aA ?_ ?_
    · exact aR (a7 rfl rfl)
    exact aC
  case hbind => exact eE fun _ _ => rfl
  case hloc => decide +kernel
  case hcell => decide +kernel
  case h1 => kernel_rfl
  case h2 => kernel_rfl
  case h3 => kernel_rfl
noncomputable def eM : SF := sSeq (sSet "need" (eCall cMax (eCons (eK (.int 4)) (eCons (eCall cLen (eCons (eN "octets") (eNil))) (eNil)))))
 (sSeq (sIf (tOf (eOp2 oLt (eMeth 412 "room" dZ (eN "self") (eNil)) (eOp2 oAdd (eN "need") (eK (.int 2))))) (sSeq (sRet (eK (.bool false)))
 (sNil)) (sNil))
 (sSeq (sSet "count" (eMeth 412 "count" ac (eN "self") (eNil)))
 (sSeq (sSet "at" (eMeth 412 "allocate" dg (eN "self") (eCons (eN "need") (eNil))))
 (sSeq (sPutCut (eAttr 412 "data" (eN "self")) (oYes (eN "at")) (oYes (eOp2 oAdd (eN "at") (eCall cLen (eCons (eN "octets") (eNil))))) (eN "octets"))
 (sSeq (sSet "pointers" (eMeth 412 "pointers" ak (eN "self") (eNil)))
 (sSeq (sForR (bN "j") (eCons (eN "count") (eCons (eN "i") (eCons (eNeg (eK (.int 1))) (eNil)))) (sSeq (sDo (eCall am (eCons (eAttr 412 "data" (eN "self")) (eCons (eOp2 oAdd (eN "pointers") (eOp2 oMul (eK (.int 2)) (eN "j"))) (eCons (eCall bo (eCons (eAttr 412 "data" (eN "self")) (eCons (eOp2 oSub (eOp2 oAdd (eN "pointers") (eOp2 oMul (eK (.int 2)) (eN "j"))) (eK (.int 2))) (eNil)))) (eNil))))))
 (sNil)))
 (sSeq (sDo (eCall am (eCons (eAttr 412 "data" (eN "self")) (eCons (eOp2 oAdd (eN "pointers") (eOp2 oMul (eK (.int 2)) (eN "i"))) (eCons (eN "at") (eNil))))))
 (sSeq (sDo (eCall am (eCons (eAttr 412 "data" (eN "self")) (eCons (eOp2 oAdd (eAttr 412 "base" (eN "self")) (eK (.int 3))) (eCons (eOp2 oAdd (eN "count") (eK (.int 1))) (eNil))))))
 (sSeq (sRet (eK (.bool true)))
 (sNil))))))))))
noncomputable def dU : FF := fnF ["self", "i", "octets"] eM
theorem gg (h : KOk cx) : DenF cx 15 (.ref 395) dU := by
  refine @aW cx 14 395 ["self", "i", "octets"] eM (O.nameOf (O.mp 31 9)) (Str.ofString "Node.insert") (O.argsOf (O.mp 31 9)) (O.bodyOf (O.mp 31 9)) (O.scopeOf (O.mp 31 9)) .none .none .none (O.S "pagebase.node" 608) (.ref 394) .none (.type "function") none none ⟨[]⟩ ?ho ?hcd ?hb ?hbind ?hloc ?hcell ?h1 ?h2 ?h3
  case ho => rw [h.hK]; kernel_rfl
  case hcd => rw [h.hK]; kernel_rfl
  case hb =>
    refine aA ?_ ?_
    · exact aJ (aP rfl cz rfl (eO h) (de (aU (bE h) rfl rfl) (de (aP rfl bM rfl (bn h) (de (a7 rfl rfl) (a8) rfl) rfl rfl (by decide)) (a8) rfl) rfl) rfl rfl (by decide)) rfl (fun _ => rfl)
    refine aA ?_ ?_
    · exact aX (aL (aO (hW h) (io h) (by decide) (a7 rfl rfl) (a8) (fun _ _ => rfl) (fun _ _ _ => rfl)) (aD (a7 rfl rfl) (aB) aM) be (by with_unfolding_all rfl)) (aA (aR (f4)) (aC)) (aC)
    refine aA ?_ ?_
    · exact aJ (aO (bO h) (aw h) (by decide) (a7 rfl rfl) (a8) (fun _ _ => rfl) (fun _ _ _ => rfl)) rfl (fun _ => rfl)
    refine aA ?_ ?_
    · exact aJ (aO (ie h) (iu h) (by decide) (a7 rfl rfl) (de (a7 rfl rfl) (a8) rfl) (fun _ _ => rfl) (fun _ _ _ => rfl)) rfl (fun _ => rfl)
    refine aA ?_ ?_
    · exact gu (n := 11) (a7 rfl rfl) (aK (aQ h) (a7 rfl rfl) (fun _ _ => rfl)) (bw (a7 rfl rfl)) (bw (aD (a7 rfl rfl) (aP rfl bM rfl (bn h) (de (a7 rfl rfl) (a8) rfl) rfl rfl (by decide)) aM)) (fun _ => rfl) (fun _ => rfl)
    refine aA ?_ ?_
    · exact aJ (aO (bS h) (b9 h) (by decide) (a7 rfl rfl) (a8) (fun _ _ => rfl) (fun _ _ _ => rfl)) rfl (fun _ => rfl)
    refine aA ?_ ?_
    · exact bQ (de (a7 rfl rfl) (de (a7 rfl rfl) (de (dt (aB)) (a8) rfl) rfl) rfl) (bp rfl) (aA (aa (aN (b7 h) (dh h) (bA h) (by decide) (de (aK (aQ h) (a7 rfl rfl) (fun _ _ => rfl)) (de (aD (a7 rfl rfl) (aD (aB) (a7 rfl rfl) bI) aM) (de (aN (cQ h) (gd h) (cP h) (by decide) (de (aK (aQ h) (a7 rfl rfl) (fun _ _ => rfl)) (de (aD (aD (a7 rfl rfl) (aD (aB) (a7 rfl rfl) bI) aM) (aB) ag) (a8) rfl) rfl) rfl rfl) (a8) rfl) rfl) rfl) rfl rfl) (fun _ => rfl)) (aC)) (d8 h) rfl
    refine aA ?_ ?_
    · exact aa (aN (b7 h) (dh h) (bA h) (by decide) (de (aK (aQ h) (a7 rfl rfl) (fun _ _ => rfl)) (de (aD (a7 rfl rfl) (aD (aB) (a7 rfl rfl) bI) aM) (de (a7 rfl rfl) (a8) rfl) rfl) rfl) rfl rfl) (fun _ => rfl)
    refine aA ?_ ?_
    · exact aa (aN (b7 h) (dh h) (bA h) (by decide) (de (aK (aQ h) (a7 rfl rfl) (fun _ _ => rfl)) (de (aD (aK (aV h) (a7 rfl rfl) (fun _ _ => rfl)) (aB) aM) (de (aD (a7 rfl rfl) (aB) aM) (a8) rfl) rfl) rfl) rfl rfl) (fun _ => rfl)
    refine aA ?_ ?_
    · exact aR (f4)
    exact aC
  case hbind => exact k4 fun _ _ _ => rfl
  case hloc => decide +kernel
  case hcell => decide +kernel
  case h1 => kernel_rfl
  case h2 => kernel_rfl
  case h3 => kernel_rfl
noncomputable def cv : SF := sSeq (sSet "found" (eList (eNil)))
 (sSeq (sSet "fragments" (eMeth 412 "fragments" al (eN "self") (eNil)))
 (sSeq (sForL (bN "block") (eCall cSorted (eCons (eOp2 oAdd (eMeth 412 "blocks" bG (eN "self") (eNil)) (eList (eCons (eTup (eCons (eN "at") (eCons (eN "size") (eNil)))) (eNil)))) (eNil))) (sSeq (sIf (tsAnd (tOf (eOp2 oNe (eN "found") (eList (eNil)))) (tsAnd (tOf (eOp2 oLt (eOp2 oItem (eN "block") (eK (.int 0))) (eOp2 oAdd (eOp2 oItem (eOp2 oItem (eN "found") (eNeg (eK (.int 1)))) (eK (.int 0))) (eOp2 oItem (eOp2 oItem (eN "found") (eNeg (eK (.int 1)))) (eK (.int 1)))))) (tsAndNil))) (sSeq (sFail)
 (sNil)) (sNil))
 (sSeq (sIf (tsAnd (tOf (eOp2 oNe (eN "found") (eList (eNil)))) (tsAnd (tOf (eOp2 oLt (eOp2 oSub (eOp2 oSub (eOp2 oItem (eN "block") (eK (.int 0))) (eOp2 oItem (eOp2 oItem (eN "found") (eNeg (eK (.int 1)))) (eK (.int 0)))) (eOp2 oItem (eOp2 oItem (eN "found") (eNeg (eK (.int 1)))) (eK (.int 1)))) (eK (.int 4)))) (tsAndNil))) (sSeq (sAsg (bT (bCons "first" (bCons "many" (bNil)))) (eOp2 oItem (eN "found") (eNeg (eK (.int 1)))))
 (sSeq (sSet "fragments" (eOp2 oSub (eN "fragments") (eOp2 oSub (eOp2 oSub (eOp2 oItem (eN "block") (eK (.int 0))) (eN "first")) (eN "many"))))
 (sSeq (sPut (eN "found") (eNeg (eK (.int 1))) (eTup (eCons (eN "first") (eCons (eOp2 oSub (eOp2 oAdd (eOp2 oItem (eN "block") (eK (.int 0))) (eOp2 oItem (eN "block") (eK (.int 1)))) (eN "first")) (eNil)))))
 (sNil)))) (sSeq (sDo (eLMeth mAppend (eN "found") (eCons (eN "block") (eNil))))
 (sNil)))
 (sNil))))
 (sSeq (sIf (tOf (eOp2 oLt (eN "fragments") (eK (.int 0)))) (sSeq (sFail)
 (sNil)) (sNil))
 (sSeq (sAsg (bT (bCons "first" (bCons "many" (bNil)))) (eOp2 oItem (eN "found") (eK (.int 0))))
 (sSeq (sIf (tsAnd (tOf (eOp2 oLt (eOp2 oSub (eN "first") (eMeth 412 "content" ai (eN "self") (eNil))) (eK (.int 4)))) (tsAnd (tOf (eOp2 oGe (eN "first") (eMeth 412 "content" ai (eN "self") (eNil)))) (tsAndNil))) (sSeq (sSet "fragments" (eOp2 oSub (eN "fragments") (eOp2 oSub (eN "first") (eMeth 412 "content" ai (eN "self") (eNil)))))
 (sSeq (sDo (eCall am (eCons (eAttr 412 "data" (eN "self")) (eCons (eOp2 oAdd (eAttr 412 "base" (eN "self")) (eK (.int 5))) (eCons (eOp2 oAdd (eN "first") (eN "many")) (eNil))))))
 (sSeq (sSet "found" (eCut (eN "found") (oYes (eK (.int 1))) (oNo)))
 (sNil)))) (sNil))
 (sSeq (sPut (eAttr 412 "data" (eN "self")) (eOp2 oAdd (eAttr 412 "base" (eN "self")) (eK (.int 7))) (eCall cMax (eCons (eK (.int 0)) (eCons (eN "fragments") (eNil)))))
 (sSeq (sDo (eMeth 412 "set_blocks" bY (eN "self") (eCons (eN "found") (eNil))))
 (sNil))))))))
noncomputable def dF : FF := fnF ["self", "at", "size"] cv
theorem iV (h : KOk cx) : DenF cx 11 (.ref 409) dF := by
  refine @aW cx 10 409 ["self", "at", "size"] cv (O.nameOf (O.mp 31 11)) (Str.ofString "Node.give_back") (O.argsOf (O.mp 31 11)) (O.bodyOf (O.mp 31 11)) (O.scopeOf (O.mp 31 11)) .none .none .none (O.S "pagebase.node" 608) (.ref 408) .none (.type "function") none none ⟨[]⟩ ?ho ?hcd ?hb ?hbind ?hloc ?hcell ?h1 ?h2 ?h3
  case ho => rw [h.hK]; kernel_rfl
  case hcd => rw [h.hK]; kernel_rfl
  case hb =>
    refine aA ?_ ?_
    · exact aJ (aq (a8)) rfl (fun _ => rfl)
    refine aA ?_ ?_
    · exact aJ (aO (bZ h) (bF h) (by decide) (a7 rfl rfl) (a8) (fun _ _ => rfl) (fun _ _ _ => rfl)) rfl (fun _ => rfl)
    refine aA ?_ ?_
    · exact dA (aP rfl jH rfl (k7 h) (de (aD (aO (d4 h) (bz h) (by decide) (a7 rfl rfl) (a8) (fun _ _ => rfl) (fun _ _ _ => rfl)) (aq (de (dQ (de (a7 rfl rfl) (de (a7 rfl rfl) (a8) rfl) rfl)) (a8) rfl)) aM) (a8) rfl) rfl rfl (by decide)) (bp rfl) (aA (aX (bL (dS (aL (a7 rfl rfl) (aq (a8)) eL (by with_unfolding_all rfl)) (dS (aL (ab (a7 rfl rfl) (aB)) (aD (ab (ab (a7 rfl rfl) (dt (aB))) (aB)) (ab (ab (a7 rfl rfl) (dt (aB))) (aB)) aM) be (by with_unfolding_all rfl)) (dY)))) (aA (bR) (aC)) (aC)) (aA (aX (bL (dS (aL (a7 rfl rfl) (aq (a8)) eL (by with_unfolding_all rfl)) (dS (aL (aD (aD (ab (a7 rfl rfl) (aB)) (ab (ab (a7 rfl rfl) (dt (aB))) (aB)) ag) (ab (ab (a7 rfl rfl) (dt (aB))) (aB)) ag) (aU (bE h) rfl rfl) be (by with_unfolding_all rfl)) (dY)))) (aA (fP (ab (a7 rfl rfl) (dt (aB))) (ci (af (af (cA) rfl) rfl)) (fun _ => rfl) (fun _ => rfl) (fun _ => rfl)) (aA (aJ (aD (a7 rfl rfl) (aD (aD (ab (a7 rfl rfl) (aB)) (a7 rfl rfl) ag) (a7 rfl rfl) ag) ag) rfl (fun _ => rfl)) (aA (du (dQ (de (a7 rfl rfl) (de (aD (aD (ab (a7 rfl rfl) (aB)) (ab (a7 rfl rfl) (aB)) aM) (a7 rfl rfl) ag) (a8) rfl) rfl)) (a7 rfl rfl) (dt (aB)) (fun _ => rfl) (fun _ => rfl) (fun _ _ _ => rfl)) (aC)))) (aA (aa (bC PySem.F.slot_list_append PySem.F.type_list_append bD (a7 rfl rfl) (de (a7 rfl rfl) (a8) rfl) (fun _ _ => rfl) (fun _ _ _ => rfl)) (fun _ => rfl)) (aC))) (aC))) (fun _ _ => rfl)
    refine aA ?_ ?_
    · exact aX (aL (a7 rfl rfl) (aB) be (by with_unfolding_all rfl)) (aA (bR) (aC)) (aC)
    refine aA ?_ ?_
    · exact fP (ab (a7 rfl rfl) (aB)) (ci (af (af (cA) rfl) rfl)) (fun _ => rfl) (fun _ => rfl) (fun _ => rfl)
    refine aA ?_ ?_
    · exact aX (bL (dS (aL (aD (a7 rfl rfl) (aO (bK h) (ar h) (by decide) (a7 rfl rfl) (a8) (fun _ _ => rfl) (fun _ _ _ => rfl)) ag) (aU (bE h) rfl rfl) be (by with_unfolding_all rfl)) (dS (aL (a7 rfl rfl) (aO (bK h) (ar h) (by decide) (a7 rfl rfl) (a8) (fun _ _ => rfl) (fun _ _ _ => rfl)) fU (by with_unfolding_all rfl)) (dY)))) (aA (aJ (aD (a7 rfl rfl) (aD (a7 rfl rfl) (aO (bK h) (ar h) (by decide) (a7 rfl rfl) (a8) (fun _ _ => rfl) (fun _ _ _ => rfl)) ag) ag) rfl (fun _ => rfl)) (aA (aa (aN (b7 h) (dh h) (bA h) (by decide) (de (aK (aQ h) (a7 rfl rfl) (fun _ _ => rfl)) (de (aD (aK (aV h) (a7 rfl rfl) (fun _ _ => rfl)) (aB) aM) (de (aD (a7 rfl rfl) (a7 rfl rfl) aM) (a8) rfl) rfl) rfl) rfl rfl) (fun _ => rfl)) (aA (aJ (gV (a7 rfl rfl) (bw (aB)) (kR)) rfl (fun _ => rfl)) (aC)))) (aC)
    refine aA ?_ ?_
    · exact du (aP rfl cz rfl (eO h) (de (aB) (de (a7 rfl rfl) (a8) rfl) rfl) rfl rfl (by decide)) (aK (aQ h) (a7 rfl rfl) (fun _ _ => rfl)) (aD (aK (aV h) (a7 rfl rfl) (fun _ _ => rfl)) (aB) aM) (fun _ => rfl) (fun _ => rfl) (fun _ _ _ => rfl)
    refine aA ?_ ?_
    · exact aa (aO (ca h) (d7 h) (by decide) (a7 rfl rfl) (de (a7 rfl rfl) (a8) rfl) (fun _ _ => rfl) (fun _ _ _ => rfl)) (fun _ => rfl)
    exact aC
  case hbind => exact k4 fun _ _ _ => rfl
  case hloc => decide +kernel
  case hcell => decide +kernel
  case h1 => kernel_rfl
  case h2 => kernel_rfl
  case h3 => kernel_rfl
noncomputable def eA : SF := sSeq (sSet "at" (eMeth 412 "place" bU (eN "self") (eCons (eN "i") (eNil))))
 (sSeq (sSet "size" (eCall cMax (eCons (eK (.int 4)) (eCons (eCall cLen (eCons (eMeth 412 "raw" bV (eN "self") (eCons (eN "i") (eNil))) (eNil))) (eNil)))))
 (sSeq (sSet "count" (eMeth 412 "count" ac (eN "self") (eNil)))
 (sSeq (sIf (tOf (eOp2 oEq (eN "count") (eK (.int 1)))) (sSeq (sDo (eMeth 412 "put_all" cm (eN "self") (eCons (eList (eNil)) (eNil))))
 (sSeq (sRet0)
 (sNil))) (sNil))
 (sSeq (sSet "pointers" (eMeth 412 "pointers" ak (eN "self") (eNil)))
 (sSeq (sForR (bN "j") (eCons (eN "i") (eCons (eOp2 oSub (eN "count") (eK (.int 1))) (eNil))) (sSeq (sDo (eCall am (eCons (eAttr 412 "data" (eN "self")) (eCons (eOp2 oAdd (eN "pointers") (eOp2 oMul (eK (.int 2)) (eN "j"))) (eCons (eCall bo (eCons (eAttr 412 "data" (eN "self")) (eCons (eOp2 oAdd (eOp2 oAdd (eN "pointers") (eOp2 oMul (eK (.int 2)) (eN "j"))) (eK (.int 2))) (eNil)))) (eNil))))))
 (sNil)))
 (sSeq (sDo (eCall am (eCons (eAttr 412 "data" (eN "self")) (eCons (eOp2 oAdd (eAttr 412 "base" (eN "self")) (eK (.int 3))) (eCons (eOp2 oSub (eN "count") (eK (.int 1))) (eNil))))))
 (sSeq (sDo (eMeth 412 "give_back" dF (eN "self") (eCons (eN "at") (eCons (eN "size") (eNil)))))
 (sNil))))))))
noncomputable def ea : FF := fnF ["self", "i"] eA
theorem jb (h : KOk cx) : DenF cx 13 (.ref 402) ea := by
  refine @aW cx 12 402 ["self", "i"] eA (O.nameOf (O.mp 31 10)) (Str.ofString "Node.remove") (O.argsOf (O.mp 31 10)) (O.bodyOf (O.mp 31 10)) (O.scopeOf (O.mp 31 10)) .none .none .none (O.S "pagebase.node" 608) (.ref 401) .none (.type "function") none none ⟨[]⟩ ?ho ?hcd ?hb ?hbind ?hloc ?hcell ?h1 ?h2 ?h3
  case ho => rw [h.hK]; kernel_rfl
  case hcd => rw [h.hK]; kernel_rfl
  case hb =>
    refine aA ?_ ?_
    · exact aJ (aO (ei h) (dH h) (by decide) (a7 rfl rfl) (de (a7 rfl rfl) (a8) rfl) (fun _ _ => rfl) (fun _ _ _ => rfl)) rfl (fun _ => rfl)
    refine aA ?_ ?_
    · exact aJ (aP rfl cz rfl (eO h) (de (aU (bE h) rfl rfl) (de (aP rfl bM rfl (bn h) (de (aO (gL h) (eF h) (by decide) (a7 rfl rfl) (de (a7 rfl rfl) (a8) rfl) (fun _ _ => rfl) (fun _ _ _ => rfl)) (a8) rfl) rfl rfl (by decide)) (a8) rfl) rfl) rfl rfl (by decide)) rfl (fun _ => rfl)
    refine aA ?_ ?_
    · exact aJ (aO (bO h) (aw h) (by decide) (a7 rfl rfl) (a8) (fun _ _ => rfl) (fun _ _ _ => rfl)) rfl (fun _ => rfl)
    refine aA ?_ ?_
    · exact aX (aL (a7 rfl rfl) (aB) cw (by with_unfolding_all rfl)) (aA (aa (aO (fa h) (gD h) (by decide) (a7 rfl rfl) (de (aq (a8)) (a8) rfl) (fun _ _ => rfl) (fun _ _ _ => rfl)) (fun _ => rfl)) (aA (nU) (aC))) (aC)
    refine aA ?_ ?_
    · exact aJ (aO (bS h) (b9 h) (by decide) (a7 rfl rfl) (a8) (fun _ _ => rfl) (fun _ _ _ => rfl)) rfl (fun _ => rfl)
    refine aA ?_ ?_
    · exact bQ (de (a7 rfl rfl) (de (aD (a7 rfl rfl) (aB) ag) (a8) rfl) rfl) (bp rfl) (aA (aa (aN (b7 h) (dh h) (bA h) (by decide) (de (aK (aQ h) (a7 rfl rfl) (fun _ _ => rfl)) (de (aD (a7 rfl rfl) (aD (aB) (a7 rfl rfl) bI) aM) (de (aN (cQ h) (gd h) (cP h) (by decide) (de (aK (aQ h) (a7 rfl rfl) (fun _ _ => rfl)) (de (aD (aD (a7 rfl rfl) (aD (aB) (a7 rfl rfl) bI) aM) (aB) aM) (a8) rfl) rfl) rfl rfl) (a8) rfl) rfl) rfl) rfl rfl) (fun _ => rfl)) (aC)) (d8 h) rfl
    refine aA ?_ ?_
    · exact aa (aN (b7 h) (dh h) (bA h) (by decide) (de (aK (aQ h) (a7 rfl rfl) (fun _ _ => rfl)) (de (aD (aK (aV h) (a7 rfl rfl) (fun _ _ => rfl)) (aB) aM) (de (aD (a7 rfl rfl) (aB) ag) (a8) rfl) rfl) rfl) rfl rfl) (fun _ => rfl)
    refine aA ?_ ?_
    · exact aa (aO (iE h) (iV h) (by decide) (a7 rfl rfl) (de (a7 rfl rfl) (de (a7 rfl rfl) (a8) rfl) rfl) (fun _ _ => rfl) (fun _ _ _ => rfl)) (fun _ => rfl)
    exact aC
  case hbind => exact eE fun _ _ => rfl
  case hloc => decide +kernel
  case hcell => decide +kernel
  case h1 => kernel_rfl
  case h2 => kernel_rfl
  case h3 => kernel_rfl
noncomputable def fz : SF := sSeq (sRet (eCall cSum (eCons (eComp (bN "raw") (eN "raws") (eOp2 oAdd (eK (.int 2)) (eCall cMax (eCons (eK (.int 4)) (eCons (eCall cLen (eCons (eN "raw") (eNil))) (eNil)))))) (eNil))))
 (sNil)
noncomputable def fS : FF := fnF ["raws"] fz
theorem jV (h : KOk cx) : DenF cx 8 (.ref 454) fS := by
  refine @aW cx 7 454 ["raws"] fz (O.nameOf (O.tp 39)) (Str.ofString "_law_cost") (O.argsOf (O.tp 39)) (O.bodyOf (O.tp 39)) (O.scopeOf (O.tp 39)) .none .none .none (O.S "law_nt0113_01" 784) (.ref 453) .none (.type "function") none none ⟨[]⟩ ?ho ?hcd ?hb ?hbind ?hloc ?hcell ?h1 ?h2 ?h3
  case ho => rw [h.hK]; kernel_rfl
  case hcd => rw [h.hK]; kernel_rfl
  case hb =>
    refine aA ?_ ?_
    · exact aR (aP rfl oa rfl (q5 h) (de (o6 (a7 rfl rfl) (bp rfl) (aD (aB) (aP rfl cz rfl (eO h) (de (aB) (de (aP rfl bM rfl (bn h) (de (a7 rfl rfl) (a8) rfl) rfl rfl (by decide)) (a8) rfl) rfl) rfl rfl (by decide)) aM) rfl (by decide) (by decide) (by decide) (fun _ _ => rfl) (fun _ _ => rfl)) (a8) rfl) rfl rfl (by decide))
    exact aC
  case hbind => exact cf fun _ => rfl
  case hloc => decide +kernel
  case hcell => decide +kernel
  case h1 => kernel_rfl
  case h2 => kernel_rfl
  case h3 => kernel_rfl
noncomputable def eH : SF := sSeq (sSet "found" (eCall cBa (eCons (eK (.int 4)) (eNil))))
 (sSeq (sDo (eCall fM (eCons (eN "found") (eCons (eK (.int 0)) (eCons (eN "number") (eNil))))))
 (sSeq (sRet (eCall cBytes (eCons (eN "found") (eNil))))
 (sNil)))
noncomputable def dR : FF := fnF ["number"] eH
theorem ge (h : KOk cx) : DenF cx 10 (.ref 110) dR := by
  refine @aW cx 9 110 ["number"] eH (O.nameOf (O.tp 21)) (Str.ofString "four_octets") (O.argsOf (O.tp 21)) (O.bodyOf (O.tp 21)) (O.scopeOf (O.tp 21)) .none .none .none (O.S "pagebase.node_view" 277) (.ref 109) .none (.type "function") none none ⟨[]⟩ ?ho ?hcd ?hb ?hbind ?hloc ?hcell ?h1 ?h2 ?h3
  case ho => rw [h.hK]; kernel_rfl
  case hcd => rw [h.hK]; kernel_rfl
  case hb =>
    refine aA ?_ ?_
    · exact aJ (aP rfl (oN (n := 7)) rfl (iC h) (de (aB) (a8) rfl) rfl rfl (by decide)) rfl (fun _ => rfl)
    refine aA ?_ ?_
    · exact aa (aN (jF h) (np h) (jP h) (by decide) (de (a7 rfl rfl) (de (aB) (de (a7 rfl rfl) (a8) rfl) rfl) rfl) rfl rfl) (fun _ => rfl)
    refine aA ?_ ?_
    · exact aR (aP rfl cG rfl (cj h) (de (a7 rfl rfl) (a8) rfl) rfl rfl (by decide))
    exact aC
  case hbind => exact cf fun _ => rfl
  case hloc => decide +kernel
  case hcell => decide +kernel
  case h1 => kernel_rfl
  case h2 => kernel_rfl
  case h3 => kernel_rfl
noncomputable def dT : SF := sSeq (sSet "rest" (eOp2 oMod (eN "n") (eK (.int 18446744073709551616))))
 (sSeq (sSet "found" (eList (eNil)))
 (sSeq (sIf (tOf (eOp2 oGe (eN "rest") (eOp2 oPow (eK (.int 2)) (eK (.int 56))))) (sSeq (sDo (eLMeth mAppend (eN "found") (eCons (eOp2 oAnd (eN "rest") (eK (.int 255))) (eNil))))
 (sSeq (sAug "rest" oShr (eK (.int 8)))
 (sSeq (sForR (bN "turn") (eCons (eK (.int 8)) (eNil)) (sSeq (sDo (eLMeth mAppend (eN "found") (eCons (eOp2 oOr (eOp2 oAnd (eN "rest") (eK (.int 127))) (eK (.int 128))) (eNil))))
 (sSeq (sAug "rest" oShr (eK (.int 7)))
 (sNil))))
 (sNil)))) (sSeq (sDo (eLMeth mAppend (eN "found") (eCons (eOp2 oAnd (eN "rest") (eK (.int 127))) (eNil))))
 (sSeq (sAug "rest" oShr (eK (.int 7)))
 (sSeq (whileF (tOf (eOp2 oGt (eN "rest") (eK (.int 0)))) (sSeq (sDo (eLMeth mAppend (eN "found") (eCons (eOp2 oOr (eOp2 oAnd (eN "rest") (eK (.int 127))) (eK (.int 128))) (eNil))))
 (sSeq (sAug "rest" oShr (eK (.int 7)))
 (sNil))) 100)
 (sNil)))))
 (sSeq (sDo (eLMeth mReverse (eN "found") (eNil)))
 (sSeq (sRet (eCall cBytes (eCons (eN "found") (eNil))))
 (sNil)))))
noncomputable def dC : FF := fnF ["n"] dT
theorem fN (h : KOk cx) : DenF cx 8 (.ref 60) dC := by
  refine @aW cx 7 60 ["n"] dT (O.nameOf (O.tp 7)) (Str.ofString "put_varint") (O.argsOf (O.tp 7)) (O.bodyOf (O.tp 7)) (O.scopeOf (O.tp 7)) .none .none .none (O.S "pagebase.records" 247) (.ref 59) .none (.type "function") none none ⟨[]⟩ ?ho ?hcd ?hb ?hbind ?hloc ?hcell ?h1 ?h2 ?h3
  case ho => rw [h.hK]; kernel_rfl
  case hcd => rw [h.hK]; kernel_rfl
  case hb =>
    refine aA ?_ ?_
    · exact aJ (aD (a7 rfl rfl) (aU (mK h) rfl rfl) dP) rfl (fun _ => rfl)
    refine aA ?_ ?_
    · exact aJ (aq (a8)) rfl (fun _ => rfl)
    refine aA ?_ ?_
    · exact aX (aL (a7 rfl rfl) (aD (aB) (aB) mV) fU (by with_unfolding_all rfl)) (aA (aa (bC PySem.F.slot_list_append PySem.F.type_list_append bD (a7 rfl rfl) (de (aD (a7 rfl rfl) (aB) hY) (a8) rfl) (fun _ _ => rfl) (fun _ _ _ => rfl)) (fun _ => rfl)) (aA (i9 (aB) iH rfl) (aA (bQ (de (aB) (a8) rfl) (bp rfl) (aA (aa (bC PySem.F.slot_list_append PySem.F.type_list_append bD (a7 rfl rfl) (de (aD (aD (a7 rfl rfl) (aB) hY) (aB) kv) (a8) rfl) (fun _ _ => rfl) (fun _ _ _ => rfl)) (fun _ => rfl)) (aA (i9 (aB) iH rfl) (aC))) (d8 h) rfl) (aC)))) (aA (aa (bC PySem.F.slot_list_append PySem.F.type_list_append bD (a7 rfl rfl) (de (aD (a7 rfl rfl) (aB) hY) (a8) rfl) (fun _ _ => rfl) (fun _ _ _ => rfl)) (fun _ => rfl)) (aA (i9 (aB) iH rfl) (aA (jy 100 (aL (a7 rfl rfl) (aB) d5 (by with_unfolding_all rfl)) (aA (aa (bC PySem.F.slot_list_append PySem.F.type_list_append bD (a7 rfl rfl) (de (aD (aD (a7 rfl rfl) (aB) hY) (aB) kv) (a8) rfl) (fun _ _ => rfl) (fun _ _ _ => rfl)) (fun _ => rfl)) (aA (i9 (aB) iH rfl) (aC)))) (aC))))
    refine aA ?_ ?_
    · exact aa (bC PySem.F.slot_list_reverse PySem.F.type_list_reverse lH (a7 rfl rfl) (a8) (fun _ _ => rfl) (fun _ _ _ => rfl)) (fun _ => rfl)
    refine aA ?_ ?_
    · exact aR (aP rfl cG rfl (cj h) (de (a7 rfl rfl) (a8) rfl) rfl rfl (by decide))
    exact aC
  case hbind => exact cf fun _ => rfl
  case hloc => decide +kernel
  case hcell => decide +kernel
  case h1 => kernel_rfl
  case h2 => kernel_rfl
  case h3 => kernel_rfl
noncomputable def dz : SF := sSeq (sSet "found" (eK (.bytes [])))
 (sSeq (sIf (tNot (tOf (eCall dG (eCons (eN "kind") (eNil))))) (sSeq (sSet "found" (eCall dR (eCons (eAttr 169 "child" (eN "self")) (eNil))))
 (sNil)) (sNil))
 (sSeq (sIf (tOf (eOp2 oEq (eN "kind") (eK (.int 5)))) (sSeq (sRet (eOp2 oAdd (eN "found") (eCall dC (eCons (eAttr 169 "rowid" (eN "self")) (eNil)))))
 (sNil)) (sNil))
 (sSeq (sSet "found" (eOp2 oAdd (eN "found") (eCall dC (eCons (eAttr 169 "size" (eN "self")) (eNil)))))
 (sSeq (sIf (tOf (eOp2 oEq (eN "kind") (eK (.int 13)))) (sSeq (sSet "found" (eOp2 oAdd (eN "found") (eCall dC (eCons (eAttr 169 "rowid" (eN "self")) (eNil)))))
 (sNil)) (sNil))
 (sSeq (sSet "found" (eOp2 oAdd (eN "found") (eAttr 169 "local" (eN "self"))))
 (sSeq (sIf (tOf (eOp2 oNe (eAttr 169 "overflow" (eN "self")) (eK (.int 0)))) (sSeq (sSet "found" (eOp2 oAdd (eN "found") (eCall dR (eCons (eAttr 169 "overflow" (eN "self")) (eNil)))))
 (sNil)) (sNil))
 (sSeq (sRet (eN "found"))
 (sNil))))))))
noncomputable def eg : FF := fnF ["self", "kind"] dz
theorem jg (h : KOk cx) : DenF cx 11 (.ref 166) eg := by
  refine @aW cx 10 166 ["self", "kind"] dz (O.nameOf (O.mp 26 2)) (Str.ofString "Cell.octets") (O.argsOf (O.mp 26 2)) (O.bodyOf (O.mp 26 2)) (O.scopeOf (O.mp 26 2)) .none .none .none (O.S "pagebase.node_view" 277) (.ref 165) .none (.type "function") none none ⟨[]⟩ ?ho ?hcd ?hb ?hbind ?hloc ?hcell ?h1 ?h2 ?h3
  case ho => rw [h.hK]; kernel_rfl
  case hcd => rw [h.hK]; kernel_rfl
  case hb =>
    refine aA ?_ ?_
    · exact aJ (k3) rfl (fun _ => rfl)
    refine aA ?_ ?_
    · exact aX (f6 (dx (aN (gR h) (ke h) (gP h) (by decide) (de (a7 rfl rfl) (a8) rfl) rfl rfl) (fun _ _ => rfl))) (aA (aJ (aN (ga h) (oF h) (ge h) (by decide) (de (aK (ja h) (a7 rfl rfl) (fun _ _ => rfl)) (a8) rfl) rfl rfl) rfl (fun _ => rfl)) (aC)) (aC)
    refine aA ?_ ?_
    · exact aX (aL (a7 rfl rfl) (aU (fQ h) rfl rfl) cw (by with_unfolding_all rfl)) (aA (aR (aD (a7 rfl rfl) (aN (fY h) (oB h) (fN h) (by decide) (de (aK (gY h) (a7 rfl rfl) (fun _ _ => rfl)) (a8) rfl) rfl rfl) aM)) (aC)) (aC)
    refine aA ?_ ?_
    · exact aJ (aD (a7 rfl rfl) (aN (fY h) (oB h) (fN h) (by decide) (de (aK (kt h) (a7 rfl rfl) (fun _ _ => rfl)) (a8) rfl) rfl rfl) aM) rfl (fun _ => rfl)
    refine aA ?_ ?_
    · exact aX (aL (a7 rfl rfl) (aU (eP h) rfl rfl) cw (by with_unfolding_all rfl)) (aA (aJ (aD (a7 rfl rfl) (aN (fY h) (oB h) (fN h) (by decide) (de (aK (gY h) (a7 rfl rfl) (fun _ _ => rfl)) (a8) rfl) rfl rfl) aM) rfl (fun _ => rfl)) (aC)) (aC)
    refine aA ?_ ?_
    · exact aJ (aD (a7 rfl rfl) (aK (jh h) (a7 rfl rfl) (fun _ _ => rfl)) aM) rfl (fun _ => rfl)
    refine aA ?_ ?_
    · exact aX (aL (aK (ey h) (a7 rfl rfl) (fun _ _ => rfl)) (aB) eL (by with_unfolding_all rfl)) (aA (aJ (aD (a7 rfl rfl) (aN (ga h) (oF h) (ge h) (by decide) (de (aK (ey h) (a7 rfl rfl) (fun _ _ => rfl)) (a8) rfl) rfl rfl) aM) rfl (fun _ => rfl)) (aC)) (aC)
    refine aA ?_ ?_
    · exact aR (a7 rfl rfl)
    exact aC
  case hbind => exact eE fun _ _ => rfl
  case hloc => decide +kernel
  case hcell => decide +kernel
  case h1 => kernel_rfl
  case h2 => kernel_rfl
  case h3 => kernel_rfl
noncomputable def fu : SF := sSeq (sIf (tOf (eOp2 oGt (eOp2 oItem (eN "source") (eK (.int 0))) (eK (.int 0)))) (sSeq (sSet "drawn" (eOp2 oMod (eCall cInt (eCons (eOp2 oItem (eN "source") (eK (.int 0))) (eNil))) (eN "top")))
 (sSeq (sPut (eN "source") (eK (.int 0)) (eOp2 oDiv (eOp2 oItem (eN "source") (eK (.int 0))) (eN "top")))
 (sSeq (sRet (eN "drawn"))
 (sNil)))) (sNil))
 (sSeq (sPut (eN "source") (eK (.int 1)) (eOp2 oMod (eCall cInt (eCons (eOp2 oAdd (eOp2 oMul (eOp2 oItem (eN "source") (eK (.int 1))) (eK (.int 39373))) (eK (.int 7))) (eNil))) (eK (.int 2147483647))))
 (sSeq (sRet (eOp2 oMod (eCall cInt (eCons (eOp2 oDiv (eOp2 oMod (eCall cInt (eCons (eOp2 oMul (eOp2 oItem (eN "source") (eK (.int 1))) (eOp2 oItem (eN "source") (eK (.int 1)))) (eNil))) (eK (.int 2147483629))) (eK (.int 32))) (eNil))) (eN "top")))
 (sNil)))
noncomputable def ay : FF := fnF ["source", "top"] fu
theorem bJ (h : KOk cx) : DenF cx 8 (.ref 442) ay := by
  refine @aW cx 7 442 ["source", "top"] fu (O.nameOf (O.tp 37)) (Str.ofString "_law_take") (O.argsOf (O.tp 37)) (O.bodyOf (O.tp 37)) (O.scopeOf (O.tp 37)) .none .none .none (O.S "law_nt0113_01" 784) (.ref 441) .none (.type "function") none none ⟨[]⟩ ?ho ?hcd ?hb ?hbind ?hloc ?hcell ?h1 ?h2 ?h3
  case ho => rw [h.hK]; kernel_rfl
  case hcd => rw [h.hK]; kernel_rfl
  case hb =>
    refine aA ?_ ?_
    · exact aX (aL (ab (a7 rfl rfl) (aB)) (aB) d5 (by with_unfolding_all rfl)) (aA (aJ (aD (aP rfl dr rfl (fR h) (de (ab (a7 rfl rfl) (aB)) (a8) rfl) rfl rfl (by decide)) (a7 rfl rfl) dP) rfl (fun _ => rfl)) (aA (du (aD (ab (a7 rfl rfl) (aB)) (a7 rfl rfl) fL) (a7 rfl rfl) (aB) (fun _ => rfl) (fun _ => rfl) (fun _ _ _ => rfl)) (aA (aR (a7 rfl rfl)) (aC)))) (aC)
    refine aA ?_ ?_
    · exact du (aD (aP rfl dr rfl (fR h) (de (aD (aD (ab (a7 rfl rfl) (aB)) (aB) bI) (aB) aM) (a8) rfl) rfl rfl (by decide)) (aB) dP) (a7 rfl rfl) (aB) (fun _ => rfl) (fun _ => rfl) (fun _ _ _ => rfl)
    refine aA ?_ ?_
    · exact aR (aD (aP rfl dr rfl (fR h) (de (aD (aD (aP rfl dr rfl (fR h) (de (aD (ab (a7 rfl rfl) (aB)) (ab (a7 rfl rfl) (aB)) bI) (a8) rfl) rfl rfl (by decide)) (aB) dP) (aB) fL) (a8) rfl) rfl rfl (by decide)) (a7 rfl rfl) dP)
    exact aC
  case hbind => exact eE fun _ _ => rfl
  case hloc => decide +kernel
  case hcell => decide +kernel
  case h1 => kernel_rfl
  case h2 => kernel_rfl
  case h3 => kernel_rfl
noncomputable def gn : SF := sSeq (sSet "size" (eOp2 oItem (eList (eCons (eK (.int 0)) (eCons (eK (.int 1)) (eCons (eK (.int 2)) (eCons (eK (.int 3)) (eCons (eK (.int 6)) (eCons (eK (.int 10)) (eCons (eK (.int 17)) (eCons (eK (.int 18)) (eCons (eK (.int 29)) (eCons (eK (.int 30)) (eCons (eK (.int 93)) (eCons (eK (.int 200)) (eNil)))))))))))))) (eCall ay (eCons (eN "source") (eCons (eK (.int 12)) (eNil))))))
 (sSeq (sSet "many" (eCall ds (eCons (eN "kind") (eCons (eN "usable") (eCons (eN "size") (eNil))))))
 (sSeq (sSet "overflow" (eK (.int 0)))
 (sSeq (sIf (tOf (eOp2 oLt (eN "many") (eN "size"))) (sSeq (sSet "overflow" (eOp2 oAdd (eK (.int 1)) (eCall ay (eCons (eN "source") (eCons (eK (.int 300)) (eNil))))))
 (sNil)) (sNil))
 (sSeq (sSet "rowid" (eOp2 oItem (eList (eCons (eK (.int 0)) (eCons (eK (.int 5)) (eCons (eK (.int 127)) (eCons (eK (.int 128)) (eCons (eK (.int 70000)) (eCons (eNeg (eK (.int 1))) (eNil)))))))) (eCall ay (eCons (eN "source") (eCons (eK (.int 6)) (eNil))))))
 (sSeq (sSet "local" (eCall cBytes (eCons (eOp2 oMul (eList (eCons (eOp2 oAdd (eK (.int 1)) (eCall ay (eCons (eN "source") (eCons (eK (.int 250)) (eNil))))) (eNil))) (eN "many")) (eNil))))
 (sSeq (sRet (eMeth 169 "octets" eg (eNew 169 bX (eCons (eOp2 oAdd (eK (.int 1)) (eCall ay (eCons (eN "source") (eCons (eK (.int 70000)) (eNil))))) (eCons (eN "rowid") (eCons (eN "size") (eCons (eN "local") (eCons (eN "overflow") (eNil))))))) (eCons (eN "kind") (eNil))))
 (sNil)))))))
noncomputable def iR : FF := fnF ["source", "kind", "usable"] gn
theorem n0 (h : KOk cx) : DenF cx 12 (.ref 449) iR := by
  refine @aW cx 11 449 ["source", "kind", "usable"] gn (O.nameOf (O.tp 38)) (Str.ofString "_law_raw") (O.argsOf (O.tp 38)) (O.bodyOf (O.tp 38)) (O.scopeOf (O.tp 38)) .none .none .none (O.S "law_nt0113_01" 784) (.ref 448) .none (.type "function") none none ⟨[]⟩ ?ho ?hcd ?hb ?hbind ?hloc ?hcell ?h1 ?h2 ?h3
  case ho => rw [h.hK]; kernel_rfl
  case hcd => rw [h.hK]; kernel_rfl
  case hb =>
    refine aA ?_ ?_
    · exact aJ (ab (aq (de (aB) (de (aB) (de (aB) (de (aB) (de (aB) (de (aB) (de (aB) (de (aB) (de (aB) (de (aB) (de (aB) (de (aB) (a8) rfl) rfl) rfl) rfl) rfl) rfl) rfl) rfl) rfl) rfl) rfl) rfl)) (aN (bB h) (dd h) (bJ h) (by decide) (de (a7 rfl rfl) (de (aB) (a8) rfl) rfl) rfl rfl)) rfl (fun _ => rfl)
    refine aA ?_ ?_
    · exact aJ (aN (iD h) (nX h) (hV h) (by decide) (de (a7 rfl rfl) (de (a7 rfl rfl) (de (a7 rfl rfl) (a8) rfl) rfl) rfl) rfl rfl) rfl (fun _ => rfl)
    refine aA ?_ ?_
    · exact aJ (aB) rfl (fun _ => rfl)
    refine aA ?_ ?_
    · exact aX (aL (a7 rfl rfl) (a7 rfl rfl) be (by with_unfolding_all rfl)) (aA (aJ (aD (aB) (aN (bB h) (dd h) (bJ h) (by decide) (de (a7 rfl rfl) (de (aB) (a8) rfl) rfl) rfl rfl) aM) rfl (fun _ => rfl)) (aC)) (aC)
    refine aA ?_ ?_
    · exact aJ (ab (aq (de (aB) (de (aB) (de (aB) (de (aB) (de (aB) (de (dt (aB)) (a8) rfl) rfl) rfl) rfl) rfl) rfl)) (aN (bB h) (dd h) (bJ h) (by decide) (de (a7 rfl rfl) (de (aB) (a8) rfl) rfl) rfl rfl)) rfl (fun _ => rfl)
    refine aA ?_ ?_
    · exact aJ (aP rfl cG rfl (cj h) (de (aD (aq (de (aD (aB) (aN (bB h) (dd h) (bJ h) (by decide) (de (a7 rfl rfl) (de (aB) (a8) rfl) rfl) rfl rfl) aM) (a8) rfl)) (a7 rfl rfl) bI) (a8) rfl) rfl rfl (by decide)) rfl (fun _ => rfl)
    refine aA ?_ ?_
    · exact aR (aO (jL h) (jg h) (by decide) (iz (n := 9) (lu h) (kI h) (km h) (kn h) (kJ h) (da h) (by decide) (de (aD (aB) (aN (bB h) (dd h) (bJ h) (by decide) (de (a7 rfl rfl) (de (aB) (a8) rfl) rfl) rfl rfl) aM) (de (a7 rfl rfl) (de (a7 rfl rfl) (de (a7 rfl rfl) (de (a7 rfl rfl) (a8) rfl) rfl) rfl) rfl) rfl) rfl rfl) (de (a7 rfl rfl) (a8) rfl) (fun _ _ => rfl) (fun _ _ _ => rfl))
    exact aC
  case hbind => exact k4 fun _ _ _ => rfl
  case hloc => decide +kernel
  case hcell => decide +kernel
  case h1 => kernel_rfl
  case h2 => kernel_rfl
  case h3 => kernel_rfl
noncomputable def e7 : SF := sSeq (sIf (tsAnd (tOf (eOp2 oNe (eN "raws") (eList (eNil)))) (tsAnd (tOf (eOp2 oLt (eCall ay (eCons (eN "source") (eCons (eK (.int 5)) (eNil)))) (eK (.int 2)))) (tsAndNil))) (sSeq (sSet "at" (eCall ay (eCons (eN "source") (eCons (eCall cLen (eCons (eN "raws") (eNil))) (eNil)))))
 (sSeq (sDo (eMeth 412 "remove" ea (eN "node") (eCons (eN "at") (eNil))))
 (sSeq (sDo (eLMeth mPop (eN "raws") (eCons (eN "at") (eNil))))
 (sSeq (sRet (eK (.bool true)))
 (sNil))))) (sNil))
 (sSeq (sSet "raw" (eCall iR (eCons (eN "source") (eCons (eMeth 412 "kind" bW (eN "node") (eNil)) (eCons (eAttr 412 "usable" (eN "node")) (eNil))))))
 (sSeq (sSet "at" (eCall ay (eCons (eN "source") (eCons (eOp2 oAdd (eCall cLen (eCons (eN "raws") (eNil))) (eK (.int 1))) (eNil)))))
 (sSeq (sSet "due" (eOp2 oLe (eCall fS (eCons (eOp2 oAdd (eN "raws") (eList (eCons (eN "raw") (eNil)))) (eNil))) (eN "most")))
 (sSeq (sIf (tOf (eN "due")) (sSeq (sDo (eLMeth mInsert (eN "raws") (eCons (eN "at") (eCons (eN "raw") (eNil)))))
 (sSeq (sRet (eMeth 412 "insert" dU (eN "node") (eCons (eN "at") (eCons (eN "raw") (eNil)))))
 (sNil))) (sNil))
 (sSeq (sRet (eNot (eMeth 412 "insert" dU (eN "node") (eCons (eN "at") (eCons (eN "raw") (eNil))))))
 (sNil))))))
noncomputable def ee : FF := fnF ["source", "node", "raws", "most"] e7
theorem ji (h : KOk cx) : DenF cx 16 (.ref 461) ee := by
  refine @aW cx 15 461 ["source", "node", "raws", "most"] e7 (O.nameOf (O.tp 40)) (Str.ofString "_law_changed") (O.argsOf (O.tp 40)) (O.bodyOf (O.tp 40)) (O.scopeOf (O.tp 40)) .none .none .none (O.S "law_nt0113_01" 784) (.ref 460) .none (.type "function") none none ⟨[]⟩ ?ho ?hcd ?hb ?hbind ?hloc ?hcell ?h1 ?h2 ?h3
  case ho => rw [h.hK]; kernel_rfl
  case hcd => rw [h.hK]; kernel_rfl
  case hb =>
    refine aA ?_ ?_
    · exact aX (bL (dS (aL (a7 rfl rfl) (aq (a8)) eL (by with_unfolding_all rfl)) (dS (aL (aN (bB h) (dd h) (bJ h) (by decide) (de (a7 rfl rfl) (de (aB) (a8) rfl) rfl) rfl rfl) (aB) be (by with_unfolding_all rfl)) (dY)))) (aA (aJ (aN (bB h) (dd h) (bJ h) (by decide) (de (a7 rfl rfl) (de (aP rfl bM rfl (bn h) (de (a7 rfl rfl) (a8) rfl) rfl rfl (by decide)) (a8) rfl) rfl) rfl rfl) rfl (fun _ => rfl)) (aA (aa (aO (jW h) (jb h) (by decide) (a7 rfl rfl) (de (a7 rfl rfl) (a8) rfl) (fun _ _ => rfl) (fun _ _ _ => rfl)) (fun _ => rfl)) (aA (aa (bC PySem.F.slot_list_pop PySem.F.type_list_pop om (a7 rfl rfl) (de (a7 rfl rfl) (a8) rfl) (fun _ _ => rfl) (fun _ _ _ => rfl)) (fun _ => rfl)) (aA (aR (f4)) (aC))))) (aC)
    refine aA ?_ ?_
    · exact aJ (aN (m6 h) (ps h) (n0 h) (by decide) (de (a7 rfl rfl) (de (aO (dq h) (cS h) (by decide) (a7 rfl rfl) (a8) (fun _ _ => rfl) (fun _ _ _ => rfl)) (de (aK (aj h) (a7 rfl rfl) (fun _ _ => rfl)) (a8) rfl) rfl) rfl) rfl rfl) rfl (fun _ => rfl)
    refine aA ?_ ?_
    · exact aJ (aN (bB h) (dd h) (bJ h) (by decide) (de (a7 rfl rfl) (de (aD (aP rfl bM rfl (bn h) (de (a7 rfl rfl) (a8) rfl) rfl rfl (by decide)) (aB) aM) (a8) rfl) rfl) rfl rfl) rfl (fun _ => rfl)
    refine aA ?_ ?_
    · exact aJ (fE (aN (ir h) (nz h) (jV h) (by decide) (de (aD (a7 rfl rfl) (aq (de (a7 rfl rfl) (a8) rfl)) aM) (a8) rfl) rfl rfl) (a7 rfl rfl) mM (by with_unfolding_all rfl)) rfl (fun _ => rfl)
    refine aA ?_ ?_
    · exact aX (dx (a7 rfl rfl) (fun _ _ => rfl)) (aA (aa (bC PySem.F.slot_list_insert PySem.F.type_list_insert ls (a7 rfl rfl) (de (a7 rfl rfl) (de (a7 rfl rfl) (a8) rfl) rfl) (fun _ _ => rfl) (fun _ _ _ => rfl)) (fun _ => rfl)) (aA (aR (aO (gK h) (gg h) (by decide) (a7 rfl rfl) (de (a7 rfl rfl) (de (a7 rfl rfl) (a8) rfl) rfl) (fun _ _ => rfl) (fun _ _ _ => rfl))) (aC))) (aC)
    refine aA ?_ ?_
    · exact aR (pf (aO (gK h) (gg h) (by decide) (a7 rfl rfl) (de (a7 rfl rfl) (de (a7 rfl rfl) (a8) rfl) rfl) (fun _ _ => rfl) (fun _ _ _ => rfl)))
    exact aC
  case hbind => exact nj fun _ _ _ _ => rfl
  case hloc => decide +kernel
  case hcell => decide +kernel
  case h1 => kernel_rfl
  case h2 => kernel_rfl
  case h3 => kernel_rfl
noncomputable def g0 : SF := sSeq (sSet "cell" (eK (.int 0)))
 (sSeq (sIf (tOf (eOp2 oGt (eCall cLen (eCons (eN "script") (eNil))) (eK (.int 0)))) (sSeq (sSet "cell" (eOp2 oItem (eN "script") (eK (.int 0))))
 (sNil)) (sNil))
 (sSeq (sSet "big" (eCall cMax (eCons (eCall cInt (eCons (eN "cell") (eNil))) (eCons (eCall cInt (eCons (eOp2 oSub (eNeg (eK (.int 1))) (eN "cell")) (eNil))) (eNil)))))
 (sSeq (sSet "mixed" (eOp2 oMod (eCall cInt (eCons (eOp2 oMul (eOp2 oAdd (eOp2 oMod (eCall cInt (eCons (eN "big") (eNil))) (eK (.int 2147483629))) (eK (.int 17))) (eK (.int 48271))) (eNil))) (eK (.int 2147483647))))
 (sSeq (sRet (eList (eCons (eOp2 oMul (eN "big") (eCall cInt (eCons (eOp2 oGe (eN "big") (eOp2 oPow (eK (.int 10)) (eK (.int 18)))) (eNil)))) (eCons (eN "mixed") (eNil)))))
 (sNil)))))
noncomputable def gw : FF := fnF ["script"] g0
theorem lp (h : KOk cx) : DenF cx 8 (.ref 435) gw := by
  refine @aW cx 7 435 ["script"] g0 (O.nameOf (O.tp 36)) (Str.ofString "_law_pool") (O.argsOf (O.tp 36)) (O.bodyOf (O.tp 36)) (O.scopeOf (O.tp 36)) .none .none .none (O.S "law_nt0113_01" 784) (.ref 434) .none (.type "function") none none ⟨[]⟩ ?ho ?hcd ?hb ?hbind ?hloc ?hcell ?h1 ?h2 ?h3
  case ho => rw [h.hK]; kernel_rfl
  case hcd => rw [h.hK]; kernel_rfl
  case hb =>
    refine aA ?_ ?_
    · exact aJ (aB) rfl (fun _ => rfl)
    refine aA ?_ ?_
    · exact aX (aL (aP rfl bM rfl (bn h) (de (a7 rfl rfl) (a8) rfl) rfl rfl (by decide)) (aB) d5 (by with_unfolding_all rfl)) (aA (aJ (ab (a7 rfl rfl) (aB)) rfl (fun _ => rfl)) (aC)) (aC)
    refine aA ?_ ?_
    · exact aJ (aP rfl cz rfl (eO h) (de (aP rfl dr rfl (fR h) (de (a7 rfl rfl) (a8) rfl) rfl rfl (by decide)) (de (aP rfl dr rfl (fR h) (de (aD (dt (aB)) (a7 rfl rfl) ag) (a8) rfl) rfl rfl (by decide)) (a8) rfl) rfl) rfl rfl (by decide)) rfl (fun _ => rfl)
    refine aA ?_ ?_
    · exact aJ (aD (aP rfl dr rfl (fR h) (de (aD (aD (aD (aP rfl dr rfl (fR h) (de (a7 rfl rfl) (a8) rfl) rfl rfl (by decide)) (aB) dP) (aB) aM) (aB) bI) (a8) rfl) rfl rfl (by decide)) (aB) dP) rfl (fun _ => rfl)
    refine aA ?_ ?_
    · exact aR (aq (de (aD (a7 rfl rfl) (aP rfl dr rfl (fR h) (de (fE (a7 rfl rfl) (aD (aB) (aB) mV) fU (by with_unfolding_all rfl)) (a8) rfl) rfl rfl (by decide)) bI) (de (a7 rfl rfl) (a8) rfl) rfl))
    exact aC
  case hbind => exact cf fun _ => rfl
  case hloc => decide +kernel
  case hcell => decide +kernel
  case h1 => kernel_rfl
  case h2 => kernel_rfl
  case h3 => kernel_rfl
noncomputable def fw : SF := sSeq (sSet "found" (eList (eNil)))
 (sSeq (sForR (bN "i") (eCons (eMeth 412 "count" ac (eN "node") (eNil)) (eNil)) (sSeq (sSet "at" (eMeth 412 "place" bU (eN "node") (eCons (eN "i") (eNil))))
 (sSeq (sDo (eLMeth mAppend (eN "found") (eCons (eTup (eCons (eN "at") (eCons (eOp2 oAdd (eN "at") (eCall cMax (eCons (eK (.int 4)) (eCons (eCall cLen (eCons (eMeth 412 "raw" bV (eN "node") (eCons (eN "i") (eNil))) (eNil))) (eNil))))) (eCons (eFStr "cell " "i") (eNil))))) (eNil))))
 (sNil))))
 (sSeq (sForL (bT (bCons "at" (bCons "size" (bNil)))) (eMeth 412 "blocks" bG (eN "node") (eNil)) (sSeq (sDo (eLMeth mAppend (eN "found") (eCons (eTup (eCons (eN "at") (eCons (eOp2 oAdd (eN "at") (eN "size")) (eCons (eK (.str (Str.ofString "free block"))) (eNil))))) (eNil))))
 (sNil)))
 (sSeq (sRet (eCall cSorted (eCons (eN "found") (eNil))))
 (sNil))))
noncomputable def gl : FF := fnF ["node"] fw
theorem mD (h : KOk cx) : DenF cx 13 (.ref 421) gl := by
  refine @aW cx 12 421 ["node"] fw (O.nameOf (O.tp 33)) (Str.ofString "areas_of") (O.argsOf (O.tp 33)) (O.bodyOf (O.tp 33)) (O.scopeOf (O.tp 33)) .none .none .none (O.S "pagebase.node_check" 756) (.ref 420) .none (.type "function") none none ⟨[]⟩ ?ho ?hcd ?hb ?hbind ?hloc ?hcell ?h1 ?h2 ?h3
  case ho => rw [h.hK]; kernel_rfl
  case hcd => rw [h.hK]; kernel_rfl
  case hb =>
    refine aA ?_ ?_
    · exact aJ (aq (a8)) rfl (fun _ => rfl)
    refine aA ?_ ?_
    · exact bQ (de (aO (bO h) (aw h) (by decide) (a7 rfl rfl) (a8) (fun _ _ => rfl) (fun _ _ _ => rfl)) (a8) rfl) (bp rfl) (aA (aJ (aO (ei h) (dH h) (by decide) (a7 rfl rfl) (de (a7 rfl rfl) (a8) rfl) (fun _ _ => rfl) (fun _ _ _ => rfl)) rfl (fun _ => rfl)) (aA (aa (bC PySem.F.slot_list_append PySem.F.type_list_append bD (a7 rfl rfl) (de (dQ (de (a7 rfl rfl) (de (aD (a7 rfl rfl) (aP rfl cz rfl (eO h) (de (aU (bE h) rfl rfl) (de (aP rfl bM rfl (bn h) (de (aO (gL h) (eF h) (by decide) (a7 rfl rfl) (de (a7 rfl rfl) (a8) rfl) (fun _ _ => rfl) (fun _ _ _ => rfl)) (a8) rfl) rfl rfl (by decide)) (a8) rfl) rfl) rfl rfl (by decide)) aM) (de (ni rfl rfl) (a8) rfl) rfl) rfl)) (a8) rfl) (fun _ _ => rfl) (fun _ _ _ => rfl)) (fun _ => rfl)) (aC))) (d8 h) rfl
    refine aA ?_ ?_
    · exact dA (aO (d4 h) (bz h) (by decide) (a7 rfl rfl) (a8) (fun _ _ => rfl) (fun _ _ _ => rfl)) (ci (af (af (cA) rfl) rfl)) (aA (aa (bC PySem.F.slot_list_append PySem.F.type_list_append bD (a7 rfl rfl) (de (dQ (de (a7 rfl rfl) (de (aD (a7 rfl rfl) (a7 rfl rfl) aM) (de (pL) (a8) rfl) rfl) rfl)) (a8) rfl) (fun _ _ => rfl) (fun _ _ _ => rfl)) (fun _ => rfl)) (aC)) (fun _ _ => rfl)
    refine aA ?_ ?_
    · exact aR (aP rfl jH rfl (k7 h) (de (a7 rfl rfl) (a8) rfl) rfl rfl (by decide))
    exact aC
  case hbind => exact cf fun _ => rfl
  case hloc => decide +kernel
  case hcell => decide +kernel
  case h1 => kernel_rfl
  case h2 => kernel_rfl
  case h3 => kernel_rfl
noncomputable def eZ : SF := sSeq (sSeq (sSet "areas" (eCall gl (eCons (eN "node") (eNil))))
 (sNil))
 (sSeq (sSet "found" (eList (eNil)))
 (sSeq (sSet "behind" (eMeth 412 "content" ai (eN "node") (eNil)))
 (sSeq (sIf (tsOr (tOf (eOp2 oLt (eN "behind") (eOp2 oAdd (eMeth 412 "pointers" ak (eN "node") (eNil)) (eOp2 oMul (eK (.int 2)) (eMeth 412 "count" ac (eN "node") (eNil)))))) (tsOr (tOf (eOp2 oGt (eN "behind") (eAttr 412 "usable" (eN "node")))) (tsOrNil))) (sSeq (sDo (eLMeth mAppend (eN "found") (eCons (eFail) (eNil))))
 (sNil)) (sNil))
 (sSeq (sSet "between" (eK (.int 0)))
 (sSeq (sForL (bT (bCons "at" (bCons "end" (bCons "what" (bNil))))) (eN "areas") (sSeq (sIf (tOf (eOp2 oLt (eN "at") (eN "behind"))) (sSeq (sDo (eLMeth mAppend (eN "found") (eCons (eFail) (eNil))))
 (sNil)) (sSeq (sIf (tOf (eOp2 oGt (eN "at") (eN "behind"))) (sSeq (sSet "between" (eOp2 oSub (eOp2 oAdd (eN "between") (eN "at")) (eN "behind")))
 (sNil)) (sNil))
 (sNil)))
 (sSeq (sSet "behind" (eCall cMax (eCons (eN "behind") (eCons (eN "end") (eNil)))))
 (sNil))))
 (sSeq (sIf (tOf (eOp2 oGt (eN "behind") (eAttr 412 "usable" (eN "node")))) (sSeq (sDo (eLMeth mAppend (eN "found") (eCons (eFail) (eNil))))
 (sNil)) (sNil))
 (sSeq (sSet "between" (eOp2 oAdd (eN "between") (eCall cMax (eCons (eK (.int 0)) (eCons (eOp2 oSub (eAttr 412 "usable" (eN "node")) (eN "behind")) (eNil))))))
 (sSeq (sIf (tOf (eOp2 oNe (eN "between") (eMeth 412 "fragments" al (eN "node") (eNil)))) (sSeq (sDo (eLMeth mAppend (eN "found") (eCons (eFail) (eNil))))
 (sNil)) (sNil))
 (sSeq (sRet (eN "found"))
 (sNil))))))))))
noncomputable def fT : FF := fnF ["node"] eZ
theorem ku (h : KOk cx) : DenF cx 14 (.ref 428) fT := by
  refine @aW cx 13 428 ["node"] eZ (O.nameOf (O.tp 34)) (Str.ofString "check_node") (O.argsOf (O.tp 34)) (O.bodyOf (O.tp 34)) (O.scopeOf (O.tp 34)) .none .none .none (O.S "pagebase.node_check" 756) (.ref 427) .none (.type "function") none none ⟨[]⟩ ?ho ?hcd ?hb ?hbind ?hloc ?hcell ?h1 ?h2 ?h3
  case ho => rw [h.hK]; kernel_rfl
  case hcd => rw [h.hK]; kernel_rfl
  case hb =>
    refine aA ?_ ?_
    · exact oY (aA (aJ (aN (lz h) (qQ h) (mD h) (by decide) (de (a7 rfl rfl) (a8) rfl) rfl rfl) rfl (fun _ => rfl)) (aC))
    refine aA ?_ ?_
    · exact aJ (aq (a8)) rfl (fun _ => rfl)
    refine aA ?_ ?_
    · exact aJ (aO (bK h) (ar h) (by decide) (a7 rfl rfl) (a8) (fun _ _ => rfl) (fun _ _ _ => rfl)) rfl (fun _ => rfl)
    refine aA ?_ ?_
    · exact aX (bL (cK (aL (a7 rfl rfl) (aD (aO (bS h) (b9 h) (by decide) (a7 rfl rfl) (a8) (fun _ _ => rfl) (fun _ _ _ => rfl)) (aD (aB) (aO (bO h) (aw h) (by decide) (a7 rfl rfl) (a8) (fun _ _ => rfl) (fun _ _ _ => rfl)) bI) aM) be (by with_unfolding_all rfl)) (cK (aL (a7 rfl rfl) (aK (aj h) (a7 rfl rfl) (fun _ _ => rfl)) d5 (by with_unfolding_all rfl)) (cY)))) (aA (aa (bC PySem.F.slot_list_append PySem.F.type_list_append bD (a7 rfl rfl) (de (iG) (a8) rfl) (fun _ _ => rfl) (fun _ _ _ => rfl)) (fun _ => rfl)) (aC)) (aC)
    refine aA ?_ ?_
    · exact aJ (aB) rfl (fun _ => rfl)
    refine aA ?_ ?_
    · exact dA (a7 rfl rfl) (ci (af (af (af (cA) rfl) rfl) rfl)) (aA (aX (aL (a7 rfl rfl) (a7 rfl rfl) be (by with_unfolding_all rfl)) (aA (aa (bC PySem.F.slot_list_append PySem.F.type_list_append bD (a7 rfl rfl) (de (iG) (a8) rfl) (fun _ _ => rfl) (fun _ _ _ => rfl)) (fun _ => rfl)) (aC)) (aA (aX (aL (a7 rfl rfl) (a7 rfl rfl) d5 (by with_unfolding_all rfl)) (aA (aJ (aD (aD (a7 rfl rfl) (a7 rfl rfl) aM) (a7 rfl rfl) ag) rfl (fun _ => rfl)) (aC)) (aC)) (aC))) (aA (aJ (aP rfl cz rfl (eO h) (de (a7 rfl rfl) (de (a7 rfl rfl) (a8) rfl) rfl) rfl rfl (by decide)) rfl (fun _ => rfl)) (aC))) (fun _ _ => rfl)
    refine aA ?_ ?_
    · exact aX (aL (a7 rfl rfl) (aK (aj h) (a7 rfl rfl) (fun _ _ => rfl)) d5 (by with_unfolding_all rfl)) (aA (aa (bC PySem.F.slot_list_append PySem.F.type_list_append bD (a7 rfl rfl) (de (iG) (a8) rfl) (fun _ _ => rfl) (fun _ _ _ => rfl)) (fun _ => rfl)) (aC)) (aC)
    refine aA ?_ ?_
    · exact aJ (aD (a7 rfl rfl) (aP rfl cz rfl (eO h) (de (aB) (de (aD (aK (aj h) (a7 rfl rfl) (fun _ _ => rfl)) (a7 rfl rfl) ag) (a8) rfl) rfl) rfl rfl (by decide)) aM) rfl (fun _ => rfl)
    refine aA ?_ ?_
    · exact aX (aL (a7 rfl rfl) (aO (bZ h) (bF h) (by decide) (a7 rfl rfl) (a8) (fun _ _ => rfl) (fun _ _ _ => rfl)) eL (by with_unfolding_all rfl)) (aA (aa (bC PySem.F.slot_list_append PySem.F.type_list_append bD (a7 rfl rfl) (de (iG) (a8) rfl) (fun _ _ => rfl) (fun _ _ _ => rfl)) (fun _ => rfl)) (aC)) (aC)
    refine aA ?_ ?_
    · exact aR (a7 rfl rfl)
    exact aC
  case hbind => exact cf fun _ => rfl
  case hloc => decide +kernel
  case hcell => decide +kernel
  case h1 => kernel_rfl
  case h2 => kernel_rfl
  case h3 => kernel_rfl
noncomputable def mI : SF := sSeq (sSet "source" (eCall gw (eCons (eN "script") (eNil))))
 (sSeq (sSwap2 "usable" "page" (eOp2 oItem (eList (eCons (eK (.int 64)) (eCons (eK (.int 128)) (eCons (eK (.int 128)) (eNil))))) (eCall ay (eCons (eN "source") (eCons (eK (.int 3)) (eNil))))) (eOp2 oAdd (eK (.int 1)) (eCall ay (eCons (eN "source") (eCons (eK (.int 2)) (eNil))))))
 (sSeq (sSet "kind" (eOp2 oItem (eList (eCons (eK (.int 2)) (eCons (eK (.int 5)) (eCons (eK (.int 10)) (eCons (eK (.int 13)) (eNil)))))) (eCall ay (eCons (eN "source") (eCons (eK (.int 4)) (eNil))))))
 (sSeq (sSet "node" (eNew 412 cL (eCons (eCall cBytes (eCons (eOp2 oMul (eList (eCons (eK (.int 77)) (eNil))) (eN "usable")) (eNil))) (eCons (eN "page") (eCons (eN "usable") (eNil))))))
 (sSeq (sDo (eMeth 412 "clear" dp (eN "node") (eCons (eN "kind") (eNil))))
 (sSeq (sSet "head" (eK (.int 8)))
 (sSeq (sIf (tOf (eOp2 oLt (eN "kind") (eK (.int 10)))) (sSeq (sSet "head" (eK (.int 12)))
 (sSeq (sDo (eMeth 412 "set_right" cJ (eN "node") (eCons (eK (.int 70001)) (eNil))))
 (sNil))) (sNil))
 (sSeq (sIf (tOf (eOp2 oEq (eN "page") (eK (.int 1)))) (sSeq (sSet "head" (eOp2 oAdd (eN "head") (eK (.int 32))))
 (sNil)) (sNil))
 (sSeq (sSet "raws" (eList (eNil)))
 (sSeq (sForR (bN "turn") (eCons (eOp2 oAdd (eK (.int 4)) (eCall ay (eCons (eN "source") (eCons (eK (.int 10)) (eNil))))) (eNil)) (sSeq (sIf (tNot (tOf (eCall ee (eCons (eN "source") (eCons (eN "node") (eCons (eN "raws") (eCons (eOp2 oSub (eN "usable") (eN "head")) (eNil)))))))) (sSeq (sRet (eK (.bool false)))
 (sNil)) (sNil))
 (sNil)))
 (sSeq (sIf (tsOr (tOf (eOp2 oNe (eMeth 412 "raws" bq (eN "node") (eNil)) (eN "raws"))) (tsOr (tOf (eOp2 oNe (eMeth 412 "room" dZ (eN "node") (eNil)) (eOp2 oSub (eOp2 oSub (eN "usable") (eN "head")) (eCall fS (eCons (eN "raws") (eNil)))))) (tsOr (tOf (eOp2 oNe (eCall fT (eCons (eN "node") (eNil))) (eList (eNil)))) (tsOrNil)))) (sSeq (sRet (eK (.bool false)))
 (sNil)) (sNil))
 (sSeq (sIf (tsAnd (tOf (eOp2 oLt (eN "kind") (eK (.int 10)))) (tsAnd (tOf (eOp2 oNe (eMeth 412 "right" cC (eN "node") (eNil)) (eK (.int 70001)))) (tsAndNil))) (sSeq (sRet (eK (.bool false)))
 (sNil)) (sNil))
 (sSeq (sRet (eAnd (eOp2 oEq (eMeth 412 "kind" bW (eN "node") (eNil)) (eN "kind")) (eOr (eOp2 oEq (eN "page") (eK (.int 2))) (eOp2 oEq (eCut (eMeth 412 "octets" cp (eN "node") (eNil)) (oNo) (oYes (eK (.int 32)))) (eCall cBytes (eCons (eOp2 oMul (eList (eCons (eK (.int 77)) (eNil))) (eK (.int 32))) (eNil)))))))
 (sNil)))))))))))))
noncomputable def me : FF := fnF ["script"] mI
theorem rC (h : KOk cx) : DenF cx 17 (.ref 468) me := by
  refine @aW cx 16 468 ["script"] mI (O.nameOf (O.tp 41)) (Str.ofString "law") (O.argsOf (O.tp 41)) (O.bodyOf (O.tp 41)) (O.scopeOf (O.tp 41)) .none .none .none (O.S "law_nt0113_01" 784) (.ref 467) .none (.type "function") none none ⟨[]⟩ ?ho ?hcd ?hb ?hbind ?hloc ?hcell ?h1 ?h2 ?h3
  case ho => rw [h.hK]; kernel_rfl
  case hcd => rw [h.hK]; kernel_rfl
  case hb =>
    refine aA ?_ ?_
    · exact aJ (aN (lN h) (qI h) (lp h) (by decide) (de (a7 rfl rfl) (a8) rfl) rfl rfl) rfl (fun _ => rfl)
    refine aA ?_ ?_
    · exact mm (ab (aq (de (aB) (de (aB) (de (aB) (a8) rfl) rfl) rfl)) (aN (bB h) (dd h) (bJ h) (by decide) (de (a7 rfl rfl) (de (aB) (a8) rfl) rfl) rfl rfl)) (aD (aB) (aN (bB h) (dd h) (bJ h) (by decide) (de (a7 rfl rfl) (de (aB) (a8) rfl) rfl) rfl rfl) aM) rfl rfl (fun _ => rfl) (fun _ => rfl) (fun _ hb hx hy => nx hb hx hy rfl rfl rfl)
    refine aA ?_ ?_
    · exact aJ (ab (aq (de (aB) (de (aB) (de (aB) (de (aB) (a8) rfl) rfl) rfl) rfl)) (aN (bB h) (dd h) (bJ h) (by decide) (de (a7 rfl rfl) (de (aB) (a8) rfl) rfl) rfl rfl)) rfl (fun _ => rfl)
    refine aA ?_ ?_
    · exact aJ (iz (n := 14) (qp h) (oW h) (pB h) (oZ h) (oi h) (gX h) (by decide) (de (aP rfl cG rfl (cj h) (de (aD (aq (de (aB) (a8) rfl)) (a7 rfl rfl) bI) (a8) rfl) rfl rfl (by decide)) (de (a7 rfl rfl) (de (a7 rfl rfl) (a8) rfl) rfl) rfl) rfl rfl) rfl (fun _ => rfl)
    refine aA ?_ ?_
    · exact aa (aO (gf h) (i3 h) (by decide) (a7 rfl rfl) (de (a7 rfl rfl) (a8) rfl) (fun _ _ => rfl) (fun _ _ _ => rfl)) (fun _ => rfl)
    refine aA ?_ ?_
    · exact aJ (aB) rfl (fun _ => rfl)
    refine aA ?_ ?_
    · exact aX (aL (a7 rfl rfl) (aB) be (by with_unfolding_all rfl)) (aA (aJ (aB) rfl (fun _ => rfl)) (aA (aa (aO (eU h) (eu h) (by decide) (a7 rfl rfl) (de (aB) (a8) rfl) (fun _ _ => rfl) (fun _ _ _ => rfl)) (fun _ => rfl)) (aC))) (aC)
    refine aA ?_ ?_
    · exact aX (aL (a7 rfl rfl) (aB) cw (by with_unfolding_all rfl)) (aA (aJ (aD (a7 rfl rfl) (aB) aM) rfl (fun _ => rfl)) (aC)) (aC)
    refine aA ?_ ?_
    · exact aJ (aq (a8)) rfl (fun _ => rfl)
    refine aA ?_ ?_
    · exact bQ (de (aD (aB) (aN (bB h) (dd h) (bJ h) (by decide) (de (a7 rfl rfl) (de (aB) (a8) rfl) rfl) rfl rfl) aM) (a8) rfl) (bp rfl) (aA (aX (f6 (dx (aN (jE h) (pn h) (ji h) (by decide) (de (a7 rfl rfl) (de (a7 rfl rfl) (de (a7 rfl rfl) (de (aD (a7 rfl rfl) (a7 rfl rfl) ag) (a8) rfl) rfl) rfl) rfl) rfl rfl) (fun _ _ => rfl))) (aA (aR (f4)) (aC)) (aC)) (aC)) (d8 h) rfl
    refine aA ?_ ?_
    · exact aX (bL (cK (aL (aO (iF h) (fg h) (by decide) (a7 rfl rfl) (a8) (fun _ _ => rfl) (fun _ _ _ => rfl)) (a7 rfl rfl) eL (by with_unfolding_all rfl)) (cK (aL (aO (hW h) (io h) (by decide) (a7 rfl rfl) (a8) (fun _ _ => rfl) (fun _ _ _ => rfl)) (aD (aD (a7 rfl rfl) (a7 rfl rfl) ag) (aN (ir h) (nz h) (jV h) (by decide) (de (a7 rfl rfl) (a8) rfl) rfl rfl) ag) eL (by with_unfolding_all rfl)) (cK (aL (aN (kY h) (qc h) (ku h) (by decide) (de (a7 rfl rfl) (a8) rfl) rfl rfl) (aq (a8)) eL (by with_unfolding_all rfl)) (cY))))) (aA (aR (f4)) (aC)) (aC)
    refine aA ?_ ?_
    · exact aX (bL (dS (aL (a7 rfl rfl) (aB) be (by with_unfolding_all rfl)) (dS (aL (aO (gZ h) (ew h) (by decide) (a7 rfl rfl) (a8) (fun _ _ => rfl) (fun _ _ _ => rfl)) (aB) eL (by with_unfolding_all rfl)) (dY)))) (aA (aR (f4)) (aC)) (aC)
    refine aA ?_ ?_
    · exact aR (iK (oe (fE (aO (dq h) (cS h) (by decide) (a7 rfl rfl) (a8) (fun _ _ => rfl) (fun _ _ _ => rfl)) (a7 rfl rfl) cw (by with_unfolding_all rfl)) (kK (iK (oA (fE (a7 rfl rfl) (aB) cw (by with_unfolding_all rfl)) (kK (fE (gV (aO (jS h) (i7 h) (by decide) (a7 rfl rfl) (a8) (fun _ _ => rfl) (fun _ _ _ => rfl)) (kR) (bw (aB))) (aP rfl cG rfl (cj h) (de (aD (aq (de (aB) (a8) rfl)) (aB) bI) (a8) rfl) rfl rfl (by decide)) cw (by with_unfolding_all rfl))))))))
    exact aC
  case hbind => exact cf fun _ => rfl
  case hloc => decide +kernel
  case hcell => decide +kernel
  case h1 => kernel_rfl
  case h2 => kernel_rfl
  case h3 => kernel_rfl
end Mine

end
section
open PySem PySem.W PySem.Spec PySem.Calls PyProof.Rows
namespace Mine
theorem wellInts {P : Params} {h : Heap} {ρ : Pls} {h₀ : Heap} : ∀ {xs : List Int} {vs : List Value}, WellAll P h vs (ofPys (xs.map PyData.int)) → VsRel h₀ ρ h (xs.map .int) vs
  | [], _, r => by cases r; exact .nil
  | x :: xs, _, r => by
    rw [List.map_cons] at r ⊢
    unfold ofPys at r
    cases r with | cons a b =>
      unfold ofPy at a
      cases a
      exact .cons (.int _ _) (wellInts b)
theorem good0 : Good ctx0 17 where
  handled := rfl
  depth := by decide
  units := by decide
  dec := by intro x hx; cases hx
  own := by decide
theorem join (H : ∀ ns : List Int, ns.length ≤ 63 → ∃ σ', me [.froz (ns.map .int)] [] = some (.bool true, σ')) : PySem.Challenge.rw_nt0113_01.Holds := by
  refine O.hd ?_
  intro w s₀ s₁ mg mb G KX hmg hg args vals as hpre hlay hrd hwl p
  have hsh := (pre_splitW hpre).1
  have hcond := (pre_splitW hpre).2
  wrow_hasAll hsh hlay
  rename_i ns _ _ _ _ _
  have hlen : ns.length ≤ 63 := by
    clear hpre hwl hrd
    w_cond hcond
    rename_i q _
    have q' : ¬ ((63 : Nat) : Int) < (ns.length : Int) := q
    (first|lia|omega)
  have hwl0 := hwl
  unfold ofPy at hwl
  cases hwl with | cons h1 h2 =>
    cases h2
    cases h1 with | list ha hv =>
      obtain ⟨σ', hf⟩ := H ns hlen
      let cx : Cx := { prog := PySem.Challenge.rw_nt0113_01.row.prog, w := w, K := O.K w.params, h₀ := s₁.heap, s₀ := s₁, mg := mg, mb := mb, p := _, loose := _, X := KX, T := topRead_of G.T }
      have S : SOk cx [] [] s₁ := ⟨⟨s₁.heap, s₁.toks, rfl⟩, fun _ _ e => e, rfl, fun k o p e => by simp at e, fun i j p q e => by simp at e, fun p hp => by cases hp⟩
      have r : VsRel cx.h₀ [] s₁.heap [.froz (ns.map .int)] [_] := .cons (.froz (n := 0) ha (wellInts hv)) .nil
      have := rC (cx := cx) ⟨rfl⟩ [] [] s₁ _ _ _ _ S r hf
      refine Sem.wp_mono _ _ _ (fun v p' s' g => ?_) (fun _ _ _ x => x) _ _ ((cy (Q := fun v s' => ValAt cx [] s₁ (.bool true) σ' v s') (dN this fun r s' z => z)).go ctx0 p good0)
      obtain ⟨ρ', S', P', rv⟩ := g
      cases rv
      obtain ⟨h', tk, e⟩ := S'.same
      refine ⟨.inl ⟨_, .bool true, [], rfl, fun cls => ?_, .bool true, ?_, fun _ => ⟨.nil, fun a ha => by cases ha⟩⟩, ?_, ?_, ?_⟩
      · exact raisesW_false (by exact allW_false_nil) cls
      · exact postW_of (by rfl) (by wtm_val) (by rfl)
      · exact .of_keep fun b o y => P'.fr b o y (fun p hp => by cases hp) (fun x => x)
      · rw [e]
      · rw [e]; exact .of_eq hg
end Mine

end
section
open PySem PySem.W PySem.Calls PyProof.Rows
namespace Mine

noncomputable def We {α : Type} (r : Option (α × Sto)) (Q : α → Sto → Prop) : Prop := ∃ a σ', r = some (a, σ') ∧ Q a σ'
noncomputable def Ws (r : Option (Fl × Loc × Sto)) (Q : Fl → Loc → Sto → Prop) : Prop := ∃ a l σ', r = some (a, l, σ') ∧ Q a l σ'
noncomputable def Wp (r : Option Sto) (Q : Sto → Prop) : Prop := ∃ σ', r = some σ' ∧ Q σ'
noncomputable def Bo (r : Option Loc) (Q : Loc → Prop) : Prop := ∃ l, r = some l ∧ Q l
noncomputable def Br (b : Bool) (A B : Prop) : Prop := (b = true → A) ∧ (b = false → B)
noncomputable def IsB (v : MV) (Q : Bool → Prop) : Prop := ∃ b, v = .bool b ∧ Q b
noncomputable def IsInt (v : MV) (Q : Int → Prop) : Prop := ∃ i, v = .int i ∧ Q i
noncomputable def Nx (g : SF) (Q : Fl → Loc → Sto → Prop) : Fl → Loc → Sto → Prop
  | .next, l, σ => Ws (g l σ) Q
  | .ret v, l, σ => Q (.ret v) l σ
noncomputable def Lp (P : Loc → Sto → Prop) (Q : Fl → Loc → Sto → Prop) : Fl → Loc → Sto → Prop
  | .next, l, σ => P l σ
  | .ret v, l, σ => Q (.ret v) l σ
noncomputable def Rt (Q : MV → Sto → Prop) : Fl → Sto → Prop
  | .next, σ => Q .none σ
  | .ret v, σ => Q v σ

section
variable {l : Loc} {σ : Sto} {x y : String}
theorem We.mono {α : Type} {r : Option (α × Sto)} {Q Q' : α → Sto → Prop} (h : We r Q) (k : ∀ a s, Q a s → Q' a s) : We r Q' := let ⟨a, s, e, q⟩ := h; ⟨a, s, e, k _ _ q⟩
theorem Ws.mono {r : Option (Fl × Loc × Sto)} {Q Q' : Fl → Loc → Sto → Prop} (h : Ws r Q) (k : ∀ a l s, Q a l s → Q' a l s) : Ws r Q' := let ⟨a, l, s, e, q⟩ := h; ⟨a, l, s, e, k _ _ _ q⟩
theorem jC {Q : MV → Sto → Prop} {v : MV} (e : l x = some v) (h : Q v σ) : We (eN x l σ) Q := ⟨v, σ, by simp [eN, e], h⟩
theorem pd {Q : MV → Sto → Prop} {v : MV} (h : Q v σ) : We (eK v l σ) Q := ⟨v, σ, rfl, h⟩
theorem iJ {Q : MV → Sto → Prop} {op : Op2} {a b : EF} (h : We (a l σ) fun x σ1 => We (b l σ1) fun y σ2 => We (op x y σ2) Q) : We (eOp2 op a b l σ) Q := by
  obtain ⟨x, σ1, e1, y, σ2, e2, z, σ3, e3, q⟩ := h
  exact ⟨z, σ3, by simp only [eOp2, e1, e2, e3], q⟩
theorem j8 {Q : MV → Sto → Prop} {g : FF} {fs : EsF} (h : We (fs l σ) fun vs σ1 => We (g vs σ1) Q) : We (eCall g fs l σ) Q := by
  obtain ⟨x, σ1, e1, y, σ2, e2, q⟩ := h
  exact ⟨y, σ2, by simp only [eCall, e1, e2], q⟩
theorem ib {Q : List MV → Sto → Prop} (h : Q [] σ) : We (eNil l σ) Q := ⟨[], σ, rfl, h⟩
theorem eV {Q : List MV → Sto → Prop} {f : EF} {g : EsF} (h : We (f l σ) fun v σ1 => We (g l σ1) fun vs σ2 => Q (v :: vs) σ2) : We (eCons f g l σ) Q := by
  obtain ⟨x, σ1, e1, y, σ2, e2, q⟩ := h
  exact ⟨_, σ2, by simp only [eCons, e1, e2], q⟩
theorem pO {Q : MV → Sto → Prop} {fs : EsF} (h : We (fs l σ) fun vs σ1 => vs.length ≤ 100000 ∧ Q (.ref σ1.length) (σ1 ++ [.list vs])) : We (eList fs l σ) Q := by
  obtain ⟨x, σ1, e1, y, q⟩ := h
  exact ⟨_, _, by simp only [eList, e1, big, y, if_true], q⟩
theorem pv {Q : MV → Sto → Prop} {fs : EsF} (h : We (fs l σ) fun vs σ1 => vs.length ≤ 100000 ∧ Q (.tup vs) σ1) : We (eTup fs l σ) Q := by
  obtain ⟨x, σ1, e1, y, q⟩ := h
  exact ⟨_, _, by simp only [eTup, e1, big, y, if_true], q⟩
theorem qZ {Q : Bool → Sto → Prop} {f : EF} (h : We (f l σ) fun v σ1 => IsB v fun b => Q b σ1) : We (tOf f l σ) Q := by
  obtain ⟨x, σ1, e1, b, rfl, q⟩ := h
  exact ⟨_, _, by simp only [tOf, e1], q⟩
theorem isB {Q : Bool → Prop} {b : Bool} (h : Q b) : IsB (.bool b) Q := ⟨b, rfl, h⟩
theorem isInt {Q : Int → Prop} {b : Int} (h : Q b) : IsInt (.int b) Q := ⟨b, rfl, h⟩
theorem ol {Q : Bool → Sto → Prop} {f : TF} (h : We (f l σ) fun b σ1 => Q (!b) σ1) : We (tNot f l σ) Q := by
  obtain ⟨x, σ1, e1, q⟩ := h
  exact ⟨_, _, by simp only [tNot, e1], q⟩
theorem rH {p : Prop} [Decidable p] {A B : Prop} (h : p) (a : A) : Br (decide p) A B := ⟨fun _ => a, fun e => absurd h (by simpa using e)⟩
theorem rM {p : Prop} [Decidable p] {A B : Prop} (h : ¬ p) (a : B) : Br (decide p) A B := ⟨fun e => absurd (by simpa using e) h, fun _ => a⟩
theorem br {p : Prop} [Decidable p] {A B : Prop} (a : p → A) (b : ¬ p → B) : Br (decide p) A B := ⟨fun e => a (by simpa using e), fun e => b (by simpa using e)⟩
theorem rB {p : Prop} [Decidable p] {A B : Prop} (h : p) (a : B) : Br (!decide p) A B := ⟨fun e => absurd h (by simpa using e), fun _ => a⟩
theorem rP {p : Prop} [Decidable p] {A B : Prop} (h : ¬ p) (a : A) : Br (!decide p) A B := ⟨fun _ => a, fun e => absurd (by simpa using e) h⟩
theorem brn {p : Prop} [Decidable p] {A B : Prop} (a : ¬ p → A) (b : p → B) : Br (!decide p) A B := ⟨fun e => a (by simpa using e), fun e => b (by simpa using e)⟩
theorem mR {A B : Prop} (a : A) : Br true A B := ⟨fun _ => a, fun e => nomatch e⟩
theorem eG {A B : Prop} (a : B) : Br false A B := ⟨fun e => (nomatch e), fun _ => a⟩
theorem oI {Q : Bool → Sto → Prop} (h : Q false σ) : We (tsOrNil l σ) Q := ⟨_, _, rfl, h⟩
theorem nK {Q : Bool → Sto → Prop} (h : Q true σ) : We (tsAndNil l σ) Q := ⟨_, _, rfl, h⟩
theorem ph {Q : Bool → Sto → Prop} {f g : TF} (h : We (f l σ) fun b σ1 => Br b (Q true σ1) (We (g l σ1) Q)) : We (tsOr f g l σ) Q := by
  obtain ⟨b, σ1, e1, h1, h2⟩ := h
  cases b with
  | true => exact ⟨_, _, by simp only [tsOr, e1], h1 rfl⟩
  | false => obtain ⟨c, σ2, e2, q⟩ := h2 rfl; exact ⟨_, _, by simp only [tsOr, e1, e2], q⟩
theorem nR {Q : Bool → Sto → Prop} {f g : TF} (h : We (f l σ) fun b σ1 => Br b (We (g l σ1) Q) (Q false σ1)) : We (tsAnd f g l σ) Q := by
  obtain ⟨b, σ1, e1, h1, h2⟩ := h
  cases b with
  | false => exact ⟨_, _, by simp only [tsAnd, e1], h2 rfl⟩
  | true => obtain ⟨c, σ2, e2, q⟩ := h1 rfl; exact ⟨_, _, by simp only [tsAnd, e1, e2], q⟩
theorem rI {Q : MV → Sto → Prop} {f g : EF} (h : We (f l σ) fun v σ1 => IsB v fun b => Br b (Q (.bool true) σ1) (We (g l σ1) Q)) : We (eOr f g l σ) Q := by
  obtain ⟨_, σ1, e1, b, rfl, h1, h2⟩ := h
  cases b with
  | true => exact ⟨_, _, by simp only [eOr, e1], h1 rfl⟩
  | false => obtain ⟨c, σ2, e2, q⟩ := h2 rfl; exact ⟨_, _, by simp only [eOr, e1, e2], q⟩
theorem qs {Q : MV → Sto → Prop} {f g : EF} (h : We (f l σ) fun v σ1 => IsB v fun b => Br b (We (g l σ1) Q) (Q (.bool false) σ1)) : We (eAnd f g l σ) Q := by
  obtain ⟨_, σ1, e1, b, rfl, h1, h2⟩ := h
  cases b with
  | false => exact ⟨_, _, by simp only [eAnd, e1], h2 rfl⟩
  | true => obtain ⟨c, σ2, e2, q⟩ := h1 rfl; exact ⟨_, _, by simp only [eAnd, e1, e2], q⟩
theorem q9 {Q : MV → Sto → Prop} {f : EF} (h : We (f l σ) fun v σ1 => IsInt v fun b => Q (.int (-b)) σ1) : We (eNeg f l σ) Q := by
  obtain ⟨_, σ1, e1, b, rfl, q⟩ := h
  exact ⟨_, _, by simp only [eNeg, e1], q⟩
theorem qL {Q : MV → Sto → Prop} {f : EF} (h : We (f l σ) fun v σ1 => IsB v fun b => Q (.bool (!b)) σ1) : We (eNot f l σ) Q := by
  obtain ⟨_, σ1, e1, b, rfl, q⟩ := h
  exact ⟨_, _, by simp only [eNot, e1], q⟩

variable {Q : Fl → Loc → Sto → Prop}
theorem oO (h : Q .next l σ) : Ws (sNil l σ) Q := ⟨_, _, _, rfl, h⟩
theorem cW {f g : SF} (h : Ws (f l σ) (Nx g Q)) : Ws (sSeq f g l σ) Q := by
  obtain ⟨fl, l1, σ1, e1, q⟩ := h
  cases fl with
  | next => obtain ⟨a, l2, σ2, e2, q⟩ := q; exact ⟨a, l2, σ2, by simp only [sSeq, e1, e2], q⟩
  | ret v => exact ⟨.ret v, l1, σ1, by simp only [sSeq, e1], q⟩
theorem eQ {g : SF} (h : Ws (g l σ) Q) : Nx g Q .next l σ := h
theorem qy {g : SF} {v : MV} (h : Q (.ret v) l σ) : Nx g Q (.ret v) l σ := h
theorem pD {Q : MV → Sto → Prop} (h : Q .none σ) : Rt Q .next σ := h
theorem qh {Q : MV → Sto → Prop} {v : MV} (h : Q v σ) : Rt Q (.ret v) σ := h
theorem nP {f : EF} (h : We (f l σ) fun v σ1 => Q (.ret v) l σ1) : Ws (sRet f l σ) Q := by
  obtain ⟨v, σ1, e1, q⟩ := h
  exact ⟨_, _, _, by simp only [sRet, e1], q⟩
theorem oq (h : Q (.ret .none) l σ) : Ws (sRet0 l σ) Q := ⟨_, _, _, rfl, h⟩
theorem pi {t : TF} {f g : SF} (h : We (t l σ) fun b σ1 => Br b (Ws (f l σ1) Q) (Ws (g l σ1) Q)) : Ws (sIf t f g l σ) Q := by
  obtain ⟨b, σ1, e1, h1, h2⟩ := h
  cases b with
  | true => obtain ⟨a, l2, σ2, e2, q⟩ := h1 rfl; exact ⟨a, l2, σ2, by simp only [sIf, e1, e2], q⟩
  | false => obtain ⟨a, l2, σ2, e2, q⟩ := h2 rfl; exact ⟨a, l2, σ2, by simp only [sIf, e1, e2], q⟩
theorem nN {f : EF} (h : We (f l σ) fun v σ1 => Q .next (upd x v l) σ1) : Ws (sSet x f l σ) Q := by
  obtain ⟨v, σ1, e1, q⟩ := h
  exact ⟨_, _, _, by simp only [sSet, e1], q⟩
theorem q6 {op : Op2} {f : EF} (h : We (eOp2 op (eN x) f l σ) fun v σ1 => Q .next (upd x v l) σ1) : Ws (sAug x op f l σ) Q := by
  obtain ⟨v, σ1, e1, q⟩ := h
  exact ⟨_, _, _, by simp only [sAug, e1], q⟩
theorem pj {f : EF} (h : We (f l σ) fun _ σ1 => Q .next l σ1) : Ws (sDo f l σ) Q := by
  obtain ⟨v, σ1, e1, q⟩ := h
  exact ⟨_, _, _, by simp only [sDo, e1], q⟩
theorem qD {b : Bd} {f : EF} (h : We (f l σ) fun v σ1 => Bo (b v l) fun l' => Q .next l' σ1) : Ws (sAsg b f l σ) Q := by
  obtain ⟨v, σ1, e1, l', e2, q⟩ := h
  exact ⟨_, _, _, by simp only [sAsg, e1, e2], q⟩
theorem rS {v u : MV} {x y : String} {Q : Loc → Prop} (h : Q (upd y u (upd x v l))) : Bo (bT (bCons x (bCons y bNil)) (.tup [v, u]) l) Q := ⟨_, rfl, h⟩
theorem rG {v u w : MV} {x y z : String} {Q : Loc → Prop} (h : Q (upd z w (upd y u (upd x v l)))) : Bo (bT (bCons x (bCons y (bCons z bNil))) (.tup [v, u, w]) l) Q := ⟨_, rfl, h⟩
theorem r5 {v : MV} {x : String} {Q : Loc → Prop} (h : Q (upd x v l)) : Bo (bN x v l) Q := ⟨_, rfl, h⟩
theorem oC {f g : EF} (h : We (f l σ) fun v σ1 => We (g l σ1) fun u σ2 => Q .next (upd x v (upd y u l)) σ2) : Ws (sSwap2 x y f g l σ) Q := by
  obtain ⟨v, σ1, e1, u, σ2, e2, q⟩ := h
  exact ⟨_, _, _, by simp only [sSwap2, e1, e2], q⟩
theorem qT {f g e : EF} (h : We (e l σ) fun v σ1 => We (f l σ1) fun x σ2 => We (g l σ2) fun y σ3 => Wp (pItem x y v σ3) fun σ4 => Q .next l σ4) : Ws (sPut f g e l σ) Q := by
  obtain ⟨v, σ1, e1, x, σ2, e2, y, σ3, e3, σ4, e4, q⟩ := h
  exact ⟨_, _, _, by simp only [sPut, e1, e2, e3, e4], q⟩
theorem n6 {f e : EF} {fl fh : OF} (h : We (e l σ) fun v σ1 => We (f l σ1) fun x σ2 => We (fl l σ2) fun i σ3 => We (fh l σ3) fun j σ4 => Wp (pCut x i j v σ4) fun σ5 => Q .next l σ5) : Ws (sPutCut f fl fh e l σ) Q := by
  obtain ⟨v, σ1, e1, x, σ2, e2, y, σ3, e3, z, σ4, e4, σ5, e5, q⟩ := h
  exact ⟨_, _, _, by simp only [sPutCut, e1, e2, e3, e4, e5], q⟩
theorem qY {Q : Option Int → Sto → Prop} (h : Q none σ) : We (oNo l σ) Q := ⟨_, _, rfl, h⟩
theorem pC {Q : Option Int → Sto → Prop} {f : EF} (h : We (f l σ) fun v σ1 => IsInt v fun i => Q (some i) σ1) : We (oYes f l σ) Q := by
  obtain ⟨_, σ1, e1, i, rfl, q⟩ := h
  exact ⟨_, _, by simp only [oYes, e1], q⟩
theorem pr {Q : MV → Sto → Prop} {f : EF} {lo hi : OF} (h : We (f l σ) fun x σ1 => We (lo l σ1) fun i σ2 => We (hi l σ2) fun j σ3 => We (oCut x i j σ3) Q) : We (eCut f lo hi l σ) Q := by
  obtain ⟨x, σ1, e1, i, σ2, e2, j, σ3, e3, v, σ4, e4, q⟩ := h
  exact ⟨_, _, by simp only [eCut, e1, e2, e3, e4], q⟩

noncomputable def gAttr (C : Addr) (x : String) (v : MV) (σ : Sto) : Option (MV × Sto) := eAttr C x (fun _ σ => some (v, σ)) (fun _ => none) σ
theorem mT {Q : MV → Sto → Prop} {C : Addr} {f : EF} (h : We (f l σ) fun v σ1 => We (gAttr C x v σ1) Q) : We (eAttr C x f l σ) Q := by
  obtain ⟨v, σ1, e1, u, σ2, e2, q⟩ := h
  refine ⟨u, σ2, ?_, q⟩
  unfold gAttr eAttr at e2
  unfold eAttr
  rw [e1]; exact e2
theorem lQ {Q : MV → Sto → Prop} {C : Addr} {k : Nat} {fs : List (String × MV)} {v : MV} (h : σ[k]? = some (.inst C fs)) (hf : fget x fs = some v) (q : Q v σ) : We (gAttr C x (.ref k) σ) Q := by
  refine ⟨v, σ, ?_, q⟩
  simp [gAttr, eAttr, h, hf]
noncomputable def HasC (C : Addr) (x : String) (v : MV) (σ : Sto) : Prop := ∃ k fs, v = .ref k ∧ σ[k]? = some (.inst C fs) ∧ fget x fs = none
theorem mY {Q : MV → Sto → Prop} {C : Addr} {g : FF} {f : EF} {fs : EsF} (h : We (f l σ) fun v σ1 => HasC C x v σ1 ∧ We (fs l σ1) fun vs σ2 => We (g (v :: vs) σ2) Q) : We (eMeth C x g f fs l σ) Q := by
  obtain ⟨_, σ1, e1, ⟨k, fl, rfl, e2, e3⟩, vs, σ2, e4, u, σ3, e5, q⟩ := h
  refine ⟨u, σ3, ?_, q⟩
  simp only [eMeth, e1, e2, e3, and_self, if_true, e4, e5]
theorem bc {C : Addr} {f e : EF} (h : We (e l σ) fun v σ1 => We (f l σ1) fun u σ2 => ∃ k fs, u = .ref k ∧ σ2[k]? = some (.inst C fs) ∧ fs.length ≤ 100 ∧ Q .next l (σ2.set k (.inst C (fput x v fs)))) : Ws (sSetAttr C x f e l σ) Q := by
  obtain ⟨v, σ1, e1, _, σ2, e2, k, fs, rfl, e3, e4, q⟩ := h
  refine ⟨_, _, _, ?_, q⟩
  simp only [sSetAttr, e1, e2, e3, e4, and_self, if_true]
theorem nL {Q : MV → Sto → Prop} {C : Addr} {gI : FF} {fs : EsF} (h : We (fs l σ) fun vs σ1 => We (gI (.ref σ1.length :: vs) (σ1 ++ [.inst C []])) fun v σ2 => v = .none ∧ Q (.ref σ1.length) σ2) : We (eNew C gI fs l σ) Q := by
  obtain ⟨vs, σ1, e1, _, σ2, e2, rfl, q⟩ := h
  exact ⟨_, _, by simp only [eNew, e1, e2], q⟩
theorem o8 {Q : MV → Sto → Prop} {g : FF} {f : EF} {fs : EsF} (h : We (f l σ) fun v σ1 => (∃ k xs, v = .ref k ∧ σ1[k]? = some (.list xs)) ∧ We (fs l σ1) fun vs σ2 => We (g (v :: vs) σ2) Q) : We (eLMeth g f fs l σ) Q := by
  obtain ⟨_, σ1, e1, ⟨k, fl, rfl, e2⟩, vs, σ2, e4, u, σ3, e5, q⟩ := h
  refine ⟨u, σ3, ?_, q⟩
  simp only [eLMeth, e1, e2, e4, e5]

theorem m3 {f : EF} {g : SF} (h : We (f l σ) fun v σ1 => Ws (g (upd x v l) σ1) Q) : Ws (sSeq (sSet x f) g l σ) Q := cW (nN h)
theorem nE {f : EF} {g : SF} (h : We (f l σ) fun _ σ1 => Ws (g l σ1) Q) : Ws (sSeq (sDo f) g l σ) Q := cW (pj h)
theorem ly {f : EF} {g : SF} (h : We (f l σ) fun v σ1 => Q (.ret v) l σ1) : Ws (sSeq (sRet f) g l σ) Q := cW (nP h)
theorem nF {g : SF} (h : Ws (g l σ) Q) : Ws (sNil l σ) (Nx g Q) := oO h
theorem nZ {Q : MV → Sto → Prop} {g : FF} {a : EF} (h : We (a l σ) fun x σ1 => We (g [x] σ1) Q) : We (eCall g (eCons a eNil) l σ) Q := j8 (eV (h.mono fun _ _ q => ib q))
theorem nM {Q : MV → Sto → Prop} {g : FF} {a b : EF} (h : We (a l σ) fun x σ1 => We (b l σ1) fun y σ2 => We (g [x, y] σ2) Q) : We (eCall g (eCons a (eCons b eNil)) l σ) Q :=
  j8 (eV (h.mono fun _ _ q => eV (q.mono fun _ _ r => ib r)))
theorem o7 {Q : MV → Sto → Prop} {g : FF} {a b c : EF} (h : We (a l σ) fun x σ1 => We (b l σ1) fun y σ2 => We (c l σ2) fun z σ3 => We (g [x, y, z] σ3) Q) : We (eCall g (eCons a (eCons b (eCons c eNil))) l σ) Q :=
  j8 (eV (h.mono fun _ _ q => eV (q.mono fun _ _ r => eV (r.mono fun _ _ u => ib u))))
theorem nW {Q : MV → Sto → Prop} {C : Addr} {k : Nat} {fs : List (String × MV)} {v : MV} (e : l y = some (.ref k)) (h : σ[k]? = some (.inst C fs)) (hf : fget x fs = some v) (q : Q v σ) : We (eAttr C x (eN y) l σ) Q := mT (jC e (lQ h hf q))
theorem jG {Q : MV → Sto → Prop} {C : Addr} {g : FF} {fs : EsF} {v : MV} (e : l y = some v) (hc : HasC C x v σ) (h : We (fs l σ) fun vs σ2 => We (g (v :: vs) σ2) Q) : We (eMeth C x g (eN y) fs l σ) Q := mY (jC e ⟨hc, h⟩)
theorem oV {Q : MV → Sto → Prop} {C : Addr} {g : FF} {v : MV} (e : l y = some v) (hc : HasC C x v σ) (h : We (g [v] σ) Q) : We (eMeth C x g (eN y) eNil l σ) Q := jG e hc (ib h)
theorem nh {Q : MV → Sto → Prop} {C : Addr} {g : FF} {a : EF} {v : MV} (e : l y = some v) (hc : HasC C x v σ) (h : We (a l σ) fun u σ1 => We (g [v, u] σ1) Q) : We (eMeth C x g (eN y) (eCons a eNil) l σ) Q := jG e hc (eV (h.mono fun _ _ q => ib q))
theorem pT {Q : MV → Sto → Prop} {op : Op2} {u v : MV} (e : l x = some u) (h : We (op u v σ) Q) : We (eOp2 op (eN x) (eK v) l σ) Q := iJ (jC e (pd h))
theorem ox {Q : MV → Sto → Prop} {op : Op2} {u v : MV} (e : l x = some u) (e2 : l y = some v) (h : We (op u v σ) Q) : We (eOp2 op (eN x) (eN y) l σ) Q := iJ (jC e (jC e2 h))
theorem pX {Q : MV → Sto → Prop} {op : Op2} {f : EF} {v : MV} (h : We (f l σ) fun u σ1 => We (op u v σ1) Q) : We (eOp2 op f (eK v) l σ) Q := iJ (h.mono fun _ _ q => pd q)
theorem pP {Q : MV → Sto → Prop} {op : Op2} {f : EF} {v : MV} (h : We (f l σ) fun u σ1 => We (op v u σ1) Q) : We (eOp2 op (eK v) f l σ) Q := iJ (pd h)
theorem ot {Q : MV → Sto → Prop} {op : Op2} {f : EF} {v : MV} (e : l x = some v) (h : We (f l σ) fun u σ1 => We (op v u σ1) Q) : We (eOp2 op (eN x) f l σ) Q := iJ (jC e h)
theorem mz {t : TF} {f h g : SF} (q : We (t l σ) fun b σ1 => Br b (Ws (f l σ1) (Nx g Q)) (Ws (h l σ1) (Nx g Q))) : Ws (sSeq (sIf t f h) g l σ) Q := cW (pi q)
theorem bg {Q : MV → Sto → Prop} {a : String} {v : MV} {sf : SF} (h : Ws (sf (upd a v fun _ => none) σ) fun fl _ σ' => Rt Q fl σ') : We (fnF [a] sf [v] σ) Q := by
  obtain ⟨fl, l, σ', e, q⟩ := h
  cases fl <;> exact ⟨_, _, by simp only [fnF, bindL, e, List.length_cons, List.length_nil, if_true], q⟩
theorem ce {Q : MV → Sto → Prop} {a1 a2 : String} {v1 v2 : MV} {sf : SF} (h : Ws (sf (upd a2 v2 (upd a1 v1 fun _ => none)) σ) fun fl _ σ' => Rt Q fl σ') : We (fnF [a1, a2] sf [v1, v2] σ) Q := by
  obtain ⟨fl, l, σ', e, q⟩ := h
  cases fl <;> exact ⟨_, _, by simp only [fnF, bindL, e, List.length_cons, List.length_nil, if_true], q⟩
theorem iU {Q : MV → Sto → Prop} {a1 a2 a3 : String} {v1 v2 v3 : MV} {sf : SF} (h : Ws (sf (upd a3 v3 (upd a2 v2 (upd a1 v1 fun _ => none))) σ) fun fl _ σ' => Rt Q fl σ') : We (fnF [a1, a2, a3] sf [v1, v2, v3] σ) Q := by
  obtain ⟨fl, l, σ', e, q⟩ := h
  cases fl <;> exact ⟨_, _, by simp only [fnF, bindL, e, List.length_cons, List.length_nil, if_true], q⟩
theorem iQ {Q : MV → Sto → Prop} {a1 a2 a3 a4 : String} {v1 v2 v3 v4 : MV} {sf : SF} (h : Ws (sf (upd a4 v4 (upd a3 v3 (upd a2 v2 (upd a1 v1 fun _ => none)))) σ) fun fl _ σ' => Rt Q fl σ') : We (fnF [a1, a2, a3, a4] sf [v1, v2, v3, v4] σ) Q := by
  obtain ⟨fl, l, σ', e, q⟩ := h
  cases fl <;> exact ⟨_, _, by simp only [fnF, bindL, e, List.length_cons, List.length_nil, if_true], q⟩
theorem rA {Q : MV → Sto → Prop} {a1 a2 a3 a4 a5 a6 : String} {v1 v2 v3 v4 v5 v6 : MV} {sf : SF} (h : Ws (sf (upd a6 v6 (upd a5 v5 (upd a4 v4 (upd a3 v3 (upd a2 v2 (upd a1 v1 fun _ => none)))))) σ) fun fl _ σ' => Rt Q fl σ') : We (fnF [a1, a2, a3, a4, a5, a6] sf [v1, v2, v3, v4, v5, v6] σ) Q := by
  obtain ⟨fl, l, σ', e, q⟩ := h
  cases fl <;> exact ⟨_, _, by simp only [fnF, bindL, e, List.length_cons, List.length_nil, if_true], q⟩
end

noncomputable def LoopL (v : MV) (b : Bd) (body : SF) (l : Loc) (σ : Sto) (Q : Fl → Loc → Sto → Prop) : Prop := ∃ k xs, v = .ref k ∧ σ[k]? = some (.list xs) ∧ Ws (loopC (fun σ => σ[k]? = some (.list xs)) b body xs l σ) Q
noncomputable def LoopR (vs : List MV) (b : Bd) (body : SF) (l : Loc) (σ : Sto) (Q : Fl → Loc → Sto → Prop) : Prop := ∃ x y c, rArgs vs = some (x, y, c) ∧ Ws (loopC (fun _ => True) b body (rItems x (Builtin.Range.rangeSize x y c) c) l σ) Q
theorem pZ {l : Loc} {σ : Sto} {Q : Fl → Loc → Sto → Prop} {b : Bd} {f : EF} {body : SF} (h : We (f l σ) fun v σ1 => LoopL v b body l σ1 Q) : Ws (sForL b f body l σ) Q := by
  obtain ⟨_, σ1, e1, k, xs, rfl, e2, fl, l', σ', e3, q⟩ := h
  exact ⟨fl, l', σ', by simp only [sForL, e1, e2, e3], q⟩
theorem on {l : Loc} {σ : Sto} {Q : Fl → Loc → Sto → Prop} {b : Bd} {fs : EsF} {body : SF} (h : We (fs l σ) fun vs σ1 => LoopR vs b body l σ1 Q) : Ws (sForR b fs body l σ) Q := by
  obtain ⟨vs, σ1, e1, x, y, c, e2, fl, l', σ', e3, q⟩ := h
  exact ⟨fl, l', σ', by simp only [sForR, e1, e2, e3], q⟩
theorem jp {α : Type} {chk : Sto → Prop} {b : Bd} {body : SF} {Q : Fl → Loc → Sto → Prop} (g : α → MV) (I : List α → Loc → Sto → Prop) (hc : ∀ r l σ, I r l σ → chk σ)
    (hb : ∀ y r l σ, I (y :: r) l σ → Bo (b (g y) l) fun l1 => Ws (body l1 σ) (Lp (I r) Q)) (he : ∀ l σ, I [] l σ → Q .next l σ) : ∀ (ys : List α) (l : Loc) (σ : Sto), I ys l σ → Ws (loopC chk b body (ys.map g) l σ) Q
  | [], l, σ, h => ⟨.next, l, σ, by simp only [List.map_nil, loopC, if_pos (hc _ _ _ h)], he _ _ h⟩
  | y :: ys, l, σ, h => by
    obtain ⟨l1, e1, fl, l2, σ2, e2, q⟩ := hb y ys l σ h
    cases fl with
    | next =>
      obtain ⟨a, l3, σ3, e3, q3⟩ := jp g I hc hb he ys l2 σ2 q
      exact ⟨a, l3, σ3, by simp only [List.map_cons, loopC, if_pos (hc _ _ _ h), e1, e2, e3], q3⟩
    | ret v => exact ⟨.ret v, l2, σ2, by simp only [List.map_cons, loopC, if_pos (hc _ _ _ h), e1, e2], q⟩
theorem fC {α : Type} {b : Bd} {body : SF} {Q : Fl → Loc → Sto → Prop} {k : Nat} {l : Loc} {σ : Sto} (g : α → MV) (ys : List α) (I : List α → Loc → Sto → Prop) (h : I ys l σ) (hc : ∀ r l σ, I r l σ → σ[k]? = some (.list (ys.map g)))
    (hb : ∀ y r l σ, I (y :: r) l σ → Bo (b (g y) l) fun l1 => Ws (body l1 σ) (Lp (I r) Q)) (he : ∀ l σ, I [] l σ → Q .next l σ) : LoopL (.ref k) b body l σ Q :=
  ⟨k, ys.map g, rfl, hc _ _ _ h, jp g I hc hb he ys l σ h⟩
theorem gU {chk : Sto → Prop} {b : Bd} {body : SF} {Q : Fl → Loc → Sto → Prop} (g : Nat → MV) (N : Nat) (I : Nat → Loc → Sto → Prop) (hc : ∀ r l σ, I r l σ → chk σ)
    (hb : ∀ i l σ, i < N → I i l σ → Bo (b (g i) l) fun l1 => Ws (body l1 σ) (Lp (I (i + 1)) Q)) (he : ∀ l σ, I N l σ → Q .next l σ) : ∀ (m i : Nat) (l : Loc) (σ : Sto), i + m = N → I i l σ → Ws (loopC chk b body ((List.range' i m).map g) l σ) Q
  | 0, i, l, σ, e, h => ⟨.next, l, σ, by simp only [List.range'_zero, List.map_nil, loopC, if_pos (hc _ _ _ h)], he _ _ (by
    have : i = N := by exact (Z.q (.im (.neq (.a (.v 0) (.k 0)) (.v 1)) (.neq (.v 0) (.v 1))) [] [_,_]) e
    subst this; exact h)⟩
  | m + 1, i, l, σ, e, h => by
    obtain ⟨l1, e1, fl, l2, σ2, e2, q⟩ := hb i l σ (by exact (Z.q (.im (.neq (.a (.v 0) (.a (.v 1) (.k 1))) (.v 2)) (.nlt (.v 0) (.v 2))) [] [_,_,_]) e) h
    cases fl with
    | next =>
      obtain ⟨a, l3, σ3, e3, q3⟩ := gU g N I hc hb he m (i + 1) l2 σ2 (by exact (Z.q (.im (.neq (.a (.v 0) (.a (.v 1) (.k 1))) (.v 2)) (.neq (.a (.a (.v 0) (.k 1)) (.v 1)) (.v 2))) [] [_,_,_]) e) q
      exact ⟨a, l3, σ3, by simp only [List.range'_succ, List.map_cons, loopC, if_pos (hc _ _ _ h), e1, e2, e3], q3⟩
    | ret v => exact ⟨.ret v, l2, σ2, by simp only [List.range'_succ, List.map_cons, loopC, if_pos (hc _ _ _ h), e1, e2], q⟩
theorem loopR1 {x : String} {body : SF} {Q : Fl → Loc → Sto → Prop} {l : Loc} {σ : Sto} {n : Int} (N : Nat) (hn : n = N) (hs : N ≤ 1000) (I : Nat → Loc → Sto → Prop) (h : I 0 l σ)
    (hb : ∀ (i : Nat) l σ, i < N → I i l σ → Ws (body (upd x (.int i) l) σ) (Lp (I (i + 1)) Q)) (he : ∀ l σ, I N l σ → Q .next l σ) : LoopR [.int n] (bN x) body l σ Q := by
  subst hn
  refine ⟨0, N, 1, ?_, ?_⟩
  · have : -(2 ^ 40) ≤ (N : Int) ∧ (N : Int) ≤ 2 ^ 40 := by exact (Z.q (.im (.nle (.v 0) (.k 1000)) (.an (.le (.n (.k (2 ^ 40))) (.c (.v 0))) (.le (.c (.v 0)) (.k (2 ^ 40))))) [] [_]) hs
    simp only [rArgs, if_pos this]
  · have e : (Builtin.Range.rangeSize 0 N 1).toNat = N := by simp [Builtin.Range.rangeSize]; (first|lia|omega)
    unfold rItems
    rw [e, List.range_eq_range']
    refine gU _ N I (fun _ _ _ _ => trivial) (fun i l σ hi hI => ⟨_, rfl, ?_⟩) he N 0 l σ (by exact (Z.q (.neq (.a (.k 0) (.v 0)) (.v 0)) [] [_])) h
    have : (0 : Int) + i * 1 = i := by exact (Z.q (.eq (.a (.k 0) (.r (.c (.v 0)) 1)) (.c (.v 0))) [] [_])
    rw [this]; exact hb i l σ hi hI
theorem loopR2 {x : String} {body : SF} {Q : Fl → Loc → Sto → Prop} {l : Loc} {σ : Sto} {a n : Int} (N : Nat) (hn : n - a = N) (hs : N ≤ 1000) (ha : -1000 ≤ a ∧ a ≤ 1000) (I : Nat → Loc → Sto → Prop) (h : I 0 l σ)
    (hb : ∀ (i : Nat) l σ, i < N → I i l σ → Ws (body (upd x (.int (a + i)) l) σ) (Lp (I (i + 1)) Q)) (he : ∀ l σ, I N l σ → Q .next l σ) : LoopR [.int a, .int n] (bN x) body l σ Q := by
  refine ⟨a, n, 1, ?_, ?_⟩
  · have : -(2 ^ 40) ≤ a ∧ a ≤ 2 ^ 40 ∧ -(2 ^ 40) ≤ n ∧ n ≤ 2 ^ 40 := by exact (Z.q (.im (.eq (.s (.v 0) (.v 1)) (.c (.v 0))) (.im (.nle (.v 0) (.k 1000)) (.im (.le (.k (-1000)) (.v 1)) (.im (.le (.v 1) (.k 1000)) (.an (.le (.n (.k (2 ^ 40))) (.v 1)) (.an (.le (.v 1) (.k (2 ^ 40))) (.an (.le (.n (.k (2 ^ 40))) (.v 0)) (.le (.v 0) (.k (2 ^ 40)))))))))) [_,_] [_]) hn hs ha.1 ha.2
    simp only [rArgs, if_pos this]
  · have e : (Builtin.Range.rangeSize a n 1).toNat = N := by
      simp [Builtin.Range.rangeSize]; split <;> (first|exact (Z.q (.im (.eq (.s (.v 0) (.v 1)) (.c (.v 0))) (.im (.or (.an (.eq (.c (.v 1)) (.s (.v 0) (.v 1))) (.le (.k 0) (.s (.v 0) (.v 1)))) (.an (.eq (.c (.v 1)) (.k 0)) (.le (.s (.v 0) (.v 1)) (.k 0)))) (.neq (.v 1) (.v 0)))) [_,_] [_,_]) hn (Z.tn _)|exact (Z.q (.im (.eq (.s (.v 0) (.v 1)) (.c (.v 0))) (.im (.no (.lt (.v 1) (.v 0))) (.im (.or (.an (.eq (.c (.v 1)) (.k 0)) (.le (.k 0) (.k 0))) (.an (.eq (.c (.v 1)) (.k 0)) (.le (.k 0) (.k 0)))) (.neq (.v 1) (.v 0))))) [_,_] [_,_]) hn (by assumption) (Z.tn _)|omega)
    unfold rItems
    rw [e, List.range_eq_range']
    refine gU _ N I (fun _ _ _ _ => trivial) (fun i l σ hi hI => ⟨_, rfl, ?_⟩) he N 0 l σ (by exact (Z.q (.neq (.a (.k 0) (.v 0)) (.v 0)) [] [_])) h
    have : a + (i : Int) * 1 = a + i := by exact (Z.q (.eq (.a (.v 0) (.r (.c (.v 0)) 1)) (.a (.v 0) (.c (.v 0)))) [_] [_])
    rw [this]; exact hb i l σ hi hI
theorem loopR3 {x : String} {body : SF} {Q : Fl → Loc → Sto → Prop} {l : Loc} {σ : Sto} {a n : Int} (N : Nat) (hn : a - n = N) (hs : N ≤ 1000) (ha : -1000 ≤ a ∧ a ≤ 1000) (I : Nat → Loc → Sto → Prop) (h : I 0 l σ)
    (hb : ∀ (i : Nat) l σ, i < N → I i l σ → Ws (body (upd x (.int (a - i)) l) σ) (Lp (I (i + 1)) Q)) (he : ∀ l σ, I N l σ → Q .next l σ) : LoopR [.int a, .int n, .int (-1)] (bN x) body l σ Q := by
  refine ⟨a, n, -1, ?_, ?_⟩
  · have : (-1 : Int) = -1 ∧ -100000 ≤ a ∧ a ≤ 100000 ∧ -100000 ≤ n ∧ n ≤ 100000 := by exact (Z.q (.im (.eq (.s (.v 0) (.v 1)) (.c (.v 0))) (.im (.nle (.v 0) (.k 1000)) (.im (.le (.k (-1000)) (.v 0)) (.im (.le (.v 0) (.k 1000)) (.an (.eq (.k (-1)) (.k (-1))) (.an (.le (.k (-100000)) (.v 0)) (.an (.le (.v 0) (.k 100000)) (.an (.le (.k (-100000)) (.v 1)) (.le (.v 1) (.k 100000)))))))))) [_,_] [_]) hn hs ha.1 ha.2
    exact if_pos this
  · have e : (Builtin.Range.rangeSize a n (-1)).toNat = N := by
      simp [Builtin.Range.rangeSize]; split <;> (first|exact (Z.q (.im (.eq (.s (.v 0) (.v 1)) (.c (.v 0))) (.im (.or (.an (.eq (.c (.v 1)) (.s (.v 0) (.v 1))) (.le (.k 0) (.s (.v 0) (.v 1)))) (.an (.eq (.c (.v 1)) (.k 0)) (.le (.s (.v 0) (.v 1)) (.k 0)))) (.neq (.v 1) (.v 0)))) [_,_] [_,_]) hn (Z.tn _)|exact (Z.q (.im (.eq (.s (.v 0) (.v 1)) (.c (.v 0))) (.im (.no (.lt (.v 1) (.v 0))) (.im (.or (.an (.eq (.c (.v 1)) (.k 0)) (.le (.k 0) (.k 0))) (.an (.eq (.c (.v 1)) (.k 0)) (.le (.k 0) (.k 0)))) (.neq (.v 1) (.v 0))))) [_,_] [_,_]) hn (by assumption) (Z.tn _)|omega)
    unfold rItems
    rw [e, List.range_eq_range']
    refine gU _ N I (fun _ _ _ _ => trivial) (fun i l σ hi hI => ⟨_, rfl, ?_⟩) he N 0 l σ (by exact (Z.q (.neq (.a (.k 0) (.v 0)) (.v 0)) [] [_])) h
    have : a + (i : Int) * (-1) = a - i := by exact (Z.q (.eq (.a (.v 0) (.r (.c (.v 0)) (-1))) (.s (.v 0) (.c (.v 0)))) [_] [_])
    rw [this]; exact hb i l σ hi hI
theorem iW {t : TF} {body : SF} {Q : Fl → Loc → Sto → Prop} (I : Nat → Loc → Sto → Prop)
    (hb : ∀ m l σ, I m l σ → We (t l σ) fun b σ1 => Br b (∃ m', m = m' + 1 ∧ Ws (body l σ1) (Lp (I m') Q)) (Q .next l σ1)) : ∀ (fuel m : Nat) (l : Loc) (σ : Sto), m < fuel → I m l σ → Ws (whileF t body fuel l σ) Q
  | 0, m, l, σ, h, _ => absurd h (Nat.not_lt_zero _)
  | k + 1, m, l, σ, hm, h => by
    obtain ⟨b, σ1, e1, h1, h2⟩ := hb m l σ h
    cases b with
    | false => exact ⟨_, _, _, by simp only [whileF, e1], h2 rfl⟩
    | true =>
      obtain ⟨m', rfl, fl, l2, σ2, e2, q⟩ := h1 rfl
      cases fl with
      | next =>
        obtain ⟨a, l3, σ3, e3, q3⟩ := iW I hb k m' l2 σ2 (by exact (Z.q (.im (.nlt (.a (.v 0) (.k 1)) (.a (.v 1) (.k 1))) (.nlt (.v 0) (.v 1))) [] [_,_]) hm) q
        exact ⟨a, l3, σ3, by simp only [whileF, e1, e2, e3], q3⟩
      | ret v => exact ⟨.ret v, l2, σ2, by simp only [whileF, e1, e2], q⟩
theorem iI {α : Type} {chk : Sto → Prop} {b : Bd} {fe : EF} {kA : Nat} (g : α → MV) (r : α → MV) (P : α → Prop) (J : Sto → Prop) (hc : ∀ σ, J σ → chk σ)
    (hb : ∀ y l σ done, P y → J σ → σ[kA]? = some (.list done) → Bo (b (g y) l) fun l1 => We (fe l1 σ) fun v σ1 => v = r y ∧ σ1[kA]? = some (.list done) ∧ ∀ x, J (σ1.set kA x)) :
    ∀ (ys : List α) (done : List MV) (l : Loc) (σ : Sto), (∀ y ∈ ys, P y) → done.length + ys.length ≤ 1000 → J σ → σ[kA]? = some (.list done) → ∃ σ', compC chk b fe kA (ys.map g) l σ = some σ' ∧ J σ' ∧ σ'[kA]? = some (.list (done ++ ys.map r))
  | [], done, l, σ, _, _, h, h' => ⟨σ, by simp only [List.map_nil, compC, if_pos (hc _ h)], h, by simpa using h'⟩
  | y :: ys, done, l, σ, hP, hl, h, h' => by
    obtain ⟨l1, e1, v, σ1, e2, rfl, e3, hJ⟩ := hb y l σ done (hP y (List.mem_cons_self ..)) h h'
    have hk := (List.getElem?_eq_some_iff.mp e3).1
    obtain ⟨σ', e4, hJ', e5⟩ := iI g r P J hc hb ys (done ++ [r y]) l1 (σ1.set kA (.list (done ++ [r y]))) (fun z hz => hP z (List.mem_cons_of_mem _ hz)) (by simp at hl ⊢; exact (Z.q (.im (.nle (.a (.v 0) (.a (.v 1) (.k 1))) (.k 1000)) (.nle (.a (.a (.v 0) (.k 1)) (.v 1)) (.k 1000))) [] [_,_]) hl) (hJ _) (by rw [List.getElem?_set_self hk])
    refine ⟨σ', ?_, hJ', by simpa using e5⟩
    have hd : done.length < big := by simp at hl; unfold big; exact (Z.q (.im (.nle (.a (.v 0) (.a (.v 1) (.k 1))) (.k 1000)) (.nlt (.v 0) (.k 100000))) [] [_,_]) hl
    simp only [List.map_cons, compC, if_pos (hc _ h), e1, e2, mAppend, a2, eRef, eLst, e3, if_pos hd, e4]


noncomputable def rd (b : List UInt8) (i : Int) : Int := ((b.getD i.toNat 0).toNat : Int)
noncomputable def w16 (b : List UInt8) (i : Int) : Int := rd b i * 256 + rd b (i + 1)
noncomputable def w32 (b : List UInt8) (i : Int) : Int := w16 b i * 65536 + w16 b (i + 2)
theorem lM (b : List UInt8) (i : Int) : 0 ≤ rd b i := Int.natCast_nonneg _
theorem mW (b : List UInt8) (i : Int) : rd b i < 256 := by
  have := UInt8.toNat_lt (b.getD i.toNat 0)
  unfold rd; (first|lia|omega)
theorem mA (b : List UInt8) (i : Int) : 0 ≤ w16 b i := by have := lM b i; have := lM b (i + 1); unfold w16; exact (Z.q (.im (.le (.k 0) (.v 0)) (.im (.le (.k 0) (.v 1)) (.le (.k 0) (.a (.r (.v 0) 256) (.v 1))))) [_,_] []) (by assumption) this
theorem mB (b : List UInt8) (i : Int) : w16 b i < 65536 := by have := mW b i; have := mW b (i + 1); have := lM b (i + 1); unfold w16; exact (Z.q (.im (.lt (.v 0) (.k 256)) (.im (.lt (.v 1) (.k 256)) (.lt (.a (.r (.v 0) 256) (.v 1)) (.k 65536)))) [_,_] []) (by assumption) (by assumption)
theorem mi {c : Int} (h : 0 ≤ c ∧ c < 256) : ((c.toNat.toUInt8).toNat : Int) = c := by
  have : c.toNat < 256 := by exact (Z.q (.im (.lt (.v 0) (.k 256)) (.im (.or (.an (.eq (.c (.v 0)) (.v 0)) (.le (.k 0) (.v 0))) (.an (.eq (.c (.v 0)) (.k 0)) (.le (.v 0) (.k 0)))) (.nlt (.v 0) (.k 256)))) [_] [_]) h.2 (Z.tn _)
  simp [Nat.mod_eq_of_lt this]; exact (Z.q (.im (.le (.k 0) (.v 0)) (.im (.or (.an (.eq (.v 1) (.v 0)) (.le (.k 0) (.v 0))) (.an (.eq (.v 1) (.k 0)) (.le (.v 0) (.k 0)))) (.eq (.v 1) (.v 0)))) [_,_] []) h.1 (Z.mxi _ _)
theorem jK {b : List UInt8} {i j c : Int} (hi : 0 ≤ i) (hl : i < b.length) (hj : 0 ≤ j) (hc : 0 ≤ c ∧ c < 256) : rd (b.set i.toNat c.toNat.toUInt8) j = if j = i then c else rd b j := by
  unfold rd
  by_cases h : j = i
  · subst h
    rw [if_pos rfl, List.getD_eq_getElem?_getD, List.getElem?_set_self (by exact (Z.q (.im (.le (.k 0) (.v 0)) (.im (.lt (.v 0) (.c (.v 0))) (.im (.or (.an (.eq (.c (.v 1)) (.v 0)) (.le (.k 0) (.v 0))) (.an (.eq (.c (.v 1)) (.k 0)) (.le (.v 0) (.k 0)))) (.nlt (.v 1) (.v 0))))) [_] [_,_]) hj hl (Z.tn _))]
    exact mi hc
  · rw [if_neg h, List.getD_eq_getElem?_getD, List.getElem?_set_ne (by exact (Z.q (.im (.le (.k 0) (.v 0)) (.im (.le (.k 0) (.v 1)) (.im (.no (.eq (.v 1) (.v 0))) (.im (.or (.an (.eq (.c (.v 0)) (.v 0)) (.le (.k 0) (.v 0))) (.an (.eq (.c (.v 0)) (.k 0)) (.le (.v 0) (.k 0)))) (.im (.or (.an (.eq (.c (.v 1)) (.v 1)) (.le (.k 0) (.v 1))) (.an (.eq (.c (.v 1)) (.k 0)) (.le (.v 1) (.k 0)))) (.no (.neq (.v 0) (.v 1)))))))) [_,_] [_,_]) hi hj h (Z.tn _) (Z.tn _)), ← List.getD_eq_getElem?_getD]
theorem o9 {a b : List UInt8} (hl : a.length = b.length) (h : ∀ j : Int, 0 ≤ j → j < a.length → rd a j = rd b j) : a = b := by
  refine List.ext_getElem hl fun n h1 h2 => ?_
  have := h n (by exact (Z.q (.le (.k 0) (.c (.v 0))) [] [_])) (by exact (Z.q (.im (.nlt (.v 0) (.v 1)) (.lt (.c (.v 0)) (.c (.v 1)))) [] [_,_]) h1)
  simp [rd, List.getD_eq_getElem?_getD, h1, h2] at this
  exact UInt8.toNat_inj.mp (by exact (Z.q (.im (.eq (.c (.v 0)) (.c (.v 1))) (.neq (.v 0) (.v 1))) [] [_,_]) this)
theorem cr {a b : List UInt8} {j : Int} (h0 : 0 ≤ j) (h : j < a.length) : rd (a ++ b) j = rd a j := by
  simp [rd, List.getD_eq_getElem?_getD]; rw [List.getElem?_append_left (by exact (Z.q (.im (.le (.k 0) (.v 0)) (.im (.lt (.v 0) (.c (.v 0))) (.im (.or (.an (.eq (.c (.v 1)) (.v 0)) (.le (.k 0) (.v 0))) (.an (.eq (.c (.v 1)) (.k 0)) (.le (.v 0) (.k 0)))) (.nlt (.v 1) (.v 0))))) [_] [_,_]) h0 h (Z.tn _))]
theorem cT {a b : List UInt8} {j : Int} (h : (a.length : Int) ≤ j) : rd (a ++ b) j = rd b (j - a.length) := by
  have e : (j - a.length).toNat = j.toNat - a.length := by exact (Z.q (.im (.or (.an (.eq (.c (.v 0)) (.s (.v 0) (.c (.v 1)))) (.le (.k 0) (.s (.v 0) (.c (.v 1))))) (.an (.eq (.c (.v 0)) (.k 0)) (.le (.s (.v 0) (.c (.v 1))) (.k 0)))) (.im (.or (.an (.neq (.a (.v 2) (.v 1)) (.v 3)) (.nle (.v 1) (.v 3))) (.an (.neq (.v 2) (.k 0)) (.nle (.v 3) (.v 1)))) (.im (.or (.an (.eq (.c (.v 3)) (.v 0)) (.le (.k 0) (.v 0))) (.an (.eq (.c (.v 3)) (.k 0)) (.le (.v 0) (.k 0)))) (.neq (.v 0) (.v 2))))) [_] [_,_,_,_]) (Z.tn _) (Z.sb _ _) (Z.tn _)
  unfold rd
  rw [List.getD_eq_getElem?_getD, List.getD_eq_getElem?_getD, List.getElem?_append_right (by exact (Z.q (.im (.le (.c (.v 0)) (.v 0)) (.im (.or (.an (.eq (.c (.v 1)) (.v 0)) (.le (.k 0) (.v 0))) (.an (.eq (.c (.v 1)) (.k 0)) (.le (.v 0) (.k 0)))) (.nle (.v 0) (.v 1)))) [_] [_,_]) h (Z.tn _)), e]
theorem kq {a : List UInt8} {n : Nat} {j : Int} (h0 : 0 ≤ j) (h : j < n) : rd (a.take n) j = rd a j := by
  simp [rd, List.getD_eq_getElem?_getD, List.getElem?_take]; rw [if_pos (by exact (Z.q (.im (.le (.k 0) (.v 0)) (.im (.lt (.v 0) (.c (.v 0))) (.im (.or (.an (.eq (.c (.v 1)) (.v 0)) (.le (.k 0) (.v 0))) (.an (.eq (.c (.v 1)) (.k 0)) (.le (.v 0) (.k 0)))) (.nlt (.v 1) (.v 0))))) [_] [_,_]) h0 h (Z.tn _))]
theorem mX {a : List UInt8} {n : Nat} {j : Int} (h0 : 0 ≤ j) : rd (a.drop n) j = rd a (n + j) := by
  simp [rd, List.getD_eq_getElem?_getD, List.getElem?_drop]
  have : n + j.toNat = (n + j).toNat := by exact (Z.q (.im (.le (.k 0) (.v 0)) (.im (.or (.an (.eq (.c (.v 0)) (.v 0)) (.le (.k 0) (.v 0))) (.an (.eq (.c (.v 0)) (.k 0)) (.le (.v 0) (.k 0)))) (.im (.or (.an (.eq (.c (.v 1)) (.a (.c (.v 2)) (.v 0))) (.le (.k 0) (.a (.c (.v 2)) (.v 0)))) (.an (.eq (.c (.v 1)) (.k 0)) (.le (.a (.c (.v 2)) (.v 0)) (.k 0)))) (.neq (.a (.v 2) (.v 0)) (.v 1))))) [_] [_,_,_]) h0 (Z.tn _) (Z.tn _)
  rw [this]
theorem ki {n : Nat} {c : UInt8} {j : Int} (h0 : 0 ≤ j) (h : j < n) : rd (List.replicate n c) j = c.toNat := by
  have : j.toNat < n := by exact (Z.q (.im (.le (.k 0) (.v 0)) (.im (.lt (.v 0) (.c (.v 0))) (.im (.or (.an (.eq (.c (.v 1)) (.v 0)) (.le (.k 0) (.v 0))) (.an (.eq (.c (.v 1)) (.k 0)) (.le (.v 0) (.k 0)))) (.nlt (.v 1) (.v 0))))) [_] [_,_]) h0 h (Z.tn _)
  simp [rd, List.getD_eq_getElem?_getD, List.getElem?_replicate, this]
noncomputable def HasAt (b : List UInt8) (p : Int) (r : List UInt8) : Prop := ∀ j : Int, 0 ≤ j → j < r.length → rd b (p + j) = rd r j
theorem HasAt.app {b x y : List UInt8} {p : Int} : HasAt b p (x ++ y) ↔ HasAt b p x ∧ HasAt b (p + x.length) y := by
  constructor
  · intro h
    refine ⟨fun j h0 h1 => ?_, fun j h0 h1 => ?_⟩
    · rw [h j h0 (by simp; exact (Z.q (.im (.lt (.v 0) (.c (.v 0))) (.lt (.v 0) (.a (.c (.v 0)) (.c (.v 1))))) [_] [_,_]) h1), cr h0 h1]
    · have := h (x.length + j) (by exact (Z.q (.im (.le (.k 0) (.v 0)) (.le (.k 0) (.a (.c (.v 0)) (.v 0)))) [_] [_]) h0) (by simp; exact (Z.q (.im (.lt (.v 0) (.c (.v 0))) (.lt (.v 0) (.c (.v 0)))) [_] [_]) h1)
      rw [← Int.add_assoc] at this
      rw [this, cT (by exact (Z.q (.im (.le (.k 0) (.v 0)) (.le (.c (.v 0)) (.a (.c (.v 0)) (.v 0)))) [_] [_]) h0)]; congr 1; exact (Z.q (.eq (.s (.a (.c (.v 0)) (.v 0)) (.c (.v 0))) (.v 0)) [_] [_])
  · rintro ⟨h1, h2⟩ j h0 h
    by_cases hj : j < x.length
    · rw [h1 j h0 hj, cr h0 hj]
    · have := h2 (j - x.length) (by exact (Z.q (.im (.no (.lt (.v 0) (.c (.v 0)))) (.le (.k 0) (.s (.v 0) (.c (.v 0))))) [_] [_]) hj) (by simp at h; exact (Z.q (.im (.lt (.v 0) (.a (.c (.v 0)) (.c (.v 1)))) (.lt (.s (.v 0) (.c (.v 0))) (.c (.v 1)))) [_] [_,_]) h)
      rw [cT (by exact (Z.q (.im (.no (.lt (.v 0) (.c (.v 0)))) (.le (.c (.v 0)) (.v 0))) [_] [_]) hj), ← this]; congr 1; exact (Z.q (.eq (.a (.v 0) (.v 1)) (.a (.a (.v 0) (.c (.v 0))) (.s (.v 1) (.c (.v 0))))) [_,_] [_])
theorem HasAt.cut {b r : List UInt8} {p : Int} (h : HasAt b p r) (hp : 0 ≤ p) (hl : p + r.length ≤ b.length) : bcut (some p) (some (p + r.length)) b = r := by
  have lr : (0:Int) ≤ r.length := Int.natCast_nonneg _
  have c1 := kP hp (Int.le_trans (Int.le_add_of_nonneg_right lr) hl)
  have c2 := kP (Int.add_nonneg hp lr) hl
  rw [Int.toNat_add hp lr, Int.toNat_natCast] at c2
  have hb : r.length ≤ b.length - p.toNat := by omega
  simp only [bcut, Option.elim, c1, c2]
  have e : p.toNat + r.length - p.toNat = r.length := by exact (Z.q (.im (.or (.an (.neq (.a (.v 0) (.v 1)) (.a (.v 1) (.v 2))) (.nle (.v 1) (.a (.v 1) (.v 2)))) (.an (.neq (.v 0) (.k 0)) (.nle (.a (.v 1) (.v 2)) (.v 1)))) (.neq (.v 0) (.v 2))) [] [_,_,_]) (Z.sb _ _)
  rw [e]
  have hm := Nat.min_eq_left hb
  refine o9 (by rw [List.length_take, List.length_drop, hm]) fun j h0 h1 => ?_
  rw [List.length_take, List.length_drop, hm] at h1
  rw [kq h0 h1, mX h0, ← h j h0 h1]; congr 1; exact (Z.q (.im (.le (.k 0) (.v 0)) (.im (.or (.an (.eq (.c (.v 0)) (.v 0)) (.le (.k 0) (.v 0))) (.an (.eq (.c (.v 0)) (.k 0)) (.le (.v 0) (.k 0)))) (.eq (.a (.c (.v 0)) (.v 1)) (.a (.v 0) (.v 1))))) [_,_] [_]) hp (Z.tn _)
theorem HasAt.same {b b' r : List UInt8} {p : Int} (h : HasAt b p r) (k : ∀ j, p ≤ j → j < p + r.length → rd b' j = rd b j) : HasAt b' p r := fun j h0 h1 => by rw [k _ (by exact (Z.q (.im (.le (.k 0) (.v 0)) (.le (.v 1) (.a (.v 1) (.v 0)))) [_,_] []) h0) (by exact (Z.q (.im (.lt (.v 0) (.c (.v 0))) (.lt (.a (.v 1) (.v 0)) (.a (.v 1) (.c (.v 0))))) [_,_] [_]) h1), h j h0 h1]

section
variable {Q : MV → Sto → Prop} {σ : Sto} {a b : Int}
theorem qM (h : Q (.int (a + b)) σ) : We (oAdd (.int a) (.int b) σ) Q := ⟨_, _, rfl, h⟩
theorem oX (h : Q (.int (a + b)) σ) : We (oAddI (.int a) (.int b) σ) Q := ⟨_, _, rfl, h⟩
theorem cg {x y : List UInt8} (hl : x.length + y.length ≤ 100000) (h : Q (.bytes (x ++ y)) σ) : We (oAdd (.bytes x) (.bytes y) σ) Q := ⟨_, _, if_pos hl, h⟩
theorem kS {i j : Nat} {x y : List MV} (h1 : σ[i]? = some (.list x)) (h2 : σ[j]? = some (.list y)) (hl : x.length + y.length ≤ 100000) (h : Q (.ref σ.length) (σ ++ [.list (x ++ y)])) : We (oAdd (.ref i) (.ref j) σ) Q :=
  ⟨_, _, by simp only [oAdd, h1, h2, big, hl, if_true], h⟩
theorem r6 (h : Q (.int (a - b)) σ) : We (oSub (.int a) (.int b) σ) Q := ⟨_, _, rfl, h⟩
theorem pz (hs : (-(2 ^ 64) < a ∧ a < 2 ^ 64) ∨ (-(2 ^ 64) < b ∧ b < 2 ^ 64)) (h : Q (.int (a * b)) σ) : We (oMul (.int a) (.int b) σ) Q :=
  ⟨_, _, by
    have : (small64 a || small64 b) = true := by unfold small64; simpa using hs
    simp only [oMul, this, if_true], h⟩
theorem kM {i : Nat} {v : MV} (h1 : σ[i]? = some (.list [v])) (hk : 0 ≤ b ∧ b ≤ 100000) (h : Q (.ref σ.length) (σ ++ [.list (List.replicate b.toNat v)])) : We (oMul (.ref i) (.int b) σ) Q :=
  ⟨_, _, by simp only [oMul, h1, if_pos hk], h⟩
theorem qF (hb : 0 < b ∧ b < 1073741824) (h : Q (.int (a / b)) σ) : We (oDiv (.int a) (.int b) σ) Q := ⟨_, _, if_pos hb, h⟩
theorem qf (hb : 0 < b) (h : Q (.int (a % b)) σ) : We (oMod (.int a) (.int b) σ) Q := ⟨_, _, if_pos hb, h⟩
theorem rN (h : Q (.bool (decide (a < b))) σ) : We (oLt (.int a) (.int b) σ) Q := ⟨_, _, rfl, h⟩
theorem rE (h : Q (.bool (decide (a ≤ b))) σ) : We (oLe (.int a) (.int b) σ) Q := ⟨_, _, rfl, h⟩
theorem rL (h : Q (.bool (decide (a > b))) σ) : We (oGt (.int a) (.int b) σ) Q := ⟨_, _, rfl, h⟩
theorem rK (h : Q (.bool (decide (a ≥ b))) σ) : We (oGe (.int a) (.int b) σ) Q := ⟨_, _, rfl, h⟩
theorem rD (h : Q (.bool (decide (a = b))) σ) : We (oEq (.int a) (.int b) σ) Q := ⟨_, _, rfl, h⟩
theorem qH {x y : List UInt8} (h : Q (.bool (decide (x = y))) σ) : We (oEq (.bytes x) (.bytes y) σ) Q := ⟨_, _, rfl, h⟩
theorem q7 (h : Q (.bool (decide (a ≠ b))) σ) : We (oNe (.int a) (.int b) σ) Q := ⟨_, _, rfl, by rw [decide_not] at h; exact h⟩
theorem gt {i j : Nat} {x y : List MV} {r : Bool} (h1 : σ[i]? = some (.list x)) (h2 : σ[j]? = some (.list y)) (e : eqL x y = some r) (h : Q (.bool (!r)) σ) : We (oNe (.ref i) (.ref j) σ) Q :=
  ⟨_, _, by simp only [oNe, h1, h2, e], h⟩
theorem i5 {d : Nat} {o : List UInt8} (hd : σ[d]? = some (.ba o)) (hb : 0 ≤ a ∧ a < o.length ∧ o.length ≤ 100000) (h : 0 ≤ rd o a → rd o a < 256 → Q (.int (rd o a)) σ) : We (oItem (.ref d) (.int a) σ) Q :=
  ⟨_, _, by
    have : 0 ≤ a ∧ a < o.length ∧ o.length ≤ big := hb
    simp only [oItem, eInt, eRef, eLst, eBa, eFroz, eTupl, hd, if_pos this]; rfl, h (lM _ _) (mW _ _)⟩
theorem bl {d : Nat} {xs : List MV} {v : MV} (hd : σ[d]? = some (.list xs)) (hb : 0 ≤ a ∧ a < 2 ^ 60) (hv : xs[a.toNat]? = some v) (h : Q v σ) : We (oItem (.ref d) (.int a) σ) Q :=
  ⟨_, _, by simp only [oItem, eInt, eRef, eLst, eBa, eFroz, eTupl, hd, if_pos hb.1, if_pos hb.2, hv, Option.map_some], h⟩
theorem gM {d : Nat} {xs : List MV} {v : MV} (hd : σ[d]? = some (.list (xs ++ [v]))) (hb : xs.length < 100000) (h : Q v σ) : We (oItem (.ref d) (.int (-1)) σ) Q :=
  ⟨_, _, by
    have e : (-1 + ((xs ++ [v]).length : Int)).toNat = xs.length := by simp; exact (Z.q (.im (.or (.an (.eq (.c (.v 0)) (.a (.k (-1)) (.a (.c (.v 1)) (.k 1)))) (.le (.k 0) (.a (.k (-1)) (.a (.c (.v 1)) (.k 1))))) (.an (.eq (.c (.v 0)) (.k 0)) (.le (.a (.k (-1)) (.a (.c (.v 1)) (.k 1))) (.k 0)))) (.neq (.v 0) (.v 1))) [] [_,_]) (Z.tn _)
    have c : -((xs ++ [v]).length : Int) ≤ -1 ∧ (xs ++ [v]).length ≤ big := by unfold big; simp; exact (Z.q (.im (.nlt (.v 0) (.k 100000)) (.an (.le (.k 1) (.a (.c (.v 0)) (.k 1))) (.nle (.v 0) (.k 99999)))) [] [_]) hb
    simp only [oItem, eInt, eRef, eLst, eBa, eFroz, eTupl, hd, if_neg (show ¬ (0 : Int) ≤ -1 by decide), if_pos c, e, List.getElem?_concat_length, Option.map_some], h⟩
theorem d6 {xs : List MV} {v : MV} (hb : 0 ≤ a ∧ a < 2 ^ 60) (hv : xs[a.toNat]? = some v) (h : Q v σ) : We (oItem (.tup xs) (.int a) σ) Q :=
  ⟨_, _, by simp only [oItem, eInt, eRef, eLst, eBa, eFroz, eTupl, if_pos hb, hv, Option.map_some], h⟩
theorem oU {xs : List MV} {v : MV} (hb : 0 ≤ a ∧ a < 2 ^ 60) (hv : xs[a.toNat]? = some v) (h : Q v σ) : We (oItem (.froz xs) (.int a) σ) Q :=
  ⟨_, _, by simp only [oItem, eInt, eRef, eLst, eBa, eFroz, eTupl, if_pos hb, hv, Option.map_some], h⟩
theorem cI {x : List UInt8} (hl : x.length ≤ 100000) (h : Q (.int x.length) σ) : We (cLen [.bytes x] σ) Q := ⟨_, _, if_pos hl, h⟩
theorem cR {d : Nat} {x : List UInt8} (hd : σ[d]? = some (.ba x)) (hl : x.length ≤ 100000) (h : Q (.int x.length) σ) : We (cLen [.ref d] σ) Q := ⟨_, _, by simp only [cLen, a1, eBytes, eFroz, eRef, eLst, eBa, hd, big, hl, if_true], h⟩
theorem gN {d : Nat} {x : List MV} (hd : σ[d]? = some (.list x)) (hl : x.length ≤ 100000) (h : Q (.int x.length) σ) : We (cLen [.ref d] σ) Q := ⟨_, _, by simp only [cLen, a1, eBytes, eFroz, eRef, eLst, eBa, hd, big, hl, if_true], h⟩
theorem pU {x : List MV} (hl : x.length ≤ 2 ^ 40) (h : Q (.int x.length) σ) : We (cLen [.froz x] σ) Q := ⟨_, _, if_pos hl, h⟩
theorem qE (h : Q (.int (max a b)) σ) : We (cMax [.int a, .int b] σ) Q := ⟨_, _, rfl, h⟩
theorem oj (h : Q (.int a) σ) : We (cInt [.int a] σ) Q := ⟨_, _, rfl, h⟩
theorem oo {b : Bool} (h : Q (.int (if b then 1 else 0)) σ) : We (cInt [.bool b] σ) Q := ⟨_, _, rfl, h⟩
theorem mh (hb : 0 ≤ a ∧ a ≤ 100000) (h : Q (.bytes (List.replicate a.toNat 0)) σ) : We (cBytes [.int a] σ) Q := ⟨_, _, if_pos hb, h⟩
theorem dw {d : Nat} {x : List UInt8} (hd : σ[d]? = some (.ba x)) (hl : x.length ≤ 100000) (h : Q (.bytes x) σ) : We (cBytes [.ref d] σ) Q := ⟨_, _, by simp only [cBytes, a1, eInt, eRef, eLst, eBa, Option.bind_some, hd, big, hl, if_true], h⟩
theorem fD {d : Nat} {x : List MV} {o : List UInt8} (hd : σ[d]? = some (.list x)) (hl : x.length ≤ 100000) (ho : octs x = some o) (h : Q (.bytes o) σ) : We (cBytes [.ref d] σ) Q := ⟨_, _, by simp only [cBytes, a1, eInt, eRef, eLst, eBa, Option.bind_some, hd, big, hl, if_true, ho], h⟩
theorem qA {x : List UInt8} (hl : x.length ≤ 100000) (h : Q (.ref σ.length) (σ ++ [.ba x])) : We (cBa [.bytes x] σ) Q := ⟨_, _, if_pos hl, h⟩
theorem qb (hb : 0 < a ∧ a ≤ 100000) (h : Q (.ref σ.length) (σ ++ [.ba (List.replicate a.toNat 0)])) : We (cBa [.int a] σ) Q := ⟨_, _, if_pos hb, h⟩
theorem r9 {d : Nat} {ns : List Int} (hd : σ[d]? = some (.list (ns.map .int))) (h : Q (.int ns.sum) σ) : We (cSum [.ref d] σ) Q := by
  have e : ∀ ns : List Int, intsOf (ns.map .int) = some ns := by
    intro ns; induction ns with
    | nil => rfl
    | cons n ns ih => simp only [List.map_cons, intsOf, ih, Option.map_some]
  exact ⟨_, _, by simp only [cSum, a1, eRef, eLst, Option.bind_some, hd, e], h⟩
theorem cH {k : Nat} {xs : List MV} {v : MV} (hk : σ[k]? = some (.list xs)) (hl : xs.length < 100000) (h : Q .none (σ.set k (.list (xs ++ [v])))) : We (mAppend [.ref k, v] σ) Q := ⟨_, _, by simp only [mAppend, a2, eRef, eLst, hk, big, hl, if_true], h⟩
theorem jU {k : Nat} {xs : List MV} (hk : σ[k]? = some (.list xs)) (hl : xs.length ≤ 100000) (h : Q .none (σ.set k (.list xs.reverse))) : We (mReverse [.ref k] σ) Q := ⟨_, _, by simp only [mReverse, a1, eRef, eLst, hk, big, hl, if_true], h⟩
theorem qu {k : Nat} {xs : List MV} {v : MV} (hk : σ[k]? = some (.list xs)) (hb : 0 ≤ a ∧ xs.length ≤ 100000) (hv : xs[a.toNat]? = some v) (h : Q v (σ.set k (.list (xs.eraseIdx a.toNat)))) : We (mPop [.ref k, .int a] σ) Q := by
  have hb : 0 ≤ a ∧ xs.length ≤ big := hb
  exact ⟨_, _, by simp only [mPop, a2, eRef, eInt, eLst, Option.bind_some, hk, if_pos hb, hv], h⟩
theorem nA {k : Nat} {xs : List MV} {v : MV} (hk : σ[k]? = some (.list xs)) (hb : 0 ≤ a ∧ a ≤ xs.length ∧ xs.length < 100000) (h : Q .none (σ.set k (.list (xs.take a.toNat ++ v :: xs.drop a.toNat)))) : We (mInsert [.ref k, .int a, v] σ) Q := by
  have hb : 0 ≤ a ∧ a ≤ xs.length ∧ xs.length < big := hb
  exact ⟨_, _, by simp only [mInsert, a3, eRef, eInt, eLst, hk, if_pos hb], h⟩
theorem pE {x : List UInt8} {lo hi : Option Int} (hl : x.length ≤ 100000) (h : Q (.bytes (bcut lo hi x)) σ) : We (oCut (.bytes x) lo hi σ) Q := ⟨_, _, if_pos hl, h⟩
theorem ix {d : Nat} {x : List UInt8} {lo hi : Option Int} (hd : σ[d]? = some (.ba x)) (hl : x.length ≤ 100000) (h : Q (.ref σ.length) (σ ++ [.ba (bcut lo hi x)])) : We (oCut (.ref d) lo hi σ) Q := ⟨_, _, by simp only [oCut, hd, big, hl, if_true], h⟩
theorem kN {d : Nat} {x : List MV} {lo hi : Option Int} (hd : σ[d]? = some (.list x)) (hl : x.length ≤ 100000) (h : Q (.ref σ.length) (σ ++ [.list (lcut lo hi x)])) : We (oCut (.ref d) lo hi σ) Q := ⟨_, _, by simp only [oCut, hd, big, hl, if_true], h⟩
theorem lA {Q : Sto → Prop} {d : Nat} {o : List UInt8} (hd : σ[d]? = some (.ba o)) (hb : 0 ≤ a ∧ a < o.length ∧ o.length ≤ 100000 ∧ 0 ≤ b ∧ b < 256) (h : Q (σ.set d (.ba (o.set a.toNat b.toNat.toUInt8)))) : Wp (pItem (.ref d) (.int a) (.int b) σ) Q := by
  have hb : 0 ≤ a ∧ a < o.length ∧ o.length ≤ big ∧ 0 ≤ b ∧ b < 256 := hb
  exact ⟨_, by simp only [pItem, hd, if_pos hb], h⟩
theorem kc {Q : Sto → Prop} {d : Nat} {xs : List MV} {v : MV} (hd : σ[d]? = some (.list xs)) (hb : 0 ≤ a ∧ a < xs.length ∧ xs.length ≤ 100000) (h : Q (σ.set d (.list (xs.set a.toNat v)))) : Wp (pItem (.ref d) (.int a) v σ) Q := by
  have hb : 0 ≤ a ∧ a < xs.length ∧ xs.length ≤ big := hb
  exact ⟨_, by simp only [pItem, hd, if_pos hb], h⟩
theorem nT {Q : Sto → Prop} {d : Nat} {xs : List MV} {u v : MV} (hd : σ[d]? = some (.list (xs ++ [u]))) (hb : xs.length < 100000) (h : Q (σ.set d (.list (xs ++ [v])))) : Wp (pItem (.ref d) (.int (-1)) v σ) Q := by
  have e : (-1 + ((xs ++ [u]).length : Int)).toNat = xs.length := by simp; exact (Z.q (.im (.or (.an (.eq (.c (.v 0)) (.a (.k (-1)) (.a (.c (.v 1)) (.k 1)))) (.le (.k 0) (.a (.k (-1)) (.a (.c (.v 1)) (.k 1))))) (.an (.eq (.c (.v 0)) (.k 0)) (.le (.a (.k (-1)) (.a (.c (.v 1)) (.k 1))) (.k 0)))) (.neq (.v 0) (.v 1))) [] [_,_]) (Z.tn _)
  have c : (-1 : Int) < 0 ∧ -((xs ++ [u]).length : Int) ≤ -1 ∧ (xs ++ [u]).length ≤ big := by unfold big; simp; exact (Z.q (.im (.nlt (.v 0) (.k 100000)) (.an (.le (.k 1) (.a (.c (.v 0)) (.k 1))) (.nle (.v 0) (.k 99999)))) [] [_]) hb
  have s : (xs ++ [u]).set xs.length v = xs ++ [v] := by simp
  exact ⟨_, by simp only [pItem, hd, if_neg (show ¬ ((0 : Int) ≤ -1 ∧ (-1 : Int) < ((xs ++ [u]).length : Int) ∧ (xs ++ [u]).length ≤ big) by exact (Z.q (.no (.an (.le (.k 0) (.k (-1))) (.an (.lt (.k (-1)) (.c (.v 0))) (.nle (.v 0) (.v 1))))) [] [_,_])), if_pos c, e, s], h⟩
theorem mE {Q : Sto → Prop} {d : Nat} {o c : List UInt8} (hd : σ[d]? = some (.ba o)) (hb : 0 ≤ a ∧ a ≤ b ∧ b ≤ o.length ∧ o.length ≤ 100000 ∧ (c.length : Int) = b - a) (h : Q (σ.set d (.ba (o.take a.toNat ++ c ++ o.drop b.toNat)))) : Wp (pCut (.ref d) (some a) (some b) (.bytes c) σ) Q := by
  have hb : 0 ≤ a ∧ a ≤ b ∧ b ≤ o.length ∧ o.length ≤ big ∧ (c.length : Int) = b - a := hb
  exact ⟨_, by simp only [pCut, hd, if_pos hb], h⟩
end
theorem iM {o c : List UInt8} {a e : Int} (ha : 0 ≤ a) (hae : a ≤ e) (he : e ≤ o.length) (hc : (c.length : Int) = e - a) :
    (o.take a.toNat ++ c ++ o.drop e.toNat).length = o.length ∧ HasAt (o.take a.toNat ++ c ++ o.drop e.toNat) a c ∧ ∀ j, 0 ≤ j → (j < a ∨ e ≤ j) → rd (o.take a.toNat ++ c ++ o.drop e.toNat) j = rd o j := by
  have l1 : (o.take a.toNat).length = a.toNat := by simp; exact (Z.q (.im (.le (.v 0) (.v 1)) (.im (.le (.v 1) (.c (.v 0))) (.im (.or (.an (.neq (.v 1) (.v 2)) (.nle (.v 2) (.v 0))) (.an (.neq (.v 1) (.v 0)) (.nle (.v 0) (.v 2)))) (.im (.or (.an (.eq (.c (.v 2)) (.v 0)) (.le (.k 0) (.v 0))) (.an (.eq (.c (.v 2)) (.k 0)) (.le (.v 0) (.k 0)))) (.neq (.v 1) (.v 2)))))) [_,_] [_,_,_]) hae he (Z.mn _ _) (Z.tn _)
  refine ⟨by rw [List.append_assoc, List.length_append, List.length_append, List.length_take, List.length_drop]; exact len3 ha hae he hc, fun j h0 h1 => ?_, fun j h0 h1 => ?_⟩
  · rw [cr (by exact (Z.q (.im (.le (.k 0) (.v 0)) (.im (.le (.k 0) (.v 1)) (.le (.k 0) (.a (.v 0) (.v 1))))) [_,_] []) ha h0) (by simp; exact (Z.q (.im (.le (.v 0) (.v 1)) (.im (.le (.v 1) (.c (.v 0))) (.im (.lt (.v 2) (.c (.v 1))) (.im (.or (.an (.neq (.v 2) (.v 3)) (.nle (.v 3) (.v 0))) (.an (.neq (.v 2) (.v 0)) (.nle (.v 0) (.v 3)))) (.im (.or (.an (.eq (.c (.v 3)) (.v 0)) (.le (.k 0) (.v 0))) (.an (.eq (.c (.v 3)) (.k 0)) (.le (.v 0) (.k 0)))) (.lt (.a (.v 0) (.v 2)) (.a (.c (.v 2)) (.c (.v 1))))))))) [_,_,_] [_,_,_,_]) hae he h1 (Z.mn _ _) (Z.tn _)), cT (by exact (Z.q (.im (.le (.k 0) (.v 0)) (.im (.neq (.v 0) (.v 1)) (.im (.le (.k 0) (.v 1)) (.im (.or (.an (.eq (.c (.v 1)) (.v 0)) (.le (.k 0) (.v 0))) (.an (.eq (.c (.v 1)) (.k 0)) (.le (.v 0) (.k 0)))) (.le (.c (.v 0)) (.a (.v 0) (.v 1))))))) [_,_] [_,_]) ha l1 h0 (Z.tn _)), l1]; congr 1; exact (Z.q (.im (.le (.k 0) (.v 0)) (.im (.or (.an (.eq (.c (.v 0)) (.v 0)) (.le (.k 0) (.v 0))) (.an (.eq (.c (.v 0)) (.k 0)) (.le (.v 0) (.k 0)))) (.eq (.s (.a (.v 0) (.v 1)) (.c (.v 0))) (.v 1)))) [_,_] [_]) ha (Z.tn _)
  · rcases h1 with h1 | h1
    · rw [List.append_assoc, cr h0 (by exact (Z.q (.im (.neq (.v 0) (.v 1)) (.im (.lt (.v 0) (.v 1)) (.im (.or (.an (.eq (.c (.v 1)) (.v 1)) (.le (.k 0) (.v 1))) (.an (.eq (.c (.v 1)) (.k 0)) (.le (.v 1) (.k 0)))) (.lt (.v 0) (.c (.v 0)))))) [_,_] [_,_]) l1 h1 (Z.tn _)), kq h0 (by exact (Z.q (.im (.lt (.v 0) (.v 1)) (.im (.or (.an (.eq (.c (.v 0)) (.v 1)) (.le (.k 0) (.v 1))) (.an (.eq (.c (.v 0)) (.k 0)) (.le (.v 1) (.k 0)))) (.lt (.v 0) (.c (.v 0))))) [_,_] [_]) h1 (Z.tn _))]
    · rw [cT (by simp; exact (Z.q (.im (.le (.k 0) (.v 0)) (.im (.eq (.c (.v 0)) (.s (.v 1) (.v 0))) (.im (.le (.v 1) (.v 2)) (.im (.or (.an (.neq (.v 1) (.v 2)) (.nle (.v 2) (.v 3))) (.an (.neq (.v 1) (.v 3)) (.nle (.v 3) (.v 2)))) (.im (.or (.an (.eq (.c (.v 2)) (.v 0)) (.le (.k 0) (.v 0))) (.an (.eq (.c (.v 2)) (.k 0)) (.le (.v 0) (.k 0)))) (.le (.a (.c (.v 1)) (.c (.v 0))) (.v 2))))))) [_,_,_] [_,_,_,_]) ha hc h1 (Z.mn _ _) (Z.tn _)), mX (by simp; exact (Z.q (.im (.le (.k 0) (.v 0)) (.im (.eq (.c (.v 0)) (.s (.v 1) (.v 0))) (.im (.le (.v 1) (.v 2)) (.im (.or (.an (.neq (.v 1) (.v 2)) (.nle (.v 2) (.v 3))) (.an (.neq (.v 1) (.v 3)) (.nle (.v 3) (.v 2)))) (.im (.or (.an (.eq (.c (.v 2)) (.v 0)) (.le (.k 0) (.v 0))) (.an (.eq (.c (.v 2)) (.k 0)) (.le (.v 0) (.k 0)))) (.le (.a (.c (.v 1)) (.c (.v 0))) (.v 2))))))) [_,_,_] [_,_,_,_]) ha hc h1 (Z.mn _ _) (Z.tn _))]; congr 1; simp; (first|lia|omega)

theorem par1 {f a b : Int} : f + 2 * a ≠ f + 2 * b + 1 := by omega
theorem par2 {f a b : Int} : f + 2 * a + 1 ≠ f + 2 * b := fun h => par1 h.symm
theorem few {f c : Int} {n : Nat} (f0 : 0 ≤ f) (h : f + 2 * ((n : Int) + (0 : Nat)) ≤ c) (hc : c ≤ 128) : n ≤ 100 := by omega
theorem roomy {c f n need x : Int} (s : c - f - n = x) (h : need + 2 ≤ x) : f + n + need + 2 ≤ c := by omega
theorem apj {a z l c x n m j : Int} (hl : l ≤ z) (hc : c ≤ x) (j0 : x ≤ j) (j1 : j < x + m) (hm : m ≤ n) (ap : a + z ≤ x ∨ x + n ≤ a) : c ≤ j ∧ (j < a ∨ a + l ≤ j) :=
  ⟨Int.le_trans hc j0, ap.elim (fun h => .inr (Int.le_trans (Int.add_le_add_left hl a) (Int.le_trans h j0))) fun h => .inl (Int.lt_of_lt_of_le j1 (Int.le_trans (Int.add_le_add_left hm x) h))⟩
theorem inw (c : Int) {f us p : Int} {b : List UInt8} (hl : (b.length : Int) = us) (hu : us ≤ 128) (cu : c ≤ us) (f0 : 0 ≤ f) (p0 : f ≤ p) (p1 : p + 2 ≤ c) : 0 ≤ p ∧ p + 1 < b.length ∧ b.length ≤ 1000 :=
  ⟨Int.le_trans f0 p0, by rw [hl]; exact Int.lt_of_lt_of_le (Int.add_lt_add_left (by decide) p) (Int.le_trans p1 cu), Int.ofNat_le.mp (by rw [hl]; exact Int.le_trans hu (by decide))⟩

noncomputable def Le (σ σ' : Sto) : Prop := ∀ (k : Nat) (o : MO), σ[k]? = some o → σ'[k]? = some o
noncomputable def LeX (d : Nat) (σ σ' : Sto) : Prop := ∀ (k : Nat) (o : MO), k ≠ d → σ[k]? = some o → σ'[k]? = some o
theorem Le.refl (σ : Sto) : Le σ σ := fun _ _ h => h
theorem Le.trans {σ σ' σ'' : Sto} (a : Le σ σ') (b : Le σ' σ'') : Le σ σ'' := fun k o h => b k o (a k o h)
theorem Le.push (σ : Sto) (o : MO) : Le σ (σ ++ [o]) := fun k x h => by rw [List.getElem?_append_left (List.getElem?_eq_some_iff.mp h).1]; exact h
theorem Le.toX {σ σ' : Sto} (d : Nat) (a : Le σ σ') : LeX d σ σ' := fun k o _ h => a k o h
theorem LeX.trans {d : Nat} {σ σ' σ'' : Sto} (a : LeX d σ σ') (b : LeX d σ' σ'') : LeX d σ σ'' := fun k o n h => b k o n (a k o n h)
theorem LeX.set (d : Nat) (σ : Sto) (x : MO) : LeX d σ (σ.set d x) := fun k o n h => by rw [List.getElem?_set_ne (Ne.symm n)]; exact h
theorem aS (σ : Sto) (o : MO) : (σ ++ [o])[σ.length]? = some o := List.getElem?_concat_length
theorem aT {σ : Sto} {k : Nat} {o : MO} (x : MO) (h : σ[k]? = some o) : (σ.set k x)[k]? = some x := List.getElem?_set_self (List.getElem?_eq_some_iff.mp h).1
theorem dO {σ : Sto} {k j : Nat} {o : MO} {x : MO} (n : j ≠ k) (h : σ[j]? = some o) : (σ.set k x)[j]? = some o := by rw [List.getElem?_set_ne (Ne.symm n)]; exact h
theorem Le.set {σ₀ σ : Sto} {k : Nat} (a : Le σ₀ σ) (h : σ₀.length ≤ k) (x : MO) : Le σ₀ (σ.set k x) := fun j o e => by
  have := (List.getElem?_eq_some_iff.mp e).1
  exact dO (by exact (Z.q (.im (.nle (.v 0) (.v 1)) (.im (.nlt (.v 2) (.v 0)) (.no (.neq (.v 2) (.v 1))))) [] [_,_,_]) h this) (a j o e)
theorem Le.lenle {σ σ' : Sto} (a : Le σ σ') : σ.length ≤ σ'.length := by
  rcases Nat.eq_zero_or_pos σ.length with h | h
  · exact (Z.q (.im (.neq (.v 0) (.k 0)) (.nle (.v 0) (.v 1))) [] [_,_]) h
  · have := a (σ.length - 1) _ (List.getElem?_eq_getElem (by exact (Z.q (.im (.nlt (.k 0) (.v 0)) (.im (.or (.an (.neq (.a (.v 1) (.k 1)) (.v 0)) (.nle (.k 1) (.v 0))) (.an (.neq (.v 1) (.k 0)) (.nle (.v 0) (.k 1)))) (.nlt (.v 1) (.v 0)))) [] [_,_]) h (Z.sb _ _)))
    have := (List.getElem?_eq_some_iff.mp this).1
    exact (Z.q (.im (.nlt (.v 0) (.v 1)) (.im (.or (.an (.neq (.a (.v 0) (.k 1)) (.v 2)) (.nle (.k 1) (.v 2))) (.an (.neq (.v 0) (.k 0)) (.nle (.v 2) (.k 1)))) (.nle (.v 2) (.v 1)))) [] [_,_,_]) this (Z.sb _ _)

structure Nd (σ : Sto) (k d : Nat) (page us base : Int) (b : List UInt8) : Prop where
  ins : σ[k]? = some (.inst 412 [("data", .ref d), ("page", .int page), ("usable", .int us), ("base", .int base)])
  dat : σ[d]? = some (.ba b)
  len : (b.length : Int) = us
  us : 64 ≤ us ∧ us ≤ 128
  base : base = 0 ∨ base = 32
theorem Nd.ne {σ : Sto} {k d : Nat} {page us base : Int} {b : List UInt8} (N : Nd σ k d page us base b) : k ≠ d := by
  rintro rfl; have a := N.ins; rw [N.dat] at a; cases a
theorem Nd.le {σ σ' : Sto} {k d : Nat} {page us base : Int} {b : List UInt8} (N : Nd σ k d page us base b) (h : Le σ σ') : Nd σ' k d page us base b := ⟨h _ _ N.ins, h _ _ N.dat, N.len, N.us, N.base⟩
theorem Nd.leX {σ σ' : Sto} {k d : Nat} {page us base : Int} {b b' : List UInt8} (N : Nd σ k d page us base b) (h : LeX d σ σ') (hd : σ'[d]? = some (.ba b')) (hl : b'.length = b.length) : Nd σ' k d page us base b' := ⟨h _ _ N.ne N.ins, hd, by rw [hl, N.len], N.us, N.base⟩
theorem Nd.bnd {σ : Sto} {k d : Nat} {page us base : Int} {b : List UInt8} (N : Nd σ k d page us base b) : 0 ≤ base ∧ base ≤ 32 := N.base.elim (fun e => ⟨Int.le_of_eq e.symm, by rw [e]; decide⟩) (fun e => by rw [e]; decide)
theorem Nd.has {σ : Sto} {k d : Nat} {page us base : Int} {b : List UInt8} (N : Nd σ k d page us base b) {x : String} (h : fget x [("data", .ref d), ("page", .int page), ("usable", .int us), ("base", .int base)] = none) : HasC 412 x (.ref k) σ := ⟨k, _, rfl, N.ins, h⟩
theorem Nd.inb {σ : Sto} {k d : Nat} {page us base : Int} {b : List UInt8} (N : Nd σ k d page us base b) {c : Int} (h : decide (0 ≤ c ∧ c < 31) = true) : 0 ≤ base + c ∧ base + c < b.length ∧ b.length ≤ 100000 := by
  have := of_decide_eq_true h; have := N.len; have := N.us; have := N.bnd; exact (Z.q (.im (.an (.le (.k 0) (.v 0)) (.lt (.v 0) (.k 31))) (.im (.eq (.c (.v 0)) (.v 1)) (.im (.an (.le (.k 64) (.v 1)) (.le (.v 1) (.k 128))) (.im (.le (.k 0) (.v 2)) (.im (.le (.v 2) (.k 32)) (.an (.le (.k 0) (.a (.v 2) (.v 0))) (.an (.lt (.a (.v 2) (.v 0)) (.c (.v 0))) (.nle (.v 0) (.k 100000))))))))) [_,_,_] [_]) (by assumption) (by assumption) (by assumption) this.1 this.2
theorem Nd.inb0 {σ : Sto} {k d : Nat} {page us base : Int} {b : List UInt8} (N : Nd σ k d page us base b) : 0 ≤ base ∧ base < b.length ∧ b.length ≤ 100000 := by
  have := N.len; have := N.us; have := N.bnd; exact (Z.q (.im (.eq (.c (.v 0)) (.v 0)) (.im (.an (.le (.k 64) (.v 0)) (.le (.v 0) (.k 128))) (.im (.le (.k 0) (.v 1)) (.im (.le (.v 1) (.k 32)) (.an (.le (.k 0) (.v 1)) (.an (.lt (.v 1) (.c (.v 0))) (.nle (.v 0) (.k 100000)))))))) [_,_] [_]) (by assumption) (by assumption) this.1 this.2
theorem Nd.inb2 {σ : Sto} {k d : Nat} {page us base : Int} {b : List UInt8} (N : Nd σ k d page us base b) {c : Int} (h : decide (0 ≤ c ∧ c < 31) = true) : 0 ≤ base + c ∧ base + c + 1 < b.length ∧ b.length ≤ 1000 := by
  have := of_decide_eq_true h; have := N.len; have := N.us; have := N.bnd; exact (Z.q (.im (.an (.le (.k 0) (.v 0)) (.lt (.v 0) (.k 31))) (.im (.eq (.c (.v 0)) (.v 1)) (.im (.an (.le (.k 64) (.v 1)) (.le (.v 1) (.k 128))) (.im (.le (.k 0) (.v 2)) (.im (.le (.v 2) (.k 32)) (.an (.le (.k 0) (.a (.v 2) (.v 0))) (.an (.lt (.a (.a (.v 2) (.v 0)) (.k 1)) (.c (.v 0))) (.nle (.v 0) (.k 1000))))))))) [_,_,_] [_]) (by assumption) (by assumption) (by assumption) this.1 this.2
theorem fJ {x : String} {v : MV} {l : Loc} : upd x v l x = some v := by simp [upd]
theorem qz {x y : String} {v : MV} {l : Loc} (n : (y == x) = false) : upd x v l y = l y := by
  have n : ¬ y = x := by simpa using n
  simp [upd, n]

set_option compiler.extract_closed false in
def alt_ (lk : Lean.TSyntax `tactic) (n : String) (i : Lean.Ident) : Lean.MacroM (Lean.TSyntax `tactic) :=
  match n.front with
  | '0' => `(tactic| with_reducible refine $i ?_)
  | '1' => `(tactic| ((with_reducible apply $i); $lk:tactic))
  | '2' => `(tactic| ((with_reducible apply $i); $lk:tactic; $lk:tactic))
  | '3' => `(tactic| ((with_reducible refine $i ?_ (by first | exact Nd.ins (by assumption) | assumption) rfl ?_); $lk:tactic))
  | '4' => `(tactic| ((with_reducible refine $i ?_ (Nd.has (by assumption) rfl) ?_); $lk:tactic))
  | '5' => `(tactic| ((with_reducible refine $i ?_ ?_); lia))
  | '6' => `(tactic| with_reducible first | refine ⟨Nat.le_of_ble_eq_true rfl, ?_⟩ | refine ⟨⟨_, _, rfl, by assumption⟩, ?_⟩)
  | '7' => `(tactic| with_reducible first | refine $i (Nd.ins (by assumption)) rfl ?_ | refine $i (by assumption) rfl ?_ | refine mY ?_ | refine ⟨Nd.has (by assumption) rfl, ?_⟩)
  | '8' => `(tactic| (with_reducible refine $i (Nd.dat (by assumption)) (Nd.inb (by assumption) (by decide)) ?_; intro _ _))
  | _ => `(tactic| ((with_reducible refine $i (by first | assumption | exact Nd.dat (by assumption)) ?_ ?_); lia; intro _ _))
set_option compiler.extract_closed false in
def alts_ (lk : Lean.TSyntax `tactic) (l : List String) : Lean.MacroM (Lean.TSyntax `tactic) :=
  l.foldr (fun n t => do
    let a ← alt_ lk n (Lean.mkIdent (Lean.Name.mkSimple (n.drop 1).toString))
    let b ← t
    `(tactic| first | $a:tactic | $b:tactic)) `(tactic| fail)
set_option compiler.extract_closed false in
local macro_rules
  | `(tactic| fail $s:str) => do
    if s.getString == "l" then return ← `(tactic| (repeat first|exact fJ|assumption|refine (qz rfl).trans ?_))
    let lk ← `(tactic| first | exact rfl | assumption)
    let t ← alts_ lk (((if s.getString == "n" then "" else "0mz 0pi ") ++ "0m3 0nE 0ly 0cW 0nF 0eQ 0qy 0qh 0pD 0nN 0nP 0pj 0oO 0oq 0pd 0nZ 0nM 0o7 0j8 0eV 0ib 0qM 0oX 0r6 0qZ 0isB 0isInt 0ol 0rN 0rE 0rL 0rK 0rD 0q7 0mR 0eG 0ph 0nR 0oI 0nK 0rI 0qs 0q9 0qL 0qE 0oj 0oo 0qD 0rS 0rG 0r5 0qT 0n6 0qY 0pC 0pr 0q6 0oC 0on 0pZ 0pg 0pO 0pv 0o8" ++ " 6 1jC 1pT 1ot 2ox 3nW 4oV 4nh 4jG 0pX 0pP 0iJ 0mT 7lQ 8i5 9i5 5pz 5qF 5qf 5rH 5rM 5rB 5rP").splitOn " ")
    `(tactic| repeat $t:tactic)
section
variable {Q : MV → Sto → Prop} {σ : Sto} {k d : Nat} {page us base : Int} {b : List UInt8} {a v : Int}
theorem cN (hd : σ[d]? = some (.ba b)) (hb : 0 ≤ a ∧ a + 1 < b.length ∧ b.length ≤ 1000) (h : Q (.int (w16 b a)) σ) : We (bo [.ref d, .int a] σ) Q := by
  refine ce ?_
  unfold iS
  fail "s"
  exact h
theorem dv (hd : σ[d]? = some (.ba b)) (hb : 0 ≤ a ∧ a + 3 < b.length ∧ b.length ≤ 1000) (h : Q (.int (w32 b a)) σ) : We (fA [.ref d, .int a] σ) Q := by
  refine ce ?_
  unfold gk
  have := mB b a; have := mA b a
  fail "s"
  refine cN hd (by exact (Z.q (.im (.le (.k 0) (.v 0)) (.im (.lt (.a (.v 0) (.k 3)) (.c (.v 0))) (.im (.nle (.v 0) (.k 1000)) (.an (.le (.k 0) (.v 0)) (.an (.lt (.a (.v 0) (.k 1)) (.c (.v 0))) (.nle (.v 0) (.k 1000))))))) [_] [_]) hb.1 hb.2.1 hb.2.2) ?_
  fail "s"
  refine cN hd (by exact (Z.q (.im (.le (.k 0) (.v 0)) (.im (.lt (.a (.v 0) (.k 3)) (.c (.v 0))) (.im (.nle (.v 0) (.k 1000)) (.an (.le (.k 0) (.a (.v 0) (.k 2))) (.an (.lt (.a (.a (.v 0) (.k 2)) (.k 1)) (.c (.v 0))) (.nle (.v 0) (.k 1000))))))) [_] [_]) hb.1 hb.2.1 hb.2.2) ?_
  fail "s"
  exact h
theorem eR (N : Nd σ k d page us base b) (h : Q (.int (w16 b (base + 3))) σ) : We (ac [.ref k] σ) Q := by
  refine bg ?_
  unfold ck
  fail "s"
  refine cN N.dat (N.inb2 (by decide)) ?_
  fail "s"
  exact h
theorem dJ (N : Nd σ k d page us base b) (h : Q (.int (w16 b (base + 5))) σ) : We (ai [.ref k] σ) Q := by
  refine bg ?_
  unfold cM
  fail "s"
  refine cN N.dat (N.inb2 (by decide)) ?_
  fail "s"
  exact h
theorem dX (N : Nd σ k d page us base b) (h : Q (.int (rd b (base + 7))) σ) : We (al [.ref k] σ) Q := by
  refine bg ?_
  unfold bu
  fail "s"
  exact h
theorem mS (N : Nd σ k d page us base b) (h : Q (.int (w32 b (base + 8))) σ) : We (cC [.ref k] σ) Q := by
  refine bg ?_
  unfold dB
  fail "s"
  refine dv N.dat (by have := N.inb2 (c := 8) (by decide); have := N.inb2 (c := 10) (by decide); exact (Z.q (.im (.an (.le (.k 0) (.a (.v 0) (.k 8))) (.an (.lt (.a (.a (.v 0) (.k 8)) (.k 1)) (.c (.v 0))) (.nle (.v 0) (.k 1000)))) (.im (.lt (.a (.a (.v 0) (.k 10)) (.k 1)) (.c (.v 0))) (.an (.le (.k 0) (.a (.v 0) (.k 8))) (.an (.lt (.a (.a (.v 0) (.k 8)) (.k 3)) (.c (.v 0))) (.nle (.v 0) (.k 1000)))))) [_] [_]) (by assumption) this.2.1) ?_
  fail "s"
  exact h
theorem nV (N : Nd σ k d page us base b) (h : Q (.bytes b) σ) : We (cp [.ref k] σ) Q := by
  refine bg ?_
  unfold cV
  fail "s"
  refine dw N.dat (by have := N.inb0; exact (Z.q (.im (.nle (.v 0) (.k 100000)) (.nle (.v 0) (.k 100000))) [] [_]) this.2.2) ?_
  fail "s"
  exact h
noncomputable def fst (kind base : Int) : Int := base + (if kind > 5 then 8 else 12)
theorem dE (N : Nd σ k d page us base b) (h : Q (.int (fst (rd b base) base)) σ) : We (ak [.ref k] σ) Q := by
  refine bg ?_
  unfold cB
  fail "s"
  refine i5 N.dat N.inb0 fun _ _ => ?_
  unfold fst at h
  fail "s"
  refine br (fun c => ?_) fun c => ?_
  · fail "s"
    rw [if_pos c] at h; exact h
  · fail "s"
    rw [if_neg c] at h; exact h
noncomputable def IsKind (x : Int) : Prop := x = 2 ∨ x = 5 ∨ x = 10 ∨ x = 13
theorem kZ (N : Nd σ k d page us base b) (hk : IsKind (rd b base)) (h : Q (.int (rd b base)) σ) : We (bW [.ref k] σ) Q := by
  refine bg ?_
  unfold dL
  fail "s"
  refine i5 N.dat N.inb0 fun _ _ => ?_
  fail "s"
  refine ⟨_, σ, rfl, ?_⟩
  have e : (!([2, 5, 10, 13] : List Int).contains (rd b base)) = false := by rcases hk with e | e | e | e <;> rw [e] <;> rfl
  rw [e]
  fail "s"
  exact h
theorem oM (N : Nd σ k d page us base b) (h : Q (.int (w16 b (base + 5) - fst (rd b base) base - 2 * w16 b (base + 3))) σ) : We (eI [.ref k] σ) Q := by
  refine bg ?_
  unfold g9
  fail "s"
  refine dJ N ?_
  fail "s"
  refine dE N ?_
  fail "s"
  refine eR N ?_
  fail "s"
  exact h
theorem pI (N : Nd σ k d page us base b) (hi : 0 ≤ a ∧ a < w16 b (base + 3)) (hp : fst (rd b base) base + 2 * w16 b (base + 3) ≤ us) (hv : w16 b (fst (rd b base) base + 2 * a) = v)
    (h1 : fst (rd b base) base + 2 * w16 b (base + 3) ≤ v) (h2 : v + 4 ≤ us) (h : Q (.int v) σ) : We (bU [.ref k, .int a] σ) Q := by
  refine ce ?_
  unfold cn
  have hf : 0 ≤ fst (rd b base) base := by have := N.bnd; unfold fst; split <;> (first|exact (Z.q (.im (.le (.k 0) (.v 0)) (.le (.k 0) (.a (.v 0) (.k 8)))) [_] []) this.1|exact (Z.q (.im (.le (.k 0) (.v 0)) (.le (.k 0) (.a (.v 0) (.k 12)))) [_] []) this.1|omega)
  have hl := N.len; have hu := N.us
  fail "s"
  refine eR N ?_
  fail "s"
  refine dE N ?_
  fail "s"
  refine cN N.dat (by exact (Z.q (.im (.le (.k 0) (.v 0)) (.im (.lt (.v 0) (.v 1)) (.im (.le (.a (.v 2) (.m 2 (.v 1))) (.v 3)) (.im (.le (.a (.v 3) (.k 4)) (.v 4)) (.im (.le (.k 0) (.v 2)) (.im (.eq (.c (.v 0)) (.v 4)) (.im (.le (.v 4) (.k 128)) (.an (.le (.k 0) (.a (.v 2) (.m 2 (.v 0)))) (.an (.lt (.a (.a (.v 2) (.m 2 (.v 0))) (.k 1)) (.c (.v 0))) (.nle (.v 0) (.k 1000))))))))))) [_,_,_,_,_] [_]) hi.1 hi.2 h1 h2 hf hl hu.2) ?_
  rw [hv]
  fail "s"
  refine eR N ?_
  fail "s"
  exact h
structure W2 (b b' : List UInt8) (p v : Int) : Prop where
  len : b'.length = b.length
  val : w16 b' p = v
  same : ∀ j, 0 ≤ j → j ≠ p → j ≠ p + 1 → rd b' j = rd b j
theorem az (hd : σ[d]? = some (.ba b)) (hb : 0 ≤ a ∧ a + 1 < b.length ∧ b.length ≤ 1000) (hv : 0 ≤ v ∧ v < 65536) (h : ∀ b', W2 b b' a v → Q .none (σ.set d (.ba b'))) : We (am [.ref d, .int a, .int v] σ) Q := by
  refine iU ?_
  unfold gx
  fail "s"
  refine lA hd (by exact (Z.q (.im (.le (.k 0) (.v 0)) (.im (.lt (.a (.v 0) (.k 1)) (.c (.v 0))) (.im (.nle (.v 0) (.k 1000)) (.im (.le (.k 0) (.v 1)) (.im (.lt (.v 1) (.k 65536)) (.im (.an (.eq (.a (.m 256 (.v 2)) (.v 3)) (.v 1)) (.an (.le (.k 0) (.v 3)) (.lt (.v 3) (.k 256)))) (.an (.le (.k 0) (.v 0)) (.an (.lt (.v 0) (.c (.v 0))) (.an (.nle (.v 0) (.k 100000)) (.an (.le (.k 0) (.v 2)) (.lt (.v 2) (.k 256)))))))))))) [_,_,_,_] [_]) hb.1 hb.2.1 hb.2.2 hv.1 hv.2 (Z.dm _ (k := 256) (by decide))) ?_
  fail "s"
  refine lA (aT _ hd) (by rw [List.length_set]; exact (Z.q (.im (.le (.k 0) (.v 0)) (.im (.lt (.a (.v 0) (.k 1)) (.c (.v 0))) (.im (.nle (.v 0) (.k 1000)) (.im (.an (.eq (.a (.m 256 (.v 1)) (.v 2)) (.v 3)) (.an (.le (.k 0) (.v 2)) (.lt (.v 2) (.k 256)))) (.an (.le (.k 0) (.a (.v 0) (.k 1))) (.an (.lt (.a (.v 0) (.k 1)) (.c (.v 0))) (.an (.nle (.v 0) (.k 100000)) (.an (.le (.k 0) (.v 2)) (.lt (.v 2) (.k 256)))))))))) [_,_,_,_] [_]) hb.1 hb.2.1 hb.2.2 (Z.dm _ (k := 256) (by decide))) ?_
  fail "s"
  rw [List.set_set]
  have key : ∀ j, 0 ≤ j → rd ((b.set a.toNat (v / 256).toNat.toUInt8).set (a + 1).toNat (v % 256).toNat.toUInt8) j = if j = a + 1 then v % 256 else if j = a then v / 256 else rd b j := fun j j0 => by
    rw [jK (by exact (Z.q (.im (.le (.k 0) (.v 0)) (.le (.k 0) (.a (.v 0) (.k 1)))) [_] []) hb.1) (by rw [List.length_set]; exact (Z.q (.im (.lt (.a (.v 0) (.k 1)) (.c (.v 0))) (.lt (.a (.v 0) (.k 1)) (.c (.v 0)))) [_] [_]) hb.2.1) j0 (by exact (Z.q (.im (.an (.eq (.a (.m 256 (.v 0)) (.v 1)) (.v 2)) (.an (.le (.k 0) (.v 1)) (.lt (.v 1) (.k 256)))) (.an (.le (.k 0) (.v 1)) (.lt (.v 1) (.k 256)))) [_,_,_] []) (Z.dm _ (k := 256) (by decide))), jK (by exact (Z.q (.im (.le (.k 0) (.v 0)) (.le (.k 0) (.v 0))) [_] []) hb.1) (by exact (Z.q (.im (.lt (.a (.v 0) (.k 1)) (.c (.v 0))) (.lt (.v 0) (.c (.v 0)))) [_] [_]) hb.2.1) j0 (by exact (Z.q (.im (.le (.k 0) (.v 0)) (.im (.lt (.v 0) (.k 65536)) (.im (.an (.eq (.a (.m 256 (.v 1)) (.v 2)) (.v 0)) (.an (.le (.k 0) (.v 2)) (.lt (.v 2) (.k 256)))) (.an (.le (.k 0) (.v 1)) (.lt (.v 1) (.k 256)))))) [_,_,_] []) hv.1 hv.2 (Z.dm _ (k := 256) (by decide)))]
  refine h _ ⟨by rw [List.length_set, List.length_set], ?_, fun j j0 j1 j2 => ?_⟩
  · unfold w16
    rw [key _ (by exact (Z.q (.im (.le (.k 0) (.v 0)) (.le (.k 0) (.v 0))) [_] []) hb.1), key _ (by exact (Z.q (.im (.le (.k 0) (.v 0)) (.le (.k 0) (.a (.v 0) (.k 1)))) [_] []) hb.1), if_neg (by exact (Z.q (.no (.eq (.v 0) (.a (.v 0) (.k 1)))) [_] [])), if_pos rfl, if_pos rfl]
    exact (Z.q (.im (.an (.eq (.a (.m 256 (.v 0)) (.v 1)) (.v 2)) (.an (.le (.k 0) (.v 1)) (.lt (.v 1) (.k 256)))) (.eq (.a (.r (.v 0) 256) (.v 1)) (.v 2))) [_,_,_] []) (Z.dm _ (k := 256) (by decide))
  · rw [key _ j0, if_neg j2, if_neg j1]
end

noncomputable abbrev Area := Int × Int
noncomputable def Ap2 (x y : Area) : Prop := x.1 + x.2 ≤ y.1 ∨ y.1 + y.2 ≤ x.1
noncomputable def tot : List Area → Int
  | [] => 0
  | x :: r => x.2 + tot r
theorem pH (A B : List Area) : tot (A ++ B) = tot A + tot B := by
  induction A with
  | nil => show tot B = 0 + tot B; exact (Z.q (.eq (.v 0) (.a (.k 0) (.v 0))) [_] [])
  | cons x r ih => show x.2 + tot (r ++ B) = x.2 + tot r + tot B; exact (Z.q (.im (.eq (.v 0) (.a (.v 1) (.v 2))) (.eq (.a (.v 3) (.v 0)) (.a (.a (.v 3) (.v 1)) (.v 2)))) [_,_,_,_] []) ih
theorem o4 {A B : List Area} (h : A.Perm B) : tot A = tot B := by
  induction h with
  | nil => rfl
  | cons x _ ih => show x.2 + _ = x.2 + _; exact (Z.q (.im (.eq (.v 0) (.v 1)) (.eq (.a (.v 2) (.v 0)) (.a (.v 2) (.v 1)))) [_,_,_] []) ih
  | swap x y l => show y.2 + (x.2 + _) = x.2 + (y.2 + _); exact (Z.q (.eq (.a (.v 0) (.a (.v 1) (.v 2))) (.a (.v 1) (.a (.v 0) (.v 2)))) [_,_,_] [])
  | trans _ _ a b => exact a.trans b
theorem m5 (p : Area → Bool) (A : List Area) : tot A = tot (A.filter p) + tot (A.filter fun x => !p x) := by
  induction A with
  | nil => rfl
  | cons x r ih =>
    cases h : p x with
    | true => rw [List.filter_cons_of_pos h, List.filter_cons_of_neg (by simp [h])]; show x.2 + _ = x.2 + _ + _; exact (Z.q (.im (.eq (.v 0) (.a (.v 1) (.v 2))) (.eq (.a (.v 3) (.v 0)) (.a (.a (.v 3) (.v 1)) (.v 2)))) [_,_,_,_] []) ih
    | false => rw [List.filter_cons_of_neg (by simp [h]), List.filter_cons_of_pos (by simp [h])]; show x.2 + _ = _ + (x.2 + _); exact (Z.q (.im (.eq (.v 0) (.a (.v 1) (.v 2))) (.eq (.a (.v 3) (.v 0)) (.a (.v 1) (.a (.v 3) (.v 2))))) [_,_,_,_] []) ih
theorem lw {x y : Area} (h : Ap2 x y) : Ap2 y x := h.elim .inr .inl
theorem pack : ∀ (n : Nat) (A : List Area) (c us : Int), A.length ≤ n → c ≤ us → (∀ x ∈ A, 4 ≤ x.2 ∧ c ≤ x.1 ∧ x.1 + x.2 ≤ us) → A.Pairwise Ap2 → tot A ≤ us - c
  | _, [], c, us, _, h, _, _ => by show 0 ≤ _; exact (Z.q (.im (.le (.v 0) (.v 1)) (.le (.k 0) (.s (.v 1) (.v 0)))) [_,_] []) h
  | n + 1, x :: r, c, us, hn, h, he, hp => by
    obtain ⟨p1, p2⟩ := List.pairwise_cons.mp hp
    have hx := he x (List.mem_cons_self ..)
    have e := m5 (fun y => decide (y.1 + y.2 ≤ x.1)) r
    have hr : r.length ≤ n := Nat.le_of_succ_le_succ hn
    have a := pack n (r.filter fun y => decide (y.1 + y.2 ≤ x.1)) c x.1 (Nat.le_trans (List.length_filter_le ..) hr) hx.2.1 (fun y hy => by
      have h1 := List.mem_filter.mp hy
      have h2 := he y (List.mem_cons_of_mem _ h1.1)
      exact ⟨h2.1, h2.2.1, of_decide_eq_true h1.2⟩) (p2.filter _)
    have b := pack n (r.filter fun y => !decide (y.1 + y.2 ≤ x.1)) (x.1 + x.2) us (Nat.le_trans (List.length_filter_le ..) hr) hx.2.2 (fun y hy => by
      have h1 := List.mem_filter.mp hy
      have h2 := he y (List.mem_cons_of_mem _ h1.1)
      have h3 : ¬ y.1 + y.2 ≤ x.1 := by simpa using h1.2
      exact ⟨h2.1, (p1 y h1.1).elim id fun q => absurd q h3, h2.2.2⟩) (p2.filter _)
    show x.2 + tot r ≤ _
    (first|lia|omega)
structure Ly (c us F : Int) (A : List Area) : Prop where
  each : ∀ x ∈ A, 4 ≤ x.2 ∧ c ≤ x.1 ∧ x.1 + x.2 ≤ us
  apart : A.Pairwise Ap2
  sum : tot A + F = us - c
  le : c ≤ us
namespace Ly
variable {c us F : Int} {A B R : List Area}
theorem perm (L : Ly c us F A) (h : A.Perm B) : Ly c us F B := ⟨fun x hx => L.each x (h.mem_iff.mpr hx), (h.pairwise_iff lw).mp L.apart, by rw [← o4 h]; exact L.sum, L.le⟩
theorem nn (L : Ly c us F A) : 0 ≤ F := by have := pack _ A c us (Nat.le_refl _) L.le L.each L.apart; have := L.sum; exact (Z.q (.im (.le (.v 0) (.s (.v 1) (.v 2))) (.im (.eq (.a (.v 0) (.v 3)) (.s (.v 1) (.v 2))) (.le (.k 0) (.v 3)))) [_,_,_,_] []) (by assumption) this
theorem len4 (L : Ly c us F A) : 4 * (A.length : Int) ≤ us - c := by
  have h : ∀ A : List Area, (∀ x ∈ A, 4 ≤ x.2) → 4 * (A.length : Int) ≤ tot A := by
    intro A; induction A with
    | nil => intro _; exact Int.le_refl _
    | cons x r ih =>
      intro h
      have := ih fun y hy => h y (List.mem_cons_of_mem _ hy)
      have := h x (List.mem_cons_self ..)
      show 4 * ((r.length + 1 : Nat) : Int) ≤ x.2 + tot r
      exact (Z.q (.im (.le (.m 4 (.c (.v 0))) (.v 0)) (.im (.le (.k 4) (.v 1)) (.le (.m 4 (.c (.a (.v 0) (.k 1)))) (.a (.v 1) (.v 0))))) [_,_] [_]) (by assumption) this
  have := h A fun x hx => (L.each x hx).1
  have := L.sum; have := L.nn; exact (Z.q (.im (.le (.m 4 (.c (.v 0))) (.v 0)) (.im (.eq (.a (.v 0) (.v 1)) (.s (.v 2) (.v 3))) (.im (.le (.k 0) (.v 1)) (.le (.m 4 (.c (.v 0))) (.s (.v 2) (.v 3)))))) [_,_,_,_] [_]) (by assumption) (by assumption) this
theorem top (us : Int) : Ly us us 0 [] := ⟨fun _ h => (nomatch h), .nil, by show 0 + 0 = _; exact (Z.q (.eq (.a (.k 0) (.k 0)) (.s (.v 0) (.v 0))) [_] []), Int.le_refl _⟩
theorem lower (L : Ly c us F A) {c' n : Int} (hn : 4 ≤ n) (e : c' + n = c) : Ly c' us F ((c', n) :: A) := by
  have := L.le; have := L.sum
  refine ⟨fun x hx => ?_, List.pairwise_cons.mpr ⟨fun y hy => .inl ?_, L.apart⟩, ?_, by exact (Z.q (.im (.le (.k 4) (.v 0)) (.im (.eq (.a (.v 1) (.v 0)) (.v 2)) (.im (.le (.v 2) (.v 3)) (.le (.v 1) (.v 3))))) [_,_,_,_] []) hn e (by assumption)⟩
  · rcases List.mem_cons.mp hx with rfl | hx
    · exact ⟨hn, Int.le_refl _, by show c' + n ≤ us; exact (Z.q (.im (.eq (.a (.v 0) (.v 1)) (.v 2)) (.im (.le (.v 2) (.v 3)) (.le (.a (.v 0) (.v 1)) (.v 3)))) [_,_,_,_] []) e (by assumption)⟩
    · have := L.each x hx; exact (Z.q (.im (.le (.k 4) (.v 0)) (.im (.eq (.a (.v 1) (.v 0)) (.v 2)) (.im (.le (.k 4) (.v 3)) (.im (.le (.v 2) (.v 4)) (.im (.le (.a (.v 4) (.v 3)) (.v 5)) (.an (.le (.k 4) (.v 3)) (.an (.le (.v 1) (.v 4)) (.le (.a (.v 4) (.v 3)) (.v 5))))))))) [_,_,_,_,_,_] []) hn e this.1 this.2.1 this.2.2
  · have := (L.each y hy).2.1; show c' + n ≤ y.1; exact (Z.q (.im (.eq (.a (.v 0) (.v 1)) (.v 2)) (.im (.le (.v 2) (.v 3)) (.le (.a (.v 0) (.v 1)) (.v 3)))) [_,_,_,_] []) e this
  · show n + tot A + F = _; exact (Z.q (.im (.eq (.a (.v 0) (.v 1)) (.v 2)) (.im (.eq (.a (.v 3) (.v 4)) (.s (.v 5) (.v 2))) (.eq (.a (.a (.v 1) (.v 3)) (.v 4)) (.s (.v 5) (.v 0))))) [_,_,_,_,_,_] []) e this
theorem split {a s l n : Int} (L : Ly c us F ((a, s) :: R)) (hl : 4 ≤ l) (hn : 4 ≤ n) (e : l + n = s) : Ly c us F ((a, l) :: (a + l, n) :: R) := by
  obtain ⟨p1, p2⟩ := List.pairwise_cons.mp L.apart
  have h := L.each _ (List.mem_cons_self ..)
  have sm : s + tot R + F = us - c := L.sum
  refine ⟨fun x hx => ?_, List.pairwise_cons.mpr ⟨fun y hy => ?_, List.pairwise_cons.mpr ⟨fun y hy => ?_, p2⟩⟩, ?_, L.le⟩
  · rcases List.mem_cons.mp hx with rfl | hx
    · exact ⟨hl, h.2.1, by have := h.2.2; dsimp only at *; exact (Z.q (.im (.le (.k 4) (.v 0)) (.im (.eq (.a (.v 1) (.v 0)) (.v 2)) (.im (.le (.a (.v 3) (.v 2)) (.v 4)) (.le (.a (.v 3) (.v 1)) (.v 4))))) [_,_,_,_,_] []) hn e h.2.2⟩
    · rcases List.mem_cons.mp hx with rfl | hx
      · exact ⟨hn, by have := h.2.1; dsimp only at *; exact (Z.q (.im (.le (.k 4) (.v 0)) (.im (.le (.v 1) (.v 2)) (.le (.v 1) (.a (.v 2) (.v 0))))) [_,_,_] []) hl h.2.1, by have := h.2.2; dsimp only at *; exact (Z.q (.im (.eq (.a (.v 0) (.v 1)) (.v 2)) (.im (.le (.a (.v 3) (.v 2)) (.v 4)) (.le (.a (.a (.v 3) (.v 0)) (.v 1)) (.v 4)))) [_,_,_,_,_] []) e h.2.2⟩
      · exact L.each x (List.mem_cons_of_mem _ hx)
  · rcases List.mem_cons.mp hy with rfl | hy
    · exact .inl (Int.le_refl _)
    · exact (p1 y hy).imp (fun q => by dsimp only at *; exact (Z.q (.im (.le (.k 4) (.v 0)) (.im (.eq (.a (.v 1) (.v 0)) (.v 2)) (.im (.le (.a (.v 3) (.v 2)) (.v 4)) (.le (.a (.v 3) (.v 1)) (.v 4))))) [_,_,_,_,_] []) hn e q) id
  · exact (p1 y hy).imp (fun q => by dsimp only at *; exact (Z.q (.im (.eq (.a (.v 0) (.v 1)) (.v 2)) (.im (.le (.a (.v 3) (.v 2)) (.v 4)) (.le (.a (.a (.v 3) (.v 0)) (.v 1)) (.v 4)))) [_,_,_,_,_] []) e q) (fun q => by dsimp only at *; exact (Z.q (.im (.le (.k 4) (.v 0)) (.im (.le (.a (.v 1) (.v 2)) (.v 3)) (.le (.a (.v 1) (.v 2)) (.a (.v 3) (.v 0))))) [_,_,_,_] []) hl q)
  · show l + (n + tot R) + F = _; (first|lia|omega)
theorem shrink {a s n : Int} (L : Ly c us F ((a, s) :: R)) (hn : 4 ≤ n) (e : n ≤ s) : Ly c us (F + (s - n)) ((a, n) :: R) := by
  obtain ⟨p1, p2⟩ := List.pairwise_cons.mp L.apart
  have h := L.each _ (List.mem_cons_self ..)
  have sm : s + tot R + F = us - c := L.sum
  refine ⟨fun x hx => ?_, List.pairwise_cons.mpr ⟨fun y hy => ?_, p2⟩, ?_, L.le⟩
  · rcases List.mem_cons.mp hx with rfl | hx
    · exact ⟨hn, h.2.1, by have := h.2.2; dsimp only at *; exact (Z.q (.im (.le (.v 0) (.v 1)) (.im (.le (.a (.v 2) (.v 1)) (.v 3)) (.le (.a (.v 2) (.v 0)) (.v 3)))) [_,_,_,_] []) e h.2.2⟩
    · exact L.each x (List.mem_cons_of_mem _ hx)
  · exact (p1 y hy).imp (fun q => by dsimp only at *; exact (Z.q (.im (.le (.v 0) (.v 1)) (.im (.le (.a (.v 2) (.v 1)) (.v 3)) (.le (.a (.v 2) (.v 0)) (.v 3)))) [_,_,_,_] []) e q) id
  · show n + tot R + _ = _; exact (Z.q (.im (.eq (.a (.a (.v 0) (.v 1)) (.v 2)) (.s (.v 3) (.v 4))) (.eq (.a (.a (.v 5) (.v 1)) (.a (.v 2) (.s (.v 0) (.v 5)))) (.s (.v 3) (.v 4)))) [_,_,_,_,_,_] []) sm
theorem merge {a s b t : Int} (L : Ly c us F ((a, s) :: (b, t) :: R)) (h0 : a + s ≤ b) (h4 : b - a - s < 4) : Ly c us (F - (b - a - s)) ((a, b + t - a) :: R) := by
  obtain ⟨p1, p2⟩ := List.pairwise_cons.mp L.apart
  obtain ⟨q1, q2⟩ := List.pairwise_cons.mp p2
  have ha := L.each _ (List.mem_cons_self ..)
  have hb := L.each (b, t) (List.mem_cons_of_mem _ (List.mem_cons_self ..))
  have sm : s + (t + tot R) + F = us - c := L.sum
  dsimp only at ha hb
  refine ⟨fun x hx => ?_, List.pairwise_cons.mpr ⟨fun y hy => ?_, q2⟩, ?_, L.le⟩
  · rcases List.mem_cons.mp hx with rfl | hx
    · dsimp only; exact (Z.q (.im (.le (.a (.v 0) (.v 1)) (.v 2)) (.im (.le (.k 4) (.v 1)) (.im (.le (.v 3) (.v 0)) (.im (.le (.k 4) (.v 4)) (.im (.le (.a (.v 2) (.v 4)) (.v 5)) (.an (.le (.k 4) (.s (.a (.v 2) (.v 4)) (.v 0))) (.an (.le (.v 3) (.v 0)) (.le (.a (.v 0) (.s (.a (.v 2) (.v 4)) (.v 0))) (.v 5))))))))) [_,_,_,_,_,_] []) h0 ha.1 ha.2.1 hb.1 hb.2.2
    · exact L.each x (List.mem_cons_of_mem _ (List.mem_cons_of_mem _ hx))
  · have u := p1 y (List.mem_cons_of_mem _ hy)
    have v := q1 y hy
    have w := (L.each y (List.mem_cons_of_mem _ (List.mem_cons_of_mem _ hy))).1
    unfold Ap2 at *
    dsimp only at *
    exact (Z.q (.im (.lt (.s (.s (.v 0) (.v 1)) (.v 2)) (.k 4)) (.im (.or (.le (.a (.v 1) (.v 2)) (.v 3)) (.le (.a (.v 3) (.v 4)) (.v 1))) (.im (.or (.le (.a (.v 0) (.v 5)) (.v 3)) (.le (.a (.v 3) (.v 4)) (.v 0))) (.im (.le (.k 4) (.v 4)) (.or (.le (.a (.v 1) (.s (.a (.v 0) (.v 5)) (.v 1))) (.v 3)) (.le (.a (.v 3) (.v 4)) (.v 1))))))) [_,_,_,_,_,_] []) h4 u v w
  · show b + t - a + tot R + _ = _; (first|lia|omega)
theorem raise {a s : Int} (L : Ly c us F ((a, s) :: R)) (h : ∀ y ∈ R, a + s ≤ y.1) : Ly (a + s) us (F - (a - c)) R := by
  have sm : s + tot R + F = us - c := L.sum
  have ha := L.each _ (List.mem_cons_self ..)
  refine ⟨fun x hx => ?_, (List.pairwise_cons.mp L.apart).2, by exact (Z.q (.im (.eq (.a (.a (.v 0) (.v 1)) (.v 2)) (.s (.v 3) (.v 4))) (.eq (.a (.v 1) (.s (.v 2) (.s (.v 5) (.v 4)))) (.s (.v 3) (.a (.v 5) (.v 0))))) [_,_,_,_,_,_] []) sm, ha.2.2⟩
  have := L.each x (List.mem_cons_of_mem _ hx)
  exact ⟨this.1, h x hx, this.2.2⟩
theorem raise4 {a s : Int} (L : Ly c us F ((a, s) :: R)) (h4 : a - c < 4) : Ly (a + s) us (F - (a - c)) R := L.raise fun y hy => by
  have u := (List.pairwise_cons.mp L.apart).1 y hy
  have w := L.each y (List.mem_cons_of_mem _ hy)
  unfold Ap2 at u
  dsimp only at *
  exact (Z.q (.im (.lt (.s (.v 0) (.v 1)) (.k 4)) (.im (.or (.le (.a (.v 0) (.v 2)) (.v 3)) (.le (.a (.v 3) (.v 4)) (.v 0))) (.im (.le (.k 4) (.v 4)) (.im (.le (.v 1) (.v 3)) (.le (.a (.v 0) (.v 2)) (.v 3)))))) [_,_,_,_,_] []) h4 u w.1 w.2.1
theorem above {a s : Int} (L : Ly c us F ((a, s) :: R)) (h : ∀ y ∈ R, a < y.1) : ∀ y ∈ R, a + s ≤ y.1 := fun y hy => by
  have u := (List.pairwise_cons.mp L.apart).1 y hy
  have w := L.each y (List.mem_cons_of_mem _ hy)
  have := h y hy
  unfold Ap2 at u
  dsimp only at *
  exact (Z.q (.im (.or (.le (.a (.v 0) (.v 1)) (.v 2)) (.le (.a (.v 2) (.v 3)) (.v 0))) (.im (.le (.k 4) (.v 3)) (.im (.lt (.v 0) (.v 2)) (.le (.a (.v 0) (.v 1)) (.v 2))))) [_,_,_,_] []) u w.1 this
end Ly

noncomputable abbrev bv (x : Area) : MV := .tup [.int x.1, .int x.2]
noncomputable def Chain (b : List UInt8) : Int → List Area → Prop
  | p, [] => w16 b p = 0
  | p, x :: r => w16 b p = x.1 ∧ w16 b (x.1 + 2) = x.2 ∧ Chain b x.1 r
theorem aY {b b' : List UInt8} {p : Int} (h0 : rd b' p = rd b p) (h1 : rd b' (p + 1) = rd b (p + 1)) : w16 b' p = w16 b p := by unfold w16; rw [h0, h1]
theorem Chain.same {b b' : List UInt8} : ∀ {R : List Area} {p : Int}, Chain b p R → rd b' p = rd b p → rd b' (p + 1) = rd b (p + 1) → (∀ x ∈ R, ∀ j, x.1 ≤ j → j < x.1 + 4 → rd b' j = rd b j) → Chain b' p R
  | [], p, h, h0, h1, _ => (aY h0 h1).trans h
  | x :: r, p, ⟨a, c, e⟩, h0, h1, k => by
    have kx := k x (List.mem_cons_self ..)
    exact ⟨(aY h0 h1).trans a, (aY (kx _ (by exact (Z.q (.le (.v 0) (.a (.v 0) (.k 2))) [_] [])) (by exact (Z.q (.lt (.a (.v 0) (.k 2)) (.a (.v 0) (.k 4))) [_] []))) (kx _ (by exact (Z.q (.le (.v 0) (.a (.a (.v 0) (.k 2)) (.k 1))) [_] [])) (by exact (Z.q (.lt (.a (.a (.v 0) (.k 2)) (.k 1)) (.a (.v 0) (.k 4))) [_] [])))).trans c, e.same (kx _ (by exact (Z.q (.le (.v 0) (.v 0)) [_] [])) (by exact (Z.q (.lt (.v 0) (.a (.v 0) (.k 4))) [_] []))) (kx _ (by exact (Z.q (.le (.v 0) (.a (.v 0) (.k 1))) [_] [])) (by exact (Z.q (.lt (.a (.v 0) (.k 1)) (.a (.v 0) (.k 4))) [_] []))) fun y hy => k y (List.mem_cons_of_mem _ hy)⟩
structure Post2 (b : List UInt8) (p : Int) (R : List Area) (b' : List UInt8) : Prop where
  len : b'.length = b.length
  chain : Chain b' p R
  same : ∀ j, 0 ≤ j → j ≠ p → j ≠ p + 1 → (∀ y ∈ R, j < y.1 ∨ y.1 + 4 ≤ j) → rd b' j = rd b j
theorem Post2.nil {b b1 : List UInt8} {p : Int} (h : W2 b b1 p 0) : Post2 b p [] b1 := ⟨h.len, h.val, fun j h0 h1 h2 _ => h.same j h0 h1 h2⟩
theorem Post2.cons {b b1 b2 b3 : List UInt8} {p : Int} {x : Area} {r : List Area} (h0 : 0 ≤ p) (hp : p + 2 ≤ x.1) (hr : ∀ y ∈ r, x.1 + 4 ≤ y.1) (h1 : W2 b b1 p x.1) (h2 : W2 b1 b2 (x.1 + 2) x.2) (h3 : Post2 b2 x.1 r b3) : Post2 b p (x :: r) b3 := by
  have key : ∀ j, 0 ≤ j → j ≠ x.1 → j ≠ x.1 + 1 → j < x.1 + 4 → rd b3 j = rd b2 j := fun j j0 j1 j2 j4 => h3.same j j0 j1 j2 fun y hy => by have := hr y hy; exact (Z.q (.im (.lt (.v 0) (.a (.v 1) (.k 4))) (.im (.le (.a (.v 1) (.k 4)) (.v 2)) (.or (.lt (.v 0) (.v 2)) (.le (.a (.v 2) (.k 4)) (.v 0))))) [_,_,_] []) j4 this
  refine ⟨by rw [h3.len, h2.len, h1.len], ⟨?_, ?_, h3.chain⟩, fun j j0 j1 j2 j3 => ?_⟩
  · rw [← h1.val]
    exact aY ((key _ h0 (by exact (Z.q (.im (.le (.a (.v 0) (.k 2)) (.v 1)) (.no (.eq (.v 0) (.v 1)))) [_,_] []) hp) (by exact (Z.q (.im (.le (.a (.v 0) (.k 2)) (.v 1)) (.no (.eq (.v 0) (.a (.v 1) (.k 1))))) [_,_] []) hp) (by exact (Z.q (.im (.le (.a (.v 0) (.k 2)) (.v 1)) (.lt (.v 0) (.a (.v 1) (.k 4)))) [_,_] []) hp)).trans (h2.same _ h0 (by exact (Z.q (.im (.le (.a (.v 0) (.k 2)) (.v 1)) (.no (.eq (.v 0) (.a (.v 1) (.k 2))))) [_,_] []) hp) (by exact (Z.q (.im (.le (.a (.v 0) (.k 2)) (.v 1)) (.no (.eq (.v 0) (.a (.a (.v 1) (.k 2)) (.k 1))))) [_,_] []) hp))) ((key _ (by exact (Z.q (.im (.le (.k 0) (.v 0)) (.le (.k 0) (.a (.v 0) (.k 1)))) [_] []) h0) (by exact (Z.q (.im (.le (.a (.v 0) (.k 2)) (.v 1)) (.no (.eq (.a (.v 0) (.k 1)) (.v 1)))) [_,_] []) hp) (by exact (Z.q (.im (.le (.a (.v 0) (.k 2)) (.v 1)) (.no (.eq (.a (.v 0) (.k 1)) (.a (.v 1) (.k 1))))) [_,_] []) hp) (by exact (Z.q (.im (.le (.a (.v 0) (.k 2)) (.v 1)) (.lt (.a (.v 0) (.k 1)) (.a (.v 1) (.k 4)))) [_,_] []) hp)).trans (h2.same _ (by exact (Z.q (.im (.le (.k 0) (.v 0)) (.le (.k 0) (.a (.v 0) (.k 1)))) [_] []) h0) (by exact (Z.q (.im (.le (.a (.v 0) (.k 2)) (.v 1)) (.no (.eq (.a (.v 0) (.k 1)) (.a (.v 1) (.k 2))))) [_,_] []) hp) (by exact (Z.q (.im (.le (.a (.v 0) (.k 2)) (.v 1)) (.no (.eq (.a (.v 0) (.k 1)) (.a (.a (.v 1) (.k 2)) (.k 1))))) [_,_] []) hp)))
  · rw [← h2.val]
    exact aY (key _ (by exact (Z.q (.im (.le (.k 0) (.v 0)) (.im (.le (.a (.v 0) (.k 2)) (.v 1)) (.le (.k 0) (.a (.v 1) (.k 2))))) [_,_] []) h0 hp) (by exact (Z.q (.no (.eq (.a (.v 0) (.k 2)) (.v 0))) [_] [])) (by exact (Z.q (.no (.eq (.a (.v 0) (.k 2)) (.a (.v 0) (.k 1)))) [_] [])) (by exact (Z.q (.lt (.a (.v 0) (.k 2)) (.a (.v 0) (.k 4))) [_] []))) (key _ (by exact (Z.q (.im (.le (.k 0) (.v 0)) (.im (.le (.a (.v 0) (.k 2)) (.v 1)) (.le (.k 0) (.a (.a (.v 1) (.k 2)) (.k 1))))) [_,_] []) h0 hp) (by exact (Z.q (.no (.eq (.a (.a (.v 0) (.k 2)) (.k 1)) (.v 0))) [_] [])) (by exact (Z.q (.no (.eq (.a (.a (.v 0) (.k 2)) (.k 1)) (.a (.v 0) (.k 1)))) [_] [])) (by exact (Z.q (.lt (.a (.a (.v 0) (.k 2)) (.k 1)) (.a (.v 0) (.k 4))) [_] [])))
  · have := j3 x (List.mem_cons_self ..)
    rw [h3.same j j0 (by exact (Z.q (.im (.or (.lt (.v 0) (.v 1)) (.le (.a (.v 1) (.k 4)) (.v 0))) (.no (.eq (.v 0) (.v 1)))) [_,_] []) this) (by exact (Z.q (.im (.or (.lt (.v 0) (.v 1)) (.le (.a (.v 1) (.k 4)) (.v 0))) (.no (.eq (.v 0) (.a (.v 1) (.k 1))))) [_,_] []) this) fun y hy => j3 y (List.mem_cons_of_mem _ hy), h2.same j j0 (by exact (Z.q (.im (.or (.lt (.v 0) (.v 1)) (.le (.a (.v 1) (.k 4)) (.v 0))) (.no (.eq (.v 0) (.a (.v 1) (.k 2))))) [_,_] []) this) (by exact (Z.q (.im (.or (.lt (.v 0) (.v 1)) (.le (.a (.v 1) (.k 4)) (.v 0))) (.no (.eq (.v 0) (.a (.a (.v 1) (.k 2)) (.k 1))))) [_,_] []) this), h1.same j j0 j1 j2]
noncomputable def Ord (c us : Int) (R : List Area) : Prop := R.Pairwise (fun x y => x.1 + x.2 ≤ y.1) ∧ ∀ x ∈ R, 4 ≤ x.2 ∧ c ≤ x.1 ∧ x.1 + x.2 ≤ us
theorem Ord.tail {c us : Int} {x : Area} {R : List Area} (h : Ord c us (x :: R)) : Ord c us R := ⟨(List.pairwise_cons.mp h.1).2, fun y hy => h.2 y (List.mem_cons_of_mem _ hy)⟩
theorem Ord.next {c us : Int} {x : Area} {R : List Area} (h : Ord c us (x :: R)) : ∀ y ∈ R, x.1 + x.2 ≤ y.1 := (List.pairwise_cons.mp h.1).1
theorem Ord.head {c us : Int} {x : Area} {R : List Area} (h : Ord c us (x :: R)) : 4 ≤ x.2 ∧ c ≤ x.1 ∧ x.1 + x.2 ≤ us := h.2 x (List.mem_cons_self ..)
section
variable {Q : MV → Sto → Prop} {σ : Sto} {k d : Nat} {page us base : Int} {b : List UInt8} {a v : Int}
theorem hU (N : Nd σ k d page us base b) {blks : List Area} (hc : Chain b (base + 1) blks) (ho : Ord (w16 b (base + 5)) us blks) (h1 : 1 ≤ w16 b (base + 5)) (hn : blks.length ≤ 90)
    (h : ∀ σ' m, Le σ σ' → σ.length ≤ m → σ'[m]? = some (.list (blks.map bv)) → Q (.ref m) σ') : We (bG [.ref k] σ) Q := by
  refine bg ?_
  unfold cU
  have hb := N.bnd; have hu := N.us; have hl := N.len
  have N1 := N.le (Le.push σ (.list []))
  fail "s"
  refine cN N1.dat (N.inb2 (by decide)) ?_
  fail "s"
  refine iW (fun n l σ' => ∃ D R p β, blks = D ++ R ∧ n = R.length ∧ Chain b p R ∧ Ord (w16 b (base + 5)) us R ∧ (∀ y ∈ R, β ≤ y.1) ∧ l "at" = some (.int (w16 b p)) ∧ l "behind" = some (.int β) ∧ l "self" = some (.ref k) ∧ l "found" = some (.ref σ.length) ∧
    σ'[σ.length]? = some (.list (D.map bv)) ∧ Le σ σ') ?_ 100 blks.length _ _ (by exact (Z.q (.im (.nle (.v 0) (.k 90)) (.nlt (.v 0) (.k 100))) [] [_]) hn) ⟨[], blks, base + 1, 0, rfl, rfl, hc, ho, fun y hy => by have := (ho.2 y hy).2.1; exact (Z.q (.im (.le (.k 1) (.v 0)) (.im (.le (.v 0) (.v 1)) (.le (.k 0) (.v 1)))) [_,_] []) h1 this, ?_, ?_, ?_, ?_, aS _ _, Le.push _ _⟩
  · rintro n l s ⟨D, R, p, β, rfl, rfl, hR, hO, hβ, e1, e2, e3, e4, hm, le⟩
    have N2 := N.le le
    match R, hR, hO, hβ with
    | [], hR, _, _ =>
      have hR : w16 b p = 0 := hR
      fail "s"
      rw [List.append_nil] at h
      exact h _ _ le (Nat.le_refl _) hm
    | (a, z) :: r, ⟨p1, p2, p3⟩, hO, hβ =>
      have g := hO.head
      have g2 := hβ _ (List.mem_cons_self ..)
      dsimp only at p1 p2 p3 g g2
      rw [p1] at e1
      fail "s"
      refine ⟨r.length, rfl, ?_⟩
      fail "s"
      refine dJ N2 ?_
      fail "s"
      refine cN N2.dat (by exact (Z.q (.im (.le (.k 1) (.v 0)) (.im (.le (.v 1) (.k 128)) (.im (.eq (.c (.v 0)) (.v 1)) (.im (.le (.k 4) (.v 2)) (.im (.le (.v 0) (.v 3)) (.im (.le (.a (.v 3) (.v 2)) (.v 1)) (.an (.le (.k 0) (.a (.v 3) (.k 2))) (.an (.lt (.a (.a (.v 3) (.k 2)) (.k 1)) (.c (.v 0))) (.nle (.v 0) (.k 1000)))))))))) [_,_,_,_] [_]) h1 hu.2 hl g.1 g.2.1 g.2.2) ?_
      rw [p2]
      fail "s"
      refine cH hm (by rw [List.length_map]; simp only [List.length_append] at hn; exact (Z.q (.im (.nle (.a (.v 0) (.v 1)) (.k 90)) (.nlt (.v 0) (.k 100000))) [] [_,_]) hn) ?_
      have N3 := N.le (le.set (Nat.le_refl _) (.list (D.map bv ++ [.tup [.int a, .int z]])))
      fail "s"
      refine cN N3.dat (by exact (Z.q (.im (.le (.k 1) (.v 0)) (.im (.le (.v 1) (.k 128)) (.im (.eq (.c (.v 0)) (.v 1)) (.im (.le (.k 4) (.v 2)) (.im (.le (.v 0) (.v 3)) (.im (.le (.a (.v 3) (.v 2)) (.v 1)) (.an (.le (.k 0) (.v 3)) (.an (.lt (.a (.v 3) (.k 1)) (.c (.v 0))) (.nle (.v 0) (.k 1000)))))))))) [_,_,_,_] [_]) h1 hu.2 hl g.1 g.2.1 g.2.2) ?_
      fail "s"
      exact ⟨D ++ [(a, z)], r, a, a + z, by simp, rfl, p3, hO.tail, hO.next, by fail "l", by fail "l", by fail "l", by fail "l", by rw [aT _ hm]; simp [bv], le.set (Nat.le_refl _) _⟩
  all_goals fail "l"
end

theorem gA {σ : Sto} {m d : Nat} {xs : List MV} {b : List UInt8} (h : σ[m]? = some (.list xs)) (h' : σ[d]? = some (.ba b)) : m ≠ d := by rintro rfl; rw [h] at h'; cases h'
section
variable {Q : MV → Sto → Prop} {σ : Sto} {k d : Nat} {page us base : Int} {b : List UInt8} {a v : Int}
theorem qi (N : Nd σ k d page us base b) {blks : List Area} (hc : Chain b (base + 1) blks) (ho : Ord (w16 b (base + 5)) us blks) (h1 : 1 ≤ w16 b (base + 5)) (hn : blks.length ≤ 90)
    (h : ∀ σ', Le σ σ' → Q (.int (w16 b (base + 5) - fst (rd b base) base - 2 * w16 b (base + 3) + rd b (base + 7) + tot blks)) σ') : We (dZ [.ref k] σ) Q := by
  refine bg ?_
  unfold fH
  fail "s"
  refine oM N ?_
  fail "s"
  refine dX N ?_
  fail "s"
  refine hU N hc ho h1 hn fun σ' m le hm hl => ?_
  refine fC bv blks (fun R l s => s = σ' ∧ ∃ g, l "free" = some (.int g) ∧ g + tot R = w16 b (base + 5) - fst (rd b base) base - 2 * w16 b (base + 3) + rd b (base + 7) + tot blks) ⟨rfl, _, fJ, rfl⟩ ?_ ?_ ?_
  · rintro r l s ⟨rfl, _⟩; exact hl
  · rintro x r l s ⟨rfl, g, e, hg⟩
    fail "s"
    refine ⟨rfl, _, fJ, ?_⟩
    have : tot (x :: r) = x.2 + tot r := rfl
    (first|lia|omega)
  · rintro l s ⟨rfl, g, e, hg⟩
    rw [show tot [] = 0 from rfl, Int.add_zero] at hg
    fail "s"
    rw [hg]
    exact h _ le
theorem fK (N : Nd σ k d page us base b) {blks : List Area} {m : Nat} (hm : σ[m]? = some (.list (blks.map bv))) (ho : Ord (base + 8) us blks)
    (h : ∀ σ' b', LeX d σ σ' → Nd σ' k d page us base b' → Post2 b (base + 1) blks b' → Q .none σ') : We (bY [.ref k, .ref m] σ) Q := by
  refine ce ?_
  unfold cZ
  have hb := N.bnd; have hu := N.us; have hl := N.len
  fail "s"
  refine fC bv blks (fun R l s => ∃ p b1, l "self" = some (.ref k) ∧ l "behind" = some (.int p) ∧ LeX d σ s ∧ Nd s k d page us base b1 ∧ base + 1 ≤ p ∧ p + 1 < us ∧ Ord (base + 8) us R ∧ (∀ y ∈ R, p + 2 ≤ y.1) ∧ ∀ b2, Post2 b1 p R b2 → Post2 b (base + 1) blks b2)
    ⟨base + 1, b, by fail "l", by fail "l", fun _ _ _ e => e, N, by exact (Z.q (.le (.a (.v 0) (.k 1)) (.a (.v 0) (.k 1))) [_] []), by exact (Z.q (.im (.le (.v 0) (.k 32)) (.im (.le (.k 64) (.v 1)) (.lt (.a (.a (.v 0) (.k 1)) (.k 1)) (.v 1)))) [_,_] []) hb.2 hu.1, ho, fun y hy => by have := (ho.2 y hy).2.1; exact (Z.q (.im (.le (.a (.v 0) (.k 8)) (.v 1)) (.le (.a (.a (.v 0) (.k 1)) (.k 2)) (.v 1))) [_,_] []) this, fun _ q => q⟩ ?_ ?_ ?_
  · rintro r l s ⟨_, _, _, _, le, _⟩; exact le m _ (gA hm N.dat) hm
  · rintro x r l s ⟨p, b1, e1, e2, le, N1, p1, p2, hO, hp, post⟩
    have g := hO.head
    have g2 := hp _ (List.mem_cons_self ..)
    have hl1 := N1.len
    fail "s"
    refine az N1.dat (by exact (Z.q (.im (.le (.k 0) (.v 0)) (.im (.le (.v 1) (.k 128)) (.im (.le (.a (.v 0) (.k 1)) (.v 2)) (.im (.lt (.a (.v 2) (.k 1)) (.v 1)) (.im (.eq (.c (.v 0)) (.v 1)) (.an (.le (.k 0) (.v 2)) (.an (.lt (.a (.v 2) (.k 1)) (.c (.v 0))) (.nle (.v 0) (.k 1000))))))))) [_,_,_] [_]) hb.1 hu.2 p1 p2 hl1) (by exact (Z.q (.im (.le (.k 0) (.v 0)) (.im (.le (.v 1) (.k 128)) (.im (.le (.k 4) (.v 2)) (.im (.le (.a (.v 0) (.k 8)) (.v 3)) (.im (.le (.a (.v 3) (.v 2)) (.v 1)) (.an (.le (.k 0) (.v 3)) (.lt (.v 3) (.k 65536)))))))) [_,_,_,_] []) hb.1 hu.2 g.1 g.2.1 g.2.2) fun b2 w1 => ?_
    have N2 := N1.leX (LeX.set d s (.ba b2)) (aT _ N1.dat) w1.len
    have hl2 := N2.len
    fail "s"
    refine az N2.dat (by exact (Z.q (.im (.le (.k 0) (.v 0)) (.im (.le (.v 1) (.k 128)) (.im (.le (.k 4) (.v 2)) (.im (.le (.a (.v 0) (.k 8)) (.v 3)) (.im (.le (.a (.v 3) (.v 2)) (.v 1)) (.im (.eq (.c (.v 0)) (.v 1)) (.an (.le (.k 0) (.a (.v 3) (.k 2))) (.an (.lt (.a (.a (.v 3) (.k 2)) (.k 1)) (.c (.v 0))) (.nle (.v 0) (.k 1000)))))))))) [_,_,_,_] [_]) hb.1 hu.2 g.1 g.2.1 g.2.2 hl2) (by exact (Z.q (.im (.le (.k 0) (.v 0)) (.im (.le (.v 1) (.k 128)) (.im (.le (.k 4) (.v 2)) (.im (.le (.a (.v 0) (.k 8)) (.v 3)) (.im (.le (.a (.v 3) (.v 2)) (.v 1)) (.an (.le (.k 0) (.v 2)) (.lt (.v 2) (.k 65536)))))))) [_,_,_,_] []) hb.1 hu.2 g.1 g.2.1 g.2.2) fun b3 w2 => ?_
    have N3 := N2.leX (LeX.set d _ (.ba b3)) (aT _ N2.dat) w2.len
    fail "s"
    have hx := hO.next
    exact ⟨x.1, b3, by fail "l", by fail "l", le.trans ((LeX.set d _ _).trans (LeX.set d _ _)), N3, by exact (Z.q (.im (.le (.a (.v 0) (.k 8)) (.v 1)) (.le (.a (.v 0) (.k 1)) (.v 1))) [_,_] []) g.2.1, by exact (Z.q (.im (.le (.k 4) (.v 0)) (.im (.le (.a (.v 1) (.v 0)) (.v 2)) (.lt (.a (.v 1) (.k 1)) (.v 2)))) [_,_,_] []) g.1 g.2.2, hO.tail, fun y hy => by have := hx y hy; exact (Z.q (.im (.le (.k 4) (.v 0)) (.im (.le (.a (.v 1) (.v 0)) (.v 2)) (.le (.a (.v 1) (.k 2)) (.v 2)))) [_,_,_] []) g.1 this,
      fun b4 q => post _ (.cons (by exact (Z.q (.im (.le (.k 0) (.v 0)) (.im (.le (.a (.v 0) (.k 1)) (.v 1)) (.le (.k 0) (.v 1)))) [_,_] []) hb.1 p1) g2 (fun y hy => by have := hx y hy; exact (Z.q (.im (.le (.k 4) (.v 0)) (.im (.le (.a (.v 1) (.v 0)) (.v 2)) (.le (.a (.v 1) (.k 4)) (.v 2)))) [_,_,_] []) g.1 this) w1 w2 q)⟩
  · rintro l s ⟨p, b1, e1, e2, le, N1, p1, p2, hO, hp, post⟩
    have hl1 := N1.len
    fail "s"
    refine az N1.dat (by exact (Z.q (.im (.le (.k 0) (.v 0)) (.im (.le (.v 1) (.k 128)) (.im (.le (.a (.v 0) (.k 1)) (.v 2)) (.im (.lt (.a (.v 2) (.k 1)) (.v 1)) (.im (.eq (.c (.v 0)) (.v 1)) (.an (.le (.k 0) (.v 2)) (.an (.lt (.a (.v 2) (.k 1)) (.c (.v 0))) (.nle (.v 0) (.k 1000))))))))) [_,_,_] [_]) hb.1 hu.2 p1 p2 hl1) (by decide) fun b2 w1 => ?_
    have N2 := N1.leX (LeX.set d s (.ba b2)) (aT _ N1.dat) w1.len
    fail "s"
    exact h _ _ (le.trans (LeX.set d _ _)) N2 (post _ (.nil w1))
theorem jM (hd : σ[d]? = some (.ba b)) (hb : 0 ≤ a ∧ a + 3 < b.length ∧ b.length ≤ 1000) (hv : 0 ≤ v ∧ v < 4294967296) (h : ∀ b', b'.length = b.length → w32 b' a = v → (∀ j, 0 ≤ j → (j < a ∨ a + 4 ≤ j) → rd b' j = rd b j) → Q .none (σ.set d (.ba b'))) : We (fM [.ref d, .int a, .int v] σ) Q := by
  refine iU ?_
  unfold g8
  fail "s"
  refine az hd (by exact (Z.q (.im (.le (.k 0) (.v 0)) (.im (.lt (.a (.v 0) (.k 3)) (.c (.v 0))) (.im (.nle (.v 0) (.k 1000)) (.an (.le (.k 0) (.v 0)) (.an (.lt (.a (.v 0) (.k 1)) (.c (.v 0))) (.nle (.v 0) (.k 1000))))))) [_] [_]) hb.1 hb.2.1 hb.2.2) (by exact (Z.q (.im (.le (.k 0) (.v 0)) (.im (.lt (.v 0) (.k 4294967296)) (.im (.an (.eq (.a (.m 65536 (.v 1)) (.v 2)) (.v 0)) (.an (.le (.k 0) (.v 2)) (.lt (.v 2) (.k 65536)))) (.an (.le (.k 0) (.v 1)) (.lt (.v 1) (.k 65536)))))) [_,_,_] []) hv.1 hv.2 (Z.dm _ (k := 65536) (by decide))) fun b1 w1 => ?_
  have hd1 := aT (.ba b1) hd
  have l1 := w1.len
  fail "s"
  refine az hd1 (by exact (Z.q (.im (.le (.k 0) (.v 0)) (.im (.lt (.a (.v 0) (.k 3)) (.c (.v 0))) (.im (.nle (.v 0) (.k 1000)) (.im (.neq (.v 1) (.v 0)) (.an (.le (.k 0) (.a (.v 0) (.k 2))) (.an (.lt (.a (.a (.v 0) (.k 2)) (.k 1)) (.c (.v 1))) (.nle (.v 1) (.k 1000)))))))) [_] [_,_]) hb.1 hb.2.1 hb.2.2 l1) (by exact (Z.q (.im (.an (.eq (.a (.m 65536 (.v 0)) (.v 1)) (.v 2)) (.an (.le (.k 0) (.v 1)) (.lt (.v 1) (.k 65536)))) (.an (.le (.k 0) (.v 1)) (.lt (.v 1) (.k 65536)))) [_,_,_] []) (Z.dm _ (k := 65536) (by decide))) fun b2 w2 => ?_
  fail "s"
  rw [List.set_set]
  refine h _ (by rw [w2.len, w1.len]) ?_ fun j j0 j1 => by rw [w2.same j j0 (by exact (Z.q (.im (.or (.lt (.v 0) (.v 1)) (.le (.a (.v 1) (.k 4)) (.v 0))) (.no (.eq (.v 0) (.a (.v 1) (.k 2))))) [_,_] []) j1) (by exact (Z.q (.im (.or (.lt (.v 0) (.v 1)) (.le (.a (.v 1) (.k 4)) (.v 0))) (.no (.eq (.v 0) (.a (.a (.v 1) (.k 2)) (.k 1))))) [_,_] []) j1), w1.same j j0 (by exact (Z.q (.im (.or (.lt (.v 0) (.v 1)) (.le (.a (.v 1) (.k 4)) (.v 0))) (.no (.eq (.v 0) (.v 1)))) [_,_] []) j1) (by exact (Z.q (.im (.or (.lt (.v 0) (.v 1)) (.le (.a (.v 1) (.k 4)) (.v 0))) (.no (.eq (.v 0) (.a (.v 1) (.k 1))))) [_,_] []) j1)]
  unfold w32
  rw [w2.val, aY (w2.same _ (by exact (Z.q (.im (.le (.k 0) (.v 0)) (.le (.k 0) (.v 0))) [_] []) hb.1) (by exact (Z.q (.no (.eq (.v 0) (.a (.v 0) (.k 2)))) [_] [])) (by exact (Z.q (.no (.eq (.v 0) (.a (.a (.v 0) (.k 2)) (.k 1)))) [_] []))) (w2.same _ (by exact (Z.q (.im (.le (.k 0) (.v 0)) (.le (.k 0) (.a (.v 0) (.k 1)))) [_] []) hb.1) (by exact (Z.q (.no (.eq (.a (.v 0) (.k 1)) (.a (.v 0) (.k 2)))) [_] [])) (by exact (Z.q (.no (.eq (.a (.v 0) (.k 1)) (.a (.a (.v 0) (.k 2)) (.k 1)))) [_] []))), w1.val]
  exact (Z.q (.im (.an (.eq (.a (.m 65536 (.v 0)) (.v 1)) (.v 2)) (.an (.le (.k 0) (.v 1)) (.lt (.v 1) (.k 65536)))) (.eq (.a (.r (.v 0) 65536) (.v 1)) (.v 2))) [_,_,_] []) (Z.dm _ (k := 65536) (by decide))
theorem ig (N : Nd σ k d page us base b) (hv : 0 ≤ v ∧ v < 4294967296) (h : ∀ b', Nd (σ.set d (.ba b')) k d page us base b' → w32 b' (base + 8) = v → (∀ j, 0 ≤ j → (j < base + 8 ∨ base + 12 ≤ j) → rd b' j = rd b j) → Q .none (σ.set d (.ba b'))) : We (cJ [.ref k, .int v] σ) Q := by
  refine ce ?_
  unfold co
  fail "s"
  refine jM N.dat (by have := N.bnd; have := N.us; have := N.len; exact (Z.q (.im (.an (.le (.k 0) (.v 0)) (.le (.v 0) (.k 32))) (.im (.an (.le (.k 64) (.v 1)) (.le (.v 1) (.k 128))) (.im (.eq (.c (.v 0)) (.v 1)) (.an (.le (.k 0) (.a (.v 0) (.k 8))) (.an (.lt (.a (.a (.v 0) (.k 8)) (.k 3)) (.c (.v 0))) (.nle (.v 0) (.k 1000))))))) [_,_] [_]) (by assumption) (by assumption) this) hv fun b1 l1 v1 s1 => ?_
  fail "s"
  exact h b1 (N.leX (LeX.set d _ _) (aT _ N.dat) l1) v1 fun j j0 j1 => s1 j j0 (by exact (Z.q (.im (.or (.lt (.v 0) (.a (.v 1) (.k 8))) (.le (.a (.v 1) (.k 12)) (.v 0))) (.or (.lt (.v 0) (.a (.v 1) (.k 8))) (.le (.a (.a (.v 1) (.k 8)) (.k 4)) (.v 0)))) [_,_] []) j1)
theorem mf (N : Nd σ k d page us base b) (hk : IsKind v) (h : ∀ b', Nd (σ.set d (.ba b')) k d page us base b' → rd b' base = v → w16 b' (base + 5) = us → (∀ j, base < j → j < us → j ≠ base + 5 → j ≠ base + 6 → rd b' j = 0) → (∀ j, 0 ≤ j → j < base → rd b' j = rd b j) → Q .none (σ.set d (.ba b'))) :
    We (dp [.ref k, .int v] σ) Q := by
  refine ce ?_
  unfold eW
  have hb := N.bnd; have hu := N.us; have hl := N.len
  have hv : 0 ≤ v ∧ v < 256 := by unfold IsKind at hk; exact (Z.q (.im (.or (.eq (.v 0) (.k 2)) (.or (.eq (.v 0) (.k 5)) (.or (.eq (.v 0) (.k 10)) (.eq (.v 0) (.k 13))))) (.an (.le (.k 0) (.v 0)) (.lt (.v 0) (.k 256)))) [_] []) hk
  fail "s"
  refine mh (by exact (Z.q (.im (.le (.k 0) (.v 0)) (.im (.le (.v 0) (.k 32)) (.im (.le (.k 64) (.v 1)) (.im (.le (.v 1) (.k 128)) (.an (.le (.k 0) (.s (.v 1) (.v 0))) (.le (.s (.v 1) (.v 0)) (.k 100000))))))) [_,_] []) hb.1 hb.2 hu.1 hu.2) ?_
  fail "s"
  have lr : ((List.replicate (us - base).toNat (0 : UInt8)).length : Int) = us - base := by rw [List.length_replicate]; exact (Z.q (.im (.le (.v 0) (.k 32)) (.im (.le (.k 64) (.v 1)) (.im (.or (.an (.eq (.c (.v 0)) (.s (.v 1) (.v 0))) (.le (.k 0) (.s (.v 1) (.v 0)))) (.an (.eq (.c (.v 0)) (.k 0)) (.le (.s (.v 1) (.v 0)) (.k 0)))) (.eq (.c (.v 0)) (.s (.v 1) (.v 0)))))) [_,_] [_]) hb.2 hu.1 (Z.tn _)
  refine mE N.dat (by exact (Z.q (.im (.le (.k 0) (.v 0)) (.im (.le (.v 1) (.k 128)) (.im (.eq (.c (.v 0)) (.v 1)) (.im (.eq (.c (.v 1)) (.s (.v 1) (.v 0))) (.an (.le (.k 0) (.v 0)) (.an (.le (.v 0) (.v 1)) (.an (.le (.v 1) (.c (.v 0))) (.an (.nle (.v 0) (.k 100000)) (.eq (.c (.v 1)) (.s (.v 1) (.v 0))))))))))) [_,_] [_,_]) hb.1 hu.2 hl lr) ?_
  obtain ⟨l1, h1, s1⟩ := iM (o := b) (c := List.replicate (us - base).toNat 0) (a := base) (e := us) (by exact (Z.q (.im (.le (.k 0) (.v 0)) (.le (.k 0) (.v 0))) [_] []) hb.1) (by exact (Z.q (.im (.eq (.c (.v 0)) (.s (.v 0) (.v 1))) (.le (.v 1) (.v 0))) [_,_] [_]) lr) (by exact (Z.q (.im (.eq (.c (.v 0)) (.v 0)) (.le (.v 0) (.c (.v 0)))) [_] [_]) hl) lr
  generalize List.take base.toNat b ++ List.replicate (us - base).toNat 0 ++ List.drop us.toNat b = b1 at l1 h1 s1 ⊢
  have N1 := N.leX (LeX.set d σ (.ba b1)) (aT _ N.dat) l1
  fail "s"
  refine lA N1.dat ⟨by exact (Z.q (.im (.le (.k 0) (.v 0)) (.le (.k 0) (.v 0))) [_] []) hb.1, by exact (Z.q (.im (.le (.v 0) (.k 32)) (.im (.le (.k 64) (.v 1)) (.im (.eq (.c (.v 0)) (.v 1)) (.im (.neq (.v 1) (.v 0)) (.lt (.v 0) (.c (.v 1))))))) [_,_] [_,_]) hb.2 hu.1 hl l1, by exact (Z.q (.im (.le (.v 0) (.k 128)) (.im (.eq (.c (.v 0)) (.v 0)) (.im (.neq (.v 1) (.v 0)) (.nle (.v 1) (.k 100000))))) [_] [_,_]) hu.2 hl l1, hv⟩ ?_
  rw [List.set_set]
  have N2 := N.leX (LeX.set d σ (.ba (b1.set base.toNat v.toNat.toUInt8))) (aT _ N.dat) (by rw [List.length_set, l1])
  fail "s"
  refine az N2.dat (by rw [List.length_set]; exact (Z.q (.im (.le (.k 0) (.v 0)) (.im (.le (.v 0) (.k 32)) (.im (.le (.k 64) (.v 1)) (.im (.le (.v 1) (.k 128)) (.im (.eq (.c (.v 0)) (.v 1)) (.im (.neq (.v 1) (.v 0)) (.an (.le (.k 0) (.a (.v 0) (.k 5))) (.an (.lt (.a (.a (.v 0) (.k 5)) (.k 1)) (.c (.v 1))) (.nle (.v 1) (.k 1000)))))))))) [_,_] [_,_]) hb.1 hb.2 hu.1 hu.2 hl l1) (by exact (Z.q (.im (.le (.k 64) (.v 0)) (.im (.le (.v 0) (.k 128)) (.an (.le (.k 0) (.v 0)) (.lt (.v 0) (.k 65536))))) [_] []) hu.1 hu.2) fun b2 w2 => ?_
  rw [List.set_set]
  have l2 := w2.len
  rw [List.length_set] at l2
  have s2 : ∀ j, 0 ≤ j → j ≠ base + 5 → j ≠ base + 6 → rd b2 j = if j = base then v else rd b1 j := fun j j0 j1 j2 => by
    rw [w2.same j j0 j1 (by exact (Z.q (.im (.no (.eq (.v 0) (.a (.v 1) (.k 6)))) (.no (.eq (.v 0) (.a (.a (.v 1) (.k 5)) (.k 1))))) [_,_] []) j2), jK (by exact (Z.q (.im (.le (.k 0) (.v 0)) (.le (.k 0) (.v 0))) [_] []) hb.1) (by exact (Z.q (.im (.le (.v 0) (.k 32)) (.im (.le (.k 64) (.v 1)) (.im (.eq (.c (.v 0)) (.v 1)) (.im (.neq (.v 1) (.v 0)) (.lt (.v 0) (.c (.v 1))))))) [_,_] [_,_]) hb.2 hu.1 hl l1) j0 hv]
  fail "s"
  refine h b2 (N.leX (LeX.set d _ _) (aT _ N.dat) (by rw [l2, l1])) (by rw [s2 _ (by exact (Z.q (.im (.le (.k 0) (.v 0)) (.le (.k 0) (.v 0))) [_] []) hb.1) (by exact (Z.q (.no (.eq (.v 0) (.a (.v 0) (.k 5)))) [_] [])) (by exact (Z.q (.no (.eq (.v 0) (.a (.v 0) (.k 6)))) [_] [])), if_pos rfl]) w2.val (fun j j0 j1 j2 j3 => ?_) fun j j0 j1 => ?_
  · rw [s2 j (by exact (Z.q (.im (.le (.k 0) (.v 0)) (.im (.lt (.v 0) (.v 1)) (.le (.k 0) (.v 1)))) [_,_] []) hb.1 j0) j2 j3, if_neg (by exact (Z.q (.im (.lt (.v 0) (.v 1)) (.no (.eq (.v 1) (.v 0)))) [_,_] []) j0)]
    have := h1 (j - base) (by exact (Z.q (.im (.lt (.v 0) (.v 1)) (.le (.k 0) (.s (.v 1) (.v 0)))) [_,_] []) j0) (by exact (Z.q (.im (.eq (.c (.v 0)) (.s (.v 0) (.v 1))) (.im (.lt (.v 2) (.v 0)) (.lt (.s (.v 2) (.v 1)) (.c (.v 0))))) [_,_,_] [_]) lr j1)
    rw [show base + (j - base) = j by exact (Z.q (.eq (.a (.v 0) (.s (.v 1) (.v 0))) (.v 1)) [_,_] [])] at this
    rw [this, ki (by exact (Z.q (.im (.lt (.v 0) (.v 1)) (.le (.k 0) (.s (.v 1) (.v 0)))) [_,_] []) j0) (by exact (Z.q (.im (.lt (.v 0) (.v 1)) (.im (.or (.an (.eq (.c (.v 0)) (.s (.v 1) (.v 2))) (.le (.k 0) (.s (.v 1) (.v 2)))) (.an (.eq (.c (.v 0)) (.k 0)) (.le (.s (.v 1) (.v 2)) (.k 0)))) (.lt (.s (.v 0) (.v 2)) (.c (.v 0))))) [_,_,_] [_]) j1 (Z.tn _))]; rfl
  · rw [s2 j j0 (by exact (Z.q (.im (.lt (.v 0) (.v 1)) (.no (.eq (.v 0) (.a (.v 1) (.k 5))))) [_,_] []) j1) (by exact (Z.q (.im (.lt (.v 0) (.v 1)) (.no (.eq (.v 0) (.a (.v 1) (.k 6))))) [_,_] []) j1), if_neg (by exact (Z.q (.im (.lt (.v 0) (.v 1)) (.no (.eq (.v 0) (.v 1)))) [_,_] []) j1), s1 j j0 (.inl j1)]
end

noncomputable abbrev Cel := Int × List UInt8
noncomputable def sz (r : List UInt8) : Int := max 4 r.length
noncomputable def car (x : Cel) : Area := (x.1, sz x.2)
noncomputable def Reads (kind us : Int) (r : List UInt8) : Prop := ∀ (σ : Sto) (d : Nat) (b : List UInt8) (p : Int), σ[d]? = some (.ba b) → HasAt b p r → 0 ≤ p → p + r.length ≤ b.length → b.length ≤ 1000 →
  ∀ Q : MV → Sto → Prop, (∀ σ' v, Le σ σ' → Q (.tup [v, .int (p + r.length)]) σ') → We (gJ [.ref d, .int p, .int kind, .int us] σ) Q
structure Rep (us base kind : Int) (b : List UInt8) (cells : List Cel) (blks : List Area) (c F : Int) (X : List Area) : Prop where
  kd : rd b base = kind
  isk : IsKind kind
  cnt : w16 b (base + 3) = cells.length
  con : w16 b (base + 5) = c
  frg : rd b (base + 7) = F
  chain : Chain b (base + 1) blks
  ord : blks.Pairwise fun x y => x.1 + x.2 ≤ y.1
  ptr : ∀ (i : Nat) x, cells[i]? = some x → w16 b (fst kind base + 2 * i) = x.1
  cel : ∀ x ∈ cells, HasAt b x.1 x.2 ∧ Reads kind us x.2
  lay : Ly c us F (X ++ (cells.map car ++ blks))
  low : fst kind base + 2 * (cells.length + X.length) ≤ c
  right : kind < 10 → w32 b (base + 8) = 70001
  head : ∀ j, 0 ≤ j → j < base → rd b j = 77
noncomputable def cost : List Cel → Int
  | [] => 0
  | x :: r => 2 + sz x.2 + cost r
theorem jI : ∀ cells : List Cel, cost cells = 2 * cells.length + tot (cells.map car)
  | [] => rfl
  | x :: r => by
    have := jI r
    show 2 + sz x.2 + cost r = 2 * ((r.length + 1 : Nat) : Int) + (sz x.2 + tot (r.map car))
    exact (Z.q (.im (.eq (.v 0) (.a (.m 2 (.c (.v 0))) (.v 1))) (.eq (.a (.a (.k 2) (.v 2)) (.v 0)) (.a (.m 2 (.c (.a (.v 0) (.k 1)))) (.a (.v 2) (.v 1))))) [_,_,_] [_]) this
theorem fv (r : List UInt8) : 4 ≤ sz r ∧ (r.length : Int) ≤ sz r := by unfold sz; exact (Z.q (.im (.or (.an (.eq (.v 0) (.k 4)) (.le (.c (.v 0)) (.k 4))) (.an (.eq (.v 0) (.c (.v 0))) (.le (.k 4) (.c (.v 0))))) (.an (.le (.k 4) (.v 0)) (.le (.c (.v 0)) (.v 0)))) [_] [_]) (Z.mxi _ _)
theorem eY {kind base : Int} (hb : 0 ≤ base ∧ base ≤ 32) : base + 8 ≤ fst kind base ∧ fst kind base ≤ base + 12 := by unfold fst; split <;> (first|exact (Z.q (.an (.le (.a (.v 0) (.k 8)) (.a (.v 0) (.k 8))) (.le (.a (.v 0) (.k 8)) (.a (.v 0) (.k 12)))) [_] [])|exact (Z.q (.an (.le (.a (.v 0) (.k 8)) (.a (.v 0) (.k 12))) (.le (.a (.v 0) (.k 12)) (.a (.v 0) (.k 12)))) [_] [])|omega)
section
variable {Q : MV → Sto → Prop} {σ : Sto} {k d : Nat} {page us base kind c F : Int} {b : List UInt8} {cells : List Cel} {blks X : List Area}
namespace Rep
theorem area (R : Rep us base kind b cells blks c F X) {x : Cel} (hx : x ∈ cells) : c ≤ x.1 ∧ x.1 + sz x.2 ≤ us := by
  have := R.lay.each (car x) (List.mem_append_right _ (List.mem_append_left _ (List.mem_map_of_mem hx)))
  exact this.2
theorem ord2 (R : Rep us base kind b cells blks c F X) : Ord c us blks := ⟨R.ord, fun x hx => R.lay.each x (List.mem_append_right _ (List.mem_append_right _ hx))⟩
theorem few (R : Rep us base kind b cells blks c F X) : 4 * (cells.length : Int) + 4 * blks.length ≤ us - c := by
  have := R.lay.len4
  rw [List.length_append, List.length_append, List.length_map] at this
  exact (Z.q (.im (.le (.m 4 (.c (.a (.v 0) (.a (.v 1) (.v 2))))) (.s (.v 0) (.v 1))) (.le (.a (.m 4 (.c (.v 1))) (.m 4 (.c (.v 2)))) (.s (.v 0) (.v 1)))) [_,_] [_,_,_]) this
theorem nonneg (R : Rep us base kind b cells blks c F X) (hb : 0 ≤ base ∧ base ≤ 32) : 8 ≤ c := by have := R.low; have := eY (kind := kind) hb; exact (Z.q (.im (.le (.k 0) (.v 0)) (.im (.le (.a (.v 1) (.m 2 (.a (.c (.v 0)) (.c (.v 1))))) (.v 2)) (.im (.le (.a (.v 0) (.k 8)) (.v 1)) (.le (.k 8) (.v 2))))) [_,_,_] [_,_]) hb.1 (by assumption) this.1
theorem space (R : Rep us base kind b cells blks c F []) : c - fst kind base - 2 * cells.length + F + tot blks = us - fst kind base - cost cells := by
  have a := R.lay.sum
  rw [List.nil_append, pH] at a
  rw [jI]; exact (Z.q (.im (.eq (.a (.a (.v 0) (.v 1)) (.v 2)) (.s (.v 3) (.v 4))) (.eq (.a (.a (.s (.s (.v 4) (.v 5)) (.m 2 (.c (.v 0)))) (.v 2)) (.v 1)) (.s (.s (.v 3) (.v 5)) (.a (.m 2 (.c (.v 0))) (.v 0))))) [_,_,_,_,_,_] [_]) a
end Rep
theorem kH (N : Nd σ k d page us base b) (R : Rep us base kind b cells blks c F X) {i : Nat} {x : Cel} (hi : cells[i]? = some x) (h : Q (.int x.1) σ) : We (bU [.ref k, .int i] σ) Q := by
  have hx := R.area (List.mem_of_getElem? hi)
  have hl := (List.getElem?_eq_some_iff.mp hi).1
  have hk := R.kd; have hc := R.cnt; have hp := R.ptr i x hi; have lo := R.low; have := fv x.2
  subst hk
  exact pI N (by exact (Z.q (.im (.nlt (.v 0) (.v 1)) (.im (.eq (.v 0) (.c (.v 1))) (.an (.le (.k 0) (.c (.v 0))) (.lt (.c (.v 0)) (.v 0))))) [_] [_,_]) hl hc) (by exact (Z.q (.im (.le (.v 0) (.v 1)) (.im (.le (.a (.v 1) (.v 2)) (.v 3)) (.im (.eq (.v 4) (.c (.v 0))) (.im (.le (.k 4) (.v 2)) (.im (.le (.a (.v 5) (.m 2 (.a (.c (.v 0)) (.c (.v 1))))) (.v 0)) (.le (.a (.v 5) (.m 2 (.v 4))) (.v 3))))))) [_,_,_,_,_,_] [_,_]) hx.1 hx.2 hc this.1 lo) hp (by exact (Z.q (.im (.le (.v 0) (.v 1)) (.im (.eq (.v 2) (.c (.v 0))) (.im (.le (.a (.v 3) (.m 2 (.a (.c (.v 0)) (.c (.v 1))))) (.v 0)) (.le (.a (.v 3) (.m 2 (.v 2))) (.v 1))))) [_,_,_,_] [_,_]) hx.1 hc lo) (by exact (Z.q (.im (.le (.a (.v 0) (.v 1)) (.v 2)) (.im (.le (.k 4) (.v 1)) (.le (.a (.v 0) (.k 4)) (.v 2)))) [_,_,_] []) hx.2 this.1) h
theorem oQ (N : Nd σ k d page us base b) (R : Rep us base kind b cells blks c F X) {i : Nat} {x : Cel} (hi : cells[i]? = some x) (h : ∀ σ', Le σ σ' → Q (.bytes x.2) σ') : We (bV [.ref k, .int i] σ) Q := by
  have hm := List.mem_of_getElem? hi
  have hx := R.area hm
  have h8 := R.nonneg N.bnd
  obtain ⟨hat, hrd⟩ := R.cel x hm
  have := fv x.2; have hl := N.len; have hu := N.us
  refine ce ?_
  unfold dc
  fail "s"
  refine kH N R hi ?_
  fail "s"
  refine kZ N (R.kd ▸ R.isk) ?_
  rw [R.kd]
  fail "s"
  refine hrd σ d b x.1 N.dat hat (by exact (Z.q (.im (.le (.v 0) (.v 1)) (.im (.le (.k 8) (.v 0)) (.le (.k 0) (.v 1)))) [_,_] []) hx.1 h8) (by exact (Z.q (.im (.le (.a (.v 0) (.v 1)) (.v 2)) (.im (.le (.c (.v 0)) (.v 1)) (.im (.eq (.c (.v 1)) (.v 2)) (.le (.a (.v 0) (.c (.v 0))) (.c (.v 1)))))) [_,_,_] [_,_]) hx.2 this.2 hl) (by exact (Z.q (.im (.eq (.c (.v 0)) (.v 0)) (.im (.le (.v 0) (.k 128)) (.nle (.v 0) (.k 1000)))) [_] [_]) hl hu.2) _ fun σ' v le => ?_
  have N1 := N.le le
  fail "s"
  refine ix N1.dat (by exact (Z.q (.im (.eq (.c (.v 0)) (.v 0)) (.im (.le (.v 0) (.k 128)) (.nle (.v 0) (.k 100000)))) [_] [_]) hl hu.2) ?_
  rw [hat.cut (by exact (Z.q (.im (.le (.v 0) (.v 1)) (.im (.le (.k 8) (.v 0)) (.le (.k 0) (.v 1)))) [_,_] []) hx.1 h8) (by exact (Z.q (.im (.le (.a (.v 0) (.v 1)) (.v 2)) (.im (.le (.c (.v 0)) (.v 1)) (.im (.eq (.c (.v 1)) (.v 2)) (.le (.a (.v 0) (.c (.v 0))) (.c (.v 1)))))) [_,_,_] [_,_]) hx.2 this.2 hl)]
  fail "s"
  refine dw (aS _ _) (by exact (Z.q (.im (.le (.v 0) (.v 1)) (.im (.le (.a (.v 1) (.v 2)) (.v 3)) (.im (.le (.k 8) (.v 0)) (.im (.le (.c (.v 0)) (.v 2)) (.im (.le (.v 3) (.k 128)) (.nle (.v 0) (.k 100000))))))) [_,_,_,_] [_]) hx.1 hx.2 h8 this.2 hu.2) ?_
  fail "s"
  exact h _ (le.trans (Le.push _ _))
theorem nw (N : Nd σ k d page us base b) (R : Rep us base kind b cells blks c F X) (h : ∀ σ' m, Le σ σ' → σ.length ≤ m → σ'[m]? = some (.list (cells.map fun x => .bytes x.2)) → Q (.ref m) σ') : We (bq [.ref k] σ) Q := by
  have hf := R.few; have hu := N.us; have h8 := R.nonneg N.bnd
  obtain ⟨v, s1, e1, rfl, rfl⟩ := eR (Q := fun v s => v = .int (w16 b (base + 3)) ∧ s = σ) N ⟨rfl, rfl⟩
  have key := iI (chk := fun _ => True) (b := bN "i") (fe := eMeth 412 "raw" bV (eK (.ref k)) (eCons (eN "i") eNil)) (kA := s1.length) (fun i : Nat => MV.int i) (fun i => .bytes (cells.getD i (0, [])).2) (fun i => i < cells.length) (Le s1) (fun _ _ => trivial)
    (fun i l s done hi le hd => by
      have N1 := N.le le
      refine r5 ?_
      fail "s"
      refine oQ N1 R (List.getElem?_eq_getElem hi) fun s' le' => ⟨?_, le' _ _ hd, fun x => (le.trans le').set (Nat.le_refl _) x⟩
      simp [hi]
    ) (List.range cells.length) [] (fun _ => none) (s1 ++ [.list []]) (fun i => List.mem_range.mp) (by simp; exact (Z.q (.im (.le (.a (.m 4 (.c (.v 0))) (.m 4 (.c (.v 1)))) (.s (.v 0) (.v 1))) (.im (.le (.v 0) (.k 128)) (.im (.le (.k 8) (.v 1)) (.nle (.v 0) (.k 1000))))) [_,_] [_,_]) hf hu.2 h8) (Le.push _ _) (aS _ _)
  obtain ⟨σ', e2, le, e3⟩ := key
  · refine ⟨.ref s1.length, σ', ?_, h σ' _ le (Nat.le_refl _) ?_⟩
    · have c1 : rArgs [.int (w16 b (base + 3))] = some (0, (cells.length : Int), 1) := by
        rw [R.cnt]; exact if_pos (by exact (Z.q (.im (.le (.a (.m 4 (.c (.v 0))) (.m 4 (.c (.v 1)))) (.s (.v 0) (.v 1))) (.im (.le (.v 0) (.k 128)) (.im (.le (.k 8) (.v 1)) (.an (.le (.n (.k (2 ^ 40))) (.c (.v 0))) (.le (.c (.v 0)) (.k (2 ^ 40))))))) [_,_] [_,_]) hf hu.2 h8)
      have c2 : rItems 0 (Builtin.Range.rangeSize 0 cells.length 1) 1 = (List.range cells.length).map fun i : Nat => MV.int i := by
        have e : (Builtin.Range.rangeSize 0 cells.length 1).toNat = cells.length := by simp [Builtin.Range.rangeSize]; (first|lia|omega)
        unfold rItems
        rw [e]
        exact List.map_congr_left fun i _ => by rw [Int.zero_add, Int.mul_one]
      unfold bq fRaws
      simp only [N.ins, e1, c1, c2, e2, fget, and_self, if_true]
      simp
    · rw [e3, List.nil_append]
      congr 2
      refine List.ext_getElem (by simp) fun n h1 h2 => ?_
      simp at h1
      simp [h1]
end

theorem pb {xs : List MV} {i : Nat} (h : i ≤ xs.length) : lcut none (some (i : Int)) xs = xs.take i := by
  have : clipAt xs.length (i : Int) = i := by unfold clipAt; rw [if_neg (by exact (Z.q (.no (.lt (.c (.v 0)) (.k 0))) [] [_]))]; exact (Z.q (.im (.nle (.v 0) (.v 1)) (.im (.or (.an (.eq (.c (.v 2)) (.v 0)) (.le (.k 0) (.v 0))) (.an (.eq (.c (.v 2)) (.k 0)) (.le (.v 0) (.k 0)))) (.im (.or (.an (.eq (.v 0) (.k 0)) (.le (.v 1) (.k 0))) (.an (.eq (.v 0) (.v 1)) (.le (.k 0) (.v 1)))) (.im (.or (.an (.eq (.v 1) (.c (.v 0))) (.le (.c (.v 0)) (.c (.v 1)))) (.an (.eq (.v 1) (.c (.v 1))) (.le (.c (.v 1)) (.c (.v 0))))) (.neq (.v 2) (.v 0)))))) [_,_] [_,_,_]) h (Z.tn _) (Z.mxi _ _) (Z.mni _ _)
  simp [lcut, this]
theorem k6 {xs : List MV} {i : Nat} (h : i ≤ xs.length) : lcut (some (i : Int)) none xs = xs.drop i := by
  have : clipAt xs.length (i : Int) = i := by unfold clipAt; rw [if_neg (by exact (Z.q (.no (.lt (.c (.v 0)) (.k 0))) [] [_]))]; exact (Z.q (.im (.nle (.v 0) (.v 1)) (.im (.or (.an (.eq (.c (.v 2)) (.v 0)) (.le (.k 0) (.v 0))) (.an (.eq (.c (.v 2)) (.k 0)) (.le (.v 0) (.k 0)))) (.im (.or (.an (.eq (.v 0) (.k 0)) (.le (.v 1) (.k 0))) (.an (.eq (.v 0) (.v 1)) (.le (.k 0) (.v 1)))) (.im (.or (.an (.eq (.v 1) (.c (.v 0))) (.le (.c (.v 0)) (.c (.v 1)))) (.an (.eq (.v 1) (.c (.v 1))) (.le (.c (.v 1)) (.c (.v 0))))) (.neq (.v 2) (.v 0)))))) [_,_] [_,_,_]) h (Z.tn _) (Z.mxi _ _) (Z.mni _ _)
  simp only [lcut, Option.elim, this]
  exact List.take_of_length_le (by simp)
theorem jx {α : Type} {xs : List α} {i : Nat} {x : α} (h : xs[i]? = some x) : xs = xs.take i ++ x :: xs.drop (i + 1) ∧ ∀ y, xs.set i y = xs.take i ++ y :: xs.drop (i + 1) := by
  obtain ⟨hl, rfl⟩ := List.getElem?_eq_some_iff.mp h
  exact ⟨by rw [List.getElem_cons_drop hl, List.take_append_drop], fun y => List.set_eq_take_append_cons_drop.trans (if_pos hl)⟩
theorem Post2.out {b b' : List UInt8} {p c us : Int} {B : List Area} (h : Post2 b p B b') (ho : ∀ x ∈ B, c ≤ x.1) {j : Int} (h0 : 0 ≤ j) (h1 : j ≠ p) (h2 : j ≠ p + 1) (h3 : j < c) : rd b' j = rd b j :=
  h.same j h0 h1 h2 fun y hy => .inl (by have := ho y hy; exact (Z.q (.im (.lt (.v 0) (.v 1)) (.im (.le (.v 1) (.v 2)) (.lt (.v 0) (.v 2)))) [_,_,_] []) h3 this)
section
variable {Q : MV → Sto → Prop} {σ : Sto} {k d : Nat} {page us base kind c F : Int} {b : List UInt8} {cells : List Cel} {blks X : List Area}
theorem oR (N : Nd σ k d page us base b) (R : Rep us base kind b cells blks c F []) (h : ∀ σ', Le σ σ' → Q (.int (us - fst kind base - cost cells)) σ') : We (dZ [.ref k] σ) Q := by
  have h8 := R.nonneg N.bnd; have hf := R.few; have := N.us
  refine qi N R.chain (R.con.symm ▸ R.ord2) (by rw [R.con]; exact (Z.q (.im (.le (.k 8) (.v 0)) (.le (.k 1) (.v 0))) [_] []) h8) (by exact (Z.q (.im (.le (.k 8) (.v 0)) (.im (.le (.a (.m 4 (.c (.v 0))) (.m 4 (.c (.v 1)))) (.s (.v 1) (.v 0))) (.im (.le (.v 1) (.k 128)) (.nle (.v 1) (.k 90))))) [_,_] [_,_]) h8 hf this.2) fun σ' le => ?_
  rw [R.con, R.kd, R.cnt, R.frg, R.space]
  exact h σ' le
theorem Rep.relay (R : Rep us base kind b cells blks c F X) (hb : 0 ≤ base ∧ base ≤ 32) {b0 b' : List UInt8} {B Y : List Area} {G c' : Int} (hcc : c ≤ c') (h0 : ∀ j, 0 ≤ j → j ≠ base + 7 → j ≠ base + 5 → j ≠ base + 6 → rd b0 j = rd b j) (hC : w16 b0 (base + 5) = c') (hG : rd b0 (base + 7) = G) (hp : Post2 b0 (base + 1) B b')
    (ho : B.Pairwise fun x y => x.1 + x.2 ≤ y.1) (hl : Ly c' us G (Y ++ (cells.map car ++ B))) (lo : fst kind base + 2 * (cells.length + Y.length) ≤ c') : Rep us base kind b' cells B c' G Y := by
  have hB : ∀ x ∈ B, c' ≤ x.1 := fun x hx => (hl.each x (List.mem_append_right _ (List.mem_append_right _ hx))).2.1
  have f1 := eY (kind := kind) hb
  have o0 : ∀ j, 0 ≤ j → j ≠ base + 1 → j ≠ base + 2 → j < c' → rd b' j = rd b0 j := fun j j0 j1 j2 jc => hp.out hB (us := us) j0 j1 (by exact (Z.q (.im (.no (.eq (.v 0) (.a (.v 1) (.k 2)))) (.no (.eq (.v 0) (.a (.a (.v 1) (.k 1)) (.k 1))))) [_,_] []) j2) jc
  have o : ∀ j, 0 ≤ j → (j < base + 1 ∨ j = base + 3 ∨ j = base + 4 ∨ base + 8 ≤ j) → j < c' → rd b' j = rd b j := fun j j0 jj jc => (o0 j j0 (by exact (Z.q (.im (.or (.lt (.v 0) (.a (.v 1) (.k 1))) (.or (.eq (.v 0) (.a (.v 1) (.k 3))) (.or (.eq (.v 0) (.a (.v 1) (.k 4))) (.le (.a (.v 1) (.k 8)) (.v 0))))) (.no (.eq (.v 0) (.a (.v 1) (.k 1))))) [_,_] []) jj) (by exact (Z.q (.im (.or (.lt (.v 0) (.a (.v 1) (.k 1))) (.or (.eq (.v 0) (.a (.v 1) (.k 3))) (.or (.eq (.v 0) (.a (.v 1) (.k 4))) (.le (.a (.v 1) (.k 8)) (.v 0))))) (.no (.eq (.v 0) (.a (.v 1) (.k 2))))) [_,_] []) jj) jc).trans (h0 j j0 (by exact (Z.q (.im (.or (.lt (.v 0) (.a (.v 1) (.k 1))) (.or (.eq (.v 0) (.a (.v 1) (.k 3))) (.or (.eq (.v 0) (.a (.v 1) (.k 4))) (.le (.a (.v 1) (.k 8)) (.v 0))))) (.no (.eq (.v 0) (.a (.v 1) (.k 7))))) [_,_] []) jj) (by exact (Z.q (.im (.or (.lt (.v 0) (.a (.v 1) (.k 1))) (.or (.eq (.v 0) (.a (.v 1) (.k 3))) (.or (.eq (.v 0) (.a (.v 1) (.k 4))) (.le (.a (.v 1) (.k 8)) (.v 0))))) (.no (.eq (.v 0) (.a (.v 1) (.k 5))))) [_,_] []) jj) (by exact (Z.q (.im (.or (.lt (.v 0) (.a (.v 1) (.k 1))) (.or (.eq (.v 0) (.a (.v 1) (.k 3))) (.or (.eq (.v 0) (.a (.v 1) (.k 4))) (.le (.a (.v 1) (.k 8)) (.v 0))))) (.no (.eq (.v 0) (.a (.v 1) (.k 6))))) [_,_] []) jj))
  have lo2 : fst kind base ≤ c' := by exact (Z.q (.im (.le (.a (.v 0) (.m 2 (.a (.c (.v 0)) (.c (.v 1))))) (.v 1)) (.le (.v 0) (.v 1))) [_,_] [_,_]) lo
  have lo3 := R.low
  refine ⟨(o _ (by exact (Z.q (.im (.le (.k 0) (.v 0)) (.le (.k 0) (.v 0))) [_] []) hb.1) (by exact (Z.q (.or (.lt (.v 0) (.a (.v 0) (.k 1))) (.or (.eq (.v 0) (.a (.v 0) (.k 3))) (.or (.eq (.v 0) (.a (.v 0) (.k 4))) (.le (.a (.v 0) (.k 8)) (.v 0))))) [_] [])) (by exact (Z.q (.im (.le (.a (.v 0) (.k 8)) (.v 1)) (.im (.le (.v 1) (.v 2)) (.lt (.v 0) (.v 2)))) [_,_,_] []) f1.1 lo2)).trans R.kd, R.isk, (aY (o _ (by exact (Z.q (.im (.le (.k 0) (.v 0)) (.le (.k 0) (.a (.v 0) (.k 3)))) [_] []) hb.1) (by exact (Z.q (.or (.lt (.a (.v 0) (.k 3)) (.a (.v 0) (.k 1))) (.or (.eq (.a (.v 0) (.k 3)) (.a (.v 0) (.k 3))) (.or (.eq (.a (.v 0) (.k 3)) (.a (.v 0) (.k 4))) (.le (.a (.v 0) (.k 8)) (.a (.v 0) (.k 3)))))) [_] [])) (by exact (Z.q (.im (.le (.a (.v 0) (.k 8)) (.v 1)) (.im (.le (.v 1) (.v 2)) (.lt (.a (.v 0) (.k 3)) (.v 2)))) [_,_,_] []) f1.1 lo2)) (o _ (by exact (Z.q (.im (.le (.k 0) (.v 0)) (.le (.k 0) (.a (.a (.v 0) (.k 3)) (.k 1)))) [_] []) hb.1) (by exact (Z.q (.or (.lt (.a (.a (.v 0) (.k 3)) (.k 1)) (.a (.v 0) (.k 1))) (.or (.eq (.a (.a (.v 0) (.k 3)) (.k 1)) (.a (.v 0) (.k 3))) (.or (.eq (.a (.a (.v 0) (.k 3)) (.k 1)) (.a (.v 0) (.k 4))) (.le (.a (.v 0) (.k 8)) (.a (.a (.v 0) (.k 3)) (.k 1)))))) [_] [])) (by exact (Z.q (.im (.le (.a (.v 0) (.k 8)) (.v 1)) (.im (.le (.v 1) (.v 2)) (.lt (.a (.a (.v 0) (.k 3)) (.k 1)) (.v 2)))) [_,_,_] []) f1.1 lo2))).trans R.cnt, (aY (o0 _ (by exact (Z.q (.im (.le (.k 0) (.v 0)) (.le (.k 0) (.a (.v 0) (.k 5)))) [_] []) hb.1) (by exact (Z.q (.no (.eq (.a (.v 0) (.k 5)) (.a (.v 0) (.k 1)))) [_] [])) (by exact (Z.q (.no (.eq (.a (.v 0) (.k 5)) (.a (.v 0) (.k 2)))) [_] [])) (by exact (Z.q (.im (.le (.a (.v 0) (.k 8)) (.v 1)) (.im (.le (.v 1) (.v 2)) (.lt (.a (.v 0) (.k 5)) (.v 2)))) [_,_,_] []) f1.1 lo2)) (o0 _ (by exact (Z.q (.im (.le (.k 0) (.v 0)) (.le (.k 0) (.a (.a (.v 0) (.k 5)) (.k 1)))) [_] []) hb.1) (by exact (Z.q (.no (.eq (.a (.a (.v 0) (.k 5)) (.k 1)) (.a (.v 0) (.k 1)))) [_] [])) (by exact (Z.q (.no (.eq (.a (.a (.v 0) (.k 5)) (.k 1)) (.a (.v 0) (.k 2)))) [_] [])) (by exact (Z.q (.im (.le (.a (.v 0) (.k 8)) (.v 1)) (.im (.le (.v 1) (.v 2)) (.lt (.a (.a (.v 0) (.k 5)) (.k 1)) (.v 2)))) [_,_,_] []) f1.1 lo2))).trans hC,
    (o0 _ (by exact (Z.q (.im (.le (.k 0) (.v 0)) (.le (.k 0) (.a (.v 0) (.k 7)))) [_] []) hb.1) (by exact (Z.q (.no (.eq (.a (.v 0) (.k 7)) (.a (.v 0) (.k 1)))) [_] [])) (by exact (Z.q (.no (.eq (.a (.v 0) (.k 7)) (.a (.v 0) (.k 2)))) [_] [])) (by exact (Z.q (.im (.le (.a (.v 0) (.k 8)) (.v 1)) (.im (.le (.v 1) (.v 2)) (.lt (.a (.v 0) (.k 7)) (.v 2)))) [_,_,_] []) f1.1 lo2)).trans hG, hp.chain, ho, fun i x hi => ?_, fun x hx => ⟨(R.cel x hx).1.same fun j j0 j1 => ?_, (R.cel x hx).2⟩, hl, lo, fun hk => ?_, fun j j0 j1 => (o j j0 (by exact (Z.q (.im (.lt (.v 0) (.v 1)) (.or (.lt (.v 0) (.a (.v 1) (.k 1))) (.or (.eq (.v 0) (.a (.v 1) (.k 3))) (.or (.eq (.v 0) (.a (.v 1) (.k 4))) (.le (.a (.v 1) (.k 8)) (.v 0)))))) [_,_] []) j1) (by exact (Z.q (.im (.le (.v 0) (.v 1)) (.im (.le (.a (.v 2) (.k 8)) (.v 3)) (.im (.le (.a (.v 3) (.m 2 (.a (.c (.v 0)) (.c (.v 1))))) (.v 0)) (.im (.lt (.v 4) (.v 2)) (.lt (.v 4) (.v 1)))))) [_,_,_,_,_] [_,_]) hcc f1.1 lo3 j1)).trans (R.head j j0 j1)⟩
  · have := (List.getElem?_eq_some_iff.mp hi).1
    exact (aY (o _ (by exact (Z.q (.im (.le (.k 0) (.v 0)) (.im (.le (.a (.v 0) (.k 8)) (.v 1)) (.le (.k 0) (.a (.v 1) (.m 2 (.c (.v 0))))))) [_,_] [_]) hb.1 f1.1) (by exact (Z.q (.im (.le (.a (.v 0) (.k 8)) (.v 1)) (.or (.lt (.a (.v 1) (.m 2 (.c (.v 0)))) (.a (.v 0) (.k 1))) (.or (.eq (.a (.v 1) (.m 2 (.c (.v 0)))) (.a (.v 0) (.k 3))) (.or (.eq (.a (.v 1) (.m 2 (.c (.v 0)))) (.a (.v 0) (.k 4))) (.le (.a (.v 0) (.k 8)) (.a (.v 1) (.m 2 (.c (.v 0))))))))) [_,_] [_]) f1.1) (by exact (Z.q (.im (.le (.a (.v 0) (.m 2 (.a (.c (.v 0)) (.c (.v 1))))) (.v 1)) (.im (.nlt (.v 2) (.v 0)) (.lt (.a (.v 0) (.m 2 (.c (.v 2)))) (.v 1)))) [_,_] [_,_,_]) lo this)) (o _ (by exact (Z.q (.im (.le (.k 0) (.v 0)) (.im (.le (.a (.v 0) (.k 8)) (.v 1)) (.le (.k 0) (.a (.a (.v 1) (.m 2 (.c (.v 0)))) (.k 1))))) [_,_] [_]) hb.1 f1.1) (by exact (Z.q (.im (.le (.a (.v 0) (.k 8)) (.v 1)) (.or (.lt (.a (.a (.v 1) (.m 2 (.c (.v 0)))) (.k 1)) (.a (.v 0) (.k 1))) (.or (.eq (.a (.a (.v 1) (.m 2 (.c (.v 0)))) (.k 1)) (.a (.v 0) (.k 3))) (.or (.eq (.a (.a (.v 1) (.m 2 (.c (.v 0)))) (.k 1)) (.a (.v 0) (.k 4))) (.le (.a (.v 0) (.k 8)) (.a (.a (.v 1) (.m 2 (.c (.v 0)))) (.k 1))))))) [_,_] [_]) f1.1) (by exact (Z.q (.im (.le (.a (.v 0) (.m 2 (.a (.c (.v 0)) (.c (.v 1))))) (.v 1)) (.im (.nlt (.v 2) (.v 0)) (.lt (.a (.a (.v 0) (.m 2 (.c (.v 2)))) (.k 1)) (.v 1)))) [_,_] [_,_,_]) lo this))).trans (R.ptr i x hi)
  · have hx1 := R.area hx
    have hz := fv x.2
    have a := (List.pairwise_append.mp (List.pairwise_append.mp hl.apart).2.1).2.2 (car x) (List.mem_map_of_mem hx)
    rw [hp.same j (by exact (Z.q (.im (.le (.k 0) (.v 0)) (.im (.le (.a (.v 0) (.k 8)) (.v 1)) (.im (.le (.a (.v 1) (.m 2 (.a (.c (.v 0)) (.c (.v 1))))) (.v 2)) (.im (.le (.v 3) (.v 4)) (.im (.le (.v 2) (.v 3)) (.le (.k 0) (.v 4))))))) [_,_,_,_,_] [_,_]) hb.1 f1.1 lo3 j0 hx1.1) (by exact (Z.q (.im (.le (.a (.v 0) (.k 8)) (.v 1)) (.im (.le (.a (.v 1) (.m 2 (.a (.c (.v 0)) (.c (.v 1))))) (.v 2)) (.im (.le (.v 3) (.v 4)) (.im (.le (.v 2) (.v 3)) (.no (.eq (.v 4) (.a (.v 0) (.k 1)))))))) [_,_,_,_,_] [_,_]) f1.1 lo3 j0 hx1.1) (by exact (Z.q (.im (.le (.a (.v 0) (.k 8)) (.v 1)) (.im (.le (.a (.v 1) (.m 2 (.a (.c (.v 0)) (.c (.v 1))))) (.v 2)) (.im (.le (.v 3) (.v 4)) (.im (.le (.v 2) (.v 3)) (.no (.eq (.v 4) (.a (.a (.v 0) (.k 1)) (.k 1)))))))) [_,_,_,_,_] [_,_]) f1.1 lo3 j0 hx1.1) fun y hy => ?_, h0 j (by exact (Z.q (.im (.le (.k 0) (.v 0)) (.im (.le (.a (.v 0) (.k 8)) (.v 1)) (.im (.le (.a (.v 1) (.m 2 (.a (.c (.v 0)) (.c (.v 1))))) (.v 2)) (.im (.le (.v 3) (.v 4)) (.im (.le (.v 2) (.v 3)) (.le (.k 0) (.v 4))))))) [_,_,_,_,_] [_,_]) hb.1 f1.1 lo3 j0 hx1.1) (by exact (Z.q (.im (.le (.a (.v 0) (.k 8)) (.v 1)) (.im (.le (.a (.v 1) (.m 2 (.a (.c (.v 0)) (.c (.v 1))))) (.v 2)) (.im (.le (.v 3) (.v 4)) (.im (.le (.v 2) (.v 3)) (.no (.eq (.v 4) (.a (.v 0) (.k 7)))))))) [_,_,_,_,_] [_,_]) f1.1 lo3 j0 hx1.1) (by exact (Z.q (.im (.le (.a (.v 0) (.k 8)) (.v 1)) (.im (.le (.a (.v 1) (.m 2 (.a (.c (.v 0)) (.c (.v 1))))) (.v 2)) (.im (.le (.v 3) (.v 4)) (.im (.le (.v 2) (.v 3)) (.no (.eq (.v 4) (.a (.v 0) (.k 5)))))))) [_,_,_,_,_] [_,_]) f1.1 lo3 j0 hx1.1) (by exact (Z.q (.im (.le (.a (.v 0) (.k 8)) (.v 1)) (.im (.le (.a (.v 1) (.m 2 (.a (.c (.v 0)) (.c (.v 1))))) (.v 2)) (.im (.le (.v 3) (.v 4)) (.im (.le (.v 2) (.v 3)) (.no (.eq (.v 4) (.a (.v 0) (.k 6)))))))) [_,_,_,_,_] [_,_]) f1.1 lo3 j0 hx1.1)]
    have a := a y hy
    have hy4 := (hl.each y (List.mem_append_right _ (List.mem_append_right _ hy))).1
    unfold Ap2 car at a
    dsimp only at a
    exact (Z.q (.im (.le (.v 0) (.v 1)) (.im (.lt (.v 1) (.a (.v 0) (.c (.v 0)))) (.im (.le (.c (.v 0)) (.v 2)) (.im (.or (.le (.a (.v 0) (.v 2)) (.v 3)) (.le (.a (.v 3) (.v 4)) (.v 0))) (.im (.le (.k 4) (.v 4)) (.or (.lt (.v 1) (.v 3)) (.le (.a (.v 3) (.k 4)) (.v 1)))))))) [_,_,_,_,_] [_]) j0 j1 hz.2 a hy4
  · rw [← R.right hk]
    have ik := R.isk
    unfold IsKind at ik
    unfold fst at lo2 f1
    rw [if_neg (by exact (Z.q (.im (.lt (.v 0) (.k 10)) (.im (.or (.eq (.v 0) (.k 2)) (.or (.eq (.v 0) (.k 5)) (.or (.eq (.v 0) (.k 10)) (.eq (.v 0) (.k 13))))) (.no (.lt (.k 5) (.v 0))))) [_] []) hk ik)] at lo2 f1
    unfold w32
    rw [aY (o _ (by exact (Z.q (.im (.le (.k 0) (.v 0)) (.le (.k 0) (.a (.v 0) (.k 8)))) [_] []) hb.1) (by exact (Z.q (.or (.lt (.a (.v 0) (.k 8)) (.a (.v 0) (.k 1))) (.or (.eq (.a (.v 0) (.k 8)) (.a (.v 0) (.k 3))) (.or (.eq (.a (.v 0) (.k 8)) (.a (.v 0) (.k 4))) (.le (.a (.v 0) (.k 8)) (.a (.v 0) (.k 8)))))) [_] [])) (by exact (Z.q (.im (.le (.a (.v 0) (.k 12)) (.v 1)) (.lt (.a (.v 0) (.k 8)) (.v 1))) [_,_] []) lo2)) (o _ (by exact (Z.q (.im (.le (.k 0) (.v 0)) (.le (.k 0) (.a (.a (.v 0) (.k 8)) (.k 1)))) [_] []) hb.1) (by exact (Z.q (.or (.lt (.a (.a (.v 0) (.k 8)) (.k 1)) (.a (.v 0) (.k 1))) (.or (.eq (.a (.a (.v 0) (.k 8)) (.k 1)) (.a (.v 0) (.k 3))) (.or (.eq (.a (.a (.v 0) (.k 8)) (.k 1)) (.a (.v 0) (.k 4))) (.le (.a (.v 0) (.k 8)) (.a (.a (.v 0) (.k 8)) (.k 1)))))) [_] [])) (by exact (Z.q (.im (.le (.a (.v 0) (.k 12)) (.v 1)) (.lt (.a (.a (.v 0) (.k 8)) (.k 1)) (.v 1))) [_,_] []) lo2)), aY (o _ (by exact (Z.q (.im (.le (.k 0) (.v 0)) (.le (.k 0) (.a (.a (.v 0) (.k 8)) (.k 2)))) [_] []) hb.1) (by exact (Z.q (.or (.lt (.a (.a (.v 0) (.k 8)) (.k 2)) (.a (.v 0) (.k 1))) (.or (.eq (.a (.a (.v 0) (.k 8)) (.k 2)) (.a (.v 0) (.k 3))) (.or (.eq (.a (.a (.v 0) (.k 8)) (.k 2)) (.a (.v 0) (.k 4))) (.le (.a (.v 0) (.k 8)) (.a (.a (.v 0) (.k 8)) (.k 2)))))) [_] [])) (by exact (Z.q (.im (.le (.a (.v 0) (.k 12)) (.v 1)) (.lt (.a (.a (.v 0) (.k 8)) (.k 2)) (.v 1))) [_,_] []) lo2)) (o _ (by exact (Z.q (.im (.le (.k 0) (.v 0)) (.le (.k 0) (.a (.a (.a (.v 0) (.k 8)) (.k 2)) (.k 1)))) [_] []) hb.1) (by exact (Z.q (.or (.lt (.a (.a (.a (.v 0) (.k 8)) (.k 2)) (.k 1)) (.a (.v 0) (.k 1))) (.or (.eq (.a (.a (.a (.v 0) (.k 8)) (.k 2)) (.k 1)) (.a (.v 0) (.k 3))) (.or (.eq (.a (.a (.a (.v 0) (.k 8)) (.k 2)) (.k 1)) (.a (.v 0) (.k 4))) (.le (.a (.v 0) (.k 8)) (.a (.a (.a (.v 0) (.k 8)) (.k 2)) (.k 1)))))) [_] [])) (by exact (Z.q (.im (.le (.a (.v 0) (.k 12)) (.v 1)) (.lt (.a (.a (.a (.v 0) (.k 8)) (.k 2)) (.k 1)) (.v 1))) [_,_] []) lo2))]
theorem kl (N : Nd σ k d page us base b) (R : Rep us base kind b cells blks c F []) {need : Int} (h4 : 4 ≤ need) (lo : fst kind base + 2 * (cells.length + 1) ≤ c)
    (h0 : ∀ σ', Le σ σ' → Q (.int 0) σ')
    (h1 : ∀ σ' b' B G at_, LeX d σ σ' → Nd σ' k d page us base b' → Rep us base kind b' cells B c G [(at_, need)] → Q (.int at_) σ') : We (d0 [.ref k, .int need] σ) Q := by
  have h8 := R.nonneg N.bnd; have hf := R.few; have hu := N.us; have hb := N.bnd; have hl := N.len
  refine ce ?_
  unfold cX
  fail "s"
  refine hU N R.chain (R.con.symm ▸ R.ord2) (by rw [R.con]; exact (Z.q (.im (.le (.k 8) (.v 0)) (.le (.k 1) (.v 0))) [_] []) h8) (by exact (Z.q (.im (.le (.k 8) (.v 0)) (.im (.le (.a (.m 4 (.c (.v 0))) (.m 4 (.c (.v 1)))) (.s (.v 1) (.v 0))) (.im (.le (.v 1) (.k 128)) (.nle (.v 1) (.k 90))))) [_,_] [_,_]) h8 hf hu.2) fun σ' m le hm hB => ?_
  have N1 := N.le le
  have hn : (blks.map bv).length ≤ 100000 := by rw [List.length_map]; exact (Z.q (.im (.le (.k 8) (.v 0)) (.im (.le (.a (.m 4 (.c (.v 0))) (.m 4 (.c (.v 1)))) (.s (.v 1) (.v 0))) (.im (.le (.v 1) (.k 128)) (.nle (.v 1) (.k 100000))))) [_,_] [_,_]) h8 hf hu.2
  fail "s"
  refine gN hB hn ?_
  rw [List.length_map]
  fail "s"
  refine loopR1 blks.length rfl (by exact (Z.q (.im (.le (.k 8) (.v 0)) (.im (.le (.a (.m 4 (.c (.v 0))) (.m 4 (.c (.v 1)))) (.s (.v 1) (.v 0))) (.im (.le (.v 1) (.k 128)) (.nle (.v 1) (.k 1000))))) [_,_] [_,_]) h8 hf hu.2) (fun i l s => s = σ' ∧ l "self" = some (.ref k) ∧ l "need" = some (.int need) ∧ l "blocks" = some (.ref m)) ⟨rfl, by fail "l", by fail "l", by fail "l"⟩ ?_ ?_
  · rintro i l s hi ⟨rfl, e1, e2, e3⟩
    obtain ⟨⟨a, z⟩, hx⟩ : ∃ x, blks[i]? = some x := ⟨_, List.getElem?_eq_getElem hi⟩
    have hxv : (blks.map bv)[i]? = some (.tup [.int a, .int z]) := by rw [List.getElem?_map, hx]; rfl
    obtain ⟨eB, eS⟩ := jx hx
    have hO := R.ord2
    have hL : Ly c us F ((a, z) :: (cells.map car ++ (blks.take i ++ blks.drop (i + 1)))) := R.lay.perm (by
      rw [List.nil_append]
      conv => lhs; rw [eB]
      rw [← List.append_assoc, ← List.append_assoc]
      exact List.perm_middle)
    have hz := hL.each _ (List.mem_cons_self ..)
    dsimp only at hz
    have pw := R.ord
    rw [eB] at pw
    obtain ⟨w1, w2, w3⟩ := List.pairwise_append.mp pw
    obtain ⟨w4, w5⟩ := List.pairwise_cons.mp w2
    fail "s"
    refine bl hB (by exact (Z.q (.im (.le (.k 8) (.v 0)) (.im (.le (.a (.m 4 (.c (.v 0))) (.m 4 (.c (.v 1)))) (.s (.v 1) (.v 0))) (.im (.le (.v 1) (.k 128)) (.im (.nlt (.v 2) (.v 1)) (.an (.le (.k 0) (.c (.v 2))) (.lt (.c (.v 2)) (.k (2 ^ 60)))))))) [_,_] [_,_,_]) h8 hf hu.2 hi) (by rw [Int.toNat_natCast]; exact hxv) ?_
    fail "s"
    refine br (fun c1 => ?_) fun c1 => ?_
    · fail "s"
      refine kc hB ⟨by exact (Z.q (.le (.k 0) (.c (.v 0))) [] [_]), by rw [List.length_map]; exact (Z.q (.im (.nlt (.v 0) (.v 1)) (.lt (.c (.v 0)) (.c (.v 1)))) [] [_,_]) hi, hn⟩ ?_
      rw [Int.toNat_natCast]
      have e : (blks.map bv).set i (.tup [.int a, .int (z - need)]) = (blks.take i ++ (a, z - need) :: blks.drop (i + 1)).map bv := by rw [← eS, List.map_set]
      rw [e]
      have L1 := N.le (le.set hm (.list ((blks.take i ++ (a, z - need) :: blks.drop (i + 1)).map bv)))
      have pw' : (blks.take i ++ (a, z - need) :: blks.drop (i + 1)).Pairwise fun x y => x.1 + x.2 ≤ y.1 :=
        List.pairwise_append.mpr ⟨w1, List.pairwise_cons.mpr ⟨fun y hy => by have := w4 y hy; dsimp only at *; exact (Z.q (.im (.le (.k 4) (.v 0)) (.im (.le (.a (.v 1) (.v 2)) (.v 3)) (.le (.a (.v 1) (.s (.v 2) (.v 0))) (.v 3)))) [_,_,_,_] []) h4 this, w5⟩, fun x hx y hy => by
          rcases List.mem_cons.mp hy with rfl | hy
          · exact w3 x hx (a, z) (List.mem_cons_self ..)
          · exact w3 x hx y (List.mem_cons_of_mem _ hy)⟩
      have L2 := (hL.split (l := z - need) (n := need) c1 h4 (by exact (Z.q (.eq (.a (.s (.v 0) (.v 1)) (.v 1)) (.v 0)) [_,_] []))).perm ((List.Perm.swap ..).trans (.cons _ (by
        rw [← List.append_assoc, ← List.append_assoc]
        exact List.perm_middle.symm)) : List.Perm _ ((a + (z - need), need) :: (cells.map car ++ (blks.take i ++ (a, z - need) :: blks.drop (i + 1)))))
      fail "s"
      refine fK L1 (aT _ hB) ⟨pw', fun x hx => ?_⟩ fun s2 b2 lx N2 post => ?_
      · have := L2.each x (List.mem_cons_of_mem _ (List.mem_append_right _ hx))
        have := eY (kind := kind) hb
        exact (Z.q (.im (.le (.a (.v 0) (.m 2 (.a (.c (.v 0)) (.k 1)))) (.v 1)) (.im (.an (.le (.k 4) (.v 2)) (.an (.le (.v 1) (.v 3)) (.le (.a (.v 3) (.v 2)) (.v 4)))) (.im (.le (.a (.v 5) (.k 8)) (.v 0)) (.an (.le (.k 4) (.v 2)) (.an (.le (.a (.v 5) (.k 8)) (.v 3)) (.le (.a (.v 3) (.v 2)) (.v 4))))))) [_,_,_,_,_,_] [_]) lo (by assumption) this.1
      fail "s"
      exact h1 _ b2 _ F _ (((le.set hm _).toX d).trans lx) N2 (R.relay hb (Int.le_refl _) (fun _ _ _ _ _ => rfl) R.con R.frg post pw' L2 lo)
    · fail "s"
      refine br (fun c2 => ?_) fun c2 => ?_
      · fail "s"
        refine dX N1 ?_
        rw [R.frg]
        fail "s"
        refine br (fun c3 => ?_) fun c3 => ?_
        · fail "s"
          exact h0 _ le
        · fail "s"
          refine dX N1 ?_
          rw [R.frg]
          have hF := R.lay.nn
          fail "s"
          refine lA N1.dat (by exact (Z.q (.im (.le (.k 64) (.v 0)) (.im (.le (.v 0) (.k 128)) (.im (.le (.k 0) (.v 1)) (.im (.le (.v 1) (.k 32)) (.im (.eq (.c (.v 0)) (.v 0)) (.im (.le (.k 0) (.s (.v 2) (.v 3))) (.im (.no (.lt (.k 57) (.a (.v 4) (.s (.v 2) (.v 3))))) (.im (.le (.k 0) (.v 4)) (.an (.le (.k 0) (.a (.v 1) (.k 7))) (.an (.lt (.a (.v 1) (.k 7)) (.c (.v 0))) (.an (.nle (.v 0) (.k 100000)) (.an (.le (.k 0) (.a (.v 4) (.s (.v 2) (.v 3)))) (.lt (.a (.v 4) (.s (.v 2) (.v 3))) (.k 256)))))))))))))) [_,_,_,_,_] [_]) hu.1 hu.2 hb.1 hb.2 hl c2 c3 hF) ?_
          have hset : ∀ j, 0 ≤ j → rd (b.set (base + 7).toNat (F + (z - need)).toNat.toUInt8) j = if j = base + 7 then F + (z - need) else rd b j := fun j j0 => jK (by exact (Z.q (.im (.le (.k 0) (.v 0)) (.le (.k 0) (.a (.v 0) (.k 7)))) [_] []) hb.1) (by exact (Z.q (.im (.le (.k 64) (.v 0)) (.im (.le (.v 1) (.k 32)) (.im (.eq (.c (.v 0)) (.v 0)) (.lt (.a (.v 1) (.k 7)) (.c (.v 0)))))) [_,_] [_]) hu.1 hb.2 hl) j0 (by exact (Z.q (.im (.le (.k 0) (.s (.v 0) (.v 1))) (.im (.no (.lt (.k 57) (.a (.v 2) (.s (.v 0) (.v 1))))) (.im (.le (.k 0) (.v 2)) (.an (.le (.k 0) (.a (.v 2) (.s (.v 0) (.v 1)))) (.lt (.a (.v 2) (.s (.v 0) (.v 1))) (.k 256)))))) [_,_,_] []) c2 c3 hF)
          have hlen : (b.set (base + 7).toNat (F + (z - need)).toNat.toUInt8).length = b.length := List.length_set ..
          generalize b.set (base + 7).toNat (F + (z - need)).toNat.toUInt8 = b0 at hset hlen ⊢
          have N3 := N1.leX (LeX.set d s (.ba b0)) (aT _ N1.dat) hlen
          have hB3 := LeX.set d s (.ba b0) m _ (gA hB N1.dat) hB
          fail "s"
          refine kN hB3 hn ?_
          rw [pb (by rw [List.length_map]; exact (Z.q (.im (.nlt (.v 0) (.v 1)) (.nle (.v 0) (.v 1))) [] [_,_]) hi)]
          have hB4 := Le.push (s.set d (.ba b0)) (.list ((blks.map bv).take i)) _ _ hB3
          fail "s"
          refine kN hB4 hn ?_
          rw [show ((i : Int) + 1) = ((i + 1 : Nat) : Int) from by exact (Z.q (.eq (.a (.c (.v 0)) (.k 1)) (.c (.a (.v 0) (.k 1)))) [] [_]), k6 (by rw [List.length_map]; exact (Z.q (.im (.nlt (.v 0) (.v 1)) (.nle (.a (.v 0) (.k 1)) (.v 1))) [] [_,_]) hi)]
          refine kS (Le.push _ _ _ _ (aS _ _)) (aS _ _) (by simp; exact (Z.q (.im (.le (.k 8) (.v 0)) (.im (.le (.a (.m 4 (.c (.v 0))) (.m 4 (.c (.v 1)))) (.s (.v 1) (.v 0))) (.im (.le (.v 1) (.k 128)) (.im (.or (.an (.neq (.v 2) (.v 3)) (.nle (.v 3) (.v 1))) (.an (.neq (.v 2) (.v 1)) (.nle (.v 1) (.v 3)))) (.im (.or (.an (.neq (.a (.v 4) (.a (.v 3) (.k 1))) (.v 1)) (.nle (.a (.v 3) (.k 1)) (.v 1))) (.an (.neq (.v 4) (.k 0)) (.nle (.v 1) (.a (.v 3) (.k 1))))) (.nle (.a (.v 2) (.v 4)) (.k 100000))))))) [_,_] [_,_,_,_,_]) h8 hf hu.2 (Z.mn _ _) (Z.sb _ _)) ?_
          rw [← List.map_take, ← List.map_drop, ← List.map_append]
          have LL := ((Le.push (s.set d (.ba b0)) (.list ((blks.take i).map bv))).trans (Le.push _ (.list ((blks.drop (i + 1)).map bv)))).trans (Le.push _ (.list ((blks.take i ++ blks.drop (i + 1)).map bv)))
          have N4 := N3.le LL
          have pw' : (blks.take i ++ blks.drop (i + 1)).Pairwise fun x y => x.1 + x.2 ≤ y.1 := List.pairwise_append.mpr ⟨w1, w5, fun x hx y hy => w3 x hx y (List.mem_cons_of_mem _ hy)⟩
          have L2 := hL.shrink (n := need) h4 (by exact (Z.q (.im (.le (.k 0) (.s (.v 0) (.v 1))) (.le (.v 1) (.v 0))) [_,_] []) c2)
          fail "s"
          refine fK N4 (aS _ _) ⟨pw', fun x hx => ?_⟩ fun s2 b2 lx N5 post => ?_
          · have := L2.each x (List.mem_cons_of_mem _ (List.mem_append_right _ hx))
            have := eY (kind := kind) hb
            exact (Z.q (.im (.le (.a (.v 0) (.m 2 (.a (.c (.v 0)) (.k 1)))) (.v 1)) (.im (.an (.le (.k 4) (.v 2)) (.an (.le (.v 1) (.v 3)) (.le (.a (.v 3) (.v 2)) (.v 4)))) (.im (.le (.a (.v 5) (.k 8)) (.v 0)) (.an (.le (.k 4) (.v 2)) (.an (.le (.a (.v 5) (.k 8)) (.v 3)) (.le (.a (.v 3) (.v 2)) (.v 4))))))) [_,_,_,_,_,_] [_]) lo (by assumption) this.1
          fail "s"
          exact h1 _ b2 _ _ _ ((le.toX d).trans ((LeX.set d s _).trans ((LL.toX d).trans lx))) N5 (R.relay hb (Int.le_refl _) (fun j j0 j7 _ _ => (hset j j0).trans (if_neg j7)) ((aY ((hset _ (by exact (Z.q (.im (.le (.k 0) (.v 0)) (.le (.k 0) (.a (.v 0) (.k 5)))) [_] []) hb.1)).trans (if_neg (by exact (Z.q (.no (.eq (.a (.v 0) (.k 5)) (.a (.v 0) (.k 7)))) [_] [])))) ((hset _ (by exact (Z.q (.im (.le (.k 0) (.v 0)) (.le (.k 0) (.a (.a (.v 0) (.k 5)) (.k 1)))) [_] []) hb.1)).trans (if_neg (by exact (Z.q (.no (.eq (.a (.a (.v 0) (.k 5)) (.k 1)) (.a (.v 0) (.k 7)))) [_] []))))).trans R.con) ((hset _ (by exact (Z.q (.im (.le (.k 0) (.v 0)) (.le (.k 0) (.a (.v 0) (.k 7)))) [_] []) hb.1)).trans (if_pos rfl)) post pw' L2 lo)
      · fail "s"
        exact ⟨rfl, by fail "l", by fail "l", by fail "l"⟩
  · rintro l s ⟨rfl, _⟩
    fail "s"
    exact h0 _ le
end

noncomputable def szs : List (List UInt8) → Int
  | [] => 0
  | x :: r => sz x + szs r
theorem mU : ∀ cells : List Cel, tot (cells.map car) = szs (cells.map (·.2))
  | [] => rfl
  | x :: r => congrArg (sz x.2 + ·) (mU r)
theorem pQ (A B : List (List UInt8)) : szs (A ++ B) = szs A + szs B := by
  induction A with
  | nil => show szs B = 0 + szs B; exact (Z.q (.eq (.v 0) (.a (.k 0) (.v 0))) [_] [])
  | cons x r ih => show sz x + szs (r ++ B) = sz x + szs r + szs B; exact (Z.q (.im (.eq (.v 0) (.a (.v 1) (.v 2))) (.eq (.a (.v 3) (.v 0)) (.a (.a (.v 3) (.v 1)) (.v 2)))) [_,_,_,_] []) ih
theorem fy (cells : List Cel) : cost cells = 2 * cells.length + szs (cells.map (·.2)) := by rw [jI, mU]
section
variable {Q : MV → Sto → Prop} {σ : Sto} {k d : Nat} {page us base kind c F v : Int} {b : List UInt8} {cells : List Cel} {blks X : List Area}
theorem dI (hk : IsKind v) (h : Q (.bool (decide (10 ≤ v))) σ) : We (dG [.int v] σ) Q := by
  refine bg ?_
  unfold gq
  unfold IsKind at hk
  fail "s"
  refine br (fun c => ?_) fun c => ?_
  · fail "s"
    rw [c] at h; exact h
  · fail "s"
    have e : decide (10 ≤ v) = decide (v = 10) := decide_eq_decide.mpr ⟨fun a => by exact (Z.q (.im (.or (.eq (.v 0) (.k 2)) (.or (.eq (.v 0) (.k 5)) (.or (.eq (.v 0) (.k 10)) (.eq (.v 0) (.k 13))))) (.im (.no (.eq (.v 0) (.k 13))) (.im (.le (.k 10) (.v 0)) (.eq (.v 0) (.k 10))))) [_] []) hk c a, fun a => Int.le_of_eq a.symm⟩
    rw [e] at h; exact h
theorem jw (N : Nd σ k d page us base b) {raws : List (List UInt8)} {m : Nat} (hm : σ[m]? = some (.list (raws.map .bytes))) (hk : rd b base = kind) (isk : IsKind kind) (hr : kind < 10 → w32 b (base + 8) = 70001)
    (hh : ∀ j, 0 ≤ j → j < base → rd b j = 77) (hR : ∀ r ∈ raws, Reads kind us r) (hfit : fst kind base + 2 * raws.length + szs raws ≤ us) (hnn : raws.length ≤ 100) (hrl : ∀ r ∈ raws, r.length ≤ 1000)
    (h : ∀ σ' b' cells' c', LeX d σ σ' → Nd σ' k d page us base b' → Rep us base kind b' cells' [] c' 0 [] → cells'.map (·.2) = raws → Q .none σ') : We (cm [.ref k, .ref m] σ) Q := by
  have hu := N.us; have hb := N.bnd; have hl := N.len
  have f1 := eY (kind := kind) hb
  have hln : (raws.map MV.bytes).length ≤ 100000 := by rw [List.length_map]; exact (Z.q (.im (.nle (.v 0) (.k 100)) (.nle (.v 0) (.k 100000))) [] [_]) hnn
  refine ce ?_
  unfold df
  fail "n"
  refine kZ N (hk ▸ isk) ?_
  rw [hk]
  fail "n"
  refine Ws.mono (Q := fun fl l' s' => fl = .next ∧ s' = σ ∧ l' "self" = some (.ref k) ∧ l' "raws" = some (.ref m) ∧ l' "kind" = some (.int kind) ∧ ∃ r, l' "right" = some (.int r) ∧ (kind < 10 → r = 70001)) ?_ ?_
  · fail "s"
    refine dI isk ?_
    fail "s"
    refine brn (fun c => ?_) fun c => ?_
    · fail "s"
      refine mS N ?_
      fail "s"
      exact ⟨rfl, rfl, by fail "l", by fail "l", by fail "l", _, fJ, hr⟩
    · fail "s"
      exact ⟨rfl, rfl, by fail "l", by fail "l", by fail "l", _, fJ, fun q => absurd c (by exact (Z.q (.im (.lt (.v 0) (.k 10)) (.no (.le (.k 10) (.v 0)))) [_] []) q)⟩
  rintro _ l1 σ ⟨rfl, rfl, e1, e2, e3, r, e4, hr'⟩
  fail "n"
  refine mf N isk fun b1 N1 k1 c1 z1 h1 => ?_
  fail "n"
  refine Ws.mono (Q := fun fl l' s' => fl = .next ∧ l' = l1 ∧ ∃ b2, LeX d σ s' ∧ Nd s' k d page us base b2 ∧ rd b2 base = kind ∧ rd b2 (base + 1) = 0 ∧ rd b2 (base + 2) = 0 ∧ rd b2 (base + 7) = 0 ∧ (kind < 10 → w32 b2 (base + 8) = 70001) ∧ ∀ j, 0 ≤ j → j < base → rd b2 j = 77) ?_ ?_
  · fail "s"
    refine dI isk ?_
    fail "s"
    refine brn (fun c => ?_) fun c => ?_
    · have := hr' (by exact (Z.q (.im (.no (.le (.k 10) (.v 0))) (.lt (.v 0) (.k 10))) [_] []) c)
      subst this
      fail "s"
      refine ig N1 (by decide) fun b2 N2 v2 s2 => ?_
      fail "s"
      exact ⟨rfl, rfl, b2, (LeX.set d _ _).trans (LeX.set d _ _), N2, (s2 _ (by exact (Z.q (.im (.le (.k 0) (.v 0)) (.le (.k 0) (.v 0))) [_] []) hb.1) (by exact (Z.q (.or (.lt (.v 0) (.a (.v 0) (.k 8))) (.le (.a (.v 0) (.k 12)) (.v 0))) [_] []))).trans k1, (s2 _ (by exact (Z.q (.im (.le (.k 0) (.v 0)) (.le (.k 0) (.a (.v 0) (.k 1)))) [_] []) hb.1) (by exact (Z.q (.or (.lt (.a (.v 0) (.k 1)) (.a (.v 0) (.k 8))) (.le (.a (.v 0) (.k 12)) (.a (.v 0) (.k 1)))) [_] []))).trans (z1 _ (by exact (Z.q (.lt (.v 0) (.a (.v 0) (.k 1))) [_] [])) (by exact (Z.q (.im (.le (.k 64) (.v 0)) (.im (.le (.v 1) (.k 32)) (.lt (.a (.v 1) (.k 1)) (.v 0)))) [_,_] []) hu.1 hb.2) (by exact (Z.q (.no (.eq (.a (.v 0) (.k 1)) (.a (.v 0) (.k 5)))) [_] [])) (by exact (Z.q (.no (.eq (.a (.v 0) (.k 1)) (.a (.v 0) (.k 6)))) [_] []))), (s2 _ (by exact (Z.q (.im (.le (.k 0) (.v 0)) (.le (.k 0) (.a (.v 0) (.k 2)))) [_] []) hb.1) (by exact (Z.q (.or (.lt (.a (.v 0) (.k 2)) (.a (.v 0) (.k 8))) (.le (.a (.v 0) (.k 12)) (.a (.v 0) (.k 2)))) [_] []))).trans (z1 _ (by exact (Z.q (.lt (.v 0) (.a (.v 0) (.k 2))) [_] [])) (by exact (Z.q (.im (.le (.k 64) (.v 0)) (.im (.le (.v 1) (.k 32)) (.lt (.a (.v 1) (.k 2)) (.v 0)))) [_,_] []) hu.1 hb.2) (by exact (Z.q (.no (.eq (.a (.v 0) (.k 2)) (.a (.v 0) (.k 5)))) [_] [])) (by exact (Z.q (.no (.eq (.a (.v 0) (.k 2)) (.a (.v 0) (.k 6)))) [_] []))),
        (s2 _ (by exact (Z.q (.im (.le (.k 0) (.v 0)) (.le (.k 0) (.a (.v 0) (.k 7)))) [_] []) hb.1) (by exact (Z.q (.or (.lt (.a (.v 0) (.k 7)) (.a (.v 0) (.k 8))) (.le (.a (.v 0) (.k 12)) (.a (.v 0) (.k 7)))) [_] []))).trans (z1 _ (by exact (Z.q (.lt (.v 0) (.a (.v 0) (.k 7))) [_] [])) (by exact (Z.q (.im (.le (.k 64) (.v 0)) (.im (.le (.v 1) (.k 32)) (.lt (.a (.v 1) (.k 7)) (.v 0)))) [_,_] []) hu.1 hb.2) (by exact (Z.q (.no (.eq (.a (.v 0) (.k 7)) (.a (.v 0) (.k 5)))) [_] [])) (by exact (Z.q (.no (.eq (.a (.v 0) (.k 7)) (.a (.v 0) (.k 6)))) [_] []))), fun _ => v2, fun j j0 j1 => (s2 j j0 (by exact (Z.q (.im (.lt (.v 0) (.v 1)) (.or (.lt (.v 0) (.a (.v 1) (.k 8))) (.le (.a (.v 1) (.k 12)) (.v 0)))) [_,_] []) j1)).trans ((h1 j j0 j1).trans (hh j j0 j1))⟩
    · fail "s"
      exact ⟨rfl, rfl, b1, LeX.set d _ _, N1, k1, z1 _ (by exact (Z.q (.lt (.v 0) (.a (.v 0) (.k 1))) [_] [])) (by exact (Z.q (.im (.le (.k 64) (.v 0)) (.im (.le (.v 1) (.k 32)) (.lt (.a (.v 1) (.k 1)) (.v 0)))) [_,_] []) hu.1 hb.2) (by exact (Z.q (.no (.eq (.a (.v 0) (.k 1)) (.a (.v 0) (.k 5)))) [_] [])) (by exact (Z.q (.no (.eq (.a (.v 0) (.k 1)) (.a (.v 0) (.k 6)))) [_] [])), z1 _ (by exact (Z.q (.lt (.v 0) (.a (.v 0) (.k 2))) [_] [])) (by exact (Z.q (.im (.le (.k 64) (.v 0)) (.im (.le (.v 1) (.k 32)) (.lt (.a (.v 1) (.k 2)) (.v 0)))) [_,_] []) hu.1 hb.2) (by exact (Z.q (.no (.eq (.a (.v 0) (.k 2)) (.a (.v 0) (.k 5)))) [_] [])) (by exact (Z.q (.no (.eq (.a (.v 0) (.k 2)) (.a (.v 0) (.k 6)))) [_] [])), z1 _ (by exact (Z.q (.lt (.v 0) (.a (.v 0) (.k 7))) [_] [])) (by exact (Z.q (.im (.le (.k 64) (.v 0)) (.im (.le (.v 1) (.k 32)) (.lt (.a (.v 1) (.k 7)) (.v 0)))) [_,_] []) hu.1 hb.2) (by exact (Z.q (.no (.eq (.a (.v 0) (.k 7)) (.a (.v 0) (.k 5)))) [_] [])) (by exact (Z.q (.no (.eq (.a (.v 0) (.k 7)) (.a (.v 0) (.k 6)))) [_] [])), fun q => absurd c (by exact (Z.q (.im (.lt (.v 0) (.k 10)) (.no (.le (.k 10) (.v 0)))) [_] []) q), fun j j0 j1 => (h1 j j0 j1).trans (hh j j0 j1)⟩
  clear e4 hr' N1 k1 c1 z1 h1
  rintro _ _ s1 ⟨rfl, rfl, b2, le1, N2, k2, z1, z2, z7, hr2, hh2⟩
  have hm1 := le1 m _ (gA hm N.dat) hm
  fail "s"
  refine dE N2 ?_
  rw [k2]
  fail "s"
  refine gN hm1 hln ?_
  rw [List.length_map]
  fail "s"
  refine loopR1 raws.length rfl (by exact (Z.q (.im (.nle (.v 0) (.k 100)) (.nle (.v 0) (.k 1000))) [] [_]) hnn) (fun i l s => ∃ p b3 C, l "self" = some (.ref k) ∧ l "raws" = some (.ref m) ∧ l "pointers" = some (.int (fst kind base)) ∧ l "at" = some (.int p) ∧ LeX d σ s ∧ Nd s k d page us base b3 ∧ C.map (·.2) = raws.take i ∧ Ly p us 0 (C.map car) ∧
    (∀ (j : Nat) x, C[j]? = some x → w16 b3 (fst kind base + 2 * j) = x.1) ∧ (∀ x ∈ C, HasAt b3 x.1 x.2) ∧ (∀ j, 0 ≤ j → j < fst kind base → rd b3 j = rd b2 j) ∧ fst kind base + 2 * raws.length + szs (raws.drop i) ≤ p)
    ⟨us, b2, [], by fail "l", by fail "l", by fail "l", by fail "l", le1, N2, by simp, .top us, fun j x hj => by simp at hj, fun x hx => (nomatch hx), fun _ _ _ => rfl, by rw [List.drop_zero]; exact hfit⟩ ?_ ?_
  · rintro i l s hi ⟨p, b3, C, g1, g2, g3, g4, le3, N3, hC, hL, hp, hc, ha, hs⟩
    have hm3 := le3 m _ (gA hm N.dat) hm
    obtain ⟨r, hri⟩ : ∃ r, raws[i]? = some r := ⟨_, List.getElem?_eq_getElem hi⟩
    have hrv : (raws.map MV.bytes)[i]? = some (.bytes r) := by rw [List.getElem?_map, hri]; rfl
    have hrm := List.mem_of_getElem? hri
    have hlr := hrl r hrm
    have ed : raws.drop i = r :: raws.drop (i + 1) := by
      obtain ⟨q1, rfl⟩ := List.getElem?_eq_some_iff.mp hri
      exact (List.getElem_cons_drop q1).symm
    rw [ed] at hs
    have hs' : fst kind base + 2 * raws.length + (sz r + szs (raws.drop (i + 1))) ≤ p := hs
    have hs0 : 0 ≤ szs (raws.drop (i + 1)) := by
      have : ∀ A, 0 ≤ szs A := by
        intro A; induction A with
        | nil => exact Int.le_refl _
        | cons x r ih => have := fv x; show 0 ≤ sz x + szs r; exact (Z.q (.im (.le (.k 0) (.v 0)) (.im (.le (.k 4) (.v 1)) (.le (.k 0) (.a (.v 1) (.v 0))))) [_,_] []) ih this.1
      exact this _
    have hz := fv r
    have hpu := hL.le
    have hl3 := N3.len
    fail "s"
    refine bl hm3 (by exact (Z.q (.im (.le (.v 0) (.k 128)) (.im (.le (.k 0) (.v 1)) (.im (.le (.a (.v 1) (.k 8)) (.v 2)) (.im (.nlt (.v 0) (.v 1)) (.im (.le (.a (.a (.v 2) (.m 2 (.c (.v 1)))) (.a (.v 3) (.v 4))) (.v 5)) (.im (.le (.k 0) (.v 4)) (.im (.le (.k 4) (.v 3)) (.im (.le (.v 5) (.v 0)) (.an (.le (.k 0) (.c (.v 0))) (.lt (.c (.v 0)) (.k (2 ^ 60)))))))))))) [_,_,_,_,_,_] [_,_]) hu.2 hb.1 f1.1 hi hs' hs0 hz.1 hpu) (by rw [Int.toNat_natCast]; exact hrv) ?_
    fail "s"
    refine cI (by exact (Z.q (.im (.nle (.v 0) (.k 1000)) (.nle (.v 0) (.k 100000))) [] [_]) hlr) ?_
    fail "s"
    rw [show max (4 : Int) r.length = sz r from rfl]
    refine gN hm3 hln ?_
    rw [List.length_map]
    fail "s"
    refine cI (by exact (Z.q (.im (.nle (.v 0) (.k 1000)) (.nle (.v 0) (.k 100000))) [] [_]) hlr) ?_
    fail "s"
    obtain ⟨l4, h4, s4⟩ := iM (o := b3) (c := r) (a := p - sz r) (e := p - sz r + r.length) (by exact (Z.q (.im (.le (.k 0) (.v 0)) (.im (.le (.a (.v 0) (.k 8)) (.v 1)) (.im (.le (.a (.a (.v 1) (.m 2 (.c (.v 0)))) (.a (.v 2) (.v 3))) (.v 4)) (.im (.le (.k 0) (.v 3)) (.le (.k 0) (.s (.v 4) (.v 2))))))) [_,_,_,_,_] [_]) hb.1 f1.1 hs' hs0) (by exact (Z.q (.le (.s (.v 0) (.v 1)) (.a (.s (.v 0) (.v 1)) (.c (.v 0)))) [_,_] [_])) (by exact (Z.q (.im (.le (.c (.v 0)) (.v 0)) (.im (.le (.v 1) (.v 2)) (.im (.eq (.c (.v 1)) (.v 2)) (.le (.a (.s (.v 1) (.v 0)) (.c (.v 0))) (.c (.v 1)))))) [_,_,_] [_,_]) hz.2 hpu hl3) (by exact (Z.q (.eq (.c (.v 0)) (.s (.a (.s (.v 0) (.v 1)) (.c (.v 0))) (.s (.v 0) (.v 1)))) [_,_] [_]))
    refine mE N3.dat (by exact (Z.q (.im (.le (.v 0) (.k 128)) (.im (.le (.k 0) (.v 1)) (.im (.le (.a (.v 1) (.k 8)) (.v 2)) (.im (.le (.a (.a (.v 2) (.m 2 (.c (.v 0)))) (.a (.v 3) (.v 4))) (.v 5)) (.im (.le (.k 0) (.v 4)) (.im (.le (.c (.v 1)) (.v 3)) (.im (.le (.v 5) (.v 0)) (.im (.eq (.c (.v 2)) (.v 0)) (.an (.le (.k 0) (.s (.v 5) (.v 3))) (.an (.le (.s (.v 5) (.v 3)) (.a (.s (.v 5) (.v 3)) (.c (.v 1)))) (.an (.le (.a (.s (.v 5) (.v 3)) (.c (.v 1))) (.c (.v 2))) (.an (.nle (.v 2) (.k 100000)) (.eq (.c (.v 1)) (.s (.a (.s (.v 5) (.v 3)) (.c (.v 1))) (.s (.v 5) (.v 3)))))))))))))))) [_,_,_,_,_,_] [_,_,_]) hu.2 hb.1 f1.1 hs' hs0 hz.2 hpu hl3) ?_
    generalize List.take (p - sz r).toNat b3 ++ r ++ List.drop (p - sz r + r.length).toNat b3 = b4 at l4 h4 s4 ⊢
    have N4 := N3.leX (LeX.set d s (.ba b4)) (aT _ N3.dat) l4
    fail "s"
    refine az N4.dat (by exact (Z.q (.im (.le (.v 0) (.k 128)) (.im (.le (.k 0) (.v 1)) (.im (.le (.a (.v 1) (.k 8)) (.v 2)) (.im (.nlt (.v 0) (.v 1)) (.im (.le (.a (.a (.v 2) (.m 2 (.c (.v 1)))) (.a (.v 3) (.v 4))) (.v 5)) (.im (.le (.k 0) (.v 4)) (.im (.le (.k 4) (.v 3)) (.im (.le (.v 5) (.v 0)) (.im (.eq (.c (.v 2)) (.v 0)) (.im (.neq (.v 3) (.v 2)) (.an (.le (.k 0) (.a (.v 2) (.m 2 (.c (.v 0))))) (.an (.lt (.a (.a (.v 2) (.m 2 (.c (.v 0)))) (.k 1)) (.c (.v 3))) (.nle (.v 3) (.k 1000)))))))))))))) [_,_,_,_,_,_] [_,_,_,_]) hu.2 hb.1 f1.1 hi hs' hs0 hz.1 hpu hl3 l4) (by exact (Z.q (.im (.le (.v 0) (.k 128)) (.im (.le (.k 0) (.v 1)) (.im (.le (.a (.v 1) (.k 8)) (.v 2)) (.im (.le (.a (.a (.v 2) (.m 2 (.c (.v 0)))) (.a (.v 3) (.v 4))) (.v 5)) (.im (.le (.k 0) (.v 4)) (.im (.le (.k 4) (.v 3)) (.im (.le (.v 5) (.v 0)) (.an (.le (.k 0) (.s (.v 5) (.v 3))) (.lt (.s (.v 5) (.v 3)) (.k 65536)))))))))) [_,_,_,_,_,_] [_]) hu.2 hb.1 f1.1 hs' hs0 hz.1 hpu) fun b5 w5 => ?_
    have N5 := N4.leX (LeX.set d _ (.ba b5)) (aT _ N4.dat) w5.len
    fail "s"
    have hCi : C.length = i := by have := congrArg List.length hC; rw [List.length_map, List.length_take] at this; exact (Z.q (.im (.nlt (.v 0) (.v 1)) (.im (.neq (.v 2) (.v 3)) (.im (.or (.an (.neq (.v 3) (.v 0)) (.nle (.v 0) (.v 1))) (.an (.neq (.v 3) (.v 1)) (.nle (.v 1) (.v 0)))) (.neq (.v 2) (.v 0))))) [] [_,_,_,_]) hi this (Z.mn _ _)
    have old : ∀ j, 0 ≤ j → (j < fst kind base + 2 * i ∨ p ≤ j) → rd b5 j = rd b3 j := fun j j0 jj => by
      rw [w5.same j j0 (by exact (Z.q (.im (.nlt (.v 0) (.v 1)) (.im (.le (.a (.a (.v 0) (.m 2 (.c (.v 1)))) (.a (.v 1) (.v 2))) (.v 3)) (.im (.le (.k 0) (.v 2)) (.im (.le (.k 4) (.v 1)) (.im (.or (.lt (.v 4) (.a (.v 0) (.m 2 (.c (.v 0))))) (.le (.v 3) (.v 4))) (.no (.eq (.v 4) (.a (.v 0) (.m 2 (.c (.v 0))))))))))) [_,_,_,_,_] [_,_]) hi hs' hs0 hz.1 jj) (by exact (Z.q (.im (.nlt (.v 0) (.v 1)) (.im (.le (.a (.a (.v 0) (.m 2 (.c (.v 1)))) (.a (.v 1) (.v 2))) (.v 3)) (.im (.le (.k 0) (.v 2)) (.im (.le (.k 4) (.v 1)) (.im (.or (.lt (.v 4) (.a (.v 0) (.m 2 (.c (.v 0))))) (.le (.v 3) (.v 4))) (.no (.eq (.v 4) (.a (.a (.v 0) (.m 2 (.c (.v 0)))) (.k 1))))))))) [_,_,_,_,_] [_,_]) hi hs' hs0 hz.1 jj), s4 j j0 (by exact (Z.q (.im (.nlt (.v 0) (.v 1)) (.im (.le (.a (.a (.v 0) (.m 2 (.c (.v 1)))) (.a (.v 1) (.v 2))) (.v 3)) (.im (.le (.k 0) (.v 2)) (.im (.le (.c (.v 2)) (.v 1)) (.im (.or (.lt (.v 4) (.a (.v 0) (.m 2 (.c (.v 0))))) (.le (.v 3) (.v 4))) (.or (.lt (.v 4) (.s (.v 3) (.v 1))) (.le (.a (.s (.v 3) (.v 1)) (.c (.v 2))) (.v 4)))))))) [_,_,_,_,_] [_,_,_]) hi hs' hs0 hz.2 jj)]
    refine ⟨p - sz r, b5, C ++ [(p - sz r, r)], by fail "l", by fail "l", by fail "l", by fail "l", le3.trans ((LeX.set d _ _).trans (LeX.set d _ _)), N5, ?_, ?_, fun j x hj => ?_, fun x hx => ?_, fun j j0 j1 => (old j j0 (by exact (Z.q (.im (.lt (.v 0) (.v 1)) (.or (.lt (.v 0) (.a (.v 1) (.m 2 (.c (.v 0))))) (.le (.v 2) (.v 0)))) [_,_,_] [_]) j1)).trans (ha j j0 j1), by exact (Z.q (.im (.le (.a (.a (.v 0) (.m 2 (.c (.v 0)))) (.a (.v 1) (.v 2))) (.v 3)) (.le (.a (.a (.v 0) (.m 2 (.c (.v 0)))) (.v 2)) (.s (.v 3) (.v 1)))) [_,_,_,_] [_]) hs'⟩
    · rw [List.map_append, hC, List.take_add_one, hri]; rfl
    · rw [List.map_append]
      exact (hL.lower (c' := p - sz r) (n := sz r) hz.1 (by exact (Z.q (.eq (.a (.s (.v 0) (.v 1)) (.v 1)) (.v 0)) [_,_] []))).perm (List.perm_append_comm (l₁ := [(p - sz r, sz r)]))
    · rcases Nat.lt_or_ge j C.length with q | q
      · rw [List.getElem?_append_left q] at hj
        rw [← hp j x hj]
        exact aY (old _ (by exact (Z.q (.im (.le (.k 0) (.v 0)) (.im (.le (.a (.v 0) (.k 8)) (.v 1)) (.le (.k 0) (.a (.v 1) (.m 2 (.c (.v 0))))))) [_,_] [_]) hb.1 f1.1) (by exact (Z.q (.im (.neq (.v 0) (.v 1)) (.im (.nlt (.v 2) (.v 0)) (.or (.lt (.a (.v 0) (.m 2 (.c (.v 2)))) (.a (.v 0) (.m 2 (.c (.v 1))))) (.le (.v 1) (.a (.v 0) (.m 2 (.c (.v 2)))))))) [_,_] [_,_,_]) hCi q)) (old _ (by exact (Z.q (.im (.le (.k 0) (.v 0)) (.im (.le (.a (.v 0) (.k 8)) (.v 1)) (.le (.k 0) (.a (.a (.v 1) (.m 2 (.c (.v 0)))) (.k 1))))) [_,_] [_]) hb.1 f1.1) (by exact (Z.q (.im (.neq (.v 0) (.v 1)) (.im (.nlt (.v 2) (.v 0)) (.or (.lt (.a (.a (.v 0) (.m 2 (.c (.v 2)))) (.k 1)) (.a (.v 0) (.m 2 (.c (.v 1))))) (.le (.v 1) (.a (.a (.v 0) (.m 2 (.c (.v 2)))) (.k 1)))))) [_,_] [_,_,_]) hCi q))
      · rw [List.getElem?_append_right q] at hj
        obtain ⟨rfl, rfl⟩ : j = i ∧ (p - sz r, r) = x := by
          cases hq : j - C.length with
          | zero => rw [hq] at hj; exact ⟨by exact (Z.q (.im (.neq (.v 0) (.v 1)) (.im (.nle (.v 0) (.v 2)) (.im (.neq (.v 3) (.k 0)) (.im (.or (.an (.neq (.a (.v 3) (.v 0)) (.v 2)) (.nle (.v 0) (.v 2))) (.an (.neq (.v 3) (.k 0)) (.nle (.v 2) (.v 0)))) (.neq (.v 2) (.v 1)))))) [] [_,_,_,_]) hCi q hq (Z.sb _ _), by simpa using hj⟩
          | succ n => rw [hq] at hj; simp at hj
        exact w5.val
    · rcases List.mem_append.mp hx with hx | hx
      · have q := hL.each (car x) (List.mem_map_of_mem hx)
        unfold car at q
        exact (hc x hx).same fun j j0 j1 => old j (Int.le_trans (show (0 : Int) ≤ p by exact (Z.q (.im (.le (.k 0) (.v 0)) (.im (.le (.a (.v 0) (.k 8)) (.v 1)) (.im (.le (.a (.a (.v 1) (.m 2 (.c (.v 0)))) (.a (.v 2) (.v 3))) (.v 4)) (.im (.le (.k 0) (.v 3)) (.im (.le (.k 4) (.v 2)) (.le (.k 0) (.v 4))))))) [_,_,_,_,_] [_]) hb.1 f1.1 hs' hs0 hz.1) (Int.le_trans q.2.1 j0)) (.inr (by exact (Z.q (.im (.le (.v 0) (.v 1)) (.im (.le (.v 1) (.v 2)) (.le (.v 0) (.v 2)))) [_,_,_] []) q.2.1 j0))
      · rw [List.mem_singleton.mp hx]
        exact h4.same fun j j0 j1 => w5.same j (by exact (Z.q (.im (.le (.k 0) (.v 0)) (.im (.le (.a (.v 0) (.k 8)) (.v 1)) (.im (.le (.a (.a (.v 1) (.m 2 (.c (.v 0)))) (.a (.v 2) (.v 3))) (.v 4)) (.im (.le (.k 0) (.v 3)) (.im (.le (.s (.v 4) (.v 2)) (.v 5)) (.le (.k 0) (.v 5))))))) [_,_,_,_,_,_] [_]) hb.1 f1.1 hs' hs0 j0) (by exact (Z.q (.im (.nlt (.v 0) (.v 1)) (.im (.le (.a (.a (.v 0) (.m 2 (.c (.v 1)))) (.a (.v 1) (.v 2))) (.v 3)) (.im (.le (.k 0) (.v 2)) (.im (.le (.s (.v 3) (.v 1)) (.v 4)) (.no (.eq (.v 4) (.a (.v 0) (.m 2 (.c (.v 0)))))))))) [_,_,_,_,_] [_,_]) hi hs' hs0 j0) (by exact (Z.q (.im (.nlt (.v 0) (.v 1)) (.im (.le (.a (.a (.v 0) (.m 2 (.c (.v 1)))) (.a (.v 1) (.v 2))) (.v 3)) (.im (.le (.k 0) (.v 2)) (.im (.le (.s (.v 3) (.v 1)) (.v 4)) (.no (.eq (.v 4) (.a (.a (.v 0) (.m 2 (.c (.v 0)))) (.k 1)))))))) [_,_,_,_,_] [_,_]) hi hs' hs0 j0)
  · rintro l s ⟨p, b3, C, g1, g2, g3, g4, le3, N3, hC, hL, hp, hc, ha, hs⟩
    have hm3 := le3 m _ (gA hm N.dat) hm
    rw [List.take_length] at hC
    have hCn : C.length = raws.length := by rw [← hC, List.length_map]
    rw [List.drop_length] at hs
    have hs' : fst kind base + 2 * raws.length + 0 ≤ p := hs
    have hpu := hL.le
    have hl3 := N3.len
    fail "s"
    refine gN hm3 hln ?_
    rw [List.length_map]
    fail "s"
    refine az N3.dat (by exact (Z.q (.im (.le (.k 64) (.v 0)) (.im (.le (.v 0) (.k 128)) (.im (.le (.k 0) (.v 1)) (.im (.le (.v 1) (.k 32)) (.im (.eq (.c (.v 0)) (.v 0)) (.an (.le (.k 0) (.a (.v 1) (.k 3))) (.an (.lt (.a (.a (.v 1) (.k 3)) (.k 1)) (.c (.v 0))) (.nle (.v 0) (.k 1000))))))))) [_,_] [_]) hu.1 hu.2 hb.1 hb.2 hl3) (by exact (Z.q (.im (.nle (.v 0) (.k 100)) (.an (.le (.k 0) (.c (.v 0))) (.lt (.c (.v 0)) (.k 65536)))) [] [_]) hnn) fun b4 w4 => ?_
    have N4 := N3.leX (LeX.set d _ (.ba b4)) (aT _ N3.dat) w4.len
    have hl4 := N4.len
    fail "s"
    refine az N4.dat (by exact (Z.q (.im (.le (.k 64) (.v 0)) (.im (.le (.v 0) (.k 128)) (.im (.le (.k 0) (.v 1)) (.im (.le (.v 1) (.k 32)) (.im (.eq (.c (.v 0)) (.v 0)) (.an (.le (.k 0) (.a (.v 1) (.k 5))) (.an (.lt (.a (.a (.v 1) (.k 5)) (.k 1)) (.c (.v 0))) (.nle (.v 0) (.k 1000))))))))) [_,_] [_]) hu.1 hu.2 hb.1 hb.2 hl4) (by exact (Z.q (.im (.le (.v 0) (.k 128)) (.im (.le (.k 0) (.v 1)) (.im (.le (.a (.v 1) (.k 8)) (.v 2)) (.im (.le (.a (.a (.v 2) (.m 2 (.c (.v 0)))) (.k 0)) (.v 3)) (.im (.le (.v 3) (.v 0)) (.an (.le (.k 0) (.v 3)) (.lt (.v 3) (.k 65536)))))))) [_,_,_,_] [_]) hu.2 hb.1 f1.1 hs' hpu) fun b5 w5 => ?_
    have N5 := N4.leX (LeX.set d _ (.ba b5)) (aT _ N4.dat) w5.len
    fail "s"
    have old : ∀ j, 0 ≤ j → (j < base + 3 ∨ base + 7 ≤ j) → rd b5 j = rd b3 j := fun j j0 jj => by rw [w5.same j j0 (by exact (Z.q (.im (.or (.lt (.v 0) (.a (.v 1) (.k 3))) (.le (.a (.v 1) (.k 7)) (.v 0))) (.no (.eq (.v 0) (.a (.v 1) (.k 5))))) [_,_] []) jj) (by exact (Z.q (.im (.or (.lt (.v 0) (.a (.v 1) (.k 3))) (.le (.a (.v 1) (.k 7)) (.v 0))) (.no (.eq (.v 0) (.a (.a (.v 1) (.k 5)) (.k 1))))) [_,_] []) jj), w4.same j j0 (by exact (Z.q (.im (.or (.lt (.v 0) (.a (.v 1) (.k 3))) (.le (.a (.v 1) (.k 7)) (.v 0))) (.no (.eq (.v 0) (.a (.v 1) (.k 3))))) [_,_] []) jj) (by exact (Z.q (.im (.or (.lt (.v 0) (.a (.v 1) (.k 3))) (.le (.a (.v 1) (.k 7)) (.v 0))) (.no (.eq (.v 0) (.a (.a (.v 1) (.k 3)) (.k 1))))) [_,_] []) jj)]
    have old2 : ∀ j, 0 ≤ j → (j < base + 3 ∨ (base + 7 ≤ j ∧ j < fst kind base)) → rd b5 j = rd b2 j := fun j j0 jj => (old j j0 (by exact (Z.q (.im (.or (.lt (.v 0) (.a (.v 1) (.k 3))) (.an (.le (.a (.v 1) (.k 7)) (.v 0)) (.lt (.v 0) (.v 2)))) (.or (.lt (.v 0) (.a (.v 1) (.k 3))) (.le (.a (.v 1) (.k 7)) (.v 0)))) [_,_,_] []) jj)).trans (ha j j0 (by exact (Z.q (.im (.le (.a (.v 0) (.k 8)) (.v 1)) (.im (.or (.lt (.v 2) (.a (.v 0) (.k 3))) (.an (.le (.a (.v 0) (.k 7)) (.v 2)) (.lt (.v 2) (.v 1)))) (.lt (.v 2) (.v 1)))) [_,_,_] []) f1.1 jj))
    refine h _ b5 C p (le3.trans ((LeX.set d _ _).trans (LeX.set d _ _))) N5 ⟨(old2 _ (by exact (Z.q (.im (.le (.k 0) (.v 0)) (.le (.k 0) (.v 0))) [_] []) hb.1) (by exact (Z.q (.or (.lt (.v 0) (.a (.v 0) (.k 3))) (.an (.le (.a (.v 0) (.k 7)) (.v 0)) (.lt (.v 0) (.v 1)))) [_,_] []))).trans k2, isk, ?_, w5.val, (old2 _ (by exact (Z.q (.im (.le (.k 0) (.v 0)) (.le (.k 0) (.a (.v 0) (.k 7)))) [_] []) hb.1) (by exact (Z.q (.im (.le (.a (.v 0) (.k 8)) (.v 1)) (.or (.lt (.a (.v 0) (.k 7)) (.a (.v 0) (.k 3))) (.an (.le (.a (.v 0) (.k 7)) (.a (.v 0) (.k 7))) (.lt (.a (.v 0) (.k 7)) (.v 1))))) [_,_] []) f1.1)).trans z7, ?_, .nil, fun i x hi => ?_, fun x hx => ⟨(hc x hx).same fun j j0 j1 => ?_, hR _ (hC ▸ List.mem_map_of_mem hx)⟩, ?_, ?_, fun q => ?_, fun j j0 j1 => (old2 j j0 (by exact (Z.q (.im (.lt (.v 0) (.v 1)) (.or (.lt (.v 0) (.a (.v 1) (.k 3))) (.an (.le (.a (.v 1) (.k 7)) (.v 0)) (.lt (.v 0) (.v 2))))) [_,_,_] []) j1)).trans (hh2 j j0 j1)⟩ hC
    · rw [aY (w5.same _ (by exact (Z.q (.im (.le (.k 0) (.v 0)) (.le (.k 0) (.a (.v 0) (.k 3)))) [_] []) hb.1) (by exact (Z.q (.no (.eq (.a (.v 0) (.k 3)) (.a (.v 0) (.k 5)))) [_] [])) (by exact (Z.q (.no (.eq (.a (.v 0) (.k 3)) (.a (.a (.v 0) (.k 5)) (.k 1)))) [_] []))) (w5.same _ (by exact (Z.q (.im (.le (.k 0) (.v 0)) (.le (.k 0) (.a (.a (.v 0) (.k 3)) (.k 1)))) [_] []) hb.1) (by exact (Z.q (.no (.eq (.a (.a (.v 0) (.k 3)) (.k 1)) (.a (.v 0) (.k 5)))) [_] [])) (by exact (Z.q (.no (.eq (.a (.a (.v 0) (.k 3)) (.k 1)) (.a (.a (.v 0) (.k 5)) (.k 1)))) [_] []))), w4.val, hCn]
    · show w16 b5 (base + 1) = 0
      unfold w16
      rw [show base + 1 + 1 = base + 2 by exact (Z.q (.eq (.a (.a (.v 0) (.k 1)) (.k 1)) (.a (.v 0) (.k 2))) [_] []), old2 _ (by exact (Z.q (.im (.le (.k 0) (.v 0)) (.le (.k 0) (.a (.v 0) (.k 1)))) [_] []) hb.1) (by exact (Z.q (.or (.lt (.a (.v 0) (.k 1)) (.a (.v 0) (.k 3))) (.an (.le (.a (.v 0) (.k 7)) (.a (.v 0) (.k 1))) (.lt (.a (.v 0) (.k 1)) (.v 1)))) [_,_] [])), old2 _ (by exact (Z.q (.im (.le (.k 0) (.v 0)) (.le (.k 0) (.a (.v 0) (.k 2)))) [_] []) hb.1) (by exact (Z.q (.or (.lt (.a (.v 0) (.k 2)) (.a (.v 0) (.k 3))) (.an (.le (.a (.v 0) (.k 7)) (.a (.v 0) (.k 2))) (.lt (.a (.v 0) (.k 2)) (.v 1)))) [_,_] [])), z1, z2]; rfl
    · have := (List.getElem?_eq_some_iff.mp hi).1
      rw [← hp i x hi]
      exact aY (old _ (by exact (Z.q (.im (.le (.k 0) (.v 0)) (.im (.le (.a (.v 0) (.k 8)) (.v 1)) (.le (.k 0) (.a (.v 1) (.m 2 (.c (.v 0))))))) [_,_] [_]) hb.1 f1.1) (by exact (Z.q (.im (.le (.a (.v 0) (.k 8)) (.v 1)) (.or (.lt (.a (.v 1) (.m 2 (.c (.v 0)))) (.a (.v 0) (.k 3))) (.le (.a (.v 0) (.k 7)) (.a (.v 1) (.m 2 (.c (.v 0))))))) [_,_] [_]) f1.1)) (old _ (by exact (Z.q (.im (.le (.k 0) (.v 0)) (.im (.le (.a (.v 0) (.k 8)) (.v 1)) (.le (.k 0) (.a (.a (.v 1) (.m 2 (.c (.v 0)))) (.k 1))))) [_,_] [_]) hb.1 f1.1) (by exact (Z.q (.im (.le (.a (.v 0) (.k 8)) (.v 1)) (.or (.lt (.a (.a (.v 1) (.m 2 (.c (.v 0)))) (.k 1)) (.a (.v 0) (.k 3))) (.le (.a (.v 0) (.k 7)) (.a (.a (.v 1) (.m 2 (.c (.v 0)))) (.k 1))))) [_,_] [_]) f1.1))
    · have q := hL.each (car x) (List.mem_map_of_mem hx)
      unfold car at q
      exact old j (by exact (Z.q (.im (.le (.k 0) (.v 0)) (.im (.le (.a (.v 0) (.k 8)) (.v 1)) (.im (.le (.a (.a (.v 1) (.m 2 (.c (.v 0)))) (.k 0)) (.v 2)) (.im (.le (.v 3) (.v 4)) (.im (.le (.v 2) (.v 3)) (.le (.k 0) (.v 4))))))) [_,_,_,_,_] [_]) hb.1 f1.1 hs' j0 q.2.1) (by exact (Z.q (.im (.le (.a (.v 0) (.k 8)) (.v 1)) (.im (.le (.a (.a (.v 1) (.m 2 (.c (.v 0)))) (.k 0)) (.v 2)) (.im (.le (.v 3) (.v 4)) (.im (.le (.v 2) (.v 3)) (.or (.lt (.v 4) (.a (.v 0) (.k 3))) (.le (.a (.v 0) (.k 7)) (.v 4))))))) [_,_,_,_,_] [_]) f1.1 hs' j0 q.2.1)
    · rw [List.nil_append, List.append_nil]; exact hL
    · simp only [List.length_nil]; exact (Z.q (.im (.neq (.v 0) (.v 1)) (.im (.le (.a (.a (.v 0) (.m 2 (.c (.v 1)))) (.k 0)) (.v 1)) (.le (.a (.v 0) (.m 2 (.a (.c (.v 0)) (.c (.k 0))))) (.v 1)))) [_,_] [_,_]) hCn hs'
    · rw [← hr2 q]
      unfold IsKind at isk
      unfold fst at f1 old2
      rw [if_neg (by exact (Z.q (.im (.or (.eq (.v 0) (.k 2)) (.or (.eq (.v 0) (.k 5)) (.or (.eq (.v 0) (.k 10)) (.eq (.v 0) (.k 13))))) (.im (.lt (.v 0) (.k 10)) (.no (.lt (.k 5) (.v 0))))) [_] []) isk q)] at f1 old2
      unfold w32
      rw [aY (old2 _ (by exact (Z.q (.im (.le (.k 0) (.v 0)) (.le (.k 0) (.a (.v 0) (.k 8)))) [_] []) hb.1) (by exact (Z.q (.or (.lt (.a (.v 0) (.k 8)) (.a (.v 0) (.k 3))) (.an (.le (.a (.v 0) (.k 7)) (.a (.v 0) (.k 8))) (.lt (.a (.v 0) (.k 8)) (.a (.v 0) (.k 12))))) [_] []))) (old2 _ (by exact (Z.q (.im (.le (.k 0) (.v 0)) (.le (.k 0) (.a (.a (.v 0) (.k 8)) (.k 1)))) [_] []) hb.1) (by exact (Z.q (.or (.lt (.a (.a (.v 0) (.k 8)) (.k 1)) (.a (.v 0) (.k 3))) (.an (.le (.a (.v 0) (.k 7)) (.a (.a (.v 0) (.k 8)) (.k 1))) (.lt (.a (.a (.v 0) (.k 8)) (.k 1)) (.a (.v 0) (.k 12))))) [_] []))), aY (old2 _ (by exact (Z.q (.im (.le (.k 0) (.v 0)) (.le (.k 0) (.a (.a (.v 0) (.k 8)) (.k 2)))) [_] []) hb.1) (by exact (Z.q (.or (.lt (.a (.a (.v 0) (.k 8)) (.k 2)) (.a (.v 0) (.k 3))) (.an (.le (.a (.v 0) (.k 7)) (.a (.a (.v 0) (.k 8)) (.k 2))) (.lt (.a (.a (.v 0) (.k 8)) (.k 2)) (.a (.v 0) (.k 12))))) [_] []))) (old2 _ (by exact (Z.q (.im (.le (.k 0) (.v 0)) (.le (.k 0) (.a (.a (.a (.v 0) (.k 8)) (.k 2)) (.k 1)))) [_] []) hb.1) (by exact (Z.q (.or (.lt (.a (.a (.a (.v 0) (.k 8)) (.k 2)) (.k 1)) (.a (.v 0) (.k 3))) (.an (.le (.a (.v 0) (.k 7)) (.a (.a (.a (.v 0) (.k 8)) (.k 2)) (.k 1))) (.lt (.a (.a (.a (.v 0) (.k 8)) (.k 2)) (.k 1)) (.a (.v 0) (.k 12))))) [_] [])))]
end

section
variable {Q : MV → Sto → Prop} {σ : Sto} {k d : Nat} {page us base kind c F v : Int} {b : List UInt8} {cells : List Cel} {blks X : List Area}
theorem nB {A B : List Cel} (h : A.map (·.2) = B.map (·.2)) : cost A = cost B := by
  have := congrArg List.length h
  rw [List.length_map, List.length_map] at this
  rw [fy, fy, h, this]
theorem lq (N : Nd σ k d page us base b) (R : Rep us base kind b cells blks c F []) {need : Int} (h4 : 4 ≤ need) (hroom : need + 2 ≤ us - fst kind base - cost cells)
    (h : ∀ σ' b' cells' B c' G at_, LeX d σ σ' → Nd σ' k d page us base b' → cells'.map (·.2) = cells.map (·.2) → Rep us base kind b' cells' B c' G [(at_, need)] → Q (.int at_) σ') : We (dg [.ref k, .int need] σ) Q := by
  have hu := N.us; have hb := N.bnd; have hl := N.len
  have f1 := eY (kind := kind) hb
  have hlo := R.low; have hcu := R.lay.le; have hsp := R.space; have hfew := R.few
  simp only [List.length_nil] at hlo
  refine ce ?_
  unfold dM
  fail "n"
  refine Ws.mono (Q := fun fl l' s' => (fl = .next ∧ Le σ s' ∧ l' "self" = some (.ref k) ∧ l' "need" = some (.int need)) ∨ ∃ v, fl = .ret v ∧ Q v s') ?_ ?_
  · fail "s"
    refine oM N ?_
    rw [R.con, R.kd, R.cnt]
    fail "s"
    refine br (fun c1 => ?_) fun c1 => ?_
    · fail "s"
      refine kl N R h4 (by exact (Z.q (.im (.le (.k 2) (.s (.s (.v 0) (.v 1)) (.m 2 (.c (.v 0))))) (.le (.a (.v 1) (.m 2 (.a (.c (.v 0)) (.k 1)))) (.v 0))) [_,_] [_]) c1) (fun σ' le => ?_) fun σ' b' B G at_ le N' R' => ?_
      · fail "s"
        exact .inl ⟨rfl, le, by fail "l", by fail "l"⟩
      · have := R'.lay.each (at_, need) (List.mem_append_left _ (List.mem_cons_self ..))
        have h8 := R.nonneg hb
        dsimp only at this
        fail "s"
        exact .inr ⟨_, rfl, h _ b' cells B c G at_ le N' rfl R'⟩
    · fail "s"
      exact .inl ⟨rfl, Le.refl _, by fail "l", by fail "l"⟩
  rintro fl l1 s1 (⟨rfl, le1, e1, e2⟩ | ⟨v, rfl, hv⟩)
  rotate_left
  · fail "n"
    exact hv
  have N1 := N.le le1
  fail "n"
  refine Ws.mono (Q := fun fl l' s' => fl = .next ∧ l' "self" = some (.ref k) ∧ l' "need" = some (.int need) ∧ ∃ b2 C B c2 G, LeX d σ s' ∧ Nd s' k d page us base b2 ∧ C.map (·.2) = cells.map (·.2) ∧ Rep us base kind b2 C B c2 G [] ∧ fst kind base + 2 * C.length + need + 2 ≤ c2) ?_ ?_
  · fail "s"
    refine oM N1 ?_
    rw [R.con, R.kd, R.cnt]
    fail "s"
    refine br (fun c1 => ?_) fun c1 => ?_
    · fail "s"
      refine nw N1 R fun s2 m le2 hm2 hr2 => ?_
      have N2 := N1.le le2
      have ec : cells.map (fun x => MV.bytes x.2) = (cells.map (·.2)).map MV.bytes := by rw [List.map_map]; rfl
      rw [ec] at hr2
      have hcs := fy cells
      fail "s"
      refine jw N2 hr2 R.kd R.isk R.right R.head (fun r hr => ?_) (by rw [List.length_map]; exact (Z.q (.im (.le (.k 4) (.v 0)) (.im (.le (.a (.v 0) (.k 2)) (.s (.s (.v 1) (.v 2)) (.v 3))) (.im (.eq (.v 3) (.a (.m 2 (.c (.v 0))) (.v 4))) (.le (.a (.a (.v 2) (.m 2 (.c (.v 0)))) (.v 4)) (.v 1))))) [_,_,_,_,_] [_]) h4 hroom hcs) (by rw [List.length_map]; exact few (by exact (Z.q (.im (.le (.k 0) (.v 0)) (.im (.le (.a (.v 0) (.k 8)) (.v 1)) (.le (.k 0) (.v 1)))) [_,_] []) hb.1 f1.1) hlo (Int.le_trans hcu hu.2)) (fun r hr => ?_) fun s3 b3 C c3 le3 N3 R3 e3 => ?_
      · obtain ⟨x, hx, rfl⟩ := List.mem_map.mp hr
        exact (R.cel x hx).2
      · obtain ⟨x, hx, rfl⟩ := List.mem_map.mp hr
        have ha := R.area hx; have hs := fv x.2
        have c0 : 0 ≤ c := by exact (Z.q (.im (.le (.k 0) (.v 0)) (.im (.le (.a (.v 0) (.k 8)) (.v 1)) (.im (.le (.a (.v 1) (.m 2 (.a (.c (.v 0)) (.c (.k 0))))) (.v 2)) (.le (.k 0) (.v 2))))) [_,_,_] [_]) hb.1 f1.1 hlo
        exact Int.ofNat_le.mp (Int.le_trans hs.2 (Int.le_trans (Int.le_trans (Int.le_add_of_nonneg_left (Int.le_trans c0 ha.1)) ha.2) (Int.le_trans hu.2 (by decide))))
      have s3 := R3.space
      rw [nB e3] at s3
      rw [show tot [] = 0 from rfl, Int.add_zero, Int.add_zero] at s3
      fail "s"
      exact ⟨rfl, by fail "l", by fail "l", b3, C, [], c3, 0, ((le1.trans le2).toX d).trans le3, N3, e3, R3, roomy s3 hroom⟩
    · fail "s"
      exact ⟨rfl, by fail "l", by fail "l", b, cells, blks, c, F, le1.toX d, N1, rfl, R, by exact (Z.q (.im (.no (.lt (.s (.s (.v 0) (.v 1)) (.m 2 (.c (.v 0)))) (.a (.v 2) (.k 2)))) (.le (.a (.a (.a (.v 1) (.m 2 (.c (.v 0)))) (.v 2)) (.k 2)) (.v 0))) [_,_,_] [_]) c1⟩
  rintro _ l2 s2 ⟨rfl, g1, g2, b2, C, B, c2, G, le2, N2, eC, R2, hlow⟩
  have hc2 := R2.lay.le
  have hl2 := N2.len
  fail "s"
  refine dJ N2 ?_
  rw [R2.con]
  fail "s"
  refine az N2.dat (by exact (Z.q (.im (.le (.k 64) (.v 0)) (.im (.le (.v 0) (.k 128)) (.im (.le (.k 0) (.v 1)) (.im (.le (.v 1) (.k 32)) (.im (.eq (.c (.v 0)) (.v 0)) (.an (.le (.k 0) (.a (.v 1) (.k 5))) (.an (.lt (.a (.a (.v 1) (.k 5)) (.k 1)) (.c (.v 0))) (.nle (.v 0) (.k 1000))))))))) [_,_] [_]) hu.1 hu.2 hb.1 hb.2 hl2) (by exact (Z.q (.im (.le (.k 4) (.v 0)) (.im (.le (.v 1) (.k 128)) (.im (.le (.k 0) (.v 2)) (.im (.le (.a (.v 2) (.k 8)) (.v 3)) (.im (.le (.a (.a (.a (.v 3) (.m 2 (.c (.v 0)))) (.v 0)) (.k 2)) (.v 4)) (.im (.le (.v 4) (.v 1)) (.an (.le (.k 0) (.s (.v 4) (.v 0))) (.lt (.s (.v 4) (.v 0)) (.k 65536))))))))) [_,_,_,_,_] [_]) h4 hu.2 hb.1 f1.1 hlow hc2) fun b3 w3 => ?_
  have N3 := N2.leX (LeX.set d _ (.ba b3)) (aT _ N2.dat) w3.len
  fail "s"
  have o : ∀ j, 0 ≤ j → (j < base + 5 ∨ base + 7 ≤ j) → rd b3 j = rd b2 j := fun j j0 jj => w3.same j j0 (by exact (Z.q (.im (.or (.lt (.v 0) (.a (.v 1) (.k 5))) (.le (.a (.v 1) (.k 7)) (.v 0))) (.no (.eq (.v 0) (.a (.v 1) (.k 5))))) [_,_] []) jj) (by exact (Z.q (.im (.or (.lt (.v 0) (.a (.v 1) (.k 5))) (.le (.a (.v 1) (.k 7)) (.v 0))) (.no (.eq (.v 0) (.a (.a (.v 1) (.k 5)) (.k 1))))) [_,_] []) jj)
  have o2 : ∀ j, 0 ≤ j → (j + 1 < base + 5 ∨ base + 7 ≤ j) → w16 b3 j = w16 b2 j := fun j j0 jj => aY (o j j0 (by exact (Z.q (.im (.or (.lt (.a (.v 0) (.k 1)) (.a (.v 1) (.k 5))) (.le (.a (.v 1) (.k 7)) (.v 0))) (.or (.lt (.v 0) (.a (.v 1) (.k 5))) (.le (.a (.v 1) (.k 7)) (.v 0)))) [_,_] []) jj)) (o (j + 1) (by exact (Z.q (.im (.le (.k 0) (.v 0)) (.le (.k 0) (.a (.v 0) (.k 1)))) [_] []) j0) (by exact (Z.q (.im (.or (.lt (.a (.v 0) (.k 1)) (.a (.v 1) (.k 5))) (.le (.a (.v 1) (.k 7)) (.v 0))) (.or (.lt (.a (.v 0) (.k 1)) (.a (.v 1) (.k 5))) (.le (.a (.v 1) (.k 7)) (.a (.v 0) (.k 1))))) [_,_] []) jj))
  refine h _ b3 C B (c2 - need) G (c2 - need) (le2.trans (LeX.set d _ _)) N3 eC ⟨(o _ (by exact (Z.q (.im (.le (.k 0) (.v 0)) (.le (.k 0) (.v 0))) [_] []) hb.1) (by exact (Z.q (.or (.lt (.v 0) (.a (.v 0) (.k 5))) (.le (.a (.v 0) (.k 7)) (.v 0))) [_] []))).trans R2.kd, R2.isk, (o2 _ (by exact (Z.q (.im (.le (.k 0) (.v 0)) (.le (.k 0) (.a (.v 0) (.k 3)))) [_] []) hb.1) (by exact (Z.q (.or (.lt (.a (.a (.v 0) (.k 3)) (.k 1)) (.a (.v 0) (.k 5))) (.le (.a (.v 0) (.k 7)) (.a (.v 0) (.k 3)))) [_] []))).trans R2.cnt, w3.val, (o _ (by exact (Z.q (.im (.le (.k 0) (.v 0)) (.le (.k 0) (.a (.v 0) (.k 7)))) [_] []) hb.1) (by exact (Z.q (.or (.lt (.a (.v 0) (.k 7)) (.a (.v 0) (.k 5))) (.le (.a (.v 0) (.k 7)) (.a (.v 0) (.k 7)))) [_] []))).trans R2.frg, R2.chain.same (o _ (by exact (Z.q (.im (.le (.k 0) (.v 0)) (.le (.k 0) (.a (.v 0) (.k 1)))) [_] []) hb.1) (by exact (Z.q (.or (.lt (.a (.v 0) (.k 1)) (.a (.v 0) (.k 5))) (.le (.a (.v 0) (.k 7)) (.a (.v 0) (.k 1)))) [_] []))) (o _ (by exact (Z.q (.im (.le (.k 0) (.v 0)) (.le (.k 0) (.a (.a (.v 0) (.k 1)) (.k 1)))) [_] []) hb.1) (by exact (Z.q (.or (.lt (.a (.a (.v 0) (.k 1)) (.k 1)) (.a (.v 0) (.k 5))) (.le (.a (.v 0) (.k 7)) (.a (.a (.v 0) (.k 1)) (.k 1)))) [_] []))) fun x hx j j0 j1 => ?_, R2.ord,
    fun i x hi => (o2 _ (by exact (Z.q (.im (.le (.k 0) (.v 0)) (.im (.le (.a (.v 0) (.k 8)) (.v 1)) (.le (.k 0) (.a (.v 1) (.m 2 (.c (.v 0))))))) [_,_] [_]) hb.1 f1.1) (by exact (Z.q (.im (.le (.a (.v 0) (.k 8)) (.v 1)) (.or (.lt (.a (.a (.v 1) (.m 2 (.c (.v 0)))) (.k 1)) (.a (.v 0) (.k 5))) (.le (.a (.v 0) (.k 7)) (.a (.v 1) (.m 2 (.c (.v 0))))))) [_,_] [_]) f1.1)).trans (R2.ptr i x hi), fun x hx => ⟨(R2.cel x hx).1.same fun j j0 j1 => ?_, (R2.cel x hx).2⟩, R2.lay.lower h4 (by exact (Z.q (.eq (.a (.s (.v 0) (.v 1)) (.v 1)) (.v 0)) [_,_] [])), by simp only [List.length_cons, List.length_nil]; exact (Z.q (.im (.le (.a (.a (.a (.v 0) (.m 2 (.c (.v 0)))) (.v 1)) (.k 2)) (.v 2)) (.le (.a (.v 0) (.m 2 (.a (.c (.v 0)) (.c (.a (.k 0) (.k 1)))))) (.s (.v 2) (.v 1)))) [_,_,_] [_]) hlow, fun q => ?_, fun j j0 j1 => (o j j0 (by exact (Z.q (.im (.lt (.v 0) (.v 1)) (.or (.lt (.v 0) (.a (.v 1) (.k 5))) (.le (.a (.v 1) (.k 7)) (.v 0)))) [_,_] []) j1)).trans (R2.head j j0 j1)⟩
  · have := R2.ord2.2 x hx
    exact o j (by exact (Z.q (.im (.le (.k 4) (.v 0)) (.im (.le (.k 0) (.v 1)) (.im (.le (.a (.v 1) (.k 8)) (.v 2)) (.im (.le (.a (.a (.a (.v 2) (.m 2 (.c (.v 0)))) (.v 0)) (.k 2)) (.v 3)) (.im (.le (.v 4) (.v 5)) (.im (.le (.v 3) (.v 4)) (.le (.k 0) (.v 5)))))))) [_,_,_,_,_,_] [_]) h4 hb.1 f1.1 hlow j0 this.2.1) (by exact (Z.q (.im (.le (.k 4) (.v 0)) (.im (.le (.a (.v 1) (.k 8)) (.v 2)) (.im (.le (.a (.a (.a (.v 2) (.m 2 (.c (.v 0)))) (.v 0)) (.k 2)) (.v 3)) (.im (.le (.v 4) (.v 5)) (.im (.le (.v 3) (.v 4)) (.or (.lt (.v 5) (.a (.v 1) (.k 5))) (.le (.a (.v 1) (.k 7)) (.v 5)))))))) [_,_,_,_,_,_] [_]) h4 f1.1 hlow j0 this.2.1)
  · have := R2.area hx
    exact o j (by exact (Z.q (.im (.le (.k 4) (.v 0)) (.im (.le (.k 0) (.v 1)) (.im (.le (.a (.v 1) (.k 8)) (.v 2)) (.im (.le (.a (.a (.a (.v 2) (.m 2 (.c (.v 0)))) (.v 0)) (.k 2)) (.v 3)) (.im (.le (.v 4) (.v 5)) (.im (.le (.v 3) (.v 4)) (.le (.k 0) (.v 5)))))))) [_,_,_,_,_,_] [_]) h4 hb.1 f1.1 hlow j0 this.1) (by exact (Z.q (.im (.le (.k 4) (.v 0)) (.im (.le (.a (.v 1) (.k 8)) (.v 2)) (.im (.le (.a (.a (.a (.v 2) (.m 2 (.c (.v 0)))) (.v 0)) (.k 2)) (.v 3)) (.im (.le (.v 4) (.v 5)) (.im (.le (.v 3) (.v 4)) (.or (.lt (.v 5) (.a (.v 1) (.k 5))) (.le (.a (.v 1) (.k 7)) (.v 5)))))))) [_,_,_,_,_,_] [_]) h4 f1.1 hlow j0 this.1)
  · rw [← R2.right q]
    unfold w32
    rw [o2 _ (by exact (Z.q (.im (.le (.k 0) (.v 0)) (.le (.k 0) (.a (.v 0) (.k 8)))) [_] []) hb.1) (by exact (Z.q (.or (.lt (.a (.a (.v 0) (.k 8)) (.k 1)) (.a (.v 0) (.k 5))) (.le (.a (.v 0) (.k 7)) (.a (.v 0) (.k 8)))) [_] [])), o2 _ (by exact (Z.q (.im (.le (.k 0) (.v 0)) (.le (.k 0) (.a (.a (.v 0) (.k 8)) (.k 2)))) [_] []) hb.1) (by exact (Z.q (.or (.lt (.a (.a (.a (.v 0) (.k 8)) (.k 2)) (.k 1)) (.a (.v 0) (.k 5))) (.le (.a (.v 0) (.k 7)) (.a (.a (.v 0) (.k 8)) (.k 2)))) [_] []))]
theorem lV (N : Nd σ k d page us base b) (R : Rep us base kind b cells blks c F []) {i : Nat} (hi : i ≤ cells.length) {r : List UInt8} (hr : Reads kind us r) (hrl : r.length ≤ 1000)
    (h0 : us - fst kind base - cost cells < sz r + 2 → ∀ σ', Le σ σ' → Q (.bool false) σ')
    (h1 : sz r + 2 ≤ us - fst kind base - cost cells → ∀ σ' b' cells' B c' G, LeX d σ σ' → Nd σ' k d page us base b' → Rep us base kind b' cells' B c' G [] → cells'.map (·.2) = (cells.map (·.2)).take i ++ r :: (cells.map (·.2)).drop i → Q (.bool true) σ') :
    We (dU [.ref k, .int i, .bytes r] σ) Q := by
  have hu := N.us; have hb := N.bnd; have hl := N.len
  have f1 := eY (kind := kind) hb
  have hfew := R.few; have hz := fv r; have h8 := R.nonneg hb
  refine iU ?_
  unfold eM
  fail "s"
  refine cI (by exact (Z.q (.im (.nle (.v 0) (.k 1000)) (.nle (.v 0) (.k 100000))) [] [_]) hrl) ?_
  fail "s"
  rw [show max (4 : Int) r.length = sz r from rfl]
  refine oR N R fun s0 le0 => ?_
  have N0 := N.le le0
  fail "s"
  refine br (fun c1 => ?_) fun c1 => ?_
  · fail "s"
    exact h0 c1 _ le0
  fail "s"
  refine eR N0 ?_
  rw [R.cnt]
  fail "s"
  refine lq N0 R hz.1 (by exact (Z.q (.im (.no (.lt (.s (.s (.v 0) (.v 1)) (.v 2)) (.a (.v 3) (.k 2)))) (.le (.a (.v 3) (.k 2)) (.s (.s (.v 0) (.v 1)) (.v 2)))) [_,_,_,_] []) c1) fun s1 b1 C B c1' G at_ le1 N1 eC R1 => ?_
  have hCn : C.length = cells.length := by have := congrArg List.length eC; rw [List.length_map, List.length_map] at this; exact this
  have hH := R1.lay.each (at_, sz r) (List.mem_append_left _ (List.mem_cons_self ..))
  dsimp only at hH
  have hlo := R1.low
  simp only [List.length_cons, List.length_nil] at hlo
  have hl1 := N1.len
  have hAp : ∀ y ∈ C.map car ++ B, Ap2 (at_, sz r) y := (List.pairwise_cons.mp R1.lay.apart).1
  fail "s"
  refine cI (by exact (Z.q (.im (.nle (.v 0) (.k 1000)) (.nle (.v 0) (.k 100000))) [] [_]) hrl) ?_
  fail "s"
  obtain ⟨l2, h2, s2⟩ := iM (o := b1) (c := r) (a := at_) (e := at_ + r.length) (by exact (Z.q (.im (.le (.k 0) (.v 0)) (.im (.le (.a (.v 0) (.k 8)) (.v 1)) (.im (.le (.v 2) (.v 3)) (.im (.le (.a (.v 1) (.m 2 (.a (.c (.v 0)) (.c (.a (.k 0) (.k 1)))))) (.v 2)) (.le (.k 0) (.v 3)))))) [_,_,_,_] [_]) hb.1 f1.1 hH.2.1 hlo) (by exact (Z.q (.le (.v 0) (.a (.v 0) (.c (.v 0)))) [_] [_])) (by exact (Z.q (.im (.le (.c (.v 0)) (.v 0)) (.im (.le (.a (.v 1) (.v 0)) (.v 2)) (.im (.eq (.c (.v 1)) (.v 2)) (.le (.a (.v 1) (.c (.v 0))) (.c (.v 1)))))) [_,_,_] [_,_]) hz.2 hH.2.2 hl1) (by exact (Z.q (.eq (.c (.v 0)) (.s (.a (.v 0) (.c (.v 0))) (.v 0))) [_] [_]))
  refine mE N1.dat (by exact (Z.q (.im (.le (.v 0) (.k 128)) (.im (.le (.k 0) (.v 1)) (.im (.le (.a (.v 1) (.k 8)) (.v 2)) (.im (.le (.c (.v 0)) (.v 3)) (.im (.le (.v 4) (.v 5)) (.im (.le (.a (.v 5) (.v 3)) (.v 0)) (.im (.le (.a (.v 2) (.m 2 (.a (.c (.v 1)) (.c (.a (.k 0) (.k 1)))))) (.v 4)) (.im (.eq (.c (.v 2)) (.v 0)) (.an (.le (.k 0) (.v 5)) (.an (.le (.v 5) (.a (.v 5) (.c (.v 0)))) (.an (.le (.a (.v 5) (.c (.v 0))) (.c (.v 2))) (.an (.nle (.v 2) (.k 100000)) (.eq (.c (.v 0)) (.s (.a (.v 5) (.c (.v 0))) (.v 5))))))))))))))) [_,_,_,_,_,_] [_,_,_]) hu.2 hb.1 f1.1 hz.2 hH.2.1 hH.2.2 hlo hl1) ?_
  generalize List.take at_.toNat b1 ++ r ++ List.drop (at_ + r.length).toNat b1 = b2 at l2 h2 s2 ⊢
  have N2 := N1.leX (LeX.set d s1 (.ba b2)) (aT _ N1.dat) l2
  fail "s"
  refine dE N2 ?_
  rw [s2 _ (by exact (Z.q (.im (.le (.k 0) (.v 0)) (.le (.k 0) (.v 0))) [_] []) hb.1) (by exact (Z.q (.im (.le (.a (.v 0) (.k 8)) (.v 1)) (.im (.le (.v 2) (.v 3)) (.im (.le (.a (.v 1) (.m 2 (.a (.c (.v 0)) (.c (.a (.k 0) (.k 1)))))) (.v 2)) (.or (.lt (.v 0) (.v 3)) (.le (.a (.v 3) (.c (.v 1))) (.v 0)))))) [_,_,_,_] [_,_]) f1.1 hH.2.1 hlo), R1.kd]
  fail "s"
  refine loopR3 (cells.length - i) (by exact (Z.q (.im (.nle (.v 0) (.v 1)) (.im (.or (.an (.neq (.a (.v 2) (.v 0)) (.v 1)) (.nle (.v 0) (.v 1))) (.an (.neq (.v 2) (.k 0)) (.nle (.v 1) (.v 0)))) (.eq (.s (.c (.v 1)) (.c (.v 0))) (.c (.v 2))))) [] [_,_,_]) hi (Z.sb _ _)) (by exact (Z.q (.im (.le (.v 0) (.k 128)) (.im (.le (.a (.m 4 (.c (.v 0))) (.m 4 (.c (.v 1)))) (.s (.v 0) (.v 1))) (.im (.le (.k 8) (.v 1)) (.im (.or (.an (.neq (.a (.v 2) (.v 3)) (.v 0)) (.nle (.v 3) (.v 0))) (.an (.neq (.v 2) (.k 0)) (.nle (.v 0) (.v 3)))) (.nle (.v 2) (.k 1000)))))) [_,_] [_,_,_,_]) hu.2 hfew h8 (Z.sb _ _)) (by exact (Z.q (.im (.le (.v 0) (.k 128)) (.im (.le (.k 0) (.v 1)) (.im (.le (.a (.v 1) (.k 8)) (.v 2)) (.im (.le (.k 4) (.v 3)) (.im (.neq (.v 0) (.v 1)) (.im (.le (.v 4) (.v 5)) (.im (.le (.a (.v 5) (.v 3)) (.v 0)) (.im (.le (.a (.v 2) (.m 2 (.a (.c (.v 0)) (.c (.a (.k 0) (.k 1)))))) (.v 4)) (.an (.le (.k (-1000)) (.c (.v 1))) (.le (.c (.v 1)) (.k 1000))))))))))) [_,_,_,_,_,_] [_,_]) hu.2 hb.1 f1.1 hz.1 hCn hH.2.1 hH.2.2 hlo) (fun t l s => ∃ b3, l "self" = some (.ref k) ∧ l "i" = some (.int i) ∧ l "at" = some (.int at_) ∧ l "count" = some (.int cells.length) ∧ l "pointers" = some (.int (fst kind base)) ∧ LeX d s1 s ∧ Nd s k d page us base b3 ∧
    (∀ j, 0 ≤ j → (j < fst kind base + 2 * (cells.length - t + 1) ∨ fst kind base + 2 * (cells.length + 1) ≤ j) → rd b3 j = rd b2 j) ∧ ∀ j : Nat, cells.length - t < j → j ≤ cells.length → w16 b3 (fst kind base + 2 * j) = w16 b2 (fst kind base + 2 * (j - 1)))
    ⟨b2, by fail "l", by fail "l", by fail "l", by fail "l", by fail "l", LeX.set d _ _, N2, fun _ _ _ => rfl, fun j j0 j1 => by exact (Z.q (.im (.nlt (.v 0) (.v 1)) (.im (.nle (.v 1) (.v 2)) (.im (.or (.an (.neq (.a (.v 0) (.k 0)) (.v 2)) (.nle (.k 0) (.v 2))) (.an (.neq (.v 0) (.k 0)) (.nle (.v 2) (.k 0)))) (.eq (.v 0) (.v 1))))) [_,_] [_,_,_]) j0 j1 (Z.sb _ _)⟩ ?_ ?_
  · rintro t l s ht ⟨b3, e1, e2, e3, e4, e5, le3, N3, o3, p3⟩
    have hl3 := N3.len
    fail "s"
    refine cN N3.dat (inw c1' (f := fst kind base) hl3 hu.2 (by exact (Z.q (.im (.le (.k 4) (.v 0)) (.im (.le (.v 1) (.v 2)) (.im (.le (.a (.v 2) (.v 0)) (.v 3)) (.le (.v 1) (.v 3))))) [_,_,_,_] []) hz.1 hH.2.1 hH.2.2) (by exact (Z.q (.im (.le (.k 0) (.v 0)) (.im (.le (.a (.v 0) (.k 8)) (.v 1)) (.le (.k 0) (.v 1)))) [_,_] []) hb.1 f1.1) (by exact (Z.q (.im (.nlt (.v 0) (.v 1)) (.im (.or (.an (.neq (.a (.v 1) (.v 2)) (.v 3)) (.nle (.v 2) (.v 3))) (.an (.neq (.v 1) (.k 0)) (.nle (.v 3) (.v 2)))) (.le (.v 0) (.s (.a (.v 0) (.m 2 (.s (.c (.v 3)) (.c (.v 0))))) (.k 2))))) [_] [_,_,_,_]) ht (Z.sb _ _)) (by exact (Z.q (.im (.neq (.v 0) (.v 1)) (.im (.le (.a (.v 0) (.m 2 (.a (.c (.v 0)) (.c (.a (.k 0) (.k 1)))))) (.v 1)) (.le (.a (.s (.a (.v 0) (.m 2 (.s (.c (.v 1)) (.c (.v 2))))) (.k 2)) (.k 2)) (.v 1)))) [_,_] [_,_,_]) hCn hlo)) ?_
    have w0 := mA b3 (fst kind base + 2 * (cells.length - t) - 2)
    have w1 := mB b3 (fst kind base + 2 * (cells.length - t) - 2)
    fail "s"
    refine az N3.dat (inw c1' (f := fst kind base) hl3 hu.2 (by exact (Z.q (.im (.le (.k 4) (.v 0)) (.im (.le (.v 1) (.v 2)) (.im (.le (.a (.v 2) (.v 0)) (.v 3)) (.le (.v 1) (.v 3))))) [_,_,_,_] []) hz.1 hH.2.1 hH.2.2) (by exact (Z.q (.im (.le (.k 0) (.v 0)) (.im (.le (.a (.v 0) (.k 8)) (.v 1)) (.le (.k 0) (.v 1)))) [_,_] []) hb.1 f1.1) (by exact (Z.q (.im (.nlt (.v 0) (.v 1)) (.im (.or (.an (.neq (.a (.v 1) (.v 2)) (.v 3)) (.nle (.v 2) (.v 3))) (.an (.neq (.v 1) (.k 0)) (.nle (.v 3) (.v 2)))) (.le (.v 0) (.a (.v 0) (.m 2 (.s (.c (.v 3)) (.c (.v 0)))))))) [_] [_,_,_,_]) ht (Z.sb _ _)) (by exact (Z.q (.im (.neq (.v 0) (.v 1)) (.im (.le (.a (.v 0) (.m 2 (.a (.c (.v 0)) (.c (.a (.k 0) (.k 1)))))) (.v 1)) (.le (.a (.a (.v 0) (.m 2 (.s (.c (.v 1)) (.c (.v 2))))) (.k 2)) (.v 1)))) [_,_] [_,_,_]) hCn hlo)) ⟨w0, w1⟩ fun b4 w4 => ?_
    have N4 := N3.leX (LeX.set d _ (.ba b4)) (aT _ N3.dat) w4.len
    fail "s"
    refine ⟨b4, by fail "l", by fail "l", by fail "l", by fail "l", by fail "l", le3.trans (LeX.set d _ _), N4, fun j j0 jj => ?_, fun j j0 j1 => ?_⟩
    · rw [w4.same j j0 (by exact (Z.q (.im (.or (.lt (.v 0) (.a (.v 1) (.m 2 (.a (.s (.c (.v 0)) (.c (.a (.v 1) (.k 1)))) (.k 1))))) (.le (.a (.v 1) (.m 2 (.a (.c (.v 0)) (.k 1)))) (.v 0))) (.no (.eq (.v 0) (.a (.v 1) (.m 2 (.s (.c (.v 0)) (.c (.v 1)))))))) [_,_] [_,_]) jj) (by exact (Z.q (.im (.or (.lt (.v 0) (.a (.v 1) (.m 2 (.a (.s (.c (.v 0)) (.c (.a (.v 1) (.k 1)))) (.k 1))))) (.le (.a (.v 1) (.m 2 (.a (.c (.v 0)) (.k 1)))) (.v 0))) (.no (.eq (.v 0) (.a (.a (.v 1) (.m 2 (.s (.c (.v 0)) (.c (.v 1))))) (.k 1))))) [_,_] [_,_]) jj), o3 j j0 (by exact (Z.q (.im (.or (.lt (.v 0) (.a (.v 1) (.m 2 (.a (.s (.c (.v 0)) (.c (.a (.v 1) (.k 1)))) (.k 1))))) (.le (.a (.v 1) (.m 2 (.a (.c (.v 0)) (.k 1)))) (.v 0))) (.or (.lt (.v 0) (.a (.v 1) (.m 2 (.a (.s (.c (.v 0)) (.c (.v 1))) (.k 1))))) (.le (.a (.v 1) (.m 2 (.a (.c (.v 0)) (.k 1)))) (.v 0)))) [_,_] [_,_]) jj)]
    · rcases Nat.lt_or_ge (cells.length - t) j with q | q
      · rw [aY (w4.same _ (by exact (Z.q (.im (.le (.k 0) (.v 0)) (.im (.le (.a (.v 0) (.k 8)) (.v 1)) (.le (.k 0) (.a (.v 1) (.m 2 (.c (.v 0))))))) [_,_] [_]) hb.1 f1.1) (by exact (Z.q (.im (.nlt (.v 0) (.v 1)) (.im (.or (.an (.neq (.a (.v 0) (.v 2)) (.v 3)) (.nle (.v 2) (.v 3))) (.an (.neq (.v 0) (.k 0)) (.nle (.v 3) (.v 2)))) (.no (.eq (.a (.v 0) (.m 2 (.c (.v 1)))) (.a (.v 0) (.m 2 (.s (.c (.v 3)) (.c (.v 2))))))))) [_] [_,_,_,_]) q (Z.sb _ _)) par1) (w4.same _ (by exact (Z.q (.im (.le (.k 0) (.v 0)) (.im (.le (.a (.v 0) (.k 8)) (.v 1)) (.le (.k 0) (.a (.a (.v 1) (.m 2 (.c (.v 0)))) (.k 1))))) [_,_] [_]) hb.1 f1.1) par2 (by exact (Z.q (.im (.nlt (.v 0) (.v 1)) (.im (.or (.an (.neq (.a (.v 0) (.v 2)) (.v 3)) (.nle (.v 2) (.v 3))) (.an (.neq (.v 0) (.k 0)) (.nle (.v 3) (.v 2)))) (.no (.eq (.a (.a (.v 0) (.m 2 (.c (.v 1)))) (.k 1)) (.a (.a (.v 0) (.m 2 (.s (.c (.v 3)) (.c (.v 2))))) (.k 1)))))) [_] [_,_,_,_]) q (Z.sb _ _))), p3 j q j1]
      · have ej : (fst kind base + 2 * (j : Int)) = fst kind base + 2 * ((cells.length : Int) - t) := by exact (Z.q (.im (.nlt (.v 0) (.v 1)) (.im (.nle (.v 1) (.v 2)) (.im (.or (.an (.neq (.a (.v 0) (.a (.v 3) (.k 1))) (.v 4)) (.nle (.a (.v 3) (.k 1)) (.v 4))) (.an (.neq (.v 0) (.k 0)) (.nle (.v 4) (.a (.v 3) (.k 1))))) (.im (.or (.an (.neq (.a (.v 2) (.v 3)) (.v 4)) (.nle (.v 3) (.v 4))) (.an (.neq (.v 2) (.k 0)) (.nle (.v 4) (.v 3)))) (.eq (.a (.v 0) (.m 2 (.c (.v 1)))) (.a (.v 0) (.m 2 (.s (.c (.v 4)) (.c (.v 3)))))))))) [_] [_,_,_,_,_]) j0 q (Z.sb _ _) (Z.sb _ _)
        have ek : fst kind base + 2 * ((cells.length : Int) - t) - 2 = fst kind base + 2 * (j - 1) := by exact (Z.q (.im (.eq (.a (.v 0) (.m 2 (.c (.v 0)))) (.a (.v 0) (.m 2 (.s (.c (.v 1)) (.c (.v 2)))))) (.eq (.s (.a (.v 0) (.m 2 (.s (.c (.v 1)) (.c (.v 2))))) (.k 2)) (.a (.v 0) (.m 2 (.s (.c (.v 0)) (.k 1)))))) [_] [_,_,_]) ej
        rw [ej, w4.val, ek]
        exact aY (o3 _ (by exact (Z.q (.im (.le (.k 0) (.v 0)) (.im (.le (.a (.v 0) (.k 8)) (.v 1)) (.le (.k 0) (.a (.v 1) (.m 2 (.s (.c (.v 0)) (.k 1))))))) [_,_] [_]) hb.1 f1.1) (by exact (Z.q (.im (.eq (.a (.v 0) (.m 2 (.c (.v 0)))) (.a (.v 0) (.m 2 (.s (.c (.v 1)) (.c (.v 2)))))) (.or (.lt (.a (.v 0) (.m 2 (.s (.c (.v 0)) (.k 1)))) (.a (.v 0) (.m 2 (.a (.s (.c (.v 1)) (.c (.v 2))) (.k 1))))) (.le (.a (.v 0) (.m 2 (.a (.c (.v 1)) (.k 1)))) (.a (.v 0) (.m 2 (.s (.c (.v 0)) (.k 1))))))) [_] [_,_,_]) ej)) (o3 _ (by exact (Z.q (.im (.le (.k 0) (.v 0)) (.im (.le (.a (.v 0) (.k 8)) (.v 1)) (.le (.k 0) (.a (.a (.v 1) (.m 2 (.s (.c (.v 0)) (.k 1)))) (.k 1))))) [_,_] [_]) hb.1 f1.1) (by exact (Z.q (.im (.eq (.a (.v 0) (.m 2 (.c (.v 0)))) (.a (.v 0) (.m 2 (.s (.c (.v 1)) (.c (.v 2)))))) (.or (.lt (.a (.a (.v 0) (.m 2 (.s (.c (.v 0)) (.k 1)))) (.k 1)) (.a (.v 0) (.m 2 (.a (.s (.c (.v 1)) (.c (.v 2))) (.k 1))))) (.le (.a (.v 0) (.m 2 (.a (.c (.v 1)) (.k 1)))) (.a (.a (.v 0) (.m 2 (.s (.c (.v 0)) (.k 1)))) (.k 1))))) [_] [_,_,_]) ej))
  rintro l s ⟨b3, e1, e2, e3, e4, e5, le3, N3, o3, p3⟩
  have hl3 := N3.len
  fail "s"
  refine az N3.dat (inw c1' (f := fst kind base) hl3 hu.2 (by exact (Z.q (.im (.le (.k 4) (.v 0)) (.im (.le (.v 1) (.v 2)) (.im (.le (.a (.v 2) (.v 0)) (.v 3)) (.le (.v 1) (.v 3))))) [_,_,_,_] []) hz.1 hH.2.1 hH.2.2) (by exact (Z.q (.im (.le (.k 0) (.v 0)) (.im (.le (.a (.v 0) (.k 8)) (.v 1)) (.le (.k 0) (.v 1)))) [_,_] []) hb.1 f1.1) (by exact (Z.q (.le (.v 0) (.a (.v 0) (.m 2 (.c (.v 0))))) [_] [_])) (by exact (Z.q (.im (.nle (.v 0) (.v 1)) (.im (.neq (.v 2) (.v 1)) (.im (.le (.a (.v 0) (.m 2 (.a (.c (.v 2)) (.c (.a (.k 0) (.k 1)))))) (.v 1)) (.le (.a (.a (.v 0) (.m 2 (.c (.v 0)))) (.k 2)) (.v 1))))) [_,_] [_,_,_]) hi hCn hlo)) (by exact (Z.q (.im (.le (.v 0) (.k 128)) (.im (.le (.k 0) (.v 1)) (.im (.le (.a (.v 1) (.k 8)) (.v 2)) (.im (.le (.k 4) (.v 3)) (.im (.le (.v 4) (.v 5)) (.im (.le (.a (.v 5) (.v 3)) (.v 0)) (.im (.le (.a (.v 2) (.m 2 (.a (.c (.v 0)) (.c (.a (.k 0) (.k 1)))))) (.v 4)) (.an (.le (.k 0) (.v 5)) (.lt (.v 5) (.k 65536)))))))))) [_,_,_,_,_,_] [_]) hu.2 hb.1 f1.1 hz.1 hH.2.1 hH.2.2 hlo) fun b4 w4 => ?_
  have N4 := N3.leX (LeX.set d _ (.ba b4)) (aT _ N3.dat) w4.len
  have hl4 := N4.len
  fail "s"
  refine az N4.dat (by exact (Z.q (.im (.le (.k 64) (.v 0)) (.im (.le (.v 0) (.k 128)) (.im (.le (.k 0) (.v 1)) (.im (.le (.v 1) (.k 32)) (.im (.eq (.c (.v 0)) (.v 0)) (.an (.le (.k 0) (.a (.v 1) (.k 3))) (.an (.lt (.a (.a (.v 1) (.k 3)) (.k 1)) (.c (.v 0))) (.nle (.v 0) (.k 1000))))))))) [_,_] [_]) hu.1 hu.2 hb.1 hb.2 hl4) (by exact (Z.q (.im (.le (.v 0) (.k 128)) (.im (.le (.k 0) (.v 1)) (.im (.le (.a (.v 1) (.k 8)) (.v 2)) (.im (.le (.k 4) (.v 3)) (.im (.neq (.v 0) (.v 1)) (.im (.le (.v 4) (.v 5)) (.im (.le (.a (.v 5) (.v 3)) (.v 0)) (.im (.le (.a (.v 2) (.m 2 (.a (.c (.v 0)) (.c (.a (.k 0) (.k 1)))))) (.v 4)) (.an (.le (.k 0) (.a (.c (.v 1)) (.k 1))) (.lt (.a (.c (.v 1)) (.k 1)) (.k 65536))))))))))) [_,_,_,_,_,_] [_,_]) hu.2 hb.1 f1.1 hz.1 hCn hH.2.1 hH.2.2 hlo) fun b5 w5 => ?_
  have N5 := N4.leX (LeX.set d _ (.ba b5)) (aT _ N4.dat) w5.len
  fail "s"
  have o : ∀ j, 0 ≤ j → (j < base + 3 ∨ (base + 5 ≤ j ∧ j < fst kind base) ∨ c1' ≤ j) → rd b5 j = rd b2 j := fun j j0 jj => by
    rw [w5.same j j0 (by exact (Z.q (.im (.le (.a (.v 0) (.k 8)) (.v 1)) (.im (.le (.a (.v 1) (.m 2 (.a (.c (.v 0)) (.c (.a (.k 0) (.k 1)))))) (.v 2)) (.im (.or (.lt (.v 3) (.a (.v 0) (.k 3))) (.or (.an (.le (.a (.v 0) (.k 5)) (.v 3)) (.lt (.v 3) (.v 1))) (.le (.v 2) (.v 3)))) (.no (.eq (.v 3) (.a (.v 0) (.k 3))))))) [_,_,_,_] [_]) f1.1 hlo jj) (by exact (Z.q (.im (.le (.a (.v 0) (.k 8)) (.v 1)) (.im (.le (.a (.v 1) (.m 2 (.a (.c (.v 0)) (.c (.a (.k 0) (.k 1)))))) (.v 2)) (.im (.or (.lt (.v 3) (.a (.v 0) (.k 3))) (.or (.an (.le (.a (.v 0) (.k 5)) (.v 3)) (.lt (.v 3) (.v 1))) (.le (.v 2) (.v 3)))) (.no (.eq (.v 3) (.a (.a (.v 0) (.k 3)) (.k 1))))))) [_,_,_,_] [_]) f1.1 hlo jj), w4.same j j0 (by exact (Z.q (.im (.nle (.v 0) (.v 1)) (.im (.le (.a (.v 0) (.k 8)) (.v 1)) (.im (.neq (.v 2) (.v 1)) (.im (.le (.a (.v 1) (.m 2 (.a (.c (.v 2)) (.c (.a (.k 0) (.k 1)))))) (.v 2)) (.im (.or (.lt (.v 3) (.a (.v 0) (.k 3))) (.or (.an (.le (.a (.v 0) (.k 5)) (.v 3)) (.lt (.v 3) (.v 1))) (.le (.v 2) (.v 3)))) (.no (.eq (.v 3) (.a (.v 1) (.m 2 (.c (.v 0))))))))))) [_,_,_,_] [_,_,_]) hi f1.1 hCn hlo jj) (by exact (Z.q (.im (.nle (.v 0) (.v 1)) (.im (.le (.a (.v 0) (.k 8)) (.v 1)) (.im (.neq (.v 2) (.v 1)) (.im (.le (.a (.v 1) (.m 2 (.a (.c (.v 2)) (.c (.a (.k 0) (.k 1)))))) (.v 2)) (.im (.or (.lt (.v 3) (.a (.v 0) (.k 3))) (.or (.an (.le (.a (.v 0) (.k 5)) (.v 3)) (.lt (.v 3) (.v 1))) (.le (.v 2) (.v 3)))) (.no (.eq (.v 3) (.a (.a (.v 1) (.m 2 (.c (.v 0)))) (.k 1))))))))) [_,_,_,_] [_,_,_]) hi f1.1 hCn hlo jj), o3 j j0 (by exact (Z.q (.im (.le (.a (.v 0) (.k 8)) (.v 1)) (.im (.neq (.v 0) (.v 1)) (.im (.le (.a (.v 1) (.m 2 (.a (.c (.v 0)) (.c (.a (.k 0) (.k 1)))))) (.v 2)) (.im (.or (.lt (.v 3) (.a (.v 0) (.k 3))) (.or (.an (.le (.a (.v 0) (.k 5)) (.v 3)) (.lt (.v 3) (.v 1))) (.le (.v 2) (.v 3)))) (.im (.or (.an (.neq (.a (.v 2) (.v 3)) (.v 1)) (.nle (.v 3) (.v 1))) (.an (.neq (.v 2) (.k 0)) (.nle (.v 1) (.v 3)))) (.or (.lt (.v 3) (.a (.v 1) (.m 2 (.a (.s (.c (.v 1)) (.c (.v 2))) (.k 1))))) (.le (.a (.v 1) (.m 2 (.a (.c (.v 1)) (.k 1)))) (.v 3)))))))) [_,_,_,_] [_,_,_,_]) f1.1 hCn hlo jj (Z.sb _ _))]
  have o1 : ∀ j, 0 ≤ j → (j < base + 3 ∨ (base + 5 ≤ j ∧ j < fst kind base) ∨ (c1' ≤ j ∧ (j < at_ ∨ at_ + r.length ≤ j))) → rd b5 j = rd b1 j := fun j j0 jj => by
    rw [o j j0 (by exact (Z.q (.im (.or (.lt (.v 0) (.a (.v 1) (.k 3))) (.or (.an (.le (.a (.v 1) (.k 5)) (.v 0)) (.lt (.v 0) (.v 2))) (.an (.le (.v 3) (.v 0)) (.or (.lt (.v 0) (.v 4)) (.le (.a (.v 4) (.c (.v 0))) (.v 0)))))) (.or (.lt (.v 0) (.a (.v 1) (.k 3))) (.or (.an (.le (.a (.v 1) (.k 5)) (.v 0)) (.lt (.v 0) (.v 2))) (.le (.v 3) (.v 0))))) [_,_,_,_,_] [_]) jj), s2 j j0 (by exact (Z.q (.im (.le (.a (.v 0) (.k 8)) (.v 1)) (.im (.le (.v 2) (.v 3)) (.im (.le (.a (.v 1) (.m 2 (.a (.c (.v 0)) (.c (.a (.k 0) (.k 1)))))) (.v 2)) (.im (.or (.lt (.v 4) (.a (.v 0) (.k 3))) (.or (.an (.le (.a (.v 0) (.k 5)) (.v 4)) (.lt (.v 4) (.v 1))) (.an (.le (.v 2) (.v 4)) (.or (.lt (.v 4) (.v 3)) (.le (.a (.v 3) (.c (.v 1))) (.v 4)))))) (.or (.lt (.v 4) (.v 3)) (.le (.a (.v 3) (.c (.v 1))) (.v 4))))))) [_,_,_,_,_] [_,_]) f1.1 hH.2.1 hlo jj)]
  have op : ∀ j : Nat, j ≤ cells.length → w16 b5 (fst kind base + 2 * j) = w16 b4 (fst kind base + 2 * j) := fun j hj => aY (w5.same _ (by exact (Z.q (.im (.le (.k 0) (.v 0)) (.im (.le (.a (.v 0) (.k 8)) (.v 1)) (.le (.k 0) (.a (.v 1) (.m 2 (.c (.v 0))))))) [_,_] [_]) hb.1 f1.1) (by exact (Z.q (.im (.le (.a (.v 0) (.k 8)) (.v 1)) (.no (.eq (.a (.v 1) (.m 2 (.c (.v 0)))) (.a (.v 0) (.k 3))))) [_,_] [_]) f1.1) (by exact (Z.q (.im (.le (.a (.v 0) (.k 8)) (.v 1)) (.no (.eq (.a (.v 1) (.m 2 (.c (.v 0)))) (.a (.a (.v 0) (.k 3)) (.k 1))))) [_,_] [_]) f1.1)) (w5.same _ (by exact (Z.q (.im (.le (.k 0) (.v 0)) (.im (.le (.a (.v 0) (.k 8)) (.v 1)) (.le (.k 0) (.a (.a (.v 1) (.m 2 (.c (.v 0)))) (.k 1))))) [_,_] [_]) hb.1 f1.1) (by exact (Z.q (.im (.le (.a (.v 0) (.k 8)) (.v 1)) (.no (.eq (.a (.a (.v 1) (.m 2 (.c (.v 0)))) (.k 1)) (.a (.v 0) (.k 3))))) [_,_] [_]) f1.1) (by exact (Z.q (.im (.le (.a (.v 0) (.k 8)) (.v 1)) (.no (.eq (.a (.a (.v 1) (.m 2 (.c (.v 0)))) (.k 1)) (.a (.a (.v 0) (.k 3)) (.k 1))))) [_,_] [_]) f1.1))
  have op2 : ∀ j : Nat, j < cells.length → w16 b2 (fst kind base + 2 * j) = w16 b1 (fst kind base + 2 * j) := fun j hj => aY (s2 _ (by exact (Z.q (.im (.le (.k 0) (.v 0)) (.im (.le (.a (.v 0) (.k 8)) (.v 1)) (.le (.k 0) (.a (.v 1) (.m 2 (.c (.v 0))))))) [_,_] [_]) hb.1 f1.1) (by exact (Z.q (.im (.neq (.v 0) (.v 1)) (.im (.le (.v 0) (.v 1)) (.im (.le (.a (.v 2) (.m 2 (.a (.c (.v 0)) (.c (.a (.k 0) (.k 1)))))) (.v 0)) (.im (.nlt (.v 2) (.v 1)) (.or (.lt (.a (.v 2) (.m 2 (.c (.v 2)))) (.v 1)) (.le (.a (.v 1) (.c (.v 3))) (.a (.v 2) (.m 2 (.c (.v 2)))))))))) [_,_,_] [_,_,_,_]) hCn hH.2.1 hlo hj)) (s2 _ (by exact (Z.q (.im (.le (.k 0) (.v 0)) (.im (.le (.a (.v 0) (.k 8)) (.v 1)) (.le (.k 0) (.a (.a (.v 1) (.m 2 (.c (.v 0)))) (.k 1))))) [_,_] [_]) hb.1 f1.1) (by exact (Z.q (.im (.neq (.v 0) (.v 1)) (.im (.le (.v 0) (.v 1)) (.im (.le (.a (.v 2) (.m 2 (.a (.c (.v 0)) (.c (.a (.k 0) (.k 1)))))) (.v 0)) (.im (.nlt (.v 2) (.v 1)) (.or (.lt (.a (.a (.v 2) (.m 2 (.c (.v 2)))) (.k 1)) (.v 1)) (.le (.a (.v 1) (.c (.v 3))) (.a (.a (.v 2) (.m 2 (.c (.v 2)))) (.k 1)))))))) [_,_,_] [_,_,_,_]) hCn hH.2.1 hlo hj))
  refine h1 (by exact (Z.q (.im (.no (.lt (.s (.s (.v 0) (.v 1)) (.v 2)) (.a (.v 3) (.k 2)))) (.le (.a (.v 3) (.k 2)) (.s (.s (.v 0) (.v 1)) (.v 2)))) [_,_,_,_] []) c1) _ b5 (C.take i ++ (at_, r) :: C.drop i) B c1' G ((le0.toX d).trans (le1.trans (le3.trans ((LeX.set d _ _).trans (LeX.set d _ _))))) N5
    ⟨(o1 _ (by exact (Z.q (.im (.le (.k 0) (.v 0)) (.le (.k 0) (.v 0))) [_] []) hb.1) (by exact (Z.q (.or (.lt (.v 0) (.a (.v 0) (.k 3))) (.or (.an (.le (.a (.v 0) (.k 5)) (.v 0)) (.lt (.v 0) (.v 1))) (.an (.le (.v 2) (.v 0)) (.or (.lt (.v 0) (.v 3)) (.le (.a (.v 3) (.c (.v 0))) (.v 0)))))) [_,_,_,_] [_]))).trans R1.kd, R1.isk, ?_, ?_, (o1 _ (by exact (Z.q (.im (.le (.k 0) (.v 0)) (.le (.k 0) (.a (.v 0) (.k 7)))) [_] []) hb.1) (by exact (Z.q (.im (.le (.a (.v 0) (.k 8)) (.v 1)) (.or (.lt (.a (.v 0) (.k 7)) (.a (.v 0) (.k 3))) (.or (.an (.le (.a (.v 0) (.k 5)) (.a (.v 0) (.k 7))) (.lt (.a (.v 0) (.k 7)) (.v 1))) (.an (.le (.v 2) (.a (.v 0) (.k 7))) (.or (.lt (.a (.v 0) (.k 7)) (.v 3)) (.le (.a (.v 3) (.c (.v 0))) (.a (.v 0) (.k 7)))))))) [_,_,_,_] [_]) f1.1)).trans R1.frg, R1.chain.same (o1 _ (by exact (Z.q (.im (.le (.k 0) (.v 0)) (.le (.k 0) (.a (.v 0) (.k 1)))) [_] []) hb.1) (by exact (Z.q (.or (.lt (.a (.v 0) (.k 1)) (.a (.v 0) (.k 3))) (.or (.an (.le (.a (.v 0) (.k 5)) (.a (.v 0) (.k 1))) (.lt (.a (.v 0) (.k 1)) (.v 1))) (.an (.le (.v 2) (.a (.v 0) (.k 1))) (.or (.lt (.a (.v 0) (.k 1)) (.v 3)) (.le (.a (.v 3) (.c (.v 0))) (.a (.v 0) (.k 1))))))) [_,_,_,_] [_]))) (o1 _ (by exact (Z.q (.im (.le (.k 0) (.v 0)) (.le (.k 0) (.a (.a (.v 0) (.k 1)) (.k 1)))) [_] []) hb.1) (by exact (Z.q (.or (.lt (.a (.a (.v 0) (.k 1)) (.k 1)) (.a (.v 0) (.k 3))) (.or (.an (.le (.a (.v 0) (.k 5)) (.a (.a (.v 0) (.k 1)) (.k 1))) (.lt (.a (.a (.v 0) (.k 1)) (.k 1)) (.v 1))) (.an (.le (.v 2) (.a (.a (.v 0) (.k 1)) (.k 1))) (.or (.lt (.a (.a (.v 0) (.k 1)) (.k 1)) (.v 3)) (.le (.a (.v 3) (.c (.v 0))) (.a (.a (.v 0) (.k 1)) (.k 1))))))) [_,_,_,_] [_]))) fun x hx j j0 j1 => ?_, R1.ord, fun j x hj => ?_, fun x hx => ?_, R1.lay.perm ?_, ?_, fun q => ?_, fun j j0 j1 => (o1 j j0 (by exact (Z.q (.im (.lt (.v 0) (.v 1)) (.or (.lt (.v 0) (.a (.v 1) (.k 3))) (.or (.an (.le (.a (.v 1) (.k 5)) (.v 0)) (.lt (.v 0) (.v 2))) (.an (.le (.v 3) (.v 0)) (.or (.lt (.v 0) (.v 4)) (.le (.a (.v 4) (.c (.v 0))) (.v 0))))))) [_,_,_,_,_] [_]) j1)).trans (R1.head j j0 j1)⟩ ?_
  · rw [w5.val]; simp only [List.length_append, List.length_cons, List.length_take, List.length_drop]; exact (Z.q (.im (.neq (.v 0) (.v 1)) (.im (.or (.an (.neq (.v 2) (.v 3)) (.nle (.v 3) (.v 0))) (.an (.neq (.v 2) (.v 0)) (.nle (.v 0) (.v 3)))) (.im (.or (.an (.neq (.a (.v 4) (.v 3)) (.v 0)) (.nle (.v 3) (.v 0))) (.an (.neq (.v 4) (.k 0)) (.nle (.v 0) (.v 3)))) (.eq (.a (.c (.v 1)) (.k 1)) (.c (.a (.v 2) (.a (.v 4) (.k 1)))))))) [] [_,_,_,_,_]) hCn (Z.mn _ _) (Z.sb _ _)
  · rw [← R1.con]; exact aY (o1 _ (by exact (Z.q (.im (.le (.k 0) (.v 0)) (.le (.k 0) (.a (.v 0) (.k 5)))) [_] []) hb.1) (by exact (Z.q (.im (.le (.a (.v 0) (.k 8)) (.v 1)) (.or (.lt (.a (.v 0) (.k 5)) (.a (.v 0) (.k 3))) (.or (.an (.le (.a (.v 0) (.k 5)) (.a (.v 0) (.k 5))) (.lt (.a (.v 0) (.k 5)) (.v 1))) (.an (.le (.v 2) (.a (.v 0) (.k 5))) (.or (.lt (.a (.v 0) (.k 5)) (.v 3)) (.le (.a (.v 3) (.c (.v 0))) (.a (.v 0) (.k 5)))))))) [_,_,_,_] [_]) f1.1)) (o1 _ (by exact (Z.q (.im (.le (.k 0) (.v 0)) (.le (.k 0) (.a (.a (.v 0) (.k 5)) (.k 1)))) [_] []) hb.1) (by exact (Z.q (.im (.le (.a (.v 0) (.k 8)) (.v 1)) (.or (.lt (.a (.a (.v 0) (.k 5)) (.k 1)) (.a (.v 0) (.k 3))) (.or (.an (.le (.a (.v 0) (.k 5)) (.a (.a (.v 0) (.k 5)) (.k 1))) (.lt (.a (.a (.v 0) (.k 5)) (.k 1)) (.v 1))) (.an (.le (.v 2) (.a (.a (.v 0) (.k 5)) (.k 1))) (.or (.lt (.a (.a (.v 0) (.k 5)) (.k 1)) (.v 3)) (.le (.a (.v 3) (.c (.v 0))) (.a (.a (.v 0) (.k 5)) (.k 1)))))))) [_,_,_,_] [_]) f1.1))
  · have a := R1.ord2.2 x hx
    have a2 := hAp x (List.mem_append_right _ hx)
    unfold Ap2 at a2
    dsimp only at a2
    exact o1 j (by exact (Z.q (.im (.le (.k 0) (.v 0)) (.im (.le (.a (.v 0) (.k 8)) (.v 1)) (.im (.le (.a (.v 1) (.m 2 (.a (.c (.v 0)) (.c (.a (.k 0) (.k 1)))))) (.v 2)) (.im (.le (.v 3) (.v 4)) (.im (.le (.v 2) (.v 3)) (.le (.k 0) (.v 4))))))) [_,_,_,_,_] [_]) hb.1 f1.1 hlo j0 a.2.1) (.inr (.inr (apj hz.2 a.2.1 j0 j1 a.1 a2)))
  · rcases Nat.lt_trichotomy j i with q | q | q
    · rw [List.getElem?_append_left (by rw [List.length_take]; exact (Z.q (.im (.nle (.v 0) (.v 1)) (.im (.neq (.v 2) (.v 1)) (.im (.nlt (.v 3) (.v 0)) (.im (.or (.an (.neq (.v 4) (.v 0)) (.nle (.v 0) (.v 2))) (.an (.neq (.v 4) (.v 2)) (.nle (.v 2) (.v 0)))) (.nlt (.v 3) (.v 4)))))) [] [_,_,_,_,_]) hi hCn q (Z.mn _ _)), List.getElem?_take_of_lt q] at hj
      rw [op j (by exact (Z.q (.im (.nle (.v 0) (.v 1)) (.im (.nlt (.v 2) (.v 0)) (.nle (.v 2) (.v 1)))) [] [_,_,_]) hi q), ← R1.ptr j x hj, ← op2 j (by exact (Z.q (.im (.nle (.v 0) (.v 1)) (.im (.nlt (.v 2) (.v 0)) (.nlt (.v 2) (.v 1)))) [] [_,_,_]) hi q)]
      exact aY ((w4.same _ (by exact (Z.q (.im (.le (.k 0) (.v 0)) (.im (.le (.a (.v 0) (.k 8)) (.v 1)) (.le (.k 0) (.a (.v 1) (.m 2 (.c (.v 0))))))) [_,_] [_]) hb.1 f1.1) (by exact (Z.q (.im (.nlt (.v 0) (.v 1)) (.no (.eq (.a (.v 0) (.m 2 (.c (.v 0)))) (.a (.v 0) (.m 2 (.c (.v 1))))))) [_] [_,_]) q) (by exact (Z.q (.im (.nlt (.v 0) (.v 1)) (.no (.eq (.a (.v 0) (.m 2 (.c (.v 0)))) (.a (.a (.v 0) (.m 2 (.c (.v 1)))) (.k 1))))) [_] [_,_]) q)).trans (o3 _ (by exact (Z.q (.im (.le (.k 0) (.v 0)) (.im (.le (.a (.v 0) (.k 8)) (.v 1)) (.le (.k 0) (.a (.v 1) (.m 2 (.c (.v 0))))))) [_,_] [_]) hb.1 f1.1) (by exact (Z.q (.im (.nlt (.v 0) (.v 1)) (.im (.or (.an (.neq (.a (.v 2) (.v 1)) (.v 3)) (.nle (.v 1) (.v 3))) (.an (.neq (.v 2) (.k 0)) (.nle (.v 3) (.v 1)))) (.or (.lt (.a (.v 0) (.m 2 (.c (.v 0)))) (.a (.v 0) (.m 2 (.a (.s (.c (.v 3)) (.c (.v 2))) (.k 1))))) (.le (.a (.v 0) (.m 2 (.a (.c (.v 3)) (.k 1)))) (.a (.v 0) (.m 2 (.c (.v 0)))))))) [_] [_,_,_,_]) q (Z.sb _ _)))) ((w4.same _ (by exact (Z.q (.im (.le (.k 0) (.v 0)) (.im (.le (.a (.v 0) (.k 8)) (.v 1)) (.le (.k 0) (.a (.a (.v 1) (.m 2 (.c (.v 0)))) (.k 1))))) [_,_] [_]) hb.1 f1.1) par2 (by exact (Z.q (.im (.nlt (.v 0) (.v 1)) (.no (.eq (.a (.a (.v 0) (.m 2 (.c (.v 0)))) (.k 1)) (.a (.a (.v 0) (.m 2 (.c (.v 1)))) (.k 1))))) [_] [_,_]) q)).trans (o3 _ (by exact (Z.q (.im (.le (.k 0) (.v 0)) (.im (.le (.a (.v 0) (.k 8)) (.v 1)) (.le (.k 0) (.a (.a (.v 1) (.m 2 (.c (.v 0)))) (.k 1))))) [_,_] [_]) hb.1 f1.1) (by exact (Z.q (.im (.nlt (.v 0) (.v 1)) (.im (.or (.an (.neq (.a (.v 2) (.v 1)) (.v 3)) (.nle (.v 1) (.v 3))) (.an (.neq (.v 2) (.k 0)) (.nle (.v 3) (.v 1)))) (.or (.lt (.a (.a (.v 0) (.m 2 (.c (.v 0)))) (.k 1)) (.a (.v 0) (.m 2 (.a (.s (.c (.v 3)) (.c (.v 2))) (.k 1))))) (.le (.a (.v 0) (.m 2 (.a (.c (.v 3)) (.k 1)))) (.a (.a (.v 0) (.m 2 (.c (.v 0)))) (.k 1)))))) [_] [_,_,_,_]) q (Z.sb _ _))))
    · rw [List.getElem?_append_right (by rw [List.length_take]; exact (Z.q (.im (.neq (.v 0) (.v 1)) (.im (.or (.an (.neq (.v 2) (.v 1)) (.nle (.v 1) (.v 3))) (.an (.neq (.v 2) (.v 3)) (.nle (.v 3) (.v 1)))) (.nle (.v 2) (.v 0)))) [] [_,_,_,_]) q (Z.mn _ _)), List.length_take, show j - min i C.length = 0 by exact (Z.q (.im (.nle (.v 0) (.v 1)) (.im (.neq (.v 2) (.v 1)) (.im (.neq (.v 3) (.v 0)) (.im (.or (.an (.neq (.a (.v 4) (.v 5)) (.v 3)) (.nle (.v 5) (.v 3))) (.an (.neq (.v 4) (.k 0)) (.nle (.v 3) (.v 5)))) (.im (.or (.an (.neq (.v 5) (.v 0)) (.nle (.v 0) (.v 2))) (.an (.neq (.v 5) (.v 2)) (.nle (.v 2) (.v 0)))) (.neq (.v 4) (.k 0))))))) [] [_,_,_,_,_,_]) hi hCn q (Z.sb _ _) (Z.mn _ _)] at hj
      obtain rfl : (at_, r) = x := by simpa using hj
      rw [op j (by exact (Z.q (.im (.nle (.v 0) (.v 1)) (.im (.neq (.v 2) (.v 0)) (.nle (.v 2) (.v 1)))) [] [_,_,_]) hi q), q]; exact w4.val
    · rw [List.getElem?_append_right (by rw [List.length_take]; exact (Z.q (.im (.nlt (.v 0) (.v 1)) (.im (.or (.an (.neq (.v 2) (.v 0)) (.nle (.v 0) (.v 3))) (.an (.neq (.v 2) (.v 3)) (.nle (.v 3) (.v 0)))) (.nle (.v 2) (.v 1)))) [] [_,_,_,_]) q (Z.mn _ _)), List.length_take, show j - min i C.length = (j - i - 1) + 1 by rw [Nat.min_eq_left (Nat.le_trans hi (Nat.le_of_eq hCn.symm))]; exact (Nat.sub_add_cancel (Nat.sub_pos_of_lt q)).symm, List.getElem?_cons_succ, List.getElem?_drop, show i + (j - i - 1) = j - 1 by exact (Z.q (.im (.nlt (.v 0) (.v 1)) (.im (.or (.an (.neq (.a (.v 2) (.k 1)) (.v 3)) (.nle (.k 1) (.v 3))) (.an (.neq (.v 2) (.k 0)) (.nle (.v 3) (.k 1)))) (.im (.or (.an (.neq (.a (.v 4) (.k 1)) (.v 1)) (.nle (.k 1) (.v 1))) (.an (.neq (.v 4) (.k 0)) (.nle (.v 1) (.k 1)))) (.im (.or (.an (.neq (.a (.v 3) (.v 0)) (.v 1)) (.nle (.v 0) (.v 1))) (.an (.neq (.v 3) (.k 0)) (.nle (.v 1) (.v 0)))) (.neq (.a (.v 0) (.v 2)) (.v 4)))))) [] [_,_,_,_,_]) q (Z.sb _ _) (Z.sb _ _) (Z.sb _ _)] at hj
      have hjl := (List.getElem?_eq_some_iff.mp hj).1
      have e6 : fst kind base + 2 * ((j : Int) - 1) = fst kind base + 2 * ((j - 1 : Nat) : Int) := by exact (Z.q (.im (.nlt (.v 0) (.v 1)) (.im (.or (.an (.neq (.a (.v 2) (.k 1)) (.v 1)) (.nle (.k 1) (.v 1))) (.an (.neq (.v 2) (.k 0)) (.nle (.v 1) (.k 1)))) (.eq (.a (.v 0) (.m 2 (.s (.c (.v 1)) (.k 1)))) (.a (.v 0) (.m 2 (.c (.v 2))))))) [_] [_,_,_]) q (Z.sb _ _)
      rw [op j (by exact (Z.q (.im (.neq (.v 0) (.v 1)) (.im (.nlt (.v 2) (.v 0)) (.im (.eq (.a (.v 0) (.m 2 (.s (.c (.v 3)) (.k 1)))) (.a (.v 0) (.m 2 (.c (.v 2))))) (.nle (.v 3) (.v 1))))) [_] [_,_,_,_]) hCn hjl e6), ← R1.ptr (j - 1) x hj, ← op2 (j - 1) (by exact (Z.q (.im (.neq (.v 0) (.v 1)) (.im (.nlt (.v 2) (.v 0)) (.nlt (.v 2) (.v 1)))) [] [_,_,_]) hCn hjl), ← e6, ← p3 j (by rw [Nat.sub_sub_self hi]; exact q) (by exact (Z.q (.im (.neq (.v 0) (.v 1)) (.im (.nlt (.v 2) (.v 0)) (.im (.eq (.a (.v 0) (.m 2 (.s (.c (.v 3)) (.k 1)))) (.a (.v 0) (.m 2 (.c (.v 2))))) (.nle (.v 3) (.v 1))))) [_] [_,_,_,_]) hCn hjl e6)]
      exact aY (w4.same _ (by exact (Z.q (.im (.le (.k 0) (.v 0)) (.im (.le (.a (.v 0) (.k 8)) (.v 1)) (.le (.k 0) (.a (.v 1) (.m 2 (.c (.v 0))))))) [_,_] [_]) hb.1 f1.1) (by exact (Z.q (.im (.nlt (.v 0) (.v 1)) (.no (.eq (.a (.v 0) (.m 2 (.c (.v 1)))) (.a (.v 0) (.m 2 (.c (.v 0))))))) [_] [_,_]) q) par1) (w4.same _ (by exact (Z.q (.im (.le (.k 0) (.v 0)) (.im (.le (.a (.v 0) (.k 8)) (.v 1)) (.le (.k 0) (.a (.a (.v 1) (.m 2 (.c (.v 0)))) (.k 1))))) [_,_] [_]) hb.1 f1.1) (by exact (Z.q (.im (.nlt (.v 0) (.v 1)) (.no (.eq (.a (.a (.v 0) (.m 2 (.c (.v 1)))) (.k 1)) (.a (.v 0) (.m 2 (.c (.v 0))))))) [_] [_,_]) q) (by exact (Z.q (.im (.nlt (.v 0) (.v 1)) (.no (.eq (.a (.a (.v 0) (.m 2 (.c (.v 1)))) (.k 1)) (.a (.a (.v 0) (.m 2 (.c (.v 0)))) (.k 1))))) [_] [_,_]) q))
  · have hx' : x = (at_, r) ∨ x ∈ C := by
      rcases List.mem_append.mp hx with hx | hx
      · exact .inr (List.mem_of_mem_take hx)
      · rcases List.mem_cons.mp hx with hx | hx
        · exact .inl hx
        · exact .inr (List.mem_of_mem_drop hx)
    rcases hx' with rfl | hx
    · exact ⟨h2.same fun j j0 j1 => o j (by exact (Z.q (.im (.le (.k 0) (.v 0)) (.im (.le (.a (.v 0) (.k 8)) (.v 1)) (.im (.le (.v 2) (.v 3)) (.im (.le (.a (.v 1) (.m 2 (.a (.c (.v 0)) (.c (.a (.k 0) (.k 1)))))) (.v 2)) (.im (.le (.v 3) (.v 4)) (.le (.k 0) (.v 4))))))) [_,_,_,_,_] [_]) hb.1 f1.1 hH.2.1 hlo j0) (by exact (Z.q (.im (.le (.v 0) (.v 1)) (.im (.le (.v 1) (.v 2)) (.or (.lt (.v 2) (.a (.v 3) (.k 3))) (.or (.an (.le (.a (.v 3) (.k 5)) (.v 2)) (.lt (.v 2) (.v 4))) (.le (.v 0) (.v 2)))))) [_,_,_,_,_] []) hH.2.1 j0), hr⟩
    · refine ⟨(R1.cel x hx).1.same fun j j0 j1 => ?_, (R1.cel x hx).2⟩
      have a := R1.area hx
      have a2 := hAp (car x) (List.mem_append_left _ (List.mem_map_of_mem hx))
      have a3 := fv x.2
      unfold Ap2 car at a2
      dsimp only at a2
      exact o1 j (by exact (Z.q (.im (.le (.k 0) (.v 0)) (.im (.le (.a (.v 0) (.k 8)) (.v 1)) (.im (.le (.a (.v 1) (.m 2 (.a (.c (.v 0)) (.c (.a (.k 0) (.k 1)))))) (.v 2)) (.im (.le (.v 3) (.v 4)) (.im (.le (.v 2) (.v 3)) (.le (.k 0) (.v 4))))))) [_,_,_,_,_] [_]) hb.1 f1.1 hlo j0 a.1) (.inr (.inr (apj hz.2 a.1 j0 j1 a3.2 a2)))
  · rw [List.nil_append, List.map_append, List.map_cons, List.map_take, List.map_drop, List.append_assoc, List.cons_append]
    show List.Perm ((at_, sz r) :: (C.map car ++ B)) _
    refine .trans (.cons _ ?_) List.perm_middle.symm
    show List.Perm _ (List.take i (C.map car) ++ (List.drop i (C.map car) ++ B))
    rw [← List.append_assoc, List.take_append_drop]
  · simp only [List.length_append, List.length_cons, List.length_take, List.length_drop, List.length_nil]; exact (Z.q (.im (.le (.a (.v 0) (.m 2 (.a (.c (.v 0)) (.c (.a (.k 0) (.k 1)))))) (.v 1)) (.im (.or (.an (.neq (.v 1) (.v 2)) (.nle (.v 2) (.v 0))) (.an (.neq (.v 1) (.v 0)) (.nle (.v 0) (.v 2)))) (.im (.or (.an (.neq (.a (.v 3) (.v 2)) (.v 0)) (.nle (.v 2) (.v 0))) (.an (.neq (.v 3) (.k 0)) (.nle (.v 0) (.v 2)))) (.le (.a (.v 0) (.m 2 (.a (.c (.a (.v 1) (.a (.v 3) (.k 1)))) (.c (.k 0))))) (.v 1))))) [_,_] [_,_,_,_]) hlo (Z.mn _ _) (Z.sb _ _)
  · have ik := R1.isk
    rw [← R1.right q]
    unfold IsKind at ik
    unfold fst at f1 o1
    rw [if_neg (by exact (Z.q (.im (.lt (.v 0) (.k 10)) (.im (.or (.eq (.v 0) (.k 2)) (.or (.eq (.v 0) (.k 5)) (.or (.eq (.v 0) (.k 10)) (.eq (.v 0) (.k 13))))) (.no (.lt (.k 5) (.v 0))))) [_] []) q ik)] at f1 o1
    unfold w32
    rw [aY (o1 _ (by exact (Z.q (.im (.le (.k 0) (.v 0)) (.le (.k 0) (.a (.v 0) (.k 8)))) [_] []) hb.1) (by exact (Z.q (.or (.lt (.a (.v 0) (.k 8)) (.a (.v 0) (.k 3))) (.or (.an (.le (.a (.v 0) (.k 5)) (.a (.v 0) (.k 8))) (.lt (.a (.v 0) (.k 8)) (.a (.v 0) (.k 12)))) (.an (.le (.v 1) (.a (.v 0) (.k 8))) (.or (.lt (.a (.v 0) (.k 8)) (.v 2)) (.le (.a (.v 2) (.c (.v 0))) (.a (.v 0) (.k 8))))))) [_,_,_] [_]))) (o1 _ (by exact (Z.q (.im (.le (.k 0) (.v 0)) (.le (.k 0) (.a (.a (.v 0) (.k 8)) (.k 1)))) [_] []) hb.1) (by exact (Z.q (.or (.lt (.a (.a (.v 0) (.k 8)) (.k 1)) (.a (.v 0) (.k 3))) (.or (.an (.le (.a (.v 0) (.k 5)) (.a (.a (.v 0) (.k 8)) (.k 1))) (.lt (.a (.a (.v 0) (.k 8)) (.k 1)) (.a (.v 0) (.k 12)))) (.an (.le (.v 1) (.a (.a (.v 0) (.k 8)) (.k 1))) (.or (.lt (.a (.a (.v 0) (.k 8)) (.k 1)) (.v 2)) (.le (.a (.v 2) (.c (.v 0))) (.a (.a (.v 0) (.k 8)) (.k 1))))))) [_,_,_] [_]))), aY (o1 _ (by exact (Z.q (.im (.le (.k 0) (.v 0)) (.le (.k 0) (.a (.a (.v 0) (.k 8)) (.k 2)))) [_] []) hb.1) (by exact (Z.q (.or (.lt (.a (.a (.v 0) (.k 8)) (.k 2)) (.a (.v 0) (.k 3))) (.or (.an (.le (.a (.v 0) (.k 5)) (.a (.a (.v 0) (.k 8)) (.k 2))) (.lt (.a (.a (.v 0) (.k 8)) (.k 2)) (.a (.v 0) (.k 12)))) (.an (.le (.v 1) (.a (.a (.v 0) (.k 8)) (.k 2))) (.or (.lt (.a (.a (.v 0) (.k 8)) (.k 2)) (.v 2)) (.le (.a (.v 2) (.c (.v 0))) (.a (.a (.v 0) (.k 8)) (.k 2))))))) [_,_,_] [_]))) (o1 _ (by exact (Z.q (.im (.le (.k 0) (.v 0)) (.le (.k 0) (.a (.a (.a (.v 0) (.k 8)) (.k 2)) (.k 1)))) [_] []) hb.1) (by exact (Z.q (.or (.lt (.a (.a (.a (.v 0) (.k 8)) (.k 2)) (.k 1)) (.a (.v 0) (.k 3))) (.or (.an (.le (.a (.v 0) (.k 5)) (.a (.a (.a (.v 0) (.k 8)) (.k 2)) (.k 1))) (.lt (.a (.a (.a (.v 0) (.k 8)) (.k 2)) (.k 1)) (.a (.v 0) (.k 12)))) (.an (.le (.v 1) (.a (.a (.a (.v 0) (.k 8)) (.k 2)) (.k 1))) (.or (.lt (.a (.a (.a (.v 0) (.k 8)) (.k 2)) (.k 1)) (.v 2)) (.le (.a (.v 2) (.c (.v 0))) (.a (.a (.a (.v 0) (.k 8)) (.k 2)) (.k 1))))))) [_,_,_] [_])))]
  · rw [List.map_append, List.map_cons, List.map_take, List.map_drop, eC]
end

theorem kL {α β : Type} (g : α → β) {l l' : List β} (h : l.Perm l') : ∀ L : List α, l' = L.map g → ∃ S : List α, S.Perm L ∧ l = S.map g := by
  induction h with
  | nil => intro L e; exact ⟨[], by cases L with | nil => exact .nil | cons a b => simp at e, rfl⟩
  | cons x _ ih =>
    intro L e
    cases L with
    | nil => simp at e
    | cons a b =>
      obtain ⟨rfl, e2⟩ := List.cons.inj e
      obtain ⟨S, p, q⟩ := ih b e2
      exact ⟨a :: S, .cons _ p, by rw [q]; rfl⟩
  | swap x y l =>
    intro L e
    match L, e with
    | a :: c :: b, e =>
      obtain ⟨rfl, e2⟩ := List.cons.inj e
      obtain ⟨rfl, rfl⟩ := List.cons.inj e2
      exact ⟨c :: a :: b, .swap .., rfl⟩
    | [a], e => simp at e
    | [], e => simp at e
  | trans _ _ i1 i2 =>
    intro L e
    obtain ⟨S, p, q⟩ := i2 L e
    obtain ⟨S', p', q'⟩ := i1 S q
    exact ⟨S', p'.trans p, q'⟩
theorem k8 {α : Type} {Q : MV → Sto → Prop} {σ : Sto} {m : Nat} (g : α → MV) (key : α → Int) (hk : ∀ x, keyOf (g x) = some (key x)) {L : List α} (hm : σ[m]? = some (.list (L.map g))) (hl : L.length < 64) (hd : L.Pairwise fun x y => key x ≠ key y)
    (h : ∀ S : List α, S.Perm L → S.Pairwise (fun x y => key x < key y) → Q (.ref σ.length) (σ ++ [.list (S.map g)])) : We (cSorted [.ref m] σ) Q := by
  have kD : ∀ x, keyD (g x) = key x := fun x => by unfold keyD; rw [hk]; rfl
  have kG : ∀ (L : List α) i (hi : i < L.length), keyD ((L.map g).getD i .none) = key L[i] := fun L i hi => by
    rw [List.getD_eq_getElem?_getD, List.getElem?_map, List.getElem?_eq_getElem hi]; exact kD _
  have ok : SortOk (L.map g) := by
    refine ⟨by rw [List.length_map]; exact hl, fun x hx => ?_, fun i j hi hj n => ?_⟩
    · obtain ⟨y, _, rfl⟩ := List.mem_map.mp hx
      rw [hk]; rfl
    · rw [List.length_map] at hi hj
      rw [kG _ _ hi, kG _ _ hj]
      rcases Nat.lt_or_gt_of_ne n with q | q
      · exact List.pairwise_iff_getElem.mp hd i j hi hj q
      · exact (List.pairwise_iff_getElem.mp hd j i hj hi q).symm
  obtain ⟨p, q⟩ := ll ok
  obtain ⟨S, pS, eS⟩ := kL g p L rfl
  refine ⟨.ref σ.length, σ ++ [.list (sortM (L.map g))], by simp only [cSorted, hm, if_pos ok], ?_⟩
  rw [eS]
  refine h S pS (List.pairwise_iff_getElem.mpr fun i j hi hj ij => ?_)
  have := q i j ij (by rw [List.length_map, ← pS.length_eq]; exact hj)
  rw [eS, kG _ _ hi, kG _ _ hj] at this
  exact this
theorem gW : ∀ xs : List MV, eqL xs [] = some xs.isEmpty
  | [] => rfl
  | _ :: _ => rfl
theorem Ly.F_le {c us F : Int} {A : List Area} (L : Ly c us F A) : F ≤ us - c := by
  have h : ∀ A : List Area, (∀ x ∈ A, 4 ≤ x.2) → 0 ≤ tot A := by
    intro A; induction A with
    | nil => intro _; exact Int.le_refl _
    | cons x r ih =>
      intro h
      have := ih fun y hy => h y (List.mem_cons_of_mem _ hy)
      have := h x (List.mem_cons_self ..)
      show 0 ≤ x.2 + tot r
      exact (Z.q (.im (.le (.k 0) (.v 0)) (.im (.le (.k 4) (.v 1)) (.le (.k 0) (.a (.v 1) (.v 0))))) [_,_] []) (by assumption) this
  have := h A fun x hx => (L.each x hx).1
  have := L.sum; exact (Z.q (.im (.le (.k 0) (.v 0)) (.im (.eq (.a (.v 0) (.v 1)) (.s (.v 2) (.v 3))) (.le (.v 1) (.s (.v 2) (.v 3))))) [_,_,_,_] []) (by assumption) this
theorem Ly.front {c us F : Int} {A B R : List Area} {x : Area} (L : Ly c us F (A ++ (B ++ x :: R))) : Ly c us F (x :: (A ++ (B ++ R))) := L.perm (by
  rw [← List.append_assoc, ← List.append_assoc]; exact List.perm_middle)
theorem Ly.back {c us F : Int} {A B R : List Area} {x : Area} (L : Ly c us F (x :: (A ++ (B ++ R)))) : Ly c us F (A ++ (B ++ x :: R)) := L.perm (by
  rw [← List.append_assoc, ← List.append_assoc]; exact List.perm_middle.symm)
section
variable {Q : MV → Sto → Prop} {σ : Sto} {k d : Nat} {page us base kind c F v : Int} {b : List UInt8} {cells : List Cel} {blks X : List Area}
noncomputable def gbI (σ : Sto) (k ms : Nat) (S : List Area) (cells : List Cel) (c us : Int) (R' : List Area) (l : Loc) (s : Sto) : Prop :=
  ∃ D G, l "self" = some (.ref k) ∧ l "found" = some (.ref σ.length) ∧ l "fragments" = some (.int G) ∧ s[σ.length]? = some (.list (D.map bv)) ∧ s[ms]? = some (.list (S.map bv)) ∧ Le σ s ∧ Ly c us G (cells.map car ++ (D ++ R')) ∧
    (D ++ R').Pairwise (fun x y => x.1 + x.2 ≤ y.1) ∧ D ++ R' ≠ []
theorem lb (N : Nd σ k d page us base b) {a z : Int} (R : Rep us base kind b cells blks c F [(a, z)])
    (h : ∀ σ' b' B c' G, LeX d σ σ' → Nd σ' k d page us base b' → Rep us base kind b' cells B c' G [] → Q .none σ') : We (dF [.ref k, .int a, .int z] σ) Q := by
  have hu := N.us; have hb := N.bnd
  have h8 := R.nonneg hb; have hfew := R.few
  have N1 := N.le (Le.push σ (.list []))
  refine iU ?_
  unfold cv
  fail "s"
  refine dX N1 ?_
  rw [R.frg]
  fail "s"
  refine hU N1 R.chain (R.con.symm ▸ R.ord2) (by rw [R.con]; exact (Z.q (.im (.le (.k 8) (.v 0)) (.le (.k 1) (.v 0))) [_] []) h8) (by exact (Z.q (.im (.le (.v 0) (.k 128)) (.im (.le (.k 8) (.v 1)) (.im (.le (.a (.m 4 (.c (.v 0))) (.m 4 (.c (.v 1)))) (.s (.v 0) (.v 1))) (.nle (.v 1) (.k 90))))) [_,_] [_,_]) hu.2 h8 hfew) fun s1 m1 le1 _ hm1 => ?_
  fail "s"
  have LL := Le.push s1 (.list [.tup [.int a, .int z]])
  refine kS (LL _ _ hm1) (aS _ _) (by rw [List.length_map]; simp only [List.length_cons, List.length_nil]; exact (Z.q (.im (.le (.v 0) (.k 128)) (.im (.le (.k 8) (.v 1)) (.im (.le (.a (.m 4 (.c (.v 0))) (.m 4 (.c (.v 1)))) (.s (.v 0) (.v 1))) (.nle (.a (.v 1) (.a (.k 0) (.k 1))) (.k 100000))))) [_,_] [_,_]) hu.2 h8 hfew) ?_
  rw [show blks.map bv ++ [.tup [.int a, .int z]] = (blks ++ [(a, z)]).map bv from by rw [List.map_append]; rfl]
  have LL2 := LL.trans (Le.push _ (.list ((blks ++ [(a, z)]).map bv)))
  fail "s"
  have L0 : Ly c us F (cells.map car ++ (blks ++ [(a, z)])) := Ly.back (R := []) (by
    rw [List.append_nil]; exact R.lay)
  refine k8 bv (fun x => x.1) (fun _ => rfl) (aS _ _) (by simp only [List.length_append, List.length_cons, List.length_nil]; exact (Z.q (.im (.le (.v 0) (.k 128)) (.im (.le (.k 8) (.v 1)) (.im (.le (.a (.m 4 (.c (.v 0))) (.m 4 (.c (.v 1)))) (.s (.v 0) (.v 1))) (.nlt (.a (.v 1) (.a (.k 0) (.k 1))) (.k 64))))) [_,_] [_,_]) hu.2 h8 hfew) ?_ fun S pS oS => ?_
  · refine (List.pairwise_append.mp L0.apart).2.1.imp_of_mem fun {x y} hx hy q => ?_
    have e1 := L0.each x (List.mem_append_right _ hx)
    have e2 := L0.each y (List.mem_append_right _ hy)
    unfold Ap2 at q
    exact (Z.q (.im (.or (.le (.a (.v 0) (.v 1)) (.v 2)) (.le (.a (.v 2) (.v 3)) (.v 0))) (.im (.le (.k 4) (.v 1)) (.im (.le (.k 4) (.v 3)) (.no (.eq (.v 0) (.v 2)))))) [_,_,_,_] []) q e1.1 e2.1
  have L1 : Ly c us F (cells.map car ++ S) := L0.perm (List.Perm.append_left _ pS.symm)
  have hS : S.Pairwise fun x y => x.1 + x.2 ≤ y.1 := (oS.and (List.pairwise_append.mp L1.apart).2.1).imp_of_mem fun {x y} hx hy q => by
    have e2 := L1.each y (List.mem_append_right _ hy)
    have q2 := q.2
    unfold Ap2 at q2
    exact (Z.q (.im (.lt (.v 0) (.v 1)) (.im (.le (.k 4) (.v 2)) (.im (.or (.le (.a (.v 0) (.v 3)) (.v 1)) (.le (.a (.v 1) (.v 2)) (.v 0))) (.le (.a (.v 0) (.v 3)) (.v 1))))) [_,_,_,_] []) q.1 e2.1 q2
  have hSn : S ≠ [] := by
    rintro rfl
    have := pS.length_eq
    simp at this
  have Lb := LL2.trans (Le.push _ (.list (S.map bv)))
  have m0lt : σ.length < s1.length := Nat.lt_of_lt_of_le (by simp) le1.lenle
  have N5 := N1.le (le1.trans Lb)
  have hSat := aS ((s1 ++ [MO.list [.tup [.int a, .int z]]]) ++ [MO.list ((blks ++ [(a, z)]).map bv)]) (.list (S.map bv))
  have hF0 := Lb _ _ (le1 _ _ (aS σ (.list [])))
  have Lσ := (Le.push σ (.list [])).trans (le1.trans Lb)
  have hne : ((s1 ++ [MO.list [.tup [.int a, .int z]]]) ++ [MO.list ((blks ++ [(a, z)]).map bv)]).length ≠ σ.length := by simp only [List.length_append]; exact (Z.q (.im (.nlt (.v 0) (.v 1)) (.no (.neq (.a (.a (.v 1) (.v 2)) (.v 3)) (.v 0)))) [] [_,_,_,_]) m0lt
  generalize ((s1 ++ [MO.list [.tup [.int a, .int z]]]) ++ [MO.list ((blks ++ [(a, z)]).map bv)]).length = ms at hSat hne ⊢
  generalize ((s1 ++ [MO.list [.tup [.int a, .int z]]]) ++ [MO.list ((blks ++ [(a, z)]).map bv)]) ++ [MO.list (S.map bv)] = s5 at hSat Lσ N5 hF0 ⊢
  clear LL LL2 Lb hm1 le1 N1 m0lt
  refine fC bv S (gbI σ k ms S cells c us) ⟨[], F, by fail "l", by fail "l", by fail "l", hF0, hSat, Lσ, L1, hS, hSn⟩ ?_ ?_ ?_
  · rintro r l s ⟨_, _, _, _, _, _, q, _⟩; exact q
  · generalize Nx _ _ = Q'
    rintro ⟨f, y⟩ r l s ⟨D, G, e1, e2, e3, hD, hs, le, hL, hP, hn⟩
    have hlen := hL.len4
    rw [List.length_append, List.length_append, List.length_map] at hlen
    simp only [List.length_cons] at hlen
    rcases List.eq_nil_or_concat D with rfl | ⟨D', ⟨g, t⟩, rfl⟩
    · fail "s"
      refine gt (Le.push s (.list []) _ _ hD) (aS _ _) (gW _) ?_
      fail "s"
      refine eG ?_
      fail "s"
      have P2 := (Le.push s (.list [])).trans (Le.push _ (.list []))
      refine gt (P2 _ _ hD) (aS _ _) (gW _) ?_
      fail "s"
      refine eG ?_
      fail "s"
      refine ⟨⟨_, _, rfl, P2 _ _ hD⟩, ?_⟩
      fail "s"
      refine cH (P2 _ _ hD) (Nat.le_of_ble_eq_true rfl) ?_
      fail "s"
      exact ⟨[(f, y)], G, by fail "l", by fail "l", by fail "l", aT _ (P2 _ _ hD), dO hne (P2 _ _ hs), (le.trans P2).set (Nat.le_refl _) _, hL, hP, by simp⟩
    · rw [List.concat_eq_append] at hD hL hP
      have hDl : D'.length < 1000 := by simp only [List.concat_eq_append, List.length_append] at hlen; exact (Z.q (.im (.le (.v 0) (.k 128)) (.im (.le (.k 8) (.v 1)) (.im (.le (.m 4 (.c (.a (.v 0) (.a (.a (.v 1) (.v 2)) (.a (.v 3) (.k 1)))))) (.s (.v 0) (.v 1))) (.nlt (.v 1) (.k 1000))))) [_,_] [_,_,_,_]) hu.2 h8 hlen
      rw [List.map_append] at hD
      have hPp := (List.pairwise_append.mp hP).2.2 (g, t) (List.mem_append_right _ (List.mem_cons_self ..)) (f, y) (List.mem_cons_self ..)
      dsimp only at hPp
      have P1 := Le.push s (.list [])
      fail "s"
      refine gt (P1 _ _ hD) (aS _ _) (gW _) ?_
      rw [show (!(D'.map bv ++ [(g, t)].map bv).isEmpty) = true from by cases D' <;> rfl]
      fail "s"
      refine d6 (by decide) rfl ?_
      fail "s"
      refine gM (P1 _ _ hD) (by rw [List.length_map]; exact (Z.q (.im (.nlt (.v 0) (.k 1000)) (.nlt (.v 0) (.k 100000))) [] [_]) hDl) ?_
      fail "s"
      refine d6 (by decide) rfl ?_
      fail "s"
      refine gM (P1 _ _ hD) (by rw [List.length_map]; exact (Z.q (.im (.nlt (.v 0) (.k 1000)) (.nlt (.v 0) (.k 100000))) [] [_]) hDl) ?_
      fail "s"
      refine d6 (by decide) rfl ?_
      fail "s"
      have P2 := P1.trans (Le.push _ (.list []))
      refine gt (P2 _ _ hD) (aS _ _) (gW _) ?_
      rw [show (!(D'.map bv ++ [(g, t)].map bv).isEmpty) = true from by cases D' <;> rfl]
      fail "s"
      refine d6 (by decide) rfl ?_
      fail "s"
      refine gM (P2 _ _ hD) (by rw [List.length_map]; exact (Z.q (.im (.nlt (.v 0) (.k 1000)) (.nlt (.v 0) (.k 100000))) [] [_]) hDl) ?_
      fail "s"
      refine d6 (by decide) rfl ?_
      fail "s"
      refine gM (P2 _ _ hD) (by rw [List.length_map]; exact (Z.q (.im (.nlt (.v 0) (.k 1000)) (.nlt (.v 0) (.k 100000))) [] [_]) hDl) ?_
      fail "s"
      refine d6 (by decide) rfl ?_
      fail "s"
      have hL2 : Ly c us G ((g, t) :: (f, y) :: (cells.map car ++ (D' ++ r))) := by
        have := Ly.front (x := (f, y)) hL
        rw [List.append_assoc] at this
        have p : List.Perm (cells.map car ++ (D' ++ ((g, t) :: r))) ((g, t) :: (cells.map car ++ (D' ++ r))) := by
          rw [← List.append_assoc, ← List.append_assoc]; exact List.perm_middle
        exact Ly.perm this ((List.Perm.cons _ p).trans (.swap ..))
      refine br (fun c4 => ?_) fun c4 => ?_
      · fail "s"
        refine gM (P2 _ _ hD) (by rw [List.length_map]; exact (Z.q (.im (.nlt (.v 0) (.k 1000)) (.nlt (.v 0) (.k 100000))) [] [_]) hDl) ?_
        fail "s"
        refine d6 (by decide) rfl ?_
        fail "s"
        refine d6 (by decide) rfl ?_
        fail "s"
        refine d6 (by decide) rfl ?_
        fail "s"
        refine nT (P2 _ _ hD) (by rw [List.length_map]; exact (Z.q (.im (.nlt (.v 0) (.k 1000)) (.nlt (.v 0) (.k 100000))) [] [_]) hDl) ?_
        fail "s"
        have hM := hL2.merge hPp (by exact (Z.q (.im (.lt (.s (.s (.v 0) (.v 1)) (.v 2)) (.k 4)) (.lt (.s (.s (.v 0) (.v 1)) (.v 2)) (.k 4))) [_,_,_] []) c4)
        refine ⟨D' ++ [(g, f + y - g)], G - (f - g - t), by fail "l", by fail "l", by fail "l", by rw [List.map_append]; exact aT _ (P2 _ _ hD), dO hne (P2 _ _ hs), (le.trans P2).set (Nat.le_refl _) _, ?_, ?_, by simp⟩
        · rw [List.append_assoc]; exact Ly.back hM
        · rw [List.append_assoc] at hP ⊢
          obtain ⟨w1, w2, w3⟩ := List.pairwise_append.mp hP
          obtain ⟨w4, w5⟩ := List.pairwise_cons.mp w2
          obtain ⟨w6, w7⟩ := List.pairwise_cons.mp w5
          refine List.pairwise_append.mpr ⟨w1, List.pairwise_cons.mpr ⟨fun q hq => by have := w6 q hq; dsimp only at *; exact (Z.q (.im (.le (.a (.v 0) (.v 1)) (.v 2)) (.le (.a (.v 3) (.s (.a (.v 0) (.v 1)) (.v 3))) (.v 2))) [_,_,_,_] []) this, w7⟩, fun x hx q hq => ?_⟩
          rcases List.mem_cons.mp hq with rfl | hq
          · exact w3 x hx (g, t) (List.mem_cons_self ..)
          · exact w3 x hx q (List.mem_cons_of_mem _ (List.mem_cons_of_mem _ hq))
      · fail "s"
        refine ⟨⟨_, _, rfl, P2 _ _ hD⟩, ?_⟩
        fail "s"
        refine cH (P2 _ _ hD) (by rw [List.length_append, List.length_map]; simp only [List.length_map, List.length_cons, List.length_nil]; exact (Z.q (.im (.nlt (.v 0) (.k 1000)) (.nlt (.a (.v 0) (.a (.k 0) (.k 1))) (.k 100000))) [] [_]) hDl) ?_
        fail "s"
        exact ⟨D' ++ [(g, t)] ++ [(f, y)], G, by fail "l", by fail "l", by fail "l", by rw [List.map_append, List.map_append]; exact aT _ (P2 _ _ hD), dO hne (P2 _ _ hs), (le.trans P2).set (Nat.le_refl _) _, by rw [List.append_assoc]; exact hL, by rw [List.append_assoc]; exact hP, by simp⟩
  · rintro l s ⟨D, G, e1, e2, e3, hD, _, le, hL, hP, hn⟩
    rw [List.append_nil] at hL hP hn
    have hG := hL.nn
    have hlen := hL.len4
    rw [List.length_append, List.length_map] at hlen
    have Ns := N.le le
    match D, hn with
    | (f, y) :: D', _ =>
    have hf := hL.each (f, y) (List.mem_append_right _ (List.mem_cons_self ..))
    dsimp only at hf
    have hlo := R.low
    simp only [List.length_cons, List.length_nil] at hlo
    have f1 := eY (kind := kind) hb
    have hl := N.len
    fail "s"
    refine bl hD (by decide) rfl ?_
    fail "n"
    refine Ws.mono (Q := fun fl l' s' => fl = .next ∧ l' "self" = some (.ref k) ∧ ∃ m D2 c2 G2 b2, l' "found" = some (.ref m) ∧ s'[m]? = some (.list (D2.map bv)) ∧ l' "fragments" = some (.int G2) ∧ LeX d σ s' ∧ Nd s' k d page us base b2 ∧ (∀ j, 0 ≤ j → j ≠ base + 5 → j ≠ base + 6 → rd b2 j = rd b j) ∧
      w16 b2 (base + 5) = c2 ∧ c ≤ c2 ∧ Ly c2 us G2 (cells.map car ++ D2) ∧ D2.Pairwise fun x y => x.1 + x.2 ≤ y.1) ?_ ?_
    · fail "s"
      refine dJ Ns ?_
      rw [R.con]
      fail "s"
      refine br (fun c4 => ?_) fun c4 => ?_
      · fail "s"
        refine dJ Ns ?_
        rw [R.con]
        fail "s"
        refine dJ Ns ?_
        rw [R.con]
        fail "s"
        refine az Ns.dat (by have := Ns.len; exact (Z.q (.im (.le (.k 64) (.v 0)) (.im (.le (.v 0) (.k 128)) (.im (.le (.k 0) (.v 1)) (.im (.le (.v 1) (.k 32)) (.im (.eq (.c (.v 0)) (.v 0)) (.an (.le (.k 0) (.a (.v 1) (.k 5))) (.an (.lt (.a (.a (.v 1) (.k 5)) (.k 1)) (.c (.v 0))) (.nle (.v 0) (.k 1000))))))))) [_,_] [_]) hu.1 hu.2 hb.1 hb.2 hl) (by exact (Z.q (.im (.le (.v 0) (.k 128)) (.im (.le (.k 0) (.v 1)) (.im (.le (.k 4) (.v 2)) (.im (.le (.v 3) (.v 4)) (.im (.le (.a (.v 4) (.v 2)) (.v 0)) (.im (.le (.a (.v 5) (.m 2 (.a (.c (.v 0)) (.c (.a (.k 0) (.k 1)))))) (.v 3)) (.im (.le (.a (.v 1) (.k 8)) (.v 5)) (.an (.le (.k 0) (.a (.v 4) (.v 2))) (.lt (.a (.v 4) (.v 2)) (.k 65536)))))))))) [_,_,_,_,_,_] [_]) hu.2 hb.1 hf.1 hf.2.1 hf.2.2 hlo f1.1) fun b2 w2 => ?_
        have N2 := Ns.leX (LeX.set d s (.ba b2)) (aT _ Ns.dat) w2.len
        have hD2 := LeX.set d s (.ba b2) _ _ (gA hD Ns.dat) hD
        fail "s"
        refine kN hD2 (by rw [List.length_map]; exact (Z.q (.im (.le (.v 0) (.k 128)) (.im (.le (.k 8) (.v 1)) (.im (.le (.m 4 (.c (.a (.v 0) (.v 1)))) (.s (.v 0) (.v 1))) (.nle (.v 1) (.k 100000))))) [_,_] [_,_]) hu.2 h8 hlen) ?_
        rw [show (1 : Int) = ((1 : Nat) : Int) from rfl, k6 (by simp)]
        have N3 := N2.le (Le.push _ (.list (((f, y) :: D').map bv |>.drop 1)))
        fail "s"
        refine ⟨rfl, by fail "l", _, D', f + y, G - (f - c), b2, by fail "l", aS _ _, by fail "l", (le.toX d).trans ((LeX.set d _ _).trans ((Le.push _ _).toX d)), N3, fun j j0 j5 j6 => w2.same j j0 j5 (by exact (Z.q (.im (.no (.eq (.v 0) (.a (.v 1) (.k 6)))) (.no (.eq (.v 0) (.a (.a (.v 1) (.k 5)) (.k 1))))) [_,_] []) j6), w2.val, by exact (Z.q (.im (.le (.k 4) (.v 0)) (.im (.le (.v 1) (.v 2)) (.le (.v 1) (.a (.v 2) (.v 0))))) [_,_,_] []) hf.1 hf.2.1, ?_, (List.pairwise_cons.mp hP).2⟩
        exact Ly.raise4 (Ly.front (B := []) hL) c4
      · fail "s"
        exact ⟨rfl, by fail "l", _, (f, y) :: D', c, G, b, by fail "l", hD, by fail "l", le.toX d, Ns, fun _ _ _ _ => rfl, R.con, Int.le_refl _, hL, hP⟩
    rintro _ l2 s2 ⟨rfl, g1, m, D2, c2, G2, b2, g2, hD2, g3, le2, N2, o2, hc2, hcc, hL2, hP2⟩
    have hG2 := hL2.nn
    have hG3 := hL2.F_le
    have hl2 := N2.len
    fail "s"
    rw [show max (0 : Int) G2 = G2 by exact (Z.q (.im (.le (.k 0) (.v 0)) (.im (.or (.an (.eq (.v 1) (.k 0)) (.le (.v 0) (.k 0))) (.an (.eq (.v 1) (.v 0)) (.le (.k 0) (.v 0)))) (.eq (.v 1) (.v 0)))) [_,_] []) hG2 (Z.mxi _ _)]
    refine lA N2.dat ⟨by exact (Z.q (.im (.le (.k 0) (.v 0)) (.le (.k 0) (.a (.v 0) (.k 7)))) [_] []) hb.1, by exact (Z.q (.im (.le (.k 4) (.v 0)) (.im (.le (.v 1) (.v 2)) (.im (.le (.a (.v 2) (.v 0)) (.v 3)) (.im (.le (.a (.v 4) (.m 2 (.a (.c (.v 0)) (.c (.a (.k 0) (.k 1)))))) (.v 1)) (.im (.le (.a (.v 5) (.k 8)) (.v 4)) (.im (.eq (.c (.v 1)) (.v 3)) (.lt (.a (.v 5) (.k 7)) (.c (.v 1))))))))) [_,_,_,_,_,_] [_,_]) hf.1 hf.2.1 hf.2.2 hlo f1.1 hl2, by exact (Z.q (.im (.le (.v 0) (.k 128)) (.im (.eq (.c (.v 0)) (.v 0)) (.nle (.v 0) (.k 100000)))) [_] [_]) hu.2 hl2, hG2, by exact (Z.q (.im (.le (.v 0) (.k 128)) (.im (.le (.k 8) (.v 1)) (.im (.le (.v 1) (.v 2)) (.im (.le (.v 3) (.s (.v 0) (.v 2))) (.lt (.v 3) (.k 256)))))) [_,_,_,_] []) hu.2 h8 hcc hG3⟩ ?_
    have hset : ∀ j, 0 ≤ j → rd (b2.set (base + 7).toNat G2.toNat.toUInt8) j = if j = base + 7 then G2 else rd b2 j := fun j j0 => jK (by exact (Z.q (.im (.le (.k 0) (.v 0)) (.le (.k 0) (.a (.v 0) (.k 7)))) [_] []) hb.1) (by exact (Z.q (.im (.le (.k 4) (.v 0)) (.im (.le (.v 1) (.v 2)) (.im (.le (.a (.v 2) (.v 0)) (.v 3)) (.im (.le (.a (.v 4) (.m 2 (.a (.c (.v 0)) (.c (.a (.k 0) (.k 1)))))) (.v 1)) (.im (.le (.a (.v 5) (.k 8)) (.v 4)) (.im (.eq (.c (.v 1)) (.v 3)) (.lt (.a (.v 5) (.k 7)) (.c (.v 1))))))))) [_,_,_,_,_,_] [_,_]) hf.1 hf.2.1 hf.2.2 hlo f1.1 hl2) j0 (by exact (Z.q (.im (.le (.v 0) (.k 128)) (.im (.le (.k 8) (.v 1)) (.im (.le (.v 1) (.v 2)) (.im (.le (.k 0) (.v 3)) (.im (.le (.v 3) (.s (.v 0) (.v 2))) (.an (.le (.k 0) (.v 3)) (.lt (.v 3) (.k 256)))))))) [_,_,_,_] []) hu.2 h8 hcc hG2 hG3)
    have hlen2 : (b2.set (base + 7).toNat G2.toNat.toUInt8).length = b2.length := List.length_set ..
    generalize b2.set (base + 7).toNat G2.toNat.toUInt8 = b3 at hset hlen2 ⊢
    have N3 := N2.leX (LeX.set d s2 (.ba b3)) (aT _ N2.dat) hlen2
    have hD3 := LeX.set d s2 (.ba b3) _ _ (gA hD2 N2.dat) hD2
    fail "s"
    refine fK N3 hD3 ⟨hP2, fun x hx => ?_⟩ fun s4 b4 le4 N4 post => ?_
    · have a := hL2.each x (List.mem_append_right _ hx)
      exact ⟨a.1, by exact (Z.q (.im (.le (.a (.v 0) (.m 2 (.a (.c (.v 0)) (.c (.a (.k 0) (.k 1)))))) (.v 1)) (.im (.le (.a (.v 2) (.k 8)) (.v 0)) (.im (.le (.v 1) (.v 3)) (.im (.le (.v 3) (.v 4)) (.le (.a (.v 2) (.k 8)) (.v 4)))))) [_,_,_,_,_] [_]) hlo f1.1 hcc a.2.1, a.2.2⟩
    fail "s"
    exact h _ b4 D2 c2 G2 (le2.trans ((LeX.set d _ _).trans le4)) N4 (R.relay hb hcc (fun j j0 j7 j5 j6 => ((hset j j0).trans (if_neg j7)).trans (o2 j j0 j5 j6)) ((aY ((hset _ (by exact (Z.q (.im (.le (.k 0) (.v 0)) (.le (.k 0) (.a (.v 0) (.k 5)))) [_] []) hb.1)).trans (if_neg (by exact (Z.q (.no (.eq (.a (.v 0) (.k 5)) (.a (.v 0) (.k 7)))) [_] [])))) ((hset _ (by exact (Z.q (.im (.le (.k 0) (.v 0)) (.le (.k 0) (.a (.a (.v 0) (.k 5)) (.k 1)))) [_] []) hb.1)).trans (if_neg (by exact (Z.q (.no (.eq (.a (.a (.v 0) (.k 5)) (.k 1)) (.a (.v 0) (.k 7)))) [_] []))))).trans hc2)
      ((hset _ (by exact (Z.q (.im (.le (.k 0) (.v 0)) (.le (.k 0) (.a (.v 0) (.k 7)))) [_] []) hb.1)).trans (if_pos rfl)) post hP2 hL2 (by simp only [List.length_nil]; exact (Z.q (.im (.le (.a (.v 0) (.m 2 (.a (.c (.v 0)) (.c (.a (.k 0) (.k 1)))))) (.v 1)) (.im (.le (.v 1) (.v 2)) (.le (.a (.v 0) (.m 2 (.a (.c (.v 0)) (.c (.k 0))))) (.v 2)))) [_,_,_] [_]) hlo hcc))
end

section
variable {Q : MV → Sto → Prop} {σ : Sto} {k d : Nat} {page us base kind c F v : Int} {b : List UInt8} {cells : List Cel} {blks X : List Area}
theorem o5 (N : Nd σ k d page us base b) (R : Rep us base kind b cells blks c F []) {i : Nat} (hi : i < cells.length)
    (h : ∀ σ' b' cells' B c' G, LeX d σ σ' → Nd σ' k d page us base b' → Rep us base kind b' cells' B c' G [] → cells'.map (·.2) = (cells.map (·.2)).eraseIdx i → Q .none σ') : We (ea [.ref k, .int i] σ) Q := by
  have hu := N.us; have hb := N.bnd
  have f1 := eY (kind := kind) hb
  obtain ⟨x, hx⟩ : ∃ x, cells[i]? = some x := ⟨_, List.getElem?_eq_getElem hi⟩
  have hxm := List.mem_of_getElem? hx
  have hxa := R.area hxm; have hz := fv x.2; have hfew := R.few; have hlo := R.low; have h8 := R.nonneg hb
  simp only [List.length_nil] at hlo
  refine ce ?_
  unfold eA
  fail "s"
  refine kH N R hx ?_
  fail "s"
  refine oQ N R hx fun s1 le1 => ?_
  have N1 := N.le le1
  fail "s"
  refine cI (by exact (Z.q (.im (.le (.v 0) (.k 128)) (.im (.le (.k 0) (.v 1)) (.im (.le (.a (.v 1) (.k 8)) (.v 2)) (.im (.le (.v 3) (.v 4)) (.im (.le (.a (.v 4) (.v 5)) (.v 0)) (.im (.le (.c (.v 0)) (.v 5)) (.im (.le (.a (.v 2) (.m 2 (.a (.c (.v 1)) (.c (.k 0))))) (.v 3)) (.nle (.v 0) (.k 100000))))))))) [_,_,_,_,_,_] [_,_]) hu.2 hb.1 f1.1 hxa.1 hxa.2 hz.2 hlo) ?_
  fail "s"
  rw [show max (4 : Int) x.2.length = sz x.2 from rfl]
  refine eR N1 ?_
  rw [R.cnt]
  fail "s"
  refine br (fun c1 => ?_) fun c1 => ?_
  · have N2 := N1.le (Le.push s1 (.list []))
    fail "s"
    refine jw (raws := []) N2 (aS _ _) R.kd R.isk R.right R.head (fun r hr => (nomatch hr)) (by show fst kind base + 2 * 0 + 0 ≤ us; exact (Z.q (.im (.le (.v 0) (.v 1)) (.im (.le (.a (.v 1) (.v 2)) (.v 3)) (.im (.le (.k 4) (.v 2)) (.im (.le (.a (.v 4) (.m 2 (.a (.c (.v 0)) (.c (.k 0))))) (.v 0)) (.le (.a (.a (.v 4) (.m 2 (.k 0))) (.k 0)) (.v 3)))))) [_,_,_,_,_] [_]) hxa.1 hxa.2 hz.1 hlo) (Nat.zero_le _) (fun r hr => (nomatch hr)) fun s2 b2 C c2 le2 N3 R3 e3 => ?_
    fail "s"
    refine h _ b2 C [] c2 0 (((le1.trans (Le.push _ _)).toX d).trans le2) N3 R3 ?_
    rw [e3]
    refine (List.eq_nil_of_length_eq_zero ?_).symm
    rw [List.length_eraseIdx, List.length_map, if_pos (by exact (Z.q (.im (.nlt (.v 0) (.v 1)) (.nlt (.v 0) (.v 1))) [] [_,_]) hi)]; exact (Z.q (.im (.eq (.c (.v 0)) (.k 1)) (.im (.or (.an (.neq (.a (.v 1) (.k 1)) (.v 0)) (.nle (.k 1) (.v 0))) (.an (.neq (.v 1) (.k 0)) (.nle (.v 0) (.k 1)))) (.neq (.v 1) (.k 0)))) [] [_,_]) c1 (Z.sb _ _)
  fail "s"
  refine dE N1 ?_
  rw [R.kd]
  fail "s"
  refine loopR2 (cells.length - 1 - i) (by exact (Z.q (.im (.nlt (.v 0) (.v 1)) (.im (.or (.an (.neq (.a (.v 2) (.v 0)) (.v 3)) (.nle (.v 0) (.v 3))) (.an (.neq (.v 2) (.k 0)) (.nle (.v 3) (.v 0)))) (.im (.or (.an (.neq (.a (.v 3) (.k 1)) (.v 1)) (.nle (.k 1) (.v 1))) (.an (.neq (.v 3) (.k 0)) (.nle (.v 1) (.k 1)))) (.eq (.s (.s (.c (.v 1)) (.k 1)) (.c (.v 0))) (.c (.v 2)))))) [] [_,_,_,_]) hi (Z.sb _ _) (Z.sb _ _)) (by exact (Z.q (.im (.le (.v 0) (.k 128)) (.im (.le (.k 0) (.v 1)) (.im (.le (.a (.v 1) (.k 8)) (.v 2)) (.im (.le (.a (.m 4 (.c (.v 0))) (.m 4 (.c (.v 1)))) (.s (.v 0) (.v 3))) (.im (.le (.a (.v 2) (.m 2 (.a (.c (.v 0)) (.c (.k 0))))) (.v 3)) (.im (.or (.an (.neq (.a (.v 2) (.v 3)) (.v 4)) (.nle (.v 3) (.v 4))) (.an (.neq (.v 2) (.k 0)) (.nle (.v 4) (.v 3)))) (.im (.or (.an (.neq (.a (.v 4) (.k 1)) (.v 0)) (.nle (.k 1) (.v 0))) (.an (.neq (.v 4) (.k 0)) (.nle (.v 0) (.k 1)))) (.nle (.v 2) (.k 1000))))))))) [_,_,_,_] [_,_,_,_,_]) hu.2 hb.1 f1.1 hfew hlo (Z.sb _ _) (Z.sb _ _)) (by exact (Z.q (.im (.nlt (.v 0) (.v 1)) (.im (.le (.v 0) (.k 128)) (.im (.le (.k 0) (.v 1)) (.im (.le (.a (.v 1) (.k 8)) (.v 2)) (.im (.le (.a (.m 4 (.c (.v 1))) (.m 4 (.c (.v 2)))) (.s (.v 0) (.v 3))) (.im (.le (.a (.v 2) (.m 2 (.a (.c (.v 1)) (.c (.k 0))))) (.v 3)) (.an (.le (.k (-1000)) (.c (.v 0))) (.le (.c (.v 0)) (.k 1000))))))))) [_,_,_,_] [_,_,_]) hi hu.2 hb.1 f1.1 hfew hlo) (fun t l s => ∃ b3, l "self" = some (.ref k) ∧ l "at" = some (.int x.1) ∧ l "size" = some (.int (sz x.2)) ∧ l "count" = some (.int cells.length) ∧ l "pointers" = some (.int (fst kind base)) ∧ LeX d σ s ∧ Nd s k d page us base b3 ∧
    (∀ j, 0 ≤ j → (j < fst kind base + 2 * i ∨ fst kind base + 2 * (i + t) ≤ j) → rd b3 j = rd b j) ∧ ∀ j : Nat, i ≤ j → j < i + t → w16 b3 (fst kind base + 2 * j) = w16 b (fst kind base + 2 * (j + 1)))
    ⟨b, by fail "l", by fail "l", by fail "l", by fail "l", by fail "l", le1.toX d, N1, fun _ _ _ => rfl, fun j j0 j1 => by exact (Z.q (.im (.nle (.v 0) (.v 1)) (.im (.nlt (.v 1) (.a (.v 0) (.k 0))) (.eq (.v 0) (.v 1)))) [_,_] [_,_]) j0 j1⟩ ?_ ?_
  · rintro t l s ht ⟨b3, e1, e2, e3, e4, e5, le3, N3, o3, p3⟩
    have hl3 := N3.len
    fail "s"
    refine cN N3.dat (inw c (f := fst kind base) hl3 hu.2 (by exact (Z.q (.im (.le (.v 0) (.v 1)) (.im (.le (.a (.v 1) (.v 2)) (.v 3)) (.im (.le (.k 4) (.v 2)) (.le (.v 0) (.v 3))))) [_,_,_,_] []) hxa.1 hxa.2 hz.1) (by exact (Z.q (.im (.le (.k 0) (.v 0)) (.im (.le (.a (.v 0) (.k 8)) (.v 1)) (.le (.k 0) (.v 1)))) [_,_] []) hb.1 f1.1) (by exact (Z.q (.le (.v 0) (.a (.a (.v 0) (.m 2 (.a (.c (.v 0)) (.c (.v 1))))) (.k 2))) [_] [_,_])) (by exact (Z.q (.im (.le (.a (.v 0) (.m 2 (.a (.c (.v 0)) (.c (.k 0))))) (.v 1)) (.im (.nlt (.v 1) (.v 2)) (.im (.or (.an (.neq (.a (.v 2) (.v 3)) (.v 4)) (.nle (.v 3) (.v 4))) (.an (.neq (.v 2) (.k 0)) (.nle (.v 4) (.v 3)))) (.im (.or (.an (.neq (.a (.v 4) (.k 1)) (.v 0)) (.nle (.k 1) (.v 0))) (.an (.neq (.v 4) (.k 0)) (.nle (.v 0) (.k 1)))) (.le (.a (.a (.a (.v 0) (.m 2 (.a (.c (.v 3)) (.c (.v 1))))) (.k 2)) (.k 2)) (.v 1)))))) [_,_] [_,_,_,_,_]) hlo ht (Z.sb _ _) (Z.sb _ _))) ?_
    have w0 := mA b3 (fst kind base + 2 * (i + t) + 2)
    have w1 := mB b3 (fst kind base + 2 * (i + t) + 2)
    fail "s"
    refine az N3.dat (inw c (f := fst kind base) hl3 hu.2 (by exact (Z.q (.im (.le (.v 0) (.v 1)) (.im (.le (.a (.v 1) (.v 2)) (.v 3)) (.im (.le (.k 4) (.v 2)) (.le (.v 0) (.v 3))))) [_,_,_,_] []) hxa.1 hxa.2 hz.1) (by exact (Z.q (.im (.le (.k 0) (.v 0)) (.im (.le (.a (.v 0) (.k 8)) (.v 1)) (.le (.k 0) (.v 1)))) [_,_] []) hb.1 f1.1) (by exact (Z.q (.le (.v 0) (.a (.v 0) (.m 2 (.a (.c (.v 0)) (.c (.v 1)))))) [_] [_,_])) (by exact (Z.q (.im (.le (.a (.v 0) (.m 2 (.a (.c (.v 0)) (.c (.k 0))))) (.v 1)) (.im (.nlt (.v 1) (.v 2)) (.im (.or (.an (.neq (.a (.v 2) (.v 3)) (.v 4)) (.nle (.v 3) (.v 4))) (.an (.neq (.v 2) (.k 0)) (.nle (.v 4) (.v 3)))) (.im (.or (.an (.neq (.a (.v 4) (.k 1)) (.v 0)) (.nle (.k 1) (.v 0))) (.an (.neq (.v 4) (.k 0)) (.nle (.v 0) (.k 1)))) (.le (.a (.a (.v 0) (.m 2 (.a (.c (.v 3)) (.c (.v 1))))) (.k 2)) (.v 1)))))) [_,_] [_,_,_,_,_]) hlo ht (Z.sb _ _) (Z.sb _ _))) ⟨w0, w1⟩ fun b4 w4 => ?_
    have N4 := N3.leX (LeX.set d _ (.ba b4)) (aT _ N3.dat) w4.len
    fail "s"
    refine ⟨b4, by fail "l", by fail "l", by fail "l", by fail "l", by fail "l", le3.trans (LeX.set d _ _), N4, fun j j0 jj => ?_, fun j j0 j1 => ?_⟩
    · rw [w4.same j j0 (by exact (Z.q (.im (.or (.lt (.v 0) (.a (.v 1) (.m 2 (.c (.v 0))))) (.le (.a (.v 1) (.m 2 (.a (.c (.v 0)) (.c (.a (.v 1) (.k 1)))))) (.v 0))) (.no (.eq (.v 0) (.a (.v 1) (.m 2 (.a (.c (.v 0)) (.c (.v 1)))))))) [_,_] [_,_]) jj) (by exact (Z.q (.im (.or (.lt (.v 0) (.a (.v 1) (.m 2 (.c (.v 0))))) (.le (.a (.v 1) (.m 2 (.a (.c (.v 0)) (.c (.a (.v 1) (.k 1)))))) (.v 0))) (.no (.eq (.v 0) (.a (.a (.v 1) (.m 2 (.a (.c (.v 0)) (.c (.v 1))))) (.k 1))))) [_,_] [_,_]) jj), o3 j j0 (by exact (Z.q (.im (.or (.lt (.v 0) (.a (.v 1) (.m 2 (.c (.v 0))))) (.le (.a (.v 1) (.m 2 (.a (.c (.v 0)) (.c (.a (.v 1) (.k 1)))))) (.v 0))) (.or (.lt (.v 0) (.a (.v 1) (.m 2 (.c (.v 0))))) (.le (.a (.v 1) (.m 2 (.a (.c (.v 0)) (.c (.v 1))))) (.v 0)))) [_,_] [_,_]) jj)]
    · rcases Nat.lt_or_ge j (i + t) with q | q
      · rw [aY (w4.same _ (by exact (Z.q (.im (.le (.k 0) (.v 0)) (.im (.le (.a (.v 0) (.k 8)) (.v 1)) (.le (.k 0) (.a (.v 1) (.m 2 (.c (.v 0))))))) [_,_] [_]) hb.1 f1.1) (by exact (Z.q (.im (.nlt (.v 0) (.a (.v 1) (.v 2))) (.no (.eq (.a (.v 0) (.m 2 (.c (.v 0)))) (.a (.v 0) (.m 2 (.a (.c (.v 1)) (.c (.v 2)))))))) [_] [_,_,_]) q) (by exact (Z.q (.im (.nlt (.v 0) (.a (.v 1) (.v 2))) (.no (.eq (.a (.v 0) (.m 2 (.c (.v 0)))) (.a (.a (.v 0) (.m 2 (.a (.c (.v 1)) (.c (.v 2))))) (.k 1))))) [_] [_,_,_]) q)) (w4.same _ (by exact (Z.q (.im (.le (.k 0) (.v 0)) (.im (.le (.a (.v 0) (.k 8)) (.v 1)) (.le (.k 0) (.a (.a (.v 1) (.m 2 (.c (.v 0)))) (.k 1))))) [_,_] [_]) hb.1 f1.1) par2 (by exact (Z.q (.im (.nlt (.v 0) (.a (.v 1) (.v 2))) (.no (.eq (.a (.a (.v 0) (.m 2 (.c (.v 0)))) (.k 1)) (.a (.a (.v 0) (.m 2 (.a (.c (.v 1)) (.c (.v 2))))) (.k 1))))) [_] [_,_,_]) q)), p3 j j0 q]
      · have ej : (fst kind base + 2 * (j : Int)) = fst kind base + 2 * ((i : Int) + t) := by exact (Z.q (.im (.nlt (.v 0) (.a (.v 1) (.a (.v 2) (.k 1)))) (.im (.nle (.a (.v 1) (.v 2)) (.v 0)) (.eq (.a (.v 0) (.m 2 (.c (.v 0)))) (.a (.v 0) (.m 2 (.a (.c (.v 1)) (.c (.v 2)))))))) [_] [_,_,_]) j1 q
        have ek : fst kind base + 2 * ((i : Int) + t) + 2 = fst kind base + 2 * (j + 1) := by exact (Z.q (.im (.nlt (.v 0) (.a (.v 1) (.a (.v 2) (.k 1)))) (.im (.nle (.a (.v 1) (.v 2)) (.v 0)) (.eq (.a (.a (.v 0) (.m 2 (.a (.c (.v 1)) (.c (.v 2))))) (.k 2)) (.a (.v 0) (.m 2 (.a (.c (.v 0)) (.k 1))))))) [_] [_,_,_]) j1 q
        rw [ej, w4.val, ek]
        exact aY (o3 _ (by exact (Z.q (.im (.le (.k 0) (.v 0)) (.im (.le (.a (.v 0) (.k 8)) (.v 1)) (.le (.k 0) (.a (.v 1) (.m 2 (.a (.c (.v 0)) (.k 1))))))) [_,_] [_]) hb.1 f1.1) (by exact (Z.q (.im (.nle (.a (.v 1) (.v 2)) (.v 0)) (.or (.lt (.a (.v 0) (.m 2 (.a (.c (.v 0)) (.k 1)))) (.a (.v 0) (.m 2 (.c (.v 1))))) (.le (.a (.v 0) (.m 2 (.a (.c (.v 1)) (.c (.v 2))))) (.a (.v 0) (.m 2 (.a (.c (.v 0)) (.k 1))))))) [_] [_,_,_]) q)) (o3 _ (by exact (Z.q (.im (.le (.k 0) (.v 0)) (.im (.le (.a (.v 0) (.k 8)) (.v 1)) (.le (.k 0) (.a (.a (.v 1) (.m 2 (.a (.c (.v 0)) (.k 1)))) (.k 1))))) [_,_] [_]) hb.1 f1.1) (by exact (Z.q (.im (.nle (.a (.v 1) (.v 2)) (.v 0)) (.or (.lt (.a (.a (.v 0) (.m 2 (.a (.c (.v 0)) (.k 1)))) (.k 1)) (.a (.v 0) (.m 2 (.c (.v 1))))) (.le (.a (.v 0) (.m 2 (.a (.c (.v 1)) (.c (.v 2))))) (.a (.a (.v 0) (.m 2 (.a (.c (.v 0)) (.k 1)))) (.k 1))))) [_] [_,_,_]) q))
  rintro l s ⟨b3, e1, e2, e3, e4, e5, le3, N3, o3, p3⟩
  have hl3 := N3.len
  fail "s"
  refine az N3.dat (by exact (Z.q (.im (.le (.k 64) (.v 0)) (.im (.le (.v 0) (.k 128)) (.im (.le (.k 0) (.v 1)) (.im (.le (.v 1) (.k 32)) (.im (.eq (.c (.v 0)) (.v 0)) (.an (.le (.k 0) (.a (.v 1) (.k 3))) (.an (.lt (.a (.a (.v 1) (.k 3)) (.k 1)) (.c (.v 0))) (.nle (.v 0) (.k 1000))))))))) [_,_] [_]) hu.1 hu.2 hb.1 hb.2 hl3) (by exact (Z.q (.im (.nlt (.v 0) (.v 1)) (.im (.le (.v 0) (.k 128)) (.im (.le (.k 0) (.v 1)) (.im (.le (.a (.v 1) (.k 8)) (.v 2)) (.im (.le (.a (.m 4 (.c (.v 1))) (.m 4 (.c (.v 2)))) (.s (.v 0) (.v 3))) (.im (.le (.a (.v 2) (.m 2 (.a (.c (.v 1)) (.c (.k 0))))) (.v 3)) (.an (.le (.k 0) (.s (.c (.v 1)) (.k 1))) (.lt (.s (.c (.v 1)) (.k 1)) (.k 65536))))))))) [_,_,_,_] [_,_,_]) hi hu.2 hb.1 f1.1 hfew hlo) fun b4 w4 => ?_
  have N4 := N3.leX (LeX.set d _ (.ba b4)) (aT _ N3.dat) w4.len
  fail "s"
  have o : ∀ j, 0 ≤ j → (j < base + 3 ∨ base + 5 ≤ j) → (j < fst kind base ∨ c ≤ j) → rd b4 j = rd b j := fun j j0 jj jk => by
    rw [w4.same j j0 (by exact (Z.q (.im (.or (.lt (.v 0) (.a (.v 1) (.k 3))) (.le (.a (.v 1) (.k 5)) (.v 0))) (.no (.eq (.v 0) (.a (.v 1) (.k 3))))) [_,_] []) jj) (by exact (Z.q (.im (.or (.lt (.v 0) (.a (.v 1) (.k 3))) (.le (.a (.v 1) (.k 5)) (.v 0))) (.no (.eq (.v 0) (.a (.a (.v 1) (.k 3)) (.k 1))))) [_,_] []) jj), o3 j j0 (by exact (Z.q (.im (.le (.a (.v 0) (.m 2 (.a (.c (.v 0)) (.c (.k 0))))) (.v 1)) (.im (.or (.lt (.v 2) (.v 0)) (.le (.v 1) (.v 2))) (.im (.or (.an (.neq (.a (.v 1) (.v 2)) (.v 3)) (.nle (.v 2) (.v 3))) (.an (.neq (.v 1) (.k 0)) (.nle (.v 3) (.v 2)))) (.im (.or (.an (.neq (.a (.v 3) (.k 1)) (.v 0)) (.nle (.k 1) (.v 0))) (.an (.neq (.v 3) (.k 0)) (.nle (.v 0) (.k 1)))) (.or (.lt (.v 2) (.a (.v 0) (.m 2 (.c (.v 2))))) (.le (.a (.v 0) (.m 2 (.a (.c (.v 2)) (.c (.v 1))))) (.v 2))))))) [_,_,_] [_,_,_,_]) hlo jk (Z.sb _ _) (Z.sb _ _))]
  have hel : (cells.eraseIdx i).length = cells.length - 1 := by rw [List.length_eraseIdx, if_pos hi]
  have hsub : ∀ y ∈ cells.eraseIdx i, y ∈ cells := fun y hy => List.mem_of_mem_eraseIdx hy
  have R4 : Rep us base kind b4 (cells.eraseIdx i) blks c F [(x.1, sz x.2)] := by
    refine ⟨(o _ (by exact (Z.q (.im (.le (.k 0) (.v 0)) (.le (.k 0) (.v 0))) [_] []) hb.1) (by exact (Z.q (.or (.lt (.v 0) (.a (.v 0) (.k 3))) (.le (.a (.v 0) (.k 5)) (.v 0))) [_] [])) (by exact (Z.q (.im (.le (.a (.v 0) (.k 8)) (.v 1)) (.or (.lt (.v 0) (.v 1)) (.le (.v 2) (.v 0)))) [_,_,_] []) f1.1)).trans R.kd, R.isk, ?_, (aY (o _ (by exact (Z.q (.im (.le (.k 0) (.v 0)) (.le (.k 0) (.a (.v 0) (.k 5)))) [_] []) hb.1) (by exact (Z.q (.or (.lt (.a (.v 0) (.k 5)) (.a (.v 0) (.k 3))) (.le (.a (.v 0) (.k 5)) (.a (.v 0) (.k 5)))) [_] [])) (by exact (Z.q (.im (.le (.a (.v 0) (.k 8)) (.v 1)) (.or (.lt (.a (.v 0) (.k 5)) (.v 1)) (.le (.v 2) (.a (.v 0) (.k 5))))) [_,_,_] []) f1.1)) (o _ (by exact (Z.q (.im (.le (.k 0) (.v 0)) (.le (.k 0) (.a (.a (.v 0) (.k 5)) (.k 1)))) [_] []) hb.1) (by exact (Z.q (.or (.lt (.a (.a (.v 0) (.k 5)) (.k 1)) (.a (.v 0) (.k 3))) (.le (.a (.v 0) (.k 5)) (.a (.a (.v 0) (.k 5)) (.k 1)))) [_] [])) (by exact (Z.q (.im (.le (.a (.v 0) (.k 8)) (.v 1)) (.or (.lt (.a (.a (.v 0) (.k 5)) (.k 1)) (.v 1)) (.le (.v 2) (.a (.a (.v 0) (.k 5)) (.k 1))))) [_,_,_] []) f1.1))).trans R.con, (o _ (by exact (Z.q (.im (.le (.k 0) (.v 0)) (.le (.k 0) (.a (.v 0) (.k 7)))) [_] []) hb.1) (by exact (Z.q (.or (.lt (.a (.v 0) (.k 7)) (.a (.v 0) (.k 3))) (.le (.a (.v 0) (.k 5)) (.a (.v 0) (.k 7)))) [_] [])) (by exact (Z.q (.im (.le (.a (.v 0) (.k 8)) (.v 1)) (.or (.lt (.a (.v 0) (.k 7)) (.v 1)) (.le (.v 2) (.a (.v 0) (.k 7))))) [_,_,_] []) f1.1)).trans R.frg, R.chain.same (o _ (by exact (Z.q (.im (.le (.k 0) (.v 0)) (.le (.k 0) (.a (.v 0) (.k 1)))) [_] []) hb.1) (by exact (Z.q (.or (.lt (.a (.v 0) (.k 1)) (.a (.v 0) (.k 3))) (.le (.a (.v 0) (.k 5)) (.a (.v 0) (.k 1)))) [_] [])) (by exact (Z.q (.im (.le (.a (.v 0) (.k 8)) (.v 1)) (.or (.lt (.a (.v 0) (.k 1)) (.v 1)) (.le (.v 2) (.a (.v 0) (.k 1))))) [_,_,_] []) f1.1)) (o _ (by exact (Z.q (.im (.le (.k 0) (.v 0)) (.le (.k 0) (.a (.a (.v 0) (.k 1)) (.k 1)))) [_] []) hb.1) (by exact (Z.q (.or (.lt (.a (.a (.v 0) (.k 1)) (.k 1)) (.a (.v 0) (.k 3))) (.le (.a (.v 0) (.k 5)) (.a (.a (.v 0) (.k 1)) (.k 1)))) [_] [])) (by exact (Z.q (.im (.le (.a (.v 0) (.k 8)) (.v 1)) (.or (.lt (.a (.a (.v 0) (.k 1)) (.k 1)) (.v 1)) (.le (.v 2) (.a (.a (.v 0) (.k 1)) (.k 1))))) [_,_,_] []) f1.1)) fun y hy j j0 j1 => ?_, R.ord,
      fun j y hj => ?_, fun y hy => ⟨(R.cel y (hsub y hy)).1.same fun j j0 j1 => ?_, (R.cel y (hsub y hy)).2⟩, R.lay.perm ?_, ?_, fun q => ?_, fun j j0 j1 => (o j j0 (by exact (Z.q (.im (.lt (.v 0) (.v 1)) (.or (.lt (.v 0) (.a (.v 1) (.k 3))) (.le (.a (.v 1) (.k 5)) (.v 0)))) [_,_] []) j1) (by exact (Z.q (.im (.le (.a (.v 0) (.k 8)) (.v 1)) (.im (.lt (.v 2) (.v 0)) (.or (.lt (.v 2) (.v 1)) (.le (.v 3) (.v 2))))) [_,_,_,_] []) f1.1 j1)).trans (R.head j j0 j1)⟩
    · rw [w4.val, hel]; exact (Z.q (.im (.nlt (.v 0) (.v 1)) (.im (.or (.an (.neq (.a (.v 2) (.k 1)) (.v 1)) (.nle (.k 1) (.v 1))) (.an (.neq (.v 2) (.k 0)) (.nle (.v 1) (.k 1)))) (.eq (.s (.c (.v 1)) (.k 1)) (.c (.v 2))))) [] [_,_,_]) hi (Z.sb _ _)
    · have := R.ord2.2 y hy
      exact o j (by exact (Z.q (.im (.le (.k 0) (.v 0)) (.im (.le (.a (.v 0) (.k 8)) (.v 1)) (.im (.le (.a (.v 1) (.m 2 (.a (.c (.v 0)) (.c (.k 0))))) (.v 2)) (.im (.le (.v 3) (.v 4)) (.im (.le (.v 2) (.v 3)) (.le (.k 0) (.v 4))))))) [_,_,_,_,_] [_]) hb.1 f1.1 hlo j0 this.2.1) (by exact (Z.q (.im (.le (.a (.v 0) (.k 8)) (.v 1)) (.im (.le (.a (.v 1) (.m 2 (.a (.c (.v 0)) (.c (.k 0))))) (.v 2)) (.im (.le (.v 3) (.v 4)) (.im (.le (.v 2) (.v 3)) (.or (.lt (.v 4) (.a (.v 0) (.k 3))) (.le (.a (.v 0) (.k 5)) (.v 4))))))) [_,_,_,_,_] [_]) f1.1 hlo j0 this.2.1) (by exact (Z.q (.im (.le (.v 0) (.v 1)) (.im (.le (.v 2) (.v 0)) (.or (.lt (.v 1) (.v 3)) (.le (.v 2) (.v 1))))) [_,_,_,_] []) j0 this.2.1)
    · have hjl := (List.getElem?_eq_some_iff.mp hj).1
      rw [hel] at hjl
      rw [aY (w4.same _ (by exact (Z.q (.im (.le (.k 0) (.v 0)) (.im (.le (.a (.v 0) (.k 8)) (.v 1)) (.le (.k 0) (.a (.v 1) (.m 2 (.c (.v 0))))))) [_,_] [_]) hb.1 f1.1) (by exact (Z.q (.im (.le (.a (.v 0) (.k 8)) (.v 1)) (.no (.eq (.a (.v 1) (.m 2 (.c (.v 0)))) (.a (.v 0) (.k 3))))) [_,_] [_]) f1.1) (by exact (Z.q (.im (.le (.a (.v 0) (.k 8)) (.v 1)) (.no (.eq (.a (.v 1) (.m 2 (.c (.v 0)))) (.a (.a (.v 0) (.k 3)) (.k 1))))) [_,_] [_]) f1.1)) (w4.same _ (by exact (Z.q (.im (.le (.k 0) (.v 0)) (.im (.le (.a (.v 0) (.k 8)) (.v 1)) (.le (.k 0) (.a (.a (.v 1) (.m 2 (.c (.v 0)))) (.k 1))))) [_,_] [_]) hb.1 f1.1) (by exact (Z.q (.im (.le (.a (.v 0) (.k 8)) (.v 1)) (.no (.eq (.a (.a (.v 1) (.m 2 (.c (.v 0)))) (.k 1)) (.a (.v 0) (.k 3))))) [_,_] [_]) f1.1) (by exact (Z.q (.im (.le (.a (.v 0) (.k 8)) (.v 1)) (.no (.eq (.a (.a (.v 1) (.m 2 (.c (.v 0)))) (.k 1)) (.a (.a (.v 0) (.k 3)) (.k 1))))) [_,_] [_]) f1.1))]
      rw [List.getElem?_eraseIdx] at hj
      split at hj
      · rw [← R.ptr j y hj]
        exact aY (o3 _ (by exact (Z.q (.im (.le (.k 0) (.v 0)) (.im (.le (.a (.v 0) (.k 8)) (.v 1)) (.le (.k 0) (.a (.v 1) (.m 2 (.c (.v 0))))))) [_,_] [_]) hb.1 f1.1) (by exact (Z.q (.im (.nlt (.v 0) (.v 1)) (.or (.lt (.a (.v 0) (.m 2 (.c (.v 0)))) (.a (.v 0) (.m 2 (.c (.v 1))))) (.le (.a (.v 0) (.m 2 (.a (.c (.v 1)) (.c (.v 2))))) (.a (.v 0) (.m 2 (.c (.v 0))))))) [_] [_,_,_]) (by assumption))) (o3 _ (by exact (Z.q (.im (.le (.k 0) (.v 0)) (.im (.le (.a (.v 0) (.k 8)) (.v 1)) (.le (.k 0) (.a (.a (.v 1) (.m 2 (.c (.v 0)))) (.k 1))))) [_,_] [_]) hb.1 f1.1) (by exact (Z.q (.im (.nlt (.v 0) (.v 1)) (.or (.lt (.a (.a (.v 0) (.m 2 (.c (.v 0)))) (.k 1)) (.a (.v 0) (.m 2 (.c (.v 1))))) (.le (.a (.v 0) (.m 2 (.a (.c (.v 1)) (.c (.v 2))))) (.a (.a (.v 0) (.m 2 (.c (.v 0)))) (.k 1))))) [_] [_,_,_]) (by assumption)))
      · rw [p3 j (by exact (Z.q (.im (.no (.nlt (.v 0) (.v 1))) (.nle (.v 1) (.v 0))) [] [_,_]) (by assumption)) (by exact (Z.q (.im (.nlt (.v 0) (.v 1)) (.im (.or (.an (.neq (.a (.v 2) (.v 3)) (.v 1)) (.nle (.v 3) (.v 1))) (.an (.neq (.v 2) (.k 0)) (.nle (.v 1) (.v 3)))) (.nlt (.v 0) (.a (.v 3) (.v 2))))) [] [_,_,_,_]) hjl (Z.sb _ _)), ← R.ptr (j + 1) y hj]; rfl
    · have := R.area (hsub y hy); have := fv y.2
      exact o j (by exact (Z.q (.im (.le (.k 0) (.v 0)) (.im (.le (.a (.v 0) (.k 8)) (.v 1)) (.im (.le (.a (.v 1) (.m 2 (.a (.c (.v 0)) (.c (.k 0))))) (.v 2)) (.im (.le (.v 3) (.v 4)) (.im (.an (.le (.v 2) (.v 3)) (.le (.a (.v 3) (.v 5)) (.v 6))) (.le (.k 0) (.v 4))))))) [_,_,_,_,_,_,_] [_]) hb.1 f1.1 hlo j0 (by assumption)) (by exact (Z.q (.im (.le (.a (.v 0) (.k 8)) (.v 1)) (.im (.le (.a (.v 1) (.m 2 (.a (.c (.v 0)) (.c (.k 0))))) (.v 2)) (.im (.le (.v 3) (.v 4)) (.im (.an (.le (.v 2) (.v 3)) (.le (.a (.v 3) (.v 5)) (.v 6))) (.or (.lt (.v 4) (.a (.v 0) (.k 3))) (.le (.a (.v 0) (.k 5)) (.v 4))))))) [_,_,_,_,_,_,_] [_]) f1.1 hlo j0 (by assumption)) (by exact (Z.q (.im (.le (.v 0) (.v 1)) (.im (.an (.le (.v 2) (.v 0)) (.le (.a (.v 0) (.v 3)) (.v 4))) (.or (.lt (.v 1) (.v 5)) (.le (.v 2) (.v 1))))) [_,_,_,_,_,_] []) j0 (by assumption))
    · obtain ⟨eB, _⟩ := jx hx
      rw [List.eraseIdx_eq_take_drop_succ, List.nil_append, List.map_append]
      conv => lhs; rw [eB]
      rw [List.map_append, List.map_cons, List.append_assoc, List.append_assoc]
      exact List.perm_middle
    · rw [hel]; simp only [List.length_cons, List.length_nil]; exact (Z.q (.im (.nlt (.v 0) (.v 1)) (.im (.le (.a (.v 0) (.m 2 (.a (.c (.v 1)) (.c (.k 0))))) (.v 1)) (.im (.or (.an (.neq (.a (.v 2) (.k 1)) (.v 1)) (.nle (.k 1) (.v 1))) (.an (.neq (.v 2) (.k 0)) (.nle (.v 1) (.k 1)))) (.le (.a (.v 0) (.m 2 (.a (.c (.v 2)) (.c (.a (.k 0) (.k 1)))))) (.v 1))))) [_,_] [_,_,_]) hi hlo (Z.sb _ _)
    · have ik := R.isk
      rw [← R.right q]
      unfold IsKind at ik
      unfold fst at f1 o
      rw [if_neg (by exact (Z.q (.im (.lt (.v 0) (.k 10)) (.im (.or (.eq (.v 0) (.k 2)) (.or (.eq (.v 0) (.k 5)) (.or (.eq (.v 0) (.k 10)) (.eq (.v 0) (.k 13))))) (.no (.lt (.k 5) (.v 0))))) [_] []) q ik)] at f1 o
      unfold w32
      rw [aY (o _ (by exact (Z.q (.im (.le (.k 0) (.v 0)) (.le (.k 0) (.a (.v 0) (.k 8)))) [_] []) hb.1) (by exact (Z.q (.or (.lt (.a (.v 0) (.k 8)) (.a (.v 0) (.k 3))) (.le (.a (.v 0) (.k 5)) (.a (.v 0) (.k 8)))) [_] [])) (by exact (Z.q (.or (.lt (.a (.v 0) (.k 8)) (.a (.v 0) (.k 12))) (.le (.v 1) (.a (.v 0) (.k 8)))) [_,_] []))) (o _ (by exact (Z.q (.im (.le (.k 0) (.v 0)) (.le (.k 0) (.a (.a (.v 0) (.k 8)) (.k 1)))) [_] []) hb.1) (by exact (Z.q (.or (.lt (.a (.a (.v 0) (.k 8)) (.k 1)) (.a (.v 0) (.k 3))) (.le (.a (.v 0) (.k 5)) (.a (.a (.v 0) (.k 8)) (.k 1)))) [_] [])) (by exact (Z.q (.or (.lt (.a (.a (.v 0) (.k 8)) (.k 1)) (.a (.v 0) (.k 12))) (.le (.v 1) (.a (.a (.v 0) (.k 8)) (.k 1)))) [_,_] []))), aY (o _ (by exact (Z.q (.im (.le (.k 0) (.v 0)) (.le (.k 0) (.a (.a (.v 0) (.k 8)) (.k 2)))) [_] []) hb.1) (by exact (Z.q (.or (.lt (.a (.a (.v 0) (.k 8)) (.k 2)) (.a (.v 0) (.k 3))) (.le (.a (.v 0) (.k 5)) (.a (.a (.v 0) (.k 8)) (.k 2)))) [_] [])) (by exact (Z.q (.or (.lt (.a (.a (.v 0) (.k 8)) (.k 2)) (.a (.v 0) (.k 12))) (.le (.v 1) (.a (.a (.v 0) (.k 8)) (.k 2)))) [_,_] []))) (o _ (by exact (Z.q (.im (.le (.k 0) (.v 0)) (.le (.k 0) (.a (.a (.a (.v 0) (.k 8)) (.k 2)) (.k 1)))) [_] []) hb.1) (by exact (Z.q (.or (.lt (.a (.a (.a (.v 0) (.k 8)) (.k 2)) (.k 1)) (.a (.v 0) (.k 3))) (.le (.a (.v 0) (.k 5)) (.a (.a (.a (.v 0) (.k 8)) (.k 2)) (.k 1)))) [_] [])) (by exact (Z.q (.or (.lt (.a (.a (.a (.v 0) (.k 8)) (.k 2)) (.k 1)) (.a (.v 0) (.k 12))) (.le (.v 1) (.a (.a (.a (.v 0) (.k 8)) (.k 2)) (.k 1)))) [_,_] [])))]
  refine lb N4 R4 fun s5 b5 B c5 G le5 N5 R5 => ?_
  fail "s"
  exact h _ b5 _ B c5 G (le3.trans ((LeX.set d _ _).trans le5)) N5 R5 (by rw [List.eraseIdx_eq_take_drop_succ, List.eraseIdx_eq_take_drop_succ, List.map_append, List.map_take, List.map_drop])
end

theorem mu : ∀ i, i < 33 → (Str.empty ++ Str.ofString "cell " ++ Str.ofString (toString ((i : Nat) : Int))).length ≤ 100000 := by decide +kernel
theorem m4 : (Str.empty ++ Str.ofString "cell ").length ≤ 100000 := by decide +kernel
theorem pM {Q : MV → Sto → Prop} {σ : Sto} {l : Loc} {x : String} {i : Nat} (e : l x = some (.int i)) (hi : i < 33) (h : ∀ s, Q (.str s) σ) : We (eFStr "cell " x l σ) Q := by
  have c : 0 ≤ (i : Int) ∧ (i : Int) ≤ 100000 ∧ (Str.empty ++ Str.ofString "cell ").length ≤ 100000 ∧ (Str.empty ++ Str.ofString "cell " ++ Str.ofString (toString (i : Int))).length ≤ 100000 := ⟨by exact (Z.q (.le (.k 0) (.c (.v 0))) [] [_]), by exact (Z.q (.im (.nlt (.v 0) (.k 33)) (.le (.c (.v 0)) (.k 100000))) [] [_]) hi, m4, mu i hi⟩
  exact ⟨_, σ, by unfold eFStr; rw [e]; exact if_pos c, h _⟩
noncomputable abbrev Ar := Area × Str
noncomputable abbrev av (t : Ar) : MV := .tup [.int t.1.1, .int (t.1.1 + t.1.2), .str t.2]
section
variable {Q : MV → Sto → Prop} {σ : Sto} {k d : Nat} {page us base kind c F v : Int} {b : List UInt8} {cells : List Cel} {blks X : List Area}
theorem ou (N : Nd σ k d page us base b) (R : Rep us base kind b cells blks c F [])
    (h : ∀ σ' m (S : List Ar), Le σ σ' → σ'[m]? = some (.list (S.map av)) → Ly c us F (S.map (·.1)) → S.Pairwise (fun x y => x.1.1 < y.1.1) → Q (.ref m) σ') : We (gl [.ref k] σ) Q := by
  have hu := N.us; have hb := N.bnd
  have hfew := R.few; have h8 := R.nonneg hb
  have N1 := N.le (Le.push σ (.list []))
  refine bg ?_
  unfold fw
  fail "s"
  refine eR N1 ?_
  rw [R.cnt]
  fail "s"
  refine loopR1 cells.length rfl (by exact (Z.q (.im (.le (.v 0) (.k 128)) (.im (.le (.a (.m 4 (.c (.v 0))) (.m 4 (.c (.v 1)))) (.s (.v 0) (.v 1))) (.im (.le (.k 8) (.v 1)) (.nle (.v 0) (.k 1000))))) [_,_] [_,_]) hu.2 hfew h8) (fun i l s => ∃ T : List Ar, l "node" = some (.ref k) ∧ l "found" = some (.ref σ.length) ∧ s[σ.length]? = some (.list (T.map av)) ∧ Le σ s ∧ T.map (·.1) = (cells.take i).map car)
    ⟨[], by fail "l", by fail "l", aS _ _, Le.push _ _, by simp⟩ ?_ ?_
  · rintro i l s hi ⟨T, e1, e2, hT, le, eT⟩
    obtain ⟨x, hx⟩ : ∃ x, cells[i]? = some x := ⟨_, List.getElem?_eq_getElem hi⟩
    have N2 := N.le le
    have hxa := R.area (List.mem_of_getElem? hx); have hz := fv x.2
    have hTl := congrArg List.length eT
    rw [List.length_map, List.length_map, List.length_take] at hTl
    fail "s"
    refine kH N2 R hx ?_
    fail "s"
    refine oQ N2 R hx fun s2 le2 => ?_
    fail "s"
    refine cI (by exact (Z.q (.im (.le (.v 0) (.k 128)) (.im (.le (.k 8) (.v 1)) (.im (.le (.v 1) (.v 2)) (.im (.le (.a (.v 2) (.v 3)) (.v 0)) (.im (.le (.c (.v 0)) (.v 3)) (.nle (.v 0) (.k 100000))))))) [_,_,_,_] [_]) hu.2 h8 hxa.1 hxa.2 hz.2) ?_
    fail "s"
    rw [show max (4 : Int) x.2.length = sz x.2 from rfl]
    refine pM (i := i) (by fail "l") (by exact (Z.q (.im (.le (.v 0) (.k 128)) (.im (.le (.a (.m 4 (.c (.v 0))) (.m 4 (.c (.v 1)))) (.s (.v 0) (.v 1))) (.im (.le (.k 8) (.v 1)) (.im (.nlt (.v 2) (.v 0)) (.nlt (.v 2) (.k 33)))))) [_,_] [_,_,_]) hu.2 hfew h8 hi) fun w => ?_
    fail "s"
    refine cH (le2 _ _ hT) (by rw [List.length_map]; exact (Z.q (.im (.le (.v 0) (.k 128)) (.im (.le (.a (.m 4 (.c (.v 0))) (.m 4 (.c (.v 1)))) (.s (.v 0) (.v 1))) (.im (.le (.k 8) (.v 1)) (.im (.neq (.v 2) (.v 3)) (.im (.or (.an (.neq (.v 3) (.v 4)) (.nle (.v 4) (.v 0))) (.an (.neq (.v 3) (.v 0)) (.nle (.v 0) (.v 4)))) (.nlt (.v 2) (.k 100000))))))) [_,_] [_,_,_,_,_]) hu.2 hfew h8 hTl (Z.mn _ _)) ?_
    fail "s"
    refine ⟨T ++ [(car x, w)], by fail "l", by fail "l", by rw [List.map_append]; exact aT _ (le2 _ _ hT), (le.trans le2).set (Nat.le_refl _) _, ?_⟩
    rw [List.map_append, eT, List.take_add_one, hx, List.map_append]; rfl
  rintro l s ⟨T, e1, e2, hT, le, eT⟩
  rw [List.take_length] at eT
  have N2 := N.le le
  fail "s"
  refine hU N2 R.chain (R.con.symm ▸ R.ord2) (by rw [R.con]; exact (Z.q (.im (.le (.k 8) (.v 0)) (.le (.k 1) (.v 0))) [_] []) h8) (by exact (Z.q (.im (.le (.v 0) (.k 128)) (.im (.le (.a (.m 4 (.c (.v 0))) (.m 4 (.c (.v 1)))) (.s (.v 0) (.v 1))) (.im (.le (.k 8) (.v 1)) (.nle (.v 1) (.k 90))))) [_,_] [_,_]) hu.2 hfew h8) fun s1 m1 le1 hm1 hB => ?_
  have hT1 := le1 _ _ hT
  have mne : m1 ≠ σ.length := by
    have := (List.getElem?_eq_some_iff.mp hT).1
    exact (Z.q (.im (.nle (.v 0) (.v 1)) (.im (.nlt (.v 2) (.v 0)) (.no (.neq (.v 1) (.v 2))))) [] [_,_,_]) hm1 this
  refine fC bv blks (fun R' l s => ∃ (T : List Ar) (D : List Area), l "node" = some (.ref k) ∧ l "found" = some (.ref σ.length) ∧ s[σ.length]? = some (.list (T.map av)) ∧ s[m1]? = some (.list (blks.map bv)) ∧ Le σ s ∧ blks = D ++ R' ∧ T.map (·.1) = cells.map car ++ D)
    ⟨T, [], e1, e2, hT1, hB, le.trans le1, rfl, by rw [eT, List.append_nil]⟩ ?_ ?_ ?_
  · rintro r l s ⟨_, _, _, _, _, q, _⟩; exact q
  · rintro ⟨a, z⟩ r l s ⟨T, D, e1, e2, hT, hm, le, eD, eT⟩
    have hTl := congrArg List.length eT
    have hDl := congrArg List.length eD
    rw [List.length_map, List.length_append, List.length_map] at hTl
    rw [List.length_append] at hDl
    fail "s"
    refine cH hT (by rw [List.length_map]; exact (Z.q (.im (.le (.v 0) (.k 128)) (.im (.le (.a (.m 4 (.c (.v 0))) (.m 4 (.c (.v 1)))) (.s (.v 0) (.v 1))) (.im (.le (.k 8) (.v 1)) (.im (.neq (.v 2) (.a (.v 0) (.v 3))) (.im (.neq (.v 1) (.a (.v 3) (.v 4))) (.nlt (.v 2) (.k 100000))))))) [_,_] [_,_,_,_,_]) hu.2 hfew h8 hTl hDl) ?_
    fail "s"
    refine ⟨T ++ [((a, z), Str.ofString "free block")], D ++ [(a, z)], by fail "l", by fail "l", by rw [List.map_append]; exact aT _ hT, dO mne hm, le.set (Nat.le_refl _) _, by rw [eD, List.append_assoc]; rfl, ?_⟩
    rw [List.map_append, eT, List.append_assoc]; rfl
  · rintro l s ⟨T, D, e1, e2, hT, hm, le, eD, eT⟩
    rw [List.append_nil] at eD
    subst eD
    have hL : Ly c us F (T.map (·.1)) := by rw [eT]; exact R.lay
    have h4 := hL.len4
    rw [List.length_map] at h4
    fail "s"
    refine k8 av (fun t => t.1.1) (fun _ => rfl) hT (by exact (Z.q (.im (.le (.v 0) (.k 128)) (.im (.le (.k 8) (.v 1)) (.im (.le (.m 4 (.c (.v 0))) (.s (.v 0) (.v 1))) (.nlt (.v 0) (.k 64))))) [_,_] [_]) hu.2 h8 h4) ?_ fun S pS oS => ?_
    · refine (List.pairwise_map.mp hL.apart).imp_of_mem fun {x y} hx hy q => ?_
      have a1 := hL.each x.1 (List.mem_map_of_mem hx)
      have a2 := hL.each y.1 (List.mem_map_of_mem hy)
      unfold Ap2 at q
      exact (Z.q (.im (.or (.le (.a (.v 0) (.v 1)) (.v 2)) (.le (.a (.v 2) (.v 3)) (.v 0))) (.im (.le (.k 4) (.v 1)) (.im (.le (.k 4) (.v 3)) (.no (.eq (.v 0) (.v 2)))))) [_,_,_,_] []) q a1.1 a2.1
    fail "s"
    exact h _ _ S (le.trans (Le.push _ _)) (aS _ _) (hL.perm (pS.symm.map _)) oS
theorem pY (N : Nd σ k d page us base b) (R : Rep us base kind b cells blks c F []) (h : ∀ σ' m, Le σ σ' → σ'[m]? = some (.list []) → Q (.ref m) σ') : We (fT [.ref k] σ) Q := by
  have hu := N.us; have hb := N.bnd
  have hlo := R.low; have hcu := R.lay.le
  simp only [List.length_nil] at hlo
  refine bg ?_
  unfold eZ
  fail "s"
  refine ou N R fun s1 m S le1 hS hL oS => ?_
  have P := Le.push s1 (.list [])
  have N2 := N.le (le1.trans P)
  fail "s"
  refine dJ N2 ?_
  rw [R.con]
  fail "s"
  refine dE N2 ?_
  rw [R.kd]
  fail "s"
  refine eR N2 ?_
  rw [R.cnt]
  fail "s"
  refine fC av S (fun R' l s => ∃ β γ G, s = s1 ++ [.list []] ∧ l "node" = some (.ref k) ∧ l "found" = some (.ref s1.length) ∧ l "behind" = some (.int β) ∧ l "between" = some (.int γ) ∧ Ly β us G (R'.map (·.1)) ∧ γ + G = F ∧ R'.Pairwise fun x y => x.1.1 < y.1.1)
    ⟨c, 0, F, rfl, by fail "l", by fail "l", by fail "l", by fail "l", hL, by exact (Z.q (.eq (.a (.k 0) (.v 0)) (.v 0)) [_] []), oS⟩ ?_ ?_ ?_
  · rintro r l s ⟨_, _, _, rfl, _⟩; exact P _ _ hS
  · rintro ⟨⟨a, z⟩, w⟩ r l s ⟨β, γ, G, rfl, e1, e2, e3, e4, hL, hG, oS⟩
    have a1 := hL.each (a, z) (List.mem_cons_self ..)
    dsimp only at a1
    obtain ⟨o1, o2⟩ := List.pairwise_cons.mp oS
    have hL2 : Ly (a + z) us (G - (a - β)) (r.map (·.1)) := Ly.raise hL (Ly.above hL fun y hy => by
      obtain ⟨t, ht, rfl⟩ := List.mem_map.mp hy
      exact o1 t ht)
    refine rG (v := .int a) (u := .int (a + z)) (w := .str w) ?_
    fail "s"
    refine br (fun c1 => ?_) fun c1 => ?_
    · fail "s"
      refine ⟨a + z, γ + a - β, _, rfl, by fail "l", by fail "l", ?_, by fail "l", hL2, by exact (Z.q (.im (.eq (.a (.v 0) (.v 1)) (.v 2)) (.eq (.a (.s (.a (.v 0) (.v 3)) (.v 4)) (.s (.v 1) (.s (.v 3) (.v 4)))) (.v 2))) [_,_,_,_,_] []) hG, o2⟩
      rw [show max β (a + z) = a + z by exact (Z.q (.im (.le (.k 4) (.v 0)) (.im (.le (.v 1) (.v 2)) (.im (.or (.an (.eq (.v 3) (.v 1)) (.le (.a (.v 2) (.v 0)) (.v 1))) (.an (.eq (.v 3) (.a (.v 2) (.v 0))) (.le (.v 1) (.a (.v 2) (.v 0))))) (.eq (.v 3) (.a (.v 2) (.v 0)))))) [_,_,_,_] []) a1.1 a1.2.1 (Z.mxi _ _)]; fail "l"
    · fail "s"
      refine ⟨a + z, γ, _, rfl, by fail "l", by fail "l", ?_, by fail "l", hL2, by exact (Z.q (.im (.eq (.a (.v 0) (.v 1)) (.v 2)) (.im (.le (.v 3) (.v 4)) (.im (.no (.lt (.v 3) (.v 4))) (.eq (.a (.v 0) (.s (.v 1) (.s (.v 4) (.v 3)))) (.v 2))))) [_,_,_,_,_] []) hG a1.2.1 c1, o2⟩
      rw [show max β (a + z) = a + z by exact (Z.q (.im (.le (.k 4) (.v 0)) (.im (.le (.v 1) (.v 2)) (.im (.or (.an (.eq (.v 3) (.v 1)) (.le (.a (.v 2) (.v 0)) (.v 1))) (.an (.eq (.v 3) (.a (.v 2) (.v 0))) (.le (.v 1) (.a (.v 2) (.v 0))))) (.eq (.v 3) (.a (.v 2) (.v 0)))))) [_,_,_,_] []) a1.1 a1.2.1 (Z.mxi _ _)]; fail "l"
  · rintro l s ⟨β, γ, G, rfl, e1, e2, e3, e4, hL, hG, oS⟩
    have := hL.le
    have hs : 0 + G = us - β := hL.sum
    fail "s"
    refine dX N2 ?_
    rw [R.frg]
    fail "s"
    exact h _ _ (le1.trans P) (aS _ _)
end

section
variable {Q : MV → Sto → Prop} {σ : Sto} {a b : Int}
theorem oH (hb : 0 ≤ b ∧ b < 100 ∧ Builtin.Int.intBits a < 1000) (h : Q (.int (a * 2 ^ b.toNat)) σ) : We (oShl (.int a) (.int b) σ) Q := ⟨_, _, if_pos hb, h⟩
theorem kB (hb : 0 ≤ b) (h : Q (.int (shr a b)) σ) : We (oShr (.int a) (.int b) σ) Q := ⟨_, _, if_pos hb, h⟩
theorem ka (h : Q (.int (Builtin.bitOr a b)) σ) : We (oOr (.int a) (.int b) σ) Q := ⟨_, _, rfl, h⟩
theorem i0 (h : Q (.int (Builtin.bitAnd a b)) σ) : We (oAnd (.int a) (.int b) σ) Q := ⟨_, _, rfl, h⟩
theorem mN (hb : 0 ≤ b ∧ b < 1000 ∧ Builtin.Int.intBits a < 1000) (h : Q (.int (a ^ b.toNat)) σ) : We (oPow (.int a) (.int b) σ) Q := ⟨_, _, if_pos hb, h⟩
end
noncomputable def VarAt (bs : List UInt8) (n : Int) : Prop := ∀ (σ : Sto) (d : Nat) (b : List UInt8) (p : Int), σ[d]? = some (.ba b) → HasAt b p bs → 0 ≤ p → p + bs.length ≤ b.length → b.length ≤ 1000 → ∀ Q : MV → Sto → Prop, Q (.tup [.int n, .int (p + bs.length)]) σ → We (d9 [.ref d, .int p] σ) Q
noncomputable def vnum (bs : List UInt8) : Nat → Int
  | 0 => 0
  | i + 1 => Builtin.bitOr (vnum bs i * 2 ^ 7) (Builtin.bitAnd (rd bs i) 127)
noncomputable def vgood (bs : List UInt8) (n : Int) : Prop := 1 ≤ bs.length ∧ bs.length ≤ 9 ∧ (∀ i, i < 9 → i + 1 < bs.length → 128 ≤ rd bs (i : Nat)) ∧ (∀ i, i < 9 → Builtin.Int.intBits (vnum bs i) < 1000) ∧
  if bs.length = 9 then n = Builtin.bitOr (vnum bs 8 * 2 ^ 8) (rd bs 8) else rd bs (bs.length - 1 : Nat) < 128 ∧ n = vnum bs bs.length
noncomputable def vdec (bs : List UInt8) (n : Int) : Decidable (vgood bs n) := by unfold vgood; infer_instance
theorem vof {bs : List UInt8} {n : Int} (h : @decide (vgood bs n) (vdec bs n) = true) : vgood bs n := @of_decide_eq_true _ (vdec bs n) h
theorem jX {bs : List UInt8} {n : Int} (h : vgood bs n) : VarAt bs n := by
  intro σ d b p hd hat h0 hl hb Q hQ
  obtain ⟨k1, k9, hbig, hbits, hend⟩ := h
  refine ce ?_
  unfold ef
  fail "s"
  refine loopR1 9 rfl (by decide) (fun i l s => s = σ ∧ i < bs.length ∧ l "octets" = some (.ref d) ∧ l "at" = some (.int (p + i)) ∧ l "number" = some (.int (vnum bs i))) ⟨rfl, by exact (Z.q (.im (.nle (.k 1) (.v 0)) (.nlt (.k 0) (.v 0))) [] [_]) k1, by fail "l", ?_, by fail "l"⟩ ?_ ?_
  · rw [show p + ((0 : Nat) : Int) = p by exact (Z.q (.eq (.a (.v 0) (.c (.k 0))) (.v 0)) [_] [])]; fail "l"
  · rintro i l s hi ⟨rfl, hik, e1, e2, e3⟩
    have er := hat i (by exact (Z.q (.le (.k 0) (.c (.v 0))) [] [_])) (by exact (Z.q (.im (.nlt (.v 0) (.v 1)) (.lt (.c (.v 0)) (.c (.v 1)))) [] [_,_]) hik)
    have r0 := lM bs i; have r1 := mW bs i
    fail "s"
    refine cR hd (by exact (Z.q (.im (.nle (.v 0) (.k 1000)) (.nle (.v 0) (.k 100000))) [] [_]) hb) ?_
    fail "s"
    rw [er]
    refine br (fun c => ?_) fun c => ?_
    · obtain rfl : i = 8 := by exact (Z.q (.im (.eq (.c (.v 0)) (.k 8)) (.neq (.v 0) (.k 8))) [] [_]) c
      have e9 : bs.length = 9 := by exact (Z.q (.im (.nle (.v 0) (.k 9)) (.im (.nlt (.k 8) (.v 0)) (.neq (.v 0) (.k 9)))) [] [_]) k9 hik
      rw [if_pos e9] at hend
      fail "s"
      refine oH ⟨by decide, by decide, hbits 8 (by decide)⟩ ?_
      fail "s"
      refine ka ?_
      fail "s"
      rw [show Builtin.bitOr (vnum bs 8 * 2 ^ (8 : Int).toNat) (rd bs ((8 : Nat) : Int)) = n from hend.symm, show p + ((8 : Nat) : Int) + 1 = p + bs.length by exact (Z.q (.im (.nle (.v 0) (.k 9)) (.im (.nlt (.k 8) (.v 0)) (.eq (.a (.a (.v 0) (.c (.k 8))) (.k 1)) (.a (.v 0) (.c (.v 0)))))) [_] [_]) k9 hik]
      exact hQ
    · fail "s"
      refine oH ⟨by decide, by decide, hbits i (by exact (Z.q (.im (.nlt (.v 0) (.k 9)) (.nlt (.v 0) (.k 9))) [] [_]) hi)⟩ ?_
      fail "s"
      refine i0 ?_
      refine ka ?_
      fail "s"
      refine br (fun c2 => ?_) fun c2 => ?_
      · have e : i = bs.length - 1 := by
          rcases Nat.lt_or_ge (i + 1) bs.length with q | q
          · have := hbig i (by exact (Z.q (.im (.nlt (.v 0) (.k 9)) (.nlt (.v 0) (.k 9))) [] [_]) hi) q; exact (Z.q (.im (.lt (.v 0) (.k 128)) (.im (.le (.k 128) (.v 0)) (.neq (.v 0) (.v 1)))) [_] [_,_]) c2 this
          · exact (Z.q (.im (.nlt (.v 0) (.v 1)) (.im (.nle (.v 1) (.a (.v 0) (.k 1))) (.im (.or (.an (.neq (.a (.v 2) (.k 1)) (.v 1)) (.nle (.k 1) (.v 1))) (.an (.neq (.v 2) (.k 0)) (.nle (.v 1) (.k 1)))) (.neq (.v 0) (.v 2))))) [] [_,_,_]) hik q (Z.sb _ _)
        have e9 : ¬ bs.length = 9 := by exact (Z.q (.im (.no (.eq (.c (.v 0)) (.k 8))) (.im (.neq (.v 0) (.v 1)) (.im (.or (.an (.neq (.a (.v 1) (.k 1)) (.v 2)) (.nle (.k 1) (.v 2))) (.an (.neq (.v 1) (.k 0)) (.nle (.v 2) (.k 1)))) (.no (.neq (.v 2) (.k 9)))))) [] [_,_,_]) c e (Z.sb _ _)
        rw [if_neg e9] at hend
        fail "s"
        rw [show Builtin.bitOr (vnum bs i * 2 ^ (7 : Int).toNat) (Builtin.bitAnd (rd bs i) 127) = n from by rw [hend.2, show bs.length = i + 1 by exact (Z.q (.im (.nle (.k 1) (.v 0)) (.im (.neq (.v 1) (.v 2)) (.im (.or (.an (.neq (.a (.v 2) (.k 1)) (.v 0)) (.nle (.k 1) (.v 0))) (.an (.neq (.v 2) (.k 0)) (.nle (.v 0) (.k 1)))) (.neq (.v 0) (.a (.v 1) (.k 1)))))) [] [_,_,_]) k1 e (Z.sb _ _)]; rfl, show p + (i : Int) + 1 = p + bs.length by exact (Z.q (.im (.nle (.k 1) (.v 0)) (.im (.neq (.v 1) (.v 2)) (.im (.or (.an (.neq (.a (.v 2) (.k 1)) (.v 0)) (.nle (.k 1) (.v 0))) (.an (.neq (.v 2) (.k 0)) (.nle (.v 0) (.k 1)))) (.eq (.a (.a (.v 0) (.c (.v 1))) (.k 1)) (.a (.v 0) (.c (.v 0))))))) [_] [_,_,_]) k1 e (Z.sb _ _)]
        exact hQ
      · have q : i + 1 < bs.length := by
          rcases Nat.lt_or_ge (i + 1) bs.length with q | q
          · exact q
          · exfalso
            have e9 : ¬ bs.length = 9 := by exact (Z.q (.im (.nlt (.v 0) (.v 1)) (.im (.no (.eq (.c (.v 0)) (.k 8))) (.im (.nle (.v 1) (.a (.v 0) (.k 1))) (.no (.neq (.v 1) (.k 9)))))) [] [_,_]) hik c q
            rw [if_neg e9, show bs.length - 1 = i by exact (Z.q (.im (.nlt (.v 0) (.v 1)) (.im (.nle (.v 1) (.a (.v 0) (.k 1))) (.im (.or (.an (.neq (.a (.v 2) (.k 1)) (.v 1)) (.nle (.k 1) (.v 1))) (.an (.neq (.v 2) (.k 0)) (.nle (.v 1) (.k 1)))) (.neq (.v 2) (.v 0))))) [] [_,_,_]) hik q (Z.sb _ _)] at hend
            (first|lia|omega)
        fail "s"
        refine ⟨rfl, q, by fail "l", ?_, by fail "l"⟩
        rw [show p + ((i + 1 : Nat) : Int) = p + i + 1 by exact (Z.q (.eq (.a (.v 0) (.c (.a (.v 0) (.k 1)))) (.a (.a (.v 0) (.c (.v 0))) (.k 1))) [_] [_])]; fail "l"
  · rintro l s ⟨_, hik, _⟩
    exact False.elim (by exact (Z.q (.im (.nle (.v 0) (.k 9)) (.im (.nlt (.k 9) (.v 0)) .ff)) [] [_]) k9 hik)
noncomputable def PutVar (n : Int) (bs : List UInt8) : Prop := ∀ (σ : Sto) (Q : MV → Sto → Prop), (∀ σ', Le σ σ' → Q (.bytes bs) σ') → We (dC [.int n] σ) Q
noncomputable def pvF : Nat → Int → List Int → Option (List Int)
  | 0, rest, acc => if rest > 0 then none else some acc
  | m + 1, rest, acc => if rest > 0 then pvF m (shr rest 7) (acc ++ [Builtin.bitOr (Builtin.bitAnd rest 127) 128]) else none
noncomputable def pvR : Nat → Int → List Int → List Int
  | 0, _, acc => acc
  | m + 1, rest, acc => pvR m (shr rest 7) (acc ++ [Builtin.bitOr (Builtin.bitAnd rest 127) 128])
theorem bits2 : Builtin.Int.intBits 2 < 1000 := by decide
theorem gO {n : Int} {m : Nat} {out : List Int} {bs : List UInt8} (h0 : n % 18446744073709551616 < 2 ^ 56) (hr : pvF m (shr (n % 18446744073709551616) 7) [Builtin.bitAnd (n % 18446744073709551616) 127] = some out) (hm : m ≤ 50) (hl : out.length ≤ 100) (ho : octs (out.map MV.int).reverse = some bs) : PutVar n bs := by
  intro σ Q hQ
  refine bg ?_
  unfold dT
  fail "s"
  refine mN ⟨by decide, by decide, bits2⟩ ?_
  rw [show (2 : Int) ^ (56 : Int).toNat = 2 ^ 56 from rfl]
  fail "s"
  refine ⟨⟨_, _, rfl, aS _ _⟩, ?_⟩
  fail "s"
  refine i0 ?_
  fail "s"
  refine cH (aS _ _) (Nat.le_of_ble_eq_true rfl) ?_
  fail "s"
  refine kB (by decide) ?_
  fail "s"
  refine iW (fun m l s => ∃ rest acc, pvF m rest acc = some out ∧ acc.length + m ≤ 60 ∧ l "rest" = some (.int rest) ∧ l "found" = some (.ref σ.length) ∧ s[σ.length]? = some (.list (acc.map .int)) ∧ Le σ s) ?_ 100 m _ _ (by exact (Z.q (.im (.nle (.v 0) (.k 50)) (.nlt (.v 0) (.k 100))) [] [_]) hm)
    ⟨_, _, hr, by simp only [List.length_cons, List.length_nil]; exact (Z.q (.im (.nle (.v 0) (.k 50)) (.nle (.a (.a (.k 0) (.k 1)) (.v 0)) (.k 60))) [] [_]) hm, by fail "l", by fail "l", aT _ (aS _ _), (Le.push _ _).set (Nat.le_refl _) _⟩
  rintro m l s ⟨rest, acc, hr, hc, e1, e2, hs, le⟩
  fail "s"
  refine br (fun c => ?_) fun c => ?_
  · match m, hr with
    | 0, hr => rw [pvF, if_pos c] at hr; cases hr
    | m + 1, hr =>
      rw [pvF, if_pos c] at hr
      refine ⟨m, rfl, ?_⟩
      fail "s"
      refine i0 ?_
      fail "s"
      refine ka ?_
      fail "s"
      refine cH hs (by rw [List.length_map]; exact (Z.q (.im (.nle (.a (.v 0) (.a (.v 1) (.k 1))) (.k 60)) (.nlt (.v 0) (.k 100000))) [] [_,_]) hc) ?_
      fail "s"
      refine kB (by decide) ?_
      fail "s"
      exact ⟨_, _, hr, by simp only [List.length_append, List.length_cons, List.length_nil]; exact (Z.q (.im (.nle (.a (.v 0) (.a (.v 1) (.k 1))) (.k 60)) (.nle (.a (.a (.v 0) (.a (.k 0) (.k 1))) (.v 1)) (.k 60))) [] [_,_]) hc, by fail "l", by fail "l", by rw [List.map_append]; exact aT _ hs, le.set (Nat.le_refl _) _⟩
  · have e : acc = out := by
      match m, hr with
      | 0, hr => rw [pvF, if_neg c] at hr; exact Option.some.inj hr
      | m + 1, hr => rw [pvF, if_neg c] at hr; cases hr
    subst e
    fail "s"
    refine jU hs (by rw [List.length_map]; exact (Z.q (.im (.nle (.v 0) (.k 100)) (.nle (.v 0) (.k 100000))) [] [_]) hl) ?_
    fail "s"
    refine fD (aT _ hs) (by rw [List.length_reverse, List.length_map]; exact (Z.q (.im (.nle (.v 0) (.k 100)) (.nle (.v 0) (.k 100000))) [] [_]) hl) ho ?_
    fail "s"
    exact hQ _ (le.set (Nat.le_refl _) _)
theorem pN {n : Int} {bs : List UInt8} (h0 : n % 18446744073709551616 ≥ 2 ^ 56) (ho : octs ((pvR 8 (shr (n % 18446744073709551616) 8) [Builtin.bitAnd (n % 18446744073709551616) 255]).map MV.int).reverse = some bs) : PutVar n bs := by
  intro σ Q hQ
  refine bg ?_
  unfold dT
  fail "s"
  refine mN ⟨by decide, by decide, bits2⟩ ?_
  rw [show (2 : Int) ^ (56 : Int).toNat = 2 ^ 56 from rfl]
  fail "s"
  refine ⟨⟨_, _, rfl, aS _ _⟩, ?_⟩
  fail "s"
  refine i0 ?_
  fail "s"
  refine cH (aS _ _) (Nat.le_of_ble_eq_true rfl) ?_
  fail "s"
  refine kB (by decide) ?_
  fail "s"
  refine loopR1 8 rfl (by decide) (fun i l s => ∃ rest acc, octs ((pvR (8 - i) rest acc).map MV.int).reverse = some bs ∧ acc.length = i + 1 ∧ l "rest" = some (.int rest) ∧ l "found" = some (.ref σ.length) ∧ s[σ.length]? = some (.list (acc.map .int)) ∧ Le σ s)
    ⟨_, _, ho, rfl, by fail "l", by fail "l", aT _ (aS _ _), (Le.push _ _).set (Nat.le_refl _) _⟩ ?_ ?_
  · rintro i l s hi ⟨rest, acc, hr, hc, e1, e2, hs, le⟩
    fail "s"
    refine i0 ?_
    fail "s"
    refine ka ?_
    fail "s"
    refine cH hs (by rw [List.length_map]; exact (Z.q (.im (.nlt (.v 0) (.k 8)) (.im (.neq (.v 1) (.a (.v 0) (.k 1))) (.nlt (.v 1) (.k 100000)))) [] [_,_]) hi hc) ?_
    fail "s"
    refine kB (by decide) ?_
    fail "s"
    rw [show 8 - i = (8 - (i + 1)) + 1 by exact (Z.q (.im (.nlt (.v 0) (.k 8)) (.im (.or (.an (.neq (.a (.v 1) (.v 0)) (.k 8)) (.nle (.v 0) (.k 8))) (.an (.neq (.v 1) (.k 0)) (.nle (.k 8) (.v 0)))) (.im (.or (.an (.neq (.a (.v 2) (.a (.v 0) (.k 1))) (.k 8)) (.nle (.a (.v 0) (.k 1)) (.k 8))) (.an (.neq (.v 2) (.k 0)) (.nle (.k 8) (.a (.v 0) (.k 1))))) (.neq (.v 1) (.a (.v 2) (.k 1)))))) [] [_,_,_]) hi (Z.sb _ _) (Z.sb _ _)] at hr
    exact ⟨_, _, hr, by simp only [List.length_append, List.length_cons, List.length_nil]; exact (Z.q (.im (.neq (.v 0) (.a (.v 1) (.k 1))) (.neq (.a (.v 0) (.a (.k 0) (.k 1))) (.a (.a (.v 1) (.k 1)) (.k 1)))) [] [_,_]) hc, by fail "l", by fail "l", by rw [List.map_append]; exact aT _ hs, le.set (Nat.le_refl _) _⟩
  · rintro l s ⟨rest, acc, hr, hc, e1, e2, hs, le⟩
    fail "s"
    refine jU hs (by rw [List.length_map]; exact (Z.q (.im (.neq (.v 0) (.a (.k 8) (.k 1))) (.nle (.v 0) (.k 100000))) [] [_]) hc) ?_
    fail "s"
    refine fD (aT _ hs) (by rw [List.length_reverse, List.length_map]; exact (Z.q (.im (.neq (.v 0) (.a (.k 8) (.k 1))) (.nle (.v 0) (.k 100000))) [] [_]) hc) hr ?_
    fail "s"
    exact hQ _ (le.set (Nat.le_refl _) _)
structure Vi (n m : Int) (bs : List UInt8) : Prop where
  put : PutVar n bs
  get : VarAt bs m
  len : bs.length ≤ 9
theorem vi1 {n : Int} (h : 0 ≤ n ∧ n < 128) (hc : octs ([MV.int (Builtin.bitAnd (n % 18446744073709551616) 127)]) = some [n.toNat.toUInt8] ∧ vgood [n.toNat.toUInt8] n) : Vi n n [n.toNat.toUInt8] :=
  have e := Int.emod_eq_of_lt h.1 (Int.lt_trans h.2 (show (128 : Int) < 18446744073709551616 by decide))
  ⟨gO (m := 0) (out := [Builtin.bitAnd (n % 18446744073709551616) 127]) (by rw [e]; exact Int.lt_trans h.2 (by decide)) (by
    have : ¬ shr (n % 18446744073709551616) 7 > 0 := by unfold shr; rw [show (2 : Int) ^ (7 : Int).toNat = 128 from rfl, e, Int.ediv_eq_zero_of_lt h.1 h.2]; decide
    rw [pvF, if_neg this]) (by decide) (by simp) hc.1, jX hc.2, by simp⟩
noncomputable def Sizes : List Int := [0, 1, 2, 3, 6, 10, 17, 18, 29, 30, 93, 200]
noncomputable def Rowids : List Int := [0, 5, 127, 128, 70000, -1]
theorem qx : Vi 200 200 [129, 72] := ⟨gO (m := 1) (out := [72, 129]) (by decide) (by decide +kernel) (by decide) (by decide) (by rfl), jX (vof (by decide +kernel)), by decide⟩
theorem qP : Vi 128 128 [129, 0] := ⟨gO (m := 1) (out := [0, 129]) (by decide) (by decide +kernel) (by decide) (by decide) (by rfl), jX (vof (by decide +kernel)), by decide⟩
theorem oK : Vi 70000 70000 [132, 162, 112] := ⟨gO (m := 2) (out := [112, 162, 132]) (by decide) (by decide +kernel) (by decide) (by decide) (by rfl), jX (vof (by decide +kernel)), by decide⟩
theorem rO : Vi (-1) 18446744073709551615 [255, 255, 255, 255, 255, 255, 255, 255, 255] := ⟨pN (by decide) (by rfl), jX (vof (by decide +kernel)), by decide⟩
theorem og {n : Int} (h : n ∈ Sizes) : ∃ bs, Vi n n bs := by
  unfold Sizes at h
  simp only [List.mem_cons, List.not_mem_nil, or_false] at h
  rcases h with rfl | rfl | rfl | rfl | rfl | rfl | rfl | rfl | rfl | rfl | rfl | rfl
  all_goals first | exact ⟨_, qx⟩ | exact ⟨_, vi1 (by decide) ⟨by rfl, vof (by decide +kernel)⟩⟩
theorem nS {n : Int} (h : n ∈ Rowids) : ∃ m bs, Vi n m bs := by
  unfold Rowids at h
  simp only [List.mem_cons, List.not_mem_nil, or_false] at h
  rcases h with rfl | rfl | rfl | rfl | rfl | rfl
  all_goals first | exact ⟨_, _, qP⟩ | exact ⟨_, _, oK⟩ | exact ⟨_, _, rO⟩ | exact ⟨_, _, vi1 (by decide) ⟨by rfl, vof (by decide +kernel)⟩⟩

noncomputable def lsz (kind us size : Int) : Int :=
  let most := if kind = 13 then us - 35 else max 1 ((us - 12) / 4 - 12)
  if size ≤ most then size else
    let least := max 0 ((us - 12) / 8 - 12)
    if least + (size - least) % (us - 4) ≤ most then least + (size - least) % (us - 4) else least
theorem mx5 {a b : Int} (h : a ≤ b) : max 0 a ≤ max 1 b := Int.max_le.mpr ⟨Int.le_trans (by decide) (Int.le_max_left 1 b), Int.le_trans h (Int.le_max_right 1 b)⟩
theorem jO {kind us size : Int} (hu : 64 ≤ us ∧ us ≤ 128) (hs : 0 ≤ size) : 0 ≤ lsz kind us size ∧ lsz kind us size ≤ size ∧ lsz kind us size ≤ 128 := by
  unfold lsz
  have h1 := Int.emod_nonneg (size - max 0 ((us - 12) / 8 - 12)) (show us - 4 ≠ 0 by exact (Z.q (.im (.le (.k 64) (.v 0)) (.no (.eq (.s (.v 0) (.k 4)) (.k 0)))) [_] []) hu.1)
  have h2 : max 0 ((us - 12) / 8 - 12) ≤ 2 := by exact (Z.q (.im (.le (.v 0) (.k 128)) (.im (.or (.an (.eq (.v 1) (.k 0)) (.le (.s (.v 2) (.k 12)) (.k 0))) (.an (.eq (.v 1) (.s (.v 2) (.k 12))) (.le (.k 0) (.s (.v 2) (.k 12))))) (.im (.an (.eq (.a (.m 8 (.v 2)) (.v 3)) (.s (.v 0) (.k 12))) (.an (.le (.k 0) (.v 3)) (.lt (.v 3) (.k 8)))) (.le (.v 1) (.k 2))))) [_,_,_,_] []) hu.2 (Z.mxi _ _) (Z.dm _ (k := 8) (by decide))
  have h3 : (if kind = 13 then us - 35 else max 1 ((us - 12) / 4 - 12)) ≤ 93 := by split <;> (first|exact (Z.q (.im (.le (.v 0) (.k 128)) (.le (.s (.v 0) (.k 35)) (.k 93))) [_] []) hu.2|exact (Z.q (.im (.le (.v 0) (.k 128)) (.im (.or (.an (.eq (.v 1) (.k 1)) (.le (.s (.v 2) (.k 12)) (.k 1))) (.an (.eq (.v 1) (.s (.v 2) (.k 12))) (.le (.k 1) (.s (.v 2) (.k 12))))) (.im (.an (.eq (.a (.m 4 (.v 2)) (.v 3)) (.s (.v 0) (.k 12))) (.an (.le (.k 0) (.v 3)) (.lt (.v 3) (.k 4)))) (.le (.v 1) (.k 93))))) [_,_,_,_] []) hu.2 (Z.mxi _ _) (Z.dm _ (k := 4) (by decide))|omega)
  have h4 : 1 ≤ (if kind = 13 then us - 35 else max 1 ((us - 12) / 4 - 12)) := by split <;> (first|exact (Z.q (.im (.le (.k 64) (.v 0)) (.le (.k 1) (.s (.v 0) (.k 35)))) [_] []) hu.1|exact (Z.q (.im (.or (.an (.eq (.v 0) (.k 1)) (.le (.s (.v 1) (.k 12)) (.k 1))) (.an (.eq (.v 0) (.s (.v 1) (.k 12))) (.le (.k 1) (.s (.v 1) (.k 12))))) (.le (.k 1) (.v 0))) [_,_] []) (Z.mxi _ _)|omega)
  have h5 : max 0 ((us - 12) / 8 - 12) ≤ (if kind = 13 then us - 35 else max 1 ((us - 12) / 4 - 12)) := by split <;> (first|exact (Z.q (.im (.le (.k 64) (.v 0)) (.im (.le (.v 1) (.k 2)) (.le (.v 1) (.s (.v 0) (.k 35))))) [_,_] []) hu.1 h2|exact mx5 (by omega))
  have h6 : 0 ≤ max 0 ((us - 12) / 8 - 12) := by exact (Z.q (.im (.or (.an (.eq (.v 0) (.k 0)) (.le (.s (.v 1) (.k 12)) (.k 0))) (.an (.eq (.v 0) (.s (.v 1) (.k 12))) (.le (.k 0) (.s (.v 1) (.k 12))))) (.le (.k 0) (.v 0))) [_,_] []) (Z.mxi _ _)
  generalize (if kind = 13 then us - 35 else max 1 ((us - 12) / 4 - 12)) = most at h3 h4 h5 ⊢
  generalize max 0 ((us - 12) / 8 - 12) = least at h1 h2 h5 h6 ⊢
  dsimp only
  split
  · exact (Z.q (.im (.le (.k 0) (.v 0)) (.im (.le (.v 1) (.k 93)) (.im (.le (.v 0) (.v 1)) (.an (.le (.k 0) (.v 0)) (.an (.le (.v 0) (.v 0)) (.le (.v 0) (.k 128))))))) [_,_] []) hs h3 (by assumption)
  · split <;> (first|exact (Z.q (.im (.le (.v 0) (.k 93)) (.im (.le (.k 0) (.v 1)) (.im (.le (.k 0) (.v 2)) (.im (.no (.le (.v 3) (.v 0))) (.im (.le (.a (.v 2) (.v 1)) (.v 0)) (.an (.le (.k 0) (.a (.v 2) (.v 1))) (.an (.le (.a (.v 2) (.v 1)) (.v 3)) (.le (.a (.v 2) (.v 1)) (.k 128))))))))) [_,_,_,_] []) h3 h1 h6 (by assumption) (by assumption)|exact (Z.q (.im (.le (.v 0) (.k 2)) (.im (.le (.v 0) (.v 1)) (.im (.le (.k 0) (.v 0)) (.im (.no (.le (.v 2) (.v 1))) (.an (.le (.k 0) (.v 0)) (.an (.le (.v 0) (.v 2)) (.le (.v 0) (.k 128)))))))) [_,_,_] []) h2 h5 h6 (by assumption)|omega)
section
variable {Q : MV → Sto → Prop} {σ : Sto} {k d : Nat} {kind us size v : Int} {b : List UInt8}
theorem dj (hu : 64 ≤ us ∧ us ≤ 128) (h : Q (.int (lsz kind us size)) σ) : We (ds [.int kind, .int us, .int size] σ) Q := by
  refine iU ?_
  unfold eX
  fail "s"
  unfold lsz at h
  have most : ∀ Q' : MV → Sto → Prop, Q' (.int (if kind = 13 then us - 35 else max 1 ((us - 12) / 4 - 12))) σ → We (gE [.int kind, .int us] σ) Q' := by
    intro Q' h'
    refine ce ?_
    unfold fF
    fail "s"
    refine br (fun c => ?_) fun c => ?_
    · fail "s"
      rw [if_pos c] at h'; exact h'
    · fail "s"
      rw [if_neg c] at h'; exact h'
  have least : ∀ Q' : MV → Sto → Prop, Q' (.int (max 0 ((us - 12) / 8 - 12))) σ → We (fq [.int us] σ) Q' := by
    intro Q' h'
    refine bg ?_
    unfold fO
    fail "s"
    exact h'
  refine most _ ?_
  dsimp only at h
  generalize (if kind = 13 then us - 35 else max 1 ((us - 12) / 4 - 12)) = M at h ⊢
  fail "s"
  refine br (fun c => ?_) fun c => ?_
  · fail "s"
    rw [if_pos c] at h; exact h
  rw [if_neg c] at h
  fail "s"
  refine least _ ?_
  generalize max 0 ((us - 12) / 8 - 12) = T at h ⊢
  fail "s"
  refine br (fun c => ?_) fun c => ?_
  · fail "s"
    rw [if_pos c] at h; exact h
  · fail "s"
    rw [if_neg c] at h; exact h
theorem l8 (h : ∀ n, Q (.int n) σ) : We (h9 [.int v] σ) Q := by
  refine bg ?_
  unfold iN
  fail "s"
  refine br (fun c => ?_) fun c => ?_
  · fail "s"
    exact h _
  · fail "s"
    exact h _
theorem lK {c : Nat} {a1 a2 a3 a4 a5 : MV} (hc : σ[c]? = some (.inst 169 [])) (h : Q .none (σ.set c (.inst 169 [("child", a1), ("rowid", a2), ("size", a3), ("local", a4), ("overflow", a5)]))) : We (bX [.ref c, a1, a2, a3, a4, a5] σ) Q := by
  refine rA ?_
  unfold dD
  refine cW (bc ?_)
  fail "s"
  refine ⟨c, _, rfl, hc, Nat.le_of_ble_eq_true rfl, ?_⟩
  refine eQ (cW (bc ?_))
  fail "s"
  refine ⟨c, _, rfl, aT _ hc, Nat.le_of_ble_eq_true rfl, ?_⟩
  refine eQ (cW (bc ?_))
  fail "s"
  refine ⟨c, _, rfl, aT _ (aT _ hc), Nat.le_of_ble_eq_true rfl, ?_⟩
  refine eQ (cW (bc ?_))
  fail "s"
  refine ⟨c, _, rfl, aT _ (aT _ (aT _ hc)), Nat.le_of_ble_eq_true rfl, ?_⟩
  refine eQ (cW (bc ?_))
  fail "s"
  refine ⟨c, _, rfl, aT _ (aT _ (aT _ (aT _ hc))), Nat.le_of_ble_eq_true rfl, ?_⟩
  fail "s"
  rw [List.set_set, List.set_set, List.set_set, List.set_set]
  exact h
theorem pg {l : Loc} {fs : EsF} (h : We (fs l σ) fun vs s => ∃ a1 a2 a3 a4 a5, vs = [a1, a2, a3, a4, a5] ∧ ∀ s' c, Le s s' → s'[c]? = some (.inst 169 [("child", a1), ("rowid", a2), ("size", a3), ("local", a4), ("overflow", a5)]) → Q (.ref c) s') : We (eNew 169 bX fs l σ) Q := by
  refine nL (h.mono ?_)
  rintro _ s ⟨a1, a2, a3, a4, a5, rfl, q⟩
  refine lK (aS _ _) ⟨rfl, q _ _ ((Le.push s _).set (Nat.le_refl _) _) (aT _ (aS _ _))⟩
theorem reads5 {f vr : List UInt8} {m : Int} (hf : f.length = 4) (hv : VarAt vr m) : Reads 5 us (f ++ vr) := by
  intro σ d b p hd hat h0 hl hb Q hQ
  obtain ⟨_, h2⟩ := HasAt.app.mp hat
  rw [List.length_append] at hl hQ
  refine iQ ?_
  unfold cD
  fail "s"
  refine dI (by unfold IsKind; decide) ?_
  fail "s"
  refine cR hd (by exact (Z.q (.im (.nle (.v 0) (.k 1000)) (.nle (.v 0) (.k 100000))) [] [_]) hb) ?_
  fail "s"
  refine dv hd (by exact (Z.q (.im (.neq (.v 0) (.k 4)) (.im (.le (.k 0) (.v 0)) (.im (.le (.a (.v 0) (.c (.a (.v 0) (.v 1)))) (.c (.v 2))) (.im (.nle (.v 2) (.k 1000)) (.an (.le (.k 0) (.v 0)) (.an (.lt (.a (.v 0) (.k 3)) (.c (.v 2))) (.nle (.v 2) (.k 1000)))))))) [_] [_,_,_]) hf h0 hl hb) ?_
  fail "s"
  rw [hf] at h2
  refine hv σ d b (p + 4) hd h2 (by exact (Z.q (.im (.le (.k 0) (.v 0)) (.le (.k 0) (.a (.v 0) (.k 4)))) [_] []) h0) (by exact (Z.q (.im (.neq (.v 0) (.k 4)) (.im (.le (.a (.v 0) (.c (.a (.v 0) (.v 1)))) (.c (.v 2))) (.le (.a (.a (.v 0) (.k 4)) (.c (.v 1))) (.c (.v 2))))) [_] [_,_,_]) hf hl) hb _ ?_
  fail "s"
  refine l8 fun n => ?_
  fail "s"
  refine ⟨_, _, _, _, _, rfl, fun s' c le hc => ?_⟩
  fail "s"
  rw [show p + 4 + (vr.length : Int) = p + ((f.length + vr.length : Nat) : Int) by exact (Z.q (.im (.neq (.v 0) (.k 4)) (.eq (.a (.a (.v 0) (.k 4)) (.c (.v 1))) (.a (.v 0) (.c (.a (.v 0) (.v 1)))))) [_] [_,_]) hf]
  exact hQ _ _ le
noncomputable def OvOk (many size : Int) (ov : List UInt8) : Prop := (ov = [] ∧ many = size) ∨ (ov.length = 4 ∧ many < size)
theorem OvOk.len {many size : Int} {ov : List UInt8} (h : OvOk many size ov) : ov.length = if many < size then 4 else 0 := by
  rcases h with ⟨rfl, h⟩ | ⟨e, h⟩
  · rw [if_neg (by exact (Z.q (.im (.eq (.v 0) (.v 1)) (.no (.lt (.v 0) (.v 1)))) [_,_] []) h)]; rfl
  · rw [if_pos h, e]
theorem reads10 {vs loc ov : List UInt8} (hu : 64 ≤ us ∧ us ≤ 128) (hs : 0 ≤ size) (hv : VarAt vs size) (hl : (loc.length : Int) = lsz 10 us size) (ho : OvOk (lsz 10 us size) size ov) : Reads 10 us (vs ++ (loc ++ ov)) := by
  intro σ d b p hd hat h0 hlb hb Q hQ
  obtain ⟨h1, h2⟩ := HasAt.app.mp hat
  obtain ⟨h3, h4⟩ := HasAt.app.mp h2
  rw [List.length_append, List.length_append] at hlb hQ
  have bd := jO (kind := 10) hu hs
  have hol := ho.len
  have fin : ∀ (e : Int) s' v, Le σ s' → e = p + vs.length + lsz 10 us size + ov.length → Q (.tup [v, .int e]) s' := fun e s' v le he => by
    rw [show e = p + ((vs.length + (loc.length + ov.length) : Nat) : Int) by exact (Z.q (.im (.eq (.c (.v 0)) (.v 0)) (.im (.eq (.v 1) (.a (.a (.a (.v 2) (.c (.v 1))) (.v 0)) (.c (.v 2)))) (.eq (.v 1) (.a (.v 2) (.c (.a (.v 1) (.a (.v 0) (.v 2)))))))) [_,_,_] [_,_,_]) hl he]
    exact hQ s' v le
  refine iQ ?_
  unfold cD
  fail "s"
  refine dI (by unfold IsKind; decide) ?_
  fail "s"
  refine hv σ d b p hd h1 h0 (by exact (Z.q (.im (.le (.a (.v 0) (.c (.a (.v 0) (.a (.v 1) (.v 2))))) (.c (.v 3))) (.le (.a (.v 0) (.c (.v 0))) (.c (.v 3)))) [_] [_,_,_,_]) hlb) hb _ ?_
  fail "s"
  refine dj hu ?_
  fail "s"
  refine ix hd (by exact (Z.q (.im (.nle (.v 0) (.k 1000)) (.nle (.v 0) (.k 100000))) [] [_]) hb) ?_
  rw [← hl, h3.cut (by exact (Z.q (.im (.le (.k 0) (.v 0)) (.le (.k 0) (.a (.v 0) (.c (.v 0))))) [_] [_]) h0) (by exact (Z.q (.im (.le (.a (.v 0) (.c (.a (.v 0) (.a (.v 1) (.v 2))))) (.c (.v 3))) (.le (.a (.a (.v 0) (.c (.v 0))) (.c (.v 1))) (.c (.v 3)))) [_] [_,_,_,_]) hlb)]
  fail "s"
  refine dw (aS _ _) (by exact (Z.q (.im (.eq (.c (.v 0)) (.v 0)) (.im (.le (.v 0) (.k 128)) (.nle (.v 0) (.k 100000)))) [_] [_]) hl bd.2.2) ?_
  have hd2 := Le.push σ (.ba loc) _ _ hd
  rw [hl]
  fail "s"
  refine br (fun c => ?_) fun c => ?_
  · rw [if_pos c] at hol
    fail "s"
    refine cR hd2 (by exact (Z.q (.im (.nle (.v 0) (.k 1000)) (.nle (.v 0) (.k 100000))) [] [_]) hb) ?_
    fail "s"
    refine dv hd2 (by exact (Z.q (.im (.eq (.c (.v 0)) (.v 0)) (.im (.le (.k 0) (.v 1)) (.im (.le (.a (.v 1) (.c (.a (.v 1) (.a (.v 0) (.v 2))))) (.c (.v 3))) (.im (.nle (.v 3) (.k 1000)) (.im (.neq (.v 2) (.k 4)) (.an (.le (.k 0) (.a (.a (.v 1) (.c (.v 1))) (.v 0))) (.an (.lt (.a (.a (.a (.v 1) (.c (.v 1))) (.v 0)) (.k 3)) (.c (.v 3))) (.nle (.v 3) (.k 1000))))))))) [_,_] [_,_,_,_]) hl h0 hlb hb hol) ?_
    fail "s"
    refine cR hd2 (by exact (Z.q (.im (.nle (.v 0) (.k 1000)) (.nle (.v 0) (.k 100000))) [] [_]) hb) ?_
    fail "s"
    refine cI (by exact (Z.q (.im (.eq (.c (.v 0)) (.v 0)) (.im (.le (.v 0) (.k 128)) (.nle (.v 0) (.k 100000)))) [_] [_]) hl bd.2.2) ?_
    fail "s"
    refine ⟨_, _, _, _, _, rfl, fun s' c le hc => ?_⟩
    fail "s"
    exact fin _ _ _ ((Le.push _ _).trans le) (by exact (Z.q (.im (.neq (.v 0) (.k 4)) (.eq (.a (.a (.a (.v 0) (.c (.v 1))) (.v 1)) (.k 4)) (.a (.a (.a (.v 0) (.c (.v 1))) (.v 1)) (.c (.v 0))))) [_,_] [_,_]) hol)
  · rw [if_neg c] at hol
    fail "s"
    refine cR hd2 (by exact (Z.q (.im (.nle (.v 0) (.k 1000)) (.nle (.v 0) (.k 100000))) [] [_]) hb) ?_
    fail "s"
    refine cI (by exact (Z.q (.im (.eq (.c (.v 0)) (.v 0)) (.im (.le (.v 0) (.k 128)) (.nle (.v 0) (.k 100000)))) [_] [_]) hl bd.2.2) ?_
    fail "s"
    refine ⟨_, _, _, _, _, rfl, fun s' c le hc => ?_⟩
    fail "s"
    exact fin _ _ _ ((Le.push _ _).trans le) (by exact (Z.q (.im (.neq (.v 0) (.k 0)) (.eq (.a (.a (.v 0) (.c (.v 1))) (.v 1)) (.a (.a (.a (.v 0) (.c (.v 1))) (.v 1)) (.c (.v 0))))) [_,_] [_,_]) hol)
theorem reads2 {f vs loc ov : List UInt8} (hu : 64 ≤ us ∧ us ≤ 128) (hs : 0 ≤ size) (hf : f.length = 4) (hv : VarAt vs size) (hl : (loc.length : Int) = lsz 2 us size) (ho : OvOk (lsz 2 us size) size ov) : Reads 2 us (f ++ (vs ++ (loc ++ ov))) := by
  intro σ d b p hd hat h0 hlb hb Q hQ
  obtain ⟨_, h0'⟩ := HasAt.app.mp hat
  obtain ⟨h1, h2⟩ := HasAt.app.mp h0'
  obtain ⟨h3, h4⟩ := HasAt.app.mp h2
  rw [List.length_append, List.length_append, List.length_append, hf] at hlb hQ
  rw [hf] at h1 h2 h3 h4
  have bd := jO (kind := 2) hu hs
  have hol := ho.len
  have fin : ∀ (e : Int) s' v, Le σ s' → e = p + 4 + vs.length + lsz 2 us size + ov.length → Q (.tup [v, .int e]) s' := fun e s' v le he => by
    rw [show e = p + ((4 + (vs.length + (loc.length + ov.length)) : Nat) : Int) by exact (Z.q (.im (.eq (.c (.v 0)) (.v 0)) (.im (.eq (.v 1) (.a (.a (.a (.a (.v 2) (.k 4)) (.c (.v 1))) (.v 0)) (.c (.v 2)))) (.eq (.v 1) (.a (.v 2) (.c (.a (.k 4) (.a (.v 1) (.a (.v 0) (.v 2))))))))) [_,_,_] [_,_,_]) hl he]
    exact hQ s' v le
  refine iQ ?_
  unfold cD
  fail "s"
  refine dI (by unfold IsKind; decide) ?_
  fail "s"
  refine cR hd (by exact (Z.q (.im (.nle (.v 0) (.k 1000)) (.nle (.v 0) (.k 100000))) [] [_]) hb) ?_
  fail "s"
  refine dv hd (by exact (Z.q (.im (.le (.k 0) (.v 0)) (.im (.le (.a (.v 0) (.c (.a (.k 4) (.a (.v 0) (.a (.v 1) (.v 2)))))) (.c (.v 3))) (.im (.nle (.v 3) (.k 1000)) (.an (.le (.k 0) (.v 0)) (.an (.lt (.a (.v 0) (.k 3)) (.c (.v 3))) (.nle (.v 3) (.k 1000))))))) [_] [_,_,_,_]) h0 hlb hb) ?_
  fail "s"
  refine hv σ d b (p + 4) hd h1 (by exact (Z.q (.im (.le (.k 0) (.v 0)) (.le (.k 0) (.a (.v 0) (.k 4)))) [_] []) h0) (by exact (Z.q (.im (.le (.a (.v 0) (.c (.a (.k 4) (.a (.v 0) (.a (.v 1) (.v 2)))))) (.c (.v 3))) (.le (.a (.a (.v 0) (.k 4)) (.c (.v 0))) (.c (.v 3)))) [_] [_,_,_,_]) hlb) hb _ ?_
  fail "s"
  refine dj hu ?_
  fail "s"
  refine ix hd (by exact (Z.q (.im (.nle (.v 0) (.k 1000)) (.nle (.v 0) (.k 100000))) [] [_]) hb) ?_
  rw [← hl]
  have hc := h3.cut (by exact (Z.q (.im (.le (.k 0) (.v 0)) (.le (.k 0) (.a (.a (.v 0) (.c (.k 4))) (.c (.v 0))))) [_] [_]) h0) (by exact (Z.q (.im (.le (.a (.v 0) (.c (.a (.k 4) (.a (.v 0) (.a (.v 1) (.v 2)))))) (.c (.v 3))) (.le (.a (.a (.a (.v 0) (.c (.k 4))) (.c (.v 0))) (.c (.v 1))) (.c (.v 3)))) [_] [_,_,_,_]) hlb)
  rw [show p + ((4 : Nat) : Int) + (vs.length : Int) = p + 4 + vs.length from rfl] at hc
  rw [hc]
  fail "s"
  refine dw (aS _ _) (by exact (Z.q (.im (.eq (.c (.v 0)) (.v 0)) (.im (.le (.v 0) (.k 128)) (.nle (.v 0) (.k 100000)))) [_] [_]) hl bd.2.2) ?_
  have hd2 := Le.push σ (.ba loc) _ _ hd
  rw [hl]
  fail "s"
  refine br (fun c => ?_) fun c => ?_
  · rw [if_pos c] at hol
    fail "s"
    refine cR hd2 (by exact (Z.q (.im (.nle (.v 0) (.k 1000)) (.nle (.v 0) (.k 100000))) [] [_]) hb) ?_
    fail "s"
    refine dv hd2 (by exact (Z.q (.im (.eq (.c (.v 0)) (.v 0)) (.im (.le (.k 0) (.v 1)) (.im (.le (.a (.v 1) (.c (.a (.k 4) (.a (.v 1) (.a (.v 0) (.v 2)))))) (.c (.v 3))) (.im (.nle (.v 3) (.k 1000)) (.im (.neq (.v 2) (.k 4)) (.an (.le (.k 0) (.a (.a (.a (.v 1) (.k 4)) (.c (.v 1))) (.v 0))) (.an (.lt (.a (.a (.a (.a (.v 1) (.k 4)) (.c (.v 1))) (.v 0)) (.k 3)) (.c (.v 3))) (.nle (.v 3) (.k 1000))))))))) [_,_] [_,_,_,_]) hl h0 hlb hb hol) ?_
    fail "s"
    refine cR hd2 (by exact (Z.q (.im (.nle (.v 0) (.k 1000)) (.nle (.v 0) (.k 100000))) [] [_]) hb) ?_
    fail "s"
    refine cI (by exact (Z.q (.im (.eq (.c (.v 0)) (.v 0)) (.im (.le (.v 0) (.k 128)) (.nle (.v 0) (.k 100000)))) [_] [_]) hl bd.2.2) ?_
    fail "s"
    refine ⟨_, _, _, _, _, rfl, fun s' c le hc => ?_⟩
    fail "s"
    exact fin _ _ _ ((Le.push _ _).trans le) (by exact (Z.q (.im (.neq (.v 0) (.k 4)) (.eq (.a (.a (.a (.a (.v 0) (.k 4)) (.c (.v 1))) (.v 1)) (.k 4)) (.a (.a (.a (.a (.v 0) (.k 4)) (.c (.v 1))) (.v 1)) (.c (.v 0))))) [_,_] [_,_]) hol)
  · rw [if_neg c] at hol
    fail "s"
    refine cR hd2 (by exact (Z.q (.im (.nle (.v 0) (.k 1000)) (.nle (.v 0) (.k 100000))) [] [_]) hb) ?_
    fail "s"
    refine cI (by exact (Z.q (.im (.eq (.c (.v 0)) (.v 0)) (.im (.le (.v 0) (.k 128)) (.nle (.v 0) (.k 100000)))) [_] [_]) hl bd.2.2) ?_
    fail "s"
    refine ⟨_, _, _, _, _, rfl, fun s' c le hc => ?_⟩
    fail "s"
    exact fin _ _ _ ((Le.push _ _).trans le) (by exact (Z.q (.im (.neq (.v 0) (.k 0)) (.eq (.a (.a (.a (.v 0) (.k 4)) (.c (.v 1))) (.v 1)) (.a (.a (.a (.a (.v 0) (.k 4)) (.c (.v 1))) (.v 1)) (.c (.v 0))))) [_,_] [_,_]) hol)
theorem reads13 {vs vr loc ov : List UInt8} {m : Int} (hu : 64 ≤ us ∧ us ≤ 128) (hs : 0 ≤ size) (hv : VarAt vs size) (hv2 : VarAt vr m) (hl : (loc.length : Int) = lsz 13 us size) (ho : OvOk (lsz 13 us size) size ov) : Reads 13 us (vs ++ (vr ++ (loc ++ ov))) := by
  intro σ d b p hd hat h0 hlb hb Q hQ
  obtain ⟨h0', h1'⟩ := HasAt.app.mp hat
  obtain ⟨h1, h2⟩ := HasAt.app.mp h1'
  obtain ⟨h3, h4⟩ := HasAt.app.mp h2
  rw [List.length_append, List.length_append, List.length_append] at hlb hQ
  have bd := jO (kind := 13) hu hs
  have hol := ho.len
  have fin : ∀ (e : Int) s' v, Le σ s' → e = p + vs.length + vr.length + lsz 13 us size + ov.length → Q (.tup [v, .int e]) s' := fun e s' v le he => by
    rw [show e = p + ((vs.length + (vr.length + (loc.length + ov.length)) : Nat) : Int) by exact (Z.q (.im (.eq (.c (.v 0)) (.v 0)) (.im (.eq (.v 1) (.a (.a (.a (.a (.v 2) (.c (.v 1))) (.c (.v 2))) (.v 0)) (.c (.v 3)))) (.eq (.v 1) (.a (.v 2) (.c (.a (.v 1) (.a (.v 2) (.a (.v 0) (.v 3))))))))) [_,_,_] [_,_,_,_]) hl he]
    exact hQ s' v le
  refine iQ ?_
  unfold cD
  fail "s"
  refine dI (by unfold IsKind; decide) ?_
  fail "s"
  refine hv σ d b p hd h0' h0 (by exact (Z.q (.im (.le (.a (.v 0) (.c (.a (.v 0) (.a (.v 1) (.a (.v 2) (.v 3)))))) (.c (.v 4))) (.le (.a (.v 0) (.c (.v 0))) (.c (.v 4)))) [_] [_,_,_,_,_]) hlb) hb _ ?_
  fail "s"
  refine hv2 σ d b _ hd h1 (by exact (Z.q (.im (.le (.k 0) (.v 0)) (.le (.k 0) (.a (.v 0) (.c (.v 0))))) [_] [_]) h0) (by exact (Z.q (.im (.le (.a (.v 0) (.c (.a (.v 0) (.a (.v 1) (.a (.v 2) (.v 3)))))) (.c (.v 4))) (.le (.a (.a (.v 0) (.c (.v 0))) (.c (.v 1))) (.c (.v 4)))) [_] [_,_,_,_,_]) hlb) hb _ ?_
  fail "s"
  refine l8 fun n => ?_
  fail "s"
  refine dj hu ?_
  fail "s"
  refine ix hd (by exact (Z.q (.im (.nle (.v 0) (.k 1000)) (.nle (.v 0) (.k 100000))) [] [_]) hb) ?_
  rw [← hl, h3.cut (by exact (Z.q (.im (.le (.k 0) (.v 0)) (.le (.k 0) (.a (.a (.v 0) (.c (.v 0))) (.c (.v 1))))) [_] [_,_]) h0) (by exact (Z.q (.im (.le (.a (.v 0) (.c (.a (.v 0) (.a (.v 1) (.a (.v 2) (.v 3)))))) (.c (.v 4))) (.le (.a (.a (.a (.v 0) (.c (.v 0))) (.c (.v 1))) (.c (.v 2))) (.c (.v 4)))) [_] [_,_,_,_,_]) hlb)]
  fail "s"
  refine dw (aS _ _) (by exact (Z.q (.im (.eq (.c (.v 0)) (.v 0)) (.im (.le (.v 0) (.k 128)) (.nle (.v 0) (.k 100000)))) [_] [_]) hl bd.2.2) ?_
  have hd2 := Le.push σ (.ba loc) _ _ hd
  rw [hl]
  fail "s"
  refine br (fun c => ?_) fun c => ?_
  · rw [if_pos c] at hol
    fail "s"
    refine cR hd2 (by exact (Z.q (.im (.nle (.v 0) (.k 1000)) (.nle (.v 0) (.k 100000))) [] [_]) hb) ?_
    fail "s"
    refine dv hd2 (by exact (Z.q (.im (.eq (.c (.v 0)) (.v 0)) (.im (.le (.k 0) (.v 1)) (.im (.le (.a (.v 1) (.c (.a (.v 1) (.a (.v 2) (.a (.v 0) (.v 3)))))) (.c (.v 4))) (.im (.nle (.v 4) (.k 1000)) (.im (.neq (.v 3) (.k 4)) (.an (.le (.k 0) (.a (.a (.a (.v 1) (.c (.v 1))) (.c (.v 2))) (.v 0))) (.an (.lt (.a (.a (.a (.a (.v 1) (.c (.v 1))) (.c (.v 2))) (.v 0)) (.k 3)) (.c (.v 4))) (.nle (.v 4) (.k 1000))))))))) [_,_] [_,_,_,_,_]) hl h0 hlb hb hol) ?_
    fail "s"
    refine cR hd2 (by exact (Z.q (.im (.nle (.v 0) (.k 1000)) (.nle (.v 0) (.k 100000))) [] [_]) hb) ?_
    fail "s"
    refine cI (by exact (Z.q (.im (.eq (.c (.v 0)) (.v 0)) (.im (.le (.v 0) (.k 128)) (.nle (.v 0) (.k 100000)))) [_] [_]) hl bd.2.2) ?_
    fail "s"
    refine ⟨_, _, _, _, _, rfl, fun s' c le hc => ?_⟩
    fail "s"
    exact fin _ _ _ ((Le.push _ _).trans le) (by exact (Z.q (.im (.neq (.v 0) (.k 4)) (.eq (.a (.a (.a (.a (.v 0) (.c (.v 1))) (.c (.v 2))) (.v 1)) (.k 4)) (.a (.a (.a (.a (.v 0) (.c (.v 1))) (.c (.v 2))) (.v 1)) (.c (.v 0))))) [_,_] [_,_,_]) hol)
  · rw [if_neg c] at hol
    fail "s"
    refine cR hd2 (by exact (Z.q (.im (.nle (.v 0) (.k 1000)) (.nle (.v 0) (.k 100000))) [] [_]) hb) ?_
    fail "s"
    refine cI (by exact (Z.q (.im (.eq (.c (.v 0)) (.v 0)) (.im (.le (.v 0) (.k 128)) (.nle (.v 0) (.k 100000)))) [_] [_]) hl bd.2.2) ?_
    fail "s"
    refine ⟨_, _, _, _, _, rfl, fun s' c le hc => ?_⟩
    fail "s"
    exact fin _ _ _ ((Le.push _ _).trans le) (by exact (Z.q (.im (.neq (.v 0) (.k 0)) (.eq (.a (.a (.a (.v 0) (.c (.v 1))) (.c (.v 2))) (.v 1)) (.a (.a (.a (.a (.v 0) (.c (.v 1))) (.c (.v 2))) (.v 1)) (.c (.v 0))))) [_,_] [_,_,_]) hol)
end

section
variable {Q : MV → Sto → Prop} {σ : Sto} {k d : Nat} {kind us size v : Int} {b : List UInt8}
theorem cO (hv : 0 ≤ v ∧ v < 4294967296) (h : ∀ σ' x, Le σ σ' → x.length = 4 → Q (.bytes x) σ') : We (dR [.int v] σ) Q := by
  refine bg ?_
  unfold eH
  fail "s"
  refine qb (by decide) ?_
  have hd := aS σ (.ba (List.replicate (4 : Int).toNat 0))
  fail "s"
  refine jM hd (by rw [List.length_replicate]; decide) hv fun b' hl _ _ => ?_
  rw [List.length_replicate] at hl
  fail "s"
  refine dw (aT _ hd) (by (first|lia|omega)) ?_
  fail "s"
  exact h _ _ ((Le.push _ _).set (Nat.le_refl _) _) (by (first|lia|omega))
noncomputable abbrev CellAt (σ : Sto) (c : Nat) (ch ri size : Int) (loc : List UInt8) (ov : Int) : Prop := σ[c]? = some (.inst 169 [("child", .int ch), ("rowid", .int ri), ("size", .int size), ("local", .bytes loc), ("overflow", .int ov)])
theorem nl {c : Nat} {ch ri ov m : Int} {loc vs vr : List UInt8} (hc : CellAt σ c ch ri size loc ov) (h1 : 0 ≤ ch ∧ ch < 4294967296) (h2 : 0 ≤ ov ∧ ov < 4294967296) (hr : Vi ri m vr) (hs : Vi size size vs) (hu : 64 ≤ us ∧ us ≤ 128) (hs0 : 0 ≤ size)
    (isk : IsKind kind) (hl : (loc.length : Int) = lsz kind us size) (ho : if ov = 0 then lsz kind us size = size else lsz kind us size < size) (h : ∀ σ' r, Le σ σ' → Reads kind us r → r.length ≤ 1000 → Q (.bytes r) σ') : We (eg [.ref c, .int kind] σ) Q := by
  have bd := jO (kind := kind) hu hs0
  have l1 := hr.len; have l2 := hs.len
  refine ce ?_
  unfold dz
  fail "n"
  have leaf : ∀ Q' : MV → Sto → Prop, Q' (.bool (decide (10 ≤ kind))) σ → We (dG [.int kind] σ) Q' := fun Q' q => dI isk q
  have isk' := isk
  unfold IsKind at isk
  rcases isk with rfl | rfl | rfl | rfl
  · fail "s"
    refine leaf _ ?_
    fail "s"
    refine cO h1 fun s1 f le1 lf => ?_
    have hc1 : CellAt s1 c ch ri size loc ov := le1 _ _ hc
    unfold CellAt at hc1
    fail "s"
    refine hs.put _ _ fun s2 le2 => ?_
    have hc2 : CellAt s2 c ch ri size loc ov := le2 _ _ hc1
    unfold CellAt at hc2
    refine cg (by exact (Z.q (.im (.nle (.v 0) (.k 9)) (.im (.neq (.v 1) (.k 4)) (.nle (.a (.v 1) (.v 0)) (.k 100000)))) [] [_,_]) l2 lf) ?_
    fail "s"
    refine cg (by rw [List.length_append]; exact (Z.q (.im (.nle (.v 0) (.k 9)) (.im (.eq (.c (.v 1)) (.v 0)) (.im (.le (.v 0) (.k 128)) (.im (.neq (.v 2) (.k 4)) (.nle (.a (.a (.v 2) (.v 0)) (.v 1)) (.k 100000)))))) [_] [_,_,_]) l2 hl bd.2.2 lf) ?_
    fail "s"
    refine br (fun q => ?_) fun q => ?_
    · fail "s"
      refine cO h2 fun s3 o le3 lo => ?_
      rw [if_neg q] at ho
      refine cg (by simp only [List.length_append]; exact (Z.q (.im (.nle (.v 0) (.k 9)) (.im (.eq (.c (.v 1)) (.v 0)) (.im (.le (.v 0) (.k 128)) (.im (.neq (.v 2) (.k 4)) (.im (.neq (.v 3) (.k 4)) (.nle (.a (.a (.a (.v 2) (.v 0)) (.v 1)) (.v 3)) (.k 100000))))))) [_] [_,_,_,_]) l2 hl bd.2.2 lf lo) ?_
      fail "s"
      refine h _ _ (le1.trans (le2.trans le3)) ?_ (by simp only [List.length_append]; exact (Z.q (.im (.nle (.v 0) (.k 9)) (.im (.eq (.c (.v 1)) (.v 0)) (.im (.le (.v 0) (.k 128)) (.im (.neq (.v 2) (.k 4)) (.im (.neq (.v 3) (.k 4)) (.nle (.a (.a (.a (.v 2) (.v 0)) (.v 1)) (.v 3)) (.k 1000))))))) [_] [_,_,_,_]) l2 hl bd.2.2 lf lo)
      rw [List.append_assoc, List.append_assoc]
      exact reads2 hu hs0 lf hs.get hl (.inr ⟨lo, ho⟩)
    · rw [if_pos (by exact (Z.q (.im (.no (.no (.eq (.v 0) (.k 0)))) (.eq (.v 0) (.k 0))) [_] []) q)] at ho
      fail "s"
      refine h _ _ (le1.trans le2) ?_ (by simp only [List.length_append]; exact (Z.q (.im (.nle (.v 0) (.k 9)) (.im (.eq (.c (.v 1)) (.v 0)) (.im (.le (.v 0) (.k 128)) (.im (.neq (.v 2) (.k 4)) (.nle (.a (.a (.v 2) (.v 0)) (.v 1)) (.k 1000)))))) [_] [_,_,_]) l2 hl bd.2.2 lf)
      have := reads2 (ov := []) hu hs0 lf hs.get hl (.inl ⟨rfl, ho⟩)
      rwa [List.append_nil, ← List.append_assoc] at this
  · fail "s"
    refine leaf _ ?_
    fail "s"
    refine cO h1 fun s1 f le1 lf => ?_
    have hc1 : CellAt s1 c ch ri size loc ov := le1 _ _ hc
    unfold CellAt at hc1
    fail "s"
    refine hr.put _ _ fun s2 le2 => ?_
    refine cg (by exact (Z.q (.im (.nle (.v 0) (.k 9)) (.im (.neq (.v 1) (.k 4)) (.nle (.a (.v 1) (.v 0)) (.k 100000)))) [] [_,_]) l1 lf) ?_
    fail "s"
    exact h _ _ (le1.trans le2) (reads5 lf hr.get) (by simp only [List.length_append]; exact (Z.q (.im (.nle (.v 0) (.k 9)) (.im (.neq (.v 1) (.k 4)) (.nle (.a (.v 1) (.v 0)) (.k 1000)))) [] [_,_]) l1 lf)
  · unfold CellAt at hc
    fail "s"
    refine leaf _ ?_
    fail "s"
    refine hs.put _ _ fun s2 le2 => ?_
    have hc2 : CellAt s2 c ch ri size loc ov := le2 _ _ hc
    unfold CellAt at hc2
    refine cg (by simp only [List.length_nil]; exact (Z.q (.im (.nle (.v 0) (.k 9)) (.nle (.a (.k 0) (.v 0)) (.k 100000))) [] [_]) l2) ?_
    fail "s"
    refine cg (by simp only [List.length_append, List.length_nil]; exact (Z.q (.im (.nle (.v 0) (.k 9)) (.im (.eq (.c (.v 1)) (.v 0)) (.im (.le (.v 0) (.k 128)) (.nle (.a (.a (.k 0) (.v 0)) (.v 1)) (.k 100000))))) [_] [_,_]) l2 hl bd.2.2) ?_
    fail "s"
    refine br (fun q => ?_) fun q => ?_
    · fail "s"
      refine cO h2 fun s3 o le3 lo => ?_
      rw [if_neg q] at ho
      refine cg (by simp only [List.length_append, List.length_nil]; exact (Z.q (.im (.nle (.v 0) (.k 9)) (.im (.eq (.c (.v 1)) (.v 0)) (.im (.le (.v 0) (.k 128)) (.im (.neq (.v 2) (.k 4)) (.nle (.a (.a (.a (.k 0) (.v 0)) (.v 1)) (.v 2)) (.k 100000)))))) [_] [_,_,_]) l2 hl bd.2.2 lo) ?_
      fail "s"
      refine h _ _ (le2.trans le3) ?_ (by simp only [List.length_append, List.length_nil]; exact (Z.q (.im (.nle (.v 0) (.k 9)) (.im (.eq (.c (.v 1)) (.v 0)) (.im (.le (.v 0) (.k 128)) (.im (.neq (.v 2) (.k 4)) (.nle (.a (.a (.a (.k 0) (.v 0)) (.v 1)) (.v 2)) (.k 1000)))))) [_] [_,_,_]) l2 hl bd.2.2 lo)
      rw [List.nil_append, List.append_assoc]
      exact reads10 hu hs0 hs.get hl (.inr ⟨lo, ho⟩)
    · rw [if_pos (by exact (Z.q (.im (.no (.no (.eq (.v 0) (.k 0)))) (.eq (.v 0) (.k 0))) [_] []) q)] at ho
      fail "s"
      refine h _ _ le2 ?_ (by simp only [List.length_append, List.length_nil]; exact (Z.q (.im (.nle (.v 0) (.k 9)) (.im (.eq (.c (.v 1)) (.v 0)) (.im (.le (.v 0) (.k 128)) (.nle (.a (.a (.k 0) (.v 0)) (.v 1)) (.k 1000))))) [_] [_,_]) l2 hl bd.2.2)
      have := reads10 (ov := []) hu hs0 hs.get hl (.inl ⟨rfl, ho⟩)
      rwa [List.append_nil] at this
  · unfold CellAt at hc
    fail "s"
    refine leaf _ ?_
    fail "s"
    refine hs.put _ _ fun s1 le1 => ?_
    have hc1 : CellAt s1 c ch ri size loc ov := le1 _ _ hc
    unfold CellAt at hc1
    refine cg (by simp only [List.length_nil]; exact (Z.q (.im (.nle (.v 0) (.k 9)) (.nle (.a (.k 0) (.v 0)) (.k 100000))) [] [_]) l2) ?_
    fail "s"
    refine hr.put _ _ fun s2 le2 => ?_
    have hc2 : CellAt s2 c ch ri size loc ov := le2 _ _ hc1
    unfold CellAt at hc2
    refine cg (by simp only [List.length_append, List.length_nil]; exact (Z.q (.im (.nle (.v 0) (.k 9)) (.im (.nle (.v 1) (.k 9)) (.nle (.a (.a (.k 0) (.v 1)) (.v 0)) (.k 100000)))) [] [_,_]) l1 l2) ?_
    fail "s"
    refine cg (by simp only [List.length_append, List.length_nil]; exact (Z.q (.im (.nle (.v 0) (.k 9)) (.im (.nle (.v 1) (.k 9)) (.im (.eq (.c (.v 2)) (.v 0)) (.im (.le (.v 0) (.k 128)) (.nle (.a (.a (.a (.k 0) (.v 1)) (.v 0)) (.v 2)) (.k 100000)))))) [_] [_,_,_]) l1 l2 hl bd.2.2) ?_
    fail "s"
    refine br (fun q => ?_) fun q => ?_
    · fail "s"
      refine cO h2 fun s3 o le3 lo => ?_
      rw [if_neg q] at ho
      refine cg (by simp only [List.length_append, List.length_nil]; exact (Z.q (.im (.nle (.v 0) (.k 9)) (.im (.nle (.v 1) (.k 9)) (.im (.eq (.c (.v 2)) (.v 0)) (.im (.le (.v 0) (.k 128)) (.im (.neq (.v 3) (.k 4)) (.nle (.a (.a (.a (.a (.k 0) (.v 1)) (.v 0)) (.v 2)) (.v 3)) (.k 100000))))))) [_] [_,_,_,_]) l1 l2 hl bd.2.2 lo) ?_
      fail "s"
      refine h _ _ (le1.trans (le2.trans le3)) ?_ (by simp only [List.length_append, List.length_nil]; exact (Z.q (.im (.nle (.v 0) (.k 9)) (.im (.nle (.v 1) (.k 9)) (.im (.eq (.c (.v 2)) (.v 0)) (.im (.le (.v 0) (.k 128)) (.im (.neq (.v 3) (.k 4)) (.nle (.a (.a (.a (.a (.k 0) (.v 1)) (.v 0)) (.v 2)) (.v 3)) (.k 1000))))))) [_] [_,_,_,_]) l1 l2 hl bd.2.2 lo)
      rw [List.nil_append, List.append_assoc, List.append_assoc]
      exact reads13 hu hs0 hs.get hr.get hl (.inr ⟨lo, ho⟩)
    · rw [if_pos (by exact (Z.q (.im (.no (.no (.eq (.v 0) (.k 0)))) (.eq (.v 0) (.k 0))) [_] []) q)] at ho
      fail "s"
      refine h _ _ (le1.trans le2) ?_ (by simp only [List.length_append, List.length_nil]; exact (Z.q (.im (.nle (.v 0) (.k 9)) (.im (.nle (.v 1) (.k 9)) (.im (.eq (.c (.v 2)) (.v 0)) (.im (.le (.v 0) (.k 128)) (.nle (.a (.a (.a (.k 0) (.v 1)) (.v 0)) (.v 2)) (.k 1000)))))) [_] [_,_,_]) l1 l2 hl bd.2.2)
      have := reads13 (ov := []) hu hs0 hs.get hr.get hl (.inl ⟨rfl, ho⟩)
      rwa [List.append_nil, ← List.append_assoc] at this
noncomputable def Src (σ : Sto) (sx : Nat) : Prop := ∃ a m, σ[sx]? = some (.list [.int a, .int m]) ∧ 0 ≤ m ∧ m < 2147483647
theorem Src.le {σ σ' : Sto} {sx : Nat} (h : Src σ sx) (l : Le σ σ') : Src σ' sx := let ⟨a, m, e, q⟩ := h; ⟨a, m, l _ _ e, q⟩
theorem db {sx : Nat} {top : Int} (hs : Src σ sx) (ht : 0 < top ∧ top < 1073741824) (h : ∀ σ' r, LeX sx σ σ' → Src σ' sx → 0 ≤ r → r < top → Q (.int r) σ') : We (ay [.ref sx, .int top] σ) Q := by
  obtain ⟨a, m, hs, hm0, hm1⟩ := hs
  refine ce ?_
  unfold fu
  fail "s"
  refine bl hs (by decide) rfl ?_
  fail "s"
  refine br (fun c => ?_) fun c => ?_
  · fail "s"
    refine bl hs (by decide) rfl ?_
    fail "s"
    refine bl hs (by decide) rfl ?_
    fail "s"
    refine kc hs ⟨by decide, by simp, by simp⟩ ?_
    fail "s"
    exact h _ _ (LeX.set _ _ _) ⟨_, m, aT _ hs, hm0, hm1⟩ (Int.emod_nonneg _ (by exact (Z.q (.im (.lt (.k 0) (.v 0)) (.no (.eq (.v 0) (.k 0)))) [_] []) ht.1)) (Int.emod_lt_of_pos _ ht.1)
  · fail "s"
    refine bl hs (by decide) rfl ?_
    fail "s"
    refine kc hs ⟨by decide, by simp, by simp⟩ ?_
    have hm' : 0 ≤ (m * 39373 + 7) % 2147483647 ∧ (m * 39373 + 7) % 2147483647 < 2147483647 := by exact (Z.q (.im (.an (.eq (.a (.m 2147483647 (.v 0)) (.v 1)) (.a (.r (.v 2) 39373) (.k 7))) (.an (.le (.k 0) (.v 1)) (.lt (.v 1) (.k 2147483647)))) (.an (.le (.k 0) (.v 1)) (.lt (.v 1) (.k 2147483647)))) [_,_,_] []) (Z.dm _ (k := 2147483647) (by decide))
    have hs' := aT (.list [.int a, .int ((m * 39373 + 7) % 2147483647)]) hs
    show Nx _ _ Fl.next _ (σ.set sx (.list [.int a, .int ((m * 39373 + 7) % 2147483647)]))
    generalize (m * 39373 + 7) % 2147483647 = m' at hm' hs' ⊢
    fail "s"
    refine bl hs' (by decide) rfl ?_
    fail "s"
    refine bl hs' (by decide) rfl ?_
    fail "s"
    exact h _ _ (LeX.set _ _ _) ⟨a, m', hs', hm'.1, hm'.2⟩ (Int.emod_nonneg _ (by exact (Z.q (.im (.lt (.k 0) (.v 0)) (.no (.eq (.v 0) (.k 0)))) [_] []) ht.1)) (Int.emod_lt_of_pos _ ht.1)
theorem gT {v : Int} (hv : 0 ≤ v ∧ v < 256) : ∀ n : Nat, octs (List.replicate n (.int v)) = some (List.replicate n v.toNat.toUInt8)
  | 0 => rfl
  | n + 1 => by rw [List.replicate_succ, octs, if_pos hv, gT hv n]; rfl
theorem pick {L : List Int} {r : Int} (h0 : 0 ≤ r) (h1 : r < L.length) : ∃ n ∈ L, (L.map MV.int)[r.toNat]? = some (.int n) := by
  have h : r.toNat < L.length := by exact (Z.q (.im (.le (.k 0) (.v 0)) (.im (.lt (.v 0) (.c (.v 0))) (.im (.or (.an (.eq (.c (.v 1)) (.v 0)) (.le (.k 0) (.v 0))) (.an (.eq (.c (.v 1)) (.k 0)) (.le (.v 0) (.k 0)))) (.nlt (.v 1) (.v 0))))) [_] [_,_]) h0 h1 (Z.tn _)
  exact ⟨L[r.toNat], List.getElem_mem h, by rw [List.getElem?_map, List.getElem?_eq_getElem h]; rfl⟩
theorem n7 {sx : Nat} (hs : Src σ sx) (hu : 64 ≤ us ∧ us ≤ 128) (isk : IsKind kind) (h : ∀ σ' r, LeX sx σ σ' → Src σ' sx → Reads kind us r → r.length ≤ 1000 → Q (.bytes r) σ') : We (iR [.ref sx, .int kind, .int us] σ) Q := by
  have sl : ∀ {s : Sto}, Src s sx → ∀ {xs : List MV} {m : Nat}, s[m]? = some (.list xs) → xs.length ≠ 2 → m ≠ sx := by
    rintro s ⟨a, m', e, _⟩ xs m hm hl rfl
    rw [e] at hm
    cases hm
    exact hl rfl
  refine iU ?_
  unfold gn
  fail "s"
  have a1 := aS σ (.list (Sizes.map MV.int))
  refine db (hs.le (Le.push _ _)) (by decide) fun s1 r1 x1 S1 r0 r12 => ?_
  obtain ⟨size, hsz, ez⟩ := pick (L := Sizes) r0 r12
  refine bl (x1 _ _ (sl (hs.le (Le.push _ _)) a1 (by decide)) a1) (by exact (Z.q (.im (.le (.k 0) (.v 0)) (.im (.lt (.v 0) (.k 12)) (.an (.le (.k 0) (.v 0)) (.lt (.v 0) (.k (2 ^ 60)))))) [_] []) r0 r12) ez ?_
  obtain ⟨vs, Vs⟩ := og hsz
  have hs0 : 0 ≤ size := by
    unfold Sizes at hsz
    simp only [List.mem_cons, List.not_mem_nil, or_false] at hsz
    exact (Z.q (.im (.or (.eq (.v 0) (.k 0)) (.or (.eq (.v 0) (.k 1)) (.or (.eq (.v 0) (.k 2)) (.or (.eq (.v 0) (.k 3)) (.or (.eq (.v 0) (.k 6)) (.or (.eq (.v 0) (.k 10)) (.or (.eq (.v 0) (.k 17)) (.or (.eq (.v 0) (.k 18)) (.or (.eq (.v 0) (.k 29)) (.or (.eq (.v 0) (.k 30)) (.or (.eq (.v 0) (.k 93)) (.eq (.v 0) (.k 200))))))))))))) (.le (.k 0) (.v 0))) [_] []) hsz
  have X1 := ((Le.push σ (.list (Sizes.map MV.int))).toX sx).trans x1
  have bd := jO (kind := kind) hu hs0
  clear a1 ez r0 r12
  fail "n"
  refine dj hu ?_
  fail "n"
  refine Ws.mono (Q := fun fl l' s' => fl = .next ∧ l' "source" = some (.ref sx) ∧ l' "kind" = some (.int kind) ∧ l' "usable" = some (.int us) ∧ l' "size" = some (.int size) ∧ l' "many" = some (.int (lsz kind us size)) ∧ LeX sx σ s' ∧ Src s' sx ∧ ∃ ov, l' "overflow" = some (.int ov) ∧ 0 ≤ ov ∧ ov < 400 ∧ if ov = 0 then lsz kind us size = size else lsz kind us size < size) ?_ ?_
  · fail "s"
    refine br (fun c => ?_) fun c => ?_
    · fail "s"
      refine db S1 (by decide) fun s2 r2 x2 S2 r20 r21 => ?_
      fail "s"
      exact ⟨rfl, by fail "l", by fail "l", by fail "l", by fail "l", by fail "l", X1.trans x2, S2, _, fJ, by exact (Z.q (.im (.le (.k 0) (.v 0)) (.le (.k 0) (.a (.k 1) (.v 0)))) [_] []) r20, by exact (Z.q (.im (.lt (.v 0) (.k 300)) (.lt (.a (.k 1) (.v 0)) (.k 400))) [_] []) r21, by rw [if_neg (by exact (Z.q (.im (.le (.k 0) (.v 0)) (.no (.eq (.a (.k 1) (.v 0)) (.k 0)))) [_] []) r20)]; exact c⟩
    · fail "s"
      exact ⟨rfl, by fail "l", by fail "l", by fail "l", by fail "l", by fail "l", X1, S1, _, fJ, by decide, by decide, by rw [if_pos rfl]; exact (Z.q (.im (.le (.v 0) (.v 1)) (.im (.no (.lt (.v 0) (.v 1))) (.eq (.v 0) (.v 1)))) [_,_] []) bd.2.1 c⟩
  rintro _ l s ⟨rfl, e1, e2, e3, e4, e5, X, S, ov, e6, o1, o2, o3⟩
  fail "s"
  have a2 := aS s (.list (Rowids.map MV.int))
  refine db (S.le (Le.push _ _)) (by decide) fun s2 r2 x2 S2 r20 r21 => ?_
  obtain ⟨ri, hri, ez⟩ := pick (L := Rowids) r20 r21
  refine bl (x2 _ _ (sl (S.le (Le.push _ _)) a2 (by decide)) a2) (by exact (Z.q (.im (.le (.k 0) (.v 0)) (.im (.lt (.v 0) (.k 6)) (.an (.le (.k 0) (.v 0)) (.lt (.v 0) (.k (2 ^ 60)))))) [_] []) r20 r21) ez ?_
  obtain ⟨rm, vr, Vr⟩ := nS hri
  have X2 := X.trans (((Le.push s (.list (Rowids.map MV.int))).toX sx).trans x2)
  clear a2 ez r20 r21
  fail "s"
  refine db S2 (by decide) fun s3 r3 x3 S3 r30 r31 => ?_
  fail "s"
  refine kM (aS _ _) (by exact (Z.q (.im (.le (.k 0) (.v 0)) (.im (.le (.v 0) (.k 128)) (.an (.le (.k 0) (.v 0)) (.le (.v 0) (.k 100000))))) [_] []) bd.1 bd.2.2) ?_
  fail "s"
  refine fD (aS _ _) (by rw [List.length_replicate]; exact (Z.q (.im (.le (.v 0) (.k 128)) (.im (.or (.an (.eq (.c (.v 0)) (.v 0)) (.le (.k 0) (.v 0))) (.an (.eq (.c (.v 0)) (.k 0)) (.le (.v 0) (.k 0)))) (.nle (.v 0) (.k 100000)))) [_] [_]) bd.2.2 (Z.tn _)) (gT (by exact (Z.q (.im (.le (.k 0) (.v 0)) (.im (.lt (.v 0) (.k 250)) (.an (.le (.k 0) (.a (.k 1) (.v 0))) (.lt (.a (.k 1) (.v 0)) (.k 256))))) [_] []) r30 r31) _) ?_
  have P := (Le.push s3 (.list [.int (1 + r3)])).trans (Le.push _ (.list (List.replicate (lsz kind us size).toNat (.int (1 + r3)))))
  fail "s"
  refine db (S3.le P) (by decide) fun s4 r4 x4 S4 r40 r41 => ?_
  fail "s"
  refine ⟨_, _, _, _, _, rfl, fun s5 c le5 hc => ⟨⟨c, _, rfl, hc, rfl⟩, ?_⟩⟩
  fail "s"
  refine nl hc (by exact (Z.q (.im (.le (.k 0) (.v 0)) (.im (.lt (.v 0) (.k 70000)) (.an (.le (.k 0) (.a (.k 1) (.v 0))) (.lt (.a (.k 1) (.v 0)) (.k 4294967296))))) [_] []) r40 r41) (by exact (Z.q (.im (.le (.k 0) (.v 0)) (.im (.lt (.v 0) (.k 400)) (.an (.le (.k 0) (.v 0)) (.lt (.v 0) (.k 4294967296))))) [_] []) o1 o2) Vr Vs hu hs0 isk (by rw [List.length_replicate]; exact (Z.q (.im (.le (.k 0) (.v 0)) (.im (.or (.an (.eq (.c (.v 0)) (.v 0)) (.le (.k 0) (.v 0))) (.an (.eq (.c (.v 0)) (.k 0)) (.le (.v 0) (.k 0)))) (.eq (.c (.v 0)) (.v 0)))) [_] [_]) bd.1 (Z.tn _)) o3 fun s6 r le6 hr hlr => ?_
  fail "s"
  exact h _ _ (X2.trans (x3.trans ((P.toX sx).trans (x4.trans ((le5.trans le6).toX sx))))) (S4.le (le5.trans le6)) hr hlr
end

theorem oT : ∀ raws : List (List UInt8), (raws.map fun r => 2 + sz r).sum = 2 * raws.length + szs raws
  | [] => rfl
  | x :: r => by
    have := oT r
    rw [List.map_cons, List.sum_cons, this]
    show 2 + sz x + (2 * r.length + szs r) = 2 * ((r.length + 1 : Nat) : Int) + (sz x + szs r)
    exact (Z.q (.eq (.a (.a (.k 2) (.v 0)) (.a (.m 2 (.c (.v 0))) (.v 1))) (.a (.m 2 (.c (.a (.v 0) (.k 1)))) (.a (.v 0) (.v 1)))) [_,_] [_])
section
variable {Q : MV → Sto → Prop} {σ : Sto} {k d sx rx : Nat} {page us base kind c F v : Int} {b : List UInt8} {cells : List Cel} {blks X : List Area} {raws : List (List UInt8)}
theorem jT {m : Nat} (hm : σ[m]? = some (.list (raws.map .bytes))) (hn : raws.length ≤ 1000) (hl : ∀ r ∈ raws, r.length ≤ 1000) (h : ∀ σ', Le σ σ' → Q (.int (2 * raws.length + szs raws)) σ') : We (fS [.ref m] σ) Q := by
  refine bg ?_
  unfold fz
  fail "s"
  have key := iI (chk := fun s => s[m]? = some (.list (raws.map .bytes))) (b := bN "raw") (fe := eOp2 oAdd (eK (.int 2)) (eCall cMax (eCons (eK (.int 4)) (eCons (eCall cLen (eCons (eN "raw") eNil)) eNil)))) (kA := σ.length) MV.bytes (fun r => .int (2 + sz r)) (fun r => r.length ≤ 1000) (Le σ) (fun s le => le _ _ hm)
    (fun r l s done hr le hd => by
      refine r5 ?_
      fail "s"
      refine cI (by exact (Z.q (.im (.nle (.v 0) (.k 1000)) (.nle (.v 0) (.k 100000))) [] [_]) hr) ?_
      fail "s"
      exact ⟨rfl, hd, fun x => le.set (Nat.le_refl _) x⟩)
    raws [] (fun _ => none) (σ ++ [.list []]) hl (by simp only [List.length_nil]; exact (Z.q (.im (.nle (.v 0) (.k 1000)) (.nle (.a (.k 0) (.v 0)) (.k 1000))) [] [_]) hn) (Le.push _ _) (aS _ _)
  obtain ⟨σ', e, le, hs⟩ := key
  rw [List.nil_append] at hs
  refine ⟨.ref σ.length, σ', ?_, ?_⟩
  · unfold eComp
    simp only [eN, upd, if_true, hm, e]
  · have e2 : (raws.map fun r => MV.int (2 + sz r)) = (raws.map fun r => 2 + sz r).map MV.int := by rw [List.map_map]; rfl
    rw [e2] at hs
    fail "s"
    refine r9 hs ?_
    rw [oT]
    fail "s"
    exact h _ le
structure St (σ : Sto) (sx k d rx : Nat) (page us base kind : Int) (raws : List (List UInt8)) : Prop where
  src : Src σ sx
  raw : σ[rx]? = some (.list (raws.map .bytes))
  ne : sx ≠ rx
  node : ∃ b cells blks c F, Nd σ k d page us base b ∧ Rep us base kind b cells blks c F [] ∧ cells.map (·.2) = raws
  len : ∀ r ∈ raws, r.length ≤ 1000
theorem Src.nd {b : List UInt8} (h : Src σ sx) (N : Nd σ k d page us base b) : k ≠ sx ∧ d ≠ sx := by
  obtain ⟨a, m, e, _⟩ := h
  constructor
  · rintro rfl; have := N.ins; rw [e] at this; cases this
  · rintro rfl; have := N.dat; rw [e] at this; cases this
theorem Nd.leS {σ' : Sto} {b : List UInt8} (N : Nd σ k d page us base b) (h : Src σ sx) (l : LeX sx σ σ') : Nd σ' k d page us base b :=
  have q := h.nd N
  ⟨l _ _ q.1 N.ins, l _ _ q.2 N.dat, N.len, N.us, N.base⟩
theorem Src.leX {σ' : Sto} {b : List UInt8} (h : Src σ sx) (N : Nd σ k d page us base b) (l : LeX d σ σ') : Src σ' sx := by
  have q := (h.nd N).2
  obtain ⟨a, m, e, r⟩ := h
  exact ⟨a, m, l _ _ (Ne.symm q) e, r⟩
theorem St.mv {σ' : Sto} (S : St σ sx k d rx page us base kind raws) (l : LeX sx σ σ') (h : Src σ' sx) : St σ' sx k d rx page us base kind raws :=
  let ⟨b, cells, blks, c, F, N, R, e⟩ := S.node
  ⟨h, l _ _ (Ne.symm S.ne) S.raw, S.ne, ⟨b, cells, blks, c, F, N.leS S.src l, R, e⟩, S.len⟩
theorem St.le {σ' : Sto} (S : St σ sx k d rx page us base kind raws) (l : Le σ σ') : St σ' sx k d rx page us base kind raws := S.mv (l.toX _) (S.src.le l)
theorem nH (S : St σ sx k d rx page us base kind raws) (h : ∀ σ' raws', St σ' sx k d rx page us base kind raws' → Q (.bool true) σ') : We (ee [.ref sx, .ref k, .ref rx, .int (us - fst kind base)] σ) Q := by
  obtain ⟨b0, cells0, blks0, c0, F0, N0, R0, e0⟩ := S.node
  have hu := N0.us; have isk := R0.isk
  have hfew := R0.few; have h8 := R0.nonneg N0.bnd
  have hn : raws.length ≤ 100 := by rw [← e0, List.length_map]; exact (Z.q (.im (.le (.v 0) (.k 128)) (.im (.le (.a (.m 4 (.c (.v 0))) (.m 4 (.c (.v 1)))) (.s (.v 0) (.v 1))) (.im (.le (.k 8) (.v 1)) (.nle (.v 0) (.k 100))))) [_,_] [_,_]) hu.2 hfew h8
  have hrl : (raws.map MV.bytes).length ≤ 100000 := by rw [List.length_map]; exact (Z.q (.im (.nle (.v 0) (.k 100)) (.nle (.v 0) (.k 100000))) [] [_]) hn
  clear hfew h8 R0 e0 N0
  refine iQ ?_
  unfold e7
  fail "n"
  refine Ws.mono (Q := fun fl l' s' => (fl = .next ∧ St s' sx k d rx page us base kind raws ∧ l' "source" = some (.ref sx) ∧ l' "node" = some (.ref k) ∧ l' "raws" = some (.ref rx) ∧ l' "most" = some (.int (us - fst kind base))) ∨ ∃ v, fl = .ret v ∧ Q v s') ?_ ?_
  · fail "s"
    refine gt (Le.push σ (.list []) _ _ S.raw) (aS _ _) (gW _) ?_
    have S1 := S.le (Le.push σ (.list []))
    cases hr : raws with
    | nil =>
      fail "s"
      refine eG ?_
      fail "s"
      exact .inl ⟨rfl, hr ▸ S1, by fail "l", by fail "l", by fail "l", by fail "l"⟩
    | cons r0 rs =>
      fail "s"
      refine mR ?_
      fail "s"
      refine db S1.src (by decide) fun s2 r2 x2 Sr2 r20 r21 => ?_
      have S2 := S1.mv x2 Sr2
      fail "s"
      refine br (fun c => ?_) fun c => ?_
      · have S2r := S2.raw
        fail "s"
        refine gN S2.raw hrl ?_
        rw [List.length_map]
        fail "s"
        refine db S2.src (by rw [hr]; simp only [List.length_cons]; rw [hr] at hn; simp only [List.length_cons] at hn; exact (Z.q (.im (.nle (.a (.v 0) (.k 1)) (.k 100)) (.an (.lt (.k 0) (.c (.a (.v 0) (.k 1)))) (.lt (.c (.a (.v 0) (.k 1))) (.k 1073741824)))) [] [_]) hn) fun s3 r3 x3 Sr3 r30 r31 => ?_
        have S3 := S2.mv x3 Sr3
        obtain ⟨i, rfl⟩ : ∃ i : Nat, r3 = i := ⟨r3.toNat, by exact (Z.q (.im (.le (.k 0) (.v 0)) (.im (.or (.an (.eq (.c (.v 0)) (.v 0)) (.le (.k 0) (.v 0))) (.an (.eq (.c (.v 0)) (.k 0)) (.le (.v 0) (.k 0)))) (.eq (.v 0) (.c (.v 0))))) [_] [_]) r30 (Z.tn _)⟩
        obtain ⟨b, cells, blks, cc, F, N, R, e⟩ := S3.node
        have hi : i < cells.length := by have := congrArg List.length e; rw [List.length_map] at this; exact (Z.q (.im (.lt (.c (.v 0)) (.c (.v 1))) (.im (.neq (.v 2) (.v 1)) (.nlt (.v 0) (.v 2)))) [] [_,_,_]) r31 this
        have hhas : HasC 412 "remove" (.ref k) s3 := N.has rfl
        fail "s"
        refine o5 N R hi fun s4 b4 cells4 B4 c4 G4 le4 N4 R4 e4 => ?_
        have hraw4 := le4 _ _ (gA S3.raw N.dat) S3.raw
        fail "s"
        obtain ⟨x, hx⟩ : ∃ x, raws[i]? = some x := ⟨_, List.getElem?_eq_getElem (by exact (Z.q (.im (.lt (.c (.v 0)) (.c (.v 1))) (.nlt (.v 0) (.v 1))) [] [_,_]) r31)⟩
        refine qu hraw4 ⟨by exact (Z.q (.le (.k 0) (.c (.v 0))) [] [_]), hrl⟩ (by rw [Int.toNat_natCast, List.getElem?_map, hx]; rfl) ?_
        fail "s"
        refine .inr ⟨_, rfl, h _ (raws.eraseIdx i) ⟨?_, ?_, S.ne, ⟨b4, cells4, B4, c4, G4, ?_, R4, by rw [e4, e]⟩, fun r hr => S.len r (List.mem_of_mem_eraseIdx hr)⟩⟩
        · obtain ⟨a, m, q, q2⟩ := S3.src.leX N le4
          exact ⟨a, m, dO S.ne q, q2⟩
        · rw [Int.toNat_natCast, aT _ hraw4, List.eraseIdx_eq_take_drop_succ, List.eraseIdx_eq_take_drop_succ, List.map_append, List.map_take, List.map_drop]
        · have nk : k ≠ rx := by rintro rfl; have := N4.ins; rw [hraw4] at this; cases this
          have nd : d ≠ rx := by rintro rfl; have := N4.dat; rw [hraw4] at this; cases this
          exact ⟨dO nk N4.ins, dO nd N4.dat, N4.len, N4.us, N4.base⟩
      · fail "s"
        exact .inl ⟨rfl, hr ▸ S2, by fail "l", by fail "l", by fail "l", by fail "l"⟩
  rintro fl l s (⟨rfl, S1, e1, e2, e3, e4⟩ | ⟨v, rfl, hv⟩)
  rotate_left
  · fail "n"
    exact hv
  obtain ⟨b1, cells1, blks1, c1, F1, N1, R1, ee1⟩ := S1.node
  fail "s"
  refine kZ N1 (R1.kd ▸ R1.isk) ?_
  rw [R1.kd]
  fail "s"
  refine n7 S1.src hu isk fun s2 r x2 Sr2 hr hlr => ?_
  have S2 := S1.mv x2 Sr2
  fail "s"
  refine gN S2.raw hrl ?_
  rw [List.length_map]
  fail "s"
  refine db S2.src (by exact (Z.q (.im (.nle (.v 0) (.k 100)) (.an (.lt (.k 0) (.a (.c (.v 0)) (.k 1))) (.lt (.a (.c (.v 0)) (.k 1)) (.k 1073741824)))) [] [_]) hn) fun s3 r3 x3 Sr3 r30 r31 => ?_
  have S3 := S2.mv x3 Sr3
  obtain ⟨i, rfl⟩ : ∃ i : Nat, r3 = i := ⟨r3.toNat, by exact (Z.q (.im (.le (.k 0) (.v 0)) (.im (.or (.an (.eq (.c (.v 0)) (.v 0)) (.le (.k 0) (.v 0))) (.an (.eq (.c (.v 0)) (.k 0)) (.le (.v 0) (.k 0)))) (.eq (.v 0) (.c (.v 0))))) [_] [_]) r30 (Z.tn _)⟩
  fail "s"
  have P := Le.push s3 (.list [.bytes r])
  refine kS (P _ _ S3.raw) (aS _ _) (by rw [List.length_map]; simp only [List.length_cons, List.length_nil]; exact (Z.q (.im (.nle (.v 0) (.k 100)) (.nle (.a (.v 0) (.a (.k 0) (.k 1))) (.k 100000))) [] [_]) hn) ?_
  have P2 := P.trans (Le.push _ (.list (raws.map MV.bytes ++ [.bytes r])))
  fail "s"
  refine jT (raws := raws ++ [r]) (by rw [List.map_append]; exact aS _ _) (by rw [List.length_append]; simp only [List.length_cons, List.length_nil]; exact (Z.q (.im (.nle (.v 0) (.k 100)) (.nle (.a (.v 0) (.a (.k 0) (.k 1))) (.k 1000))) [] [_]) hn) (fun y hy => ?_) fun s4 le4 => ?_
  · rcases List.mem_append.mp hy with hy | hy
    · exact S.len y hy
    · rw [List.mem_singleton.mp hy]; exact hlr
  have S4 := S3.le (P2.trans le4)
  obtain ⟨b, cells, blks, cc, F, N, R, e⟩ := S4.node
  have hcl : cells.length = raws.length := by have := congrArg List.length e; rw [List.length_map] at this; exact this
  have hcost := fy cells
  rw [e, hcl] at hcost
  have hszs : szs (raws ++ [r]) = szs raws + (sz r + 0) := pQ raws [r]
  have hrl' : (raws ++ [r]).length = raws.length + 1 := by simp
  have hhas : HasC 412 "insert" (.ref k) s4 := N.has rfl
  fail "s"
  refine br (fun cq => ?_) fun cq => ?_
  · have hraw := S4.raw
    have hrl2 : (raws.map MV.bytes).length < 100000 := by rw [List.length_map]; exact (Z.q (.im (.nle (.v 0) (.k 100)) (.nlt (.v 0) (.k 100000))) [] [_]) hn
    fail "s"
    refine nA S4.raw ⟨by exact (Z.q (.le (.k 0) (.c (.v 0))) [] [_]), by rw [List.length_map]; exact (Z.q (.im (.lt (.c (.v 0)) (.a (.c (.v 1)) (.k 1))) (.le (.c (.v 0)) (.c (.v 1)))) [] [_,_]) r31, hrl2⟩ ?_
    rw [Int.toNat_natCast]
    have nk : k ≠ rx := by rintro rfl; have := N.ins; rw [S4.raw] at this; cases this
    have nd : d ≠ rx := by rintro rfl; have := N.dat; rw [S4.raw] at this; cases this
    have N5 : Nd (s4.set rx (.list ((raws.map MV.bytes).take i ++ .bytes r :: (raws.map MV.bytes).drop i))) k d page us base b := ⟨dO nk N.ins, dO nd N.dat, N.len, N.us, N.base⟩
    have raw5 := aT (.list ((raws.map MV.bytes).take i ++ .bytes r :: (raws.map MV.bytes).drop i)) S4.raw
    have src5 : Src (s4.set rx (.list ((raws.map MV.bytes).take i ++ .bytes r :: (raws.map MV.bytes).drop i))) sx := by
      obtain ⟨a, m, q, q2⟩ := S4.src
      exact ⟨a, m, dO S.ne q, q2⟩
    generalize s4.set rx (.list ((raws.map MV.bytes).take i ++ .bytes r :: (raws.map MV.bytes).drop i)) = s5 at N5 raw5 src5 ⊢
    have hhas5 : HasC 412 "insert" (.ref k) s5 := N5.has rfl
    fail "s"
    refine lV N5 R (i := i) (by exact (Z.q (.im (.lt (.c (.v 0)) (.a (.c (.v 1)) (.k 1))) (.im (.neq (.v 2) (.v 1)) (.nle (.v 0) (.v 2)))) [] [_,_,_]) r31 hcl) hr hlr (fun q => False.elim (by exact (Z.q (.im (.eq (.v 0) (.a (.m 2 (.c (.v 0))) (.v 1))) (.im (.eq (.v 2) (.a (.v 1) (.a (.v 3) (.k 0)))) (.im (.neq (.v 1) (.a (.v 0) (.k 1))) (.im (.le (.a (.m 2 (.c (.v 1))) (.v 2)) (.s (.v 4) (.v 5))) (.im (.lt (.s (.s (.v 4) (.v 5)) (.v 0)) (.a (.v 3) (.k 2))) .ff))))) [_,_,_,_,_,_] [_,_]) hcost hszs hrl' cq q)) fun q s6 b6 cells6 B6 c6 G6 le6 N6 R6 e6 => ?_
    fail "s"
    refine h _ (raws.take i ++ r :: raws.drop i) ⟨src5.leX N5 le6, ?_, S.ne, ⟨b6, cells6, B6, c6, G6, N6, R6, by rw [e6, e]⟩, fun y hy => ?_⟩
    · rw [le6 _ _ (Ne.symm nd) raw5, List.map_append, List.map_cons, List.map_take, List.map_drop]
    · rcases List.mem_append.mp hy with hy | hy
      · exact S.len y (List.mem_of_mem_take hy)
      · rcases List.mem_cons.mp hy with rfl | hy
        · exact hlr
        · exact S.len y (List.mem_of_mem_drop hy)
  · fail "s"
    refine lV N R (i := i) (by exact (Z.q (.im (.lt (.c (.v 0)) (.a (.c (.v 1)) (.k 1))) (.im (.neq (.v 2) (.v 1)) (.nle (.v 0) (.v 2)))) [] [_,_,_]) r31 hcl) hr hlr (fun q s6 le6 => ?_) fun q => False.elim (by exact (Z.q (.im (.eq (.v 0) (.a (.m 2 (.c (.v 0))) (.v 1))) (.im (.eq (.v 2) (.a (.v 1) (.a (.v 3) (.k 0)))) (.im (.neq (.v 1) (.a (.v 0) (.k 1))) (.im (.no (.le (.a (.m 2 (.c (.v 1))) (.v 2)) (.s (.v 4) (.v 5)))) (.im (.le (.a (.v 3) (.k 2)) (.s (.s (.v 4) (.v 5)) (.v 0))) .ff))))) [_,_,_,_,_,_] [_,_]) hcost hszs hrl' cq q)
    fail "s"
    exact h _ raws (S4.le le6)
end

theorem lT : ∀ raws : List (List UInt8), eqL (raws.map .bytes) (raws.map .bytes) = some true
  | [] => rfl
  | x :: r => by rw [List.map_cons, eqL, eqV, lT r]; simp
section
variable {Q : MV → Sto → Prop} {σ : Sto} {k d sx rx : Nat} {page us base kind c F v : Int} {b : List UInt8} {cells : List Cel} {blks X : List Area} {raws : List (List UInt8)}
theorem bits10 : Builtin.Int.intBits 10 < 1000 := by decide
theorem pq {ns : List Int} (hn : ns.length ≤ 63) (h : ∀ σ' m, Le σ σ' → Src σ' m → Q (.ref m) σ') : We (gw [.froz (ns.map .int)] σ) Q := by
  have hl : (ns.map MV.int).length ≤ 2 ^ 40 := by rw [List.length_map]; exact Nat.le_trans hn (by decide)
  refine bg ?_
  unfold g0
  fail "n"
  refine Ws.mono (Q := fun fl l' s' => fl = .next ∧ s' = σ ∧ ∃ x, l' "cell" = some (.int x)) ?_ ?_
  · fail "s"
    refine pU hl ?_
    fail "s"
    match ns, hl with
    | [], _ =>
      refine rM (by simp) ?_
      fail "s"
      exact ⟨rfl, rfl, _, fJ⟩
    | x :: r, _ =>
      refine rH (by simp only [List.map_cons, List.length_cons]; exact (Z.q (.lt (.k 0) (.c (.a (.v 0) (.k 1)))) [] [_])) ?_
      fail "s"
      refine oU (by decide) rfl ?_
      fail "s"
      exact ⟨rfl, rfl, _, fJ⟩
  rintro _ l σ ⟨rfl, rfl, x, ex⟩
  fail "s"
  refine mN ⟨by decide, by decide, bits10⟩ ?_
  fail "s"
  exact h _ _ (Le.push _ _) ⟨_, _, aS _ _, by exact (Z.q (.im (.an (.eq (.a (.m 2147483647 (.v 0)) (.v 1)) (.r (.a (.v 2) (.k 17)) 48271)) (.an (.le (.k 0) (.v 1)) (.lt (.v 1) (.k 2147483647)))) (.le (.k 0) (.v 1))) [_,_,_] []) (Z.dm _ (k := 2147483647) (by decide)), by exact (Z.q (.im (.an (.eq (.a (.m 2147483647 (.v 0)) (.v 1)) (.r (.a (.v 2) (.k 17)) 48271)) (.an (.le (.k 0) (.v 1)) (.lt (.v 1) (.k 2147483647)))) (.lt (.v 1) (.k 2147483647))) [_,_,_] []) (Z.dm _ (k := 2147483647) (by decide))⟩
theorem ow {l : Loc} {fs : EsF} (h : We (fs l σ) fun vs s => ∃ o page us, vs = [.bytes o, .int page, .int us] ∧ (o.length : Int) = us ∧ (64 ≤ us ∧ us ≤ 128) ∧ ∀ s' k d, Le s s' → Nd s' k d page us (if page = 1 then 32 else 0) o → Q (.ref k) s') : We (eNew 412 cL fs l σ) Q := by
  refine nL (h.mono ?_)
  rintro _ s ⟨o, page, us, rfl, ho, hu, q⟩
  have hc := aS s (.inst 412 [])
  have hc1 := Le.push (s ++ [.inst 412 []]) (.ba o) _ _ hc
  have hb := aS (s ++ [.inst 412 []]) (.ba o)
  have P : Le s ((s ++ [.inst 412 []]) ++ [.ba o]) := (Le.push _ _).trans (Le.push _ _)
  have nd : (s ++ [MO.inst 412 []]).length ≠ s.length := by simp
  refine iQ ?_
  unfold c9
  refine cW (bc ?_)
  fail "s"
  refine qA (by exact (Z.q (.im (.eq (.c (.v 0)) (.v 0)) (.im (.le (.v 0) (.k 128)) (.nle (.v 0) (.k 100000)))) [_] [_]) ho hu.2) ?_
  fail "s"
  refine ⟨s.length, _, rfl, hc1, Nat.le_of_ble_eq_true rfl, ?_⟩
  refine eQ (cW (bc ?_))
  fail "s"
  refine ⟨s.length, _, rfl, aT _ hc1, Nat.le_of_ble_eq_true rfl, ?_⟩
  refine eQ (cW (bc ?_))
  fail "s"
  refine ⟨s.length, _, rfl, aT _ (aT _ hc1), Nat.le_of_ble_eq_true rfl, ?_⟩
  refine eQ (cW (bc ?_))
  fail "s"
  refine ⟨s.length, _, rfl, aT _ (aT _ (aT _ hc1)), Nat.le_of_ble_eq_true rfl, ?_⟩
  rw [List.set_set, List.set_set, List.set_set]
  fail "s"
  refine br (fun c => ?_) fun c => ?_
  · refine cW (bc ?_)
    fail "s"
    refine ⟨s.length, _, rfl, aT _ hc1, Nat.le_of_ble_eq_true rfl, ?_⟩
    rw [List.set_set]
    fail "s"
    refine ⟨rfl, q _ _ (s ++ [MO.inst 412 []]).length (P.set (Nat.le_refl _) _) ?_⟩
    rw [if_pos c]
    exact ⟨aT _ hc1, dO nd hb, ho, hu, .inr rfl⟩
  · fail "s"
    refine ⟨rfl, q _ _ (s ++ [MO.inst 412 []]).length (P.set (Nat.le_refl _) _) ?_⟩
    rw [if_neg c]
    exact ⟨aT _ hc1, dO nd hb, ho, hu, .inl rfl⟩
theorem rF {ns : List Int} (hn : ns.length ≤ 63) (h : ∀ σ', Q (.bool true) σ') : We (me [.froz (ns.map .int)] σ) Q := by
  have sl : ∀ {s : Sto} {sx : Nat}, Src s sx → ∀ {xs : List MV} {m : Nat}, s[m]? = some (.list xs) → xs.length ≠ 2 → m ≠ sx := by
    rintro s sx ⟨a, m', e, _⟩ xs m hm hl rfl
    rw [e] at hm
    cases hm
    exact hl rfl
  refine bg ?_
  unfold mI
  fail "n"
  refine pq hn fun s0 sx le0 S0 => ?_
  fail "n"
  have a1 := aS s0 (.list (([64, 128, 128] : List Int).map MV.int))
  refine db (S0.le (Le.push _ _)) (by decide) fun s1 r1 x1 S1 r10 r11 => ?_
  obtain ⟨us, hus, ez⟩ := pick (L := [64, 128, 128]) r10 r11
  refine bl (x1 _ _ (sl (S0.le (Le.push _ _)) a1 (by decide)) a1) (by exact (Z.q (.im (.le (.k 0) (.v 0)) (.im (.lt (.v 0) (.k 3)) (.an (.le (.k 0) (.v 0)) (.lt (.v 0) (.k (2 ^ 60)))))) [_] []) r10 r11) ez ?_
  have hu : us = 64 ∨ us = 128 := by
    simp only [List.mem_cons, List.not_mem_nil, or_false] at hus
    exact (Z.q (.im (.or (.eq (.v 0) (.k 64)) (.or (.eq (.v 0) (.k 128)) (.eq (.v 0) (.k 128)))) (.or (.eq (.v 0) (.k 64)) (.eq (.v 0) (.k 128)))) [_] []) hus
  clear a1 ez r10 r11 hus
  fail "n"
  refine db S1 (by decide) fun s2 r2 x2 S2 r20 r21 => ?_
  fail "n"
  generalize hpg : 1 + r2 = page
  have a2 := aS s2 (.list (([2, 5, 10, 13] : List Int).map MV.int))
  refine db (S2.le (Le.push _ _)) (by decide) fun s3 r3 x3 S3 r30 r31 => ?_
  obtain ⟨kind, hkd, ez⟩ := pick (L := [2, 5, 10, 13]) r30 r31
  refine bl (x3 _ _ (sl (S2.le (Le.push _ _)) a2 (by decide)) a2) (by exact (Z.q (.im (.le (.k 0) (.v 0)) (.im (.lt (.v 0) (.k 4)) (.an (.le (.k 0) (.v 0)) (.lt (.v 0) (.k (2 ^ 60)))))) [_] []) r30 r31) ez ?_
  have isk : IsKind kind := by
    unfold IsKind
    simp only [List.mem_cons, List.not_mem_nil, or_false] at hkd
    exact (Z.q (.im (.or (.eq (.v 0) (.k 2)) (.or (.eq (.v 0) (.k 5)) (.or (.eq (.v 0) (.k 10)) (.eq (.v 0) (.k 13))))) (.or (.eq (.v 0) (.k 2)) (.or (.eq (.v 0) (.k 5)) (.or (.eq (.v 0) (.k 10)) (.eq (.v 0) (.k 13)))))) [_] []) hkd
  clear a2 ez r30 r31 hkd
  fail "n"
  refine ow ?_
  fail "n"
  refine kM (aS _ _) (by exact (Z.q (.im (.or (.eq (.v 0) (.k 64)) (.eq (.v 0) (.k 128))) (.an (.le (.k 0) (.v 0)) (.le (.v 0) (.k 100000)))) [_] []) hu) ?_
  fail "n"
  refine fD (aS _ _) (by rw [List.length_replicate]; exact (Z.q (.im (.or (.eq (.v 0) (.k 64)) (.eq (.v 0) (.k 128))) (.im (.or (.an (.eq (.c (.v 0)) (.v 0)) (.le (.k 0) (.v 0))) (.an (.eq (.c (.v 0)) (.k 0)) (.le (.v 0) (.k 0)))) (.nle (.v 0) (.k 100000)))) [_] [_]) hu (Z.tn _)) (gT (by decide) _) ?_
  have P3 := (Le.push s3 (.list [.int 77])).trans (Le.push _ (.list (List.replicate us.toNat (.int 77))))
  have S3' := S3.le P3
  fail "n"
  refine ⟨List.replicate us.toNat (77 : Int).toNat.toUInt8, page, us, rfl, by rw [List.length_replicate]; exact (Z.q (.im (.or (.eq (.v 0) (.k 64)) (.eq (.v 0) (.k 128))) (.im (.or (.an (.eq (.c (.v 0)) (.v 0)) (.le (.k 0) (.v 0))) (.an (.eq (.c (.v 0)) (.k 0)) (.le (.v 0) (.k 0)))) (.eq (.c (.v 0)) (.v 0)))) [_] [_]) hu (Z.tn _), by exact (Z.q (.im (.or (.eq (.v 0) (.k 64)) (.eq (.v 0) (.k 128))) (.an (.le (.k 64) (.v 0)) (.le (.v 0) (.k 128)))) [_] []) hu, fun s4 k d le4 N4 => ?_⟩
  have S4 := S3'.le le4
  generalize hbase : (if page = 1 then (32 : Int) else 0) = base at N4
  have hh0 : ∀ j : Int, 0 ≤ j → j < us → rd (List.replicate us.toNat (77 : Int).toNat.toUInt8) j = 77 := fun j j0 j1 => ki j0 (by exact (Z.q (.im (.lt (.v 0) (.v 1)) (.im (.or (.an (.eq (.c (.v 0)) (.v 1)) (.le (.k 0) (.v 1))) (.an (.eq (.c (.v 0)) (.k 0)) (.le (.v 1) (.k 0)))) (.lt (.v 0) (.c (.v 0))))) [_,_] [_]) j1 (Z.tn _))
  have hb := N4.bnd
  have hbu : base + 12 ≤ us := Int.le_trans (Int.add_le_add_right hb.2 12) (by rcases hu with e | e <;> rw [e] <;> decide)
  have hhas : HasC 412 "clear" (.ref k) s4 := N4.has rfl
  fail "n"
  refine mf N4 isk fun b1 N5 k1 c1 z1 h1 => ?_
  have S5 := S4.leX N4 (LeX.set d s4 (.ba b1))
  fail "n"
  have f1 := eY (kind := kind) hb
  refine Ws.mono (Q := fun fl l' s' => fl = .next ∧ l' "source" = some (.ref sx) ∧ l' "node" = some (.ref k) ∧ l' "usable" = some (.int us) ∧ l' "page" = some (.int page) ∧ l' "kind" = some (.int kind) ∧ l' "head" = some (.int (fst kind 0)) ∧ Src s' sx ∧ ∃ b2, Nd s' k d page us base b2 ∧ Rep us base kind b2 [] [] us 0 []) ?_ ?_
  · have z16 : ∀ b2 : List UInt8, (∀ j, base < j → j < base + 8 → rd b2 j = rd b1 j) → rd b2 base = kind → (kind < 10 → w32 b2 (base + 8) = 70001) → (∀ j, 0 ≤ j → j < base → rd b2 j = rd b1 j) → Rep us base kind b2 [] [] us 0 [] := fun b2 o ok or oh => by
      have z : ∀ j, base < j → j < base + 8 → j ≠ base + 5 → j ≠ base + 6 → rd b2 j = 0 := fun j j0 j1 j2 j3 => (o j j0 j1).trans (z1 j j0 (Int.lt_of_lt_of_le j1 (Int.le_trans (Int.add_le_add_left (by decide) base) hbu)) j2 j3)
      refine ⟨ok, isk, ?_, (aY (o _ (by exact (Z.q (.lt (.v 0) (.a (.v 0) (.k 5))) [_] [])) (by exact (Z.q (.lt (.a (.v 0) (.k 5)) (.a (.v 0) (.k 8))) [_] []))) (o _ (by exact (Z.q (.lt (.v 0) (.a (.a (.v 0) (.k 5)) (.k 1))) [_] [])) (by exact (Z.q (.lt (.a (.a (.v 0) (.k 5)) (.k 1)) (.a (.v 0) (.k 8))) [_] [])))).trans c1, z _ (by exact (Z.q (.lt (.v 0) (.a (.v 0) (.k 7))) [_] [])) (by exact (Z.q (.lt (.a (.v 0) (.k 7)) (.a (.v 0) (.k 8))) [_] [])) (by exact (Z.q (.no (.eq (.a (.v 0) (.k 7)) (.a (.v 0) (.k 5)))) [_] [])) (by exact (Z.q (.no (.eq (.a (.v 0) (.k 7)) (.a (.v 0) (.k 6)))) [_] [])), ?_, .nil, fun i x hi => by simp at hi, fun x hx => (nomatch hx), .top us, ?_, or, fun j j0 j1 => (oh j j0 j1).trans ((h1 j j0 j1).trans (hh0 j j0 (Int.lt_of_lt_of_le j1 (Int.le_trans (Int.le_add_of_nonneg_right (by decide)) hbu))))⟩
      · unfold w16
        rw [z _ (by exact (Z.q (.lt (.v 0) (.a (.v 0) (.k 3))) [_] [])) (by exact (Z.q (.lt (.a (.v 0) (.k 3)) (.a (.v 0) (.k 8))) [_] [])) (by exact (Z.q (.no (.eq (.a (.v 0) (.k 3)) (.a (.v 0) (.k 5)))) [_] [])) (by exact (Z.q (.no (.eq (.a (.v 0) (.k 3)) (.a (.v 0) (.k 6)))) [_] [])), z _ (by exact (Z.q (.lt (.v 0) (.a (.a (.v 0) (.k 3)) (.k 1))) [_] [])) (by exact (Z.q (.lt (.a (.a (.v 0) (.k 3)) (.k 1)) (.a (.v 0) (.k 8))) [_] [])) (by exact (Z.q (.no (.eq (.a (.a (.v 0) (.k 3)) (.k 1)) (.a (.v 0) (.k 5)))) [_] [])) (by exact (Z.q (.no (.eq (.a (.a (.v 0) (.k 3)) (.k 1)) (.a (.v 0) (.k 6)))) [_] []))]; rfl
      · show w16 b2 (base + 1) = 0
        unfold w16
        rw [z _ (by exact (Z.q (.lt (.v 0) (.a (.v 0) (.k 1))) [_] [])) (by exact (Z.q (.lt (.a (.v 0) (.k 1)) (.a (.v 0) (.k 8))) [_] [])) (by exact (Z.q (.no (.eq (.a (.v 0) (.k 1)) (.a (.v 0) (.k 5)))) [_] [])) (by exact (Z.q (.no (.eq (.a (.v 0) (.k 1)) (.a (.v 0) (.k 6)))) [_] [])), z _ (by exact (Z.q (.lt (.v 0) (.a (.a (.v 0) (.k 1)) (.k 1))) [_] [])) (by exact (Z.q (.lt (.a (.a (.v 0) (.k 1)) (.k 1)) (.a (.v 0) (.k 8))) [_] [])) (by exact (Z.q (.no (.eq (.a (.a (.v 0) (.k 1)) (.k 1)) (.a (.v 0) (.k 5)))) [_] [])) (by exact (Z.q (.no (.eq (.a (.a (.v 0) (.k 1)) (.k 1)) (.a (.v 0) (.k 6)))) [_] []))]; rfl
      · show fst kind base + 0 ≤ us
        exact Int.le_trans (Int.le_of_eq (Int.add_zero _)) (Int.le_trans f1.2 hbu)
    fail "s"
    refine br (fun c => ?_) fun c => ?_
    · have hhas5 : HasC 412 "set_right" (.ref k) (s4.set d (.ba b1)) := N5.has rfl
      fail "s"
      refine ig N5 (by decide) fun b2 N6 v2 s2 => ?_
      fail "s"
      refine ⟨rfl, by fail "l", by fail "l", by fail "l", by fail "l", by fail "l", ?_, S5.leX N5 (LeX.set d _ _), b2, N6, z16 b2 (fun j j0 j1 => s2 j (by exact (Z.q (.im (.le (.k 0) (.v 0)) (.im (.lt (.v 0) (.v 1)) (.le (.k 0) (.v 1)))) [_,_] []) hb.1 j0) (by exact (Z.q (.im (.lt (.v 0) (.a (.v 1) (.k 8))) (.or (.lt (.v 0) (.a (.v 1) (.k 8))) (.le (.a (.v 1) (.k 12)) (.v 0)))) [_,_] []) j1)) ((s2 _ (by exact (Z.q (.im (.le (.k 0) (.v 0)) (.le (.k 0) (.v 0))) [_] []) hb.1) (by exact (Z.q (.or (.lt (.v 0) (.a (.v 0) (.k 8))) (.le (.a (.v 0) (.k 12)) (.v 0))) [_] []))).trans k1) (fun _ => v2) fun j j0 j1 => s2 j j0 (by exact (Z.q (.im (.lt (.v 0) (.v 1)) (.or (.lt (.v 0) (.a (.v 1) (.k 8))) (.le (.a (.v 1) (.k 12)) (.v 0)))) [_,_] []) j1)⟩
      rw [show fst kind 0 = 12 from by unfold fst; unfold IsKind at isk; rw [if_neg (by exact (Z.q (.im (.or (.eq (.v 0) (.k 2)) (.or (.eq (.v 0) (.k 5)) (.or (.eq (.v 0) (.k 10)) (.eq (.v 0) (.k 13))))) (.im (.lt (.v 0) (.k 10)) (.no (.lt (.k 5) (.v 0))))) [_] []) isk c)]; rfl]; fail "l"
    · fail "s"
      refine ⟨rfl, by fail "l", by fail "l", by fail "l", by fail "l", by fail "l", ?_, S5, b1, N5, z16 b1 (fun _ _ _ => rfl) k1 (fun q => absurd q c) fun _ _ _ => rfl⟩
      rw [show fst kind 0 = 8 from by unfold fst; unfold IsKind at isk; rw [if_pos (by exact (Z.q (.im (.no (.lt (.v 0) (.k 10))) (.lt (.k 5) (.v 0))) [_] []) c)]; rfl]; fail "l"
  clear N5 k1 c1 z1 h1 S5
  rintro _ l6 s6 ⟨rfl, e1, e2, e3, e4, e5, e6, S6, b2, N6, R6⟩
  fail "n"
  refine Ws.mono (Q := fun fl l' s' => fl = .next ∧ s' = s6 ∧ l' "source" = some (.ref sx) ∧ l' "node" = some (.ref k) ∧ l' "usable" = some (.int us) ∧ l' "page" = some (.int page) ∧ l' "kind" = some (.int kind) ∧ l' "head" = some (.int (fst kind base))) ?_ ?_
  · fail "s"
    refine br (fun c => ?_) fun c => ?_
    · rw [if_pos c] at hbase
      fail "s"
      refine ⟨rfl, rfl, by fail "l", by fail "l", by fail "l", by fail "l", by fail "l", ?_⟩
      rw [show fst kind base = fst kind 0 + 32 from by unfold fst; exact (Z.q (.im (.eq (.k 32) (.v 0)) (.eq (.a (.v 0) (.v 1)) (.a (.a (.k 0) (.v 1)) (.k 32)))) [_,_] []) hbase]; fail "l"
    · rw [if_neg c] at hbase
      fail "s"
      refine ⟨rfl, rfl, by fail "l", by fail "l", by fail "l", by fail "l", by fail "l", ?_⟩
      rw [← hbase]; fail "l"
  clear e1 e2 e3 e4 e5 e6
  rintro _ l7 s6 ⟨rfl, rfl, e1, e2, e3, e4, e5, e6⟩
  have Pr := Le.push s6 (.list [])
  have ra := aS s6 (.list [])
  have St0 : St (s6 ++ [.list []]) sx k d s6.length page us base kind [] := ⟨S6.le Pr, ra, by
    obtain ⟨a, m, q, _⟩ := S6
    have := (List.getElem?_eq_some_iff.mp q).1
    exact (Z.q (.im (.nlt (.v 0) (.v 1)) (.no (.neq (.v 0) (.v 1)))) [] [_,_]) this, ⟨b2, [], [], us, 0, N6.le Pr, R6, rfl⟩, fun r hr => (nomatch hr)⟩
  fail "n"
  refine db St0.src (by decide) fun s7 r7 x7 S7 r70 r71 => ?_
  have St7 := St0.mv x7 S7
  fail "n"
  refine loopR1 (4 + r7).toNat (by exact (Z.q (.im (.le (.k 0) (.v 0)) (.im (.or (.an (.eq (.c (.v 0)) (.a (.k 4) (.v 0))) (.le (.k 0) (.a (.k 4) (.v 0)))) (.an (.eq (.c (.v 0)) (.k 0)) (.le (.a (.k 4) (.v 0)) (.k 0)))) (.eq (.a (.k 4) (.v 0)) (.c (.v 0))))) [_] [_]) r70 (Z.tn _)) (by exact (Z.q (.im (.lt (.v 0) (.k 10)) (.im (.or (.an (.eq (.c (.v 0)) (.a (.k 4) (.v 0))) (.le (.k 0) (.a (.k 4) (.v 0)))) (.an (.eq (.c (.v 0)) (.k 0)) (.le (.a (.k 4) (.v 0)) (.k 0)))) (.nle (.v 0) (.k 1000)))) [_] [_]) r71 (Z.tn _)) (fun i l s => l "source" = some (.ref sx) ∧ l "node" = some (.ref k) ∧ l "usable" = some (.int us) ∧ l "page" = some (.int page) ∧ l "kind" = some (.int kind) ∧ l "head" = some (.int (fst kind base)) ∧ l "raws" = some (.ref s6.length) ∧ ∃ raws, St s sx k d s6.length page us base kind raws)
    ⟨by fail "l", by fail "l", by fail "l", by fail "l", by fail "l", by fail "l", by fail "l", _, St7⟩ ?_ ?_
  · rintro i l s hi ⟨g1, g2, g3, g4, g5, g6, g7, raws, St8⟩
    fail "s"
    refine nH St8 fun s9 raws' St9 => ?_
    fail "s"
    refine eG ?_
    fail "s"
    exact ⟨by fail "l", by fail "l", by fail "l", by fail "l", by fail "l", by fail "l", by fail "l", raws', St9⟩
  rintro l s ⟨g1, g2, g3, g4, g5, g6, g7, raws, St8⟩
  obtain ⟨b8, cells, blks, c8, F8, N8, R8, e8⟩ := St8.node
  have hfew := R8.few; have h8 := R8.nonneg hb
  have hn8 : raws.length ≤ 100 := by rw [← e8, List.length_map]; exact (Z.q (.im (.or (.eq (.v 0) (.k 64)) (.eq (.v 0) (.k 128))) (.im (.le (.a (.m 4 (.c (.v 0))) (.m 4 (.c (.v 1)))) (.s (.v 0) (.v 1))) (.im (.le (.k 8) (.v 1)) (.nle (.v 0) (.k 100))))) [_,_] [_,_]) hu hfew h8
  have hcl : cells.length = raws.length := by rw [← e8, List.length_map]
  have hcost := fy cells
  rw [e8, hcl] at hcost
  have ebm : cells.map (fun x => MV.bytes x.2) = raws.map MV.bytes := by rw [← e8, List.map_map]; rfl
  fail "s"
  refine nw N8 R8 fun s9 m9 le9 _ hm9 => ?_
  rw [ebm] at hm9
  have St9 := St8.le le9
  have N9 := N8.le le9
  fail "s"
  refine gt hm9 St9.raw (lT _) ?_
  fail "s"
  refine eG ?_
  fail "s"
  refine oR N9 R8 fun s10 le10 => ?_
  have St10 := St9.le le10
  have N10 := N9.le le10
  fail "s"
  refine jT St10.raw (by exact (Z.q (.im (.nle (.v 0) (.k 100)) (.nle (.v 0) (.k 1000))) [] [_]) hn8) St10.len fun s11 le11 => ?_
  have N11 := N10.le le11
  fail "s"
  refine pY N11 R8 fun s12 m12 le12 hm12 => ?_
  fail "s"
  refine gt (Le.push s12 (.list []) _ _ hm12) (aS _ _) (gW _) ?_
  have N12 := (N11.le le12).le (Le.push s12 (.list []))
  fail "s"
  refine eG ?_
  fail "n"
  refine Ws.mono (Q := fun fl l' s' => fl = .next ∧ s' = s12 ++ [.list []] ∧ l' = l) ?_ ?_
  · fail "s"
    refine br (fun c => ?_) fun c => ?_
    · have hr := R8.right c
      fail "s"
      refine mS N12 ?_
      fail "s"
      exact ⟨rfl, rfl, rfl⟩
    · fail "s"
      exact ⟨rfl, rfl, rfl⟩
  rintro _ _ _ ⟨rfl, rfl, rfl⟩
  fail "s"
  refine kZ N12 (R8.kd ▸ R8.isk) ?_
  rw [R8.kd]
  fail "s"
  refine br (fun c => ?_) fun c => ?_
  · fail "s"
    exact h _
  · have hbl := N8.len
    rw [if_pos (by exact (Z.q (.im (.le (.k 0) (.v 0)) (.im (.lt (.v 0) (.k 2)) (.im (.eq (.a (.k 1) (.v 0)) (.v 1)) (.im (.no (.eq (.v 1) (.k 2))) (.eq (.v 1) (.k 1)))))) [_,_] []) r20 r21 hpg c)] at hbase
    fail "s"
    refine nV N12 ?_
    fail "s"
    refine pE (by exact (Z.q (.im (.or (.eq (.v 0) (.k 64)) (.eq (.v 0) (.k 128))) (.im (.eq (.c (.v 0)) (.v 0)) (.nle (.v 0) (.k 100000)))) [_] [_]) hu hbl) ?_
    fail "s"
    refine kM (aS _ _) (by decide) ?_
    fail "s"
    refine fD (aS _ _) (by rw [List.length_replicate]; exact Nat.le_of_ble_eq_true rfl) (gT (by decide) _) ?_
    have q32 : (32 : Int) ≤ b8.length := by rw [hbl]; rcases hu with e | e <;> rw [e] <;> decide
    have m32 := Nat.min_eq_left (Int.ofNat_le.mp q32)
    have c32 : clipAt b8.length (32 : Int) = 32 := kP (by decide) q32
    have et : bcut none (some 32) b8 = b8.take 32 := by simp only [bcut, Option.elim, c32, List.drop_zero]
    have eq : bcut none (some 32) b8 = List.replicate (32 : Int).toNat (77 : Int).toNat.toUInt8 := by
      rw [et]
      refine o9 (by rw [List.length_take, List.length_replicate]; exact m32) fun j j0 j1 => ?_
      rw [List.length_take, m32] at j1
      rw [kq j0 j1, show rd (List.replicate (32 : Int).toNat (77 : Int).toNat.toUInt8) j = _ from ki j0 j1, R8.head j j0 (hbase ▸ j1)]; rfl
    rw [eq]
    refine qH ?_
    rw [decide_eq_true rfl]
    fail "s"
    exact h _
end
theorem plain_law (ns : List Int) (hn : ns.length ≤ 63) : ∃ σ', me [.froz (ns.map .int)] [] = some (.bool true, σ') := by
  obtain ⟨v, σ', e, rfl⟩ := rF (σ := []) (Q := fun v _ => v = .bool true) hn fun _ => rfl
  exact ⟨σ', e⟩

end Mine
end
open PySem PySem.W PyProof.Rows
theorem PySem.Challenge.cw_nt0113_01_holds : PySem.Challenge.rw_nt0113_01.Holds := by
  exact Mine.join Mine.plain_law
