import PyProof.Rows.All
import Wide.All
import OpenK.AllK
import Wide.FinOn
import Lean
import PySem.Challenge.RW_pf0370_01
open PySem PySem.W PyProof.Rows PySem.Calls PySem.Spec
set_option Elab.async false
set_option maxRecDepth 100000
set_option linter.all false
set_option maxHeartbeats 0
namespace Mine
section
abbrev ss (x : String) : Str := PySem.Str.ofString x
abbrev sv (x : String) (t : Nat) : Value := .str (PySem.Str.ofString x) t
abbrev en (P : Params) (x : String) (t : Nat) (v : Value) : DictEntry := ⟨PyData.keyHash P (PySem.Str.ofString x), .str (PySem.Str.ofString x) t, v⟩
noncomputable def nthS : List Stmt → Nat → Stmt
  | [], _ => .Pass default
  | s :: _, 0 => s
  | _ :: r, n + 1 => nthS r n
noncomputable def bodyS : Stmt → List Stmt
  | .FunctionDef (body := b) .. => b
  | .ClassDef (body := b) .. => b
  | _ => []
noncomputable def parS : Stmt → Arguments
  | .FunctionDef (args := a) .. => a
  | _ => { posonlyargs := [], args := [], vararg := none, kwonlyargs := [], kw_defaults := [], kwarg := none, defaults := [] }
noncomputable def scoS : Stmt → Scope
  | .FunctionDef (scope := c) .. => c
  | _ => default
noncomputable def posS : Stmt → Pos
  | .FunctionDef (pos := p) .. => p
  | _ => default
noncomputable def topS (i : Nat) : Stmt := nthS PySem.Challenge.pw_pf0370_01.main.body i
noncomputable def inS (i j : Nat) : Stmt := nthS (bodyS (topS i)) j
noncomputable abbrev fnO (st : Stmt) (name qual : String) (md : Value) (c : Addr) : Obj :=
  { cls := .type "function", dict := none, data := .func (fnOf (ss name) (ss qual) (parS st) (bodyS st) (scoS st) .none .none .none md none (.ref c) .none), slots := #[] }
noncomputable def runT (stp : SharedT → Thread → Option (SharedT × Thread)) (ok : Thread → Bool) : Nat → SharedT → Thread → Option SharedT
  | 0, _, _ => none
  | n + 1, s, t => match through t with
    | true => some s
    | false => match ok t with
      | false => none
      | true => match stp s t with
        | some (s', t') => runT stp ok n s' t'
        | none => none
theorem runT_spec {tb : String → Option Builtin} {p : Program} {w : World} {n₀ : Nat} {ann : Option Value} : ∀ {n : Nat} {s s' : SharedT} {t : Thread}, runT (stepT (denote tb) p w) (stepOk n₀ ann) n s t = some s' → topRun tb p w n₀ ann n s.abs t = some s'.abs
  | 0, _, _, _, h => by cases h
  | n + 1, s, s', t, h => by
    unfold runT at h
    unfold topRun
    cases ht : through t with
    | true => rw [ht] at h; cases h; rfl
    | false =>
      rw [ht] at h
      cases hk : stepOk n₀ ann t with
      | false => rw [hk] at h; cases h
      | true =>
        rw [hk] at h
        cases hs : stepT (denote tb) p w s t with
        | none => rw [hs] at h; cases h
        | some r => obtain ⟨s₂, t₂⟩ := r; rw [hs] at h; rw [stepT_spec hs]; exact runT_spec h
noncomputable def bootT (P : Params) : BT :=
  .node (boot_o_0 P) (.node (boot_o_1 P) (.node (boot_o_3 P) (.node (boot_o_7 P) .nil .nil) .nil) (.node (boot_o_5 P) (.node (boot_o_9 P) .nil .nil) .nil))
    (.node (boot_o_2 P) (.node (boot_o_4 P) (.node (boot_o_8 P) .nil .nil) .nil) (.node (boot_o_6 P) (.node (boot_o_10 P) .nil .nil) .nil))
theorem bootT_ok (P : Params) : absHeap (bootT P) 11 {} = boot_heap P := rfl
noncomputable def K (P : Params) : Frag :=
  (nat_lit 3, ⟨.type "dict", none, .dict #[en P "__name__" 165 (sv "law_pf0370_01" 659), en P "__doc__" 166 (.none), en P "__package__" 167 (.none), en P "__loader__" 168 (.builtin "__main__.__loader__#opaque"), en P "__spec__" 169 (.none), en P "__annotations__" 170 (.ref 6), en P "__builtins__" 171 (.ref 4), en P "__file__" 173 (sv "/claim/cut.py" 172), en P "__cached__" 174 (.none), en P "_wall" 193 (.ref 21), en P "SnobolError" 229 (.ref 41), en P "Failure" 249 (.ref 54), en P "is_fail" 256 (.ref 65), en P "value_orders" 266 (.ref 72), en P "row_orders" 275 (.ref 79), en P "unary_orders" 284 (.ref 86), en P "binary_orders" 293 (.ref 93), en P "name_orders" 301 (.ref 100), en P "body_orders" 309 (.ref 107), en P "depth_of" 319 (.ref 114), en P "change_of" 327 (.ref 121), en P "Statement" 368 (.ref 138), en P "Work" 426 (.ref 180), en P "GivenHooks" 616 (.ref 327), en P "do_order" 627 (.ref 338), en P "do_part" 637 (.ref 345), en P "do_deed" 648 (.ref 352), en P "do_other" 658 (.ref 359), en P "_law_pull" 670 (.ref 366), en P "_law_tree" 676 (.ref 371), en P "_law_parts" 683 (.ref 378), en P "_law_high" 689 (.ref 383), en P "_law_is_sharp" 695 (.ref 388), en P "_law_climbed" 707 (.ref 395), en P "_law_body" 719 (.ref 402), en P "law" 725 (.ref 407)] 36, #[]⟩) ::
  (nat_lit 53, ⟨.type "dict", none, .dict #[en P "__module__" 237 (sv "snobol.values" 194), en P "__firstlineno__" 241 (.int 11 240), en P "__static_attributes__" 242 (.ref 52), en P "__dict__" 244 (.ref 55), en P "__weakref__" 246 (.ref 56), en P "__doc__" 247 (.none)] 4, #[]⟩) ::
  (nat_lit 54, ⟨.type "type", none, .cls { name := ss "Failure", bases := [.type "object"], mro := [.ref 54, .type "object"], ns := 53, qualname := ss "Failure", hasDict := true, slotNames := [], subclasses := [], abstract := false, collection := none, hasDel := false }, #[none, none, some (sv "Failure" 230), some (sv "Failure" 238), some (.builtin "object.__new__"), some (.bool true)]⟩) ::
  (nat_lit 64, ⟨.type "code", none, .fields #[sv "is_fail" 250, sv "is_fail" 251, sv "/claim/cut.py" 252, .int 13 0, .int 1 0, .int 0 0, .int 0 0, .int 3 0, .ref 59, .bool true, .int 181 0, .ref 60, .none, .ref 61, .ref 62, .ref 63, .int 254 0, .int 13 0, sv "/claim/cut.py" 255], #[]⟩) ::
  (nat_lit 65, fnO (topS 4) "is_fail" "is_fail" (sv "snobol.values" 194) 64) ::
  (nat_lit 71, ⟨.type "code", none, .fields #[sv "value_orders" 259, sv "value_orders" 260, sv "/claim/cut.py" 261, .int 16 0, .int 1 0, .int 0 0, .int 0 0, .int 3 0, .ref 66, .bool true, .int 181 0, .ref 67, .none, .ref 68, .ref 69, .ref 70, .int 264 0, .int 16 0, sv "/claim/cut.py" 265], #[]⟩) ::
  (nat_lit 72, fnO (topS 6) "value_orders" "value_orders" (sv "snobol.compiler" 257) 71) ::
  (nat_lit 78, ⟨.type "code", none, .fields #[sv "row_orders" 267, sv "row_orders" 268, sv "/claim/cut.py" 269, .int 33 0, .int 1 0, .int 0 0, .int 0 0, .int 3 0, .ref 73, .bool true, .int 181 0, .ref 74, .none, .ref 75, .ref 76, .ref 77, .int 273 0, .int 33 0, sv "/claim/cut.py" 274], #[]⟩) ::
  (nat_lit 79, fnO (topS 7) "row_orders" "row_orders" (sv "snobol.compiler" 257) 78) ::
  (nat_lit 85, ⟨.type "code", none, .fields #[sv "unary_orders" 276, sv "unary_orders" 277, sv "/claim/cut.py" 278, .int 38 0, .int 2 0, .int 0 0, .int 0 0, .int 3 0, .ref 80, .bool true, .int 181 0, .ref 81, .none, .ref 82, .ref 83, .ref 84, .int 282 0, .int 38 0, sv "/claim/cut.py" 283], #[]⟩) ::
  (nat_lit 86, fnO (topS 8) "unary_orders" "unary_orders" (sv "snobol.compiler" 257) 85) ::
  (nat_lit 92, ⟨.type "code", none, .fields #[sv "binary_orders" 285, sv "binary_orders" 286, sv "/claim/cut.py" 287, .int 55 0, .int 3 0, .int 0 0, .int 0 0, .int 3 0, .ref 87, .bool true, .int 181 0, .ref 88, .none, .ref 89, .ref 90, .ref 91, .int 291 0, .int 55 0, sv "/claim/cut.py" 292], #[]⟩) ::
  (nat_lit 93, fnO (topS 9) "binary_orders" "binary_orders" (sv "snobol.compiler" 257) 92) ::
  (nat_lit 99, ⟨.type "code", none, .fields #[sv "name_orders" 294, sv "name_orders" 295, sv "/claim/cut.py" 296, .int 59 0, .int 1 0, .int 0 0, .int 0 0, .int 3 0, .ref 94, .bool true, .int 181 0, .ref 95, .none, .ref 96, .ref 97, .ref 98, .int 299 0, .int 59 0, sv "/claim/cut.py" 300], #[]⟩) ::
  (nat_lit 100, fnO (topS 10) "name_orders" "name_orders" (sv "snobol.compiler" 257) 99) ::
  (nat_lit 106, ⟨.type "code", none, .fields #[sv "body_orders" 302, sv "body_orders" 303, sv "/claim/cut.py" 304, .int 72 0, .int 1 0, .int 0 0, .int 0 0, .int 3 0, .ref 101, .bool true, .int 181 0, .ref 102, .none, .ref 103, .ref 104, .ref 105, .int 307 0, .int 72 0, sv "/claim/cut.py" 308], #[]⟩) ::
  (nat_lit 107, fnO (topS 11) "body_orders" "body_orders" (sv "snobol.compiler" 257) 106) ::
  (nat_lit 113, ⟨.type "code", none, .fields #[sv "depth_of" 310, sv "depth_of" 311, sv "/claim/cut.py" 312, .int 84 0, .int 1 0, .int 0 0, .int 0 0, .int 3 0, .ref 108, .bool true, .int 181 0, .ref 109, .none, .ref 110, .ref 111, .ref 112, .int 317 0, .int 84 0, sv "/claim/cut.py" 318], #[]⟩) ::
  (nat_lit 114, fnO (topS 12) "depth_of" "depth_of" (sv "snobol.compiler" 257) 113) ::
  (nat_lit 120, ⟨.type "code", none, .fields #[sv "change_of" 320, sv "change_of" 321, sv "/claim/cut.py" 322, .int 90 0, .int 1 0, .int 0 0, .int 0 0, .int 3 0, .ref 115, .bool true, .int 181 0, .ref 116, .none, .ref 117, .ref 118, .ref 119, .int 325 0, .int 90 0, sv "/claim/cut.py" 326], #[]⟩) ::
  (nat_lit 121, fnO (topS 13) "change_of" "change_of" (sv "snobol.compiler" 257) 120) ::
  (nat_lit 134, ⟨.type "code", none, .fields #[sv "__init__" 342, sv "Statement.__init__" 343, sv "/claim/cut.py" 344, .int 106 0, .int 3 0, .int 0 0, .int 0 0, .int 3 0, .ref 129, .bool true, .int 181 0, .ref 130, .none, .ref 131, .ref 132, .ref 133, .int 348 0, .int 106 0, sv "/claim/cut.py" 349], #[]⟩) ::
  (nat_lit 135, fnO (inS 15 0) "__init__" "Statement.__init__" (sv "snobol.reader" 328) 134) ::
  (nat_lit 137, ⟨.type "dict", none, .dict #[en P "__module__" 337 (sv "snobol.reader" 328), en P "__firstlineno__" 341 (.int 104 340), en P "__init__" 350 (.ref 135), en P "__static_attributes__" 361 (.ref 136), en P "__dict__" 363 (.ref 139), en P "__weakref__" 365 (.ref 140), en P "__doc__" 366 (.none)] 4, #[]⟩) ::
  (nat_lit 138, ⟨.type "type", none, .cls { name := ss "Statement", bases := [.type "object"], mro := [.ref 138, .type "object"], ns := 137, qualname := ss "Statement", hasDict := true, slotNames := [], subclasses := [], abstract := false, collection := none, hasDel := false }, #[none, none, some (sv "Statement" 330), some (sv "Statement" 338), some (.builtin "object.__new__"), some (.bool true)]⟩) ::
  (nat_lit 155, ⟨.type "code", none, .fields #[sv "__init__" 383, sv "Work.__init__" 384, sv "/claim/cut.py" 385, .int 120 0, .int 1 0, .int 0 0, .int 0 0, .int 3 0, .ref 150, .bool true, .int 181 0, .ref 151, .none, .ref 152, .ref 153, .ref 154, .int 387 0, .int 120 0, sv "/claim/cut.py" 388], #[]⟩) ::
  (nat_lit 156, fnO (inS 17 0) "__init__" "Work.__init__" (sv "snobol.stackcore" 369) 155) ::
  (nat_lit 162, ⟨.type "code", none, .fields #[sv "push" 390, sv "Work.push" 391, sv "/claim/cut.py" 392, .int 126 0, .int 2 0, .int 0 0, .int 0 0, .int 3 0, .ref 157, .bool true, .int 181 0, .ref 158, .none, .ref 159, .ref 160, .ref 161, .int 395 0, .int 126 0, sv "/claim/cut.py" 396], #[]⟩) ::
  (nat_lit 163, fnO (inS 17 1) "push" "Work.push" (sv "snobol.stackcore" 369) 162) ::
  (nat_lit 169, ⟨.type "code", none, .fields #[sv "pop" 398, sv "Work.pop" 399, sv "/claim/cut.py" 400, .int 132 0, .int 1 0, .int 0 0, .int 0 0, .int 3 0, .ref 164, .bool true, .int 181 0, .ref 165, .none, .ref 166, .ref 167, .ref 168, .int 402 0, .int 132 0, sv "/claim/cut.py" 403], #[]⟩) ::
  (nat_lit 170, fnO (inS 17 2) "pop" "Work.pop" (sv "snobol.stackcore" 369) 169) ::
  (nat_lit 176, ⟨.type "code", none, .fields #[sv "take" 405, sv "Work.take" 406, sv "/claim/cut.py" 407, .int 135 0, .int 2 0, .int 0 0, .int 0 0, .int 3 0, .ref 171, .bool true, .int 181 0, .ref 172, .none, .ref 173, .ref 174, .ref 175, .int 412 0, .int 135 0, sv "/claim/cut.py" 413], #[]⟩) ::
  (nat_lit 177, fnO (inS 17 3) "take" "Work.take" (sv "snobol.stackcore" 369) 176) ::
  (nat_lit 179, ⟨.type "dict", none, .dict #[en P "__module__" 378 (sv "snobol.stackcore" 369), en P "__firstlineno__" 382 (.int 118 381), en P "__init__" 389 (.ref 156), en P "push" 397 (.ref 163), en P "pop" 404 (.ref 170), en P "take" 414 (.ref 177), en P "__static_attributes__" 419 (.ref 178), en P "__dict__" 421 (.ref 181), en P "__weakref__" 423 (.ref 182), en P "__doc__" 424 (.none)] 4, #[]⟩) ::
  (nat_lit 180, ⟨.type "type", none, .cls { name := ss "Work", bases := [.type "object"], mro := [.ref 180, .type "object"], ns := 179, qualname := ss "Work", hasDict := true, slotNames := [], subclasses := [], abstract := false, collection := none, hasDel := false }, #[none, none, some (sv "Work" 371), some (sv "Work" 379), some (.builtin "object.__new__"), some (.bool true)]⟩) ::
  (nat_lit 197, ⟨.type "code", none, .fields #[sv "__init__" 439, sv "GivenHooks.__init__" 440, sv "/claim/cut.py" 441, .int 142 0, .int 3 0, .int 0 0, .int 0 0, .int 3 0, .ref 192, .bool true, .int 181 0, .ref 193, .none, .ref 194, .ref 195, .ref 196, .int 445 0, .int 142 0, sv "/claim/cut.py" 446], #[]⟩) ::
  (nat_lit 198, fnO (inS 18 0) "__init__" "GivenHooks.__init__" (sv "snobol.stackcore" 369) 197) ::
  (nat_lit 204, ⟨.type "code", none, .fields #[sv "ask" 448, sv "GivenHooks.ask" 449, sv "/claim/cut.py" 450, .int 147 0, .int 3 0, .int 0 0, .int 0 0, .int 3 0, .ref 199, .bool true, .int 181 0, .ref 200, .none, .ref 201, .ref 202, .ref 203, .int 455 0, .int 147 0, sv "/claim/cut.py" 456], #[]⟩) ::
  (nat_lit 205, fnO (inS 18 1) "ask" "GivenHooks.ask" (sv "snobol.stackcore" 369) 204) ::
  (nat_lit 211, ⟨.type "code", none, .fields #[sv "var_value" 458, sv "GivenHooks.var_value" 459, sv "/claim/cut.py" 460, .int 151 0, .int 2 0, .int 0 0, .int 0 0, .int 3 0, .ref 206, .bool true, .int 181 0, .ref 207, .none, .ref 208, .ref 209, .ref 210, .int 463 0, .int 151 0, sv "/claim/cut.py" 464], #[]⟩) ::
  (nat_lit 212, fnO (inS 18 2) "var_value" "GivenHooks.var_value" (sv "snobol.stackcore" 369) 211) ::
  (nat_lit 218, ⟨.type "code", none, .fields #[sv "name_of" 466, sv "GivenHooks.name_of" 467, sv "/claim/cut.py" 468, .int 154 0, .int 3 0, .int 0 0, .int 0 0, .int 3 0, .ref 213, .bool true, .int 181 0, .ref 214, .none, .ref 215, .ref 216, .ref 217, .int 472 0, .int 154 0, sv "/claim/cut.py" 473], #[]⟩) ::
  (nat_lit 219, fnO (inS 18 3) "name_of" "GivenHooks.name_of" (sv "snobol.stackcore" 369) 218) ::
  (nat_lit 225, ⟨.type "code", none, .fields #[sv "named_by" 475, sv "GivenHooks.named_by" 476, sv "/claim/cut.py" 477, .int 157 0, .int 2 0, .int 0 0, .int 0 0, .int 3 0, .ref 220, .bool true, .int 181 0, .ref 221, .none, .ref 222, .ref 223, .ref 224, .int 480 0, .int 157 0, sv "/claim/cut.py" 481], #[]⟩) ::
  (nat_lit 226, fnO (inS 18 4) "named_by" "GivenHooks.named_by" (sv "snobol.stackcore" 369) 225) ::
  (nat_lit 232, ⟨.type "code", none, .fields #[sv "ref_value" 483, sv "GivenHooks.ref_value" 484, sv "/claim/cut.py" 485, .int 160 0, .int 2 0, .int 0 0, .int 0 0, .int 3 0, .ref 227, .bool true, .int 181 0, .ref 228, .none, .ref 229, .ref 230, .ref 231, .int 488 0, .int 160 0, sv "/claim/cut.py" 489], #[]⟩) ::
  (nat_lit 233, fnO (inS 18 5) "ref_value" "GivenHooks.ref_value" (sv "snobol.stackcore" 369) 232) ::
  (nat_lit 239, ⟨.type "code", none, .fields #[sv "called" 491, sv "GivenHooks.called" 492, sv "/claim/cut.py" 493, .int 163 0, .int 4 0, .int 0 0, .int 0 0, .int 3 0, .ref 234, .bool true, .int 181 0, .ref 235, .none, .ref 236, .ref 237, .ref 238, .int 498 0, .int 163 0, sv "/claim/cut.py" 499], #[]⟩) ::
  (nat_lit 240, fnO (inS 18 6) "called" "GivenHooks.called" (sv "snobol.stackcore" 369) 239) ::
  (nat_lit 246, ⟨.type "code", none, .fields #[sv "item_of" 501, sv "GivenHooks.item_of" 502, sv "/claim/cut.py" 503, .int 166 0, .int 4 0, .int 0 0, .int 0 0, .int 3 0, .ref 241, .bool true, .int 181 0, .ref 242, .none, .ref 243, .ref 244, .ref 245, .int 508 0, .int 166 0, sv "/claim/cut.py" 509], #[]⟩) ::
  (nat_lit 247, fnO (inS 18 7) "item_of" "GivenHooks.item_of" (sv "snobol.stackcore" 369) 246) ::
  (nat_lit 253, ⟨.type "code", none, .fields #[sv "operated" 511, sv "GivenHooks.operated" 512, sv "/claim/cut.py" 513, .int 169 0, .int 3 0, .int 0 0, .int 0 0, .int 3 0, .ref 248, .bool true, .int 181 0, .ref 249, .none, .ref 250, .ref 251, .ref 252, .int 517 0, .int 169 0, sv "/claim/cut.py" 518], #[]⟩) ::
  (nat_lit 254, fnO (inS 18 8) "operated" "GivenHooks.operated" (sv "snobol.stackcore" 369) 253) ::
  (nat_lit 267, ⟨.type "code", none, .fields #[sv "given_part" 528, sv "GivenHooks.given_part" 529, sv "/claim/cut.py" 530, .int 175 0, .int 4 0, .int 0 0, .int 0 0, .int 3 0, .ref 262, .bool true, .int 181 0, .ref 263, .none, .ref 264, .ref 265, .ref 266, .int 535 0, .int 175 0, sv "/claim/cut.py" 536], #[]⟩) ::
  (nat_lit 268, fnO (inS 18 10) "given_part" "GivenHooks.given_part" (sv "snobol.stackcore" 369) 267) ::
  (nat_lit 281, ⟨.type "code", none, .fields #[sv "matched" 546, sv "GivenHooks.matched" 547, sv "/claim/cut.py" 548, .int 181 0, .int 3 0, .int 0 0, .int 0 0, .int 3 0, .ref 276, .bool true, .int 181 0, .ref 277, .none, .ref 278, .ref 279, .ref 280, .int 552 0, .int 181 0, sv "/claim/cut.py" 553], #[]⟩) ::
  (nat_lit 282, fnO (inS 18 12) "matched" "GivenHooks.matched" (sv "snobol.stackcore" 369) 281) ::
  (nat_lit 288, ⟨.type "code", none, .fields #[sv "assign" 555, sv "GivenHooks.assign" 556, sv "/claim/cut.py" 557, .int 184 0, .int 3 0, .int 0 0, .int 0 0, .int 3 0, .ref 283, .bool true, .int 181 0, .ref 284, .none, .ref 285, .ref 286, .ref 287, .int 561 0, .int 184 0, sv "/claim/cut.py" 562], #[]⟩) ::
  (nat_lit 289, fnO (inS 18 13) "assign" "GivenHooks.assign" (sv "snobol.stackcore" 369) 288) ::
  (nat_lit 295, ⟨.type "code", none, .fields #[sv "replace" 564, sv "GivenHooks.replace" 565, sv "/claim/cut.py" 566, .int 187 0, .int 4 0, .int 0 0, .int 0 0, .int 3 0, .ref 290, .bool true, .int 181 0, .ref 291, .none, .ref 292, .ref 293, .ref 294, .int 571 0, .int 187 0, sv "/claim/cut.py" 572], #[]⟩) ::
  (nat_lit 296, fnO (inS 18 14) "replace" "GivenHooks.replace" (sv "snobol.stackcore" 369) 295) ::
  (nat_lit 326, ⟨.type "dict", none, .dict #[en P "__module__" 434 (sv "snobol.stackcore" 369), en P "__firstlineno__" 438 (.int 140 437), en P "__init__" 447 (.ref 198), en P "ask" 457 (.ref 205), en P "var_value" 465 (.ref 212), en P "name_of" 474 (.ref 219), en P "named_by" 482 (.ref 226), en P "ref_value" 490 (.ref 233), en P "called" 500 (.ref 240), en P "item_of" 510 (.ref 247), en P "operated" 519 (.ref 254), en P "delayed" 527 (.ref 261), en P "given_part" 537 (.ref 268), en P "cursor" 545 (.ref 275), en P "matched" 554 (.ref 282), en P "assign" 563 (.ref 289), en P "replace" 573 (.ref 296), en P "label_of" 581 (.ref 303), en P "begin" 589 (.ref 310), en P "failed" 596 (.ref 317), en P "place_of" 605 (.ref 324), en P "__static_attributes__" 609 (.ref 325), en P "__dict__" 611 (.ref 328), en P "__weakref__" 613 (.ref 329), en P "__doc__" 614 (.none)] 4, #[]⟩) ::
  (nat_lit 327, ⟨.type "type", none, .cls { name := ss "GivenHooks", bases := [.type "object"], mro := [.ref 327, .type "object"], ns := 326, qualname := ss "GivenHooks", hasDict := true, slotNames := [], subclasses := [], abstract := false, collection := none, hasDel := false }, #[none, none, some (sv "GivenHooks" 427), some (sv "GivenHooks" 435), some (.builtin "object.__new__"), some (.bool true)]⟩) ::
  (nat_lit 337, ⟨.type "code", none, .fields #[sv "do_order" 617, sv "do_order" 618, sv "/claim/cut.py" 619, .int 201 0, .int 3 0, .int 0 0, .int 0 0, .int 3 0, .ref 332, .bool true, .int 181 0, .ref 333, .none, .ref 334, .ref 335, .ref 336, .int 625 0, .int 201 0, sv "/claim/cut.py" 626], #[]⟩) ::
  (nat_lit 338, fnO (topS 19) "do_order" "do_order" (sv "snobol.stackcore" 369) 337) ::
  (nat_lit 344, ⟨.type "code", none, .fields #[sv "do_part" 628, sv "do_part" 629, sv "/claim/cut.py" 630, .int 225 0, .int 3 0, .int 0 0, .int 0 0, .int 3 0, .ref 339, .bool true, .int 181 0, .ref 340, .none, .ref 341, .ref 342, .ref 343, .int 635 0, .int 225 0, sv "/claim/cut.py" 636], #[]⟩) ::
  (nat_lit 345, fnO (topS 20) "do_part" "do_part" (sv "snobol.stackcore" 369) 344) ::
  (nat_lit 351, ⟨.type "code", none, .fields #[sv "do_deed" 638, sv "do_deed" 639, sv "/claim/cut.py" 640, .int 232 0, .int 3 0, .int 0 0, .int 0 0, .int 3 0, .ref 346, .bool true, .int 181 0, .ref 347, .none, .ref 348, .ref 349, .ref 350, .int 646 0, .int 232 0, sv "/claim/cut.py" 647], #[]⟩) ::
  (nat_lit 352, fnO (topS 21) "do_deed" "do_deed" (sv "snobol.stackcore" 369) 351) ::
  (nat_lit 358, ⟨.type "code", none, .fields #[sv "do_other" 649, sv "do_other" 650, sv "/claim/cut.py" 651, .int 242 0, .int 3 0, .int 0 0, .int 0 0, .int 3 0, .ref 353, .bool true, .int 181 0, .ref 354, .none, .ref 355, .ref 356, .ref 357, .int 656 0, .int 242 0, sv "/claim/cut.py" 657], #[]⟩) ::
  (nat_lit 359, fnO (topS 22) "do_other" "do_other" (sv "snobol.stackcore" 369) 358) ::
  (nat_lit 365, ⟨.type "code", none, .fields #[sv "_law_pull" 661, sv "_law_pull" 662, sv "/claim/cut.py" 663, .int 258 0, .int 2 0, .int 0 0, .int 0 0, .int 3 0, .ref 360, .bool true, .int 181 0, .ref 361, .none, .ref 362, .ref 363, .ref 364, .int 668 0, .int 258 0, sv "/claim/cut.py" 669], #[]⟩) ::
  (nat_lit 366, fnO (topS 24) "_law_pull" "_law_pull" (sv "law_pf0370_01" 659) 365) ::
  (nat_lit 370, ⟨.type "code", none, .fields #[sv "_law_tree" 671, sv "_law_tree" 672, sv "/claim/cut.py" 673, .int 262 0, .int 2 0, .int 0 0, .int 0 0, .int 3 0, .ref 367, .bool true, .int 181 0, .ref 368, .none, .none, .none, .ref 369, .int 674 0, .int 262 0, sv "/claim/cut.py" 675], #[]⟩) ::
  (nat_lit 371, fnO (topS 25) "_law_tree" "_law_tree" (sv "law_pf0370_01" 659) 370) ::
  (nat_lit 377, ⟨.type "code", none, .fields #[sv "_law_parts" 677, sv "_law_parts" 678, sv "/claim/cut.py" 679, .int 282 0, .int 1 0, .int 0 0, .int 0 0, .int 3 0, .ref 372, .bool true, .int 181 0, .ref 373, .none, .ref 374, .ref 375, .ref 376, .int 681 0, .int 282 0, sv "/claim/cut.py" 682], #[]⟩) ::
  (nat_lit 378, fnO (topS 26) "_law_parts" "_law_parts" (sv "law_pf0370_01" 659) 377) ::
  (nat_lit 382, ⟨.type "code", none, .fields #[sv "_law_high" 684, sv "_law_high" 685, sv "/claim/cut.py" 686, .int 292 0, .int 1 0, .int 0 0, .int 0 0, .int 3 0, .ref 379, .bool true, .int 181 0, .ref 380, .none, .none, .none, .ref 381, .int 687 0, .int 292 0, sv "/claim/cut.py" 688], #[]⟩) ::
  (nat_lit 383, fnO (topS 27) "_law_high" "_law_high" (sv "law_pf0370_01" 659) 382) ::
  (nat_lit 387, ⟨.type "code", none, .fields #[sv "_law_is_sharp" 690, sv "_law_is_sharp" 691, sv "/claim/cut.py" 692, .int 294 0, .int 1 0, .int 0 0, .int 0 0, .int 3 0, .ref 384, .bool true, .int 181 0, .ref 385, .none, .none, .none, .ref 386, .int 693 0, .int 294 0, sv "/claim/cut.py" 694], #[]⟩) ::
  (nat_lit 388, fnO (topS 28) "_law_is_sharp" "_law_is_sharp" (sv "law_pf0370_01" 659) 387) ::
  (nat_lit 394, ⟨.type "code", none, .fields #[sv "_law_climbed" 696, sv "_law_climbed" 697, sv "/claim/cut.py" 698, .int 297 0, .int 1 0, .int 0 0, .int 0 0, .int 3 0, .ref 389, .bool true, .int 181 0, .ref 390, .none, .ref 391, .ref 392, .ref 393, .int 705 0, .int 297 0, sv "/claim/cut.py" 706], #[]⟩) ::
  (nat_lit 395, fnO (topS 29) "_law_climbed" "_law_climbed" (sv "law_pf0370_01" 659) 394) ::
  (nat_lit 401, ⟨.type "code", none, .fields #[sv "_law_body" 708, sv "_law_body" 709, sv "/claim/cut.py" 710, .int 313 0, .int 3 0, .int 0 0, .int 0 0, .int 3 0, .ref 396, .bool true, .int 181 0, .ref 397, .none, .ref 398, .ref 399, .ref 400, .int 717 0, .int 313 0, sv "/claim/cut.py" 718], #[]⟩) ::
  (nat_lit 402, fnO (topS 30) "_law_body" "_law_body" (sv "law_pf0370_01" 659) 401) ::
  (nat_lit 406, ⟨.type "code", none, .fields #[sv "law" 720, sv "law" 721, sv "/claim/cut.py" 722, .int 324 0, .int 1 0, .int 0 0, .int 0 0, .int 3 0, .ref 403, .bool true, .int 181 0, .ref 404, .none, .none, .none, .ref 405, .int 723 0, .int 324 0, sv "/claim/cut.py" 724], #[]⟩) ::
  (nat_lit 407, fnO (topS 31) "law" "law" (sv "law_pf0370_01" 659) 406) :: []
noncomputable abbrev kAs : List Addr := [3, 53, 54, 64, 65, 71, 72, 78, 79, 85, 86, 92, 93, 99, 100, 106, 107, 113, 114, 120, 121, 134, 135, 137, 138, 155, 156, 162, 163, 169, 170, 176, 177, 179, 180, 197, 198, 204, 205, 211, 212, 218, 219, 225, 226, 232, 233, 239, 240, 246, 247, 253, 254, 267, 268, 281, 282, 288, 289, 295, 296, 326, 327, 337, 338, 344, 345, 351, 352, 358, 359, 365, 366, 370, 371, 377, 378, 382, 383, 387, 388, 394, 395, 401, 402, 406, 407]

theorem left_of_runT {p q : Program} {loose : List Str} {Xt : Shared → Bool} {α : Type} {Yf : Shared → α} {Ya : World → α} {N : Nat} {g0 : Bool} {H₀ : Params → Heap} {T₀ : Params → BT} {n₀ : Nat} {gs₀ : Array GenState} {d₀ : Drawn} {k₀ : Nat} {m₀ : Nat} {ann : Option Value}
    (open_ : ∀ w : World, (fencedOpening treeTable p w N).map (fun s => (s.heap, s.gens, s.drawn, s.toks)) = some (H₀ w.params, gs₀, d₀, k₀))
    (size : ∀ w : World, ((H₀ w.params).isNs mainGlobals && gs₀.size == 0, (H₀ w.params).objs.size, (H₀ w.params).nsMap mainGlobals "__annotations__") = (true, m₀, ann))
    (tree : ∀ P, absHeap (T₀ P) n₀ {} = H₀ P)
    (run : ∀ (w : World), (fun os => (runT (stepT (denote treeTable) p w) (stepOk m₀ ann) N ⟨T₀ w.params, n₀, {}, gs₀, d₀, k₀, os⟩ (topStub p)).map (fun s =>
        ((staticsOk (importedModules p.main.body) (H₀ w.params) s.abs.heap && namesBound p s.abs.heap && gensDone s.abs && laidKept (H₀ w.params) s.abs.heap), openSeen q loose (importedModules p.main.body) Xt g0 s.abs, Yf s.abs))) = fun _ => some (true, openGood q loose, Ya w)) : LeftO p q loose Xt Yf Ya N g0 := fun w => by
  obtain ⟨⟨h, gs, d, k, os⟩, e, e'⟩ := Option.map_eq_some_iff.mp (open_ w)
  obtain ⟨rfl, rfl, rfl, rfl⟩ : h = H₀ w.params ∧ gs = gs₀ ∧ d = d₀ ∧ k = k₀ := by simpa using e'
  obtain ⟨z1, z2, z3⟩ : _ ∧ _ ∧ _ := by simpa only [Prod.mk.injEq] using size w
  obtain ⟨s₁, r1, r2⟩ := Option.map_eq_some_iff.mp (congrFun (run w) os)
  obtain ⟨l1, l2, l3⟩ : _ ∧ _ ∧ _ := by simpa only [Prod.mk.injEq] using r2
  have r1 := runT_spec r1
  have r1 : topRun treeTable p w m₀ ann N ⟨H₀ w.params, gs, d, k, os⟩ (topStub p) = some s₁.abs := by
    rw [← tree w.params]; exact r1
  have t : topFrom treeTable p w N ⟨H₀ w.params, gs, d, k, os⟩ = some s₁.abs := by
    unfold topFrom
    dsimp only
    rw [z1, z2, z3, r1]
    show (match staticsOk (importedModules p.main.body) (H₀ w.params) s₁.abs.heap && namesBound p s₁.abs.heap && gensDone s₁.abs && laidKept (H₀ w.params) s₁.abs.heap with | true => _ | false => _) = _
    rw [l1]
  unfold openEnds
  rw [e]
  show (topFrom treeTable p w N _).map _ = _
  rw [t]
  exact congrArg some (Prod.ext l2 l3)
noncomputable def vw : Program := view PySem.Challenge.pw_pf0370_01 [0, 2, 3, 4, 6, 7, 8, 9, 10, 11, 12, 13, 15, 17, 18, 19, 20, 21, 22, 24, 25, 26, 27, 28, 29, 30, 31]
noncomputable abbrev rr : OpenRow := PySem.Challenge.rw_pf0370_01.row
noncomputable abbrev xt : Shared → Bool := fun s => xlAt vw [] s && recOk (RowW.records rr.toRowW) s
theorem kAs_ok : ∀ P, kAs = (K P).map (·.1) := fun _ => by kernel_rfl
noncomputable abbrev hook : Hook := kmHook K kAs kAs_ok [390]
set_option maxHeartbeats 0 in
theorem run_ok : ∀ (w : World), (fun os => (runT (stepT (denote treeTable) PySem.Challenge.pw_pf0370_01 w) (stepOk 11 (some (.ref 6))) 5160 ⟨bootT w.params, 11, {}, #[], boot_drawn, boot_toks, os⟩ (topStub PySem.Challenge.pw_pf0370_01)).map (fun s =>
        ((staticsOk (importedModules PySem.Challenge.pw_pf0370_01.main.body) (boot_heap w.params) s.abs.heap && namesBound PySem.Challenge.pw_pf0370_01 s.abs.heap && gensDone s.abs && laidKept (boot_heap w.params) s.abs.heap), openSeen vw [PySem.Str.ofString "SnobolError"] (importedModules PySem.Challenge.pw_pf0370_01.main.body) xt true s.abs, hook.obs s.abs))) = fun _ => some (true, openGood vw [PySem.Str.ofString "SnobolError"], hook.val w) := by
  intro w
  rw [PySem.W.Fast.te10156331382660048174, PySem.W.Fast.te14364793385576792824, PySem.W.Fast.te6613529449190102663, PySem.W.Fast.te11892475500146522536, PySem.W.Fast.te4187177175401517315]
  kernel_rfl
theorem left_ok : LeftO PySem.Challenge.pw_pf0370_01 vw [PySem.Str.ofString "SnobolError"] xt hook.obs hook.val 5160 :=
  left_of_runT (boot_open (by kernel_rfl) (by decide) (fun _ => by kernel_rfl)) (fun _ => by kernel_rfl) bootT_ok run_ok
end
section
noncomputable abbrev PG : Program := PySem.Challenge.rw_pf0370_01.row.prog
/-- all that stood stands, but for the listed places -/
noncomputable def StB (as : List Addr) (h h' : Heap) : Prop := ∀ b o, b ∉ as → h.get? b = some o → h'.get? b = some o
noncomputable abbrev StA (h h' : Heap) : Prop := ∀ b o, h.get? b = some o → h'.get? b = some o
structure Gd (w : World) (h : Heap) : Prop where
  K : (K w.params).In h
  T : ∃ loose mean mg mb, Top topProg loose mean mg mb h
theorem Gd.keeps {w : World} {h h' : Heap} (x : Gd w h) (k : StA h h') : Gd w h' :=
  let ⟨a, l, me, mg, mb, t⟩ := x; ⟨a.keeps k, l, me, mg, mb, t.keeps k⟩
theorem hide_nil {h : Heap} : hideAll h [] = h := rfl
theorem stB_of {as : List Addr} {h h' : Heap} (k : StA (hideAll h as) h') : StB as h h' := fun b o nb e => k b o (hideAll_get as e nb)
theorem enter {w : World} {A : Around} {s : Shared} {R : Result → Shared → Prop} {as : List Addr} {news : List (Addr × Obj)} {name qual : Str} {params : Arguments} {body : List Stmt} {scope : Scope}
    {doc pm cdv oc : Value} {od : Option Addr} {osl : Array (Option Value)} {f : Addr} {args : Args} {binds : List (Str × Value)}
    (G : Gd w (hideAll s.heap as)) (hn : ∀ p ∈ news, s.heap.get? p.1 = some p.2 ∧ p.1 ∈ as)
    (ho : (K w.params).lookup f = some ⟨oc, od, .func (fnOf name qual params body scope .none .none doc pm none cdv .none), osl⟩)
    (hcd : codeIn (K w.params) cdv qual = true) (hroom : A.depth < recursionLimit)
    (hbind : BindsTo s (fnOf name qual params body scope .none .none doc pm none cdv .none) args binds) (hloc : ∀ y ∈ binds, scope.names.lookup y.1 = some .local)
    (hco : scope.isCoroutine = false) (hgen : scope.isGenerator = false) (hk : scope.kind = .function) (hcell : ∀ x ∈ scope.names, x.2 ≠ .cell)
    (h : ∀ L h₁, Fr (hideAll s.heap as) L h₁ (fun y => binds.reverse.lookup y) → News (hideAll s.heap as) L h₁ news →
      wpAny (model PG w) (A.deeper (envOf qual scope L f cdv)) (execs body (envOf qual scope L f cdv))
        (fun fl s' => R (.ok (.ret (match fl with | .ret v => v | _ => .none))) s') (fun _ _ => False) { s with heap := h₁, toks := s.toks + binds.length }) :
    codeAny (model PG w) A (.call (.ref f) args) R s := by
  obtain ⟨X, _, _, _, _, T⟩ := G
  have lift : StA (hideAll s.heap as) s.heap := fun b o e => of_hideAll _ e
  refine codeAny_call_def (fd := fnOf name qual params body scope .none .none doc pm none cdv .none) (body := body) (binds := binds) hroom (lift _ _ (X _ _ ho)) rfl (T.nolimit.keeps lift)
    ((codeRec_of X hcd).keeps lift) rfl hbind hcell hloc (fun h₁ hns hk₁ => ?_) hco hgen hk
  refine wpAny_mono (h s.heap.objs.size h₁ ⟨hns, fun b o e => hk₁ b o (lift b o e), Nat.le_of_eq (hideAll_size _ _)⟩ fun p hp => ⟨hk₁ _ _ (hn p hp).1, Nat.ne_of_lt (Heap.lt_size (hn p hp).1), hideAll_none _ (hn p hp).2⟩)
    (fun _ _ x => x) (fun _ _ x => x.elim)
/-- a call that changes nothing that stood: what it makes is told -/
noncomputable def PCon (w : World) (f : Addr) (vs : List Value) (d u : Nat) (Pre : Heap → Prop) (Post : Heap → List (Addr × Obj) → Value → Prop) : Prop :=
  ∀ (A : Around) (s : Shared) (Q E : Value → Shared → Prop), A.handled = none → A.depth + d < recursionLimit → A.units + u < cLine → Gd w s.heap → Pre s.heap →
    (∀ r h' tk I, StA s.heap h' → (∀ p ∈ I, h'.get? p.1 = some p.2 ∧ s.heap.get? p.1 = none) → Post s.heap I r → Q r { s with heap := h', toks := tk }) →
    wpAny (model PG w) A (call (.ref f) vs) Q E s
theorem viaLet {G : Prop} (h : let P : Prop := G; P) : G := h
theorem lt0 {a d n : Nat} (h : a + d < n) : a < n := Nat.lt_of_le_of_lt (Nat.le_add_right _ _) h
theorem dl0 {a d k n : Nat} (h : a + d < n) (e : Nat.ble k d = true) : a + k < n := Nat.lt_of_le_of_lt (Nat.add_le_add_left (Nat.le_of_ble_eq_true e) a) h
theorem dlt {a d j k n : Nat} (h : a + d < n) (e : Nat.ble (j + k) d = true) : a + j + k < n :=
  Nat.lt_of_le_of_lt (by rw [Nat.add_assoc]; exact Nat.add_le_add_left (Nat.le_of_ble_eq_true e) a) h
theorem dm0 {a x m c d j k n : Nat} (h : a + (c * m + d) < n) (l : x ≤ m) (e : Nat.ble (j + k) d = true) : a + j + (c * x + k) < n :=
  Nat.lt_of_le_of_lt (by rw [Nat.add_assoc, Nat.add_left_comm j]; exact Nat.add_le_add_left (Nat.add_le_add (Nat.mul_le_mul_left c l) (Nat.le_of_ble_eq_true e)) a) h
theorem dm1 {a x m c d j k n : Nat} (h : a + (c * (m + 1) + d) < n) (l : x ≤ m) (e : Nat.ble (j + k) (c + d) = true) : a + j + (c * x + k) < n := by
  rw [Nat.mul_succ, Nat.add_assoc (c * m)] at h; exact dm0 h l e
theorem dlt1 {a x d j k n : Nat} (h : a + (x + d) < n) (e : Nat.ble (j + k) d = true) : a + j + (x + k) < n :=
  Nat.lt_of_le_of_lt (by rw [Nat.add_assoc, Nat.add_left_comm j]; exact Nat.add_le_add_left (Nat.add_le_add_left (Nat.le_of_ble_eq_true e) x) a) h
theorem dlt2 {a x d j k n : Nat} (h : a + (x + d) < n) (e : Nat.ble (j + k) d = true) : a + j + k < n :=
  Nat.lt_of_le_of_lt (by rw [Nat.add_assoc]; exact Nat.add_le_add_left (Nat.le_trans (Nat.le_of_ble_eq_true e) (Nat.le_add_left _ _)) a) h
section
variable {a b c i j k m n p t x y z L M : Nat}
theorem ar_le (h : x ≤ m) (e : Nat.ble m n = true) : x ≤ n := Nat.le_trans h (Nat.le_of_ble_eq_true e)
theorem ar_lt (h : x ≤ m) (e : Nat.ble (m + 1) n = true) : x < n := Nat.lt_of_le_of_lt h (Nat.le_of_ble_eq_true e)
theorem dh (h : a + n < L) (l : p ≤ b) (e : Nat.ble (k + (m * b + c)) n = true) : a + k + (m * p + c) < L :=
  Nat.lt_of_le_of_lt (by rw [Nat.add_assoc]; exact Nat.add_le_add_left (Nat.le_trans (Nat.add_le_add_left (Nat.add_le_add_right (Nat.mul_le_mul_left m l) c) k) (Nat.le_of_ble_eq_true e)) a) h
theorem dh0 (h : a + n < L) (l : p ≤ b) (e : Nat.ble (m * b + c) n = true) : a + (m * p + c) < L :=
  Nat.lt_of_le_of_lt (Nat.add_le_add_left (Nat.le_trans (Nat.add_le_add_right (Nat.mul_le_mul_left m l) c) (Nat.le_of_ble_eq_true e)) a) h
theorem dhs (h : a + (m * t + n) < L) (l : p + 1 ≤ t) (e : Nat.ble (k + c) (m + n) = true) : a + k + (m * p + c) < L :=
  dm1 (m := p) (Nat.lt_of_le_of_lt (Nat.add_le_add_left (Nat.add_le_add_right (Nat.mul_le_mul_left m l) n) a) h) (Nat.le_refl _) e
theorem dl3 (h : a + n < L) (e : Nat.ble (i + j + k) n = true) : a + i + j + k < L := by rw [Nat.add_assoc a i j]; exact dlt h e
inductive InC (Q : Prop) : Prop → Prop
  | hd {R : Prop} : InC Q (Q ∧ R)
  | tl {P R : Prop} (h : InC Q R) : InC Q (P ∧ R)
  | last : InC Q Q
theorem InC.of {P Q : Prop} (p : P) (h : InC Q P) : Q := by
  induction h with
  | hd => exact p.1
  | tl _ ih => exact ih p.2
  | last => exact p
theorem and2 {a b : Bool} (h : a = true) (g : b = true) : (a && b) = true := by rw [h, g]; rfl
theorem and3 {a b c : Bool} (h : a = true) (g : b = true) (f : c = true) : (a && (b && c)) = true := and2 h (and2 g f)
theorem or2 {a b : Bool} (g : b = true) : (a || b) = true := by rw [g]; exact Bool.or_true a
theorem ht3d (h1 : x ≤ m) (h2 : y ≤ m) (h3 : z ≤ m) : max x (max y z) + 1 ≤ m + 1 := Nat.succ_le_succ (Nat.max_le.2 ⟨h1, Nat.max_le.2 ⟨h2, h3⟩⟩)
theorem upto2 {p : Int} (h0 : 0 ≤ p) (h1 : p < 2) : p = 0 ∨ p = 1 := by
  obtain ⟨n, rfl⟩ := Int.eq_ofNat_of_zero_le h0
  have h : n < 2 := Int.ofNat_lt.1 h1
  clear h0 h1; revert n; decide
theorem kdN {k : Int} (h0 : 0 ≤ k) (h1 : k < 4) : ∃ n : Nat, k = n ∧ n < 4 := by
  obtain ⟨n, e⟩ := Int.eq_ofNat_of_zero_le h0
  subst e; exact ⟨n, rfl, Int.ofNat_lt.1 h1⟩
theorem kd4 {k : Int} {n : Nat} (e : k = n) (h : n < 4) : (k = 0 ∧ n = 0) ∨ (k = 1 ∧ n = 1) ∨ (k = 2 ∧ n = 2) ∨ (k = 3 ∧ n = 3) := by
  subst e; revert n; decide
theorem lrA (h : t ≤ 0 + p) (e : p = 53) (e' : z = 17) : t + 1 + z ≤ 1000000 := by
  subst e e'; exact Nat.le_trans (Nat.add_le_add_right (Nat.add_le_add_right h 1) 17) (by decide)
theorem lrB (h : t ≤ 0 + p) (e : p = 53) (e' : z = 17) (g : x ≤ t + 1 + z) : x + z ≤ 1000000 := by
  subst e e'; exact Nat.le_trans (Nat.add_le_add_right (Nat.le_trans g (Nat.add_le_add_right (Nat.add_le_add_right h 1) 17)) 17) (by decide)
theorem sm1 (h : x + y ≤ m) : x ≤ m := Nat.le_trans (Nat.le_add_right _ _) h
theorem sm2 (h : x + y + z ≤ m) : x ≤ m := sm1 (sm1 h)
theorem sm3 (h : x + y ≤ m) : y ≤ m := Nat.le_trans (Nat.le_add_left _ _) h
theorem sm4 (h : x + y + z ≤ m) : y ≤ m := sm3 (sm1 h)
theorem sb2 (h : x = 2) : y + (0 + 1) = y + x - 1 := by subst h; rfl
theorem sb1 (h : x = 1) : y + (0 + 1) = y + x - 0 := by subst h; rfl
theorem sbn (h : x = n) : y + (0 + 1) = y + (0 + 1) + x - n := by subst h; exact (Nat.add_sub_cancel ..).symm
theorem sbc (h : x = n) : y + (0 + 1) = y + x - n + 1 := by subst h; rw [Nat.add_sub_cancel]
theorem sbi (i : Int) (h : x = n) : ((y + x : Nat) : Int) - (n : Int) = y := by subst h; rw [Int.natCast_add, Int.add_sub_cancel]
theorem mxd1 (h : m ≤ 1) : max 0 (max (m + 1) 0) ≤ 30 := Nat.max_le.2 ⟨Nat.zero_le _, Nat.max_le.2 ⟨Nat.le_trans (Nat.succ_le_succ h) (by decide), Nat.zero_le _⟩⟩
theorem mxd2 (h : m ≤ 1) : max 0 (max (m + 1) (max 0 0)) ≤ 30 := Nat.max_le.2 ⟨Nat.zero_le _, Nat.max_le.2 ⟨Nat.le_trans (Nat.succ_le_succ h) (by decide), by decide⟩⟩
/-- a bound of draws: n trees and c words past t -/
noncomputable def Wd (t p n c x : Nat) : Prop := x ≤ t + (n * p + c)
theorem Wd.z0 : Wd t p n c t := Nat.le_add_right _ _
theorem Wd.s0 (h : x ≤ y + p) (g : Wd t p n c y) : Wd t p (n + 1) c x := by
  unfold Wd; rw [Nat.succ_mul, Nat.add_right_comm, ← Nat.add_assoc t]; exact Nat.le_trans h (Nat.add_le_add_right g p)
theorem Wd.i1 (g : Wd t p n c y) : Wd t p n (c + 1) (y + 1) := Nat.succ_le_succ g
theorem Wd.f0 (g : Wd t p 3 2 x) : x ≤ t + (3 * p + 2) := g
theorem Wd.m0 (h : t + (3 * p + 2) ≤ M) (g : Wd t p 2 2 x) : x + p ≤ M := Nat.le_trans (Wd.s0 (Nat.le_refl _) g) h
theorem Wd.k0 (h : t + (3 * p + 2) ≤ M) (g : Wd t p 3 2 x) : x ≤ M := Nat.le_trans g h
end
noncomputable def Stop (p : Prop) : Prop := p
theorem Stop.of {p : Prop} (h : Stop p) : p := h
end
section
section
variable {prog : Program} {w : World} {A : Around} {s : Shared} {h₀ : Heap} {L a : Addr} {m : Str → Option Value} {news : List (Addr × Obj)} {cn : Str} {cs : Scope} {cd : Value}
inductive CStrs : List PySem.Expr → List Str → Prop
  | nil : CStrs [] []
  | cons {c : Str} {k : Nat} {p : Pos} {r : List PySem.Expr} {ys : List Str} (h : CStrs r ys) : CStrs (.Constant (.str c) k p :: r) (c :: ys)
theorem spliced_consts {E : Value → Shared → Prop} {env : Env} {pos : Pos} {es : List PySem.Expr} {ys : List Str} (e : CStrs es ys) : ∀ {s : Shared} {Q : List Value → Shared → Prop},
    (∀ vs tk, StrsAre vs ys → Q vs { s with toks := tk }) → wpAny (model prog w) A (spliced (backTo pos (starEach es env))) Q E s := by
  induction e with
  | nil => intro s Q h; exact spliced_nil (h [] _ .nil)
  | cons _ ih => intro s Q h; exact args_cons (Calls.Constant_str (ih fun vs tk hv => h _ tk (.cons _ _ hv))) rfl
theorem strs_len {vs : List Value} {ys : List Str} (h : StrsAre vs ys) : vs.length = ys.length := by
  induction h with
  | nil => rfl
  | cons _ _ _ ih => exact congrArg (· + 1) ih
/-- a test over names that hold texts, and what it comes to -/
inductive Tst (g : Heap) (env : Env) (m : Str → Option Value) : PySem.Expr → Bool → Prop
  | eq {x c v : Str} {t : Tok} {p p2 p3 : Pos} {k : Nat} {b : Bool} (hx : m x = some (.str v t)) (hb : (v == c) = b) (hl : env.kindOf x = some .local) (hd : (x == ("__debug__" : Str)) = false) :
      Tst g env m (.Compare (.Name x p) [.Eq] [.Constant (.str c) k p2] p3) b
  | isIn {x v : Str} {t : Tok} {p p2 p3 : Pos} {k : Nat} {es : List PySem.Expr} {ys : List Str} {b : Bool} (hx : m x = some (.str v t)) (he : CStrs es ys) (hb : (ys.any (· == v)) = b)
      (hz : Nat.ble ys.length 100 = true) (hm : behindInMarks .In (.Tuple es k p2) = false) (hl : env.kindOf x = some .local) (hd : (x == ("__debug__" : Str)) = false) :
      Tst g env m (.Compare (.Name x p) [.In] [.Tuple es k p2] p3) b
  | item {x c v : Str} {b₀ : Addr} {l : List Value} {k : Int} {j : Nat} {t : Tok} {p p1 p2 p3 p4 : Pos} {kk kk' : Nat} {b : Bool} (hx : m x = some (.ref b₀)) (hT : IsTup g b₀ l.toArray) (hi : l[j]? = some (.str v t))
      (hb : (v == c) = b) (hj : seqIndex? k l.length = some j) (h1 : decide (-(2 ^ 63) ≤ k) = true) (h2 : decide (k < 2 ^ 63) = true) (hl : env.kindOf x = some .local) (hd : (x == ("__debug__" : Str)) = false) :
      Tst g env m (.Compare (.Subscript (.Name x p) (.Constant (.int k) kk p1) p2) [.Eq] [.Constant (.str c) kk' p3] p4) b
  | or_tt {e : PySem.Expr} {r : List PySem.Expr} {p : Pos} (h : Tst g env m e true) : Tst g env m (.BoolOp .Or (e :: r) p) true
  | or_ff {e : PySem.Expr} {r : List PySem.Expr} {p : Pos} {b : Bool} (h : Tst g env m e false) (hr : Tst g env m (.BoolOp .Or r p) b) : Tst g env m (.BoolOp .Or (e :: r) p) b
  | or_nil {p : Pos} : Tst g env m (.BoolOp .Or [] p) false
theorem tst_ok {E : Value → Shared → Prop} {e : PySem.Expr} {b : Bool} (hk : cs.kind = .function) (T : Tst h₀ (envOf cn cs L a cd) m e b) : ∀ {s : Shared} {whole : Sem Value} {Q : Bool → Shared → Prop}, Fr h₀ L s.heap m → News h₀ L s.heap news →
    (∀ h' tk, Fr h₀ L h' m → News h₀ L h' news → Q b { s with heap := h', toks := tk }) → wpAny (model prog w) A (isTrue e (envOf cn cs L a cd) whole) Q E s := by
  induction T with
  | eq hx hb hl hd =>
    intro s whole Q F N h
    refine wpAny_isTrue_Compare1 (ld F hx ?_ hk hl hd)
    refine Calls.Constant_str (PyProof.Rows.eq_str ?_)
    refine wpAny_truthy_bool ?_
    rw [hb]
    exact h _ _ F N
  | isIn hx he hb hz hm hl hd =>
    intro s whole Q F N h
    refine wpAny_isTrue_Compare1 (ld F hx ?_ hk hl hd) hm
    refine Tuple_ (spliced_consts he fun vs tk hv => ?_)
    have hlen := strs_len hv
    have hz' := Nat.le_of_ble_eq_true hz
    refine newTuple_N F N (fun h' F' N' => ?_) (by rw [hlen, sizeLine_eq]; omega)
    have ht : IsTup h' s.heap.objs.size vs.toArray := ⟨_, (N' _ (.head _)).1, rfl, _, rfl⟩
    refine in_tuple_strs ht (by simpa using hv) ?_
    refine wpAny_truthy_bool ?_
    rw [hb]
    exact h h' _ F' (fun p hp => N' p (.tail _ hp))
  | item hx hT hi hb hj h1 h2 hl hd =>
    intro s whole Q F N h
    refine wpAny_isTrue_Compare1 (Subscript_ (ld F hx (wpAny_Constant_int ?_) hk hl hd))
    refine item_tupleT (hT.keeps F.keep) (of_decide_eq_true h1) (of_decide_eq_true h2) hj hi ?_ (by with_unfolding_all rfl)
    refine Calls.Constant_str (PyProof.Rows.eq_str ?_)
    refine wpAny_truthy_bool ?_
    rw [hb]
    exact h _ _ F N
  | or_tt _ ih =>
    intro s whole Q F N h
    exact isTrue_or (ih F N fun h' tk F' N' => by simpa using h h' tk F' N')
  | or_ff _ _ ih ihr =>
    intro s whole Q F N h
    exact isTrue_or (ih F N fun h' tk F' N' => by
      simp only [Bool.false_eq_true, if_false]
      exact ihr F' N' fun h'' tk' F'' N'' => h h'' tk' F'' N'')
  | or_nil =>
    intro s whole Q F N h
    exact isTrue_or_nil (h _ _ F N)
/-- an if that is passed by -/
theorem if_skip {E : Value → Shared → Prop} {e : PySem.Expr} {body rest : List Stmt} {pos : Pos} {Q : Flow → Shared → Prop} (F : Fr h₀ L s.heap m) (N : News h₀ L s.heap news) (T : Tst h₀ (envOf cn cs L a cd) m e false) (hk : cs.kind = .function)
    (h : ∀ h' tk, Fr h₀ L h' m → News h₀ L h' news → wpAny (model prog w) A (execs rest (envOf cn cs L a cd)) Q E { s with heap := h', toks := tk }) :
    wpAny (model prog w) A (execs (.If e body [] pos :: rest) (envOf cn cs L a cd)) Q E s := by
  refine wpAny_execs_cons (wpAny_If (tst_ok hk T F N fun h' tk F' N' => ?_))
  simp only [Bool.false_eq_true, if_false]
  exact wpAny_execs_nil (h h' tk F' N')
theorem if_else {E : Value → Shared → Prop} {e : PySem.Expr} {body other rest : List Stmt} {pos : Pos} {Q : Flow → Shared → Prop} (F : Fr h₀ L s.heap m) (N : News h₀ L s.heap news) (T : Tst h₀ (envOf cn cs L a cd) m e false) (hk : cs.kind = .function)
    (h : ∀ h' tk, Fr h₀ L h' m → News h₀ L h' news → wpAny (model prog w) A (execs other (envOf cn cs L a cd)) (fun f s' => match f with | .next => wpAny (model prog w) A (execs rest (envOf cn cs L a cd)) Q E s' | f => Q f s') E { s with heap := h', toks := tk }) :
    wpAny (model prog w) A (execs (.If e body other pos :: rest) (envOf cn cs L a cd)) Q E s := by
  refine wpAny_execs_cons (wpAny_If (tst_ok hk T F N fun h' tk F' N' => ?_))
  simp only [Bool.false_eq_true, if_false]
  exact h h' tk F' N'
/-- the elifs that are passed by -/
inductive Elses (g : Heap) (env : Env) (m : Str → Option Value) : List Stmt → List Stmt → Prop
  | stop {l : List Stmt} : Elses g env m l l
  | step {e : PySem.Expr} {body other l : List Stmt} {pos : Pos} (T : Tst g env m e false) (r : Elses g env m other l) : Elses g env m [.If e body other pos] l
theorem elses_ok {E : Value → Shared → Prop} {other l : List Stmt} {Q : Flow → Shared → Prop} (hk : cs.kind = .function) (S : Elses h₀ (envOf cn cs L a cd) m other l) (F : Fr h₀ L s.heap m) (N : News h₀ L s.heap news)
    (h : ∀ h' tk, Fr h₀ L h' m → News h₀ L h' news → wpAny (model prog w) A (execs l (envOf cn cs L a cd)) Q E { s with heap := h', toks := tk }) :
    wpAny (model prog w) A (execs other (envOf cn cs L a cd)) Q E s := by
  induction S generalizing s with
  | stop => exact h s.heap s.toks F N
  | step T _ ih =>
    refine if_else F N T hk fun h' tk F' N' => wpAny_mono (ih F' N' fun h'' tk' F'' N'' => h h'' tk' F'' N'') (fun f s' q => ?_) fun _ _ e => e
    cases f with
    | next => exact wpAny_execs_nil q
    | ret v => exact q
    | brk => exact q
    | cont => exact q
theorem if_elses {E : Value → Shared → Prop} {e : PySem.Expr} {body other rest l : List Stmt} {pos : Pos} {Q : Flow → Shared → Prop} (F : Fr h₀ L s.heap m) (N : News h₀ L s.heap news) (T : Tst h₀ (envOf cn cs L a cd) m e false) (hk : cs.kind = .function) (S : Elses h₀ (envOf cn cs L a cd) m other l)
    (h : ∀ h' tk, Fr h₀ L h' m → News h₀ L h' news → wpAny (model prog w) A (execs l (envOf cn cs L a cd)) (fun f s' => match f with | .next => wpAny (model prog w) A (execs rest (envOf cn cs L a cd)) Q E s' | f => Q f s') E { s with heap := h', toks := tk }) :
    wpAny (model prog w) A (execs (.If e body other pos :: rest) (envOf cn cs L a cd)) Q E s :=
  if_else F N T hk fun _ _ F' N' => elses_ok hk S F' N' fun h'' tk' F'' N'' => h h'' tk' F'' N''
inductive Skips (g : Heap) (env : Env) (m : Str → Option Value) : List Stmt → List Stmt → Prop
  | nil {l : List Stmt} : Skips g env m l l
  | cons {e : PySem.Expr} {body rest l : List Stmt} {pos : Pos} (T : Tst g env m e false) (r : Skips g env m rest l) : Skips g env m (.If e body [] pos :: rest) l
/-- a chain of ifs that are passed by -/
theorem if_skips {E : Value → Shared → Prop} {stmts rest : List Stmt} {Q : Flow → Shared → Prop} (F : Fr h₀ L s.heap m) (N : News h₀ L s.heap news) (hk : cs.kind = .function) (S : Skips h₀ (envOf cn cs L a cd) m stmts rest)
    (h : ∀ h' tk, Fr h₀ L h' m → News h₀ L h' news → wpAny (model prog w) A (execs rest (envOf cn cs L a cd)) Q E { s with heap := h', toks := tk }) :
    wpAny (model prog w) A (execs stmts (envOf cn cs L a cd)) Q E s := by
  induction S generalizing s with
  | nil => exact h s.heap s.toks F N
  | cons T _ ih => exact if_skip F N T hk fun h' tk F' N' => ih F' N' fun h'' tk' F'' N'' => h h'' tk' F'' N''
theorem if_take {E : Value → Shared → Prop} {e : PySem.Expr} {body other rest : List Stmt} {pos : Pos} {Q : Flow → Shared → Prop} (F : Fr h₀ L s.heap m) (N : News h₀ L s.heap news) (T : Tst h₀ (envOf cn cs L a cd) m e true) (hk : cs.kind = .function)
    (h : ∀ h' tk, Fr h₀ L h' m → News h₀ L h' news → wpAny (model prog w) A (execs body (envOf cn cs L a cd)) (fun f s' => match f with | .next => wpAny (model prog w) A (execs rest (envOf cn cs L a cd)) Q E s' | f => Q f s') E { s with heap := h', toks := tk }) :
    wpAny (model prog w) A (execs (.If e body other pos :: rest) (envOf cn cs L a cd)) Q E s := by
  refine wpAny_execs_cons (wpAny_If (tst_ok hk T F N fun h' tk F' N' => ?_))
  simp only [if_true]
  exact h h' tk F' N'
end
section
variable {M : Model} {A : Around} {s : Shared} {Q E : Value → Shared → Prop} {P : Prop} {f x : Value} {vs : List Value} {kw : List (Str × Value)}
theorem andCall0 (h1 : P) (h : wpAny M A (call f vs kw) Q E s) : P ∧ wpAny M A (call f ([] ++ vs) kw) Q E s := ⟨h1, h⟩
theorem andCall1 (h1 : P) (h : wpAny M A (call f (x :: vs) kw) Q E s) : P ∧ wpAny M A (call f ([x] ++ vs) kw) Q E s := ⟨h1, h⟩
end
end
section
noncomputable abbrev lstO (vs : List Value) (n : Nat) : Obj := { cls := .type "list", data := .seq vs.toArray n }
noncomputable abbrev Sto := Addr → Obj → Prop
noncomputable def HS (h : Heap) : Sto := fun a o => h.get? a = some o
noncomputable def IS (I : List (Addr × Obj)) : Sto := fun a o => (a, o) ∈ I
noncomputable def TupS (S : Sto) (a : Addr) (l : List Value) : Prop := ∃ o, S a o ∧ o.cls = .type "tuple" ∧ ∃ n, o.data = .seq l.toArray n
theorem TupS.mono {S S' : Sto} (k : ∀ a o, S a o → S' a o) {a : Addr} {l : List Value} (x : TupS S a l) : TupS S' a l := let ⟨o, e, r⟩ := x; ⟨o, k _ _ e, r⟩
theorem TupS.heap {h : Heap} {a : Addr} {l : List Value} (x : TupS (HS h) a l) : IsTup h a l.toArray := x
theorem TupS.is {a : Addr} {l : List Value} {n : Nat} {I : List (Addr × Obj)} (h : (a, ({ cls := .type "tuple", data := .seq l.toArray n } : Obj)) ∈ I) : TupS (IS I) a l := ⟨_, h, rfl, _, rfl⟩
inductive Ord where
  | push (s : Str) | var (x : Str) | ref (x : Str) | value | indirect | call (n : Nat) | item (n : Nat) | unary (op : Str) | binary (op : Str)
  | join | given | drop | fail | guard (n : Nat) | unguard | match_ | assign | replace | double
noncomputable def OrdItems : Ord → List Value → Prop
  | .push s, l => ∃ t u, l = [.str (ss "PUSH") t, .str s u]
  | .var x, l => ∃ t u, l = [.str (ss "VAR") t, .str x u]
  | .ref x, l => ∃ t u, l = [.str (ss "REF") t, .str x u]
  | .value, l => ∃ t, l = [.str (ss "VALUE") t]
  | .indirect, l => ∃ t, l = [.str (ss "INDIRECT") t]
  | .call n, l => ∃ t u v, l = [.str (ss "CALL") t, .str (ss "G") u, .int n v, .bool false]
  | .item n, l => ∃ t v, l = [.str (ss "ITEM") t, .int n v, .bool false]
  | .unary op, l => ∃ t u, l = [.str (ss "UNARY") t, .str op u]
  | .binary op, l => ∃ t u, l = [.str (ss "BINARY") t, .str op u]
  | .join, l => ∃ t, l = [.str (ss "JOIN") t]
  | .given, l => ∃ t u, l = [.str (ss "GIVEN") t, .str (ss ".") u]
  | .drop, l => ∃ t, l = [.str (ss "DROP") t]
  | .fail, l => ∃ t, l = [.str (ss "FAIL") t]
  | .guard n, l => ∃ t u, l = [.str (ss "GUARD") t, .int n u]
  | .unguard, l => ∃ t, l = [.str (ss "UNGUARD") t]
  | .match_, l => ∃ t, l = [.str (ss "MATCH") t]
  | .assign, l => ∃ t, l = [.str (ss "ASSIGN") t]
  | .replace, l => ∃ t, l = [.str (ss "REPLACE") t]
  | .double, l => ∃ t, l = [.str (ss "DOUBLE") t]
inductive OrdS (S : Sto) (v : Value) (o : Ord) : Prop
  | mk (a : Addr) (l : List Value) (e : v = .ref a) (t : TupS S a l) (i : OrdItems o l)
theorem OrdS.mono {S S' : Sto} (k : ∀ a o, S a o → S' a o) {v : Value} {o : Ord} (x : OrdS S v o) : OrdS S' v o := let ⟨a, l, e, t, i⟩ := x; ⟨a, l, e, t.mono k, i⟩
inductive OrdsS (S : Sto) : List Value → List Ord → Prop
  | nil : OrdsS S [] []
  | cons {v : Value} {o : Ord} {vs : List Value} {os : List Ord} (h : OrdS S v o) (r : OrdsS S vs os) : OrdsS S (v :: vs) (o :: os)
theorem OrdsS.mono {S S' : Sto} (k : ∀ a o, S a o → S' a o) {vs : List Value} {os : List Ord} (x : OrdsS S vs os) : OrdsS S' vs os := by
  induction x with
  | nil => exact .nil
  | cons h _ ih => exact .cons (h.mono k) ih
theorem OrdsS.append {S : Sto} {vs vs' : List Value} {os os' : List Ord} (x : OrdsS S vs os) (y : OrdsS S vs' os') : OrdsS S (vs ++ vs') (os ++ os') := by
  induction x with
  | nil => exact y
  | cons h _ ih => exact .cons h ih
theorem OrdsS.length {S : Sto} {vs : List Value} {os : List Ord} (x : OrdsS S vs os) : vs.length = os.length := by
  induction x with
  | nil => rfl
  | cons _ _ ih => simp [ih]
/-- a new list of orders, all of it new -/
inductive OrdsIn (I : List (Addr × Obj)) (r : Value) (os : List Ord) : Prop
  | mk (a : Addr) (vs : List Value) (n : Nat) (e : r = .ref a) (m : (a, lstO vs n) ∈ I) (o : OrdsS (IS I) vs os)
/-- the trees that the law draws, and the names that stand in them -/
inductive Tr where
  | name (x : Str) | text | join (l r : Tr) | plus (l r : Tr) | alt (l r : Tr) | dot (l : Tr)
  | neg (t : Tr) | quest (t : Tr) | dollar (t : Tr) | tilde (t : Tr)
  | item1 (o a : Tr) | item2 (o a b : Tr) | call0 | call1 (a : Tr) | call2 (a b : Tr)
noncomputable def NameS (S : Sto) (v : Value) (x : Str) : Prop := ∃ a t u, v = .ref a ∧ TupS S a [.str (ss "name") t, .str x u]
noncomputable def TreeS (S : Sto) : Value → Tr → Prop
  | v, .name x => NameS S v x
  | v, .text => ∃ a t u, v = .ref a ∧ TupS S a [.str (ss "text") t, .str (ss "t") u]
  | v, .join l r => ∃ a t vl vr, v = .ref a ∧ TupS S a [.str (ss "join") t, vl, vr] ∧ TreeS S vl l ∧ TreeS S vr r
  | v, .plus l r => ∃ a t u vl vr, v = .ref a ∧ TupS S a [.str (ss "binary") t, .str (ss "+") u, vl, vr] ∧ TreeS S vl l ∧ TreeS S vr r
  | v, .alt l r => ∃ a t u vl vr, v = .ref a ∧ TupS S a [.str (ss "binary") t, .str (ss "|") u, vl, vr] ∧ TreeS S vl l ∧ TreeS S vr r
  | v, .dot l => ∃ a t u vl vr, v = .ref a ∧ TupS S a [.str (ss "binary") t, .str (ss ".") u, vl, vr] ∧ TreeS S vl l ∧ NameS S vr (ss "B")
  | v, .neg x => ∃ a t u vx, v = .ref a ∧ TupS S a [.str (ss "unary") t, .str (ss "-") u, vx] ∧ TreeS S vx x
  | v, .quest x => ∃ a t u vx, v = .ref a ∧ TupS S a [.str (ss "unary") t, .str (ss "?") u, vx] ∧ TreeS S vx x
  | v, .dollar x => ∃ a t u vx, v = .ref a ∧ TupS S a [.str (ss "unary") t, .str (ss "$") u, vx] ∧ TreeS S vx x
  | v, .tilde x => ∃ a t u vx, v = .ref a ∧ TupS S a [.str (ss "unary") t, .str (ss "~") u, vx] ∧ TreeS S vx x
  | v, .item1 o x => ∃ a t k vo vx, v = .ref a ∧ TupS S a [.str (ss "item") t, vo, .ref k] ∧ TupS S k [vx] ∧ TreeS S vo o ∧ TreeS S vx x
  | v, .item2 o x y => ∃ a t k vo vx vy, v = .ref a ∧ TupS S a [.str (ss "item") t, vo, .ref k] ∧ TupS S k [vx, vy] ∧ TreeS S vo o ∧ TreeS S vx x ∧ TreeS S vy y
  | v, .call0 => ∃ a t u k, v = .ref a ∧ TupS S a [.str (ss "call") t, .str (ss "G") u, .ref k] ∧ TupS S k []
  | v, .call1 x => ∃ a t u k vx, v = .ref a ∧ TupS S a [.str (ss "call") t, .str (ss "G") u, .ref k] ∧ TupS S k [vx] ∧ TreeS S vx x
  | v, .call2 x y => ∃ a t u k vx vy, v = .ref a ∧ TupS S a [.str (ss "call") t, .str (ss "G") u, .ref k] ∧ TupS S k [vx, vy] ∧ TreeS S vx x ∧ TreeS S vy y
theorem NameS.mono {S S' : Sto} (k : ∀ a o, S a o → S' a o) {v : Value} {x : Str} (y : NameS S v x) : NameS S' v x := let ⟨a, t, u, e, z⟩ := y; ⟨a, t, u, e, z.mono k⟩
theorem TupS.mono' {S S' : Sto} (k : ∀ a o, S a o → o.cls = .type "tuple" → S' a o) {a : Addr} {l : List Value} (x : TupS S a l) : TupS S' a l := let ⟨o, e, c, r⟩ := x; ⟨o, k _ _ e c, c, r⟩
theorem NameS.mono' {S S' : Sto} (k : ∀ a o, S a o → o.cls = .type "tuple" → S' a o) {v : Value} {x : Str} (y : NameS S v x) : NameS S' v x := let ⟨a, t, u, e, z⟩ := y; ⟨a, t, u, e, z.mono' k⟩
theorem TreeS.mono' {S S' : Sto} (k : ∀ a o, S a o → o.cls = .type "tuple" → S' a o) : ∀ {t : Tr} {v : Value}, TreeS S v t → TreeS S' v t := by
  intro t
  induction t with
  | name x => intro v h; exact NameS.mono' k h
  | text => rintro v ⟨a, t, u, e, z⟩; exact ⟨a, t, u, e, z.mono' k⟩
  | join l r i0 i1 => rintro v ⟨a, t, vl, vr, e, z, x0, x1⟩; exact ⟨a, t, vl, vr, e, z.mono' k, i0 x0, i1 x1⟩
  | plus l r i0 i1 => rintro v ⟨a, t, u, vl, vr, e, z, x0, x1⟩; exact ⟨a, t, u, vl, vr, e, z.mono' k, i0 x0, i1 x1⟩
  | alt l r i0 i1 => rintro v ⟨a, t, u, vl, vr, e, z, x0, x1⟩; exact ⟨a, t, u, vl, vr, e, z.mono' k, i0 x0, i1 x1⟩
  | dot l i0 => rintro v ⟨a, t, u, vl, vr, e, z, x0, x1⟩; exact ⟨a, t, u, vl, vr, e, z.mono' k, i0 x0, x1.mono' k⟩
  | neg x i0 => rintro v ⟨a, t, u, vx, e, z, x0⟩; exact ⟨a, t, u, vx, e, z.mono' k, i0 x0⟩
  | quest x i0 => rintro v ⟨a, t, u, vx, e, z, x0⟩; exact ⟨a, t, u, vx, e, z.mono' k, i0 x0⟩
  | dollar x i0 => rintro v ⟨a, t, u, vx, e, z, x0⟩; exact ⟨a, t, u, vx, e, z.mono' k, i0 x0⟩
  | tilde x i0 => rintro v ⟨a, t, u, vx, e, z, x0⟩; exact ⟨a, t, u, vx, e, z.mono' k, i0 x0⟩
  | item1 o x i0 i1 => rintro v ⟨a, t, c, vo, vx, e, z, z', x0, x1⟩; exact ⟨a, t, c, vo, vx, e, z.mono' k, z'.mono' k, i0 x0, i1 x1⟩
  | item2 o x y i0 i1 i2 => rintro v ⟨a, t, c, vo, vx, vy, e, z, z', x0, x1, x2⟩; exact ⟨a, t, c, vo, vx, vy, e, z.mono' k, z'.mono' k, i0 x0, i1 x1, i2 x2⟩
  | call0 => rintro v ⟨a, t, u, c, e, z, z'⟩; exact ⟨a, t, u, c, e, z.mono' k, z'.mono' k⟩
  | call1 x i0 => rintro v ⟨a, t, u, c, vx, e, z, z', x0⟩; exact ⟨a, t, u, c, vx, e, z.mono' k, z'.mono' k, i0 x0⟩
  | call2 x y i0 i1 => rintro v ⟨a, t, u, c, vx, vy, e, z, z', x0, x1⟩; exact ⟨a, t, u, c, vx, vy, e, z.mono' k, z'.mono' k, i0 x0, i1 x1⟩
theorem TreeS.mono {S S' : Sto} (k : ∀ a o, S a o → S' a o) {t : Tr} {v : Value} (h : TreeS S v t) : TreeS S' v t := TreeS.mono' (fun a o e _ => k a o e) h
noncomputable def Tr.orders : Tr → List Ord
  | .name x => [.var x]
  | .text => [.push (ss "t")]
  | .join l r => l.orders ++ r.orders ++ [.join]
  | .plus l r => l.orders ++ r.orders ++ [.binary (ss "+")]
  | .alt l r => l.orders ++ r.orders ++ [.binary (ss "|")]
  | .dot l => l.orders ++ [.ref (ss "B")] ++ [.given]
  | .neg t => t.orders ++ [.unary (ss "-")]
  | .quest t => t.orders ++ [.drop, .push (ss "")]
  | .dollar t => t.orders ++ [.indirect, .value]
  | .tilde t => [.guard (t.orders.length + 3)] ++ t.orders ++ [.unguard, .fail, .push (ss "")]
  | .item1 o a => o.orders ++ a.orders ++ [.item 1]
  | .item2 o a b => o.orders ++ (a.orders ++ b.orders) ++ [.item 2]
  | .call0 => [.call 0]
  | .call1 a => a.orders ++ [.call 1]
  | .call2 a b => a.orders ++ b.orders ++ [.call 2]
theorem Tr.orders_name {x : Str} : Tr.orders (.name x) = ([.var x] : List Ord) := rfl
theorem Tr.orders_text : Tr.orders (.text) = ([.push (ss "t")] : List Ord) := rfl
theorem Tr.orders_join {l r : Tr} : Tr.orders (.join l r) = (l.orders ++ r.orders ++ [.join] : List Ord) := rfl
theorem Tr.orders_plus {l r : Tr} : Tr.orders (.plus l r) = (l.orders ++ r.orders ++ [.binary (ss "+")] : List Ord) := rfl
theorem Tr.orders_alt {l r : Tr} : Tr.orders (.alt l r) = (l.orders ++ r.orders ++ [.binary (ss "|")] : List Ord) := rfl
theorem Tr.orders_dot {l : Tr} : Tr.orders (.dot l) = (l.orders ++ [.ref (ss "B")] ++ [.given] : List Ord) := rfl
theorem Tr.orders_neg {t : Tr} : Tr.orders (.neg t) = (t.orders ++ [.unary (ss "-")] : List Ord) := rfl
theorem Tr.orders_quest {t : Tr} : Tr.orders (.quest t) = (t.orders ++ [.drop, .push (ss "")] : List Ord) := rfl
theorem Tr.orders_dollar {t : Tr} : Tr.orders (.dollar t) = (t.orders ++ [.indirect, .value] : List Ord) := rfl
theorem Tr.orders_tilde {t : Tr} : Tr.orders (.tilde t) = ([.guard (t.orders.length + 3)] ++ t.orders ++ [.unguard, .fail, .push (ss "")] : List Ord) := rfl
theorem Tr.orders_item1 {o a : Tr} : Tr.orders (.item1 o a) = (o.orders ++ a.orders ++ [.item 1] : List Ord) := rfl
theorem Tr.orders_item2 {o a b : Tr} : Tr.orders (.item2 o a b) = (o.orders ++ (a.orders ++ b.orders) ++ [.item 2] : List Ord) := rfl
theorem Tr.orders_call0 : Tr.orders (.call0) = ([.call 0] : List Ord) := rfl
theorem Tr.orders_call1 {a : Tr} : Tr.orders (.call1 a) = (a.orders ++ [.call 1] : List Ord) := rfl
theorem Tr.orders_call2 {a b : Tr} : Tr.orders (.call2 a b) = (a.orders ++ b.orders ++ [.call 2] : List Ord) := rfl
noncomputable def Tr.ht : Tr → Nat
  | .name _ | .text => 0
  | .call0 => 1
  | .join l r | .plus l r | .alt l r => max l.ht r.ht + 1
  | .dot t | .neg t | .quest t | .dollar t | .tilde t | .call1 t => t.ht + 1
  | .item1 o a => max o.ht a.ht + 1
  | .call2 a b => max a.ht b.ht + 1
  | .item2 o a b => max o.ht (max a.ht b.ht) + 1
theorem Tr.ht_name {x : Str} : Tr.ht (.name x) = (0 : Nat) := rfl
theorem Tr.ht_text : Tr.ht (.text) = (0 : Nat) := rfl
theorem Tr.ht_join {l r : Tr} : Tr.ht (.join l r) = (max l.ht r.ht + 1 : Nat) := rfl
theorem Tr.ht_plus {l r : Tr} : Tr.ht (.plus l r) = (max l.ht r.ht + 1 : Nat) := rfl
theorem Tr.ht_alt {l r : Tr} : Tr.ht (.alt l r) = (max l.ht r.ht + 1 : Nat) := rfl
theorem Tr.ht_dot {t : Tr} : Tr.ht (.dot t) = (t.ht + 1 : Nat) := rfl
theorem Tr.ht_neg {t : Tr} : Tr.ht (.neg t) = (t.ht + 1 : Nat) := rfl
theorem Tr.ht_quest {t : Tr} : Tr.ht (.quest t) = (t.ht + 1 : Nat) := rfl
theorem Tr.ht_dollar {t : Tr} : Tr.ht (.dollar t) = (t.ht + 1 : Nat) := rfl
theorem Tr.ht_tilde {t : Tr} : Tr.ht (.tilde t) = (t.ht + 1 : Nat) := rfl
theorem Tr.ht_item1 {o a : Tr} : Tr.ht (.item1 o a) = (max o.ht a.ht + 1 : Nat) := rfl
theorem Tr.ht_item2 {o a b : Tr} : Tr.ht (.item2 o a b) = (max o.ht (max a.ht b.ht) + 1 : Nat) := rfl
theorem Tr.ht_call0 : Tr.ht (.call0) = (1 : Nat) := rfl
theorem Tr.ht_call1 {t : Tr} : Tr.ht (.call1 t) = (t.ht + 1 : Nat) := rfl
theorem Tr.ht_call2 {a b : Tr} : Tr.ht (.call2 a b) = (max a.ht b.ht + 1 : Nat) := rfl
theorem newsI {g h : Heap} {L : Addr} {I : List (Addr × Obj)} (N : News g L h I) : ∀ p ∈ I, h.get? p.1 = some p.2 ∧ g.get? p.1 = none := fun p hp => ⟨(N p hp).1, (N p hp).2.2⟩
theorem News.put {g h : Heap} {L : Addr} {I : List (Addr × Obj)} {q : Addr × Obj} (N : News g L h I) (m : q ∈ I) : News g L h (q :: I) := fun p hp => by
  rcases List.mem_cons.mp hp with rfl | hp
  · exact N _ m
  · exact N _ hp
theorem News.sub {g h : Heap} {L : Addr} {I J : List (Addr × Obj)} (N : News g L h I) (m : ∀ p ∈ J, p ∈ I) : News g L h J := fun p hp => N p (m p hp)
theorem use_pure {w : World} {A : Around} {s : Shared} {Q E : Value → Shared → Prop} {f : Addr} {vs : List Value} {d u : Nat} {Pre : Heap → Prop} {Post : Heap → List (Addr × Obj) → Value → Prop}
    {g : Heap} {L : Addr} {m : Str → Option Value} {news : List (Addr × Obj)} {loose : List Str} {mean : ExcName → Option Value} {mg mb : Str → Option Value}
    (C : PCon w f vs d u Pre Post) (hh : A.handled = none) (hd : A.depth + d < recursionLimit) (hu : A.units + u < cLine) (X : (K w.params).In g) (T : Top topProg loose mean mg mb g)
    (F : Fr g L s.heap m) (N : News g L s.heap news) (pre : Pre s.heap)
    (k : let P := Q; ∀ r h' tk I, Fr g L h' m → News g L h' (news ++ I) → (∀ p ∈ I, ∀ q ∈ news, q.1 ≠ p.1) → Post s.heap I r → P r { s with heap := h', toks := tk }) :
    Stop (wpAny (model PG w) A (call (.ref f) vs) Q E s) := by
  refine C A s Q E hh hd hu ⟨X.keeps F.keep, _, _, _, _, T.keeps F.keep⟩ pre fun r h' tk I st hI hp => k r h' tk I (F.keeps st) (fun p hp => ?_) (fun p hp q hq e => ?_) hp
  · rcases List.mem_append.mp hp with hp | hp
    · exact ⟨st _ _ (N p hp).1, (N p hp).2⟩
    · refine ⟨(hI p hp).1, fun e => ?_, ?_⟩
      · obtain ⟨o, _, _, ho, _⟩ := F.ns
        have := (hI p hp).2
        rw [e, ho] at this; cases this
      · cases q : g.get? p.1 with
        | none => rfl
        | some o => have := F.keep _ _ q; rw [(hI p hp).2] at this; cases this
  · have := (hI p hp).2
    rw [← e, (N q hq).1] at this; cases this
/-- what is in the base or on the ledger stands in the heap -/
theorem tree_heap {g h : Heap} {L : Addr} {m : Str → Option Value} (F : Fr g L h m) {v : Value} {t : Tr} (x : TreeS (HS g) v t) : TreeS (HS h) v t := x.mono fun a o e => F.keep a o e
theorem name_heap {g h : Heap} {L : Addr} {m : Str → Option Value} (F : Fr g L h m) {v : Value} {t : Str} (x : NameS (HS g) v t) : NameS (HS h) v t := x.mono fun a o e => F.keep a o e
/-- what value_orders tells of a tree -/
noncomputable def VC (w : World) (t : Tr) : Prop := t.orders.length ≤ 1000000 → ∀ v, PCon w 72 [v] (5 * t.ht + 5) (50 * t.ht + 100) (fun h => TreeS (HS h) v t) (fun _ I r => OrdsIn I r t.orders)
theorem add_two {prog : Program} {w : World} {A : Around} {E : Value → Shared → Prop} {s : Shared} {h₀ : Heap} {L : Addr} {m : Str → Option Value} {news : List (Addr × Obj)} {l b : Addr} {vs ws : List Value} {Q : Value → Shared → Prop}
    (F : Fr h₀ L s.heap m) (N : News h₀ L s.heap news) (hl : s.heap.IsList l vs.toArray) (hb : s.heap.IsList b ws.toArray) (hz : vs.length + ws.length ≤ sizeLine)
    (h : ∀ D h', Fr h₀ L h' m → News h₀ L h' ((D, lstO (vs ++ ws) 0) :: news) → (∀ p ∈ news, p.1 < D) → Q (.ref D) { s with heap := h' }) :
    wpAny (model prog w) A (binaryOp .Add (.ref l) (.ref b)) Q E s :=
  add_lists (hsz := hz) F N hl hb fun h' F' N' => h _ _ F' N' fun p hp => Heap.lt_size (N p hp).1
inductive TreesS (S : Sto) : List Value → List Tr → Prop
  | nil : TreesS S [] []
  | cons {v : Value} {t : Tr} {vs : List Value} {ts : List Tr} (h : TreeS S v t) (r : TreesS S vs ts) : TreesS S (v :: vs) (t :: ts)
theorem TreesS.mono {S S' : Sto} (k : ∀ a o, S a o → S' a o) {vs : List Value} {ts : List Tr} (x : TreesS S vs ts) : TreesS S' vs ts := by
  induction x with
  | nil => exact .nil
  | cons h _ ih => exact .cons (h.mono k) ih
theorem TreesS.length {S : Sto} {vs : List Value} {ts : List Tr} (x : TreesS S vs ts) : vs.length = ts.length := by
  induction x with
  | nil => rfl
  | cons _ _ ih => simp [ih]
theorem TreesS.get {S : Sto} {vs : List Value} {ts : List Tr} (x : TreesS S vs ts) : ∀ {i : Nat} {v : Value}, vs[i]? = some v → ∃ t, ts[i]? = some t ∧ TreeS S v t := by
  induction x with
  | nil => intro i v h; simp at h
  | cons h _ ih =>
    intro i v hv
    cases i with
    | zero => simp at hv; subst hv; exact ⟨_, rfl, h⟩
    | succ i => simpa using ih (by simpa using hv)
theorem flat_take {α β : Type} (f : α → List β) : ∀ (l : List α) (i : Nat) (a : α), l[i]? = some a → (l.take (i + 1)).flatMap f = (l.take i).flatMap f ++ f a
  | [], i, a, h => by simp at h
  | x :: r, 0, a, h => by simp at h; subst h; simp
  | x :: r, i + 1, a, h => by
    have := flat_take f r i a (by simpa using h)
    simp only [List.take_succ_cons, List.flatMap_cons, this, List.append_assoc]
theorem flat_len {α β : Type} (f : α → List β) : ∀ (l : List α) (i : Nat), ((l.take i).flatMap f).length ≤ (l.flatMap f).length
  | [], i => by simp
  | x :: r, 0 => by simp
  | x :: r, i + 1 => by
    have := flat_len f r i
    simp only [List.take_succ_cons, List.flatMap_cons, List.length_append]
    omega
theorem flat_one {α β : Type} (f : α → List β) : ∀ (l : List α) (a : α), a ∈ l → (f a).length ≤ (l.flatMap f).length
  | x :: r, a, h => by
    simp only [List.flatMap_cons, List.length_append]
    rcases List.mem_cons.mp h with rfl | h
    · omega
    · have := flat_one f r a h; omega
theorem max_two {prog : Program} {w : World} {A : Around} {E : Value → Shared → Prop} {s : Shared} {h₀ : Heap} {L : Addr} {m : Str → Option Value} {news : List (Addr × Obj)} {a b : Int} {t u : Tok} {Q : Value → Shared → Prop} (hh : A.handled = none) (F : Fr h₀ L s.heap m) (N : News h₀ L s.heap news)
    (h : ∀ h' tk t', Fr h₀ L h' m → News h₀ L h' news → Q (.int (max a b) t') { s with heap := h', toks := tk }) :
    wpAny (model prog w) A (call (.builtin "max") [.int a t, .int b u]) Q E s :=
  max_two_N hh F N fun h' tk F' N' => by
    have e : (if b > a then b else a) = max a b := by split <;> omega
    rw [e]
    exact h h' tk _ F' N'
noncomputable def Tr.parts : Tr → List Tr
  | .name _ | .text | .call0 => []
  | .join l r | .plus l r | .alt l r => [l, r]
  | .dot l => [l, .name (ss "B")]
  | .neg t | .quest t | .dollar t | .tilde t | .call1 t => [t]
  | .item1 o a => [o, a]
  | .item2 o a b => [o, a, b]
  | .call2 a b => [a, b]
theorem Tr.parts_name {x : Str} : Tr.parts (.name x) = ([] : List Tr) := rfl
theorem Tr.parts_text : Tr.parts (.text) = ([] : List Tr) := rfl
theorem Tr.parts_join {l r : Tr} : Tr.parts (.join l r) = ([l, r] : List Tr) := rfl
theorem Tr.parts_plus {l r : Tr} : Tr.parts (.plus l r) = ([l, r] : List Tr) := rfl
theorem Tr.parts_alt {l r : Tr} : Tr.parts (.alt l r) = ([l, r] : List Tr) := rfl
theorem Tr.parts_dot {l : Tr} : Tr.parts (.dot l) = ([l, .name (ss "B")] : List Tr) := rfl
theorem Tr.parts_neg {t : Tr} : Tr.parts (.neg t) = ([t] : List Tr) := rfl
theorem Tr.parts_quest {t : Tr} : Tr.parts (.quest t) = ([t] : List Tr) := rfl
theorem Tr.parts_dollar {t : Tr} : Tr.parts (.dollar t) = ([t] : List Tr) := rfl
theorem Tr.parts_tilde {t : Tr} : Tr.parts (.tilde t) = ([t] : List Tr) := rfl
theorem Tr.parts_item1 {o a : Tr} : Tr.parts (.item1 o a) = ([o, a] : List Tr) := rfl
theorem Tr.parts_item2 {o a b : Tr} : Tr.parts (.item2 o a b) = ([o, a, b] : List Tr) := rfl
theorem Tr.parts_call0 : Tr.parts (.call0) = ([] : List Tr) := rfl
theorem Tr.parts_call1 {t : Tr} : Tr.parts (.call1 t) = ([t] : List Tr) := rfl
theorem Tr.parts_call2 {a b : Tr} : Tr.parts (.call2 a b) = ([a, b] : List Tr) := rfl
end
section
noncomputable def FPost (g : Heap) (L : Addr) (s : Shared) (I : Addr) (oI : Obj) (J : (Str → Option Value) → List (Addr × Obj) → Prop) (Q : Flow → Shared → Prop) (f : Flow) (s₃ : Shared) : Prop :=
  match f with
  | .brk => Q .next s₃
  | .ret v => Q (.ret v) s₃
  | _ => ∃ h' tk' m' nx', s₃ = { s with heap := h', toks := tk' } ∧ Fr g L h' m' ∧ News g L h' ((I, oI) :: nx') ∧ (∀ p ∈ nx', p.1 ≠ I) ∧ J m' nx'
theorem FPost.next {g : Heap} {L : Addr} {s : Shared} {I : Addr} {oI : Obj} {J : (Str → Option Value) → List (Addr × Obj) → Prop} {Q : Flow → Shared → Prop} {h' : Heap} {tk' : Nat} {m' : Str → Option Value} {all nx' : List (Addr × Obj)}
    (F : Fr g L h' m') (N : News g L h' all) (sub : ∀ p ∈ (I, oI) :: nx', p ∈ all) (off : ∀ p ∈ nx', p.1 ≠ I) (j : J m' nx') : FPost g L s I oI J Q .next { s with heap := h', toks := tk' } :=
  ⟨h', tk', m', nx', rfl, F, fun p hp => N p (sub p hp), off, j⟩
/-- a for over what an iterator hands out, by what holds of the frame and the ledger between the turns -/
inductive ForI (g : Heap) (L : Addr) (s : Shared) (I : Addr) (n : Nat) (St : Nat → Heap → Prop) (J : Nat → (Str → Option Value) → List (Addr × Obj) → Prop) (k : Nat) (s' : Shared) : Prop
  | mk (i : Nat) (h : Heap) (tk : Nat) (m : Str → Option Value) (nx : List (Addr × Obj)) (es : s' = { s with heap := h, toks := tk }) (hi : i ≤ n) (hk : k = n - i) (st : St i h) (F : Fr g L h m) (N : News g L h nx) (off : ∀ p ∈ nx, p.1 ≠ I) (j : J i m nx)
theorem for_loop {prog : Program} {w : World} {A : Around} {env : Env} {x : Str} {px : Pos} {body : List Stmt} {s : Shared} {Q : Flow → Shared → Prop} {I : Addr} {fp : List Addr} {n : Nat} {P : Nat → Value → Prop} {St : Nat → Heap → Prop}
    {g : Heap} {L : Addr} {m : Str → Option Value} {news : List (Addr × Obj)} (W : Walks prog w A I fp [I] n P St) (J : Nat → (Str → Option Value) → List (Addr × Obj) → Prop)
    (hIL : L ≠ I) (hgI : g.get? I = none) (hIo : ∀ i h, St i h → ∃ o, h.get? I = some o)
    (hfp : ∀ b ∈ fp, b = I ∨ (∃ o, g.get? b = some o) ∨ ∃ o, ∀ i m nx, J i m nx → (b, o) ∈ nx)
    (F : Fr g L s.heap m) (N : News g L s.heap news) (off : ∀ p ∈ news, p.1 ≠ I) (j : J 0 m news) (st : St 0 s.heap)
    (turn : ∀ i v m nx h tk oI, i < n → P i v → J i m nx → Fr g L h m → News g L h ((I, oI) :: nx) → (∀ p ∈ nx, p.1 ≠ I) →
      wpAny (model prog w) A (assign (.Name x px) env v) (fun _ s₂ => wpAny (model prog w) A (execs body env) (FPost g L s I oI (J (i + 1)) Q) (fun _ _ => False) s₂) (fun _ _ => False) { s with heap := h, toks := tk })
    (done : ∀ m nx h tk, J n m nx → Fr g L h m → News g L h nx → Q .next { s with heap := h, toks := tk }) :
    codeAny (model prog w) A (.forLoop (.Name x px) (.ref I) body [] env) (fun r s' => match r with | .ok f => Q f s' | .error _ => False) s := by
  have nocare : ∀ {e : Value} {s' : Shared} {P : Prop}, False → P := fun h => h.elim
  refine codeAny_forLoop_any (ForI g L s I n St J) ?_ n
    ⟨0, s.heap, s.toks, m, news, rfl, Nat.zero_le _, rfl, st, F, N, off, j⟩
  rintro k s' ⟨i, h, tk, m, nx, rfl, hi, rfl, st, F, N, off, j⟩
  by_cases hlt : i < n
  · refine W.item i _ _ _ hlt st fun v h' tk' hP hst' hk => ?_
    have F' := LCg.fr_but F hk hIL hgI
    have N' := LCg.news_but N hk off
    obtain ⟨oI, heI⟩ := hIo _ _ hst'
    show wpAny _ A (letOwnedTupleGo (.Name x px) (.ref I) v) _ _ _
    refine wpAny_pure (a := ()) ?_
    refine wpAny_mono (turn i v m nx h' tk' oI hlt hP j F' (fun p hp => ?_) off) (fun _ s₂ h₂ => wpAny_mono h₂ (fun f s₃ h₃ => ?_) fun _ _ e => e.elim) fun _ _ e => e.elim
    · rcases List.mem_cons.mp hp with rfl | hp
      · exact ⟨heI, Ne.symm hIL, hgI⟩
      · exact N' p hp
    · have go : (∃ h' tk' m' nx', s₃ = { s with heap := h', toks := tk' } ∧ Fr g L h' m' ∧ News g L h' ((I, oI) :: nx') ∧ (∀ p ∈ nx', p.1 ≠ I) ∧ J (i + 1) m' nx') →
          ∃ k', k' < n - i ∧ ForI g L s I n St J k' s₃ := by
        rintro ⟨h₄, tk₄, m₄, nx₄, rfl, F₄, N₄, off₄, j₄⟩
        refine ⟨n - (i + 1), by first | exact Nat.sub_lt_sub_left ‹_› (Nat.lt_succ_self i) | omega, i + 1, h₄, tk₄, m₄, nx₄, rfl, hlt, rfl, W.frame _ _ _ hst' fun b hb o e => ?_, F₄, fun p hp => N₄ p (.tail _ hp), off₄, j₄⟩
        by_cases hbI : b = I
        · subst hbI
          rw [heI] at e; cases e
          exact (N₄ _ (.head _)).1
        · rcases hfp b hb with q | ⟨o', q⟩ | ⟨o', q⟩
          · exact absurd q hbI
          · have := F'.keep _ _ q
            rw [this] at e; cases e
            exact F₄.keep _ _ q
          · have := (N' _ (q _ _ _ j)).1
            rw [this] at e; cases e
            exact (N₄ _ (.tail _ (q _ _ _ j₄))).1
      cases f with
      | next => exact go h₃
      | cont => exact go h₃
      | brk => exact h₃
      | ret v => exact h₃
  · obtain rfl : i = n := Nat.le_antisymm hi (Nat.not_lt.mp hlt)
    refine W.done _ _ _ st fun h' tk' hk => ?_
    exact wpAny_execs_nil (done m nx h' tk' j (LCg.fr_but F hk hIL hgI) (LCg.news_but N hk off))
theorem codeAny_noErr {M : Model} {A : Around} {c : Code} {s : Shared} {Q : Flow → Shared → Prop} {E : Value → Shared → Prop}
    (h : codeAny M A c (fun r s' => match r with | .ok f => Q f s' | .error _ => False) s) : codeAny M A c (fun r s' => match r with | .ok f => Q f s' | .error e => E e s') s :=
  codeAny_mono h fun r s' x => by cases r with | ok f => exact x | error e => exact x.elim
section
variable {prog : Program} {w : World} {A : Around} {cn : Str} {cs : Scope} {a : Addr} {cd : Value} {x y : Str} {px py pos : Pos} {body : List Stmt} {s : Shared} {Q : Flow → Shared → Prop}
    {g : Heap} {L : Addr} {m : Str → Option Value} {news : List (Addr × Obj)} {ax : Addr} {items : Array Value}
/-- for x in y, y a tuple of the base -/
theorem for_tuple (J : Nat → (Str → Option Value) → List (Addr × Obj) → Prop) (hh : A.handled = none) (F : Fr g L s.heap m) (N : News g L s.heap news) (hy : m y = some (.ref ax)) (hT : IsTup g ax items)
    (hk : cs.kind = .function) (hl : (envOf cn cs L a cd).kindOf y = some .local) (hd : (y == ("__debug__" : Str)) = false) (j : J 0 m news)
    (turn : ∀ i v m nx h tk I oI, items[i]? = some v → J i m nx → Fr g L h m → News g L h ((I, oI) :: nx) → (∀ p ∈ nx, p.1 ≠ I) →
      wpAny (model prog w) A (assign (.Name x px) (envOf cn cs L a cd) v) (fun _ s₂ => wpAny (model prog w) A (execs body (envOf cn cs L a cd)) (FPost g L s I oI (J (i + 1)) Q) (fun _ _ => False) s₂) (fun _ _ => False) { s with heap := h, toks := tk })
    (done : ∀ m nx h tk, J items.size m nx → Fr g L h m → News g L h nx → Q .next { s with heap := h, toks := tk }) :
    wpAny (model prog w) A (exec (.For (.Name x px) (.Name y py) body [] pos) (envOf cn cs L a cd)) Q (fun _ _ => False) s := by
  refine wpAny_For (ld F hy ?_ hk hl hd) (fun _ => rfl)
  have hT' : s.heap.IsTuple ax items := hT.keeps F.keep
  have hlt : ax < s.heap.objs.size := by obtain ⟨o, e, _⟩ := hT'; exact Heap.lt_size e
  obtain ⟨oT, eT, _⟩ := id hT
  refine wpAny_pyIter_tuple hT' (codeAny_noErr ?_)
  have up : ∀ b o, s.heap.get? b = some o → (s.heap.push { cls := .type "tuple_iterator", data := .fields #[.ref ax, .int 0 0] }).get? b = some o := fun b o e => Heap.get?_push_of_some _ e
  refine for_loop (s := { s with heap := s.heap.push { cls := .type "tuple_iterator", data := .fields #[.ref ax, .int 0 0] } }) (Walks.tuple hh s.heap.objs.size ax (Nat.ne_of_lt hlt) items) J (Nat.ne_of_lt F.ns.lt) (next_is_new F) (fun i h st => by obtain ⟨o, e, _⟩ := st.1; exact ⟨o, e⟩) (fun b hb => ?_) (F.keeps up) (N.grown up)
    (fun p hp => Nat.ne_of_lt (Heap.lt_size (N p hp).1)) j ⟨⟨_, Heap.get?_push_size _ rfl, rfl, rfl⟩, IsTup.keeps hT' up⟩ (fun i v m nx h tk oI hi hP j F N off => ?_) fun m nx h tk j F N => done m nx h tk j F N
  · simp only [List.mem_cons, List.not_mem_nil, or_false] at hb
    rcases hb with rfl | rfl
    · exact .inl rfl
    · exact .inr (.inl ⟨_, eT⟩)
  · exact turn i v m nx h tk _ oI hP j F N off
/-- for x in y, y a list of the base -/
theorem for_list (J : Nat → (Str → Option Value) → List (Addr × Obj) → Prop) (hh : A.handled = none) (F : Fr g L s.heap m) (N : News g L s.heap news) (hy : m y = some (.ref ax)) (hT : g.IsList ax items)
    (hk : cs.kind = .function) (hl : (envOf cn cs L a cd).kindOf y = some .local) (hd : (y == ("__debug__" : Str)) = false) (j : J 0 m news)
    (turn : ∀ i v m nx h tk I oI, items[i]? = some v → J i m nx → Fr g L h m → News g L h ((I, oI) :: nx) → (∀ p ∈ nx, p.1 ≠ I) →
      wpAny (model prog w) A (assign (.Name x px) (envOf cn cs L a cd) v) (fun _ s₂ => wpAny (model prog w) A (execs body (envOf cn cs L a cd)) (FPost g L s I oI (J (i + 1)) Q) (fun _ _ => False) s₂) (fun _ _ => False) { s with heap := h, toks := tk })
    (done : ∀ m nx h tk, J items.size m nx → Fr g L h m → News g L h nx → Q .next { s with heap := h, toks := tk }) :
    wpAny (model prog w) A (exec (.For (.Name x px) (.Name y py) body [] pos) (envOf cn cs L a cd)) Q (fun _ _ => False) s := by
  refine wpAny_For (ld F hy ?_ hk hl hd) (fun _ => rfl)
  have hT' : s.heap.IsList ax items := hT.at fun o e => F.keep ax o e
  have hlt : ax < s.heap.objs.size := by obtain ⟨o, e, _⟩ := hT'; exact Heap.lt_size e
  obtain ⟨oT, eT, _⟩ := id hT
  refine wpAny_pyIter_list hT' (codeAny_noErr ?_)
  have up : ∀ b o, s.heap.get? b = some o → (s.heap.push { cls := .type "list_iterator", data := .fields #[.ref ax, .int 0 0] }).get? b = some o := fun b o e => Heap.get?_push_of_some _ e
  refine for_loop (s := { s with heap := s.heap.push { cls := .type "list_iterator", data := .fields #[.ref ax, .int 0 0] } }) (Walks.list hh s.heap.objs.size ax (Nat.ne_of_lt hlt) items) J (Nat.ne_of_lt F.ns.lt) (next_is_new F) (fun i h st => by obtain ⟨o, e, _⟩ := st.1; exact ⟨o, e⟩) (fun b hb => ?_) (F.keeps up) (N.grown up)
    (fun p hp => Nat.ne_of_lt (Heap.lt_size (N p hp).1)) j ⟨⟨_, Heap.get?_push_size _ rfl, rfl, rfl⟩, hT'.push _⟩ (fun i v m nx h tk oI hi hP j F N off => ?_) fun m nx h tk j F N => done m nx h tk j F N
  · simp only [List.mem_cons, List.not_mem_nil, or_false] at hb
    rcases hb with rfl | rfl
    · exact .inl rfl
    · exact .inr (.inl ⟨_, eT⟩)
  · exact turn i v m nx h tk _ oI hP j F N off
end
theorem upd_self (m : Str → Option Value) (x : Str) : m = fun y => if y = x then m x else m y := by
  funext y
  by_cases h : y = x
  · subst h; simp
  · simp [h]
theorem upd_upd (m : Str → Option Value) (x : Str) (u v : Option Value) : (fun y => if y = x then v else (fun y => if y = x then u else m y) y) = fun y => if y = x then v else m y := by
  funext y
  by_cases h : y = x
  · simp [h]
  · simp [h]
end
section
noncomputable abbrev ads (own : List (Addr × Obj)) : List Addr := own.map (·.1)
/-- a call that may change the objects of `own`: what of them and of new ones stands behind it is told -/
noncomputable def OCon (w : World) (f : Addr) (vs : List Value) (own : List (Addr × Obj)) (d u : Nat) (Pre : Heap → Prop) (Post : Value → List (Addr × Obj) → Prop) : Prop :=
  ∀ (A : Around) (s : Shared) (Q E : Value → Shared → Prop), A.handled = none → A.depth + d < recursionLimit → A.units + u < cLine → Gd w (hideAll s.heap (ads own)) → (∀ p ∈ own, s.heap.get? p.1 = some p.2) → Pre (hideAll s.heap (ads own)) →
    (∀ v h' tk own', StB (ads own) s.heap h' → (∀ p ∈ own', h'.get? p.1 = some p.2 ∧ (hideAll s.heap (ads own)).get? p.1 = none) → Post v own' → Q v { s with heap := h', toks := tk }) →
    wpAny (model PG w) A (call (.ref f) vs) Q E s
theorem own_news {h : Heap} {own : List (Addr × Obj)} (h1 : ∀ p ∈ own, h.get? p.1 = some p.2) : ∀ p ∈ own, h.get? p.1 = some p.2 ∧ p.1 ∈ ads own := fun p hp => ⟨h1 p hp, List.mem_map_of_mem hp⟩
theorem own_end {h h' : Heap} {L : Addr} {own own' : List (Addr × Obj)} (N : News (hideAll h (ads own)) L h' own') : ∀ p ∈ own', h'.get? p.1 = some p.2 ∧ (hideAll h (ads own)).get? p.1 = none := fun p hp => ⟨(N p hp).1, (N p hp).2.2⟩
theorem own_endg {g h' : Heap} {L : Addr} {own' : List (Addr × Obj)} (N : News g L h' own') : ∀ p ∈ own', h'.get? p.1 = some p.2 ∧ g.get? p.1 = none := fun p hp => ⟨(N p hp).1, (N p hp).2.2⟩
theorem News.left {g h' : Heap} {L : Addr} {a b : List (Addr × Obj)} (N : News g L h' (a ++ b)) : News g L h' a := fun p hp => N p (List.mem_append_left _ hp)
noncomputable def Apart (a b : List (Addr × Obj)) : Prop := ∀ p ∈ a, ∀ q ∈ b, p.1 ≠ q.1
theorem Apart.nil_left {b : List (Addr × Obj)} : Apart [] b := fun _ h => nomatch h
theorem Apart.cons {p : Addr × Obj} {a b : List (Addr × Obj)} (h : ∀ q ∈ b, q.1 ≠ p.1) (x : Apart a b) : Apart (p :: a) b := fun r hr q hq => by
  rcases List.mem_cons.mp hr with rfl | hr
  · exact Ne.symm (h q hq)
  · exact x r hr q hq
theorem Apart.symm {a b : List (Addr × Obj)} (h : Apart a b) : Apart b a := fun p hp q hq e => h q hq p hp e.symm
theorem News.swap {g h' : Heap} {L : Addr} {a b : List (Addr × Obj)} (N : News g L h' (a ++ b)) : News g L h' (b ++ a) := fun p hp => N p (List.mem_append.mpr (List.mem_append.mp hp).symm)
theorem Apart.nil {a : List (Addr × Obj)} : Apart a [] := fun _ _ _ h => nomatch h
section
variable {w : World} {A : Around} {s : Shared} {Q E : Value → Shared → Prop} {f : Addr} {vs : List Value} {own rest : List (Addr × Obj)} {d u : Nat} {Pre : Heap → Prop} {Post : Value → List (Addr × Obj) → Prop}
  {g : Heap} {L : Addr} {m : Str → Option Value} {loose : List Str} {mean : ExcName → Option Value} {mg mb : Str → Option Value}
theorem own_base (F : Fr g L s.heap m) (N : News g L s.heap (own ++ rest)) : StA g (hideAll s.heap (ads own)) := fun b o e => hideAll_get _ (F.keep b o e) fun hm => by
  obtain ⟨p, hp, rfl⟩ := List.mem_map.mp hm
  have := (N p (List.mem_append_left _ hp)).2.2
  rw [this] at e; cases e
theorem use_oc (C : OCon w f vs own d u Pre Post) (hh : A.handled = none) (hd : A.depth + d < recursionLimit) (hu : A.units + u < cLine) (X : (K w.params).In g) (T : Top topProg loose mean mg mb g)
    (F : Fr g L s.heap m) (N : News g L s.heap (own ++ rest)) (off : Apart own rest) (pre : StA g (hideAll s.heap (ads own)) → (∀ p ∈ rest, (hideAll s.heap (ads own)).get? p.1 = some p.2) → Pre (hideAll s.heap (ads own)))
    (k : let P := Q; ∀ v h' tk own', Fr g L h' m → News g L h' (own' ++ rest) → Apart own' rest → Post v own' → P v { s with heap := h', toks := tk }) :
    Stop (wpAny (model PG w) A (call (.ref f) vs) Q E s) := by
  have st := own_base F N
  have ra : ∀ q ∈ rest, q.1 ∉ ads own := fun q hq hm => by
    obtain ⟨p, hp, e⟩ := List.mem_map.mp hm
    exact off p hp q hq e
  refine C A s Q E hh hd hu ⟨X.keeps st, _, _, _, _, T.keeps st⟩ (fun p hp => (N p (List.mem_append_left _ hp)).1) (pre st fun q hq => hideAll_get _ (N q (List.mem_append_right _ hq)).1 (ra q hq)) fun v h' tk own' sb ho po => ?_
  have nL : L ∉ ads own := fun hm => by
    obtain ⟨p, hp, e⟩ := List.mem_map.mp hm
    exact (N p (List.mem_append_left _ hp)).2.1 e
  have hLs : ∃ o, (hideAll s.heap (ads own)).get? L = some o := by
    obtain ⟨o, _, _, e, _⟩ := F.ns
    exact ⟨o, hideAll_get _ e nL⟩
  have F' : Fr g L h' m := ⟨F.ns.at' fun o e => sb _ _ nL e, fun b o e => sb _ _ (fun hm => by
      obtain ⟨p, hp, rfl⟩ := List.mem_map.mp hm
      have := (N p (List.mem_append_left _ hp)).2.2
      rw [this] at e; cases e) (F.keep b o e), F.above⟩
  refine k v h' tk own' F' (fun p hp => ?_) (fun p hp q hq e => ?_) po
  · rcases List.mem_append.mp hp with hp | hp
    · refine ⟨(ho p hp).1, fun e => ?_, ?_⟩
      · obtain ⟨o, ho'⟩ := hLs
        have := (ho p hp).2
        rw [e, ho'] at this; cases this
      · cases q : g.get? p.1 with
        | none => rfl
        | some o => have := st _ _ q; rw [(ho p hp).2] at this; cases this
    · exact ⟨sb _ _ (ra p hp) (N p (List.mem_append_right _ hp)).1, (N p (List.mem_append_right _ hp)).2⟩
  · have h1 := hideAll_get _ (N q (List.mem_append_right _ hq)).1 (ra q hq)
    have h2 := (ho p hp).2
    rw [e, h1] at h2; cases h2
end
end
section
theorem OCon.of {w : World} {f : Addr} {vs : List Value} {own : List (Addr × Obj)} {d u : Nat} {Pre : Heap → Prop} {Post : Value → List (Addr × Obj) → Prop}
    (h : ∀ (A : Around) (s : Shared) (Q E : Value → Shared → Prop) (g : Heap), A.handled = none → A.depth + d < recursionLimit → A.units + u < cLine → hideAll s.heap (ads own) = g → Gd w g → (∀ p ∈ own, s.heap.get? p.1 = some p.2) → Pre g →
      (∀ v h' tk own', StA g h' → (∀ p ∈ own', h'.get? p.1 = some p.2 ∧ g.get? p.1 = none) → Post v own' → Q v { s with heap := h', toks := tk }) → wpAny (model PG w) A (call (.ref f) vs) Q E s) : OCon w f vs own d u Pre Post :=
  fun A s Q E hh hd hu G h1 hp hret => h A s Q E _ hh hd hu rfl G h1 hp fun v h' tk own' a b c => hret v h' tk own' (stB_of a) b c
theorem PCon.of {w : World} {f : Addr} {vs : List Value} {d u : Nat} {Pre : Heap → Prop} {Post : Heap → List (Addr × Obj) → Value → Prop}
    (h : ∀ (A : Around) (s : Shared) (Q E : Value → Shared → Prop) (g : Heap), A.handled = none → A.depth + d < recursionLimit → A.units + u < cLine → hideAll s.heap (ads []) = g → Gd w g → Pre g →
      (∀ r h' tk I, StA g h' → (∀ p ∈ I, h'.get? p.1 = some p.2 ∧ g.get? p.1 = none) → Post g I r → Q r { s with heap := h', toks := tk }) → wpAny (model PG w) A (call (.ref f) vs) Q E s) : PCon w f vs d u Pre Post :=
  fun A s Q E hh hd hu G hp hret => h A s Q E _ hh hd hu rfl G hp hret
theorem own0 {h : Heap} : ∀ p ∈ ([] : List (Addr × Obj)), h.get? p.1 = some p.2 := fun _ hp => nomatch hp
theorem enterO {w : World} {A : Around} {s : Shared} {Q E : Value → Shared → Prop} {g : Heap} {own : List (Addr × Obj)} {name qual : Str} {params : Arguments} {body : List Stmt} {scope : Scope}
    {doc pm cdv oc : Value} {od : Option Addr} {osl : Array (Option Value)} {f : Addr} {vs : List Value} {binds : List (Str × Value)} {B : List Stmt} {S : Scope} {Post : Value → List (Addr × Obj) → Prop}
    (hg : hideAll s.heap (ads own) = g) (G : Gd w g) (h1 : ∀ p ∈ own, s.heap.get? p.1 = some p.2)
    (hret : ∀ v h' tk own', StA g h' → (∀ p ∈ own', h'.get? p.1 = some p.2 ∧ g.get? p.1 = none) → Post v own' → Q v { s with heap := h', toks := tk })
    (hB : body = B) (hS : scope = S)
    (ho : (K w.params).lookup f = some ⟨oc, od, .func (fnOf name qual params body scope .none .none doc pm none cdv .none), osl⟩)
    (hcd : codeIn (K w.params) cdv qual = true) (hroom : A.depth < recursionLimit)
    (hbind : BindsTo s (fnOf name qual params body scope .none .none doc pm none cdv .none) ⟨vs, []⟩ binds) (hloc : ∀ y ∈ binds, scope.names.lookup y.1 = some .local)
    (hco : scope.isCoroutine = false) (hgen : scope.isGenerator = false) (hk : scope.kind = .function) (hcell : ∀ x ∈ scope.names, x.2 ≠ .cell)
    (h : ∀ (s₁ : Shared) (Q₁ : Flow → Shared → Prop) (L : Addr) (loose : List Str) (mean : ExcName → Option Value) (mg mb : Str → Option Value), Top topProg loose mean mg mb g → Fr g L s₁.heap (fun y => binds.reverse.lookup y) → News g L s₁.heap own →
      (∀ v h' tk own', StA g h' → (∀ p ∈ own', h'.get? p.1 = some p.2 ∧ g.get? p.1 = none) → Post v own' → Q₁ (.ret v) { s₁ with heap := h', toks := tk }) →
      (∀ h' tk own', StA g h' → (∀ p ∈ own', h'.get? p.1 = some p.2 ∧ g.get? p.1 = none) → Post .none own' → Q₁ .next { s₁ with heap := h', toks := tk }) →
      wpAny (model PG w) (A.deeper (envOf qual S L f cdv)) (execs B (envOf qual S L f cdv)) Q₁ (fun _ _ => False) s₁) :
    wpAny (model PG w) A (call (.ref f) vs) Q E s := by
  subst hg hB hS
  obtain ⟨X, loose, mean, mg, mb, T⟩ := id G
  exact wpAny_call (enter G (own_news h1) ho hcd hroom hbind hloc hco hgen hk hcell fun L h₁ F N =>
    h { s with heap := h₁, toks := s.toks + binds.length } _ L loose mean mg mb T F N (fun v h' tk own' a b c => hret v h' tk own' a b c) (fun h' tk own' a b c => hret _ h' tk own' a b c))
end
section
set_option maxHeartbeats 2000000
section
open LCg LCp
variable {prog : Program} {w : World} {A : Around} {E : Value → Shared → Prop} {s : Shared} {h₀ : Heap} {L : Addr} {m : Str → Option Value} {env : Env}
/-- the end of one turn of a comp whose ledger does not grow -/
inductive EltEnd (h₀ : Heap) (L : Addr) (m : Str → Option Value) (s : Shared) (all : List (Addr × Obj)) (R : Value → Prop) (y : Value) (s' : Shared) : Prop
  | of (h' : Heap) (tk' : Nat) (es : s' = { s with heap := h', toks := tk' }) (F : Fr h₀ L h' m) (N : News h₀ L h' all) (r : R y)
theorem EltEnd.mk {h' : Heap} {tk : Nat} {s : Shared} {all now : List (Addr × Obj)} {R : Value → Prop} {y : Value} (F : Fr h₀ L h' m) (N : News h₀ L h' now) (sub : ∀ p ∈ all, p ∈ now) (r : R y) :
    EltEnd h₀ L m s all R y { s with heap := h', toks := tk } := ⟨h', tk, rfl, F, fun p hp => N p (sub p hp), r⟩
/-- where a comp over enumerate(list) takes off: R i y, what the element at i is -/
inductive SrcE (prog : Program) (w : World) (A : Around) (h₀ : Heap) (L : Addr) (m : Str → Option Value) (env : Env) (elt : Expr) (x x₂ : Str) (scope : Scope) (cl : List (Str × Addr)) (Q : Value → Shared → Prop) (xv : Value) (s₁ : Shared) : Prop
  | of (l : Addr) (lo : Obj) (vs : List Value) (n : Nat) (e it : Addr) (old : Value) (news : List (Addr × Obj)) (R : Nat → Value → Prop) (ex : xv = .ref e) (hh : A.handled = none) (F : Fr h₀ L s₁.heap m) (N : News h₀ L s₁.heap news) (hm : (l, lo) ∈ news) (hc : lo.cls = .type "list") (hd : lo.data = .seq vs.toArray n)
    (hsz : vs.length ≤ sizeLine) (hE : IsEnum s₁.heap e it 0 old) (hI : s₁.heap.IsListIter it l 0) (hei : e ≠ it) (hLe : L ≠ e) (hLi : L ≠ it) (he₀ : h₀.get? e = none) (hi₀ : h₀.get? it = none) (off : ∀ p ∈ news, p.1 ≠ e ∧ p.1 ≠ it)
    (turn : ∀ i v t ys oe oi C oC D m₂ h tk (E' : Value → Shared → Prop), vs[i]? = some v → NsObj oC m₂ → m₂ x = some (.int (i : Nat) t) → m₂ x₂ = some v → Fr h₀ L h m → News h₀ L h ((e, oe) :: (it, oi) :: (C, oC) :: (D, lst ys) :: news) →
      wpAny (model prog w) A (eval elt (compEnvC scope cl C env)) (EltEnd h₀ L m { s₁ with heap := h, toks := tk } ((e, oe) :: (it, oi) :: (C, oC) :: (D, lst ys) :: news) (R i)) E' { s₁ with heap := h, toks := tk })
    (fin : ∀ D h tk ys, Fr h₀ L h m → News h₀ L h ((D, lst ys) :: news) → ys.length = vs.length → (∀ i y, ys[i]? = some y → R i y) → Q (.ref D) { s₁ with heap := h, toks := tk })
/-- between two turns -/
inductive CompI (h₀ : Heap) (L : Addr) (m : Str → Option Value) (s : Shared) (vs : List Value) (e it l D C : Addr) (news : List (Addr × Obj)) (R : Nat → Value → Prop) (k : Nat) (s' : Shared) : Prop
  | of (h' : Heap) (tk i : Nat) (ys : List Value) (m' : Str → Option Value) (es : s' = { s with heap := h', toks := tk }) (hi : i ≤ vs.length) (hk : k = vs.length + 1 - i) (hyl : ys.length = i) (hR : ∀ i y, ys[i]? = some y → R i y)
    (hst : (∃ old, IsEnum h' e it i old) ∧ h'.IsListIter it l i ∧ h'.IsList l vs.toArray) (F : Fr h₀ L h' m) (hn : h'.Ns C m') (N : News h₀ L h' ((D, lst ys) :: news))
inductive CompO (h₀ : Heap) (L : Addr) (m : Str → Option Value) (s : Shared) (vs : List Value) (D C : Addr) (news : List (Addr × Obj)) (R : Nat → Value → Prop) (s' : Shared) : Prop
  | of (m' : Str → Option Value) (h : Heap) (tk : Nat) (ys : List Value) (es : s' = { s with heap := h, toks := tk }) (hn : h.Ns C m') (F : Fr h₀ L h m) (N : News h₀ L h ((D, lst ys) :: news)) (hyl : ys.length = vs.length) (hR : ∀ i y, ys[i]? = some y → R i y)

theorem ListComp_E {elt iter : Expr} {x x₂ : Str} {px px₂ tp : Pos} {tk} {scope : Scope} {cl : List (Str × Addr)} {pos : Pos} {Q : Value → Shared → Prop} (F₀ : Fr h₀ L s.heap m)
    (hclos : closureFor scope env = pure cl) (hcell : ∀ y ∈ scope.names, y.2 ≠ .cell) (hkind : scope.kind = .function)
    (hnames : ∀ y ∈ scope.names, y.2 = .local → scope.names.lookup y.1 = some .local) (hx : scope.names.lookup x = some .local) (hx₂ : scope.names.lookup x₂ = some .local) (hxx : x ≠ x₂)
    (h : wpAny (model prog w) A (eval iter env) (SrcE prog w A h₀ L m env elt x x₂ scope cl Q) E s)
    (hs : ∀ x, foldedSetIterable iter env x = pure x) :
    wpAny (model prog w) A (eval (.ListComp elt [⟨.Tuple [.Name x px, .Name x₂ px₂] tk tp, iter, [], 0⟩] scope pos) env) Q E s := by
  rw [eval_ListComp]
  refine wpAny_comprehension_free (use := none) rfl hs hclos hkind hnames (wpAny_mono h (fun xv s₂ h₁ => ?_) fun _ _ e => e)
  obtain ⟨l, lo, vs, n, e, it, old, news, R, rfl, hh, F, N, hm, hc, hd, hsz, hE, hI, hei, hLe, hLi, he₀, hi₀, off, turn, fin⟩ := h₁
  refine wpAny_pyIter_enum hE ?_
  have hl : s₂.heap.IsList l vs.toArray := ⟨lo, (N _ hm).1, hc, n, hd⟩
  have W := WalksT.enumerate (prog := prog) (w := w) hh e it l hei (off _ hm).1 (off _ hm).2 vs.toArray
  refine wpAny_newObj_type (wpAny_newFunctionEnv hcell (by intro y hy; simp at hy) (fun h₁ hns₁ hsb₁ => ?_) hkind)
  dsimp only at hns₁ hsb₁ ⊢
  generalize hH2 : s₂.heap.push { cls := .type "list", dict := none, data := .seq ([] : List Value).toArray } = H2 at hns₁ hsb₁ ⊢
  have hC : H2.objs.size = s₂.heap.objs.size + 1 := by rw [← hH2, Heap.size_push]
  have hDC : s₂.heap.objs.size ≠ H2.objs.size := by rw [hC]; exact Nat.ne_of_lt (Nat.lt_succ_self _)
  have below : ∀ b, b < s₂.heap.objs.size → b ≠ H2.objs.size ∧ b ≠ s₂.heap.objs.size := fun b hb => ⟨by rw [hC]; exact Nat.ne_of_lt (Nat.lt_succ_of_lt hb), Nat.ne_of_lt hb⟩
  have he_lt : e < s₂.heap.objs.size := Heap.lt_size hE
  have hi_lt : it < s₂.heap.objs.size := by obtain ⟨_, q, _⟩ := hI; exact Heap.lt_size q
  have old' : ∀ b o, s₂.heap.get? b = some o → h₁.get? b = some o := fun b o e => hsb₁.extBut b o (below b (Heap.lt_size e)).1 (Heap.get?_push_of_some _ (hH2 ▸ Heap.get?_push_of_some _ e))
  have hacc : h₁.get? s₂.heap.objs.size = some (lst []) := hsb₁.extBut _ _ hDC (Heap.get?_push_of_some _ (hH2 ▸ Heap.get?_push_size _ rfl))
  have fresh₀ : ∀ a, s₂.heap.objs.size ≤ a → h₀.get? a = none := fun a ha => by
    cases e : h₀.get? a with
    | none => rfl
    | some o' => exact absurd (Heap.lt_size (F.keep a o' e)) (Nat.not_lt.mpr ha)
  have hD₀ : h₀.get? s₂.heap.objs.size = none := fresh₀ _ (Nat.le_refl _)
  have hC₀ : h₀.get? H2.objs.size = none := fresh₀ _ (by rw [hC]; exact Nat.le_succ _)
  have hLlt : L < s₂.heap.objs.size := F.ns.lt
  have hDL : s₂.heap.objs.size ≠ L := Ne.symm (below L hLlt).2
  have hCL : H2.objs.size ≠ L := Ne.symm (below L hLlt).1
  have hCe : H2.objs.size ≠ e := Ne.symm (below _ he_lt).1
  have hCi : H2.objs.size ≠ it := Ne.symm (below _ hi_lt).1
  have hDe : s₂.heap.objs.size ≠ e := Ne.symm (below _ he_lt).2
  have hDi : s₂.heap.objs.size ≠ it := Ne.symm (below _ hi_lt).2
  have offC : ∀ p ∈ news, p.1 ≠ H2.objs.size ∧ p.1 ≠ s₂.heap.objs.size := fun p hp => below _ (Heap.lt_size (N p hp).1)
  -- what keeps off the two walkers keeps the frame and the ledger
  have keepF : ∀ {g g' : Heap}, Fr h₀ L g m → (∀ b o, b ∉ [e, it] → g.get? b = some o → g'.get? b = some o) → Fr h₀ L g' m := fun F hk =>
    ⟨F.ns.at' fun o e => hk L o (by simp [hLe, hLi]) e, fun b o q => hk b o (fun hm => by
      rcases List.mem_cons.mp hm with rfl | hm
      · rw [he₀] at q; cases q
      · rw [List.mem_singleton.mp hm, hi₀] at q; cases q) (F.keep b o q), F.above⟩
  have keepN : ∀ {g g' : Heap} {ys : List Value}, News h₀ L g ((s₂.heap.objs.size, lst ys) :: news) → (∀ b o, b ∉ [e, it] → g.get? b = some o → g'.get? b = some o) → News h₀ L g' ((s₂.heap.objs.size, lst ys) :: news) := fun N hk p hp =>
    ⟨hk _ _ (by
      rcases List.mem_cons.mp hp with rfl | hp
      · simp [hDe, hDi]
      · simp [off p hp]) (N p hp).1, (N p hp).2⟩
  have loop : ∀ s₃ : Shared, s₃ = { s₂ with heap := h₁, toks := s₂.toks + ([] : List (Str × Value)).length } →
      codeAny (model prog w) A (.compLoop (.ListComp elt [⟨.Tuple [.Name x px, .Name x₂ px₂] tk tp, iter, [], 0⟩] scope pos) 0 (.ref e) (.ref s₂.heap.objs.size) (compEnvC scope cl H2.objs.size env))
        (fun r s' => r = .ok .next ∧ CompO h₀ L m s₂ vs s₂.heap.objs.size H2.objs.size news R s') s₃ := by
    rintro s₃ rfl
    refine codeAny_compLoop_pair
      (CompI h₀ L m s₂ vs e it l s₂.heap.objs.size H2.objs.size news R) ?_ (vs.length + 1)
      ⟨h₁, _, 0, [], _, rfl, Nat.zero_le _, rfl, rfl, fun i y h => by simp at h, ⟨⟨_, old' _ _ hE⟩, hI.at fun o q => old' _ _ q, hl.at fun o q => old' _ _ q⟩, F.keeps old', hns₁, fun p hp => ?_⟩
    · rintro k s' ⟨h', tk, i, ys, m', rfl, hi, rfl, hyl, hR, hst', F', hn', N'⟩
      by_cases hlt : i < vs.length
      · refine W.item i _ _ _ (by simpa using hlt) hst' fun T vals h₂ tk₂ hPt hT₀ hT hMid hk₂ => ?_
        obtain ⟨t, v, hv, rfl⟩ := hPt
        have hTw := W.apart _ _ _ hMid
        refine W.go _ _ _ i T _ _ _ hMid fun h₄ hst₄ hk₄ => ?_
        have ht : IsTup h₄ T #[.int (i : Nat) t, v] := by obtain ⟨o, q, r⟩ := hT; exact ⟨o, hk₄ _ _ hTw q, r⟩
        have F₄ := keepF (keepF F' hk₂) hk₄
        have N₄ := keepN (keepN N' hk₂) hk₄
        have hn₄ : h₄.Ns H2.objs.size m' := (hn'.at' fun o q => hk₂ _ o (by simp [hCe, hCi]) q).at' fun o q => hk₄ _ o (by simp [hCe, hCi]) q
        refine assign_Tuple_tuple hh ht rfl rfl fun h₅ he' => ?_
        have he'' : ∀ b o, h₄.get? b = some o → h₅.get? b = some o := fun b o e => he' b o (Nat.ne_of_lt (Heap.lt_size e)) e
        refine assignInOrder_cons (wpAny_assign_Name (wpAny_storeName_local (lookup_relabel_local hx) (hn₄.at' fun o e => he'' _ o e) (fun h₆ hn₆ hs₆ => ?_) (by simp [compEnvC, relabel, hkind])))
        refine assignInOrder_cons (wpAny_assign_Name (wpAny_storeName_local (lookup_relabel_local hx₂) hn₆ (fun h₃ hn₃ hs₃ => ?_) (by simp [compEnvC, relabel, hkind])))
        refine assignInOrder_nil ?_
        have old3 : ∀ b o, b ≠ H2.objs.size → h₄.get? b = some o → h₃.get? b = some o := fun b o hb e => hs₃.extBut b o hb (hs₆.extBut b o hb (he'' b o e))
        obtain ⟨⟨oldi, hEi⟩, hIi, hli⟩ := hst₄
        obtain ⟨oi, hoi, roi⟩ := hIi
        obtain ⟨oC, heC, hoC⟩ := ns_obj hn₃
        have F₃ : Fr h₀ L h₃ m := ((F₄.keeps he'').change hs₆ hCL hC₀).change hs₃ hCL hC₀
        have N₃ : News h₀ L h₃ ((e, _) :: (it, oi) :: (H2.objs.size, oC) :: (s₂.heap.objs.size, lst ys) :: news) := fun p hp => by
          rcases List.mem_cons.mp hp with rfl | hp
          · exact ⟨old3 _ _ (Ne.symm hCe) hEi, Ne.symm hLe, he₀⟩
          · rcases List.mem_cons.mp hp with rfl | hp
            · exact ⟨old3 _ _ (Ne.symm hCi) hoi, Ne.symm hLi, hi₀⟩
            · rcases List.mem_cons.mp hp with rfl | hp
              · exact ⟨heC, hCL, hC₀⟩
              · refine ⟨old3 _ _ ?_ (N₄ p hp).1, (N₄ p hp).2⟩
                rcases List.mem_cons.mp hp with rfl | hp
                · exact hDC
                · exact (offC p hp).1
        refine wpAny_mono (turn i v t ys _ oi H2.objs.size oC s₂.heap.objs.size _ h₃ _ _ (by simpa using hv) hoC (by simp [hxx]) (by simp) F₃ N₃) (fun y s₄ h₄ => ?_) fun _ _ e => e
        obtain ⟨h₇, tk₇, rfl, F₇, N₇, hy⟩ := h₄
        have zE := (N₇ _ List.mem_cons_self).1
        have zI := (N₇ _ (.tail _ (.head _))).1
        have zC := (N₇ _ (.tail _ (.tail _ (.head _)))).1
        have zD := (N₇ _ (.tail _ (.tail _ (.tail _ (.head _))))).1
        have zl := (N₇ _ (.tail _ (.tail _ (.tail _ (.tail _ hm))))).1
        refine append_at (hsz := by show ys.toArray.size ≤ sizeLine; rw [List.size_toArray, hyl]; exact Nat.le_trans hi hsz) zD fun h₈ hs₈ hD₈ => ?_
        refine ⟨vs.length + 1 - (i + 1), by first | exact Nat.sub_lt_sub_left (Nat.lt_succ_of_lt ‹_›) (Nat.lt_succ_self i) | omega, ⟨h₈, tk₇, i + 1, ys ++ [y], _, rfl, hlt, rfl, by rw [List.length_append, List.length_singleton, hyl], ?_, ⟨⟨oldi, hs₈.extBut _ _ (Ne.symm hDe) zE⟩, ⟨oi, hs₈.extBut _ _ (Ne.symm hDi) zI, roi⟩, ⟨lo, hs₈.extBut _ _ (offC _ hm).2 zl, hc, n, hd⟩⟩, F₇.change hs₈ hDL hD₀,
          (hoC.ns zC).sameBut hs₈ (Ne.symm hDC), fun p hp => ?_⟩⟩
        · intro j z hz
          by_cases hj : j < ys.length
          · rw [List.getElem?_append_left hj] at hz; exact hR j z hz
          · rw [List.getElem?_append_right (by omega)] at hz
            obtain ⟨k, hk⟩ : ∃ k, j = ys.length + k := ⟨j - ys.length, by omega⟩
            subst hk
            cases k with
            | zero => simp at hz; subst hz; rw [Nat.add_zero, hyl]; exact hy
            | succ k => simp at hz
        · rcases List.mem_cons.mp hp with rfl | hp
          · exact ⟨hD₈.trans (congrArg some (lst_snoc ys y)), hDL, hD₀⟩
          · exact ⟨hs₈.extBut _ _ (offC p hp).2 (N₇ _ (.tail _ (.tail _ (.tail _ (.tail _ hp))))).1, (N₇ _ (.tail _ (.tail _ (.tail _ (.tail _ hp))))).2⟩
      · obtain rfl : i = vs.length := Nat.le_antisymm hi (Nat.not_lt.mp hlt)
        refine W.done _ _ _ (by simpa using hst') fun h₂ tk₂ hk₂ => ?_
        exact ⟨rfl, ⟨m', h₂, tk₂, ys, rfl, hn'.at' fun o q => hk₂ _ o (by simp [hCe, hCi]) q, keepF F' hk₂, keepN N' hk₂, hyl, hR⟩⟩
    · rcases List.mem_cons.mp hp with rfl | hp
      · exact ⟨hacc, hDL, hD₀⟩
      · exact ⟨old' _ _ (N p hp).1, (N p hp).2⟩
  refine codeAny_compStart_list ?_ (wpAny_pyIter_enum (old' _ _ hE) ?_)
  all_goals
    refine codeAny_mono (loop _ rfl) fun r s' hr => ?_
    obtain ⟨rfl, ⟨m', h, tk, ys, rfl, hn, F', N', hyl, hR⟩⟩ := hr
    refine ⟨m', hn, fun h'' hs'' => fin _ h'' tk ys (F'.change hs'' hCL hC₀) (fun p hp => ?_) hyl hR⟩
    refine ⟨hs''.extBut _ _ ?_ (N' p hp).1, (N' p hp).2⟩
    rcases List.mem_cons.mp hp with rfl | hp
    · exact hDC
    · exact (offC p hp).1
/-- enumerate of a list on the ledger -/
theorem enum_src {elt : Expr} {x x₂ : Str} {scope : Scope} {cl : List (Str × Addr)} {Q : Value → Shared → Prop} {l : Addr} {vs : List Value} {n : Nat} {news : List (Addr × Obj)} (R : Nat → Value → Prop)
    (hh : A.handled = none) (F : Fr h₀ L s.heap m) (N : News h₀ L s.heap news) (hm : (l, lstO vs n) ∈ news) (hsz : vs.length ≤ sizeLine)
    (turn : ∀ e it, ∀ i v t ys oe oi C oC D m₂ h tk (E' : Value → Shared → Prop), vs[i]? = some v → NsObj oC m₂ → m₂ x = some (.int (i : Nat) t) → m₂ x₂ = some v → Fr h₀ L h m → News h₀ L h ((e, oe) :: (it, oi) :: (C, oC) :: (D, lst ys) :: news) →
      wpAny (model prog w) A (eval elt (compEnvC scope cl C env)) (EltEnd h₀ L m { s with heap := h, toks := tk } ((e, oe) :: (it, oi) :: (C, oC) :: (D, lst ys) :: news) (R i)) E' { s with heap := h, toks := tk })
    (fin : ∀ D h tk ys, Fr h₀ L h m → News h₀ L h ((D, lst ys) :: news) → ys.length = vs.length → (∀ i y, ys[i]? = some y → R i y) → Q (.ref D) { s with heap := h, toks := tk }) :
    wpAny (model prog w) A (call (.type "enumerate") [.ref l]) (SrcE prog w A h₀ L m env elt x x₂ scope cl Q) E s := by
  have hax := N _ hm
  have hlt : ∀ p ∈ news, p.1 < s.heap.objs.size := fun p hp => Heap.lt_size (N p hp).1
  have hLs := F.ns.lt
  refine call_enumerate_list ⟨_, hax.1, rfl, _, rfl⟩ fun h' hE hI hsz' hk => ?_
  refine ⟨l, lstO vs n, vs, n, _, _, _, news, R, rfl, hh, F.keeps hk, N.grown hk, hm, rfl, rfl, hsz, hE, hI, Nat.succ_ne_self _, Nat.ne_of_lt (Nat.lt_succ_of_lt hLs), Nat.ne_of_lt hLs, ktu_new F (Nat.le_succ _), ktu_new F (Nat.le_refl _),
    fun p hp => ⟨Nat.ne_of_lt (Nat.lt_succ_of_lt (hlt p hp)), Nat.ne_of_lt (hlt p hp)⟩, turn _ _, fin⟩
end
end
local macro_rules | `(tactic| walk_at "my test") => `(tactic| first | exact .or_nil | (refine' .eq ?h1 ?h2 ?h3 ?h4; (case h1 => with_unfolding_all rfl); (case h2 => kernel_rfl!); (case h3 => kernel_rfl!); (case h4 => kernel_rfl!)) | (refine' .isIn ?h1 ?h2 ?h3 ?h4 ?h5 ?h6 ?h7; (case h1 => with_unfolding_all rfl); (case h2 => (repeat constructor)); (case h3 => kernel_rfl!); (case h4 => kernel_rfl!); (case h5 => rfl); (case h6 => kernel_rfl!); (case h7 => kernel_rfl!)) | (refine' .item ?h1 ?hT ?hi ?h2 ?h3 ?h4 ?h5 ?h6 ?h7; (case h1 => with_unfolding_all rfl); (case hT => assumption); (case h3 => rfl); (case hi => rfl); (case h2 => kernel_rfl!); (case h4 => kernel_rfl!); (case h5 => kernel_rfl!); (case h6 => kernel_rfl!); (case h7 => kernel_rfl!)) | (refine' .or_tt ?_; walk_at "my test") | (refine' .or_ff ?_ ?_; walk_at "my test"; walk_at "my test"))
local macro_rules
  | `(tactic| walk_at "my tup") => `(tactic| first | exact Fr.tup (by assumption) (by assumption) | exact News.isTup (by assumption) (by k_mem))
  | `(tactic| walk_at "my lst") => `(tactic| first | exact News.isList (by k_asm) (by k_mem) | exact Fr.lst (by assumption) (by assumption))
local macro_rules | `(tactic| walk_at "execs cons") => `(tactic| ((with_reducible show wpAny _ _ (execs (.If _ _ _ _ :: _) _) _ _ _); k_dflt (first | (refine' if_skips ?F ?N ?k (.cons ?t ?r) ?_; (case F => k_asm); (case N => k_asm); (case k => rfl); (case t => walk_at "my test"); (case r => ((repeat (refine' .cons _ _; walk_at "my test")); exact .nil)); intro _ _ _ _) | (refine' if_take ?F ?N ?t ?k ?_; (case F => k_asm); (case N => k_asm); (case k => rfl); (case t => walk_at "my test"); intro _ _ _ _; (try dsimp only)) | (refine' if_elses ?F ?N ?t ?k ?S ?_; (case F => k_asm); (case N => k_asm); (case k => rfl); (case t => walk_at "my test"); (case S => ((repeat (refine' .step _ _; walk_at "my test")); exact .stop)); intro _ _ _ _; (try dsimp only)))))
local macro_rules | `(tactic| walk_at "subscriptTail") => `(tactic| ((with_reducible show wpAny _ _ (subscriptTail _ _ (.ref _) (.int _ _)) _ _ _); k_dflt (refine item_tupleT (by walk_at "my tup") (by decide) (by decide) (by rfl) (by rfl) ?_)))
local macro_rules | `(tactic| walk_at "call ref") => `(tactic| (refine Stop.of ?_))
local macro_rules | `(tactic| walk_at "spliced") => `(tactic| (first | refine args_cons ?_ | (refine args_nil ?_; first | (with_reducible refine andCall0 ?k ?_; (case k => k_in)) | (with_reducible refine andCall1 ?k ?_; (case k => k_in)) | (try dsimp only [List.cons_append, List.nil_append]))))
local macro_rules | `(tactic| walk_at "call builtin:len") => `(tactic| (k_dflt (first | (refine PyProof.Rows.len_list (by walk_at "my lst") (by simp only [List.size_toArray, List.length_append, List.length_cons, List.length_nil]; omega) ?_) | (refine PyProof.Rows.len_tuple (by walk_at "my tup") (by decide) ?_))))
local macro_rules | `(tactic| walk_at "subscriptTail Name Constant ref int") => `(tactic| (walk_at "subscriptTail"))
local macro_rules | `(tactic| walk_at "binaryOp Add ref ref") => `(tactic| ((with_reducible show wpAny _ _ (binaryOp .Add (.ref _) (.ref _)) _ _ _); k_dflt (refine' add_two ?F ?N ?a ?b ?z ?_; (case F => k_asm); (case N => k_asm); (case a => exact News.isList (by k_asm) (by k_mem)); (case b => exact News.isList (by k_asm) (by k_mem)); (case z => (simp only [List.length_append, List.length_cons, List.length_nil, sizeLine_eq]; first | decide | omega)); intro _ _ _ _ l1; (try k_lt l1); (try k_sweep))))
local macro_rules | `(tactic| walk_at "assign Tuple") => `(tactic| (k_dflt (first | (refine unpackN_ (by k_asm) (by k_asm) (by walk_at "my tup") (by assumption) (by rfl) (by rfl) ?_) | (refine kun_list (by k_asm) (by k_asm) (by walk_at "my lst") (by assumption) (by rfl) (by rfl) ?_)); intro _ _ _; (try k_sweep)))
local macro_rules | `(tactic| walk_at "call builtin:max") => `(tactic| (k_dflt (refine max_two (by assumption) (by k_asm) (by k_asm) ?_); intro _ _ _ _ _; (try k_sweep)))
local macro_rules | `(tactic| walk_at "isTrue Compare") => `(tactic| (k_dflt (first | (refine tst_ok (b := false) rfl ?_ (by k_asm) (by k_asm) ?_; walk_at "my test"; intro _ _ _ _; (try (with_reducible refine ite_ff ?_))) | (refine tst_ok (b := true) rfl ?_ (by k_asm) (by k_asm) ?_; walk_at "my test"; intro _ _ _ _; (try (with_reducible refine ite_tt ?_))))))
local macro_rules | `(tactic| k_ne) => `(tactic| (first | assumption | exact Ne.symm (by assumption) | fail "no fact"))
section
set_option maxHeartbeats 0
set_option rowWalk.seconds 0
theorem filled : (PySem.Challenge.rw_pf0370_01, K) = (PySem.Challenge.rw_pf0370_01, K) := by k_fill; rfl

theorem name_con (w : World) (x : Str) (v : Value) : PCon w 100 [v] 2 50 (fun h => NameS (HS h) v x) (fun _ I r => OrdsIn I r [.ref x]) := by
  refine PCon.of fun A s Q E g hh hd hu hgg G hp hret => ?_
  obtain ⟨a, t, u, rfl, hT⟩ := hp
  replace hT := hT.heap
  refine enterO (own := []) (binds := [(ss "tree", .ref a)]) hgg G own0 hret (B := ?B) (S := ?S) ?hB ?hS (by k_is) (by k_is) (lt0 (by assumption)) (BindsTo.of_eq rfl) (locs rfl) rfl rfl rfl (by decide) ?_
  case hB => conv => lhs; whnf
  case hS => conv => lhs; whnf
  have X := G.K
  clear hret G hgg
  intro s1 Q1 L loose mean mg mb T F N hret _
  k_steps
  exact hret _ _ _ _ (Fr.keep (by assumption)) (newsI (by assumption)) ⟨_, _, _, rfl, .head _, .cons ⟨_, _, rfl, TupS.is (by k_mem), _, _, rfl⟩ .nil⟩

theorem neg_con (w : World) (t : Tr) (C : VC w t) (hl : t.orders.length ≤ 1000000) (u : Tok) (v : Value) : PCon w 86 [.str (ss "-") u, v] (5 * t.ht + 7) (50 * t.ht + 120) (fun h => TreeS (HS h) v t) (fun _ I r => OrdsIn I r (t.orders ++ [.unary (ss "-")])) := by
  refine PCon.of fun A s Q E g hh hd hu hgg G hp hret => ?_
  refine enterO (own := []) (binds := [(ss "op", .str (ss "-") u), (ss "tree", v)]) hgg G own0 hret (B := ?B) (S := ?S) ?hB ?hS (by k_is) (by k_is) (lt0 (by assumption)) (BindsTo.of_eq rfl) (locs rfl) rfl rfl rfl (by decide) ?_
  case hB => conv => lhs; whnf
  case hS => conv => lhs; whnf
  have X := G.K
  clear hret G hgg
  intro s1 Q1 L loose mean mg mb T F N hret _
  k_steps
  refine use_pure (C (by first | exact sm1 ‹_› | exact sm3 ‹_› | exact sm2 ‹_› | exact sm4 ‹_› | exact Nat.le_trans ‹_› ‹_› | omega) _) hh (by show A.depth + 1 + _ < _; first | exact dlt (by assumption) (by decide) | exact dm1 (by assumption) (by first | exact Nat.le_refl _ | exact Nat.le_max_left _ _ | exact Nat.le_max_right _ _) (by decide) | exact dm0 (by assumption) (by first | exact Nat.le_refl _ | exact Nat.le_max_left _ _ | exact Nat.le_max_right _ _) (by decide) | exact dlt2 (by assumption) (by decide) | exact dlt1 (by assumption) (by decide) | omega) (by show A.units + 3 + _ < _; first | exact dlt (by assumption) (by decide) | exact dm1 (by assumption) (by first | exact Nat.le_refl _ | exact Nat.le_max_left _ _ | exact Nat.le_max_right _ _) (by decide) | exact dm0 (by assumption) (by first | exact Nat.le_refl _ | exact Nat.le_max_left _ _ | exact Nat.le_max_right _ _) (by decide) | exact dlt2 (by assumption) (by decide) | exact dlt1 (by assumption) (by decide) | omega) X T (by assumption) (by assumption) (tree_heap (by assumption) hp) ?_
  intro PQ
  intro r1 h1 tk1 I1 F1 N1 hne1 hp1
  obtain ⟨a1, vs1, n1, rfl, m1, o1⟩ := hp1
  simp only [List.nil_append, List.cons_append, List.append_assoc] at N1
  replace N1 := News.put N1 (q := (a1, lstO vs1 n1)) (by repeat (first | exact m1 | exact List.mem_append_left _ m1 | exact List.mem_append_right _ m1 | refine List.mem_append_right _ ?_ | refine List.Mem.tail _ ?_))
  have hl1 := o1.length
  k_steps
  exact hret _ _ _ _ (Fr.keep (by assumption)) (newsI (by assumption)) ⟨_, _, _, rfl, .head _, OrdsS.append (o1.mono (fun _ _ h => by unfold IS at h ⊢; repeat (first | exact h | exact List.mem_append_left _ h | exact List.mem_append_right _ h | refine List.mem_append_right _ ?_ | refine List.Mem.tail _ ?_))) (.cons ⟨_, _, rfl, TupS.is (by k_mem), _, _, rfl⟩ .nil)⟩

theorem quest_con (w : World) (t : Tr) (C : VC w t) (hl : t.orders.length ≤ 1000000) (u : Tok) (v : Value) : PCon w 86 [.str (ss "?") u, v] (5 * t.ht + 7) (50 * t.ht + 120) (fun h => TreeS (HS h) v t) (fun _ I r => OrdsIn I r (t.orders ++ [.drop, .push (ss "")])) := by
  refine PCon.of fun A s Q E g hh hd hu hgg G hp hret => ?_
  refine enterO (own := []) (binds := [(ss "op", .str (ss "?") u), (ss "tree", v)]) hgg G own0 hret (B := ?B) (S := ?S) ?hB ?hS (by k_is) (by k_is) (lt0 (by assumption)) (BindsTo.of_eq rfl) (locs rfl) rfl rfl rfl (by decide) ?_
  case hB => conv => lhs; whnf
  case hS => conv => lhs; whnf
  have X := G.K
  clear hret G hgg
  intro s1 Q1 L loose mean mg mb T F N hret _
  k_steps
  refine use_pure (C (by first | exact sm1 ‹_› | exact sm3 ‹_› | exact sm2 ‹_› | exact sm4 ‹_› | exact Nat.le_trans ‹_› ‹_› | omega) _) hh (by show A.depth + 1 + _ < _; first | exact dlt (by assumption) (by decide) | exact dm1 (by assumption) (by first | exact Nat.le_refl _ | exact Nat.le_max_left _ _ | exact Nat.le_max_right _ _) (by decide) | exact dm0 (by assumption) (by first | exact Nat.le_refl _ | exact Nat.le_max_left _ _ | exact Nat.le_max_right _ _) (by decide) | exact dlt2 (by assumption) (by decide) | exact dlt1 (by assumption) (by decide) | omega) (by show A.units + 3 + _ < _; first | exact dlt (by assumption) (by decide) | exact dm1 (by assumption) (by first | exact Nat.le_refl _ | exact Nat.le_max_left _ _ | exact Nat.le_max_right _ _) (by decide) | exact dm0 (by assumption) (by first | exact Nat.le_refl _ | exact Nat.le_max_left _ _ | exact Nat.le_max_right _ _) (by decide) | exact dlt2 (by assumption) (by decide) | exact dlt1 (by assumption) (by decide) | omega) X T (by assumption) (by assumption) (tree_heap (by assumption) hp) ?_
  intro PQ
  intro r1 h1 tk1 I1 F1 N1 hne1 hp1
  obtain ⟨a1, vs1, n1, rfl, m1, o1⟩ := hp1
  simp only [List.nil_append, List.cons_append, List.append_assoc] at N1
  replace N1 := News.put N1 (q := (a1, lstO vs1 n1)) (by repeat (first | exact m1 | exact List.mem_append_left _ m1 | exact List.mem_append_right _ m1 | refine List.mem_append_right _ ?_ | refine List.Mem.tail _ ?_))
  have hl1 := o1.length
  k_steps
  exact hret _ _ _ _ (Fr.keep (by assumption)) (newsI (by assumption)) ⟨_, _, _, rfl, .head _, OrdsS.append (o1.mono (fun _ _ h => by unfold IS at h ⊢; repeat (first | exact h | exact List.mem_append_left _ h | exact List.mem_append_right _ h | refine List.mem_append_right _ ?_ | refine List.Mem.tail _ ?_))) (.cons ⟨_, _, rfl, TupS.is (by k_mem), _, rfl⟩ (.cons ⟨_, _, rfl, TupS.is (by k_mem), _, _, rfl⟩ .nil))⟩

theorem dollar_con (w : World) (t : Tr) (C : VC w t) (hl : t.orders.length ≤ 1000000) (u : Tok) (v : Value) : PCon w 86 [.str (ss "$") u, v] (5 * t.ht + 7) (50 * t.ht + 120) (fun h => TreeS (HS h) v t) (fun _ I r => OrdsIn I r (t.orders ++ [.indirect, .value])) := by
  refine PCon.of fun A s Q E g hh hd hu hgg G hp hret => ?_
  refine enterO (own := []) (binds := [(ss "op", .str (ss "$") u), (ss "tree", v)]) hgg G own0 hret (B := ?B) (S := ?S) ?hB ?hS (by k_is) (by k_is) (lt0 (by assumption)) (BindsTo.of_eq rfl) (locs rfl) rfl rfl rfl (by decide) ?_
  case hB => conv => lhs; whnf
  case hS => conv => lhs; whnf
  have X := G.K
  clear hret G hgg
  intro s1 Q1 L loose mean mg mb T F N hret _
  k_steps
  refine use_pure (C (by first | exact sm1 ‹_› | exact sm3 ‹_› | exact sm2 ‹_› | exact sm4 ‹_› | exact Nat.le_trans ‹_› ‹_› | omega) _) hh (by show A.depth + 1 + _ < _; first | exact dlt (by assumption) (by decide) | exact dm1 (by assumption) (by first | exact Nat.le_refl _ | exact Nat.le_max_left _ _ | exact Nat.le_max_right _ _) (by decide) | exact dm0 (by assumption) (by first | exact Nat.le_refl _ | exact Nat.le_max_left _ _ | exact Nat.le_max_right _ _) (by decide) | exact dlt2 (by assumption) (by decide) | exact dlt1 (by assumption) (by decide) | omega) (by show A.units + 3 + _ < _; first | exact dlt (by assumption) (by decide) | exact dm1 (by assumption) (by first | exact Nat.le_refl _ | exact Nat.le_max_left _ _ | exact Nat.le_max_right _ _) (by decide) | exact dm0 (by assumption) (by first | exact Nat.le_refl _ | exact Nat.le_max_left _ _ | exact Nat.le_max_right _ _) (by decide) | exact dlt2 (by assumption) (by decide) | exact dlt1 (by assumption) (by decide) | omega) X T (by assumption) (by assumption) (tree_heap (by assumption) hp) ?_
  intro PQ
  intro r1 h1 tk1 I1 F1 N1 hne1 hp1
  obtain ⟨a1, vs1, n1, rfl, m1, o1⟩ := hp1
  simp only [List.nil_append, List.cons_append, List.append_assoc] at N1
  replace N1 := News.put N1 (q := (a1, lstO vs1 n1)) (by repeat (first | exact m1 | exact List.mem_append_left _ m1 | exact List.mem_append_right _ m1 | refine List.mem_append_right _ ?_ | refine List.Mem.tail _ ?_))
  have hl1 := o1.length
  k_steps
  exact hret _ _ _ _ (Fr.keep (by assumption)) (newsI (by assumption)) ⟨_, _, _, rfl, .head _, OrdsS.append (o1.mono (fun _ _ h => by unfold IS at h ⊢; repeat (first | exact h | exact List.mem_append_left _ h | exact List.mem_append_right _ h | refine List.mem_append_right _ ?_ | refine List.Mem.tail _ ?_))) (.cons ⟨_, _, rfl, TupS.is (by k_mem), _, rfl⟩ (.cons ⟨_, _, rfl, TupS.is (by k_mem), _, rfl⟩ .nil))⟩
end
section
set_option maxHeartbeats 0
set_option rowWalk.seconds 0

theorem tilde_con (w : World) (t : Tr) (C : VC w t) (hl : t.orders.length ≤ 1000000) (u : Tok) (v : Value) : PCon w 86 [.str (ss "~") u, v] (5 * t.ht + 7) (50 * t.ht + 120) (fun h => TreeS (HS h) v t) (fun _ I r => OrdsIn I r ([.guard (t.orders.length + 3)] ++ t.orders ++ [.unguard, .fail, .push (ss "")])) := by
  refine PCon.of fun A s Q E g hh hd hu hgg G hp hret => ?_
  refine enterO (own := []) (binds := [(ss "op", .str (ss "~") u), (ss "tree", v)]) hgg G own0 hret (B := ?B) (S := ?S) ?hB ?hS (by k_is) (by k_is) (lt0 (by assumption)) (BindsTo.of_eq rfl) (locs rfl) rfl rfl rfl (by decide) ?_
  case hB => conv => lhs; whnf
  case hS => conv => lhs; whnf
  have X := G.K
  clear hret G hgg
  intro s1 Q1 L loose mean mg mb T F N hret _
  k_steps
  refine use_pure (C (by first | exact sm1 ‹_› | exact sm3 ‹_› | exact sm2 ‹_› | exact sm4 ‹_› | exact Nat.le_trans ‹_› ‹_› | omega) _) hh (by show A.depth + 1 + _ < _; first | exact dlt (by assumption) (by decide) | exact dm1 (by assumption) (by first | exact Nat.le_refl _ | exact Nat.le_max_left _ _ | exact Nat.le_max_right _ _) (by decide) | exact dm0 (by assumption) (by first | exact Nat.le_refl _ | exact Nat.le_max_left _ _ | exact Nat.le_max_right _ _) (by decide) | exact dlt2 (by assumption) (by decide) | exact dlt1 (by assumption) (by decide) | omega) (by show A.units + 3 + _ < _; first | exact dlt (by assumption) (by decide) | exact dm1 (by assumption) (by first | exact Nat.le_refl _ | exact Nat.le_max_left _ _ | exact Nat.le_max_right _ _) (by decide) | exact dm0 (by assumption) (by first | exact Nat.le_refl _ | exact Nat.le_max_left _ _ | exact Nat.le_max_right _ _) (by decide) | exact dlt2 (by assumption) (by decide) | exact dlt1 (by assumption) (by decide) | omega) X T (by assumption) (by assumption) (tree_heap (by assumption) hp) ?_
  intro PQ
  intro r1 h1 tk1 I1 F1 N1 hne1 hp1
  obtain ⟨a1, vs1, n1, rfl, m1, o1⟩ := hp1
  simp only [List.nil_append, List.cons_append, List.append_assoc] at N1
  replace N1 := News.put N1 (q := (a1, lstO vs1 n1)) (by repeat (first | exact m1 | exact List.mem_append_left _ m1 | exact List.mem_append_right _ m1 | refine List.mem_append_right _ ?_ | refine List.Mem.tail _ ?_))
  have hl1 := o1.length
  have hn1 : ((vs1.toArray.size : Int) + 3) = ((t.orders.length + 3 : Nat) : Int) := by simp [hl1]
  k_steps
  rename News _ _ _ _ => NN
  rw [hn1] at NN
  exact hret _ _ _ _ (Fr.keep (by assumption)) (newsI (by assumption)) ⟨_, _, _, rfl, .head _, OrdsS.append (OrdsS.append (.cons ⟨_, _, rfl, TupS.is (by k_mem), _, _, rfl⟩ .nil) (o1.mono (fun _ _ h => by unfold IS at h ⊢; repeat (first | exact h | exact List.mem_append_left _ h | exact List.mem_append_right _ h | refine List.mem_append_right _ ?_ | refine List.Mem.tail _ ?_)))) (.cons ⟨_, _, rfl, TupS.is (by k_mem), _, rfl⟩ (.cons ⟨_, _, rfl, TupS.is (by k_mem), _, rfl⟩ (.cons ⟨_, _, rfl, TupS.is (by k_mem), _, _, rfl⟩ .nil)))⟩

theorem plus_con (w : World) (l r : Tr) (C1 : VC w l) (C2 : VC w r) (hl : l.orders.length + r.orders.length ≤ 1000000) (u : Tok) (vl vr : Value) : PCon w 93 [.str (ss "+") u, vl, vr] (5 * max l.ht r.ht + 7) (50 * max l.ht r.ht + 120)
    (fun h => TreeS (HS h) vl l ∧ TreeS (HS h) vr r) (fun _ I x => OrdsIn I x (l.orders ++ r.orders ++ [.binary (ss "+")])) := by
  refine PCon.of fun A s Q E g hh hd hu hgg G hp hret => ?_
  obtain ⟨q1, q2⟩ := hp
  refine enterO (own := []) (binds := [(ss "op", .str (ss "+") u), (ss "left", vl), (ss "right", vr)]) hgg G own0 hret (B := ?B) (S := ?S) ?hB ?hS (by k_is) (by k_is) (lt0 (by assumption)) (BindsTo.of_eq rfl) (locs rfl) rfl rfl rfl (by decide) ?_
  case hB => conv => lhs; whnf
  case hS => conv => lhs; whnf
  have X := G.K
  clear hret G hgg
  intro s1 Q1 L loose mean mg mb T F N hret _
  k_steps
  refine use_pure (C1 (by first | exact sm1 ‹_› | exact sm3 ‹_› | exact sm2 ‹_› | exact sm4 ‹_› | exact Nat.le_trans ‹_› ‹_› | omega) _) hh (by show A.depth + 1 + _ < _; first | exact dlt (by assumption) (by decide) | exact dm1 (by assumption) (by first | exact Nat.le_refl _ | exact Nat.le_max_left _ _ | exact Nat.le_max_right _ _) (by decide) | exact dm0 (by assumption) (by first | exact Nat.le_refl _ | exact Nat.le_max_left _ _ | exact Nat.le_max_right _ _) (by decide) | exact dlt2 (by assumption) (by decide) | exact dlt1 (by assumption) (by decide) | omega) (by show A.units + 3 + _ < _; first | exact dlt (by assumption) (by decide) | exact dm1 (by assumption) (by first | exact Nat.le_refl _ | exact Nat.le_max_left _ _ | exact Nat.le_max_right _ _) (by decide) | exact dm0 (by assumption) (by first | exact Nat.le_refl _ | exact Nat.le_max_left _ _ | exact Nat.le_max_right _ _) (by decide) | exact dlt2 (by assumption) (by decide) | exact dlt1 (by assumption) (by decide) | omega) X T (by assumption) (by assumption) (tree_heap (by assumption) q1) ?_
  intro PQ
  intro r1 h1 tk1 I1 F1 N1 hne1 hp1
  obtain ⟨a1, vs1, n1, rfl, m1, o1⟩ := hp1
  simp only [List.nil_append, List.cons_append, List.append_assoc] at N1
  replace N1 := News.put N1 (q := (a1, lstO vs1 n1)) (by repeat (first | exact m1 | exact List.mem_append_left _ m1 | exact List.mem_append_right _ m1 | refine List.mem_append_right _ ?_ | refine List.Mem.tail _ ?_))
  have hl1 := o1.length
  k_steps
  refine use_pure (C2 (by first | exact sm1 ‹_› | exact sm3 ‹_› | exact sm2 ‹_› | exact sm4 ‹_› | exact Nat.le_trans ‹_› ‹_› | omega) _) hh (by show A.depth + 1 + _ < _; first | exact dlt (by assumption) (by decide) | exact dm1 (by assumption) (by first | exact Nat.le_refl _ | exact Nat.le_max_left _ _ | exact Nat.le_max_right _ _) (by decide) | exact dm0 (by assumption) (by first | exact Nat.le_refl _ | exact Nat.le_max_left _ _ | exact Nat.le_max_right _ _) (by decide) | exact dlt2 (by assumption) (by decide) | exact dlt1 (by assumption) (by decide) | omega) (by show A.units + 3 + _ < _; first | exact dlt (by assumption) (by decide) | exact dm1 (by assumption) (by first | exact Nat.le_refl _ | exact Nat.le_max_left _ _ | exact Nat.le_max_right _ _) (by decide) | exact dm0 (by assumption) (by first | exact Nat.le_refl _ | exact Nat.le_max_left _ _ | exact Nat.le_max_right _ _) (by decide) | exact dlt2 (by assumption) (by decide) | exact dlt1 (by assumption) (by decide) | omega) X T (by assumption) (by assumption) (tree_heap (by assumption) q2) ?_
  intro PQ
  intro r2 h2 tk2 I2 F2 N2 hne2 hp2
  obtain ⟨a2, vs2, n2, rfl, m2, o2⟩ := hp2
  simp only [List.nil_append, List.cons_append, List.append_assoc] at N2
  replace N2 := News.put N2 (q := (a2, lstO vs2 n2)) (by repeat (first | exact m2 | exact List.mem_append_left _ m2 | exact List.mem_append_right _ m2 | refine List.mem_append_right _ ?_ | refine List.Mem.tail _ ?_))
  have hl2 := o2.length
  k_steps
  exact hret _ _ _ _ (Fr.keep (by assumption)) (newsI (by assumption)) ⟨_, _, _, rfl, .head _, OrdsS.append (OrdsS.append (o1.mono (fun _ _ h => by unfold IS at h ⊢; repeat (first | exact h | exact List.mem_append_left _ h | exact List.mem_append_right _ h | refine List.mem_append_right _ ?_ | refine List.Mem.tail _ ?_))) (o2.mono (fun _ _ h => by unfold IS at h ⊢; repeat (first | exact h | exact List.mem_append_left _ h | exact List.mem_append_right _ h | refine List.mem_append_right _ ?_ | refine List.Mem.tail _ ?_)))) (.cons ⟨_, _, rfl, TupS.is (by k_mem), _, _, rfl⟩ .nil)⟩

theorem alt_con (w : World) (l r : Tr) (C1 : VC w l) (C2 : VC w r) (hl : l.orders.length + r.orders.length ≤ 1000000) (u : Tok) (vl vr : Value) : PCon w 93 [.str (ss "|") u, vl, vr] (5 * max l.ht r.ht + 7) (50 * max l.ht r.ht + 120)
    (fun h => TreeS (HS h) vl l ∧ TreeS (HS h) vr r) (fun _ I x => OrdsIn I x (l.orders ++ r.orders ++ [.binary (ss "|")])) := by
  refine PCon.of fun A s Q E g hh hd hu hgg G hp hret => ?_
  obtain ⟨q1, q2⟩ := hp
  refine enterO (own := []) (binds := [(ss "op", .str (ss "|") u), (ss "left", vl), (ss "right", vr)]) hgg G own0 hret (B := ?B) (S := ?S) ?hB ?hS (by k_is) (by k_is) (lt0 (by assumption)) (BindsTo.of_eq rfl) (locs rfl) rfl rfl rfl (by decide) ?_
  case hB => conv => lhs; whnf
  case hS => conv => lhs; whnf
  have X := G.K
  clear hret G hgg
  intro s1 Q1 L loose mean mg mb T F N hret _
  k_steps
  refine use_pure (C1 (by first | exact sm1 ‹_› | exact sm3 ‹_› | exact sm2 ‹_› | exact sm4 ‹_› | exact Nat.le_trans ‹_› ‹_› | omega) _) hh (by show A.depth + 1 + _ < _; first | exact dlt (by assumption) (by decide) | exact dm1 (by assumption) (by first | exact Nat.le_refl _ | exact Nat.le_max_left _ _ | exact Nat.le_max_right _ _) (by decide) | exact dm0 (by assumption) (by first | exact Nat.le_refl _ | exact Nat.le_max_left _ _ | exact Nat.le_max_right _ _) (by decide) | exact dlt2 (by assumption) (by decide) | exact dlt1 (by assumption) (by decide) | omega) (by show A.units + 3 + _ < _; first | exact dlt (by assumption) (by decide) | exact dm1 (by assumption) (by first | exact Nat.le_refl _ | exact Nat.le_max_left _ _ | exact Nat.le_max_right _ _) (by decide) | exact dm0 (by assumption) (by first | exact Nat.le_refl _ | exact Nat.le_max_left _ _ | exact Nat.le_max_right _ _) (by decide) | exact dlt2 (by assumption) (by decide) | exact dlt1 (by assumption) (by decide) | omega) X T (by assumption) (by assumption) (tree_heap (by assumption) q1) ?_
  intro PQ
  intro r1 h1 tk1 I1 F1 N1 hne1 hp1
  obtain ⟨a1, vs1, n1, rfl, m1, o1⟩ := hp1
  simp only [List.nil_append, List.cons_append, List.append_assoc] at N1
  replace N1 := News.put N1 (q := (a1, lstO vs1 n1)) (by repeat (first | exact m1 | exact List.mem_append_left _ m1 | exact List.mem_append_right _ m1 | refine List.mem_append_right _ ?_ | refine List.Mem.tail _ ?_))
  have hl1 := o1.length
  k_steps
  refine use_pure (C2 (by first | exact sm1 ‹_› | exact sm3 ‹_› | exact sm2 ‹_› | exact sm4 ‹_› | exact Nat.le_trans ‹_› ‹_› | omega) _) hh (by show A.depth + 1 + _ < _; first | exact dlt (by assumption) (by decide) | exact dm1 (by assumption) (by first | exact Nat.le_refl _ | exact Nat.le_max_left _ _ | exact Nat.le_max_right _ _) (by decide) | exact dm0 (by assumption) (by first | exact Nat.le_refl _ | exact Nat.le_max_left _ _ | exact Nat.le_max_right _ _) (by decide) | exact dlt2 (by assumption) (by decide) | exact dlt1 (by assumption) (by decide) | omega) (by show A.units + 3 + _ < _; first | exact dlt (by assumption) (by decide) | exact dm1 (by assumption) (by first | exact Nat.le_refl _ | exact Nat.le_max_left _ _ | exact Nat.le_max_right _ _) (by decide) | exact dm0 (by assumption) (by first | exact Nat.le_refl _ | exact Nat.le_max_left _ _ | exact Nat.le_max_right _ _) (by decide) | exact dlt2 (by assumption) (by decide) | exact dlt1 (by assumption) (by decide) | omega) X T (by assumption) (by assumption) (tree_heap (by assumption) q2) ?_
  intro PQ
  intro r2 h2 tk2 I2 F2 N2 hne2 hp2
  obtain ⟨a2, vs2, n2, rfl, m2, o2⟩ := hp2
  simp only [List.nil_append, List.cons_append, List.append_assoc] at N2
  replace N2 := News.put N2 (q := (a2, lstO vs2 n2)) (by repeat (first | exact m2 | exact List.mem_append_left _ m2 | exact List.mem_append_right _ m2 | refine List.mem_append_right _ ?_ | refine List.Mem.tail _ ?_))
  have hl2 := o2.length
  k_steps
  exact hret _ _ _ _ (Fr.keep (by assumption)) (newsI (by assumption)) ⟨_, _, _, rfl, .head _, OrdsS.append (OrdsS.append (o1.mono (fun _ _ h => by unfold IS at h ⊢; repeat (first | exact h | exact List.mem_append_left _ h | exact List.mem_append_right _ h | refine List.mem_append_right _ ?_ | refine List.Mem.tail _ ?_))) (o2.mono (fun _ _ h => by unfold IS at h ⊢; repeat (first | exact h | exact List.mem_append_left _ h | exact List.mem_append_right _ h | refine List.mem_append_right _ ?_ | refine List.Mem.tail _ ?_)))) (.cons ⟨_, _, rfl, TupS.is (by k_mem), _, _, rfl⟩ .nil)⟩

theorem dot_con (w : World) (l : Tr) (C1 : VC w l) (hl : l.orders.length ≤ 1000000) (u : Tok) (vl vr : Value) : PCon w 93 [.str (ss ".") u, vl, vr] (5 * l.ht + 7) (50 * l.ht + 120)
    (fun h => TreeS (HS h) vl l ∧ NameS (HS h) vr (ss "B")) (fun _ I x => OrdsIn I x (l.orders ++ [.ref (ss "B")] ++ [.given])) := by
  refine PCon.of fun A s Q E g hh hd hu hgg G hp hret => ?_
  obtain ⟨q1, q2⟩ := hp
  refine enterO (own := []) (binds := [(ss "op", .str (ss ".") u), (ss "left", vl), (ss "right", vr)]) hgg G own0 hret (B := ?B) (S := ?S) ?hB ?hS (by k_is) (by k_is) (lt0 (by assumption)) (BindsTo.of_eq rfl) (locs rfl) rfl rfl rfl (by decide) ?_
  case hB => conv => lhs; whnf
  case hS => conv => lhs; whnf
  have X := G.K
  clear hret G hgg
  intro s1 Q1 L loose mean mg mb T F N hret _
  k_steps
  refine use_pure (C1 (by first | exact sm1 ‹_› | exact sm3 ‹_› | exact sm2 ‹_› | exact sm4 ‹_› | exact Nat.le_trans ‹_› ‹_› | omega) _) hh (by show A.depth + 1 + _ < _; first | exact dlt (by assumption) (by decide) | exact dm1 (by assumption) (by first | exact Nat.le_refl _ | exact Nat.le_max_left _ _ | exact Nat.le_max_right _ _) (by decide) | exact dm0 (by assumption) (by first | exact Nat.le_refl _ | exact Nat.le_max_left _ _ | exact Nat.le_max_right _ _) (by decide) | exact dlt2 (by assumption) (by decide) | exact dlt1 (by assumption) (by decide) | omega) (by show A.units + 3 + _ < _; first | exact dlt (by assumption) (by decide) | exact dm1 (by assumption) (by first | exact Nat.le_refl _ | exact Nat.le_max_left _ _ | exact Nat.le_max_right _ _) (by decide) | exact dm0 (by assumption) (by first | exact Nat.le_refl _ | exact Nat.le_max_left _ _ | exact Nat.le_max_right _ _) (by decide) | exact dlt2 (by assumption) (by decide) | exact dlt1 (by assumption) (by decide) | omega) X T (by assumption) (by assumption) (tree_heap (by assumption) q1) ?_
  intro PQ
  intro r1 h1 tk1 I1 F1 N1 hne1 hp1
  obtain ⟨a1, vs1, n1, rfl, m1, o1⟩ := hp1
  simp only [List.nil_append, List.cons_append, List.append_assoc] at N1
  replace N1 := News.put N1 (q := (a1, lstO vs1 n1)) (by repeat (first | exact m1 | exact List.mem_append_left _ m1 | exact List.mem_append_right _ m1 | refine List.mem_append_right _ ?_ | refine List.Mem.tail _ ?_))
  have hl1 := o1.length
  k_steps
  refine use_pure (name_con w _ _) hh (by show A.depth + 1 + _ < _; first | exact dlt (by assumption) (by decide) | exact dm1 (by assumption) (by first | exact Nat.le_refl _ | exact Nat.le_max_left _ _ | exact Nat.le_max_right _ _) (by decide) | exact dm0 (by assumption) (by first | exact Nat.le_refl _ | exact Nat.le_max_left _ _ | exact Nat.le_max_right _ _) (by decide) | exact dlt2 (by assumption) (by decide) | exact dlt1 (by assumption) (by decide) | omega) (by show A.units + 3 + _ < _; first | exact dlt (by assumption) (by decide) | exact dm1 (by assumption) (by first | exact Nat.le_refl _ | exact Nat.le_max_left _ _ | exact Nat.le_max_right _ _) (by decide) | exact dm0 (by assumption) (by first | exact Nat.le_refl _ | exact Nat.le_max_left _ _ | exact Nat.le_max_right _ _) (by decide) | exact dlt2 (by assumption) (by decide) | exact dlt1 (by assumption) (by decide) | omega) X T (by assumption) (by assumption) (name_heap (by assumption) q2) ?_
  intro PQ
  intro r2 h2 tk2 I2 F2 N2 hne2 hp2
  obtain ⟨a2, vs2, n2, rfl, m2, o2⟩ := hp2
  simp only [List.nil_append, List.cons_append, List.append_assoc] at N2
  replace N2 := News.put N2 (q := (a2, lstO vs2 n2)) (by repeat (first | exact m2 | exact List.mem_append_left _ m2 | exact List.mem_append_right _ m2 | refine List.mem_append_right _ ?_ | refine List.Mem.tail _ ?_))
  have hl2 := o2.length
  simp only [List.length_cons, List.length_nil] at hl2
  k_steps
  exact hret _ _ _ _ (Fr.keep (by assumption)) (newsI (by assumption)) ⟨_, _, _, rfl, .head _, OrdsS.append (OrdsS.append (o1.mono (fun _ _ h => by unfold IS at h ⊢; repeat (first | exact h | exact List.mem_append_left _ h | exact List.mem_append_right _ h | refine List.mem_append_right _ ?_ | refine List.Mem.tail _ ?_))) (o2.mono (fun _ _ h => by unfold IS at h ⊢; repeat (first | exact h | exact List.mem_append_left _ h | exact List.mem_append_right _ h | refine List.mem_append_right _ ?_ | refine List.Mem.tail _ ?_)))) (.cons ⟨_, _, rfl, TupS.is (by k_mem), _, _, rfl⟩ .nil)⟩
end
section
set_option maxHeartbeats 0
set_option rowWalk.seconds 0

local macro_rules | `(tactic| walk_at "exec For") => `(tactic| walk_at "call ref")
noncomputable def RowJ (m₀ : Str → Option Value) (f : Addr) (ts : List Tr) (i : Nat) (m : Str → Option Value) (nx : List (Addr × Obj)) : Prop :=
  ∃ u vs n tl, m = (fun y => if y = ss "tree" then u else m₀ y) ∧ nx = (f, lstO vs n) :: tl ∧ (∀ p ∈ tl, p.1 ≠ f) ∧ OrdsS (IS tl) vs ((ts.take i).flatMap Tr.orders)
theorem row_con (w : World) (ts : List Tr) (D : Nat) (hD : ∀ t ∈ ts, t.ht ≤ D) (C : ∀ t ∈ ts, VC w t) (hl : (ts.flatMap Tr.orders).length ≤ 1000000) (k : Addr) (vs : List Value) : PCon w 79 [.ref k] (5 * D + 7) (50 * D + 120)
    (fun h => TupS (HS h) k vs ∧ TreesS (HS h) vs ts) (fun _ I r => OrdsIn I r (ts.flatMap Tr.orders)) := by
  refine PCon.of fun A s Q E g hh hd hu hgg G hp hret => ?_
  obtain ⟨hT, q⟩ := hp
  replace hT := hT.heap
  refine enterO (own := []) (binds := [(ss "trees", .ref k)]) hgg G own0 hret (B := ?B) (S := ?S) ?hB ?hS (by k_is) (by k_is) (lt0 (by assumption)) (BindsTo.of_eq rfl) (locs rfl) rfl rfl rfl (by decide) ?_
  case hB => conv => lhs; whnf
  case hS => conv => lhs; whnf
  have X := G.K
  clear hret G hgg
  intro s1 Q1 L loose mean mg mb T F N hret _
  k_steps
  rename Fr _ _ _ _ => F; rename News _ _ _ _ => N
  rename_i lf _ _ _
  refine for_tuple (RowJ (fun y => if y = ss "found" then some (.ref lf) else List.lookup y [(ss "trees", .ref k)].reverse) lf ts) hh F N rfl hT rfl rfl rfl ?_ ?_ ?_
  · exact ⟨_, [], 0, [], upd_self _ (ss "tree"), rfl, (fun _ h => nomatch h), by simpa using .nil⟩
  · rintro i v m nx h tk I oI hv ⟨u, vs₁, n, tl, rfl, rfl, hne, ho⟩ F N off
    obtain ⟨t, ht, hq⟩ := q.get (by simpa using hv)
    have htm : t ∈ ts := List.mem_of_getElem? ht
    have hDt := hD t htm
    have hlt := flat_one Tr.orders ts t htm
    have hlo := ho.length
    have hli := flat_len Tr.orders ts i
    k_steps
    refine use_pure (C t htm (by first | exact sm1 ‹_› | exact sm3 ‹_› | exact sm2 ‹_› | exact sm4 ‹_› | exact Nat.le_trans ‹_› ‹_› | omega) _) hh (by show A.depth + 1 + _ < _; first | exact dlt (by assumption) (by decide) | exact dm1 (by assumption) (by first | exact Nat.le_refl _ | exact Nat.le_max_left _ _ | exact Nat.le_max_right _ _) (by decide) | exact dm0 (by assumption) (by first | exact Nat.le_refl _ | exact Nat.le_max_left _ _ | exact Nat.le_max_right _ _) (by decide) | exact dlt2 (by assumption) (by decide) | exact dlt1 (by assumption) (by decide) | exact dh ‹_› ‹_› (by decide) | exact dh0 ‹_› ‹_› (by decide) | exact dhs ‹_› ‹_› (by decide) | exact dm0 ‹_› ‹_› (by decide) | exact dl3 ‹_› (by decide) | exact dlt2 ‹_› (by decide) | omega) (by show A.units + 3 + _ < _; first | exact dlt (by assumption) (by decide) | exact dm1 (by assumption) (by first | exact Nat.le_refl _ | exact Nat.le_max_left _ _ | exact Nat.le_max_right _ _) (by decide) | exact dm0 (by assumption) (by first | exact Nat.le_refl _ | exact Nat.le_max_left _ _ | exact Nat.le_max_right _ _) (by decide) | exact dlt2 (by assumption) (by decide) | exact dlt1 (by assumption) (by decide) | exact dh ‹_› ‹_› (by decide) | exact dh0 ‹_› ‹_› (by decide) | exact dhs ‹_› ‹_› (by decide) | exact dm0 ‹_› ‹_› (by decide) | exact dl3 ‹_› (by decide) | exact dlt2 ‹_› (by decide) | omega) X T (by assumption) (by assumption) (tree_heap (by assumption) hq) ?_
    intro PQ
    intro r1 h1 tk1 I1 F1 N1 hne1 hp1
    obtain ⟨a1, vs1, n1, rfl, m1, o1⟩ := hp1
    simp only [List.nil_append, List.cons_append, List.append_assoc] at N1
    replace N1 := News.put N1 (q := (a1, lstO vs1 n1)) (by repeat (first | exact m1 | exact List.mem_append_left _ m1 | exact List.mem_append_right _ m1 | refine List.mem_append_right _ ?_ | refine List.Mem.tail _ ?_))
    have hl1 := o1.length
    k_steps
    have hla : lf ≠ a1 := hne1 _ m1 (lf, lstO vs₁ n) (by simp)
    have hlI : lf ≠ I := off (lf, lstO vs₁ n) (by simp)
    refine extend_in (own := [(a1, lstO vs1 n1), (I, oI)]) (rest := tl ++ I1) (ys := vs₁) F1 N1 (apart2 (Ne.symm hla) (Ne.symm hlI)) (fun p hp e => ?_) (N1 _ (.head _)).1 (fun h2 n2 F2 N2 => ?_) (by simp only [List.size_toArray]; rw [sizeLine_eq]; omega)
    · rcases List.mem_append.mp hp with hp | hp
      · exact hne p hp e
      · exact hne1 p hp (lf, lstO vs₁ n) (by simp) e.symm
    k_steps
    refine FPost.next F2 N2 (nx' := (lf, lstO (vs₁ ++ vs1) n2) :: (tl ++ I1)) ?_ ?_ ⟨_, _, _, _, upd_upd _ _ _ _, rfl, ?_, ?_⟩
    · intro p hp
      simp only [List.mem_cons, List.mem_append, List.cons_append, List.nil_append] at hp ⊢
      rcases hp with rfl | rfl | hp
      · simp
      · simp
      · simp [hp]
    · intro p hp e
      rcases List.mem_cons.mp hp with rfl | hp
      · exact hlI e
      · rcases List.mem_append.mp hp with hp | hp
        · exact off p (by simp [hp]) e
        · exact hne1 p hp (I, oI) (by simp) e.symm
    · intro p hp e
      rcases List.mem_append.mp hp with hp | hp
      · exact hne p hp e
      · exact hne1 p hp (lf, lstO vs₁ n) (by simp) e.symm
    · rw [flat_take Tr.orders ts i t ht]
      exact (ho.mono fun _ _ h => List.mem_append_left _ h).append (o1.mono fun _ _ h => List.mem_append_right _ h)
  · rintro m nx h tk ⟨u, vs₁, n, tl, rfl, rfl, hne, ho⟩ F N
    k_steps
    rw [List.take_of_length_le (by rw [← q.length]; simp)] at ho
    exact hret _ _ _ _ F.keep (newsI N) ⟨_, _, _, rfl, .head _, ho.mono fun _ _ h => .tail _ h⟩
end
section
set_option maxHeartbeats 0
set_option rowWalk.seconds 0

theorem value_name (w : World) (x : Str) : VC w (.name x) := by
  intro hz v
  refine PCon.of fun A s Q E g hh hd hu hgg G hp hret => ?_
  simp only [Tr.orders_name, Tr.orders_text, Tr.orders_join, Tr.orders_plus, Tr.orders_alt, Tr.orders_dot, Tr.orders_neg, Tr.orders_quest, Tr.orders_dollar, Tr.orders_tilde, Tr.orders_item1, Tr.orders_item2, Tr.orders_call0, Tr.orders_call1, Tr.orders_call2, Tr.ht_name, Tr.ht_text, Tr.ht_join, Tr.ht_plus, Tr.ht_alt, Tr.ht_dot, Tr.ht_neg, Tr.ht_quest, Tr.ht_dollar, Tr.ht_tilde, Tr.ht_item1, Tr.ht_item2, Tr.ht_call0, Tr.ht_call1, Tr.ht_call2, List.length_append, List.length_cons, List.length_nil] at hz hd hu hret
  obtain ⟨a, t, u, rfl, hT⟩ := hp
  replace hT := hT.heap
  refine enterO (own := []) (binds := [(ss "tree", .ref a)]) hgg G own0 hret (B := ?B) (S := ?S) ?hB ?hS (by k_is) (by k_is) (lt0 (by assumption)) (BindsTo.of_eq rfl) (locs rfl) rfl rfl rfl (by decide) ?_
  case hB => conv => lhs; whnf
  case hS => conv => lhs; whnf
  have X := G.K
  clear hret G hgg
  intro s1 Q1 L loose mean mg mb T F N hret _
  k_steps
  exact hret _ _ _ _ (Fr.keep (by assumption)) (newsI (by assumption)) ⟨_, _, _, rfl, .head _, .cons ⟨_, _, rfl, TupS.is (by k_mem), _, _, rfl⟩ .nil⟩

theorem value_text (w : World) : VC w .text := by
  intro hz v
  refine PCon.of fun A s Q E g hh hd hu hgg G hp hret => ?_
  simp only [Tr.orders_name, Tr.orders_text, Tr.orders_join, Tr.orders_plus, Tr.orders_alt, Tr.orders_dot, Tr.orders_neg, Tr.orders_quest, Tr.orders_dollar, Tr.orders_tilde, Tr.orders_item1, Tr.orders_item2, Tr.orders_call0, Tr.orders_call1, Tr.orders_call2, Tr.ht_name, Tr.ht_text, Tr.ht_join, Tr.ht_plus, Tr.ht_alt, Tr.ht_dot, Tr.ht_neg, Tr.ht_quest, Tr.ht_dollar, Tr.ht_tilde, Tr.ht_item1, Tr.ht_item2, Tr.ht_call0, Tr.ht_call1, Tr.ht_call2, List.length_append, List.length_cons, List.length_nil] at hz hd hu hret
  obtain ⟨a, t, u, rfl, hT⟩ := hp
  replace hT := hT.heap
  refine enterO (own := []) (binds := [(ss "tree", .ref a)]) hgg G own0 hret (B := ?B) (S := ?S) ?hB ?hS (by k_is) (by k_is) (lt0 (by assumption)) (BindsTo.of_eq rfl) (locs rfl) rfl rfl rfl (by decide) ?_
  case hB => conv => lhs; whnf
  case hS => conv => lhs; whnf
  have X := G.K
  clear hret G hgg
  intro s1 Q1 L loose mean mg mb T F N hret _
  k_steps
  exact hret _ _ _ _ (Fr.keep (by assumption)) (newsI (by assumption)) ⟨_, _, _, rfl, .head _, .cons ⟨_, _, rfl, TupS.is (by k_mem), _, _, rfl⟩ .nil⟩

theorem value_join (w : World) (l r : Tr) (C1 : VC w l) (C2 : VC w r) : VC w (.join l r) := by
  intro hz v
  refine PCon.of fun A s Q E g hh hd hu hgg G hp hret => ?_
  simp only [Tr.orders_name, Tr.orders_text, Tr.orders_join, Tr.orders_plus, Tr.orders_alt, Tr.orders_dot, Tr.orders_neg, Tr.orders_quest, Tr.orders_dollar, Tr.orders_tilde, Tr.orders_item1, Tr.orders_item2, Tr.orders_call0, Tr.orders_call1, Tr.orders_call2, Tr.ht_name, Tr.ht_text, Tr.ht_join, Tr.ht_plus, Tr.ht_alt, Tr.ht_dot, Tr.ht_neg, Tr.ht_quest, Tr.ht_dollar, Tr.ht_tilde, Tr.ht_item1, Tr.ht_item2, Tr.ht_call0, Tr.ht_call1, Tr.ht_call2, List.length_append, List.length_cons, List.length_nil] at hz hd hu hret
  obtain ⟨a, t, vl, vr, rfl, hT, q1, q2⟩ := hp
  replace hT := hT.heap
  refine enterO (own := []) (binds := [(ss "tree", .ref a)]) hgg G own0 hret (B := ?B) (S := ?S) ?hB ?hS (by k_is) (by k_is) (lt0 (by assumption)) (BindsTo.of_eq rfl) (locs rfl) rfl rfl rfl (by decide) ?_
  case hB => conv => lhs; whnf
  case hS => conv => lhs; whnf
  have X := G.K
  clear hret G hgg
  intro s1 Q1 L loose mean mg mb T F N hret _
  k_steps
  refine use_pure (C1 (by first | exact sm1 ‹_› | exact sm3 ‹_› | exact sm2 ‹_› | exact sm4 ‹_› | exact Nat.le_trans ‹_› ‹_› | omega) _) hh (by show A.depth + 1 + _ < _; first | exact dlt (by assumption) (by decide) | exact dm1 (by assumption) (by first | exact Nat.le_refl _ | exact Nat.le_max_left _ _ | exact Nat.le_max_right _ _) (by decide) | exact dm0 (by assumption) (by first | exact Nat.le_refl _ | exact Nat.le_max_left _ _ | exact Nat.le_max_right _ _) (by decide) | exact dlt2 (by assumption) (by decide) | exact dlt1 (by assumption) (by decide) | omega) (by show A.units + 3 + _ < _; first | exact dlt (by assumption) (by decide) | exact dm1 (by assumption) (by first | exact Nat.le_refl _ | exact Nat.le_max_left _ _ | exact Nat.le_max_right _ _) (by decide) | exact dm0 (by assumption) (by first | exact Nat.le_refl _ | exact Nat.le_max_left _ _ | exact Nat.le_max_right _ _) (by decide) | exact dlt2 (by assumption) (by decide) | exact dlt1 (by assumption) (by decide) | omega) X T (by assumption) (by assumption) (tree_heap (by assumption) q1) ?_
  intro PQ
  intro r1 h1 tk1 I1 F1 N1 hne1 hp1
  obtain ⟨a1, vs1, n1, rfl, m1, o1⟩ := hp1
  simp only [List.nil_append, List.cons_append, List.append_assoc] at N1
  replace N1 := News.put N1 (q := (a1, lstO vs1 n1)) (by repeat (first | exact m1 | exact List.mem_append_left _ m1 | exact List.mem_append_right _ m1 | refine List.mem_append_right _ ?_ | refine List.Mem.tail _ ?_))
  have hl1 := o1.length
  k_steps
  refine use_pure (C2 (by first | exact sm1 ‹_› | exact sm3 ‹_› | exact sm2 ‹_› | exact sm4 ‹_› | exact Nat.le_trans ‹_› ‹_› | omega) _) hh (by show A.depth + 1 + _ < _; first | exact dlt (by assumption) (by decide) | exact dm1 (by assumption) (by first | exact Nat.le_refl _ | exact Nat.le_max_left _ _ | exact Nat.le_max_right _ _) (by decide) | exact dm0 (by assumption) (by first | exact Nat.le_refl _ | exact Nat.le_max_left _ _ | exact Nat.le_max_right _ _) (by decide) | exact dlt2 (by assumption) (by decide) | exact dlt1 (by assumption) (by decide) | omega) (by show A.units + 3 + _ < _; first | exact dlt (by assumption) (by decide) | exact dm1 (by assumption) (by first | exact Nat.le_refl _ | exact Nat.le_max_left _ _ | exact Nat.le_max_right _ _) (by decide) | exact dm0 (by assumption) (by first | exact Nat.le_refl _ | exact Nat.le_max_left _ _ | exact Nat.le_max_right _ _) (by decide) | exact dlt2 (by assumption) (by decide) | exact dlt1 (by assumption) (by decide) | omega) X T (by assumption) (by assumption) (tree_heap (by assumption) q2) ?_
  intro PQ
  intro r2 h2 tk2 I2 F2 N2 hne2 hp2
  obtain ⟨a2, vs2, n2, rfl, m2, o2⟩ := hp2
  simp only [List.nil_append, List.cons_append, List.append_assoc] at N2
  replace N2 := News.put N2 (q := (a2, lstO vs2 n2)) (by repeat (first | exact m2 | exact List.mem_append_left _ m2 | exact List.mem_append_right _ m2 | refine List.mem_append_right _ ?_ | refine List.Mem.tail _ ?_))
  have hl2 := o2.length
  k_steps
  exact hret _ _ _ _ (Fr.keep (by assumption)) (newsI (by assumption)) ⟨_, _, _, rfl, .head _, OrdsS.append (OrdsS.append (o1.mono (fun _ _ h => by unfold IS at h ⊢; repeat (first | exact h | exact List.mem_append_left _ h | exact List.mem_append_right _ h | refine List.mem_append_right _ ?_ | refine List.Mem.tail _ ?_))) (o2.mono (fun _ _ h => by unfold IS at h ⊢; repeat (first | exact h | exact List.mem_append_left _ h | exact List.mem_append_right _ h | refine List.mem_append_right _ ?_ | refine List.Mem.tail _ ?_)))) (.cons ⟨_, _, rfl, TupS.is (by k_mem), _, rfl⟩ .nil)⟩

theorem value_plus (w : World) (l r : Tr) (C1 : VC w l) (C2 : VC w r) : VC w (.plus l r) := by
  intro hz v
  refine PCon.of fun A s Q E g hh hd hu hgg G hp hret => ?_
  simp only [Tr.orders_name, Tr.orders_text, Tr.orders_join, Tr.orders_plus, Tr.orders_alt, Tr.orders_dot, Tr.orders_neg, Tr.orders_quest, Tr.orders_dollar, Tr.orders_tilde, Tr.orders_item1, Tr.orders_item2, Tr.orders_call0, Tr.orders_call1, Tr.orders_call2, Tr.ht_name, Tr.ht_text, Tr.ht_join, Tr.ht_plus, Tr.ht_alt, Tr.ht_dot, Tr.ht_neg, Tr.ht_quest, Tr.ht_dollar, Tr.ht_tilde, Tr.ht_item1, Tr.ht_item2, Tr.ht_call0, Tr.ht_call1, Tr.ht_call2, List.length_append, List.length_cons, List.length_nil] at hz hd hu hret
  obtain ⟨a, t, u, vl, vr, rfl, hT, q1, q2⟩ := hp
  replace hT := hT.heap
  refine enterO (own := []) (binds := [(ss "tree", .ref a)]) hgg G own0 hret (B := ?B) (S := ?S) ?hB ?hS (by k_is) (by k_is) (lt0 (by assumption)) (BindsTo.of_eq rfl) (locs rfl) rfl rfl rfl (by decide) ?_
  case hB => conv => lhs; whnf
  case hS => conv => lhs; whnf
  have X := G.K
  clear hret G hgg
  intro s1 Q1 L loose mean mg mb T F N hret _
  k_steps
  refine use_pure (plus_con w l r C1 C2 (by first | exact sm1 ‹_› | exact sm3 ‹_› | exact sm2 ‹_› | exact sm4 ‹_› | exact Nat.le_trans ‹_› ‹_› | omega) _ _ _) hh (by show A.depth + 1 + _ < _; first | exact dlt (by assumption) (by decide) | exact dm1 (by assumption) (by first | exact Nat.le_refl _ | exact Nat.le_max_left _ _ | exact Nat.le_max_right _ _) (by decide) | exact dm0 (by assumption) (by first | exact Nat.le_refl _ | exact Nat.le_max_left _ _ | exact Nat.le_max_right _ _) (by decide) | exact dlt2 (by assumption) (by decide) | exact dlt1 (by assumption) (by decide) | omega) (by show A.units + 3 + _ < _; first | exact dlt (by assumption) (by decide) | exact dm1 (by assumption) (by first | exact Nat.le_refl _ | exact Nat.le_max_left _ _ | exact Nat.le_max_right _ _) (by decide) | exact dm0 (by assumption) (by first | exact Nat.le_refl _ | exact Nat.le_max_left _ _ | exact Nat.le_max_right _ _) (by decide) | exact dlt2 (by assumption) (by decide) | exact dlt1 (by assumption) (by decide) | omega) X T (by assumption) (by assumption) (⟨tree_heap (by assumption) q1, tree_heap (by assumption) q2⟩) ?_
  intro PQ
  intro r1 h1 tk1 I1 F1 N1 hne1 hp1
  k_steps
  simp only [List.nil_append] at N1
  exact hret _ _ _ _ F1.keep (newsI N1) hp1

theorem value_alt (w : World) (l r : Tr) (C1 : VC w l) (C2 : VC w r) : VC w (.alt l r) := by
  intro hz v
  refine PCon.of fun A s Q E g hh hd hu hgg G hp hret => ?_
  simp only [Tr.orders_name, Tr.orders_text, Tr.orders_join, Tr.orders_plus, Tr.orders_alt, Tr.orders_dot, Tr.orders_neg, Tr.orders_quest, Tr.orders_dollar, Tr.orders_tilde, Tr.orders_item1, Tr.orders_item2, Tr.orders_call0, Tr.orders_call1, Tr.orders_call2, Tr.ht_name, Tr.ht_text, Tr.ht_join, Tr.ht_plus, Tr.ht_alt, Tr.ht_dot, Tr.ht_neg, Tr.ht_quest, Tr.ht_dollar, Tr.ht_tilde, Tr.ht_item1, Tr.ht_item2, Tr.ht_call0, Tr.ht_call1, Tr.ht_call2, List.length_append, List.length_cons, List.length_nil] at hz hd hu hret
  obtain ⟨a, t, u, vl, vr, rfl, hT, q1, q2⟩ := hp
  replace hT := hT.heap
  refine enterO (own := []) (binds := [(ss "tree", .ref a)]) hgg G own0 hret (B := ?B) (S := ?S) ?hB ?hS (by k_is) (by k_is) (lt0 (by assumption)) (BindsTo.of_eq rfl) (locs rfl) rfl rfl rfl (by decide) ?_
  case hB => conv => lhs; whnf
  case hS => conv => lhs; whnf
  have X := G.K
  clear hret G hgg
  intro s1 Q1 L loose mean mg mb T F N hret _
  k_steps
  refine use_pure (alt_con w l r C1 C2 (by first | exact sm1 ‹_› | exact sm3 ‹_› | exact sm2 ‹_› | exact sm4 ‹_› | exact Nat.le_trans ‹_› ‹_› | omega) _ _ _) hh (by show A.depth + 1 + _ < _; first | exact dlt (by assumption) (by decide) | exact dm1 (by assumption) (by first | exact Nat.le_refl _ | exact Nat.le_max_left _ _ | exact Nat.le_max_right _ _) (by decide) | exact dm0 (by assumption) (by first | exact Nat.le_refl _ | exact Nat.le_max_left _ _ | exact Nat.le_max_right _ _) (by decide) | exact dlt2 (by assumption) (by decide) | exact dlt1 (by assumption) (by decide) | omega) (by show A.units + 3 + _ < _; first | exact dlt (by assumption) (by decide) | exact dm1 (by assumption) (by first | exact Nat.le_refl _ | exact Nat.le_max_left _ _ | exact Nat.le_max_right _ _) (by decide) | exact dm0 (by assumption) (by first | exact Nat.le_refl _ | exact Nat.le_max_left _ _ | exact Nat.le_max_right _ _) (by decide) | exact dlt2 (by assumption) (by decide) | exact dlt1 (by assumption) (by decide) | omega) X T (by assumption) (by assumption) (⟨tree_heap (by assumption) q1, tree_heap (by assumption) q2⟩) ?_
  intro PQ
  intro r1 h1 tk1 I1 F1 N1 hne1 hp1
  k_steps
  simp only [List.nil_append] at N1
  exact hret _ _ _ _ F1.keep (newsI N1) hp1

theorem value_dot (w : World) (l : Tr) (C1 : VC w l) : VC w (.dot l) := by
  intro hz v
  refine PCon.of fun A s Q E g hh hd hu hgg G hp hret => ?_
  simp only [Tr.orders_name, Tr.orders_text, Tr.orders_join, Tr.orders_plus, Tr.orders_alt, Tr.orders_dot, Tr.orders_neg, Tr.orders_quest, Tr.orders_dollar, Tr.orders_tilde, Tr.orders_item1, Tr.orders_item2, Tr.orders_call0, Tr.orders_call1, Tr.orders_call2, Tr.ht_name, Tr.ht_text, Tr.ht_join, Tr.ht_plus, Tr.ht_alt, Tr.ht_dot, Tr.ht_neg, Tr.ht_quest, Tr.ht_dollar, Tr.ht_tilde, Tr.ht_item1, Tr.ht_item2, Tr.ht_call0, Tr.ht_call1, Tr.ht_call2, List.length_append, List.length_cons, List.length_nil] at hz hd hu hret
  obtain ⟨a, t, u, vl, vr, rfl, hT, q1, q2⟩ := hp
  replace hT := hT.heap
  refine enterO (own := []) (binds := [(ss "tree", .ref a)]) hgg G own0 hret (B := ?B) (S := ?S) ?hB ?hS (by k_is) (by k_is) (lt0 (by assumption)) (BindsTo.of_eq rfl) (locs rfl) rfl rfl rfl (by decide) ?_
  case hB => conv => lhs; whnf
  case hS => conv => lhs; whnf
  have X := G.K
  clear hret G hgg
  intro s1 Q1 L loose mean mg mb T F N hret _
  k_steps
  refine use_pure (dot_con w l C1 (by first | exact sm1 ‹_› | exact sm3 ‹_› | exact sm2 ‹_› | exact sm4 ‹_› | exact Nat.le_trans ‹_› ‹_› | omega) _ _ _) hh (by show A.depth + 1 + _ < _; first | exact dlt (by assumption) (by decide) | exact dm1 (by assumption) (by first | exact Nat.le_refl _ | exact Nat.le_max_left _ _ | exact Nat.le_max_right _ _) (by decide) | exact dm0 (by assumption) (by first | exact Nat.le_refl _ | exact Nat.le_max_left _ _ | exact Nat.le_max_right _ _) (by decide) | exact dlt2 (by assumption) (by decide) | exact dlt1 (by assumption) (by decide) | omega) (by show A.units + 3 + _ < _; first | exact dlt (by assumption) (by decide) | exact dm1 (by assumption) (by first | exact Nat.le_refl _ | exact Nat.le_max_left _ _ | exact Nat.le_max_right _ _) (by decide) | exact dm0 (by assumption) (by first | exact Nat.le_refl _ | exact Nat.le_max_left _ _ | exact Nat.le_max_right _ _) (by decide) | exact dlt2 (by assumption) (by decide) | exact dlt1 (by assumption) (by decide) | omega) X T (by assumption) (by assumption) (⟨tree_heap (by assumption) q1, name_heap (by assumption) q2⟩) ?_
  intro PQ
  intro r1 h1 tk1 I1 F1 N1 hne1 hp1
  k_steps
  simp only [List.nil_append] at N1
  exact hret _ _ _ _ F1.keep (newsI N1) hp1

theorem value_neg (w : World) (x : Tr) (C1 : VC w x) : VC w (.neg x) := by
  intro hz v
  refine PCon.of fun A s Q E g hh hd hu hgg G hp hret => ?_
  simp only [Tr.orders_name, Tr.orders_text, Tr.orders_join, Tr.orders_plus, Tr.orders_alt, Tr.orders_dot, Tr.orders_neg, Tr.orders_quest, Tr.orders_dollar, Tr.orders_tilde, Tr.orders_item1, Tr.orders_item2, Tr.orders_call0, Tr.orders_call1, Tr.orders_call2, Tr.ht_name, Tr.ht_text, Tr.ht_join, Tr.ht_plus, Tr.ht_alt, Tr.ht_dot, Tr.ht_neg, Tr.ht_quest, Tr.ht_dollar, Tr.ht_tilde, Tr.ht_item1, Tr.ht_item2, Tr.ht_call0, Tr.ht_call1, Tr.ht_call2, List.length_append, List.length_cons, List.length_nil] at hz hd hu hret
  obtain ⟨a, t, u, vx, rfl, hT, q1⟩ := hp
  replace hT := hT.heap
  refine enterO (own := []) (binds := [(ss "tree", .ref a)]) hgg G own0 hret (B := ?B) (S := ?S) ?hB ?hS (by k_is) (by k_is) (lt0 (by assumption)) (BindsTo.of_eq rfl) (locs rfl) rfl rfl rfl (by decide) ?_
  case hB => conv => lhs; whnf
  case hS => conv => lhs; whnf
  have X := G.K
  clear hret G hgg
  intro s1 Q1 L loose mean mg mb T F N hret _
  k_steps
  refine use_pure (neg_con w x C1 (by first | exact sm1 ‹_› | exact sm3 ‹_› | exact sm2 ‹_› | exact sm4 ‹_› | exact Nat.le_trans ‹_› ‹_› | omega) _ _) hh (by show A.depth + 1 + _ < _; first | exact dlt (by assumption) (by decide) | exact dm1 (by assumption) (by first | exact Nat.le_refl _ | exact Nat.le_max_left _ _ | exact Nat.le_max_right _ _) (by decide) | exact dm0 (by assumption) (by first | exact Nat.le_refl _ | exact Nat.le_max_left _ _ | exact Nat.le_max_right _ _) (by decide) | exact dlt2 (by assumption) (by decide) | exact dlt1 (by assumption) (by decide) | omega) (by show A.units + 3 + _ < _; first | exact dlt (by assumption) (by decide) | exact dm1 (by assumption) (by first | exact Nat.le_refl _ | exact Nat.le_max_left _ _ | exact Nat.le_max_right _ _) (by decide) | exact dm0 (by assumption) (by first | exact Nat.le_refl _ | exact Nat.le_max_left _ _ | exact Nat.le_max_right _ _) (by decide) | exact dlt2 (by assumption) (by decide) | exact dlt1 (by assumption) (by decide) | omega) X T (by assumption) (by assumption) (tree_heap (by assumption) q1) ?_
  intro PQ
  intro r1 h1 tk1 I1 F1 N1 hne1 hp1
  k_steps
  simp only [List.nil_append] at N1
  exact hret _ _ _ _ F1.keep (newsI N1) hp1

theorem value_quest (w : World) (x : Tr) (C1 : VC w x) : VC w (.quest x) := by
  intro hz v
  refine PCon.of fun A s Q E g hh hd hu hgg G hp hret => ?_
  simp only [Tr.orders_name, Tr.orders_text, Tr.orders_join, Tr.orders_plus, Tr.orders_alt, Tr.orders_dot, Tr.orders_neg, Tr.orders_quest, Tr.orders_dollar, Tr.orders_tilde, Tr.orders_item1, Tr.orders_item2, Tr.orders_call0, Tr.orders_call1, Tr.orders_call2, Tr.ht_name, Tr.ht_text, Tr.ht_join, Tr.ht_plus, Tr.ht_alt, Tr.ht_dot, Tr.ht_neg, Tr.ht_quest, Tr.ht_dollar, Tr.ht_tilde, Tr.ht_item1, Tr.ht_item2, Tr.ht_call0, Tr.ht_call1, Tr.ht_call2, List.length_append, List.length_cons, List.length_nil] at hz hd hu hret
  obtain ⟨a, t, u, vx, rfl, hT, q1⟩ := hp
  replace hT := hT.heap
  refine enterO (own := []) (binds := [(ss "tree", .ref a)]) hgg G own0 hret (B := ?B) (S := ?S) ?hB ?hS (by k_is) (by k_is) (lt0 (by assumption)) (BindsTo.of_eq rfl) (locs rfl) rfl rfl rfl (by decide) ?_
  case hB => conv => lhs; whnf
  case hS => conv => lhs; whnf
  have X := G.K
  clear hret G hgg
  intro s1 Q1 L loose mean mg mb T F N hret _
  k_steps
  refine use_pure (quest_con w x C1 (by first | exact sm1 ‹_› | exact sm3 ‹_› | exact sm2 ‹_› | exact sm4 ‹_› | exact Nat.le_trans ‹_› ‹_› | omega) _ _) hh (by show A.depth + 1 + _ < _; first | exact dlt (by assumption) (by decide) | exact dm1 (by assumption) (by first | exact Nat.le_refl _ | exact Nat.le_max_left _ _ | exact Nat.le_max_right _ _) (by decide) | exact dm0 (by assumption) (by first | exact Nat.le_refl _ | exact Nat.le_max_left _ _ | exact Nat.le_max_right _ _) (by decide) | exact dlt2 (by assumption) (by decide) | exact dlt1 (by assumption) (by decide) | omega) (by show A.units + 3 + _ < _; first | exact dlt (by assumption) (by decide) | exact dm1 (by assumption) (by first | exact Nat.le_refl _ | exact Nat.le_max_left _ _ | exact Nat.le_max_right _ _) (by decide) | exact dm0 (by assumption) (by first | exact Nat.le_refl _ | exact Nat.le_max_left _ _ | exact Nat.le_max_right _ _) (by decide) | exact dlt2 (by assumption) (by decide) | exact dlt1 (by assumption) (by decide) | omega) X T (by assumption) (by assumption) (tree_heap (by assumption) q1) ?_
  intro PQ
  intro r1 h1 tk1 I1 F1 N1 hne1 hp1
  k_steps
  simp only [List.nil_append] at N1
  exact hret _ _ _ _ F1.keep (newsI N1) hp1

theorem value_dollar (w : World) (x : Tr) (C1 : VC w x) : VC w (.dollar x) := by
  intro hz v
  refine PCon.of fun A s Q E g hh hd hu hgg G hp hret => ?_
  simp only [Tr.orders_name, Tr.orders_text, Tr.orders_join, Tr.orders_plus, Tr.orders_alt, Tr.orders_dot, Tr.orders_neg, Tr.orders_quest, Tr.orders_dollar, Tr.orders_tilde, Tr.orders_item1, Tr.orders_item2, Tr.orders_call0, Tr.orders_call1, Tr.orders_call2, Tr.ht_name, Tr.ht_text, Tr.ht_join, Tr.ht_plus, Tr.ht_alt, Tr.ht_dot, Tr.ht_neg, Tr.ht_quest, Tr.ht_dollar, Tr.ht_tilde, Tr.ht_item1, Tr.ht_item2, Tr.ht_call0, Tr.ht_call1, Tr.ht_call2, List.length_append, List.length_cons, List.length_nil] at hz hd hu hret
  obtain ⟨a, t, u, vx, rfl, hT, q1⟩ := hp
  replace hT := hT.heap
  refine enterO (own := []) (binds := [(ss "tree", .ref a)]) hgg G own0 hret (B := ?B) (S := ?S) ?hB ?hS (by k_is) (by k_is) (lt0 (by assumption)) (BindsTo.of_eq rfl) (locs rfl) rfl rfl rfl (by decide) ?_
  case hB => conv => lhs; whnf
  case hS => conv => lhs; whnf
  have X := G.K
  clear hret G hgg
  intro s1 Q1 L loose mean mg mb T F N hret _
  k_steps
  refine use_pure (dollar_con w x C1 (by first | exact sm1 ‹_› | exact sm3 ‹_› | exact sm2 ‹_› | exact sm4 ‹_› | exact Nat.le_trans ‹_› ‹_› | omega) _ _) hh (by show A.depth + 1 + _ < _; first | exact dlt (by assumption) (by decide) | exact dm1 (by assumption) (by first | exact Nat.le_refl _ | exact Nat.le_max_left _ _ | exact Nat.le_max_right _ _) (by decide) | exact dm0 (by assumption) (by first | exact Nat.le_refl _ | exact Nat.le_max_left _ _ | exact Nat.le_max_right _ _) (by decide) | exact dlt2 (by assumption) (by decide) | exact dlt1 (by assumption) (by decide) | omega) (by show A.units + 3 + _ < _; first | exact dlt (by assumption) (by decide) | exact dm1 (by assumption) (by first | exact Nat.le_refl _ | exact Nat.le_max_left _ _ | exact Nat.le_max_right _ _) (by decide) | exact dm0 (by assumption) (by first | exact Nat.le_refl _ | exact Nat.le_max_left _ _ | exact Nat.le_max_right _ _) (by decide) | exact dlt2 (by assumption) (by decide) | exact dlt1 (by assumption) (by decide) | omega) X T (by assumption) (by assumption) (tree_heap (by assumption) q1) ?_
  intro PQ
  intro r1 h1 tk1 I1 F1 N1 hne1 hp1
  k_steps
  simp only [List.nil_append] at N1
  exact hret _ _ _ _ F1.keep (newsI N1) hp1

theorem value_tilde (w : World) (x : Tr) (C1 : VC w x) : VC w (.tilde x) := by
  intro hz v
  refine PCon.of fun A s Q E g hh hd hu hgg G hp hret => ?_
  simp only [Tr.orders_name, Tr.orders_text, Tr.orders_join, Tr.orders_plus, Tr.orders_alt, Tr.orders_dot, Tr.orders_neg, Tr.orders_quest, Tr.orders_dollar, Tr.orders_tilde, Tr.orders_item1, Tr.orders_item2, Tr.orders_call0, Tr.orders_call1, Tr.orders_call2, Tr.ht_name, Tr.ht_text, Tr.ht_join, Tr.ht_plus, Tr.ht_alt, Tr.ht_dot, Tr.ht_neg, Tr.ht_quest, Tr.ht_dollar, Tr.ht_tilde, Tr.ht_item1, Tr.ht_item2, Tr.ht_call0, Tr.ht_call1, Tr.ht_call2, List.length_append, List.length_cons, List.length_nil] at hz hd hu hret
  obtain ⟨a, t, u, vx, rfl, hT, q1⟩ := hp
  replace hT := hT.heap
  refine enterO (own := []) (binds := [(ss "tree", .ref a)]) hgg G own0 hret (B := ?B) (S := ?S) ?hB ?hS (by k_is) (by k_is) (lt0 (by assumption)) (BindsTo.of_eq rfl) (locs rfl) rfl rfl rfl (by decide) ?_
  case hB => conv => lhs; whnf
  case hS => conv => lhs; whnf
  have X := G.K
  clear hret G hgg
  intro s1 Q1 L loose mean mg mb T F N hret _
  k_steps
  refine use_pure (tilde_con w x C1 (by first | exact sm1 ‹_› | exact sm3 ‹_› | exact sm2 ‹_› | exact sm4 ‹_› | exact Nat.le_trans ‹_› ‹_› | omega) _ _) hh (by show A.depth + 1 + _ < _; first | exact dlt (by assumption) (by decide) | exact dm1 (by assumption) (by first | exact Nat.le_refl _ | exact Nat.le_max_left _ _ | exact Nat.le_max_right _ _) (by decide) | exact dm0 (by assumption) (by first | exact Nat.le_refl _ | exact Nat.le_max_left _ _ | exact Nat.le_max_right _ _) (by decide) | exact dlt2 (by assumption) (by decide) | exact dlt1 (by assumption) (by decide) | omega) (by show A.units + 3 + _ < _; first | exact dlt (by assumption) (by decide) | exact dm1 (by assumption) (by first | exact Nat.le_refl _ | exact Nat.le_max_left _ _ | exact Nat.le_max_right _ _) (by decide) | exact dm0 (by assumption) (by first | exact Nat.le_refl _ | exact Nat.le_max_left _ _ | exact Nat.le_max_right _ _) (by decide) | exact dlt2 (by assumption) (by decide) | exact dlt1 (by assumption) (by decide) | omega) X T (by assumption) (by assumption) (tree_heap (by assumption) q1) ?_
  intro PQ
  intro r1 h1 tk1 I1 F1 N1 hne1 hp1
  k_steps
  simp only [List.nil_append] at N1
  exact hret _ _ _ _ F1.keep (newsI N1) hp1

theorem value_item1 (w : World) (o x : Tr) (C1 : VC w o) (C2 : VC w x) : VC w (.item1 o x) := by
  intro hz v
  refine PCon.of fun A s Q E g hh hd hu hgg G hp hret => ?_
  simp only [Tr.orders_name, Tr.orders_text, Tr.orders_join, Tr.orders_plus, Tr.orders_alt, Tr.orders_dot, Tr.orders_neg, Tr.orders_quest, Tr.orders_dollar, Tr.orders_tilde, Tr.orders_item1, Tr.orders_item2, Tr.orders_call0, Tr.orders_call1, Tr.orders_call2, Tr.ht_name, Tr.ht_text, Tr.ht_join, Tr.ht_plus, Tr.ht_alt, Tr.ht_dot, Tr.ht_neg, Tr.ht_quest, Tr.ht_dollar, Tr.ht_tilde, Tr.ht_item1, Tr.ht_item2, Tr.ht_call0, Tr.ht_call1, Tr.ht_call2, List.length_append, List.length_cons, List.length_nil] at hz hd hu hret
  obtain ⟨a, t, k, vo, vx, rfl, hT, hk, q1, q2⟩ := hp
  replace hT := hT.heap
  have hk' := hk.heap
  refine enterO (own := []) (binds := [(ss "tree", .ref a)]) hgg G own0 hret (B := ?B) (S := ?S) ?hB ?hS (by k_is) (by k_is) (lt0 (by assumption)) (BindsTo.of_eq rfl) (locs rfl) rfl rfl rfl (by decide) ?_
  case hB => conv => lhs; whnf
  case hS => conv => lhs; whnf
  have X := G.K
  clear hret G hgg
  intro s1 Q1 L loose mean mg mb T F N hret _
  k_steps
  refine use_pure (C1 (by first | exact sm1 ‹_› | exact sm3 ‹_› | exact sm2 ‹_› | exact sm4 ‹_› | exact Nat.le_trans ‹_› ‹_› | omega) _) hh (by show A.depth + 1 + _ < _; first | exact dlt (by assumption) (by decide) | exact dm1 (by assumption) (by first | exact Nat.le_refl _ | exact Nat.le_max_left _ _ | exact Nat.le_max_right _ _) (by decide) | exact dm0 (by assumption) (by first | exact Nat.le_refl _ | exact Nat.le_max_left _ _ | exact Nat.le_max_right _ _) (by decide) | exact dlt2 (by assumption) (by decide) | exact dlt1 (by assumption) (by decide) | omega) (by show A.units + 3 + _ < _; first | exact dlt (by assumption) (by decide) | exact dm1 (by assumption) (by first | exact Nat.le_refl _ | exact Nat.le_max_left _ _ | exact Nat.le_max_right _ _) (by decide) | exact dm0 (by assumption) (by first | exact Nat.le_refl _ | exact Nat.le_max_left _ _ | exact Nat.le_max_right _ _) (by decide) | exact dlt2 (by assumption) (by decide) | exact dlt1 (by assumption) (by decide) | omega) X T (by assumption) (by assumption) (tree_heap (by assumption) q1) ?_
  intro PQ
  intro r1 h1 tk1 I1 F1 N1 hne1 hp1
  obtain ⟨a1, vs1, n1, rfl, m1, o1⟩ := hp1
  simp only [List.nil_append, List.cons_append, List.append_assoc] at N1
  replace N1 := News.put N1 (q := (a1, lstO vs1 n1)) (by repeat (first | exact m1 | exact List.mem_append_left _ m1 | exact List.mem_append_right _ m1 | refine List.mem_append_right _ ?_ | refine List.Mem.tail _ ?_))
  have hl1 := o1.length
  k_steps
  refine use_pure (row_con w [x] (x.ht) (by simp <;> first | exact ⟨Nat.le_max_left _ _, Nat.le_max_right _ _⟩ | omega) (by simp; assumption) (by simp <;> first | exact ⟨Nat.le_max_left _ _, Nat.le_max_right _ _⟩ | omega) _ _) hh (by show A.depth + 1 + _ < _; first | exact dlt (by assumption) (by decide) | exact dm1 (by assumption) (by first | exact Nat.le_refl _ | exact Nat.le_max_left _ _ | exact Nat.le_max_right _ _) (by decide) | exact dm0 (by assumption) (by first | exact Nat.le_refl _ | exact Nat.le_max_left _ _ | exact Nat.le_max_right _ _) (by decide) | exact dlt2 (by assumption) (by decide) | exact dlt1 (by assumption) (by decide) | omega) (by show A.units + 3 + _ < _; first | exact dlt (by assumption) (by decide) | exact dm1 (by assumption) (by first | exact Nat.le_refl _ | exact Nat.le_max_left _ _ | exact Nat.le_max_right _ _) (by decide) | exact dm0 (by assumption) (by first | exact Nat.le_refl _ | exact Nat.le_max_left _ _ | exact Nat.le_max_right _ _) (by decide) | exact dlt2 (by assumption) (by decide) | exact dlt1 (by assumption) (by decide) | omega) X T (by assumption) (by assumption) (⟨hk.mono fun _ _ e => Fr.keep (by assumption) _ _ e, .cons (tree_heap (by assumption) q2) .nil⟩) ?_
  intro PQ
  intro r2 h2 tk2 I2 F2 N2 hne2 hp2
  obtain ⟨a2, vs2, n2, rfl, m2, o2⟩ := hp2
  simp only [List.nil_append, List.cons_append, List.append_assoc] at N2
  replace N2 := News.put N2 (q := (a2, lstO vs2 n2)) (by repeat (first | exact m2 | exact List.mem_append_left _ m2 | exact List.mem_append_right _ m2 | refine List.mem_append_right _ ?_ | refine List.Mem.tail _ ?_))
  have hl2 := o2.length
  simp only [List.flatMap_cons, List.flatMap_nil, List.append_nil] at o2 hl2
  k_steps
  exact hret _ _ _ _ (Fr.keep (by assumption)) (newsI (by assumption)) ⟨_, _, _, rfl, .head _, OrdsS.append (OrdsS.append (o1.mono (fun _ _ h => by unfold IS at h ⊢; repeat (first | exact h | exact List.mem_append_left _ h | exact List.mem_append_right _ h | refine List.mem_append_right _ ?_ | refine List.Mem.tail _ ?_))) (o2.mono (fun _ _ h => by unfold IS at h ⊢; repeat (first | exact h | exact List.mem_append_left _ h | exact List.mem_append_right _ h | refine List.mem_append_right _ ?_ | refine List.Mem.tail _ ?_)))) (.cons ⟨_, _, rfl, TupS.is (by k_mem), _, _, rfl⟩ .nil)⟩
end
section
set_option maxHeartbeats 0
set_option rowWalk.seconds 0

theorem value_item2 (w : World) (o x y : Tr) (C1 : VC w o) (C2 : VC w x) (C3 : VC w y) : VC w (.item2 o x y) := by
  intro hz v
  refine PCon.of fun A s Q E g hh hd hu hgg G hp hret => ?_
  simp only [Tr.orders_name, Tr.orders_text, Tr.orders_join, Tr.orders_plus, Tr.orders_alt, Tr.orders_dot, Tr.orders_neg, Tr.orders_quest, Tr.orders_dollar, Tr.orders_tilde, Tr.orders_item1, Tr.orders_item2, Tr.orders_call0, Tr.orders_call1, Tr.orders_call2, Tr.ht_name, Tr.ht_text, Tr.ht_join, Tr.ht_plus, Tr.ht_alt, Tr.ht_dot, Tr.ht_neg, Tr.ht_quest, Tr.ht_dollar, Tr.ht_tilde, Tr.ht_item1, Tr.ht_item2, Tr.ht_call0, Tr.ht_call1, Tr.ht_call2, List.length_append, List.length_cons, List.length_nil] at hz hd hu hret
  obtain ⟨a, t, k, vo, vx, vy, rfl, hT, hk, q1, q2, q3⟩ := hp
  replace hT := hT.heap
  have hk' := hk.heap
  refine enterO (own := []) (binds := [(ss "tree", .ref a)]) hgg G own0 hret (B := ?B) (S := ?S) ?hB ?hS (by k_is) (by k_is) (lt0 (by assumption)) (BindsTo.of_eq rfl) (locs rfl) rfl rfl rfl (by decide) ?_
  case hB => conv => lhs; whnf
  case hS => conv => lhs; whnf
  have X := G.K
  clear hret G hgg
  intro s1 Q1 L loose mean mg mb T F N hret _
  k_steps
  refine use_pure (C1 (by first | exact sm1 ‹_› | exact sm3 ‹_› | exact sm2 ‹_› | exact sm4 ‹_› | exact Nat.le_trans ‹_› ‹_› | omega) _) hh (by show A.depth + 1 + _ < _; first | exact dlt (by assumption) (by decide) | exact dm1 (by assumption) (by first | exact Nat.le_refl _ | exact Nat.le_max_left _ _ | exact Nat.le_max_right _ _) (by decide) | exact dm0 (by assumption) (by first | exact Nat.le_refl _ | exact Nat.le_max_left _ _ | exact Nat.le_max_right _ _) (by decide) | exact dlt2 (by assumption) (by decide) | exact dlt1 (by assumption) (by decide) | omega) (by show A.units + 3 + _ < _; first | exact dlt (by assumption) (by decide) | exact dm1 (by assumption) (by first | exact Nat.le_refl _ | exact Nat.le_max_left _ _ | exact Nat.le_max_right _ _) (by decide) | exact dm0 (by assumption) (by first | exact Nat.le_refl _ | exact Nat.le_max_left _ _ | exact Nat.le_max_right _ _) (by decide) | exact dlt2 (by assumption) (by decide) | exact dlt1 (by assumption) (by decide) | omega) X T (by assumption) (by assumption) (tree_heap (by assumption) q1) ?_
  intro PQ
  intro r1 h1 tk1 I1 F1 N1 hne1 hp1
  obtain ⟨a1, vs1, n1, rfl, m1, o1⟩ := hp1
  simp only [List.nil_append, List.cons_append, List.append_assoc] at N1
  replace N1 := News.put N1 (q := (a1, lstO vs1 n1)) (by repeat (first | exact m1 | exact List.mem_append_left _ m1 | exact List.mem_append_right _ m1 | refine List.mem_append_right _ ?_ | refine List.Mem.tail _ ?_))
  have hl1 := o1.length
  k_steps
  refine use_pure (row_con w [x, y] (max x.ht y.ht) (by simp <;> first | exact ⟨Nat.le_max_left _ _, Nat.le_max_right _ _⟩ | omega) (by simp; constructor <;> assumption) (by simp <;> first | exact ⟨Nat.le_max_left _ _, Nat.le_max_right _ _⟩ | omega) _ _) hh (by show A.depth + 1 + _ < _; first | exact dlt (by assumption) (by decide) | exact dm1 (by assumption) (by first | exact Nat.le_refl _ | exact Nat.le_max_left _ _ | exact Nat.le_max_right _ _) (by decide) | exact dm0 (by assumption) (by first | exact Nat.le_refl _ | exact Nat.le_max_left _ _ | exact Nat.le_max_right _ _) (by decide) | exact dlt2 (by assumption) (by decide) | exact dlt1 (by assumption) (by decide) | omega) (by show A.units + 3 + _ < _; first | exact dlt (by assumption) (by decide) | exact dm1 (by assumption) (by first | exact Nat.le_refl _ | exact Nat.le_max_left _ _ | exact Nat.le_max_right _ _) (by decide) | exact dm0 (by assumption) (by first | exact Nat.le_refl _ | exact Nat.le_max_left _ _ | exact Nat.le_max_right _ _) (by decide) | exact dlt2 (by assumption) (by decide) | exact dlt1 (by assumption) (by decide) | omega) X T (by assumption) (by assumption) (⟨hk.mono fun _ _ e => Fr.keep (by assumption) _ _ e, .cons (tree_heap (by assumption) q2) (.cons (tree_heap (by assumption) q3) .nil)⟩) ?_
  intro PQ
  intro r2 h2 tk2 I2 F2 N2 hne2 hp2
  obtain ⟨a2, vs2, n2, rfl, m2, o2⟩ := hp2
  simp only [List.nil_append, List.cons_append, List.append_assoc] at N2
  replace N2 := News.put N2 (q := (a2, lstO vs2 n2)) (by repeat (first | exact m2 | exact List.mem_append_left _ m2 | exact List.mem_append_right _ m2 | refine List.mem_append_right _ ?_ | refine List.Mem.tail _ ?_))
  have hl2 := o2.length
  simp only [List.flatMap_cons, List.flatMap_nil, List.append_nil, List.length_append] at o2 hl2
  k_steps
  exact hret _ _ _ _ (Fr.keep (by assumption)) (newsI (by assumption)) ⟨_, _, _, rfl, .head _, OrdsS.append (OrdsS.append (o1.mono (fun _ _ h => by unfold IS at h ⊢; repeat (first | exact h | exact List.mem_append_left _ h | exact List.mem_append_right _ h | refine List.mem_append_right _ ?_ | refine List.Mem.tail _ ?_))) (o2.mono (fun _ _ h => by unfold IS at h ⊢; repeat (first | exact h | exact List.mem_append_left _ h | exact List.mem_append_right _ h | refine List.mem_append_right _ ?_ | refine List.Mem.tail _ ?_)))) (.cons ⟨_, _, rfl, TupS.is (by k_mem), _, _, rfl⟩ .nil)⟩

theorem value_call0 (w : World) : VC w .call0 := by
  intro hz v
  refine PCon.of fun A s Q E g hh hd hu hgg G hp hret => ?_
  simp only [Tr.orders_name, Tr.orders_text, Tr.orders_join, Tr.orders_plus, Tr.orders_alt, Tr.orders_dot, Tr.orders_neg, Tr.orders_quest, Tr.orders_dollar, Tr.orders_tilde, Tr.orders_item1, Tr.orders_item2, Tr.orders_call0, Tr.orders_call1, Tr.orders_call2, Tr.ht_name, Tr.ht_text, Tr.ht_join, Tr.ht_plus, Tr.ht_alt, Tr.ht_dot, Tr.ht_neg, Tr.ht_quest, Tr.ht_dollar, Tr.ht_tilde, Tr.ht_item1, Tr.ht_item2, Tr.ht_call0, Tr.ht_call1, Tr.ht_call2, List.length_append, List.length_cons, List.length_nil] at hz hd hu hret
  obtain ⟨a, t, u, k, rfl, hT, hk⟩ := hp
  replace hT := hT.heap
  have hk' := hk.heap
  refine enterO (own := []) (binds := [(ss "tree", .ref a)]) hgg G own0 hret (B := ?B) (S := ?S) ?hB ?hS (by k_is) (by k_is) (lt0 (by assumption)) (BindsTo.of_eq rfl) (locs rfl) rfl rfl rfl (by decide) ?_
  case hB => conv => lhs; whnf
  case hS => conv => lhs; whnf
  have X := G.K
  clear hret G hgg
  intro s1 Q1 L loose mean mg mb T F N hret _
  k_steps
  refine use_pure (row_con w [] (0) (fun _ h => nomatch h) (fun _ h => nomatch h) (by simp <;> first | exact ⟨Nat.le_max_left _ _, Nat.le_max_right _ _⟩ | omega) _ _) hh (by show A.depth + 1 + _ < _; first | exact dlt (by assumption) (by decide) | exact dm1 (by assumption) (by first | exact Nat.le_refl _ | exact Nat.le_max_left _ _ | exact Nat.le_max_right _ _) (by decide) | exact dm0 (by assumption) (by first | exact Nat.le_refl _ | exact Nat.le_max_left _ _ | exact Nat.le_max_right _ _) (by decide) | exact dlt2 (by assumption) (by decide) | exact dlt1 (by assumption) (by decide) | omega) (by show A.units + 3 + _ < _; first | exact dlt (by assumption) (by decide) | exact dm1 (by assumption) (by first | exact Nat.le_refl _ | exact Nat.le_max_left _ _ | exact Nat.le_max_right _ _) (by decide) | exact dm0 (by assumption) (by first | exact Nat.le_refl _ | exact Nat.le_max_left _ _ | exact Nat.le_max_right _ _) (by decide) | exact dlt2 (by assumption) (by decide) | exact dlt1 (by assumption) (by decide) | omega) X T (by assumption) (by assumption) (⟨hk.mono fun _ _ e => Fr.keep (by assumption) _ _ e, .nil⟩) ?_
  intro PQ
  intro r1 h1 tk1 I1 F1 N1 hne1 hp1
  obtain ⟨a1, vs1, n1, rfl, m1, o1⟩ := hp1
  simp only [List.nil_append, List.cons_append, List.append_assoc] at N1
  replace N1 := News.put N1 (q := (a1, lstO vs1 n1)) (by repeat (first | exact m1 | exact List.mem_append_left _ m1 | exact List.mem_append_right _ m1 | refine List.mem_append_right _ ?_ | refine List.Mem.tail _ ?_))
  have hl1 := o1.length
  simp only [List.flatMap_cons, List.flatMap_nil, List.append_nil, List.length_append, List.length_nil] at o1 hl1
  k_steps
  exact hret _ _ _ _ (Fr.keep (by assumption)) (newsI (by assumption)) ⟨_, _, _, rfl, .head _, OrdsS.append (o1.mono (fun _ _ h => by unfold IS at h ⊢; repeat (first | exact h | exact List.mem_append_left _ h | exact List.mem_append_right _ h | refine List.mem_append_right _ ?_ | refine List.Mem.tail _ ?_))) (.cons ⟨_, _, rfl, TupS.is (by k_mem), _, _, _, rfl⟩ .nil)⟩

theorem value_call1 (w : World) (x : Tr) (C2 : VC w x) : VC w (.call1 x) := by
  intro hz v
  refine PCon.of fun A s Q E g hh hd hu hgg G hp hret => ?_
  simp only [Tr.orders_name, Tr.orders_text, Tr.orders_join, Tr.orders_plus, Tr.orders_alt, Tr.orders_dot, Tr.orders_neg, Tr.orders_quest, Tr.orders_dollar, Tr.orders_tilde, Tr.orders_item1, Tr.orders_item2, Tr.orders_call0, Tr.orders_call1, Tr.orders_call2, Tr.ht_name, Tr.ht_text, Tr.ht_join, Tr.ht_plus, Tr.ht_alt, Tr.ht_dot, Tr.ht_neg, Tr.ht_quest, Tr.ht_dollar, Tr.ht_tilde, Tr.ht_item1, Tr.ht_item2, Tr.ht_call0, Tr.ht_call1, Tr.ht_call2, List.length_append, List.length_cons, List.length_nil] at hz hd hu hret
  obtain ⟨a, t, u, k, vx, rfl, hT, hk, q2⟩ := hp
  replace hT := hT.heap
  have hk' := hk.heap
  refine enterO (own := []) (binds := [(ss "tree", .ref a)]) hgg G own0 hret (B := ?B) (S := ?S) ?hB ?hS (by k_is) (by k_is) (lt0 (by assumption)) (BindsTo.of_eq rfl) (locs rfl) rfl rfl rfl (by decide) ?_
  case hB => conv => lhs; whnf
  case hS => conv => lhs; whnf
  have X := G.K
  clear hret G hgg
  intro s1 Q1 L loose mean mg mb T F N hret _
  k_steps
  refine use_pure (row_con w [x] (x.ht) (by simp <;> first | exact ⟨Nat.le_max_left _ _, Nat.le_max_right _ _⟩ | omega) (by simp; assumption) (by simp <;> first | exact ⟨Nat.le_max_left _ _, Nat.le_max_right _ _⟩ | omega) _ _) hh (by show A.depth + 1 + _ < _; first | exact dlt (by assumption) (by decide) | exact dm1 (by assumption) (by first | exact Nat.le_refl _ | exact Nat.le_max_left _ _ | exact Nat.le_max_right _ _) (by decide) | exact dm0 (by assumption) (by first | exact Nat.le_refl _ | exact Nat.le_max_left _ _ | exact Nat.le_max_right _ _) (by decide) | exact dlt2 (by assumption) (by decide) | exact dlt1 (by assumption) (by decide) | omega) (by show A.units + 3 + _ < _; first | exact dlt (by assumption) (by decide) | exact dm1 (by assumption) (by first | exact Nat.le_refl _ | exact Nat.le_max_left _ _ | exact Nat.le_max_right _ _) (by decide) | exact dm0 (by assumption) (by first | exact Nat.le_refl _ | exact Nat.le_max_left _ _ | exact Nat.le_max_right _ _) (by decide) | exact dlt2 (by assumption) (by decide) | exact dlt1 (by assumption) (by decide) | omega) X T (by assumption) (by assumption) (⟨hk.mono fun _ _ e => Fr.keep (by assumption) _ _ e, (.cons (tree_heap (by assumption) q2) .nil)⟩) ?_
  intro PQ
  intro r1 h1 tk1 I1 F1 N1 hne1 hp1
  obtain ⟨a1, vs1, n1, rfl, m1, o1⟩ := hp1
  simp only [List.nil_append, List.cons_append, List.append_assoc] at N1
  replace N1 := News.put N1 (q := (a1, lstO vs1 n1)) (by repeat (first | exact m1 | exact List.mem_append_left _ m1 | exact List.mem_append_right _ m1 | refine List.mem_append_right _ ?_ | refine List.Mem.tail _ ?_))
  have hl1 := o1.length
  simp only [List.flatMap_cons, List.flatMap_nil, List.append_nil, List.length_append, List.length_nil] at o1 hl1
  k_steps
  exact hret _ _ _ _ (Fr.keep (by assumption)) (newsI (by assumption)) ⟨_, _, _, rfl, .head _, OrdsS.append (o1.mono (fun _ _ h => by unfold IS at h ⊢; repeat (first | exact h | exact List.mem_append_left _ h | exact List.mem_append_right _ h | refine List.mem_append_right _ ?_ | refine List.Mem.tail _ ?_))) (.cons ⟨_, _, rfl, TupS.is (by k_mem), _, _, _, rfl⟩ .nil)⟩

theorem value_call2 (w : World) (x : Tr) (y : Tr) (C2 : VC w x) (C3 : VC w y) : VC w (.call2 x y) := by
  intro hz v
  refine PCon.of fun A s Q E g hh hd hu hgg G hp hret => ?_
  simp only [Tr.orders_name, Tr.orders_text, Tr.orders_join, Tr.orders_plus, Tr.orders_alt, Tr.orders_dot, Tr.orders_neg, Tr.orders_quest, Tr.orders_dollar, Tr.orders_tilde, Tr.orders_item1, Tr.orders_item2, Tr.orders_call0, Tr.orders_call1, Tr.orders_call2, Tr.ht_name, Tr.ht_text, Tr.ht_join, Tr.ht_plus, Tr.ht_alt, Tr.ht_dot, Tr.ht_neg, Tr.ht_quest, Tr.ht_dollar, Tr.ht_tilde, Tr.ht_item1, Tr.ht_item2, Tr.ht_call0, Tr.ht_call1, Tr.ht_call2, List.length_append, List.length_cons, List.length_nil] at hz hd hu hret
  obtain ⟨a, t, u, k, vx, vy, rfl, hT, hk, q2, q3⟩ := hp
  replace hT := hT.heap
  have hk' := hk.heap
  refine enterO (own := []) (binds := [(ss "tree", .ref a)]) hgg G own0 hret (B := ?B) (S := ?S) ?hB ?hS (by k_is) (by k_is) (lt0 (by assumption)) (BindsTo.of_eq rfl) (locs rfl) rfl rfl rfl (by decide) ?_
  case hB => conv => lhs; whnf
  case hS => conv => lhs; whnf
  have X := G.K
  clear hret G hgg
  intro s1 Q1 L loose mean mg mb T F N hret _
  k_steps
  refine use_pure (row_con w [x, y] (max x.ht y.ht) (by simp <;> first | exact ⟨Nat.le_max_left _ _, Nat.le_max_right _ _⟩ | omega) (by simp; constructor <;> assumption) (by simp <;> first | exact ⟨Nat.le_max_left _ _, Nat.le_max_right _ _⟩ | omega) _ _) hh (by show A.depth + 1 + _ < _; first | exact dlt (by assumption) (by decide) | exact dm1 (by assumption) (by first | exact Nat.le_refl _ | exact Nat.le_max_left _ _ | exact Nat.le_max_right _ _) (by decide) | exact dm0 (by assumption) (by first | exact Nat.le_refl _ | exact Nat.le_max_left _ _ | exact Nat.le_max_right _ _) (by decide) | exact dlt2 (by assumption) (by decide) | exact dlt1 (by assumption) (by decide) | omega) (by show A.units + 3 + _ < _; first | exact dlt (by assumption) (by decide) | exact dm1 (by assumption) (by first | exact Nat.le_refl _ | exact Nat.le_max_left _ _ | exact Nat.le_max_right _ _) (by decide) | exact dm0 (by assumption) (by first | exact Nat.le_refl _ | exact Nat.le_max_left _ _ | exact Nat.le_max_right _ _) (by decide) | exact dlt2 (by assumption) (by decide) | exact dlt1 (by assumption) (by decide) | omega) X T (by assumption) (by assumption) (⟨hk.mono fun _ _ e => Fr.keep (by assumption) _ _ e, (.cons (tree_heap (by assumption) q2) (.cons (tree_heap (by assumption) q3) .nil))⟩) ?_
  intro PQ
  intro r1 h1 tk1 I1 F1 N1 hne1 hp1
  obtain ⟨a1, vs1, n1, rfl, m1, o1⟩ := hp1
  simp only [List.nil_append, List.cons_append, List.append_assoc] at N1
  replace N1 := News.put N1 (q := (a1, lstO vs1 n1)) (by repeat (first | exact m1 | exact List.mem_append_left _ m1 | exact List.mem_append_right _ m1 | refine List.mem_append_right _ ?_ | refine List.Mem.tail _ ?_))
  have hl1 := o1.length
  simp only [List.flatMap_cons, List.flatMap_nil, List.append_nil, List.length_append, List.length_nil] at o1 hl1
  k_steps
  exact hret _ _ _ _ (Fr.keep (by assumption)) (newsI (by assumption)) ⟨_, _, _, rfl, .head _, OrdsS.append (o1.mono (fun _ _ h => by unfold IS at h ⊢; repeat (first | exact h | exact List.mem_append_left _ h | exact List.mem_append_right _ h | refine List.mem_append_right _ ?_ | refine List.Mem.tail _ ?_))) (.cons ⟨_, _, rfl, TupS.is (by k_mem), _, _, _, rfl⟩ .nil)⟩

theorem value_con (w : World) : ∀ t : Tr, VC w t
  | .name x => value_name w x
  | .text => value_text w
  | .join l r => value_join w l r (value_con w l) (value_con w r)
  | .plus l r => value_plus w l r (value_con w l) (value_con w r)
  | .alt l r => value_alt w l r (value_con w l) (value_con w r)
  | .dot l => value_dot w l (value_con w l)
  | .neg x => value_neg w x (value_con w x)
  | .quest x => value_quest w x (value_con w x)
  | .dollar x => value_dollar w x (value_con w x)
  | .tilde x => value_tilde w x (value_con w x)
  | .item1 o x => value_item1 w o x (value_con w o) (value_con w x)
  | .item2 o x y => value_item2 w o x y (value_con w o) (value_con w x) (value_con w y)
  | .call0 => value_call0 w
  | .call1 x => value_call1 w x (value_con w x)
  | .call2 x y => value_call2 w x y (value_con w x) (value_con w y)
end
section
set_option maxHeartbeats 0
set_option rowWalk.seconds 0

local macro_rules | `(tactic| walk_at "exec For") => `(tactic| walk_at "call ref")
noncomputable def Ord.chg : Ord → Int
  | .push _ | .var _ | .ref _ | .double => 1
  | .call n => 1 - n
  | .item n => - n
  | .binary _ | .join | .given | .drop | .fail => -1
  | .match_ | .assign | .replace => -2
  | _ => 0
theorem change_con (w : World) (o : Ord) (v : Value) : PCon w 121 [v] 2 50 (fun h => OrdS (HS h) v o) (fun _ _ r => ∃ t, r = .int o.chg t) := by
  refine PCon.of fun A s Q E g hh hd hu hgg G hp hret => ?_
  obtain ⟨a, l, rfl, hT, hI⟩ := hp
  replace hT := hT.heap
  refine enterO (own := []) (binds := [(ss "order", .ref a)]) hgg G own0 hret (B := ?B) (S := ?S) ?hB ?hS (by k_is) (by k_is) (lt0 (by assumption)) (BindsTo.of_eq rfl) (locs rfl) rfl rfl rfl (by decide) ?_
  case hB => conv => lhs; whnf
  case hS => conv => lhs; whnf
  have X := G.K
  clear hret G hgg
  intro s1 Q1 L loose mean mg mb T F N hret _
  cases o <;> simp only [OrdItems] at hI
  all_goals (
    first
      | obtain ⟨t, u, v, rfl⟩ := hI
      | obtain ⟨t, u, rfl⟩ := hI
      | obtain ⟨t, rfl⟩ := hI
    k_steps
    all_goals dsimp only
    all_goals exact hret _ _ _ [] (Fr.keep (by assumption)) (fun _ h => nomatch h) ⟨_, rfl⟩)
end
section
local macro_rules | `(tactic| walk_at "dummy") => `(tactic| skip)
set_option maxHeartbeats 0
set_option rowWalk.seconds 0

local macro_rules | `(tactic| walk_at "exec For") => `(tactic| walk_at "call ref")
noncomputable def dStep (p : Int × Int) (o : Ord) : Int × Int := (p.1 + o.chg, max p.2 (p.1 + o.chg))
noncomputable def depthOf (os : List Ord) : Int := (os.foldl dStep (0, 0)).2
theorem OrdsS.get {S : Sto} {vs : List Value} {os : List Ord} (x : OrdsS S vs os) : ∀ {i : Nat} {v : Value}, vs[i]? = some v → ∃ o, os[i]? = some o ∧ OrdS S v o := by
  induction x with
  | nil => intro i v h; simp at h
  | cons h _ ih =>
    intro i v hv
    cases i with
    | zero => simp at hv; subst hv; exact ⟨_, rfl, h⟩
    | succ i => simpa using ih (by simpa using hv)
noncomputable def D3 (m₀ : Str → Option Value) (u v1 v2 : Option Value) : Str → Option Value := fun y => if y = ss "order" then u else if y = ss "most" then v1 else if y = ss "high" then v2 else m₀ y
theorem D3_self (m : Str → Option Value) : m = D3 m (m (ss "order")) (m (ss "most")) (m (ss "high")) := by
  funext y
  unfold D3
  (repeat' split) <;> simp_all
theorem D3_turn {m₀ : Str → Option Value} {u v1 v2 a b c : Option Value} : (fun y => if y = ss "most" then a else if y = ss "high" then b else if y = ss "order" then c else D3 m₀ u v1 v2 y) = D3 m₀ c a b := by
  have h1 : ss "most" ≠ ss "order" := by decide +kernel
  have h2 : ss "high" ≠ ss "order" := by decide +kernel
  have h3 : ss "high" ≠ ss "most" := by decide +kernel
  funext y
  unfold D3
  (repeat' split) <;> simp_all
noncomputable def DepJ (os : List Ord) (i : Nat) (m : Str → Option Value) (nx : List (Addr × Obj)) : Prop :=
  ∃ m₀ u t1 t2, m = D3 m₀ u (some (.int ((os.take i).foldl dStep (0, 0)).2 t2)) (some (.int ((os.take i).foldl dStep (0, 0)).1 t1)) ∧ nx = []
theorem fold_take {α β : Type} (f : β → α → β) (b : β) (l : List α) (i : Nat) (a : α) (h : l[i]? = some a) : (l.take (i + 1)).foldl f b = f ((l.take i).foldl f b) a := by
  rw [List.take_add_one, h]; simp
theorem depth_con (w : World) (os : List Ord) (a : Addr) : PCon w 114 [.ref a] 6 120 (fun h => ∃ vs, h.IsList a vs.toArray ∧ OrdsS (HS h) vs os) (fun _ _ r => ∃ t, r = .int (depthOf os) t) := by
  refine PCon.of fun A s Q E g hh hd hu hgg G hp hret => ?_
  obtain ⟨vs, hT, q⟩ := hp
  refine enterO (own := []) (binds := [(ss "orders", .ref a)]) hgg G own0 hret (B := ?B) (S := ?S) ?hB ?hS (by k_is) (by k_is) (lt0 (by assumption)) (BindsTo.of_eq rfl) (locs rfl) rfl rfl rfl (by decide) ?_
  case hB => conv => lhs; whnf
  case hS => conv => lhs; whnf
  have X := G.K
  clear hret G hgg
  intro s1 Q1 L loose mean mg mb T F N hret _
  k_steps
  rename Fr _ _ _ _ => F; rename News _ _ _ _ => N
  rw [D3_self (fun y => if y = PySem.Str.ofString "most" then _ else _)] at F
  refine for_list (DepJ os) hh F PyProof.Rows.News.nil ?_ hT rfl rfl rfl ?_ ?_ ?_
  · kernel_rfl!
  · exact ⟨_, _, _, _, rfl, rfl⟩
  · rintro i v m nx h tk I oI hv ⟨m₀, u, t1, t2, rfl, rfl⟩ F N off
    obtain ⟨o, ho, hq⟩ := q.get (by simpa using hv)
    k_steps
    refine use_pure (change_con w o v) hh (by show A.depth + 1 + _ < _; first | exact dlt (by assumption) (by decide) | exact dlt1 (by assumption) (by decide) | exact dlt2 (by assumption) (by decide) | omega) (by show A.units + 3 + _ < _; first | exact dlt (by assumption) (by decide) | exact dlt1 (by assumption) (by decide) | exact dlt2 (by assumption) (by decide) | omega) X T (by assumption) (by assumption) (hq.mono fun _ _ e => Fr.keep (by assumption) _ _ e) ?_
    intro PQ
    rintro r1 h1 tk1 I1 F1 N1 hne1 ⟨t', rfl⟩
    k_steps
    refine FPost.next (by assumption) (by assumption) (nx' := []) (fun p hp => ?_) (fun p hp => nomatch hp) ?_
    · simp only [List.mem_cons, List.not_mem_nil, or_false] at hp
      subst hp; simp
    · unfold DepJ
      rw [fold_take dStep (0, 0) os i o ho]
      exact ⟨_, _, _, _, D3_turn, rfl⟩
  · rintro m nx h tk ⟨m₀, u, t1, t2, rfl, rfl⟩ F N
    k_steps
    dsimp only
    have e : os.take vs.toArray.size = os := List.take_of_length_le (by rw [← q.length]; simp)
    rw [e]
    exact hret _ _ _ [] F.keep (fun _ h => nomatch h) ⟨_, rfl⟩
end
section
set_option maxHeartbeats 0
set_option rowWalk.seconds 0

/-- a new list of parts of a tree that stood -/
noncomputable def PartsIn (S : Sto) (I : List (Addr × Obj)) (r : Value) (ts : List Tr) : Prop := ∃ a vs n, r = .ref a ∧ (a, lstO vs n) ∈ I ∧ TreesS S vs ts
theorem parts_name (w : World) (S : Sto) (x : Str) (v : Value) : PCon w 378 [v] 3 60 (fun h => TreeS S v (.name x) ∧ ∀ a o, S a o → h.get? a = some o) (fun _ I z => PartsIn S I z (Tr.parts (.name x))) := by
  refine PCon.of fun A s Q E g hh hd hu hgg G hp hret => ?_
  obtain ⟨⟨a, t, u, rfl, hT⟩, sub⟩ := hp
  replace hT := (TupS.mono (S' := HS g) sub hT).heap
  refine enterO (own := []) (binds := [(ss "tree", .ref a)]) hgg G own0 hret (B := ?B) (S := ?S) ?hB ?hS (by k_is) (by k_is) (lt0 (by assumption)) (BindsTo.of_eq rfl) (locs rfl) rfl rfl rfl (by decide) ?_
  case hB => conv => lhs; whnf
  case hS => conv => lhs; whnf
  have X := G.K
  clear hret G hgg
  intro s1 Q1 L loose mean mg mb T F N hret _
  k_steps
  exact hret _ _ _ _ (Fr.keep (by assumption)) (newsI (by assumption)) ⟨_, _, _, rfl, .head _, .nil⟩
theorem parts_text (w : World) (S : Sto) (v : Value) : PCon w 378 [v] 3 60 (fun h => TreeS S v .text ∧ ∀ a o, S a o → h.get? a = some o) (fun _ I z => PartsIn S I z (Tr.parts .text)) := by
  refine PCon.of fun A s Q E g hh hd hu hgg G hp hret => ?_
  obtain ⟨⟨a, t, u, rfl, hT⟩, sub⟩ := hp
  replace hT := (TupS.mono (S' := HS g) sub hT).heap
  refine enterO (own := []) (binds := [(ss "tree", .ref a)]) hgg G own0 hret (B := ?B) (S := ?S) ?hB ?hS (by k_is) (by k_is) (lt0 (by assumption)) (BindsTo.of_eq rfl) (locs rfl) rfl rfl rfl (by decide) ?_
  case hB => conv => lhs; whnf
  case hS => conv => lhs; whnf
  have X := G.K
  clear hret G hgg
  intro s1 Q1 L loose mean mg mb T F N hret _
  k_steps
  exact hret _ _ _ _ (Fr.keep (by assumption)) (newsI (by assumption)) ⟨_, _, _, rfl, .head _, .nil⟩
theorem parts_join (w : World) (S : Sto) (l r : Tr) (v : Value) : PCon w 378 [v] 3 60 (fun h => TreeS S v (.join l r) ∧ ∀ a o, S a o → h.get? a = some o) (fun _ I z => PartsIn S I z (Tr.parts (.join l r))) := by
  refine PCon.of fun A s Q E g hh hd hu hgg G hp hret => ?_
  obtain ⟨⟨a, t, vl, vr, rfl, hT, q1, q2⟩, sub⟩ := hp
  replace hT := (TupS.mono (S' := HS g) sub hT).heap
  refine enterO (own := []) (binds := [(ss "tree", .ref a)]) hgg G own0 hret (B := ?B) (S := ?S) ?hB ?hS (by k_is) (by k_is) (lt0 (by assumption)) (BindsTo.of_eq rfl) (locs rfl) rfl rfl rfl (by decide) ?_
  case hB => conv => lhs; whnf
  case hS => conv => lhs; whnf
  have X := G.K
  clear hret G hgg
  intro s1 Q1 L loose mean mg mb T F N hret _
  k_steps
  exact hret _ _ _ _ (Fr.keep (by assumption)) (newsI (by assumption)) ⟨_, _, _, rfl, .head _, (.cons q1 (.cons q2 .nil))⟩
theorem parts_plus (w : World) (S : Sto) (l r : Tr) (v : Value) : PCon w 378 [v] 3 60 (fun h => TreeS S v (.plus l r) ∧ ∀ a o, S a o → h.get? a = some o) (fun _ I z => PartsIn S I z (Tr.parts (.plus l r))) := by
  refine PCon.of fun A s Q E g hh hd hu hgg G hp hret => ?_
  obtain ⟨⟨a, t, u, vl, vr, rfl, hT, q1, q2⟩, sub⟩ := hp
  replace hT := (TupS.mono (S' := HS g) sub hT).heap
  refine enterO (own := []) (binds := [(ss "tree", .ref a)]) hgg G own0 hret (B := ?B) (S := ?S) ?hB ?hS (by k_is) (by k_is) (lt0 (by assumption)) (BindsTo.of_eq rfl) (locs rfl) rfl rfl rfl (by decide) ?_
  case hB => conv => lhs; whnf
  case hS => conv => lhs; whnf
  have X := G.K
  clear hret G hgg
  intro s1 Q1 L loose mean mg mb T F N hret _
  k_steps
  exact hret _ _ _ _ (Fr.keep (by assumption)) (newsI (by assumption)) ⟨_, _, _, rfl, .head _, (.cons q1 (.cons q2 .nil))⟩
theorem parts_alt (w : World) (S : Sto) (l r : Tr) (v : Value) : PCon w 378 [v] 3 60 (fun h => TreeS S v (.alt l r) ∧ ∀ a o, S a o → h.get? a = some o) (fun _ I z => PartsIn S I z (Tr.parts (.alt l r))) := by
  refine PCon.of fun A s Q E g hh hd hu hgg G hp hret => ?_
  obtain ⟨⟨a, t, u, vl, vr, rfl, hT, q1, q2⟩, sub⟩ := hp
  replace hT := (TupS.mono (S' := HS g) sub hT).heap
  refine enterO (own := []) (binds := [(ss "tree", .ref a)]) hgg G own0 hret (B := ?B) (S := ?S) ?hB ?hS (by k_is) (by k_is) (lt0 (by assumption)) (BindsTo.of_eq rfl) (locs rfl) rfl rfl rfl (by decide) ?_
  case hB => conv => lhs; whnf
  case hS => conv => lhs; whnf
  have X := G.K
  clear hret G hgg
  intro s1 Q1 L loose mean mg mb T F N hret _
  k_steps
  exact hret _ _ _ _ (Fr.keep (by assumption)) (newsI (by assumption)) ⟨_, _, _, rfl, .head _, (.cons q1 (.cons q2 .nil))⟩
theorem parts_dot (w : World) (S : Sto) (l : Tr) (v : Value) : PCon w 378 [v] 3 60 (fun h => TreeS S v (.dot l) ∧ ∀ a o, S a o → h.get? a = some o) (fun _ I z => PartsIn S I z (Tr.parts (.dot l))) := by
  refine PCon.of fun A s Q E g hh hd hu hgg G hp hret => ?_
  obtain ⟨⟨a, t, u, vl, vr, rfl, hT, q1, q2⟩, sub⟩ := hp
  replace hT := (TupS.mono (S' := HS g) sub hT).heap
  refine enterO (own := []) (binds := [(ss "tree", .ref a)]) hgg G own0 hret (B := ?B) (S := ?S) ?hB ?hS (by k_is) (by k_is) (lt0 (by assumption)) (BindsTo.of_eq rfl) (locs rfl) rfl rfl rfl (by decide) ?_
  case hB => conv => lhs; whnf
  case hS => conv => lhs; whnf
  have X := G.K
  clear hret G hgg
  intro s1 Q1 L loose mean mg mb T F N hret _
  k_steps
  exact hret _ _ _ _ (Fr.keep (by assumption)) (newsI (by assumption)) ⟨_, _, _, rfl, .head _, (.cons q1 (.cons q2 .nil))⟩
theorem parts_neg (w : World) (S : Sto) (x : Tr) (v : Value) : PCon w 378 [v] 3 60 (fun h => TreeS S v (.neg x) ∧ ∀ a o, S a o → h.get? a = some o) (fun _ I z => PartsIn S I z (Tr.parts (.neg x))) := by
  refine PCon.of fun A s Q E g hh hd hu hgg G hp hret => ?_
  obtain ⟨⟨a, t, u, vx, rfl, hT, q1⟩, sub⟩ := hp
  replace hT := (TupS.mono (S' := HS g) sub hT).heap
  refine enterO (own := []) (binds := [(ss "tree", .ref a)]) hgg G own0 hret (B := ?B) (S := ?S) ?hB ?hS (by k_is) (by k_is) (lt0 (by assumption)) (BindsTo.of_eq rfl) (locs rfl) rfl rfl rfl (by decide) ?_
  case hB => conv => lhs; whnf
  case hS => conv => lhs; whnf
  have X := G.K
  clear hret G hgg
  intro s1 Q1 L loose mean mg mb T F N hret _
  k_steps
  exact hret _ _ _ _ (Fr.keep (by assumption)) (newsI (by assumption)) ⟨_, _, _, rfl, .head _, (.cons q1 .nil)⟩
theorem parts_quest (w : World) (S : Sto) (x : Tr) (v : Value) : PCon w 378 [v] 3 60 (fun h => TreeS S v (.quest x) ∧ ∀ a o, S a o → h.get? a = some o) (fun _ I z => PartsIn S I z (Tr.parts (.quest x))) := by
  refine PCon.of fun A s Q E g hh hd hu hgg G hp hret => ?_
  obtain ⟨⟨a, t, u, vx, rfl, hT, q1⟩, sub⟩ := hp
  replace hT := (TupS.mono (S' := HS g) sub hT).heap
  refine enterO (own := []) (binds := [(ss "tree", .ref a)]) hgg G own0 hret (B := ?B) (S := ?S) ?hB ?hS (by k_is) (by k_is) (lt0 (by assumption)) (BindsTo.of_eq rfl) (locs rfl) rfl rfl rfl (by decide) ?_
  case hB => conv => lhs; whnf
  case hS => conv => lhs; whnf
  have X := G.K
  clear hret G hgg
  intro s1 Q1 L loose mean mg mb T F N hret _
  k_steps
  exact hret _ _ _ _ (Fr.keep (by assumption)) (newsI (by assumption)) ⟨_, _, _, rfl, .head _, (.cons q1 .nil)⟩
theorem parts_dollar (w : World) (S : Sto) (x : Tr) (v : Value) : PCon w 378 [v] 3 60 (fun h => TreeS S v (.dollar x) ∧ ∀ a o, S a o → h.get? a = some o) (fun _ I z => PartsIn S I z (Tr.parts (.dollar x))) := by
  refine PCon.of fun A s Q E g hh hd hu hgg G hp hret => ?_
  obtain ⟨⟨a, t, u, vx, rfl, hT, q1⟩, sub⟩ := hp
  replace hT := (TupS.mono (S' := HS g) sub hT).heap
  refine enterO (own := []) (binds := [(ss "tree", .ref a)]) hgg G own0 hret (B := ?B) (S := ?S) ?hB ?hS (by k_is) (by k_is) (lt0 (by assumption)) (BindsTo.of_eq rfl) (locs rfl) rfl rfl rfl (by decide) ?_
  case hB => conv => lhs; whnf
  case hS => conv => lhs; whnf
  have X := G.K
  clear hret G hgg
  intro s1 Q1 L loose mean mg mb T F N hret _
  k_steps
  exact hret _ _ _ _ (Fr.keep (by assumption)) (newsI (by assumption)) ⟨_, _, _, rfl, .head _, (.cons q1 .nil)⟩
theorem parts_tilde (w : World) (S : Sto) (x : Tr) (v : Value) : PCon w 378 [v] 3 60 (fun h => TreeS S v (.tilde x) ∧ ∀ a o, S a o → h.get? a = some o) (fun _ I z => PartsIn S I z (Tr.parts (.tilde x))) := by
  refine PCon.of fun A s Q E g hh hd hu hgg G hp hret => ?_
  obtain ⟨⟨a, t, u, vx, rfl, hT, q1⟩, sub⟩ := hp
  replace hT := (TupS.mono (S' := HS g) sub hT).heap
  refine enterO (own := []) (binds := [(ss "tree", .ref a)]) hgg G own0 hret (B := ?B) (S := ?S) ?hB ?hS (by k_is) (by k_is) (lt0 (by assumption)) (BindsTo.of_eq rfl) (locs rfl) rfl rfl rfl (by decide) ?_
  case hB => conv => lhs; whnf
  case hS => conv => lhs; whnf
  have X := G.K
  clear hret G hgg
  intro s1 Q1 L loose mean mg mb T F N hret _
  k_steps
  exact hret _ _ _ _ (Fr.keep (by assumption)) (newsI (by assumption)) ⟨_, _, _, rfl, .head _, (.cons q1 .nil)⟩
theorem parts_item1 (w : World) (S : Sto) (o x : Tr) (v : Value) : PCon w 378 [v] 3 60 (fun h => TreeS S v (.item1 o x) ∧ ∀ a o, S a o → h.get? a = some o) (fun _ I z => PartsIn S I z (Tr.parts (.item1 o x))) := by
  refine PCon.of fun A s Q E g hh hd hu hgg G hp hret => ?_
  obtain ⟨⟨a, t, k, vo, vx, rfl, hT, hk, q1, q2⟩, sub⟩ := hp
  replace hT := (TupS.mono (S' := HS g) sub hT).heap
  replace hk := (TupS.mono (S' := HS g) sub hk).heap
  refine enterO (own := []) (binds := [(ss "tree", .ref a)]) hgg G own0 hret (B := ?B) (S := ?S) ?hB ?hS (by k_is) (by k_is) (lt0 (by assumption)) (BindsTo.of_eq rfl) (locs rfl) rfl rfl rfl (by decide) ?_
  case hB => conv => lhs; whnf
  case hS => conv => lhs; whnf
  have X := G.K
  clear hret G hgg
  intro s1 Q1 L loose mean mg mb T F N hret _
  k_steps
  exact hret _ _ _ _ (Fr.keep (by assumption)) (newsI (by assumption)) ⟨_, _, _, rfl, .head _, (.cons q1 (.cons q2 .nil))⟩
theorem parts_item2 (w : World) (S : Sto) (o x y : Tr) (v : Value) : PCon w 378 [v] 3 60 (fun h => TreeS S v (.item2 o x y) ∧ ∀ a o, S a o → h.get? a = some o) (fun _ I z => PartsIn S I z (Tr.parts (.item2 o x y))) := by
  refine PCon.of fun A s Q E g hh hd hu hgg G hp hret => ?_
  obtain ⟨⟨a, t, k, vo, vx, vy, rfl, hT, hk, q1, q2, q3⟩, sub⟩ := hp
  replace hT := (TupS.mono (S' := HS g) sub hT).heap
  replace hk := (TupS.mono (S' := HS g) sub hk).heap
  refine enterO (own := []) (binds := [(ss "tree", .ref a)]) hgg G own0 hret (B := ?B) (S := ?S) ?hB ?hS (by k_is) (by k_is) (lt0 (by assumption)) (BindsTo.of_eq rfl) (locs rfl) rfl rfl rfl (by decide) ?_
  case hB => conv => lhs; whnf
  case hS => conv => lhs; whnf
  have X := G.K
  clear hret G hgg
  intro s1 Q1 L loose mean mg mb T F N hret _
  k_steps
  exact hret _ _ _ _ (Fr.keep (by assumption)) (newsI (by assumption)) ⟨_, _, _, rfl, .head _, (.cons q1 (.cons q2 (.cons q3 .nil)))⟩
theorem parts_call0 (w : World) (S : Sto) (v : Value) : PCon w 378 [v] 3 60 (fun h => TreeS S v .call0 ∧ ∀ a o, S a o → h.get? a = some o) (fun _ I z => PartsIn S I z (Tr.parts .call0)) := by
  refine PCon.of fun A s Q E g hh hd hu hgg G hp hret => ?_
  obtain ⟨⟨a, t, u, k, rfl, hT, hk⟩, sub⟩ := hp
  replace hT := (TupS.mono (S' := HS g) sub hT).heap
  replace hk := (TupS.mono (S' := HS g) sub hk).heap
  refine enterO (own := []) (binds := [(ss "tree", .ref a)]) hgg G own0 hret (B := ?B) (S := ?S) ?hB ?hS (by k_is) (by k_is) (lt0 (by assumption)) (BindsTo.of_eq rfl) (locs rfl) rfl rfl rfl (by decide) ?_
  case hB => conv => lhs; whnf
  case hS => conv => lhs; whnf
  have X := G.K
  clear hret G hgg
  intro s1 Q1 L loose mean mg mb T F N hret _
  k_steps
  exact hret _ _ _ _ (Fr.keep (by assumption)) (newsI (by assumption)) ⟨_, _, _, rfl, .head _, .nil⟩
theorem parts_call1 (w : World) (S : Sto) (x : Tr) (v : Value) : PCon w 378 [v] 3 60 (fun h => TreeS S v (.call1 x) ∧ ∀ a o, S a o → h.get? a = some o) (fun _ I z => PartsIn S I z (Tr.parts (.call1 x))) := by
  refine PCon.of fun A s Q E g hh hd hu hgg G hp hret => ?_
  obtain ⟨⟨a, t, u, k, vx, rfl, hT, hk, q1⟩, sub⟩ := hp
  replace hT := (TupS.mono (S' := HS g) sub hT).heap
  replace hk := (TupS.mono (S' := HS g) sub hk).heap
  refine enterO (own := []) (binds := [(ss "tree", .ref a)]) hgg G own0 hret (B := ?B) (S := ?S) ?hB ?hS (by k_is) (by k_is) (lt0 (by assumption)) (BindsTo.of_eq rfl) (locs rfl) rfl rfl rfl (by decide) ?_
  case hB => conv => lhs; whnf
  case hS => conv => lhs; whnf
  have X := G.K
  clear hret G hgg
  intro s1 Q1 L loose mean mg mb T F N hret _
  k_steps
  exact hret _ _ _ _ (Fr.keep (by assumption)) (newsI (by assumption)) ⟨_, _, _, rfl, .head _, (.cons q1 .nil)⟩
theorem parts_call2 (w : World) (S : Sto) (x y : Tr) (v : Value) : PCon w 378 [v] 3 60 (fun h => TreeS S v (.call2 x y) ∧ ∀ a o, S a o → h.get? a = some o) (fun _ I z => PartsIn S I z (Tr.parts (.call2 x y))) := by
  refine PCon.of fun A s Q E g hh hd hu hgg G hp hret => ?_
  obtain ⟨⟨a, t, u, k, vx, vy, rfl, hT, hk, q1, q2⟩, sub⟩ := hp
  replace hT := (TupS.mono (S' := HS g) sub hT).heap
  replace hk := (TupS.mono (S' := HS g) sub hk).heap
  refine enterO (own := []) (binds := [(ss "tree", .ref a)]) hgg G own0 hret (B := ?B) (S := ?S) ?hB ?hS (by k_is) (by k_is) (lt0 (by assumption)) (BindsTo.of_eq rfl) (locs rfl) rfl rfl rfl (by decide) ?_
  case hB => conv => lhs; whnf
  case hS => conv => lhs; whnf
  have X := G.K
  clear hret G hgg
  intro s1 Q1 L loose mean mg mb T F N hret _
  k_steps
  exact hret _ _ _ _ (Fr.keep (by assumption)) (newsI (by assumption)) ⟨_, _, _, rfl, .head _, (.cons q1 (.cons q2 .nil))⟩
theorem parts_con (w : World) (S : Sto) (t : Tr) (v : Value) : PCon w 378 [v] 3 60 (fun h => TreeS S v t ∧ ∀ a o, S a o → h.get? a = some o) (fun _ I r => PartsIn S I r t.parts) := by
  cases t
  · exact parts_name w S _ v
  · exact parts_text w S v
  · exact parts_join w S _ _ v
  · exact parts_plus w S _ _ v
  · exact parts_alt w S _ _ v
  · exact parts_dot w S _ v
  · exact parts_neg w S _ v
  · exact parts_quest w S _ v
  · exact parts_dollar w S _ v
  · exact parts_tilde w S _ v
  · exact parts_item1 w S _ _ v
  · exact parts_item2 w S _ _ _ v
  · exact parts_call0 w S v
  · exact parts_call1 w S _ v
  · exact parts_call2 w S _ _ v
end
section
set_option maxHeartbeats 0
set_option rowWalk.seconds 0

local macro_rules | `(tactic| walk_at "call type:enumerate") => `(tactic| walk_at "call ref")
local macro_rules | `(tactic| walk_at "call builtin:max") => `(tactic| walk_at "call ref")
local macro_rules | `(tactic| walk_at "eval ListComp") => `(tactic| (k_dflt (refine ListComp_E (F₀ := by k_asm) (by with_unfolding_all rfl) (by decide) (by rfl) (by decide) (by rfl) (by rfl) (by decide) ?_ (fun _ => rfl))))
noncomputable def Tr.high : Tr → Int
  | .name _ | .text | .call0 => 1
  | .join l r | .plus l r | .alt l r | .item1 l r | .call2 l r => max 1 (max (0 + l.high) (1 + r.high))
  | .dot l => max 1 (max (0 + l.high) (1 + 1))
  | .neg t | .quest t | .dollar t | .tilde t | .call1 t => max 1 (0 + t.high)
  | .item2 o a b => max 1 (max (0 + o.high) (max (1 + a.high) (2 + b.high)))
theorem Tr.high_name {x : Str} : Tr.high (.name x) = (1 : Int) := rfl
theorem Tr.high_text : Tr.high (.text) = (1 : Int) := rfl
theorem Tr.high_join {l r : Tr} : Tr.high (.join l r) = (max 1 (max (0 + l.high) (1 + r.high)) : Int) := rfl
theorem Tr.high_plus {l r : Tr} : Tr.high (.plus l r) = (max 1 (max (0 + l.high) (1 + r.high)) : Int) := rfl
theorem Tr.high_alt {l r : Tr} : Tr.high (.alt l r) = (max 1 (max (0 + l.high) (1 + r.high)) : Int) := rfl
theorem Tr.high_dot {l : Tr} : Tr.high (.dot l) = (max 1 (max (0 + l.high) (1 + 1)) : Int) := rfl
theorem Tr.high_neg {t : Tr} : Tr.high (.neg t) = (max 1 (0 + t.high) : Int) := rfl
theorem Tr.high_quest {t : Tr} : Tr.high (.quest t) = (max 1 (0 + t.high) : Int) := rfl
theorem Tr.high_dollar {t : Tr} : Tr.high (.dollar t) = (max 1 (0 + t.high) : Int) := rfl
theorem Tr.high_tilde {t : Tr} : Tr.high (.tilde t) = (max 1 (0 + t.high) : Int) := rfl
theorem Tr.high_item1 {l r : Tr} : Tr.high (.item1 l r) = (max 1 (max (0 + l.high) (1 + r.high)) : Int) := rfl
theorem Tr.high_item2 {o a b : Tr} : Tr.high (.item2 o a b) = (max 1 (max (0 + o.high) (max (1 + a.high) (2 + b.high))) : Int) := rfl
theorem Tr.high_call0 : Tr.high (.call0) = (1 : Int) := rfl
theorem Tr.high_call1 {t : Tr} : Tr.high (.call1 t) = (max 1 (0 + t.high) : Int) := rfl
theorem Tr.high_call2 {l r : Tr} : Tr.high (.call2 l r) = (max 1 (max (0 + l.high) (1 + r.high)) : Int) := rfl
theorem eq_le {x y : Int} (h : ∀ z, x ≤ z ↔ y ≤ z) : x = y := Int.le_antisymm ((h y).2 (Int.le_refl _)) ((h x).1 (Int.le_refl _))
noncomputable def hi : List Tr → Int
  | [] => 1
  | [p] => max 1 (0 + p.high)
  | [p, q] => max 1 (max (0 + p.high) (1 + q.high))
  | p :: q :: r :: _ => max 1 (max (0 + p.high) (max (1 + q.high) (2 + r.high)))
theorem hi_ub : ∀ (l : List Tr) (_ : l.length ≤ 3), 1 ≤ hi l ∧ ∀ (i : Nat) p, l[i]? = some p → (i : Int) + p.high ≤ hi l
  | [], _ => ⟨Int.le_refl 1, fun i p h => nomatch h⟩
  | [a], _ => ⟨Int.le_max_left _ _, fun | 0, _, rfl => Int.le_max_right _ _⟩
  | [a, b], _ => ⟨Int.le_max_left _ _, fun | 0, _, rfl => Int.le_trans (Int.le_max_left _ _) (Int.le_max_right _ _) | 1, _, rfl => Int.le_trans (Int.le_max_right _ _) (Int.le_max_right _ _)⟩
  | [a, b, c], _ => ⟨Int.le_max_left _ _, fun | 0, _, rfl => Int.le_trans (Int.le_max_left _ _) (Int.le_max_right _ _) | 1, _, rfl => Int.le_trans (Int.le_trans (Int.le_max_left _ _) (Int.le_max_right _ _)) (Int.le_max_right _ _) | 2, _, rfl => Int.le_trans (Int.le_trans (Int.le_max_right _ _) (Int.le_max_right _ _)) (Int.le_max_right _ _)⟩
theorem hi_lub : ∀ (l : List Tr) (M : Int), 1 ≤ M → (∀ (i : Nat) p, l[i]? = some p → (i : Int) + p.high ≤ M) → hi l ≤ M
  | [], _, h, _ => h
  | [_], _, h, f => Int.max_le.2 ⟨h, f 0 _ rfl⟩
  | [_, _], _, h, f => Int.max_le.2 ⟨h, Int.max_le.2 ⟨f 0 _ rfl, f 1 _ rfl⟩⟩
  | _ :: _ :: _ :: _, _, h, f => Int.max_le.2 ⟨h, Int.max_le.2 ⟨f 0 _ rfl, Int.max_le.2 ⟨f 1 _ rfl, f 2 _ rfl⟩⟩⟩
theorem parts_len (t : Tr) : t.parts.length ≤ 3 := by cases t <;> exact Nat.le_of_ble_eq_true rfl
theorem high_is (t : Tr) (M : Int) (h0 : M = 1 ∨ ∃ i p, t.parts[i]? = some p ∧ M = (i : Nat) + p.high) (h1 : 1 ≤ M) (h2 : ∀ (i : Nat) p, t.parts[i]? = some p → (i : Int) + p.high ≤ M) : M = t.high := by
  have e : t.high = hi t.parts := by cases t <;> rfl
  have u := hi_ub t.parts (parts_len t)
  rw [e]
  refine Int.le_antisymm ?_ (hi_lub _ _ h1 h2)
  rcases h0 with rfl | ⟨i, p, hp, rfl⟩
  · exact u.1
  · exact u.2 i p hp
theorem ht2 {l r p : Tr} (h : p ∈ [l, r]) : p.ht + 1 ≤ max l.ht r.ht + 1 := by
  rcases List.mem_cons.mp h with rfl | h
  · exact Nat.succ_le_succ (Nat.le_max_left _ _)
  · rw [List.mem_singleton.mp h]; exact Nat.succ_le_succ (Nat.le_max_right _ _)
theorem ht1 {l p : Tr} (h : p ∈ [l]) : p.ht + 1 ≤ l.ht + 1 := by rw [List.mem_singleton.mp h]; exact Nat.le_refl _
theorem parts_ht {t p : Tr} (h : p ∈ t.parts) : p.ht + 1 ≤ t.ht := by
  cases t with
  | name x => cases h
  | text => cases h
  | call0 => cases h
  | join l r => exact ht2 h
  | plus l r => exact ht2 h
  | alt l r => exact ht2 h
  | item1 l r => exact ht2 h
  | call2 l r => exact ht2 h
  | dot l => exact Nat.le_trans (ht2 h) (Nat.succ_le_succ (Nat.max_le.2 ⟨Nat.le_refl _, Nat.zero_le _⟩))
  | neg l => exact ht1 h
  | quest l => exact ht1 h
  | dollar l => exact ht1 h
  | tilde l => exact ht1 h
  | call1 l => exact ht1 h
  | item2 o l r =>
    rcases List.mem_cons.mp h with rfl | h
    · exact Nat.succ_le_succ (Nat.le_max_left _ _)
    · exact Nat.le_trans (ht2 h) (Nat.succ_le_succ (Nat.le_max_right _ _))
noncomputable def HC (w : World) (t : Tr) : Prop := ∀ v, PCon w 383 [v] (5 * t.ht + 6) (50 * t.ht + 100) (fun h => TreeS (HS h) v t) (fun _ _ r => ∃ tk, r = .int t.high tk)
theorem ints_of {ts : List Tr} : ∀ (ys : List Value) (k : Nat), (∀ i y, ys[i]? = some y → ∃ p tk, ts[k + i]? = some p ∧ y = .int ((k + i : Nat) + p.high) tk) →
    ∃ ns, IntsAre ys ns ∧ ∀ M, M ∈ ns ↔ ∃ i p, i < ys.length ∧ ts[k + i]? = some p ∧ M = ((k + i : Nat) : Int) + p.high
  | [], k, h => ⟨[], .nil, fun M => ⟨fun h => (nomatch h), fun ⟨i, p, hi, _⟩ => (nomatch hi)⟩⟩
  | y :: ys, k, h => by
    obtain ⟨p, tk, hp, rfl⟩ := h 0 y rfl
    obtain ⟨ns, hns, hm⟩ := ints_of ys (k + 1) fun i y hy => by
      have := h (i + 1) y (by simpa using hy)
      rw [show k + 1 + i = k + (i + 1) by omega]; exact this
    refine ⟨_, .cons _ _ hns, fun M => ?_⟩
    rw [List.mem_cons, hm]
    constructor
    · rintro (rfl | ⟨i, q, hi, hq, rfl⟩)
      · exact ⟨0, p, Nat.zero_lt_succ _, hp, rfl⟩
      · exact ⟨i + 1, q, Nat.succ_lt_succ hi, by rw [← hq]; congr 1; omega, by rw [show k + 1 + i = k + (i + 1) by omega]⟩
    · rintro ⟨i, q, hi, hq, rfl⟩
      cases i with
      | zero => left; rw [hp] at hq; cases hq; rfl
      | succ i => right; exact ⟨i, q, Nat.lt_of_succ_lt_succ hi, by rw [← hq]; congr 1; omega, by rw [show k + 1 + i = k + (i + 1) by omega]⟩
theorem high_step (w : World) (t : Tr) (ih : ∀ p ∈ t.parts, HC w p) : HC w t := by
  intro v
  refine PCon.of fun A s Q E g hh hd hu hgg G hT hret => ?_
  refine enterO (own := []) (binds := [(ss "tree", v)]) hgg G own0 hret (B := ?B) (S := ?S) ?hB ?hS (by k_is) (by k_is) (lt0 (by assumption)) (BindsTo.of_eq rfl) (locs rfl) rfl rfl rfl (by decide) ?_
  case hB => conv => lhs; whnf
  case hS => conv => lhs; whnf
  have X := G.K
  clear hret G hgg
  intro s1 Q1 L loose mean mg mb T F N hret _
  k_steps
  refine use_pure (parts_con w (HS g) t v) hh (by show A.depth + 1 + _ < _; first | exact dlt (by assumption) (by decide) | exact dm1 (by assumption) (by first | exact Nat.le_refl _ | exact Nat.le_max_left _ _ | exact Nat.le_max_right _ _) (by decide) | exact dm0 (by assumption) (by first | exact Nat.le_refl _ | exact Nat.le_max_left _ _ | exact Nat.le_max_right _ _) (by decide) | exact dlt2 (by assumption) (by decide) | exact dlt1 (by assumption) (by decide) | exact dh ‹_› ‹_› (by decide) | exact dh0 ‹_› ‹_› (by decide) | exact dhs ‹_› ‹_› (by decide) | exact dm0 ‹_› ‹_› (by decide) | exact dl3 ‹_› (by decide) | exact dlt2 ‹_› (by decide) | omega) (by show A.units + 3 + _ < _; first | exact dlt (by assumption) (by decide) | exact dm1 (by assumption) (by first | exact Nat.le_refl _ | exact Nat.le_max_left _ _ | exact Nat.le_max_right _ _) (by decide) | exact dm0 (by assumption) (by first | exact Nat.le_refl _ | exact Nat.le_max_left _ _ | exact Nat.le_max_right _ _) (by decide) | exact dlt2 (by assumption) (by decide) | exact dlt1 (by assumption) (by decide) | exact dh ‹_› ‹_› (by decide) | exact dh0 ‹_› ‹_› (by decide) | exact dhs ‹_› ‹_› (by decide) | exact dm0 ‹_› ‹_› (by decide) | exact dl3 ‹_› (by decide) | exact dlt2 ‹_› (by decide) | omega) X T (by assumption) (by assumption) ⟨hT, fun _ _ e => Fr.keep (by assumption) _ _ e⟩ ?_
  intro PQ
  intro r0 h0 tk0 I0 F0 N0 hne0 hp0
  obtain ⟨a0, vs0, n0, rfl, m0, o0⟩ := hp0
  simp only [List.nil_append, List.cons_append, List.append_assoc] at N0
  replace N0 := News.put N0 (q := (a0, lstO vs0 n0)) (by repeat (first | exact m0 | exact List.mem_append_left _ m0 | exact List.mem_append_right _ m0 | refine List.mem_append_right _ ?_ | refine List.Mem.tail _ ?_))
  have hl0 := o0.length
  have hlen := parts_len t
  k_steps
  refine enum_src (fun i y => ∃ p tk, t.parts[i]? = some p ∧ y = .int ((i : Nat) + p.high) tk) hh (by assumption) (by assumption) (by k_mem) (by rw [sizeLine_eq]; omega) ?_ ?_
  · intro e it i v' tt ys oe oi C oC D m₂ h tk E' hv hC hx hx2 F N
    obtain ⟨p, hp, hq⟩ := o0.get hv
    have hm : p ∈ t.parts := List.mem_of_getElem? hp
    have hpt := parts_ht hm
    k_steps
    refine use_pure (ih p hm v') hh (by show A.depth + 1 + _ < _; first | exact dlt (by assumption) (by decide) | exact dm1 (by assumption) (by first | exact Nat.le_refl _ | exact Nat.le_max_left _ _ | exact Nat.le_max_right _ _) (by decide) | exact dm0 (by assumption) (by first | exact Nat.le_refl _ | exact Nat.le_max_left _ _ | exact Nat.le_max_right _ _) (by decide) | exact dlt2 (by assumption) (by decide) | exact dlt1 (by assumption) (by decide) | exact dh ‹_› ‹_› (by decide) | exact dh0 ‹_› ‹_› (by decide) | exact dhs ‹_› ‹_› (by decide) | exact dm0 ‹_› ‹_› (by decide) | exact dl3 ‹_› (by decide) | exact dlt2 ‹_› (by decide) | omega) (by show A.units + 3 + _ < _; first | exact dlt (by assumption) (by decide) | exact dm1 (by assumption) (by first | exact Nat.le_refl _ | exact Nat.le_max_left _ _ | exact Nat.le_max_right _ _) (by decide) | exact dm0 (by assumption) (by first | exact Nat.le_refl _ | exact Nat.le_max_left _ _ | exact Nat.le_max_right _ _) (by decide) | exact dlt2 (by assumption) (by decide) | exact dlt1 (by assumption) (by decide) | exact dh ‹_› ‹_› (by decide) | exact dh0 ‹_› ‹_› (by decide) | exact dhs ‹_› ‹_› (by decide) | exact dm0 ‹_› ‹_› (by decide) | exact dl3 ‹_› (by decide) | exact dlt2 ‹_› (by decide) | omega) X T (by assumption) (by assumption) (hq.mono fun _ _ e => Fr.keep (by assumption) _ _ e) ?_
    intro PQ
    rintro r1 h1 tk1 I1 F1 N1 hne1 ⟨t1, rfl⟩
    k_steps
    exact EltEnd.mk (by assumption) (by assumption) (fun _ h => by simp only [List.mem_append, List.mem_cons] at h ⊢; simp only [h, or_true, true_or]) ⟨p, _, hp, rfl⟩
  · intro D h tk ys F N hyl hR
    k_steps
    obtain ⟨ns, hns, hm⟩ := ints_of (ts := t.parts) ys 0 (fun i y hy => by
      obtain ⟨p, tk, hp, rfl⟩ := hR i y hy
      exact ⟨p, tk, by simpa using hp, by simp⟩)
    refine max_list_N hh (by assumption) (by assumption) (News.isList (by assumption) (by k_mem)) (.cons _ _ hns) (Nat.zero_lt_succ _) ?_
    intro h' M tt tk' F' N' hM hle
    have e : M = t.high := by
      refine high_is t M ?_ (hle 1 (.head _)) fun i p hp => ?_
      · rcases List.mem_cons.mp hM with rfl | hM
        · exact .inl rfl
        · obtain ⟨i, p, hi, hp, rfl⟩ := (hm M).mp hM
          refine .inr ⟨i, p, by simpa using hp, by simp⟩
      · have hi := (List.getElem?_eq_some_iff.mp hp).1
        have := o0.length
        exact hle _ (.tail _ ((hm _).mpr ⟨i, p, by omega, by simpa using hp, by simp⟩))
    subst e
    k_steps
    exact hret _ _ _ [] (Fr.keep (by assumption)) (fun _ h => nomatch h) ⟨_, rfl⟩
theorem high_con (w : World) : ∀ (n : Nat) (t : Tr), t.ht < n → HC w t
  | 0, t, h => absurd h (Nat.not_lt_zero _)
  | n + 1, t, h => high_step w t fun p hp => high_con w n p (by have := parts_ht hp; omega)
end
section
local macro_rules | `(tactic| walk_at "dummy") => `(tactic| skip)
set_option maxHeartbeats 0
set_option rowWalk.seconds 0

section
open LCg LCt
variable {prog : Program} {w : World} {A : Around} {E : Value → Shared → Prop} {s : Shared} {h₀ : Heap} {L : Addr} {m : Str → Option Value} {env : Env}
noncomputable def TstEnd (h₀ : Heap) (L : Addr) (m : Str → Option Value) (s : Shared) (all : List (Addr × Obj)) (b ok : Bool) (s' : Shared) : Prop :=
  ok = b ∧ ∃ h' tk', s' = { s with heap := h', toks := tk' } ∧ Fr h₀ L h' m ∧ News h₀ L h' all
theorem TstEnd.mk {h' : Heap} {tk : Nat} {all now : List (Addr × Obj)} {b ok : Bool} (F : Fr h₀ L h' m) (N : News h₀ L h' now) (sub : ∀ p ∈ all, p ∈ now) (r : ok = b) :
    TstEnd h₀ L m s all b ok { s with heap := h', toks := tk } := ⟨r, h', tk, rfl, F, fun p hp => N p (sub p hp)⟩
theorem rest_T {ct elt : Expr} {x : Str} {scope : Scope} {cl : List (Str × Addr)} {S : List (Addr × Obj) → Prop} {Fin : List Value → List (Addr × Obj) → Prop} {vs : List Value} {news : List (Addr × Obj)} (B : Nat → Bool) (hS : S news)
    (turn : ∀ (i : Nat) (v : Value) I oI C oC D oD m₂ h tk (E' : Value → Shared → Prop), vs[i]? = some v → NsObj oC m₂ → m₂ x = some v → Fr h₀ L h m → News h₀ L h ((I, oI) :: (C, oC) :: (D, oD) :: news) →
      wpAny (model prog w) A (isTrue ct (compEnvC scope cl C env) (eval ct (compEnvC scope cl C env))) (TstEnd h₀ L m { s with heap := h, toks := tk } ((I, oI) :: (C, oC) :: (D, oD) :: news) (B i)) E' { s with heap := h, toks := tk })
    (elm : ∀ (i : Nat) (v : Value) I oI C oC D oD m₂ h tk (E' : Value → Shared → Prop), vs[i]? = some v → NsObj oC m₂ → m₂ x = some v → Fr h₀ L h m → News h₀ L h ((I, oI) :: (C, oC) :: (D, oD) :: news) →
      wpAny (model prog w) A (eval elt (compEnvC scope cl C env)) (EltEnd h₀ L m { s with heap := h, toks := tk } ((I, oI) :: (C, oC) :: (D, oD) :: news) (fun y => y = v)) E' { s with heap := h, toks := tk })
    (fin : ∀ ys, (∀ y ∈ ys, y ∈ vs) → (ys = [] ↔ ∀ i, i < vs.length → B i = false) → Fin ys news) :
    ∀ k i ys, i + k = vs.length → (∀ y ∈ ys, y ∈ vs) → (ys = [] ↔ ∀ j, j < i → B j = false) → CompRestT prog w A h₀ L m env ct elt x scope cl s S (fun i v => vs.toArray[i]? = some v) Fin k i ys news
  | 0, i, ys, hi, hm, hb => CompRestT.zero (fin ys hm (by rw [hb]; rw [← hi]; rfl))
  | k + 1, i, ys, hi, hm, hb => CompRestT.succ (by
    intro v I oI C oC D m₂ h tk E' hv hC hx F N off ne
    have hv' : vs[i]? = some v := by simpa using hv
    refine wpAny_mono (turn i v I oI C oC D _ m₂ h tk E' hv' hC hx F N) (fun ok s' h' => ?_) fun _ _ e => e
    obtain ⟨rfl, h₁, tk₁, rfl, F₁, N₁⟩ := h'
    cases hB : B i with
    | true =>
      simp only [if_true]
      refine wpAny_mono (elm i v I oI C oC D _ m₂ h₁ tk₁ E' hv' hC hx F₁ N₁) (fun y s' h' => ?_) fun _ _ e => e
      obtain ⟨h₂, tk₂, rfl, F₂, N₂, rfl⟩ := h'
      refine ⟨h₂, tk₂, news, rfl, F₂, N₂, off, hS, rest_T B hS turn elm fin k (i + 1) _ (by first | exact ar_le ‹_› (by decide) | exact ar_lt ‹_› (by decide) | omega) (fun z hz => ?_) ⟨fun e => by simp at e, fun e => by have := e i (Nat.lt_succ_self _); rw [hB] at this; cases this⟩⟩
      rcases List.mem_append.mp hz with hz | hz
      · exact hm z hz
      · rw [List.mem_singleton.mp hz]; exact List.mem_of_getElem? hv'
    | false =>
      simp only [Bool.false_eq_true, if_false]
      refine ⟨h₁, tk₁, news, rfl, F₁, N₁, off, hS, rest_T B hS turn elm fin k (i + 1) ys (by first | exact ar_le ‹_› (by decide) | exact ar_lt ‹_› (by decide) | omega) hm ?_⟩
      rw [hb]
      constructor
      · intro e j hj
        rcases Nat.lt_succ_iff_lt_or_eq.mp hj with hj | rfl
        · exact e j hj
        · exact hB
      · intro e j hj
        exact e j (Nat.lt_succ_of_lt hj))
noncomputable def CutEnd (mid : Shared → Prop) (fl : Flow) (s : Shared) : Prop := fl = .next ∧ mid s
theorem cut {M : Model} {st : Stmt} {rest : List Stmt} {Q : Flow → Shared → Prop} (mid : Shared → Prop) (h1 : wpAny M A (exec st env) (CutEnd mid) E s) (h2 : ∀ s', mid s' → wpAny M A (execs rest env) Q E s') : wpAny M A (execs (st :: rest) env) Q E s :=
  wpAny_execs_cons (wpAny_mono h1 (fun fl s' h => by obtain ⟨rfl, h⟩ := h; exact h2 s' h) fun _ _ e => e)
theorem ne_tt {x y : Str} {t u : Tok} {Q : Value → Shared → Prop} (e : x ≠ y) (h : Q (.bool true) s) : wpAny (model prog w) A (compareOp .NotEq (.str x t) (.str y u)) Q E s := PyProof.Rows.ne_str (by rw [show (x != y) = true by simp [e]]; exact h)
theorem ne_ff {x y : Str} {t u : Tok} {Q : Value → Shared → Prop} (e : x = y) (h : Q (.bool false) s) : wpAny (model prog w) A (compareOp .NotEq (.str x t) (.str y u)) Q E s := PyProof.Rows.ne_str (by rw [show (x != y) = false by simp [e]]; exact h)
end
/-- a tree as data -/
noncomputable def Tr.data : Tr → PyData
  | .name x => .tuple [.str (ss "name"), .str x]
  | .text => .tuple [.str (ss "text"), .str (ss "t")]
  | .join l r => .tuple [.str (ss "join"), l.data, r.data]
  | .plus l r => .tuple [.str (ss "binary"), .str (ss "+"), l.data, r.data]
  | .alt l r => .tuple [.str (ss "binary"), .str (ss "|"), l.data, r.data]
  | .dot l => .tuple [.str (ss "binary"), .str (ss "."), l.data, .tuple [.str (ss "name"), .str (ss "B")]]
  | .neg t => .tuple [.str (ss "unary"), .str (ss "-"), t.data]
  | .quest t => .tuple [.str (ss "unary"), .str (ss "?"), t.data]
  | .dollar t => .tuple [.str (ss "unary"), .str (ss "$"), t.data]
  | .tilde t => .tuple [.str (ss "unary"), .str (ss "~"), t.data]
  | .item1 o a => .tuple [.str (ss "item"), o.data, .tuple [a.data]]
  | .item2 o a b => .tuple [.str (ss "item"), o.data, .tuple [a.data, b.data]]
  | .call0 => .tuple [.str (ss "call"), .str (ss "G"), .tuple []]
  | .call1 a => .tuple [.str (ss "call"), .str (ss "G"), .tuple [a.data]]
  | .call2 a b => .tuple [.str (ss "call"), .str (ss "G"), .tuple [a.data, b.data]]
theorem Tr.data_name {x : Str} : Tr.data (.name x) = (.tuple [.str (ss "name"), .str x] : PyData) := rfl
theorem Tr.data_text : Tr.data (.text) = (.tuple [.str (ss "text"), .str (ss "t")] : PyData) := rfl
theorem Tr.data_join {l r : Tr} : Tr.data (.join l r) = (.tuple [.str (ss "join"), l.data, r.data] : PyData) := rfl
theorem Tr.data_plus {l r : Tr} : Tr.data (.plus l r) = (.tuple [.str (ss "binary"), .str (ss "+"), l.data, r.data] : PyData) := rfl
theorem Tr.data_alt {l r : Tr} : Tr.data (.alt l r) = (.tuple [.str (ss "binary"), .str (ss "|"), l.data, r.data] : PyData) := rfl
theorem Tr.data_dot {l : Tr} : Tr.data (.dot l) = (.tuple [.str (ss "binary"), .str (ss "."), l.data, .tuple [.str (ss "name"), .str (ss "B")]] : PyData) := rfl
theorem Tr.data_neg {t : Tr} : Tr.data (.neg t) = (.tuple [.str (ss "unary"), .str (ss "-"), t.data] : PyData) := rfl
theorem Tr.data_quest {t : Tr} : Tr.data (.quest t) = (.tuple [.str (ss "unary"), .str (ss "?"), t.data] : PyData) := rfl
theorem Tr.data_dollar {t : Tr} : Tr.data (.dollar t) = (.tuple [.str (ss "unary"), .str (ss "$"), t.data] : PyData) := rfl
theorem Tr.data_tilde {t : Tr} : Tr.data (.tilde t) = (.tuple [.str (ss "unary"), .str (ss "~"), t.data] : PyData) := rfl
theorem Tr.data_item1 {o a : Tr} : Tr.data (.item1 o a) = (.tuple [.str (ss "item"), o.data, .tuple [a.data]] : PyData) := rfl
theorem Tr.data_item2 {o a b : Tr} : Tr.data (.item2 o a b) = (.tuple [.str (ss "item"), o.data, .tuple [a.data, b.data]] : PyData) := rfl
theorem Tr.data_call0 : Tr.data (.call0) = (.tuple [.str (ss "call"), .str (ss "G"), .tuple []] : PyData) := rfl
theorem Tr.data_call1 {a : Tr} : Tr.data (.call1 a) = (.tuple [.str (ss "call"), .str (ss "G"), .tuple [a.data]] : PyData) := rfl
theorem Tr.data_call2 {a b : Tr} : Tr.data (.call2 a b) = (.tuple [.str (ss "call"), .str (ss "G"), .tuple [a.data, b.data]] : PyData) := rfl
theorem tup_reads {h : Heap} {a : Addr} {l : List Value} {ds : List PyData} (x : TupS (HS h) a l) (r : ∃ as, ReadsAll h l ds as) : ∃ as, Reads h (.ref a) (.tuple ds) as :=
  let ⟨o, e, c, n, d⟩ := x; let ⟨as, r⟩ := r; ⟨as, reads_tuple_at e c d (by simpa using r)⟩
theorem rs_nil {h : Heap} : ∃ as, ReadsAll h [] [] as := ⟨_, .nil⟩
theorem rs_str {h : Heap} {x : Str} {t : Tok} {l : List Value} {ds : List PyData} (r : ∃ as, ReadsAll h l ds as) : ∃ as, ReadsAll h (.str x t :: l) (.str x :: ds) as := let ⟨_, r⟩ := r; ⟨_, .cons (.str _ _) r⟩
theorem rs_cons {h : Heap} {v : Value} {d : PyData} {l : List Value} {ds : List PyData} (q : ∃ as, Reads h v d as) (r : ∃ as, ReadsAll h l ds as) : ∃ as, ReadsAll h (v :: l) (d :: ds) as := let ⟨_, q⟩ := q; let ⟨_, r⟩ := r; ⟨_, .cons q r⟩
theorem tree_reads {h : Heap} : ∀ (t : Tr) {v : Value}, TreeS (HS h) v t → ∃ as, Reads h v t.data as := by
  intro t
  induction t with
  | name x => rintro v ⟨a, t, u, rfl, z⟩; exact tup_reads z (rs_str (rs_str rs_nil))
  | text => rintro v ⟨a, t, u, rfl, z⟩; exact tup_reads z (rs_str (rs_str rs_nil))
  | join l r i j => rintro v ⟨a, t, vl, vr, rfl, z, x, y⟩; exact tup_reads z (rs_str (rs_cons (i x) (rs_cons (j y) rs_nil)))
  | plus l r i j => rintro v ⟨a, t, u, vl, vr, rfl, z, x, y⟩; exact tup_reads z (rs_str (rs_str (rs_cons (i x) (rs_cons (j y) rs_nil))))
  | alt l r i j => rintro v ⟨a, t, u, vl, vr, rfl, z, x, y⟩; exact tup_reads z (rs_str (rs_str (rs_cons (i x) (rs_cons (j y) rs_nil))))
  | dot l i => rintro v ⟨a, t, u, vl, vr, rfl, z, x, a', t', u', rfl, z'⟩; exact tup_reads z (rs_str (rs_str (rs_cons (i x) (rs_cons (tup_reads z' (rs_str (rs_str rs_nil))) rs_nil))))
  | neg t i => rintro v ⟨a, _, u, vx, rfl, z, x⟩; exact tup_reads z (rs_str (rs_str (rs_cons (i x) rs_nil)))
  | quest t i => rintro v ⟨a, _, u, vx, rfl, z, x⟩; exact tup_reads z (rs_str (rs_str (rs_cons (i x) rs_nil)))
  | dollar t i => rintro v ⟨a, _, u, vx, rfl, z, x⟩; exact tup_reads z (rs_str (rs_str (rs_cons (i x) rs_nil)))
  | tilde t i => rintro v ⟨a, _, u, vx, rfl, z, x⟩; exact tup_reads z (rs_str (rs_str (rs_cons (i x) rs_nil)))
  | item1 o p i j => rintro v ⟨a, t, c, vo, vx, rfl, z, z', x, y⟩; exact tup_reads z (rs_str (rs_cons (i x) (rs_cons (tup_reads z' (rs_cons (j y) rs_nil)) rs_nil)))
  | item2 o p q i j k => rintro v ⟨a, t, c, vo, vx, vy, rfl, z, z', x, y, y'⟩; exact tup_reads z (rs_str (rs_cons (i x) (rs_cons (tup_reads z' (rs_cons (j y) (rs_cons (k y') rs_nil))) rs_nil)))
  | call0 => rintro v ⟨a, t, u, c, rfl, z, z'⟩; exact tup_reads z (rs_str (rs_str (rs_cons (tup_reads z' rs_nil) rs_nil)))
  | call1 p i => rintro v ⟨a, t, u, c, vx, rfl, z, z', x⟩; exact tup_reads z (rs_str (rs_str (rs_cons (tup_reads z' (rs_cons (i x) rs_nil)) rs_nil)))
  | call2 p q i j => rintro v ⟨a, t, u, c, vx, vy, rfl, z, z', x, y⟩; exact tup_reads z (rs_str (rs_str (rs_cons (tup_reads z' (rs_cons (i x) (rs_cons (j y) rs_nil))) rs_nil)))
/-- the names of a tree are text that can be laid -/
noncomputable def Tr.fine : Tr → Bool
  | .name x => PyData.strOk x
  | .text | .call0 => true
  | .join l r | .plus l r | .alt l r | .item1 l r | .call2 l r => l.fine && r.fine
  | .dot t | .neg t | .quest t | .dollar t | .tilde t | .call1 t => t.fine
  | .item2 o a b => o.fine && (a.fine && b.fine)
theorem Tr.fine_name {x : Str} : Tr.fine (.name x) = (PyData.strOk x : Bool) := rfl
theorem Tr.fine_text : Tr.fine (.text) = (true : Bool) := rfl
theorem Tr.fine_join {l r : Tr} : Tr.fine (.join l r) = (l.fine && r.fine : Bool) := rfl
theorem Tr.fine_plus {l r : Tr} : Tr.fine (.plus l r) = (l.fine && r.fine : Bool) := rfl
theorem Tr.fine_alt {l r : Tr} : Tr.fine (.alt l r) = (l.fine && r.fine : Bool) := rfl
theorem Tr.fine_dot {t : Tr} : Tr.fine (.dot t) = (t.fine : Bool) := rfl
theorem Tr.fine_neg {t : Tr} : Tr.fine (.neg t) = (t.fine : Bool) := rfl
theorem Tr.fine_quest {t : Tr} : Tr.fine (.quest t) = (t.fine : Bool) := rfl
theorem Tr.fine_dollar {t : Tr} : Tr.fine (.dollar t) = (t.fine : Bool) := rfl
theorem Tr.fine_tilde {t : Tr} : Tr.fine (.tilde t) = (t.fine : Bool) := rfl
theorem Tr.fine_item1 {l r : Tr} : Tr.fine (.item1 l r) = (l.fine && r.fine : Bool) := rfl
theorem Tr.fine_item2 {o a b : Tr} : Tr.fine (.item2 o a b) = (o.fine && (a.fine && b.fine) : Bool) := rfl
theorem Tr.fine_call0 : Tr.fine (.call0) = (true : Bool) := rfl
theorem Tr.fine_call1 {t : Tr} : Tr.fine (.call1 t) = (t.fine : Bool) := rfl
theorem Tr.fine_call2 {l r : Tr} : Tr.fine (.call2 l r) = (l.fine && r.fine : Bool) := rfl
theorem fine_parts {t p : Tr} (h : t.fine = true) (hp : p ∈ t.parts) : p.fine = true := by
  cases t <;> simp [Tr.parts_name, Tr.parts_text, Tr.parts_join, Tr.parts_plus, Tr.parts_alt, Tr.parts_dot, Tr.parts_neg, Tr.parts_quest, Tr.parts_dollar, Tr.parts_tilde, Tr.parts_item1, Tr.parts_item2, Tr.parts_call0, Tr.parts_call1, Tr.parts_call2] at hp <;> simp only [Tr.fine_name, Tr.fine_text, Tr.fine_join, Tr.fine_plus, Tr.fine_alt, Tr.fine_dot, Tr.fine_neg, Tr.fine_quest, Tr.fine_dollar, Tr.fine_tilde, Tr.fine_item1, Tr.fine_item2, Tr.fine_call0, Tr.fine_call1, Tr.fine_call2, Bool.and_eq_true] at h <;> (try (rcases hp with rfl | rfl | rfl)) <;> (try (rcases hp with rfl | rfl)) <;> (try subst hp) <;> first | exact h | exact h.1 | exact h.2 | exact h.2.1 | exact h.2.2 | kernel_rfl!
theorem and_of {a b : Bool} (h : (a && b) = true) : a = true ∧ b = true := by simpa using h
noncomputable def LD (n : Nat) (d : PyData) : Prop := d.canLay0 = true ∧ d.depth ≤ n
noncomputable def LA (n : Nat) (ds : List PyData) : Prop := PyData.canLayAll0 ds = true ∧ PyData.depthAll ds ≤ n
theorem LA.nil {n : Nat} : LA n [] := ⟨rfl, Nat.zero_le _⟩
theorem LA.cons {n : Nat} {d : PyData} {ds : List PyData} (x : LD n d) (y : LA n ds) : LA n (d :: ds) :=
  ⟨by rw [PyData.canLayAll0, x.1, y.1]; rfl, by rw [PyData.depthAll]; exact Nat.max_le.2 ⟨x.2, y.2⟩⟩
theorem LD.tup {n m : Nat} {ds : List PyData} (y : LA n ds) (h : n + 1 ≤ m) : LD m (.tuple ds) := ⟨by rw [PyData.canLay0]; exact y.1, by rw [PyData.depth]; exact Nat.le_trans (Nat.succ_le_succ y.2) h⟩
theorem LD.mono {n m : Nat} {d : PyData} (x : LD n d) (h : n ≤ m) : LD m d := ⟨x.1, Nat.le_trans x.2 h⟩
theorem LD.s {n : Nat} {x : Str} (h : PyData.strOk x = true) : LD (n + 1) (.str x) := ⟨by rw [PyData.canLay0]; exact h, by rw [PyData.depth]; omega⟩
theorem LD.l {a b : Nat} {d : PyData} (x : LD (2 * a + 2) d) : LD (2 * max a b + 2) d := x.mono (Nat.add_le_add_right (Nat.mul_le_mul_left 2 (Nat.le_max_left a b)) 2)
theorem LD.r {a b : Nat} {d : PyData} (x : LD (2 * b + 2) d) : LD (2 * max a b + 2) d := x.mono (Nat.add_le_add_right (Nat.mul_le_mul_left 2 (Nat.le_max_right a b)) 2)
theorem LD.up {a : Nat} {d : PyData} (x : LD (2 * a + 2) d) : LD (2 * a + 1 + 2) d := x.mono (by first | exact ar_le ‹_› (by decide) | exact ar_lt ‹_› (by decide) | omega)
theorem up3 {k : Nat} : 2 * k + 2 + 1 ≤ 2 * (k + 1) + 2 := by omega
theorem up4 {k : Nat} : 2 * k + 1 + 2 + 1 ≤ 2 * (k + 1) + 2 := by omega
theorem data_lay : ∀ (t : Tr), t.fine = true → LD (2 * t.ht + 2) t.data := by
  have k1 : PyData.strOk (ss "name") = true := by kernel_rfl!
  have k2 : PyData.strOk (ss "text") = true := by kernel_rfl!
  have k3 : PyData.strOk (ss "join") = true := by kernel_rfl!
  have k4 : PyData.strOk (ss "binary") = true := by kernel_rfl!
  have k5 : PyData.strOk (ss "unary") = true := by kernel_rfl!
  have k6 : PyData.strOk (ss "item") = true := by kernel_rfl!
  have k7 : PyData.strOk (ss "call") = true := by kernel_rfl!
  have k8 : PyData.strOk (ss "t") = true := by kernel_rfl!
  have k9 : PyData.strOk (ss "+") = true := by kernel_rfl!
  have k10 : PyData.strOk (ss "|") = true := by kernel_rfl!
  have k11 : PyData.strOk (ss ".") = true := by kernel_rfl!
  have k12 : PyData.strOk (ss "B") = true := by kernel_rfl!
  have k13 : PyData.strOk (ss "-") = true := by kernel_rfl!
  have k14 : PyData.strOk (ss "?") = true := by kernel_rfl!
  have k15 : PyData.strOk (ss "$") = true := by kernel_rfl!
  have k16 : PyData.strOk (ss "~") = true := by kernel_rfl!
  have k17 : PyData.strOk (ss "G") = true := by kernel_rfl!
  intro t
  induction t with
  | name x => intro h; exact .tup (n := 0 + 1) (.cons (.s k1) (.cons (.s h) .nil)) (by exact Nat.le_of_ble_eq_true rfl)
  | text => intro h; exact .tup (n := 0 + 1) (.cons (.s k2) (.cons (.s k8) .nil)) (by exact Nat.le_of_ble_eq_true rfl)
  | join l r i j => intro h; have h := and_of h; exact .tup (.cons (.s k3) (.cons (i h.1).l (.cons (j h.2).r .nil))) up3
  | plus l r i j => intro h; have h := and_of h; exact .tup (.cons (.s k4) (.cons (.s k9) (.cons (i h.1).l (.cons (j h.2).r .nil)))) up3
  | alt l r i j => intro h; have h := and_of h; exact .tup (.cons (.s k4) (.cons (.s k10) (.cons (i h.1).l (.cons (j h.2).r .nil)))) up3
  | dot l i => intro h; exact .tup (.cons (.s k4) (.cons (.s k11) (.cons (i h).up (.cons (.tup (n := 0 + 1) (.cons (.s k1) (.cons (.s k12) .nil)) (by first | exact ar_le ‹_› (by decide) | exact ar_lt ‹_› (by decide) | omega)) .nil)))) up4
  | neg t i => intro h; exact .tup (.cons (.s k5) (.cons (.s k13) (.cons (i h) .nil))) up3
  | quest t i => intro h; exact .tup (.cons (.s k5) (.cons (.s k14) (.cons (i h) .nil))) up3
  | dollar t i => intro h; exact .tup (.cons (.s k5) (.cons (.s k15) (.cons (i h) .nil))) up3
  | tilde t i => intro h; exact .tup (.cons (.s k5) (.cons (.s k16) (.cons (i h) .nil))) up3
  | item1 o p i j => intro h; have h := and_of h; exact .tup (.cons (.s k6) (.cons (i h.1).l.up (.cons (.tup (.cons (j h.2).r .nil) (Nat.le_refl _)) .nil))) up4
  | item2 o p q i j k => intro h; have h := and_of h; have h' := and_of h.2; exact .tup (.cons (.s k6) (.cons (i h.1).l.up (.cons (.tup (.cons (j h'.1).l.r (.cons (k h'.2).r.r .nil)) (Nat.le_refl _)) .nil))) up4
  | call0 => intro h; exact .tup (n := 2 + 1) (.cons (.s k7) (.cons (.s k17) (.cons (.tup (n := 0) .nil (by exact Nat.le_of_ble_eq_true rfl)) .nil))) (by exact Nat.le_of_ble_eq_true rfl)
  | call1 p i => intro h; exact .tup (.cons (.s k7) (.cons (.s k17) (.cons (.tup (.cons (i h) .nil) (Nat.le_refl _)) .nil))) up4
  | call2 p q i j => intro h; have h := and_of h; exact .tup (.cons (.s k7) (.cons (.s k17) (.cons (.tup (.cons (i h.1).l (.cons (j h.2).r .nil)) (Nat.le_refl _)) .nil))) up4
noncomputable def Tr.isF : Tr → Bool
  | .name x => x == ss "F"
  | _ => false
theorem Tr.isF_name {x : Str} : Tr.isF (.name x) = (x == ss "F" : Bool) := rfl
theorem Tr.isF_text : Tr.isF (.text) = (false : Bool) := rfl
theorem Tr.isF_join {l r : Tr} : Tr.isF (.join l r) = (false : Bool) := rfl
theorem Tr.isF_plus {l r : Tr} : Tr.isF (.plus l r) = (false : Bool) := rfl
theorem Tr.isF_alt {l r : Tr} : Tr.isF (.alt l r) = (false : Bool) := rfl
theorem Tr.isF_dot {l : Tr} : Tr.isF (.dot l) = (false : Bool) := rfl
theorem Tr.isF_neg {l : Tr} : Tr.isF (.neg l) = (false : Bool) := rfl
theorem Tr.isF_quest {l : Tr} : Tr.isF (.quest l) = (false : Bool) := rfl
theorem Tr.isF_dollar {l : Tr} : Tr.isF (.dollar l) = (false : Bool) := rfl
theorem Tr.isF_tilde {l : Tr} : Tr.isF (.tilde l) = (false : Bool) := rfl
theorem Tr.isF_item1 {l r : Tr} : Tr.isF (.item1 l r) = (false : Bool) := rfl
theorem Tr.isF_item2 {o l r : Tr} : Tr.isF (.item2 o l r) = (false : Bool) := rfl
theorem Tr.isF_call0 : Tr.isF (.call0) = (false : Bool) := rfl
theorem Tr.isF_call1 {l : Tr} : Tr.isF (.call1 l) = (false : Bool) := rfl
theorem Tr.isF_call2 {l r : Tr} : Tr.isF (.call2 l r) = (false : Bool) := rfl
theorem data_F (t : Tr) : PyData.eqv t.data (.tuple [.str (ss "name"), .str (ss "F")]) = t.isF := by
  have k2 : (ss "text" == ss "name") = false := by kernel_rfl!
  have k3 : (ss "join" == ss "name") = false := by kernel_rfl!
  have k4 : (ss "binary" == ss "name") = false := by kernel_rfl!
  have k5 : (ss "unary" == ss "name") = false := by kernel_rfl!
  have k6 : (ss "item" == ss "name") = false := by kernel_rfl!
  have k7 : (ss "call" == ss "name") = false := by kernel_rfl!
  cases t <;> simp [Tr.data_name, Tr.data_text, Tr.data_join, Tr.data_plus, Tr.data_alt, Tr.data_dot, Tr.data_neg, Tr.data_quest, Tr.data_dollar, Tr.data_tilde, Tr.data_item1, Tr.data_item2, Tr.data_call0, Tr.data_call1, Tr.data_call2, PyData.eqv, PyData.eqvAll, Tr.isF_name, Tr.isF_text, Tr.isF_join, Tr.isF_plus, Tr.isF_alt, Tr.isF_dot, Tr.isF_neg, Tr.isF_quest, Tr.isF_dollar, Tr.isF_tilde, Tr.isF_item1, Tr.isF_item2, Tr.isF_call0, Tr.isF_call1, Tr.isF_call2, k2, k3, k4, k5, k6, k7]
noncomputable def Tr.own : Tr → Bool
  | .tilde t => t.isF
  | _ => true
theorem Tr.own_name {x : Str} : Tr.own (.name x) = (true : Bool) := rfl
theorem Tr.own_text : Tr.own (.text) = (true : Bool) := rfl
theorem Tr.own_join {l r : Tr} : Tr.own (.join l r) = (true : Bool) := rfl
theorem Tr.own_plus {l r : Tr} : Tr.own (.plus l r) = (true : Bool) := rfl
theorem Tr.own_alt {l r : Tr} : Tr.own (.alt l r) = (true : Bool) := rfl
theorem Tr.own_dot {l : Tr} : Tr.own (.dot l) = (true : Bool) := rfl
theorem Tr.own_neg {l : Tr} : Tr.own (.neg l) = (true : Bool) := rfl
theorem Tr.own_quest {l : Tr} : Tr.own (.quest l) = (true : Bool) := rfl
theorem Tr.own_dollar {l : Tr} : Tr.own (.dollar l) = (true : Bool) := rfl
theorem Tr.own_tilde {t : Tr} : Tr.own (.tilde t) = (t.isF : Bool) := rfl
theorem Tr.own_item1 {l r : Tr} : Tr.own (.item1 l r) = (true : Bool) := rfl
theorem Tr.own_item2 {o l r : Tr} : Tr.own (.item2 o l r) = (true : Bool) := rfl
theorem Tr.own_call0 : Tr.own (.call0) = (true : Bool) := rfl
theorem Tr.own_call1 {l : Tr} : Tr.own (.call1 l) = (true : Bool) := rfl
theorem Tr.own_call2 {l r : Tr} : Tr.own (.call2 l r) = (true : Bool) := rfl
noncomputable def Tr.sharp : Tr → Bool
  | .name _ | .text | .call0 => true
  | .join l r | .plus l r | .alt l r | .item1 l r | .call2 l r => l.sharp && r.sharp
  | .dot t | .neg t | .quest t | .dollar t | .call1 t => t.sharp
  | .tilde t => t.isF && t.sharp
  | .item2 o a b => o.sharp && (a.sharp && b.sharp)
theorem Tr.sharp_name {x : Str} : Tr.sharp (.name x) = (true : Bool) := rfl
theorem Tr.sharp_text : Tr.sharp (.text) = (true : Bool) := rfl
theorem Tr.sharp_join {l r : Tr} : Tr.sharp (.join l r) = (l.sharp && r.sharp : Bool) := rfl
theorem Tr.sharp_plus {l r : Tr} : Tr.sharp (.plus l r) = (l.sharp && r.sharp : Bool) := rfl
theorem Tr.sharp_alt {l r : Tr} : Tr.sharp (.alt l r) = (l.sharp && r.sharp : Bool) := rfl
theorem Tr.sharp_dot {t : Tr} : Tr.sharp (.dot t) = (t.sharp : Bool) := rfl
theorem Tr.sharp_neg {t : Tr} : Tr.sharp (.neg t) = (t.sharp : Bool) := rfl
theorem Tr.sharp_quest {t : Tr} : Tr.sharp (.quest t) = (t.sharp : Bool) := rfl
theorem Tr.sharp_dollar {t : Tr} : Tr.sharp (.dollar t) = (t.sharp : Bool) := rfl
theorem Tr.sharp_tilde {t : Tr} : Tr.sharp (.tilde t) = (t.isF && t.sharp : Bool) := rfl
theorem Tr.sharp_item1 {l r : Tr} : Tr.sharp (.item1 l r) = (l.sharp && r.sharp : Bool) := rfl
theorem Tr.sharp_item2 {o a b : Tr} : Tr.sharp (.item2 o a b) = (o.sharp && (a.sharp && b.sharp) : Bool) := rfl
theorem Tr.sharp_call0 : Tr.sharp (.call0) = (true : Bool) := rfl
theorem Tr.sharp_call1 {t : Tr} : Tr.sharp (.call1 t) = (t.sharp : Bool) := rfl
theorem Tr.sharp_call2 {l r : Tr} : Tr.sharp (.call2 l r) = (l.sharp && r.sharp : Bool) := rfl
theorem sharp_parts (t : Tr) : t.sharp = (t.own && t.parts.all Tr.sharp) := by
  cases t <;> simp [Tr.sharp_name, Tr.sharp_text, Tr.sharp_join, Tr.sharp_plus, Tr.sharp_alt, Tr.sharp_dot, Tr.sharp_neg, Tr.sharp_quest, Tr.sharp_dollar, Tr.sharp_tilde, Tr.sharp_item1, Tr.sharp_item2, Tr.sharp_call0, Tr.sharp_call1, Tr.sharp_call2, Tr.own_name, Tr.own_text, Tr.own_join, Tr.own_plus, Tr.own_alt, Tr.own_dot, Tr.own_neg, Tr.own_quest, Tr.own_dollar, Tr.own_tilde, Tr.own_item1, Tr.own_item2, Tr.own_call0, Tr.own_call1, Tr.own_call2, Tr.parts_name, Tr.parts_text, Tr.parts_join, Tr.parts_plus, Tr.parts_alt, Tr.parts_dot, Tr.parts_neg, Tr.parts_quest, Tr.parts_dollar, Tr.parts_tilde, Tr.parts_item1, Tr.parts_item2, Tr.parts_call0, Tr.parts_call1, Tr.parts_call2]
/-- what a tree's tuple is, by its head -/
inductive TreeHead (S : Sto) (v : Value) (t : Tr) : Prop
  | c1 (a : Addr) (h1 : Str) (tk : Tok) (x : Value) (e : v = .ref a) (z : TupS S a [.str h1 tk, x]) (ne : h1 ≠ ss "unary") (ow : t.own = true)
  | c2 (a : Addr) (h1 : Str) (tk : Tok) (x y : Value) (e : v = .ref a) (z : TupS S a [.str h1 tk, x, y]) (ne : h1 ≠ ss "unary") (ow : t.own = true)
  | c3 (a : Addr) (h1 : Str) (tk : Tok) (x y x' : Value) (e : v = .ref a) (z : TupS S a [.str h1 tk, x, y, x']) (ne : h1 ≠ ss "unary") (ow : t.own = true)
  | c4 (a : Addr) (tk : Tok) (op : Str) (u : Tok) (x : Value) (e : v = .ref a) (z : TupS S a [.str (ss "unary") tk, .str op u, x]) (ne : op ≠ ss "~") (ow : t.own = true)
  | c5 (a : Addr) (tk u : Tok) (x : Value) (t' : Tr) (e : v = .ref a) (z : TupS S a [.str (ss "unary") tk, .str (ss "~") u, x]) (hx : TreeS S x t') (et : t = .tilde t')
theorem tree_head {S : Sto} {v : Value} : ∀ {t : Tr}, TreeS S v t → TreeHead S v t := by
  have k1 : ss "name" ≠ ss "unary" := by decide +kernel
  have k2 : ss "text" ≠ ss "unary" := by decide +kernel
  have k3 : ss "join" ≠ ss "unary" := by decide +kernel
  have k4 : ss "binary" ≠ ss "unary" := by decide +kernel
  have k6 : ss "item" ≠ ss "unary" := by decide +kernel
  have k7 : ss "call" ≠ ss "unary" := by decide +kernel
  have j1 : ss "-" ≠ ss "~" := by decide +kernel
  have j2 : ss "?" ≠ ss "~" := by decide +kernel
  have j3 : ss "$" ≠ ss "~" := by decide +kernel
  intro t h
  cases t with
  | name _ => obtain ⟨a, t, u, e, z⟩ := h; exact .c1 _ _ _ _ e z k1 rfl
  | text => obtain ⟨a, t, u, e, z⟩ := h; exact .c1 _ _ _ _ e z k2 rfl
  | join l r => obtain ⟨a, t, vl, vr, e, z, x, y⟩ := h; exact .c2 _ _ _ _ _ e z k3 rfl
  | plus l r => obtain ⟨a, t, u, vl, vr, e, z, x, y⟩ := h; exact .c3 _ _ _ _ _ _ e z k4 rfl
  | alt l r => obtain ⟨a, t, u, vl, vr, e, z, x, y⟩ := h; exact .c3 _ _ _ _ _ _ e z k4 rfl
  | dot l => obtain ⟨a, t, u, vl, vr, e, z, x, y⟩ := h; exact .c3 _ _ _ _ _ _ e z k4 rfl
  | neg t => obtain ⟨a, _, u, vx, e, z, x⟩ := h; exact .c4 _ _ _ _ _ e z j1 rfl
  | quest t => obtain ⟨a, _, u, vx, e, z, x⟩ := h; exact .c4 _ _ _ _ _ e z j2 rfl
  | dollar t => obtain ⟨a, _, u, vx, e, z, x⟩ := h; exact .c4 _ _ _ _ _ e z j3 rfl
  | tilde t => obtain ⟨a, _, u, vx, e, z, x⟩ := h; exact .c5 _ _ _ _ _ e z x rfl
  | item1 o p => obtain ⟨a, t, c, vo, vx, e, z, z', x, y⟩ := h; exact .c2 _ _ _ _ _ e z k6 rfl
  | item2 o p q => obtain ⟨a, t, c, vo, vx, vy, e, z, z', x, y, y'⟩ := h; exact .c2 _ _ _ _ _ e z k6 rfl
  | call0 => obtain ⟨a, t, u, c, e, z, z'⟩ := h; exact .c2 _ _ _ _ _ e z k7 rfl
  | call1 p => obtain ⟨a, t, u, c, vx, e, z, z', x⟩ := h; exact .c2 _ _ _ _ _ e z k7 rfl
  | call2 p q => obtain ⟨a, t, u, c, vx, vy, e, z, z', x, y⟩ := h; exact .c2 _ _ _ _ _ e z k7 rfl
local macro_rules | `(tactic| walk_at "compareOp NotEq str str") => `(tactic| first | refine ne_tt (by assumption) ?_ | refine ne_ff (by kernel_rfl!) ?_ | refine ne_tt (by decide +kernel) ?_)
local macro_rules | `(tactic| walk_at "compareOp Eq ref ref") => `(tactic| walk_at "call ref")
local macro_rules | `(tactic| walk_at "eval ListComp") => `(tactic| (k_dflt (refine LCt.ListComp_T (F₀ := by k_asm) (by with_unfolding_all rfl) (by decide) (by rfl) (by decide) (by rfl) ?_)))
noncomputable def SC (w : World) (t : Tr) : Prop := ∀ v, PCon w 388 [v] (5 * t.ht + 6) (50 * t.ht + 200) (fun h => TreeS (HS h) v t) (fun _ _ r => r = .bool t.sharp)
theorem readsAll_of {h : Heap} {vs : List Value} {ts : List Tr} (q : TreesS (HS h) vs ts) (ht : ∀ t ∈ ts, t.fine = true ∧ t.ht ≤ 20) : ∀ ys : List Value, (∀ y ∈ ys, y ∈ vs) → ∃ ds as, ReadsAll h ys ds as ∧ PyData.canLayAll0 ds = true ∧ PyData.depthAll ds ≤ 42 ∧ ds.length = ys.length
  | [], _ => ⟨[], _, .nil, rfl, Nat.zero_le _, rfl⟩
  | y :: ys, hy => by
    obtain ⟨ds, as, r, c, d, e⟩ := readsAll_of q ht ys fun z hz => hy z (.tail _ hz)
    obtain ⟨i, hi⟩ := List.getElem?_of_mem (hy y (.head _))
    obtain ⟨t, hti, hts⟩ := q.get hi
    have hm : t ∈ ts := List.mem_of_getElem? hti
    obtain ⟨as', r'⟩ := tree_reads t hts
    have l := data_lay t (ht t hm).1
    have l2 := (ht t hm).2
    refine ⟨t.data :: ds, _, .cons r' r, ?_, ?_, by simp [e]⟩
    · simp only [PyData.canLayAll0, l.1, c, Bool.and_self]
    · simp only [PyData.depthAll]; have := l.2; omega
theorem sharp_step (w : World) (t : Tr) (hf : t.fine = true) (hht : t.ht ≤ 20) (ih : ∀ p ∈ t.parts, SC w p) : SC w t := by
  intro v A s Q E hh hd hu G hT hret
  refine wpAny_call (enter (as := []) (news := []) (binds := [(ss "tree", v)]) G (fun _ hp => nomatch hp) (by k_is) (by k_is) (lt0 (by assumption)) (BindsTo.of_eq rfl) (locs rfl) rfl rfl rfl (by decide) ?_)
  intro L h₁ F N
  rw [hide_nil] at F N
  have X := G.K
  obtain ⟨_, _, _, _, _, T⟩ := G
  generalize hB : bodyS (topS 28) = B
  conv at hB => lhs; whnf
  subst hB
  generalize hS : scoS (topS 28) = S
  conv at hS => lhs; whnf
  subst hS
  dsimp only
  refine cut (fun s' => ∃ h tk, s' = { s with heap := h, toks := tk } ∧ Fr s.heap L h (fun y => if y = ss "own" then some (.bool t.own) else [(ss "tree", v)].reverse.lookup y)) ?_ ?_
  · rcases tree_head hT with ⟨a, h1, tk, x, rfl, z, ne, ow⟩ | ⟨a, h1, tk, x, y, rfl, z, ne, ow⟩ | ⟨a, h1, tk, x, y, z', rfl, z, ne, ow⟩ | ⟨a, tk, op, u, x, rfl, z, ne, ow⟩ | ⟨a, tk, u, x, t', rfl, z, hx, rfl⟩
    all_goals replace z := z.heap
    · rw [ow]; k_steps
      exact ⟨rfl, _, _, rfl, by assumption⟩
    · rw [ow]; k_steps
      exact ⟨rfl, _, _, rfl, by assumption⟩
    · rw [ow]; k_steps
      exact ⟨rfl, _, _, rfl, by assumption⟩
    · rw [ow]; k_steps
      exact ⟨rfl, _, _, rfl, by assumption⟩
    · k_steps
      obtain ⟨as, rx⟩ := tree_reads t' (hx.mono fun _ _ e => Fr.keep (by assumption) _ _ e)
      have l := data_lay t' hf
      simp only [Tr.ht_name, Tr.ht_text, Tr.ht_join, Tr.ht_plus, Tr.ht_alt, Tr.ht_dot, Tr.ht_neg, Tr.ht_quest, Tr.ht_dollar, Tr.ht_tilde, Tr.ht_item1, Tr.ht_item2, Tr.ht_call0, Tr.ht_call1, Tr.ht_call2] at hht
      refine eq_dataH rx (reads_tuple_at (News.get (by assumption) (by k_mem)) rfl rfl (by repeat constructor)) ?_ (by kernel_rfl!) (by show A.units + 3 + 64 < _; first | exact dlt ‹_› (by decide) | exact dh ‹_› ‹_› (by decide) | exact dh0 ‹_› ‹_› (by decide) | exact dhs ‹_› ‹_› (by decide) | exact dm0 ‹_› ‹_› (by decide) | exact dl3 ‹_› (by decide) | exact dlt2 ‹_› (by decide) | omega) ?_
      · unfold SeqAt.shaped; rw [l.1, Bool.true_and]; exact decide_eq_true (by have := l.2; omega)
      rw [data_F]
      k_steps
      exact ⟨rfl, _, _, rfl, by assumption⟩
  · rintro s' ⟨h, tk, rfl, F⟩
    have N : News s.heap L h [] := PyProof.Rows.News.nil
    have e := sharp_parts t
    cases ho : t.own with
    | false =>
      rw [ho] at F e
      k_steps
      exact hret _ _ _ [] (Fr.keep (by assumption)) (fun _ h => nomatch h) (by rw [e]; rfl)
    | true =>
      rw [ho] at F e
      rw [Bool.true_and] at e
      k_steps
      refine use_pure (parts_con w (HS s.heap) t v) hh (by show A.depth + 1 + _ < _; first | exact dlt (by assumption) (by decide) | exact dm1 (by assumption) (by first | exact Nat.le_refl _ | exact Nat.le_max_left _ _ | exact Nat.le_max_right _ _) (by decide) | exact dm0 (by assumption) (by first | exact Nat.le_refl _ | exact Nat.le_max_left _ _ | exact Nat.le_max_right _ _) (by decide) | exact dlt2 (by assumption) (by decide) | exact dlt1 (by assumption) (by decide) | exact dh ‹_› ‹_› (by decide) | exact dh0 ‹_› ‹_› (by decide) | exact dhs ‹_› ‹_› (by decide) | exact dm0 ‹_› ‹_› (by decide) | exact dl3 ‹_› (by decide) | exact dlt2 ‹_› (by decide) | omega) (by show A.units + 3 + _ < _; first | exact dlt (by assumption) (by decide) | exact dm1 (by assumption) (by first | exact Nat.le_refl _ | exact Nat.le_max_left _ _ | exact Nat.le_max_right _ _) (by decide) | exact dm0 (by assumption) (by first | exact Nat.le_refl _ | exact Nat.le_max_left _ _ | exact Nat.le_max_right _ _) (by decide) | exact dlt2 (by assumption) (by decide) | exact dlt1 (by assumption) (by decide) | exact dh ‹_› ‹_› (by decide) | exact dh0 ‹_› ‹_› (by decide) | exact dhs ‹_› ‹_› (by decide) | exact dm0 ‹_› ‹_› (by decide) | exact dl3 ‹_› (by decide) | exact dlt2 ‹_› (by decide) | omega) X T (by assumption) (by assumption) ⟨hT, fun _ _ e => Fr.keep (by assumption) _ _ e⟩ ?_
      intro PQ
      intro r0 h0 tk0 I0 F0 N0 hne0 hp0
      obtain ⟨a0, vs0, n0, rfl, m0, o0⟩ := hp0
      simp only [List.nil_append, List.cons_append, List.append_assoc] at N0
      replace N0 := News.put N0 (q := (a0, lstO vs0 n0)) (by repeat (first | exact m0 | exact List.mem_append_left _ m0 | exact List.mem_append_right _ m0 | refine List.mem_append_right _ ?_ | refine List.Mem.tail _ ?_))
      have hl0 := o0.length
      have hlen := parts_len t
      have hol := o0.length
      k_steps
      refine LCt.CompSrcT.ledger hh (by assumption) (by assumption) (by k_mem) (by rw [sizeLine_eq, List.size_toArray]; omega) fun g => ?_
      refine rest_T (vs := vs0) (fun i => match t.parts[i]? with | some p => !p.sharp | none => false) ?_ ?_ ?_ ?_ _ 0 [] (by simp) (fun _ h => nomatch h) ⟨fun _ j hj => absurd hj (Nat.not_lt_zero _), fun _ => rfl⟩
      · exact .inr ⟨_, by k_mem, rfl, _, rfl⟩
      · intro i v' I oI C oC D oD m₂ h tk E' hv hC hx F N
        obtain ⟨p, hp, hq⟩ := o0.get hv
        have hm : p ∈ t.parts := List.mem_of_getElem? hp
        have hpt := parts_ht hm
        k_steps
        refine use_pure (ih p hm v') hh (by show A.depth + 1 + _ < _; first | exact dlt (by assumption) (by decide) | exact dm1 (by assumption) (by first | exact Nat.le_refl _ | exact Nat.le_max_left _ _ | exact Nat.le_max_right _ _) (by decide) | exact dm0 (by assumption) (by first | exact Nat.le_refl _ | exact Nat.le_max_left _ _ | exact Nat.le_max_right _ _) (by decide) | exact dlt2 (by assumption) (by decide) | exact dlt1 (by assumption) (by decide) | exact dh ‹_› ‹_› (by decide) | exact dh0 ‹_› ‹_› (by decide) | exact dhs ‹_› ‹_› (by decide) | exact dm0 ‹_› ‹_› (by decide) | exact dl3 ‹_› (by decide) | exact dlt2 ‹_› (by decide) | omega) (by show A.units + 3 + _ < _; first | exact dlt (by assumption) (by decide) | exact dm1 (by assumption) (by first | exact Nat.le_refl _ | exact Nat.le_max_left _ _ | exact Nat.le_max_right _ _) (by decide) | exact dm0 (by assumption) (by first | exact Nat.le_refl _ | exact Nat.le_max_left _ _ | exact Nat.le_max_right _ _) (by decide) | exact dlt2 (by assumption) (by decide) | exact dlt1 (by assumption) (by decide) | exact dh ‹_› ‹_› (by decide) | exact dh0 ‹_› ‹_› (by decide) | exact dhs ‹_› ‹_› (by decide) | exact dm0 ‹_› ‹_› (by decide) | exact dl3 ‹_› (by decide) | exact dlt2 ‹_› (by decide) | omega) X T (by assumption) (by assumption) (hq.mono fun _ _ e => Fr.keep (by assumption) _ _ e) ?_
        intro PQ
        rintro r1 h1 tk1 I1 F1 N1 hne1 rfl
        k_steps
        exact TstEnd.mk (by assumption) (by assumption) (fun _ h => by simp only [List.mem_append, List.mem_cons] at h ⊢; simp only [h, or_true, true_or]) (by simp [hp])
      · intro i v' I oI C oC D oD m₂ h tk E' hv hC hx F N
        k_steps
        exact EltEnd.mk (by assumption) (by assumption) (fun _ h => h) rfl
      · intro ys hys hB D h tk F N off
        obtain ⟨ds, as, rr, c, d, el⟩ := readsAll_of o0 (fun p hp => ⟨fine_parts hf hp, by have := parts_ht hp; omega⟩) ys hys
        have q : PyData.eqv (.list ds) (.list []) = t.parts.all Tr.sharp := by
          rw [Bool.eq_iff_iff]
          have a1 : (∀ i, i < vs0.length → (match t.parts[i]? with | some p => !p.sharp | none => false) = false) ↔ t.parts.all Tr.sharp = true := by
            rw [List.all_eq_true]
            constructor
            · intro h p hp
              obtain ⟨i, hi⟩ := List.getElem?_of_mem hp
              have := h i (by have := (List.getElem?_eq_some_iff.mp hi).1; omega)
              simpa [hi] using this
            · intro h i hi
              have hi' : i < t.parts.length := by omega
              rw [List.getElem?_eq_getElem hi']
              simpa using h _ (List.getElem_mem hi')
          rw [← a1, ← hB]
          cases ds with
          | nil => have : ys = [] := List.eq_nil_of_length_eq_zero (by simpa using el.symm); simp [PyData.eqv, PyData.eqvAll, this]
          | cons b r =>
            have : ys ≠ [] := fun e => by subst e; simp at el
            simp [PyData.eqv, PyData.eqvAll, this]
        k_steps
        refine eq_dataH (reads_list_at (News.get (by assumption) (by k_mem)) rfl rfl (by simpa using ReadsAll.keeps (Fr.keep (by assumption)) rr)) (reads_list_at (News.get (by assumption) (by k_mem)) rfl rfl (by repeat constructor)) ?_ (by kernel_rfl!) (by show A.units + 3 + 64 < _; first | exact dlt ‹_› (by decide) | exact dh ‹_› ‹_› (by decide) | exact dh0 ‹_› ‹_› (by decide) | exact dhs ‹_› ‹_› (by decide) | exact dm0 ‹_› ‹_› (by decide) | exact dl3 ‹_› (by decide) | exact dlt2 ‹_› (by decide) | omega) ?_
        · unfold SeqAt.shaped PyData.canLay0; rw [c, Bool.true_and]; exact decide_eq_true (by simp only [PyData.depth]; omega)
        rw [q, ← e]
        k_steps
        exact hret _ _ _ [] (Fr.keep (by assumption)) (fun _ h => nomatch h) rfl
theorem sharp_con (w : World) : ∀ (n : Nat) (t : Tr), t.fine = true → t.ht ≤ 20 → t.ht < n → SC w t
  | 0, t, _, _, h => absurd h (Nat.not_lt_zero _)
  | n + 1, t, hf, hh, h => sharp_step w t hf hh fun p hp => sharp_con w n p (fine_parts hf hp) (by have := parts_ht hp; omega) (by have := parts_ht hp; omega)
end
section
set_option maxHeartbeats 0
set_option rowWalk.seconds 0

/-- the box of the law: cells and turn -/
noncomputable abbrev boxO (c : Addr) (turn : Nat) (t : Tok) (n : Nat) : Obj := { cls := .type "list", data := .seq #[.ref c, .int turn t] n }
noncomputable def BoxPre (w : World) (h : Heap) (b c : Addr) (vs : List Value) (turn : Nat) : Prop :=
  Gd w (hideAll h [b]) ∧ (∃ t n, h.get? b = some (boxO c turn t n)) ∧ h.IsList c vs.toArray ∧ (∃ ns, IntsAre vs ns) ∧ vs.length ≤ 100 ∧ c ≠ b
noncomputable def PullC (w : World) : Prop := ∀ (A : Around) (s : Shared) (Q E : Value → Shared → Prop) (b c : Addr) (vs : List Value) (turn : Nat) (many : Int) (u : Tok), A.handled = none → A.depth + 2 < recursionLimit → A.units + 50 < cLine →
  BoxPre w s.heap b c vs turn → turn ≤ 1000000 → 0 < many → many < 100 →
  (∀ r t' h' tk, StB [b] s.heap h' → BoxPre w h' b c vs (turn + 1) → 0 ≤ r → r < many → Q (.int r t') { s with heap := h', toks := tk }) →
  wpAny (model PG w) A (call (.ref 366) [.ref b, .int many u]) Q E s
theorem box_next {w : World} {h h' : Heap} {b c L : Addr} {vs : List Value} {turn : Nat} {t : Tok} {n : Nat} {m : Str → Option Value} (P : BoxPre w h b c vs turn) (F : Fr (hideAll h [b]) L h' m)
    (N : News (hideAll h [b]) L h' [(b, W.listOf #[.ref c, .int ((turn : Int) + 1) t] n)]) : BoxPre w h' b c vs (turn + 1) := by
  obtain ⟨G, _, hc, hns, hlen, hcb⟩ := P
  have k : StA (hideAll h [b]) (hideAll h' [b]) := fun x o e => hideAll_get [b] (F.keep _ _ e) fun hx => by rw [hideAll_none [b] hx] at e; cases e
  refine ⟨G.keeps k, ⟨t, n, (N _ (.head _)).1⟩, ?_, hns, hlen, hcb⟩
  obtain ⟨o, e, r⟩ := hc
  exact ⟨o, F.keep _ _ (hideAll_get [b] e (by simpa using hcb)), r⟩
theorem pull_con (w : World) : PullC w := by
  intro A s Q E b c vs turn many u hh hd hu hpre htn hm0 hm1 hret
  have P := hpre
  obtain ⟨G, ⟨t, n, hb⟩, hc, ⟨ns, hns⟩, hlen, hcb⟩ := hpre
  have G0 := G
  have hnews : ∀ p ∈ [(b, boxO c turn t n)], s.heap.get? p.1 = some p.2 ∧ p.1 ∈ [b] := fun p hp => by rw [List.mem_singleton.mp hp]; exact ⟨hb, .head _⟩
  have hl : (hideAll s.heap [b]).IsList c vs.toArray := by obtain ⟨o, e, r⟩ := hc; exact ⟨o, hideAll_get [b] e (by simpa using hcb), r⟩
  refine wpAny_call (enter (as := [b]) (news := [(b, boxO c turn t n)]) (binds := [(ss "box", .ref b), (ss "many", .int many u)]) G hnews (by k_is) (by k_is) (lt0 (by assumption)) (BindsTo.of_eq rfl) (locs rfl) rfl rfl rfl (by decide) ?_)
  intro L h₁ F N
  have X := G.K
  obtain ⟨_, _, _, _, _, T⟩ := G
  generalize hB : bodyS (topS 24) = B
  conv at hB => lhs; whnf
  subst hB
  generalize hS : scoS (topS 24) = S
  conv at hS => lhs; whnf
  subst hS
  dsimp only
  k_steps
  all_goals exact hret _ _ _ _ (stB_of (Fr.keep (by assumption))) (box_next P (by assumption) (by assumption)) (Int.fmod_nonneg_of_pos _ hm0) (Int.fmod_lt_of_pos _ hm0)
end
section
/-! the plain law: depth and climb, no program in sight -/
noncomputable def Tr.good : Tr → Bool
  | .name x => x != ss "F"
  | .text | .call0 => true
  | .join l r | .plus l r | .alt l r | .item1 l r | .call2 l r => l.good && r.good
  | .dot t | .neg t | .quest t | .dollar t | .call1 t => t.good
  | .tilde t => t.isF || t.good
  | .item2 o a b => o.good && (a.good && b.good)
theorem Tr.good_name {x : Str} : Tr.good (.name x) = (x != ss "F" : Bool) := rfl
theorem Tr.good_text : Tr.good (.text) = (true : Bool) := rfl
theorem Tr.good_join {l r : Tr} : Tr.good (.join l r) = (l.good && r.good : Bool) := rfl
theorem Tr.good_plus {l r : Tr} : Tr.good (.plus l r) = (l.good && r.good : Bool) := rfl
theorem Tr.good_alt {l r : Tr} : Tr.good (.alt l r) = (l.good && r.good : Bool) := rfl
theorem Tr.good_dot {t : Tr} : Tr.good (.dot t) = (t.good : Bool) := rfl
theorem Tr.good_neg {t : Tr} : Tr.good (.neg t) = (t.good : Bool) := rfl
theorem Tr.good_quest {t : Tr} : Tr.good (.quest t) = (t.good : Bool) := rfl
theorem Tr.good_dollar {t : Tr} : Tr.good (.dollar t) = (t.good : Bool) := rfl
theorem Tr.good_tilde {t : Tr} : Tr.good (.tilde t) = (t.isF || t.good : Bool) := rfl
theorem Tr.good_item1 {l r : Tr} : Tr.good (.item1 l r) = (l.good && r.good : Bool) := rfl
theorem Tr.good_item2 {o a b : Tr} : Tr.good (.item2 o a b) = (o.good && (a.good && b.good) : Bool) := rfl
theorem Tr.good_call0 : Tr.good (.call0) = (true : Bool) := rfl
theorem Tr.good_call1 {t : Tr} : Tr.good (.call1 t) = (t.good : Bool) := rfl
theorem Tr.good_call2 {l r : Tr} : Tr.good (.call2 l r) = (l.good && r.good : Bool) := rfl
theorem high_pos (t : Tr) : 1 ≤ t.high := by cases t <;> first | exact Int.le_refl 1 | exact Int.le_max_left _ _
theorem add_max_le {a x y z : Int} : a + max x y ≤ z ↔ a + x ≤ z ∧ a + y ≤ z :=
  ⟨fun h => ⟨Int.le_trans (Int.add_le_add_left (Int.le_max_left x y) a) h, Int.le_trans (Int.add_le_add_left (Int.le_max_right x y) a) h⟩, fun h => by
    rcases Int.le_total x y with q | q
    · rw [Int.max_eq_right q]; exact h.2
    · rw [Int.max_eq_left q]; exact h.1⟩
theorem eq_leN {x y : Nat} (h : ∀ z, x ≤ z ↔ y ≤ z) : x = y := Nat.le_antisymm ((h y).2 (Nat.le_refl _)) ((h x).1 (Nat.le_refl _))
theorem chg_drop : Ord.chg .drop = -1 := rfl
theorem chg_push {s : Str} : Ord.chg (.push s) = 1 := rfl
theorem chg_ref {s : Str} : Ord.chg (.ref s) = 1 := rfl
theorem chg_item2 : Ord.chg (.item 2) = -2 := rfl
theorem chg_indirect : Ord.chg .indirect = 0 := rfl
theorem chg_value : Ord.chg .value = 0 := rfl
theorem chg_guard {k : Nat} : Ord.chg (.guard k) = 0 := rfl
theorem chg_unguard : Ord.chg .unguard = 0 := rfl
theorem chg_fail : Ord.chg .fail = -1 := rfl
theorem chg_assign : Ord.chg .assign = -2 := rfl
theorem chg_match : Ord.chg .match_ = -2 := rfl
theorem chg_replace : Ord.chg .replace = -2 := rfl
theorem chg_double : Ord.chg .double = 1 := rfl
theorem fold2 {l r : List Ord} {x y : Int} {o : Ord} (hl : 1 ≤ x) (hr : 1 ≤ y) (i : ∀ a b, l.foldl dStep (a, b) = (a + 1, max b (a + x))) (j : ∀ a b, r.foldl dStep (a, b) = (a + 1, max b (a + y))) (ho : o.chg = -1) (a b : Int) :
    (l ++ r ++ [o]).foldl dStep (a, b) = (a + 1, max b (a + max 1 (max (0 + x) (1 + y)))) := by
  simp only [List.foldl_append, i, j, List.foldl, dStep, ho, Prod.mk.injEq]
  refine ⟨by lia, eq_le fun z => ?_⟩
  simp only [Int.max_le, add_max_le]; constructor <;> intro q <;> (repeat' apply And.intro) <;> omega
theorem fold1 {l : List Ord} {x : Int} {o : Ord} (hl : 1 ≤ x) (i : ∀ a b, l.foldl dStep (a, b) = (a + 1, max b (a + x))) (ho : o.chg = 0) (a b : Int) :
    (l ++ [o]).foldl dStep (a, b) = (a + 1, max b (a + max 1 (0 + x))) := by
  simp only [List.foldl_append, i, List.foldl, dStep, ho, Prod.mk.injEq]
  refine ⟨by lia, eq_le fun z => ?_⟩
  simp only [Int.max_le, add_max_le]; constructor <;> intro q <;> (repeat' apply And.intro) <;> omega
theorem depth_tree : ∀ (t : Tr) (a b : Int), t.orders.foldl dStep (a, b) = (a + 1, max b (a + t.high)) := by
  intro t
  induction t with
  | name x => intro a b; rfl
  | text => intro a b; rfl
  | call0 => intro a b; rfl
  | join l r ihl ihr => exact fold2 (high_pos l) (high_pos r) ihl ihr rfl
  | plus l r ihl ihr => exact fold2 (high_pos l) (high_pos r) ihl ihr rfl
  | alt l r ihl ihr => exact fold2 (high_pos l) (high_pos r) ihl ihr rfl
  | item1 l r ihl ihr => exact fold2 (high_pos l) (high_pos r) ihl ihr rfl
  | call2 l r ihl ihr => exact fold2 (high_pos l) (high_pos r) ihl ihr rfl
  | item2 o l r iho ihl ihr =>
    intro a b
    have := high_pos o; have := high_pos l; have := high_pos r
    simp only [Tr.orders_name, Tr.orders_text, Tr.orders_join, Tr.orders_plus, Tr.orders_alt, Tr.orders_dot, Tr.orders_neg, Tr.orders_quest, Tr.orders_dollar, Tr.orders_tilde, Tr.orders_item1, Tr.orders_item2, Tr.orders_call0, Tr.orders_call1, Tr.orders_call2, List.foldl_append, iho, ihl, ihr, List.foldl, dStep, chg_drop, chg_push, chg_ref, chg_item2, chg_indirect, chg_value, chg_guard, chg_unguard, chg_fail, chg_assign, chg_match, chg_replace, chg_double, Tr.high_name, Tr.high_text, Tr.high_join, Tr.high_plus, Tr.high_alt, Tr.high_dot, Tr.high_neg, Tr.high_quest, Tr.high_dollar, Tr.high_tilde, Tr.high_item1, Tr.high_item2, Tr.high_call0, Tr.high_call1, Tr.high_call2, Prod.mk.injEq]
    refine ⟨by lia, eq_le fun z => ?_⟩
    simp only [Int.max_le, add_max_le]; constructor <;> intro q <;> (repeat' apply And.intro) <;> omega
  | dot l ihl => exact fold2 (r := [.ref (ss "B")]) (high_pos l) (Int.le_refl 1) ihl (fun a b => rfl) rfl
  | neg l ihl => exact fold1 (high_pos l) ihl rfl
  | call1 l ihl => exact fold1 (high_pos l) ihl rfl
  | quest l ihl | dollar l ihl =>
    intro a b
    have := high_pos l
    simp only [Tr.orders_name, Tr.orders_text, Tr.orders_join, Tr.orders_plus, Tr.orders_alt, Tr.orders_dot, Tr.orders_neg, Tr.orders_quest, Tr.orders_dollar, Tr.orders_tilde, Tr.orders_item1, Tr.orders_item2, Tr.orders_call0, Tr.orders_call1, Tr.orders_call2, List.foldl_append, ihl, List.foldl, dStep, chg_drop, chg_push, chg_ref, chg_item2, chg_indirect, chg_value, chg_guard, chg_unguard, chg_fail, chg_assign, chg_match, chg_replace, chg_double, Tr.high_name, Tr.high_text, Tr.high_join, Tr.high_plus, Tr.high_alt, Tr.high_dot, Tr.high_neg, Tr.high_quest, Tr.high_dollar, Tr.high_tilde, Tr.high_item1, Tr.high_item2, Tr.high_call0, Tr.high_call1, Tr.high_call2, Prod.mk.injEq]
    refine ⟨by lia, eq_le fun z => ?_⟩
    simp only [Int.max_le, add_max_le]; constructor <;> intro q <;> (repeat' apply And.intro) <;> omega
  | tilde l ihl =>
    intro a b
    have := high_pos l
    simp only [Tr.orders_name, Tr.orders_text, Tr.orders_join, Tr.orders_plus, Tr.orders_alt, Tr.orders_dot, Tr.orders_neg, Tr.orders_quest, Tr.orders_dollar, Tr.orders_tilde, Tr.orders_item1, Tr.orders_item2, Tr.orders_call0, Tr.orders_call1, Tr.orders_call2, List.foldl_append, ihl, List.foldl, dStep, chg_drop, chg_push, chg_ref, chg_item2, chg_indirect, chg_value, chg_guard, chg_unguard, chg_fail, chg_assign, chg_match, chg_replace, chg_double, Tr.high_name, Tr.high_text, Tr.high_join, Tr.high_plus, Tr.high_alt, Tr.high_dot, Tr.high_neg, Tr.high_quest, Tr.high_dollar, Tr.high_tilde, Tr.high_item1, Tr.high_item2, Tr.high_call0, Tr.high_call1, Tr.high_call2, Prod.mk.injEq]
    refine ⟨by lia, eq_le fun z => ?_⟩
    simp only [Int.max_le, add_max_le]; constructor <;> intro q <;> (repeat' apply And.intro) <;> omega
theorem len2 {x y : List Ord} {o : Ord} {a b : Nat} (i : x.length ≤ 4 ^ (a + 1)) (j : y.length ≤ 4 ^ (b + 1)) : (x ++ y ++ [o]).length ≤ 4 ^ (max a b + 1 + 1) := by
  have p : 4 ^ (a + 1) ≤ 4 ^ (max a b + 1) := Nat.pow_le_pow_right (by decide) (Nat.succ_le_succ (Nat.le_max_left a b))
  have q : 4 ^ (b + 1) ≤ 4 ^ (max a b + 1) := Nat.pow_le_pow_right (by decide) (Nat.succ_le_succ (Nat.le_max_right a b))
  have z : 1 ≤ 4 ^ (max a b + 1) := Nat.one_le_pow _ _ (by decide)
  rw [Nat.pow_succ, List.length_append, List.length_append]
  generalize 4 ^ (max a b + 1) = k at *
  show _ ≤ 0 + k + k + k + k
  rw [Nat.zero_add k, Nat.add_right_comm (k + k)]
  exact Nat.le_trans (Nat.add_le_add (Nat.add_le_add (Nat.le_trans i p) (Nat.le_trans j q)) z) (Nat.le_add_right _ _)
theorem len1 {l x y : List Ord} {a : Nat} (h : x.length + y.length ≤ 4) (i : l.length ≤ 4 ^ (a + 1)) : (x ++ l ++ y).length ≤ 4 ^ (a + 1 + 1) := by
  have z : 1 ≤ 4 ^ a := Nat.one_le_pow _ _ (by decide)
  have st : 4 ^ (a + 1) = 4 ^ a * 4 := Nat.pow_succ 4 a
  rw [Nat.pow_succ, List.length_append, List.length_append]
  omega
theorem quad {a b c w : Nat} (ha : a ≤ w) (hb : b ≤ w) (hc : c ≤ w) (h1 : 1 ≤ w) : a + (b + c) + (0 + 1) ≤ 4 * w := by
  rw [Nat.mul_comm]; show _ ≤ 0 + w + w + w + w
  rw [Nat.zero_add w, Nat.add_assoc w w w]; exact Nat.add_le_add (Nat.add_le_add ha (Nat.add_le_add hb hc)) h1
theorem orders_len : ∀ (t : Tr), t.orders.length ≤ 4 ^ (t.ht + 1) := by
  have one : ∀ k, 1 ≤ 4 ^ k := fun k => Nat.one_le_pow _ _ (by lia)
  have up : ∀ {a b : Nat}, a ≤ b → 4 ^ (a + 1) ≤ 4 ^ (b + 1) := fun h => Nat.pow_le_pow_right (by lia) (by lia)
  have st : ∀ k, 4 ^ (k + 1) = 4 * 4 ^ k := fun k => by rw [Nat.pow_succ]; lia
  intro t
  induction t with
  | name x => simp [Tr.orders_name, Tr.orders_text, Tr.orders_join, Tr.orders_plus, Tr.orders_alt, Tr.orders_dot, Tr.orders_neg, Tr.orders_quest, Tr.orders_dollar, Tr.orders_tilde, Tr.orders_item1, Tr.orders_item2, Tr.orders_call0, Tr.orders_call1, Tr.orders_call2, Tr.ht_name, Tr.ht_text, Tr.ht_join, Tr.ht_plus, Tr.ht_alt, Tr.ht_dot, Tr.ht_neg, Tr.ht_quest, Tr.ht_dollar, Tr.ht_tilde, Tr.ht_item1, Tr.ht_item2, Tr.ht_call0, Tr.ht_call1, Tr.ht_call2]
  | text => simp [Tr.orders_name, Tr.orders_text, Tr.orders_join, Tr.orders_plus, Tr.orders_alt, Tr.orders_dot, Tr.orders_neg, Tr.orders_quest, Tr.orders_dollar, Tr.orders_tilde, Tr.orders_item1, Tr.orders_item2, Tr.orders_call0, Tr.orders_call1, Tr.orders_call2, Tr.ht_name, Tr.ht_text, Tr.ht_join, Tr.ht_plus, Tr.ht_alt, Tr.ht_dot, Tr.ht_neg, Tr.ht_quest, Tr.ht_dollar, Tr.ht_tilde, Tr.ht_item1, Tr.ht_item2, Tr.ht_call0, Tr.ht_call1, Tr.ht_call2]
  | call0 => simp [Tr.orders_name, Tr.orders_text, Tr.orders_join, Tr.orders_plus, Tr.orders_alt, Tr.orders_dot, Tr.orders_neg, Tr.orders_quest, Tr.orders_dollar, Tr.orders_tilde, Tr.orders_item1, Tr.orders_item2, Tr.orders_call0, Tr.orders_call1, Tr.orders_call2, Tr.ht_name, Tr.ht_text, Tr.ht_join, Tr.ht_plus, Tr.ht_alt, Tr.ht_dot, Tr.ht_neg, Tr.ht_quest, Tr.ht_dollar, Tr.ht_tilde, Tr.ht_item1, Tr.ht_item2, Tr.ht_call0, Tr.ht_call1, Tr.ht_call2]
  | join l r i j => exact len2 i j
  | plus l r i j => exact len2 i j
  | alt l r i j => exact len2 i j
  | item1 l r i j => exact len2 i j
  | call2 l r i j => exact len2 i j
  | item2 o l r k i j =>
    simp only [Tr.orders_name, Tr.orders_text, Tr.orders_join, Tr.orders_plus, Tr.orders_alt, Tr.orders_dot, Tr.orders_neg, Tr.orders_quest, Tr.orders_dollar, Tr.orders_tilde, Tr.orders_item1, Tr.orders_item2, Tr.orders_call0, Tr.orders_call1, Tr.orders_call2, Tr.ht_name, Tr.ht_text, Tr.ht_join, Tr.ht_plus, Tr.ht_alt, Tr.ht_dot, Tr.ht_neg, Tr.ht_quest, Tr.ht_dollar, Tr.ht_tilde, Tr.ht_item1, Tr.ht_item2, Tr.ht_call0, Tr.ht_call1, Tr.ht_call2, List.length_append, List.length_cons, List.length_nil]
    rw [st (max o.ht (max l.ht r.ht) + 1)]
    exact quad (Nat.le_trans k (up (Nat.le_max_left _ _))) (Nat.le_trans i (up (Nat.le_trans (Nat.le_max_left _ _) (Nat.le_max_right _ _)))) (Nat.le_trans j (up (Nat.le_trans (Nat.le_max_right _ _) (Nat.le_max_right _ _)))) (one _)
  | dot l i => simp only [Tr.orders_name, Tr.orders_text, Tr.orders_join, Tr.orders_plus, Tr.orders_alt, Tr.orders_dot, Tr.orders_neg, Tr.orders_quest, Tr.orders_dollar, Tr.orders_tilde, Tr.orders_item1, Tr.orders_item2, Tr.orders_call0, Tr.orders_call1, Tr.orders_call2, List.append_assoc]; exact len1 (x := []) (y := [_] ++ [_]) (by exact Nat.le_of_ble_eq_true rfl) i
  | neg l i => exact len1 (x := []) (y := [_]) (by exact Nat.le_of_ble_eq_true rfl) i
  | quest l i => exact len1 (x := []) (y := [_, _]) (by exact Nat.le_of_ble_eq_true rfl) i
  | dollar l i => exact len1 (x := []) (y := [_, _]) (by exact Nat.le_of_ble_eq_true rfl) i
  | call1 l i => exact len1 (x := []) (y := [_]) (by exact Nat.le_of_ble_eq_true rfl) i
  | tilde l i => exact len1 (x := [_]) (y := [_, _, _]) (by exact Nat.le_of_ble_eq_true rfl) i
theorem two {a k : Nat} {x c : Int} (hc : c ≤ 2) (i : x ≤ 2 * (a : Int) + 1) (h : a ≤ k) : c + x ≤ 2 * ((k + 1 : Nat) : Int) + 1 := by omega
theorem two0 {k : Nat} : (1 : Int) ≤ 2 * ((k + 1 : Nat) : Int) + 1 := by omega
theorem high_le2 {x y : Int} {a b : Nat} (i : x ≤ 2 * (a : Int) + 1) (j : y ≤ 2 * (b : Int) + 1) : max 1 (max (0 + x) (1 + y)) ≤ 2 * ((max a b + 1 : Nat) : Int) + 1 := by
  exact Int.max_le.2 ⟨two0, Int.max_le.2 ⟨two (by decide) i (Nat.le_max_left a b), two (by decide) j (Nat.le_max_right a b)⟩⟩
theorem high_le1 {x : Int} {a : Nat} (i : x ≤ 2 * (a : Int) + 1) : max 1 (0 + x) ≤ 2 * ((a + 1 : Nat) : Int) + 1 := Int.max_le.2 ⟨two0, two (by decide) i (Nat.le_refl _)⟩
theorem high_le : ∀ (t : Tr), t.high ≤ 2 * t.ht + 1 := by
  intro t
  induction t with
  | name x => exact Int.le_refl 1
  | text => exact Int.le_refl 1
  | call0 => exact (by decide : (1 : Int) ≤ 2 * ((1 : Nat) : Int) + 1)
  | join l r i j => exact high_le2 i j
  | plus l r i j => exact high_le2 i j
  | alt l r i j => exact high_le2 i j
  | item1 l r i j => exact high_le2 i j
  | call2 l r i j => exact high_le2 i j
  | dot l i => simp only [Tr.high_name, Tr.high_text, Tr.high_join, Tr.high_plus, Tr.high_alt, Tr.high_dot, Tr.high_neg, Tr.high_quest, Tr.high_dollar, Tr.high_tilde, Tr.high_item1, Tr.high_item2, Tr.high_call0, Tr.high_call1, Tr.high_call2, Tr.ht_name, Tr.ht_text, Tr.ht_join, Tr.ht_plus, Tr.ht_alt, Tr.ht_dot, Tr.ht_neg, Tr.ht_quest, Tr.ht_dollar, Tr.ht_tilde, Tr.ht_item1, Tr.ht_item2, Tr.ht_call0, Tr.ht_call1, Tr.ht_call2]; exact Int.max_le.2 ⟨two0, Int.max_le.2 ⟨two (by decide) i (Nat.le_refl _), by omega⟩⟩
  | neg l i => exact high_le1 i
  | quest l i => exact high_le1 i
  | dollar l i => exact high_le1 i
  | tilde l i => exact high_le1 i
  | call1 l i => exact high_le1 i
  | item2 o l r k i j =>
    simp only [Tr.high_name, Tr.high_text, Tr.high_join, Tr.high_plus, Tr.high_alt, Tr.high_dot, Tr.high_neg, Tr.high_quest, Tr.high_dollar, Tr.high_tilde, Tr.high_item1, Tr.high_item2, Tr.high_call0, Tr.high_call1, Tr.high_call2, Tr.ht_name, Tr.ht_text, Tr.ht_join, Tr.ht_plus, Tr.ht_alt, Tr.ht_dot, Tr.ht_neg, Tr.ht_quest, Tr.ht_dollar, Tr.ht_tilde, Tr.ht_item1, Tr.ht_item2, Tr.ht_call0, Tr.ht_call1, Tr.ht_call2]
    exact Int.max_le.2 ⟨two0, Int.max_le.2 ⟨two (by decide) k (Nat.le_max_left _ _), Int.max_le.2 ⟨two (by decide) i (Nat.le_trans (Nat.le_max_left _ _) (Nat.le_max_right _ _)), two (by decide) j (Nat.le_trans (Nat.le_max_right _ _) (Nat.le_max_right _ _))⟩⟩⟩
/-- one order done: none: out of the model; some none: it fails; else the guards and the height -/
noncomputable def doOrd : Ord → List (Nat × Nat) → Nat → Option (Option (List (Nat × Nat) × Nat))
  | .push _, gs, h => some (some (gs, h + 1))
  | .var x, gs, h | .ref x, gs, h => if x = ss "F" then some none else some (some (gs, h + 1))
  | .value, gs, h | .indirect, gs, h | .unary _, gs, h => if 1 ≤ h then some (some (gs, h)) else none
  | .call n, gs, h => if n ≤ h then some (some (gs, h - n + 1)) else none
  | .item n, gs, h => if n + 1 ≤ h then some (some (gs, h - n)) else none
  | .binary _, gs, h | .join, gs, h | .given, gs, h => if 2 ≤ h then some (some (gs, h - 1)) else none
  | .drop, gs, h => if 1 ≤ h then some (some (gs, h - 1)) else none
  | .fail, _, _ => some none
  | .guard _, _, _ => none
  | .unguard, g :: gs, h => some (some (gs, h))
  | .unguard, [], _ => none
  | .match_, gs, h | .assign, gs, h | .replace, gs, h => if 2 ≤ h then some (some (gs, h - 2)) else none
  | .double, gs, h => if 1 ≤ h then some (some (gs, h + 1)) else none
noncomputable def mrun (os : List Ord) : Nat → Nat → List (Nat × Nat) → Nat → Nat → Option Nat
  | 0, _, _, _, _ => none
  | n + 1, p, gs, h, most =>
    if h ≤ 1000 ∧ gs.length ≤ 1000 then
      match os[p]? with
      | none => some most
      | some (.guard k) => mrun os n (p + 1) ((p + k, h) :: gs) h (max most h)
      | some o => match doOrd o gs h with
        | none => none
        | some (some (gs', h')) => mrun os n (p + 1) gs' h' (max most h')
        | some none => match gs with
          | [] => some most
          | (p', h') :: gs' => if h' ≤ h then mrun os n p' gs' h' (max most h') else none
    else none
noncomputable def frun (os : List Ord) (n : Nat) (gs : List (Nat × Nat)) (most : Nat) : Option Nat :=
  match gs with
  | [] => some most
  | (p', h') :: gs' => mrun os n p' gs' h' (max most h')
noncomputable def topOk (gs : List (Nat × Nat)) (h : Nat) : Prop := match gs with | [] => True | g :: _ => g.2 ≤ h
theorem topOk.mono {gs : List (Nat × Nat)} {h h' : Nat} (x : topOk gs h) (l : h ≤ h') : topOk gs h' := by
  cases gs with
  | nil => trivial
  | cons g r => exact Nat.le_trans x l
/-- a piece that goes well, from one height to another; one that fails; m: the greatest height -/
noncomputable def Ok (g : Nat) (c : List Ord) (h h' m : Nat) : Prop := ∀ pre post gs most n r, gs.length ≤ g → mrun (pre ++ (c ++ post)) n (pre.length + c.length) gs h' (max most m) = some r → ∃ n', mrun (pre ++ (c ++ post)) n' pre.length gs h most = some r
noncomputable def Fl (g : Nat) (c : List Ord) (h m : Nat) : Prop := ∀ pre post gs most n r, gs.length ≤ g → topOk gs h → frun (pre ++ (c ++ post)) n gs (max most m) = some r → ∃ n', mrun (pre ++ (c ++ post)) n' pre.length gs h most = some r
theorem at_one (pre post : List Ord) (o : Ord) : (pre ++ ([o] ++ post))[pre.length]? = some o := by simp
theorem Ok.one {g : Nat} {o : Ord} {h h' : Nat} (hd : ∀ gs, doOrd o gs h = some (some (gs, h'))) (hh : h ≤ 1000) (hg : g ≤ 1000) : Ok g [o] h h' h' := by
  intro pre post gs most n r hl hr
  refine ⟨n + 1, ?_⟩
  unfold mrun
  rw [if_pos ⟨hh, Nat.le_trans hl hg⟩, at_one]
  have := hd gs
  split
  · rename_i e; cases e
  · rename_i e; cases e; cases this
  · rename_i e; cases e; rw [this]; exact hr
theorem Fl.one {g : Nat} {o : Ord} {h : Nat} (hd : ∀ gs, doOrd o gs h = some none) (hh : h ≤ 1000) (hg : g ≤ 1000) : Fl g [o] h 0 := by
  intro pre post gs most n r hl ht hr
  refine ⟨n + 1, ?_⟩
  unfold mrun
  rw [if_pos ⟨hh, Nat.le_trans hl hg⟩, at_one]
  have := hd gs
  rw [Nat.max_zero] at hr
  split
  · rename_i e; cases e
  · rename_i e; cases e; cases this
  · rename_i e; cases e; rw [this]; cases gs with | nil => exact hr | cons q gs => dsimp only; rw [if_pos (show q.2 ≤ h from ht)]; exact hr
theorem split_pre (pre c d post : List Ord) : pre ++ ((c ++ d) ++ post) = (pre ++ c) ++ (d ++ post) := by simp only [List.append_assoc]
theorem split_post (pre c d post : List Ord) : pre ++ ((c ++ d) ++ post) = pre ++ (c ++ (d ++ post)) := by simp only [List.append_assoc]
theorem Ok.seq {g : Nat} {c d : List Ord} {h h₁ h₂ m₁ m₂ : Nat} (x : Ok g c h h₁ m₁) (y : Ok g d h₁ h₂ m₂) : Ok g (c ++ d) h h₂ (max m₁ m₂) := by
  intro pre post gs most n r hl hr
  rw [← Nat.max_assoc, split_pre, List.length_append, ← Nat.add_assoc, ← List.length_append] at hr
  obtain ⟨n₁, h₁⟩ := y _ _ _ _ _ _ hl hr
  rw [← split_pre, split_post, List.length_append] at h₁
  obtain ⟨n₂, h₂⟩ := x _ _ _ _ _ _ hl h₁
  exact ⟨n₂, by rw [split_post]; exact h₂⟩
theorem Ok.fl {g : Nat} {c d : List Ord} {h h₁ m₁ m₂ : Nat} (x : Ok g c h h₁ m₁) (y : Fl g d h₁ m₂) (l : h ≤ h₁) : Fl g (c ++ d) h (max m₁ m₂) := by
  intro pre post gs most n r hl ht hr
  rw [← Nat.max_assoc, split_pre] at hr
  obtain ⟨n₁, h₁⟩ := y _ _ _ _ _ _ hl (ht.mono l) hr
  rw [← split_pre, split_post, List.length_append] at h₁
  obtain ⟨n₂, h₂⟩ := x _ _ _ _ _ _ hl h₁
  exact ⟨n₂, by rw [split_post]; exact h₂⟩
theorem Fl.seq {g : Nat} {c d : List Ord} {h m : Nat} (x : Fl g c h m) : Fl g (c ++ d) h m := by
  intro pre post gs most n r hl ht hr
  rw [split_post] at hr ⊢
  exact x _ _ _ _ _ _ hl ht hr
/-- a negation -/
theorem mrun_guard {pre c : List Ord} {n : Nat} {gs : List (Nat × Nat)} {h most k : Nat} (hh : h ≤ 1000) (hg : gs.length ≤ 1000) : mrun (pre ++ ([.guard k] ++ c)) (n + 1) pre.length gs h most = mrun (pre ++ ([.guard k] ++ c)) n (pre.length + 1) ((pre.length + k, h) :: gs) h (max most h) := by
  conv => lhs; unfold mrun
  rw [if_pos ⟨hh, hg⟩, at_one]
theorem tilde_fl {g : Nat} {c : List Ord} {h m : Nat} (hh : h < 1000) (hg : g < 1000) (x : Ok (g + 1) c h (h + 1) m) : Fl g ([.guard (c.length + 3)] ++ c ++ [.unguard, .fail, .push (ss "")]) h (max h (max m (h + 1))) := by
  intro pre post gs most n r hl ht hr
  have e : pre ++ ([Ord.guard (c.length + 3)] ++ c ++ [Ord.unguard, .fail, .push (ss "")] ++ post) = pre ++ ([Ord.guard (c.length + 3)] ++ (c ++ ([Ord.unguard] ++ ([Ord.fail] ++ ([Ord.push (ss "")] ++ post))))) := by simp
  rw [e] at hr ⊢
  have e2 : pre ++ ([Ord.guard (c.length + 3)] ++ (c ++ ([Ord.unguard] ++ ([Ord.fail] ++ ([Ord.push (ss "")] ++ post))))) = (pre ++ [Ord.guard (c.length + 3)] ++ c ++ [Ord.unguard]) ++ ([Ord.fail] ++ ([Ord.push (ss "")] ++ post)) := by simp
  have e3 : pre ++ ([Ord.guard (c.length + 3)] ++ (c ++ ([Ord.unguard] ++ ([Ord.fail] ++ ([Ord.push (ss "")] ++ post))))) = (pre ++ [Ord.guard (c.length + 3)] ++ c) ++ ([Ord.unguard] ++ ([Ord.fail] ++ ([Ord.push (ss "")] ++ post))) := by simp
  have e4 : pre ++ ([Ord.guard (c.length + 3)] ++ (c ++ ([Ord.unguard] ++ ([Ord.fail] ++ ([Ord.push (ss "")] ++ post))))) = (pre ++ [Ord.guard (c.length + 3)]) ++ (c ++ ([Ord.unguard] ++ ([Ord.fail] ++ ([Ord.push (ss "")] ++ post)))) := by simp
  -- at the fail
  have f1 := Fl.one (g := g) (o := .fail) (h := h + 1) (fun _ => rfl) (by lia) (by lia) (pre ++ [Ord.guard (c.length + 3)] ++ c ++ [Ord.unguard]) ([Ord.push (ss "")] ++ post) gs (max most (max h (max m (h + 1)))) n r hl (ht.mono (by lia)) (by rw [Nat.max_zero, ← e2]; exact hr)
  obtain ⟨n₁, h₁⟩ := f1
  -- at the unguard
  have h₂ : mrun (pre ++ [Ord.guard (c.length + 3)] ++ c ++ ([Ord.unguard] ++ ([Ord.fail] ++ ([Ord.push (ss "")] ++ post)))) (n₁ + 1) (pre ++ [Ord.guard (c.length + 3)] ++ c).length ((pre.length + (c.length + 3), h) :: gs) (h + 1) (max (max most h) m) = some r := by
    unfold mrun
    rw [if_pos ⟨by lia, by simp only [List.length_cons]; lia⟩, at_one]
    simp only [doOrd]
    rw [← e3, e2]
    rw [← h₁]
    congr 1
    · simp only [List.length_append, List.length_cons, List.length_nil]
    · refine eq_leN fun z => ?_
      simp only [Nat.max_le]; constructor <;> intro q <;> (repeat' apply And.intro) <;> omega
  rw [← e3, e4, List.length_append] at h₂
  obtain ⟨n₃, h₃⟩ := x _ _ _ _ _ _ (by simp only [List.length_cons]; lia) h₂
  refine ⟨n₃ + 1, ?_⟩
  rw [mrun_guard (by lia) (by lia), e4]
  rw [← h₃]
  congr 1
  simp
theorem tilde_ok {g : Nat} {c : List Ord} {h m : Nat} (hh : h < 1000) (hg : g < 1000) (x : Fl (g + 1) c h m) : Ok g ([.guard (c.length + 3)] ++ c ++ [.unguard, .fail, .push (ss "")]) h (h + 1) (max h (max m (h + 1))) := by
  intro pre post gs most n r hl hr
  have e : pre ++ ([Ord.guard (c.length + 3)] ++ c ++ [Ord.unguard, .fail, .push (ss "")] ++ post) = pre ++ ([Ord.guard (c.length + 3)] ++ (c ++ ([Ord.unguard] ++ ([Ord.fail] ++ ([Ord.push (ss "")] ++ post))))) := by simp
  rw [e] at hr ⊢
  have e2 : pre ++ ([Ord.guard (c.length + 3)] ++ (c ++ ([Ord.unguard] ++ ([Ord.fail] ++ ([Ord.push (ss "")] ++ post))))) = (pre ++ [Ord.guard (c.length + 3)] ++ c ++ [Ord.unguard] ++ [Ord.fail]) ++ ([Ord.push (ss "")] ++ post) := by simp
  have e4 : pre ++ ([Ord.guard (c.length + 3)] ++ (c ++ ([Ord.unguard] ++ ([Ord.fail] ++ ([Ord.push (ss "")] ++ post))))) = (pre ++ [Ord.guard (c.length + 3)]) ++ (c ++ ([Ord.unguard] ++ ([Ord.fail] ++ ([Ord.push (ss "")] ++ post)))) := by simp
  have f1 := Ok.one (g := g) (o := .push (ss "")) (h := h) (h' := h + 1) (fun _ => rfl) (by lia) (by lia) (pre ++ [Ord.guard (c.length + 3)] ++ c ++ [Ord.unguard] ++ [Ord.fail]) post gs (max (max (max most h) m) h) n r hl (by
    rw [← e2, ← hr]
    congr 1
    · simp only [List.length_append, List.length_cons, List.length_nil]; lia
    · refine eq_leN fun z => ?_
      simp only [Nat.max_le]; constructor <;> intro q <;> (repeat' apply And.intro) <;> omega)
  obtain ⟨n₁, h₁⟩ := f1
  rw [← e2] at h₁
  rw [e4] at h₁
  obtain ⟨n₃, h₃⟩ := x _ _ ((pre.length + (c.length + 3), h) :: gs) (max most h) n₁ r (by simp only [List.length_cons]; lia) (Nat.le_refl _) (by
    show mrun _ n₁ (pre.length + (c.length + 3)) gs h (max (max (max most h) m) h) = some r
    rw [← h₁]
    congr 1
    simp only [List.length_append, List.length_cons, List.length_nil]; lia)
  refine ⟨n₃ + 1, ?_⟩
  rw [mrun_guard (by lia) (by lia), e4]
  rw [← h₃]
  congr 1
  simp
/-- how a piece comes out: M bounds what is seen, and is it where all is sharp -/
noncomputable def Out (g : Nat) (c : List Ord) (h h' : Nat) (M : Int) (s : Bool) : Prop := ∃ m : Nat, (m : Int) ≤ M ∧ (Ok g c h h' m ∨ Fl g c h m) ∧ (s = true → Ok g c h h' m ∧ (m : Int) = M)
theorem Out.eq {g : Nat} {c : List Ord} {h h' : Nat} {M M' : Int} {s s' : Bool} (x : Out g c h h' M s) (e : M = M') (i : s' = true → s = true) : Out g c h h' M' s' := by
  subst e; obtain ⟨m, a, b, d⟩ := x; exact ⟨m, a, b, fun q => d (i q)⟩
theorem Out.one {g : Nat} {o : Ord} {h h' : Nat} (hd : ∀ gs, doOrd o gs h = some (some (gs, h'))) (hh : h ≤ 1000) (hg : g ≤ 1000) : Out g [o] h h' h' true :=
  ⟨h', Int.le_refl _, .inl (Ok.one hd hh hg), fun _ => ⟨Ok.one hd hh hg, rfl⟩⟩
theorem cast_max_eq {a b : Nat} {M N : Int} (h : (a : Int) = M) (k : (b : Int) = N) : ((max a b : Nat) : Int) = max M N := by subst h k; omega
theorem cast_max_le {a b : Nat} {M N : Int} (h : (a : Int) ≤ M) (k : (b : Int) ≤ N) : ((max a b : Nat) : Int) ≤ max M N := by
  rw [cast_max_eq rfl rfl]
  exact Int.max_le.2 ⟨Int.le_trans h (Int.le_max_left _ _), Int.le_trans k (Int.le_max_right _ _)⟩
theorem Out.seq {g : Nat} {c d : List Ord} {h h₁ h₂ : Nat} {M₁ M₂ : Int} {s₁ s₂ : Bool} (x : Out g c h h₁ M₁ s₁) (y : Out g d h₁ h₂ M₂ s₂) (l : h ≤ h₁) : Out g (c ++ d) h h₂ (max M₁ M₂) (s₁ && s₂) := by
  obtain ⟨m₁, a₁, b₁, d₁⟩ := x
  obtain ⟨m₂, a₂, b₂, d₂⟩ := y
  cases hs : (s₁ && s₂) with
  | true =>
    rw [Bool.and_eq_true] at hs
    obtain ⟨o₁, e₁⟩ := d₁ hs.1
    obtain ⟨o₂, e₂⟩ := d₂ hs.2
    exact ⟨max m₁ m₂, cast_max_le a₁ a₂, .inl (o₁.seq o₂), fun _ => ⟨o₁.seq o₂, cast_max_eq e₁ e₂⟩⟩
  | false =>
    rcases b₁ with b₁ | b₁
    · rcases b₂ with b₂ | b₂
      · exact ⟨max m₁ m₂, cast_max_le a₁ a₂, .inl (b₁.seq b₂), fun q => by cases q⟩
      · exact ⟨max m₁ m₂, cast_max_le a₁ a₂, .inr (b₁.fl b₂ l), fun q => by cases q⟩
    · exact ⟨m₁, Int.le_trans a₁ (Int.le_max_left _ _), .inr b₁.seq, fun q => by cases q⟩
theorem Out.tilde {g : Nat} {c : List Ord} {h : Nat} {M : Int} {s : Bool} (hh : h < 1000) (hg : g < 1000) (x : Out (g + 1) c h (h + 1) M s) : Out g ([.guard (c.length + 3)] ++ c ++ [.unguard, .fail, .push (ss "")]) h (h + 1) (max M (h + 1)) false := by
  obtain ⟨m, a, b, _⟩ := x
  refine ⟨max h (max m (h + 1)), by lia, ?_, fun q => by cases q⟩
  rcases b with b | b
  · exact .inr (tilde_fl hh hg b)
  · exact .inl (tilde_ok hh hg b)
theorem Out.run {c : List Ord} {h' : Nat} {M : Int} {s : Bool} (x : Out 0 c 0 h' M s) (l : h' ≤ 1000) : ∃ n r, mrun c n 0 [] 0 0 = some r ∧ (r : Int) ≤ M ∧ (s = true → (r : Int) = M) := by
  obtain ⟨m, a, b, d⟩ := x
  have e : ([] : List Ord) ++ (c ++ []) = c := by simp
  rcases b with b | b
  · obtain ⟨n, hn⟩ := b [] [] [] 0 1 m (Nat.le_refl _) (by
      unfold mrun
      rw [if_pos ⟨l, Nat.zero_le _⟩, e]
      have : c[([] : List Ord).length + c.length]? = none := by simp
      rw [this, Nat.zero_max])
    exact ⟨n, m, by rw [e] at hn; exact hn, a, fun q => (d q).2⟩
  · obtain ⟨n, hn⟩ := b [] [] [] 0 1 m (Nat.le_refl _) trivial (by
      unfold frun; rw [Nat.zero_max])
    exact ⟨n, m, by rw [e] at hn; exact hn, a, fun q => (d q).2⟩
theorem isF_eq {t : Tr} (h : t.isF = true) : t = .name (ss "F") := by
  cases t <;> simp [Tr.isF_name, Tr.isF_text, Tr.isF_join, Tr.isF_plus, Tr.isF_alt, Tr.isF_dot, Tr.isF_neg, Tr.isF_quest, Tr.isF_dollar, Tr.isF_tilde, Tr.isF_item1, Tr.isF_item2, Tr.isF_call0, Tr.isF_call1, Tr.isF_call2] at h
  rw [h]
noncomputable def Cl (t : Tr) : Prop := ∀ g h : Nat, g + t.ht ≤ 900 → h + 2 * t.ht ≤ 900 → Out g t.orders h (h + 1) (h + t.high) t.sharp
theorem climb2 {l r : Tr} {o : Ord} (i : Cl l) (j : Cl r) (ho : ∀ h gs, doOrd o gs (h + 1 + 1) = some (some (gs, h + 1))) (g h : Nat) (l1 : g + (max l.ht r.ht + 1) ≤ 900) (l2 : h + 2 * (max l.ht r.ht + 1) ≤ 900) :
    Out g (l.orders ++ r.orders ++ [o]) h (h + 1) (h + max 1 (max (0 + l.high) (1 + r.high))) (l.sharp && r.sharp) := by
  have := high_pos l; have := high_pos r
  have p := Nat.le_max_left l.ht r.ht; have q := Nat.le_max_right l.ht r.ht
  generalize max l.ht r.ht = k at *
  refine (((i g h (by lia) (by lia)).seq (j g (h + 1) (by lia) (by lia)) (by lia)).seq (Out.one (ho h) (by lia) (by lia)) (by lia)).eq ?_ (by simp)
  refine eq_le fun z => ?_
  simp only [Int.max_le, add_max_le]; constructor <;> intro q <;> (repeat' apply And.intro) <;> omega
theorem climb1 {l : Tr} {o : Ord} (i : Cl l) (ho : ∀ h gs, doOrd o gs (h + 1) = some (some (gs, h + 1))) (g h : Nat) (l1 : g + (l.ht + 1) ≤ 900) (l2 : h + 2 * (l.ht + 1) ≤ 900) :
    Out g (l.orders ++ [o]) h (h + 1) (h + max 1 (0 + l.high)) l.sharp := by
  have := high_pos l
  refine ((i g h (by lia) (by lia)).seq (Out.one (ho h) (by lia) (by lia)) (by lia)).eq ?_ (by simp)
  refine eq_le fun z => ?_
  simp only [Int.max_le, add_max_le]; constructor <;> intro q <;> (repeat' apply And.intro) <;> omega
theorem climb_tree : ∀ (t : Tr), t.good = true → ∀ g h : Nat, g + t.ht ≤ 900 → h + 2 * t.ht ≤ 900 → Out g t.orders h (h + 1) (h + t.high) t.sharp := by
  intro t
  induction t with
  | name x =>
    intro hg g h l1 l2
    simp only [Tr.good_name, Tr.good_text, Tr.good_join, Tr.good_plus, Tr.good_alt, Tr.good_dot, Tr.good_neg, Tr.good_quest, Tr.good_dollar, Tr.good_tilde, Tr.good_item1, Tr.good_item2, Tr.good_call0, Tr.good_call1, Tr.good_call2, bne_iff_ne, ne_eq] at hg
    refine (Out.one (fun gs => ?_) (by lia) (by lia)).eq (by simp only [Tr.high_name, Tr.high_text, Tr.high_join, Tr.high_plus, Tr.high_alt, Tr.high_dot, Tr.high_neg, Tr.high_quest, Tr.high_dollar, Tr.high_tilde, Tr.high_item1, Tr.high_item2, Tr.high_call0, Tr.high_call1, Tr.high_call2]; lia) (fun _ => rfl)
    simp only [doOrd, if_neg hg]
  | text => intro hg g h l1 l2; exact (Out.one (fun gs => rfl) (by lia) (by lia)).eq (by simp only [Tr.high_name, Tr.high_text, Tr.high_join, Tr.high_plus, Tr.high_alt, Tr.high_dot, Tr.high_neg, Tr.high_quest, Tr.high_dollar, Tr.high_tilde, Tr.high_item1, Tr.high_item2, Tr.high_call0, Tr.high_call1, Tr.high_call2]; lia) (fun _ => rfl)
  | call0 => intro hg g h l1 l2; exact (Out.one (fun gs => by simp [doOrd]) (by lia) (by lia)).eq (by simp only [Tr.high_name, Tr.high_text, Tr.high_join, Tr.high_plus, Tr.high_alt, Tr.high_dot, Tr.high_neg, Tr.high_quest, Tr.high_dollar, Tr.high_tilde, Tr.high_item1, Tr.high_item2, Tr.high_call0, Tr.high_call1, Tr.high_call2]; lia) (fun _ => rfl)
  | join l r i j => intro hg; have hg := and_of hg; exact climb2 (i hg.1) (j hg.2) (fun h gs => by simp [doOrd])
  | plus l r i j => intro hg; have hg := and_of hg; exact climb2 (i hg.1) (j hg.2) (fun h gs => by simp [doOrd])
  | alt l r i j => intro hg; have hg := and_of hg; exact climb2 (i hg.1) (j hg.2) (fun h gs => by simp [doOrd])
  | item1 l r i j => intro hg; have hg := and_of hg; exact climb2 (i hg.1) (j hg.2) (fun h gs => by simp [doOrd])
  | call2 l r i j => intro hg; have hg := and_of hg; exact climb2 (i hg.1) (j hg.2) (fun h gs => by simp [doOrd])
  | item2 o l r k i j =>
    intro hg g h l1 l2
    simp only [Tr.good_name, Tr.good_text, Tr.good_join, Tr.good_plus, Tr.good_alt, Tr.good_dot, Tr.good_neg, Tr.good_quest, Tr.good_dollar, Tr.good_tilde, Tr.good_item1, Tr.good_item2, Tr.good_call0, Tr.good_call1, Tr.good_call2, Bool.and_eq_true] at hg
    simp only [Tr.ht_name, Tr.ht_text, Tr.ht_join, Tr.ht_plus, Tr.ht_alt, Tr.ht_dot, Tr.ht_neg, Tr.ht_quest, Tr.ht_dollar, Tr.ht_tilde, Tr.ht_item1, Tr.ht_item2, Tr.ht_call0, Tr.ht_call1, Tr.ht_call2] at l1 l2
    have := high_pos o; have := high_pos l; have := high_pos r
    have p := Nat.le_max_left o.ht (max l.ht r.ht); have q := Nat.le_max_right o.ht (max l.ht r.ht)
    have p' := Nat.le_max_left l.ht r.ht; have q' := Nat.le_max_right l.ht r.ht
    generalize max o.ht (max l.ht r.ht) = k1 at *
    generalize max l.ht r.ht = k2 at *
    refine (((k hg.1 g h (by lia) (by lia)).seq ((i hg.2.1 g (h + 1) (by lia) (by lia)).seq (j hg.2.2 g (h + 1 + 1) (by lia) (by lia)) (by lia)) (by lia)).seq (Out.one (h' := h + 1) (fun gs => ?_) (by lia) (by lia)) (by lia)).eq ?_ ?_
    · simp [doOrd]
    · refine eq_le fun z => ?_
      simp only [Tr.high_name, Tr.high_text, Tr.high_join, Tr.high_plus, Tr.high_alt, Tr.high_dot, Tr.high_neg, Tr.high_quest, Tr.high_dollar, Tr.high_tilde, Tr.high_item1, Tr.high_item2, Tr.high_call0, Tr.high_call1, Tr.high_call2, Int.max_le, add_max_le]; constructor <;> intro q <;> (repeat' apply And.intro) <;> omega
    · simp only [Tr.sharp_name, Tr.sharp_text, Tr.sharp_join, Tr.sharp_plus, Tr.sharp_alt, Tr.sharp_dot, Tr.sharp_neg, Tr.sharp_quest, Tr.sharp_dollar, Tr.sharp_tilde, Tr.sharp_item1, Tr.sharp_item2, Tr.sharp_call0, Tr.sharp_call1, Tr.sharp_call2, Bool.and_eq_true]; intro q; exact ⟨q, trivial⟩
  | dot l i =>
    intro hg g h l1 l2
    simp only [Tr.good_name, Tr.good_text, Tr.good_join, Tr.good_plus, Tr.good_alt, Tr.good_dot, Tr.good_neg, Tr.good_quest, Tr.good_dollar, Tr.good_tilde, Tr.good_item1, Tr.good_item2, Tr.good_call0, Tr.good_call1, Tr.good_call2] at hg
    simp only [Tr.ht_name, Tr.ht_text, Tr.ht_join, Tr.ht_plus, Tr.ht_alt, Tr.ht_dot, Tr.ht_neg, Tr.ht_quest, Tr.ht_dollar, Tr.ht_tilde, Tr.ht_item1, Tr.ht_item2, Tr.ht_call0, Tr.ht_call1, Tr.ht_call2] at l1 l2
    have := high_pos l
    have nf : ss "B" ≠ ss "F" := by decide +kernel
    refine (((i hg g h (by lia) (by lia)).seq (Out.one (h' := h + 2) (fun gs => ?_) (by lia) (by lia)) (by lia)).seq (Out.one (h' := h + 1) (fun gs => ?_) (by lia) (by lia)) (by lia)).eq ?_ ?_
    · simp only [doOrd, if_neg nf]
    · simp [doOrd]
    · refine eq_le fun z => ?_
      simp only [Tr.high_name, Tr.high_text, Tr.high_join, Tr.high_plus, Tr.high_alt, Tr.high_dot, Tr.high_neg, Tr.high_quest, Tr.high_dollar, Tr.high_tilde, Tr.high_item1, Tr.high_item2, Tr.high_call0, Tr.high_call1, Tr.high_call2, Int.max_le, add_max_le]; constructor <;> intro q <;> (repeat' apply And.intro) <;> omega
    · simp only [Tr.sharp_name, Tr.sharp_text, Tr.sharp_join, Tr.sharp_plus, Tr.sharp_alt, Tr.sharp_dot, Tr.sharp_neg, Tr.sharp_quest, Tr.sharp_dollar, Tr.sharp_tilde, Tr.sharp_item1, Tr.sharp_item2, Tr.sharp_call0, Tr.sharp_call1, Tr.sharp_call2, Bool.and_eq_true]; intro q; exact ⟨⟨q, trivial⟩, trivial⟩
  | neg l i => intro hg; exact climb1 (i hg) (fun h gs => by simp [doOrd])
  | call1 l i => intro hg; exact climb1 (i hg) (fun h gs => by simp [doOrd])
  | quest l i =>
    intro hg g h l1 l2
    simp only [Tr.good_name, Tr.good_text, Tr.good_join, Tr.good_plus, Tr.good_alt, Tr.good_dot, Tr.good_neg, Tr.good_quest, Tr.good_dollar, Tr.good_tilde, Tr.good_item1, Tr.good_item2, Tr.good_call0, Tr.good_call1, Tr.good_call2] at hg
    simp only [Tr.ht_name, Tr.ht_text, Tr.ht_join, Tr.ht_plus, Tr.ht_alt, Tr.ht_dot, Tr.ht_neg, Tr.ht_quest, Tr.ht_dollar, Tr.ht_tilde, Tr.ht_item1, Tr.ht_item2, Tr.ht_call0, Tr.ht_call1, Tr.ht_call2] at l1 l2
    have := high_pos l
    have y1 : Out g [Ord.drop] (h + 1) h h true := Out.one (fun gs => by simp [doOrd]) (by lia) (by lia)
    have y2 : Out g [Ord.push (ss "")] h (h + 1) (h + 1 : Nat) true := Out.one (fun gs => by simp [doOrd]) (by lia) (by lia)
    -- the middle stands lower: taken together
    obtain ⟨m₁, a₁, b₁, d₁⟩ := i hg g h (by lia) (by lia)
    have z1 : Ok g [Ord.drop] (h + 1) h h := Ok.one (fun gs => by simp [doOrd]) (by lia) (by lia)
    have z2 : Ok g [Ord.push (ss "")] h (h + 1) (h + 1) := Ok.one (fun gs => by simp [doOrd]) (by lia) (by lia)
    have z : Ok g [Ord.drop, Ord.push (ss "")] (h + 1) (h + 1) (max h (h + 1)) := z1.seq z2
    have z' : Out g [Ord.drop, Ord.push (ss "")] (h + 1) (h + 1) (h + 1 : Nat) true := ⟨_, by lia, .inl z, fun _ => ⟨z, by lia⟩⟩
    refine ((i hg g h (by lia) (by lia)).seq z' (by lia)).eq ?_ ?_
    · refine eq_le fun z => ?_
      simp only [Tr.high_name, Tr.high_text, Tr.high_join, Tr.high_plus, Tr.high_alt, Tr.high_dot, Tr.high_neg, Tr.high_quest, Tr.high_dollar, Tr.high_tilde, Tr.high_item1, Tr.high_item2, Tr.high_call0, Tr.high_call1, Tr.high_call2, Int.max_le, add_max_le]; constructor <;> intro q <;> (repeat' apply And.intro) <;> omega
    · simp only [Tr.sharp_name, Tr.sharp_text, Tr.sharp_join, Tr.sharp_plus, Tr.sharp_alt, Tr.sharp_dot, Tr.sharp_neg, Tr.sharp_quest, Tr.sharp_dollar, Tr.sharp_tilde, Tr.sharp_item1, Tr.sharp_item2, Tr.sharp_call0, Tr.sharp_call1, Tr.sharp_call2, Bool.and_eq_true]; intro q; exact ⟨q, trivial⟩
  | dollar l i =>
    intro hg g h l1 l2
    simp only [Tr.good_name, Tr.good_text, Tr.good_join, Tr.good_plus, Tr.good_alt, Tr.good_dot, Tr.good_neg, Tr.good_quest, Tr.good_dollar, Tr.good_tilde, Tr.good_item1, Tr.good_item2, Tr.good_call0, Tr.good_call1, Tr.good_call2] at hg
    simp only [Tr.ht_name, Tr.ht_text, Tr.ht_join, Tr.ht_plus, Tr.ht_alt, Tr.ht_dot, Tr.ht_neg, Tr.ht_quest, Tr.ht_dollar, Tr.ht_tilde, Tr.ht_item1, Tr.ht_item2, Tr.ht_call0, Tr.ht_call1, Tr.ht_call2] at l1 l2
    have := high_pos l
    have z' : Out g [Ord.indirect, Ord.value] (h + 1) (h + 1) (max ((h + 1 : Nat) : Int) ((h + 1 : Nat) : Int)) true := (Out.one (g := g) (o := .indirect) (h := h + 1) (h' := h + 1) (fun gs => by simp [doOrd]) (by lia) (by lia)).seq (Out.one (o := .value) (h' := h + 1) (fun gs => by simp [doOrd]) (by lia) (by lia)) (by lia)
    refine ((i hg g h (by lia) (by lia)).seq z' (by lia)).eq ?_ ?_
    · refine eq_le fun z => ?_
      simp only [Tr.high_name, Tr.high_text, Tr.high_join, Tr.high_plus, Tr.high_alt, Tr.high_dot, Tr.high_neg, Tr.high_quest, Tr.high_dollar, Tr.high_tilde, Tr.high_item1, Tr.high_item2, Tr.high_call0, Tr.high_call1, Tr.high_call2, Int.max_le, add_max_le]; constructor <;> intro q <;> (repeat' apply And.intro) <;> omega
    · simp only [Tr.sharp_name, Tr.sharp_text, Tr.sharp_join, Tr.sharp_plus, Tr.sharp_alt, Tr.sharp_dot, Tr.sharp_neg, Tr.sharp_quest, Tr.sharp_dollar, Tr.sharp_tilde, Tr.sharp_item1, Tr.sharp_item2, Tr.sharp_call0, Tr.sharp_call1, Tr.sharp_call2, Bool.and_eq_true]; intro q; exact ⟨q, trivial⟩
  | tilde l i =>
    intro hg g h l1 l2
    simp only [Tr.good_name, Tr.good_text, Tr.good_join, Tr.good_plus, Tr.good_alt, Tr.good_dot, Tr.good_neg, Tr.good_quest, Tr.good_dollar, Tr.good_tilde, Tr.good_item1, Tr.good_item2, Tr.good_call0, Tr.good_call1, Tr.good_call2, Bool.or_eq_true] at hg
    simp only [Tr.ht_name, Tr.ht_text, Tr.ht_join, Tr.ht_plus, Tr.ht_alt, Tr.ht_dot, Tr.ht_neg, Tr.ht_quest, Tr.ht_dollar, Tr.ht_tilde, Tr.ht_item1, Tr.ht_item2, Tr.ht_call0, Tr.ht_call1, Tr.ht_call2] at l1 l2
    have := high_pos l
    cases hF : l.isF with
    | true =>
      have e := isF_eq hF
      subst e
      have q : Ok g (Tr.tilde (.name (ss "F"))).orders h (h + 1) (max h (max 0 (h + 1))) := tilde_ok (by lia) (by lia) (Fl.one (fun gs => by simp [doOrd]) (by lia) (by lia))
      exact ⟨_, by simp only [Tr.high_name, Tr.high_text, Tr.high_join, Tr.high_plus, Tr.high_alt, Tr.high_dot, Tr.high_neg, Tr.high_quest, Tr.high_dollar, Tr.high_tilde, Tr.high_item1, Tr.high_item2, Tr.high_call0, Tr.high_call1, Tr.high_call2]; lia, .inl q, fun _ => ⟨q, by simp only [Tr.high_name, Tr.high_text, Tr.high_join, Tr.high_plus, Tr.high_alt, Tr.high_dot, Tr.high_neg, Tr.high_quest, Tr.high_dollar, Tr.high_tilde, Tr.high_item1, Tr.high_item2, Tr.high_call0, Tr.high_call1, Tr.high_call2]; lia⟩⟩
    | false =>
      rw [hF] at hg
      have hl : l.good = true := by simpa using hg
      refine (Out.tilde (by lia) (by lia) (i hl (g + 1) h (by lia) (by lia))).eq ?_ ?_
      · refine eq_le fun z => ?_
        simp only [Tr.high_name, Tr.high_text, Tr.high_join, Tr.high_plus, Tr.high_alt, Tr.high_dot, Tr.high_neg, Tr.high_quest, Tr.high_dollar, Tr.high_tilde, Tr.high_item1, Tr.high_item2, Tr.high_call0, Tr.high_call1, Tr.high_call2, Int.max_le, add_max_le]; constructor <;> intro q <;> (repeat' apply And.intro) <;> omega
      · simp only [Tr.sharp_name, Tr.sharp_text, Tr.sharp_join, Tr.sharp_plus, Tr.sharp_alt, Tr.sharp_dot, Tr.sharp_neg, Tr.sharp_quest, Tr.sharp_dollar, Tr.sharp_tilde, Tr.sharp_item1, Tr.sharp_item2, Tr.sharp_call0, Tr.sharp_call1, Tr.sharp_call2, hF]; intro q; cases q
/-- the orders of a body of the four kinds, its height, its sharpness -/
noncomputable def bodyO : Nat → Tr → Tr → List Ord
  | 0, one, _ => one.orders ++ [.drop]
  | 1, _, other => [.ref (ss "V")] ++ other.orders ++ [.assign]
  | 2, one, other => one.orders ++ other.orders ++ [.match_]
  | _, one, other => [.ref (ss "V")] ++ [.double, .value] ++ one.orders ++ [.match_] ++ other.orders ++ [.replace]
noncomputable def bodyHigh : Nat → Tr → Tr → Int
  | 0, one, _ => one.high
  | 1, _, other => 1 + other.high
  | 2, one, other => max one.high (1 + other.high)
  | _, one, other => max (2 + one.high) (1 + other.high)
noncomputable def bodySharp (k : Nat) (one other : Tr) : Bool := (k == 1 || one.sharp) && (k == 0 || other.sharp)
/-- what the law asks of a row -/
noncomputable def RowOk (os : List Ord) (due : Int) (s : Bool) : Prop := depthOf os = due ∧ ∃ n r, mrun os n 0 [] 0 0 = some r ∧ (r : Int) ≤ due ∧ (s = true → (r : Int) = due)
theorem row_tree {t : Tr} (hg : t.good = true) (l : t.ht ≤ 10) : RowOk t.orders t.high t.sharp := by
  have := high_pos t
  refine ⟨?_, ?_⟩
  · unfold depthOf; rw [depth_tree]; dsimp only; lia
  · exact (climb_tree t hg 0 0 (by lia) (by lia)).eq (by lia) (fun q => q) |>.run (by lia)
theorem row_body {k : Nat} {one other : Tr} (hk : k < 4) (h1 : one.good = true) (l1 : one.ht ≤ 10) (h2 : other.good = true) (l2 : other.ht ≤ 10) : RowOk (bodyO k one other) (bodyHigh k one other) (bodySharp k one other) := by
  have p1 := high_pos one
  have p2 := high_pos other
  have nf : ss "V" ≠ ss "F" := by decide +kernel
  refine ⟨?_, ?_⟩
  · match k, hk with
    | 0, _ => simp only [bodyO, bodyHigh, depthOf, List.foldl_append, depth_tree, List.foldl, dStep, chg_drop, chg_push, chg_ref, chg_item2, chg_indirect, chg_value, chg_guard, chg_unguard, chg_fail, chg_assign, chg_match, chg_replace, chg_double]; refine eq_le fun z => ?_; simp only [Int.max_le, add_max_le]; constructor <;> intro q <;> (repeat' apply And.intro) <;> omega
    | 1, _ => simp only [bodyO, bodyHigh, depthOf, List.foldl_append, depth_tree, List.foldl, dStep, chg_drop, chg_push, chg_ref, chg_item2, chg_indirect, chg_value, chg_guard, chg_unguard, chg_fail, chg_assign, chg_match, chg_replace, chg_double]; refine eq_le fun z => ?_; simp only [Int.max_le, add_max_le]; constructor <;> intro q <;> (repeat' apply And.intro) <;> omega
    | 2, _ => simp only [bodyO, bodyHigh, depthOf, List.foldl_append, depth_tree, List.foldl, dStep, chg_drop, chg_push, chg_ref, chg_item2, chg_indirect, chg_value, chg_guard, chg_unguard, chg_fail, chg_assign, chg_match, chg_replace, chg_double]; refine eq_le fun z => ?_; simp only [Int.max_le, add_max_le]; constructor <;> intro q <;> (repeat' apply And.intro) <;> omega
    | 3, _ => simp only [bodyO, bodyHigh, depthOf, List.foldl_append, depth_tree, List.foldl, dStep, chg_drop, chg_push, chg_ref, chg_item2, chg_indirect, chg_value, chg_guard, chg_unguard, chg_fail, chg_assign, chg_match, chg_replace, chg_double]; refine eq_le fun z => ?_; simp only [Int.max_le, add_max_le]; constructor <;> intro q <;> (repeat' apply And.intro) <;> omega
  · have c1 := fun h (q : h ≤ 100) => climb_tree one h1 0 h (by lia) (by lia)
    have c2 := fun h (q : h ≤ 100) => climb_tree other h2 0 h (by lia) (by lia)
    have rv : Out 0 [Ord.ref (ss "V")] 0 1 (1 : Nat) true := Out.one (fun gs => by simp only [doOrd, if_neg nf]) (by lia) (by lia)
    match k, hk with
    | 0, _ =>
      refine (((c1 0 (by lia)).seq (Out.one (o := .drop) (h' := 0) (fun gs => by simp [doOrd]) (by lia) (by lia)) (by lia)).eq (M' := bodyHigh 0 one other) (s' := bodySharp 0 one other) ?_ ?_).run (by lia)
      · refine eq_le fun z => ?_
        simp only [bodyHigh, Int.max_le, add_max_le]; constructor <;> intro q <;> (repeat' apply And.intro) <;> omega
      · simp [bodySharp]
    | 1, _ =>
      refine (((rv.seq (c2 1 (by lia)) (by lia)).seq (Out.one (o := .assign) (h' := 0) (fun gs => by simp [doOrd]) (by lia) (by lia)) (by lia)).eq (M' := bodyHigh 1 one other) (s' := bodySharp 1 one other) ?_ ?_).run (by lia)
      · refine eq_le fun z => ?_
        simp only [bodyHigh, Int.max_le, add_max_le]; constructor <;> intro q <;> (repeat' apply And.intro) <;> omega
      · simp [bodySharp]
    | 2, _ =>
      refine ((((c1 0 (by lia)).seq (c2 1 (by lia)) (by lia)).seq (Out.one (o := .match_) (h' := 0) (fun gs => by simp [doOrd]) (by lia) (by lia)) (by lia)).eq (M' := bodyHigh 2 one other) (s' := bodySharp 2 one other) ?_ ?_).run (by lia)
      · refine eq_le fun z => ?_
        simp only [bodyHigh, Int.max_le, add_max_le]; constructor <;> intro q <;> (repeat' apply And.intro) <;> omega
      · simp [bodySharp]
    | 3, _ =>
      have dv : Out 0 [Ord.double, Ord.value] 1 2 (max ((2 : Nat) : Int) ((2 : Nat) : Int)) true := (Out.one (o := .double) (h' := 2) (fun gs => by simp [doOrd]) (by lia) (by lia)).seq (Out.one (o := .value) (h := 2) (h' := 2) (fun gs => by simp [doOrd]) (by lia) (by lia)) (by lia)
      refine (((((rv.seq dv (by lia)).seq (c1 2 (by lia)) (by lia)).seq (Out.one (o := .match_) (h' := 1) (fun gs => by simp [doOrd]) (by lia) (by lia)) (by lia)).seq (c2 1 (by lia)) (by lia)).seq (Out.one (o := .replace) (h' := 0) (fun gs => by simp [doOrd]) (by lia) (by lia)) (by lia)).eq (M' := bodyHigh 3 one other) (s' := bodySharp 3 one other) ?_ ?_ |>.run (by lia)
      · refine eq_le fun z => ?_
        simp only [bodyHigh, Int.max_le, add_max_le]; constructor <;> intro q <;> (repeat' apply And.intro) <;> omega
      · simp [bodySharp]
end
section
set_option maxHeartbeats 0
set_option rowWalk.seconds 0

theorem enterC {w : World} {A : Around} {s : Shared} {R : Result → Shared → Prop} {as : List Addr} {news : List (Addr × Obj)} {name qual : Str} {params : Arguments} {body : List Stmt} {scope : Scope}
    {doc pm cdv oc : Value} {od : Option Addr} {osl : Array (Option Value)} {f : Addr} {args : Args} {binds : List (Str × Value)}
    (G : Gd w (hideAll s.heap as)) (hn : ∀ p ∈ news, s.heap.get? p.1 = some p.2 ∧ p.1 ∈ as)
    (ho : (K w.params).lookup f = some ⟨oc, od, .func (fnOf name qual params body scope .none .none doc pm none cdv .none), osl⟩)
    (hcd : codeIn (K w.params) cdv qual = true) (hroom : A.depth < recursionLimit)
    (hbind : BindsTo s (fnOf name qual params body scope .none .none doc pm none cdv .none) args binds) (hkind : (binds.all fun y => scope.names.lookup y.1 == some .local || scope.names.lookup y.1 == some .cell) = true)
    (hnd : ((cellsFrom 0 scope.names []).map (·.1)).Nodup)
    (hco : scope.isCoroutine = false) (hgen : scope.isGenerator = false) (hk : scope.kind = .function)
    (h : ∀ L h₁ tk cells, Fr (hideAll s.heap as) L h₁ (bindL (envOfC qual scope L f cdv).kindOf binds fun _ => none) → News (hideAll s.heap as) L h₁ (cells ++ news) →
      CellsAre (bindC (envOfC qual scope L f cdv).kindOf binds fun _ => none) (cellsFrom (L + 1) scope.names []) cells → (∀ p ∈ cells, s.heap.get? p.1 = none) →
      wpAny (model PG w) (A.deeper (envOfC qual scope L f cdv)) (execs body (envOfC qual scope L f cdv))
        (fun fl s' => R (.ok (.ret (match fl with | .ret v => v | _ => .none))) s') (fun _ _ => False) { s with heap := h₁, toks := tk }) :
    codeAny (model PG w) A (.call (.ref f) args) R s := by
  obtain ⟨X, _, _, _, _, T⟩ := G
  have lift : StA (hideAll s.heap as) s.heap := fun b o e => of_hideAll _ e
  refine codeAny_call_function hroom (lift _ _ (X _ _ ho)) rfl hco hgen rfl ((codeRec_of X hcd).keeps lift) (hbind _ _ _ _ ?_)
  refine wpAny_newFunctionEnv_cells hk (kindsX hkind _) fun env' he s' x => ?_
  subst he
  refine ⟨(T.nolimit.keeps lift).keeps x.toInCall.keep, codeAny_func ?_⟩
  obtain ⟨h₁, tk, rfl, _⟩ := x.done
  have hk₁ := x.toInCall.keep
  obtain ⟨cells, NC, Y⟩ := Cl.news (h₀ := s.heap) (Nat.le_refl _) fun n c hm => ⟨x.cell n c (lookup_of_mem_nodup (cellsFrom_names scope.names 0 (s.heap.objs.size + 1) [] [] rfl ▸ hnd) hm), x.above n c hm⟩
  refine wpAny_mono (h s.heap.objs.size h₁ tk cells ⟨x.toInCall.ns, fun b o e => hk₁ b o (of_hideAll _ e), Nat.le_of_eq (hideAll_size _ _)⟩ (fun p hp => ?_) Y (fun p hp => (NC p hp).2.2)) (fun fl s' hl => hl) fun _ _ y => y.elim
  rcases List.mem_append.mp hp with hp | hp
  · refine ⟨(NC p hp).1, (NC p hp).2.1, ?_⟩
    cases q : (hideAll s.heap as).get? p.1 with
    | none => rfl
    | some o => have := of_hideAll _ q; rw [(NC p hp).2.2] at this; cases this
  · exact ⟨hk₁ _ _ (hn p hp).1, Nat.ne_of_lt (Heap.lt_size (hn p hp).1), hideAll_none _ (hn p hp).2⟩
section
variable {prog : Program} {w : World} {A : Around} {s : Shared} {h₀ : Heap} {L a : Addr} {m : Str → Option Value} {cn : Str} {cs : Scope} {cd : Value} {cl : List (Str × Addr)} {x : Str} {v c : Int} {t : Tok} {p p2 p3 pos : Pos} {k : Nat} {body rest : List Stmt} {E : Value → Shared → Prop} {Q : Flow → Shared → Prop}
noncomputable def opI : CmpOp → Int → Int → Option Bool
  | .Eq, v, c => some (v == c)
  | .Lt, v, c => some (decide (v < c))
  | _, _, _ => none
inductive PassI (x : Str) (v : Int) : List Stmt → List Stmt → Prop
  | nil {l : List Stmt} : PassI x v l l
  | cons {op : CmpOp} {c : Int} {k : Nat} {p p2 p3 pos : Pos} {body rest l : List Stmt} (b : opI op v c = some false) (r : PassI x v rest l) : PassI x v (.If (.Compare (.Name x p) [op] [.Constant (.int c) k p2] p3) body [] pos :: rest) l
theorem opI_ok {op : CmpOp} {r : Bool} {whole : Sem Value} {Q : Bool → Shared → Prop} {E : Value → Shared → Prop} (F : Fr h₀ L s.heap m) (hx : m x = some (.int v t)) (hk : cs.kind = .function) (hl : (envX cn cs L a cd cl).kindOf x = some .local) (hd : (x == ("__debug__" : Str)) = false)
    (b : opI op v c = some r) (h : Q r { s with toks := s.toks + 1 }) : wpAny (model prog w) A (PySem.isTrue (.Compare (.Name x p) [op] [.Constant (.int c) k p2] p3) (envX cn cs L a cd cl) whole) Q E s := by
  cases op <;> cases b
  · exact wpAny_isTrue_Compare1 (nameX_L F hx (wpAny_Constant_int (PyProof.Rows.eq_int (wpAny_truthy_bool h))) hk hl hd)
  · exact wpAny_isTrue_Compare1 (nameX_L F hx (wpAny_Constant_int (PyProof.Rows.lt_int (wpAny_truthy_bool h))) hk hl hd)
theorem ifI_pass {stmts : List Stmt} (F : Fr h₀ L s.heap m) (hx : m x = some (.int v t)) (S : PassI x v stmts rest) (hk : cs.kind = .function) (hl : (envX cn cs L a cd cl).kindOf x = some .local) (hd : (x == ("__debug__" : Str)) = false)
    (h : ∀ tk, wpAny (model prog w) A (execs rest (envX cn cs L a cd cl)) Q E { s with toks := tk }) : wpAny (model prog w) A (execs stmts (envX cn cs L a cd cl)) Q E s := by
  induction S generalizing s with
  | nil => exact h s.toks
  | cons b _ ih => exact wpAny_execs_cons (wpAny_If (opI_ok F hx hk hl hd b (wpAny_execs_nil (ih (s := { s with toks := s.toks + 1 }) F h))))
theorem ifI_take {op : CmpOp} (F : Fr h₀ L s.heap m) (hx : m x = some (.int v t)) (b : opI op v c = some true) (hk : cs.kind = .function) (hl : (envX cn cs L a cd cl).kindOf x = some .local) (hd : (x == ("__debug__" : Str)) = false)
    (h : ∀ tk, wpAny (model prog w) A (execs body (envX cn cs L a cd cl)) (fun f s' => match f with | .next => wpAny (model prog w) A (execs rest (envX cn cs L a cd cl)) Q E s' | f => Q f s') E { s with toks := tk }) :
    wpAny (model prog w) A (execs (.If (.Compare (.Name x p) [op] [.Constant (.int c) k p2] p3) body [] pos :: rest) (envX cn cs L a cd cl)) Q E s :=
  wpAny_execs_cons (wpAny_If (opI_ok F hx hk hl hd b (h _)))
end
local macro_rules | `(tactic| walk_at "execs cons") => `(tactic| ((with_reducible show wpAny _ _ (execs (.If (.Compare _ _ [.Constant (.int _) _ _] _) _ _ _ :: _) _) _ _ _); k_dflt (first | (refine' ifI_pass ?F ?x (.cons ?b ?r) ?k ?l ?d ?_; (case F => k_asm); (case x => with_unfolding_all rfl); (case b => rfl); (case r => ((repeat (refine' .cons _ _; rfl)); exact .nil))) | (refine' ifI_take ?F ?x ?b ?k ?l ?d ?_; (case F => k_asm); (case x => with_unfolding_all rfl); (case b => rfl)); (case k => rfl); (case l => rfl); (case d => decide); intro _; (try dsimp only))))
theorem ite_posD {p P Q : Prop} [Decidable p] (h : p) (x : P) : if decide p = true then P else Q := by rw [if_pos (decide_eq_true h)]; exact x
theorem ite_negD {p P Q : Prop} [Decidable p] (h : ¬ p) (x : Q) : if decide p = true then P else Q := by rw [if_neg (by simpa using h)]; exact x
local macro_rules | `(tactic| walk_at "ite") => `(tactic| ((with_reducible show if decide _ = true then _ else _); first | (with_reducible refine ite_posD (by omega) ?_) | (with_reducible refine ite_negD (by omega) ?_)))
noncomputable def pulls : Nat → Nat
  | 0 => 1
  | d + 1 => 3 * pulls d + 2
/-- what the law knows of a tree that it drew -/
structure Drawn (I : List (Addr × Obj)) (r : Value) (d : Nat) (t : Tr) : Prop where
  tree : TreeS (IS I) r t
  ht : t.ht ≤ d
  fine : t.fine = true
  good : t.good = true
noncomputable def TreeC (w : World) (d : Nat) : Prop := ∀ (A : Around) (s : Shared) (Q E : Value → Shared → Prop) (b c : Addr) (vs : List Value) (turn : Nat) (u : Tok), A.handled = none → A.depth + (5 * d + 8) < recursionLimit → A.units + (50 * d + 200) < cLine →
  BoxPre w s.heap b c vs turn → turn + pulls d ≤ 1000000 →
  (∀ r h' tk turn' I t, StB [b] s.heap h' → BoxPre w h' b c vs turn' → turn' ≤ turn + pulls d → (∀ p ∈ I, h'.get? p.1 = some p.2 ∧ s.heap.get? p.1 = none) → Drawn I r d t → Q r { s with heap := h', toks := tk }) →
  wpAny (model PG w) A (call (.ref 371) [.ref b, .int (d : Nat) u]) Q E s
/-- the ledger of a draw: the box ahead, two cells, the rest -/
noncomputable abbrev drawN (b c : Addr) (turn : Nat) (t : Tok) (n : Nat) (p q : Addr × Obj) (X : List (Addr × Obj)) : List (Addr × Obj) := (b, boxO c turn t n) :: p :: q :: X
section
variable {w : World} {A : Around} {s : Shared} {Q E : Value → Shared → Prop} {g : Heap} {L b c : Addr} {m : Str → Option Value} {news X : List (Addr × Obj)} {p q : Addr × Obj} {vs : List Value} {turn n : Nat} {t u : Tok} {loose : List Str} {mean : ExcName → Option Value} {mg mb : Str → Option Value}
theorem box_of (X₀ : (K w.params).In g) (T : Top topProg loose mean mg mb g) (F : Fr g L s.heap m) (N : News g L s.heap news) (mb' : (b, boxO c turn t n) ∈ news) (hl : g.IsList c vs.toArray) (hi : ∃ ns, IntsAre vs ns) (hz : vs.length ≤ 100) :
    BoxPre w s.heap b c vs turn := by
  have hb := N _ mb'
  have k : StA g (hideAll s.heap [b]) := fun x o e => hideAll_get [b] (F.keep _ _ e) fun hx => by rw [List.mem_singleton.mp hx, hb.2.2] at e; cases e
  refine ⟨⟨X₀.keeps k, _, _, _, _, T.keeps k⟩, ⟨t, n, hb.1⟩, ?_, hi, hz, fun e => ?_⟩
  · obtain ⟨o, e, r⟩ := hl; exact ⟨o, F.keep _ _ e, r⟩
  · obtain ⟨o, e', r⟩ := hl; rw [e, hb.2.2] at e'; cases e'
theorem box_keep {h' : Heap} {rest : List (Addr × Obj)} (F : Fr g L s.heap m) (N : News g L s.heap news) (mb' : (b, boxO c turn t n) ∈ news) (st : StB [b] s.heap h') {turn' : Nat} (P : ∃ t n, h'.get? b = some (boxO c turn' t n)) (hr : ∀ p ∈ rest, p ∈ news ∧ p.1 ≠ b) :
    Fr g L h' m ∧ ∃ t' n', News g L h' ((b, boxO c turn' t' n') :: rest) := by
  have hb := N _ mb'
  obtain ⟨t', n', hb'⟩ := P
  have hLb : L ≠ b := Ne.symm hb.2.1
  refine ⟨⟨F.ns.at' fun o e => st _ _ (by simpa using hLb) e, fun x o e => st _ _ (fun hx => by rw [List.mem_singleton.mp hx, hb.2.2] at e; cases e) (F.keep _ _ e), F.above⟩, t', n', fun z hz => ?_⟩
  rcases List.mem_cons.mp hz with rfl | hz
  · exact ⟨hb', hb.2⟩
  · exact ⟨st _ _ (by simpa using (hr z hz).2) (N z (hr z hz).1).1, (N z (hr z hz).1).2⟩
noncomputable def OffB (b : Addr) (l : List (Addr × Obj)) : Prop := ∀ p ∈ l, p.1 ≠ b
theorem OffB.nil {b : Addr} : OffB b [] := fun _ h => nomatch h
theorem OffB.cons {b : Addr} {q : Addr × Obj} {l : List (Addr × Obj)} (h : q.1 ≠ b) (x : OffB b l) : OffB b (q :: l) := fun p hp => by
  rcases List.mem_cons.mp hp with rfl | hp
  · exact h
  · exact x p hp
theorem OffB.app {b : Addr} {l l' : List (Addr × Obj)} (x : OffB b l) (y : OffB b l') : OffB b (l ++ l') := fun p hp => by
  rcases List.mem_append.mp hp with hp | hp
  · exact x p hp
  · exact y p hp
theorem off_obj {h : Heap} {a : Addr} {o o' : Obj} (N : News g L h news) (m₁ : (a, o) ∈ news) (m₂ : (b, o') ∈ news) (ne : o.cls ≠ o'.cls) : a ≠ b := fun e => by
  subst e
  have := (N _ m₁).1
  rw [(N _ m₂).1] at this
  cases this; exact ne rfl
theorem use_pull {many : Int} (hh : A.handled = none) (hd : A.depth + 2 < recursionLimit) (hu : A.units + 50 < cLine) (X₀ : (K w.params).In g) (T : Top topProg loose mean mg mb g) (F : Fr g L s.heap m) (N : News g L s.heap news)
    (mb' : (b, boxO c turn t n) ∈ news) (hl : g.IsList c vs.toArray) (hi : ∃ ns, IntsAre vs ns) (hz : vs.length ≤ 100) (rest : List (Addr × Obj)) (hr : ∀ p ∈ rest, p ∈ news) (off : OffB b rest) (ht : turn ≤ 1000000) (h0 : 0 < many) (h1 : many < 100)
    (k : ∀ r t' h' tk t n, Fr g L h' m → News g L h' ((b, boxO c (turn + 1) t n) :: rest) → 0 ≤ r → r < many → Q (.int r t') { s with heap := h', toks := tk }) :
    Stop (wpAny (model PG w) A (call (.ref 366) [.ref b, .int many u]) Q E s) := by
  refine pull_con w A s Q E b c vs turn many u hh hd hu (box_of X₀ T F N mb' hl hi hz) ht h0 h1 fun r t' h' tk st P a1 a2 => ?_
  obtain ⟨F', t'', n'', N'⟩ := box_keep F N mb' st P.2.1 fun p hp => ⟨hr p hp, off p hp⟩
  exact k r t' h' tk t'' n'' F' N' a1 a2
theorem use_tree {d : Nat} {dv : Int} (C : TreeC w d) (hdv : dv = (d : Nat)) (hh : A.handled = none) (hd : A.depth + (5 * d + 8) < recursionLimit) (hu : A.units + (50 * d + 200) < cLine) (X₀ : (K w.params).In g) (T : Top topProg loose mean mg mb g) (F : Fr g L s.heap m) (N : News g L s.heap news)
    (mb' : (b, boxO c turn t n) ∈ news) (hl : g.IsList c vs.toArray) (hi : ∃ ns, IntsAre vs ns) (hz : vs.length ≤ 100) (rest : List (Addr × Obj)) (hr : ∀ p ∈ rest, p ∈ news) (off : OffB b rest) (ht : turn + pulls d ≤ 1000000)
    (k : ∀ r h' tk turn' t n I tr, Fr g L h' m → News g L h' ((b, boxO c turn' t n) :: (rest ++ I)) → OffB b I → (∀ p ∈ I, ∀ q ∈ news, p.1 ≠ q.1) → turn' ≤ turn + pulls d → Drawn I r d tr → Q r { s with heap := h', toks := tk }) :
    Stop (wpAny (model PG w) A (call (.ref 371) [.ref b, .int dv u]) Q E s) := by
  subst hdv
  refine C A s Q E b c vs turn u hh hd hu (box_of X₀ T F N mb' hl hi hz) ht fun r h' tk turn' I tr st P le hI D => ?_
  obtain ⟨F', t'', n'', N'⟩ := box_keep F N mb' st P.2.1 fun p hp => ⟨hr p hp, off p hp⟩
  have apart : ∀ p ∈ I, ∀ q ∈ news, p.1 ≠ q.1 := fun p hp q hq e => by
    have := (hI p hp).2
    rw [e, (N q hq).1] at this; cases this
  refine k r h' tk turn' t'' n'' I tr F' (fun z hz => ?_) (fun p hp => apart p hp _ mb') apart le D
  rcases List.mem_cons.mp hz with rfl | hz
  · exact N' _ (.head _)
  · rcases List.mem_append.mp hz with hz | hz
    · exact N' _ (.tail _ hz)
    · refine ⟨(hI z hz).1, fun e => ?_, ?_⟩
      · obtain ⟨o, _, _, ho, _⟩ := F.ns
        have := (hI z hz).2
        rw [e, ho] at this; cases this
      · cases q : g.get? z.1 with
        | none => rfl
        | some o => have := F.keep _ _ q; rw [(hI z hz).2] at this; cases this
theorem use_pull0 {many : Int} {post : List (Addr × Obj)} (hh : A.handled = none) (hd : A.depth + 2 < recursionLimit) (hu : A.units + 50 < cLine) (X₀ : (K w.params).In g) (T : Top topProg loose mean mg mb g) (F : Fr g L s.heap m) (N : News g L s.heap ((b, boxO c turn t n) :: post))
    (hl : g.IsList c vs.toArray) (hi : ∃ ns, IntsAre vs ns) (hz : vs.length ≤ 100) (off : OffB b post) (ht : turn ≤ 1000000) (h0 : 0 < many) (h1 : many < 100)
    (k : ∀ r t' h' tk t n, Fr g L h' m → News g L h' ((b, boxO c (turn + 1) t n) :: post) → 0 ≤ r → r < many → Q (.int r t') { s with heap := h', toks := tk }) :
    Stop (wpAny (model PG w) A (call (.ref 366) [.ref b, .int many u]) Q E s) :=
  use_pull hh hd hu X₀ T F N (.head _) hl hi hz post (fun _ h => .tail _ h) off ht h0 h1 k
theorem use_pull1 {many : Int} {post : List (Addr × Obj)} {q : Addr × Obj} (hh : A.handled = none) (hd : A.depth + 2 < recursionLimit) (hu : A.units + 50 < cLine) (X₀ : (K w.params).In g) (T : Top topProg loose mean mg mb g) (F : Fr g L s.heap m) (N : News g L s.heap (q :: (b, boxO c turn t n) :: post))
    (hl : g.IsList c vs.toArray) (hi : ∃ ns, IntsAre vs ns) (hz : vs.length ≤ 100) (off : OffB b (q :: post)) (ht : turn ≤ 1000000) (h0 : 0 < many) (h1 : many < 100)
    (k : ∀ r t' h' tk t n, Fr g L h' m → News g L h' ((b, boxO c (turn + 1) t n) :: q :: post) → 0 ≤ r → r < many → Q (.int r t') { s with heap := h', toks := tk }) :
    Stop (wpAny (model PG w) A (call (.ref 366) [.ref b, .int many u]) Q E s) :=
  use_pull hh hd hu X₀ T F N (.tail _ (.head _)) hl hi hz (q :: post) (fun _ h => by rcases List.mem_cons.mp h with rfl | h; exact .head _; exact .tail _ (.tail _ h)) off ht h0 h1 k
theorem use_tree0 {d : Nat} {dv : Int} {post : List (Addr × Obj)} (C : TreeC w d) (hdv : dv = (d : Nat)) (hh : A.handled = none) (hd : A.depth + (5 * d + 8) < recursionLimit) (hu : A.units + (50 * d + 200) < cLine) (X₀ : (K w.params).In g) (T : Top topProg loose mean mg mb g) (F : Fr g L s.heap m) (N : News g L s.heap ((b, boxO c turn t n) :: post))
    (hl : g.IsList c vs.toArray) (hi : ∃ ns, IntsAre vs ns) (hz : vs.length ≤ 100) (off : OffB b post) (ht : turn + pulls d ≤ 1000000)
    (k : ∀ r h' tk turn' t n I tr, Fr g L h' m → News g L h' ((b, boxO c turn' t n) :: (post ++ I)) → OffB b I → turn' ≤ turn + pulls d → Drawn I r d tr → Q r { s with heap := h', toks := tk }) :
    Stop (wpAny (model PG w) A (call (.ref 371) [.ref b, .int dv u]) Q E s) :=
  use_tree C hdv hh hd hu X₀ T F N (.head _) hl hi hz post (fun _ h => .tail _ h) off ht fun r h' tk turn' t n I tr F' N' o _ le D => k r h' tk turn' t n I tr F' N' o le D
theorem use_tree3 {d : Nat} {dv : Int} {post : List (Addr × Obj)} {J C D : Addr} {oJ oC oD : Obj} (Cn : TreeC w d) (hdv : dv = (d : Nat)) (hh : A.handled = none) (hd : A.depth + (5 * d + 8) < recursionLimit) (hu : A.units + (50 * d + 200) < cLine) (X₀ : (K w.params).In g) (T : Top topProg loose mean mg mb g) (F : Fr g L s.heap m)
    (N : News g L s.heap ((J, oJ) :: (C, oC) :: (D, oD) :: (b, boxO c turn t n) :: post)) (o3 : LCg.Off3 J C D ((b, boxO c turn t n) :: post))
    (hl : g.IsList c vs.toArray) (hi : ∃ ns, IntsAre vs ns) (hz : vs.length ≤ 100) (off : OffB b post) (ht : turn + pulls d ≤ 1000000)
    (k : ∀ r h' tk turn' t n I tr, Fr g L h' m → News g L h' ((J, oJ) :: (C, oC) :: (D, oD) :: (b, boxO c turn' t n) :: (post ++ I)) → LCg.Off3 J C D ((b, boxO c turn' t n) :: (post ++ I)) → OffB b I → turn' ≤ turn + pulls d → Drawn I r d tr → Q r { s with heap := h', toks := tk }) :
    Stop (wpAny (model PG w) A (call (.ref 371) [.ref b, .int dv u]) Q E s) := by
  have ob := o3.mem _ (.head _)
  refine use_tree Cn hdv hh hd hu X₀ T F N (.tail _ (.tail _ (.tail _ (.head _)))) hl hi hz ((J, oJ) :: (C, oC) :: (D, oD) :: post) (fun p h => ?_) (.cons (Ne.symm ob.1) (.cons (Ne.symm ob.2.1) (.cons (Ne.symm ob.2.2) off))) ht fun r h' tk turn' t n I tr F' N' o ap le D => k r h' tk turn' t n I tr F' (fun p hp => N' p ?_) (.of fun p hp => ?_) o le D
  · simp only [List.mem_cons] at h ⊢
    rcases h with h | h | h | h <;> simp only [h, true_or, or_true]
  · simp only [List.mem_cons, List.cons_append] at hp ⊢
    rcases hp with h | h | h | h | h <;> simp only [h, true_or, or_true]
  · rcases List.mem_cons.mp hp with rfl | hp
    · exact ob
    · rcases List.mem_append.mp hp with hp | hp
      · exact o3.mem _ (.tail _ hp)
      · exact ⟨ap p hp _ (.head _), ap p hp _ (.tail _ (.head _)), ap p hp _ (.tail _ (.tail _ (.head _)))⟩
theorem newsB {h h' : Heap} {I : List (Addr × Obj)} (N : News (hideAll h [b]) L h' I) (off : OffB b I) : ∀ p ∈ I, h'.get? p.1 = some p.2 ∧ h.get? p.1 = none := fun p hp => by
  refine ⟨(N p hp).1, ?_⟩
  cases q : h.get? p.1 with
  | none => rfl
  | some o => have := hideAll_get [b] q (by simpa using off p hp); rw [(N p hp).2.2] at this; cases this
noncomputable abbrev NB (b : Addr) (l : List (Addr × Obj)) : List (Addr × Obj) := l.filter fun p => decide (p.1 ≠ b)
theorem mNB {l : List (Addr × Obj)} {q : Addr × Obj} (h : q ∈ l) (e : q.1 ≠ b) : q ∈ NB b l := List.mem_filter.mpr ⟨h, decide_eq_true e⟩
theorem offNB {l : List (Addr × Obj)} : OffB b (NB b l) := fun _ hp => of_decide_eq_true (List.mem_filter.mp hp).2
theorem newsNB {h : Heap} {l : List (Addr × Obj)} (N : News g L h l) : News g L h (NB b l) := fun _ hp => N _ (List.mem_filter.mp hp).1
theorem box_end {s' : Heap} {G0 : Gd w (hideAll s.heap [b])} (F : Fr (hideAll s.heap [b]) L s' m) (N : News (hideAll s.heap [b]) L s' news) (mb' : (b, boxO c turn t n) ∈ news) (hl : (hideAll s.heap [b]).IsList c vs.toArray) (hi : ∃ ns, IntsAre vs ns) (hz : vs.length ≤ 100) :
    BoxPre w s' b c vs turn := by
  obtain ⟨X₀, _, _, _, _, T⟩ := G0
  exact box_of (s := { s with heap := s' }) X₀ T F N mb' hl hi hz
end
local macro_rules | `(tactic| walk_at "CompSrc") => `(tactic| walk_at "call ref")
local macro_rules | `(tactic| walk_at "eval ListComp") => `(tactic| (k_dflt (refine LCg.ListComp_U (F₀ := by k_asm) (by with_unfolding_all rfl) (by decide) (by rfl) (by decide) (by rfl) ?_)))
theorem hdv1 {d : Nat} : ((d + 1 : Nat) : Int) - 1 = d := by omega
theorem ht2d {a b d : Nat} (h1 : a ≤ d) (h2 : b ≤ d) : max a b + 1 ≤ d + 1 := Nat.succ_le_succ (Nat.max_le.2 ⟨h1, h2⟩)
theorem upto9 {p : Int} (h0 : 0 ≤ p) (h1 : p < 9) : p = 0 ∨ p = 1 ∨ p = 2 ∨ p = 3 ∨ p = 4 ∨ p = 5 ∨ p = 6 ∨ p = 7 ∨ p = 8 := by
  obtain ⟨n, rfl⟩ := Int.eq_ofNat_of_zero_le h0
  have h : n < 9 := Int.ofNat_lt.1 h1
  clear h0 h1; revert n; decide
theorem upto3 {p : Int} (h0 : 0 ≤ p) (h1 : p < 3) : p = 0 ∨ p = 1 ∨ p = 2 := by
  obtain ⟨n, rfl⟩ := Int.eq_ofNat_of_zero_le h0
  have h : n < 3 := Int.ofNat_lt.1 h1
  clear h0 h1; revert n; decide
theorem viaQ {M : Model} {A : Around} {x : Sem Flow} {E : Value → Shared → Prop} {Q₀ : Flow → Shared → Prop} {s₀ : Shared} {g : Heap} {L : Addr} {m : Str → Option Value} {news : List (Addr × Obj)} (F : Fr g L s₀.heap m) (N : News g L s₀.heap news)
    (h : ∀ (Q : Flow → Shared → Prop) (s : Shared), Fr g L s.heap m → News g L s.heap news → (∀ v h' tk, Q₀ (.ret v) { s₀ with heap := h', toks := tk } → Q (.ret v) { s with heap := h', toks := tk }) → wpAny M A x Q E s) : wpAny M A x Q₀ E s₀ := h Q₀ s₀ F N fun _ _ _ h => h
theorem tree_step (w : World) (d : Nat) (ih : ∀ d', d' < d → TreeC w d') : TreeC w d := by
  intro A s Q E b c vs turn u hh hd hu hpre htn hret
  obtain ⟨G, ⟨t, n, hb⟩, hc, hns, hlen, hcb⟩ := hpre
  have G0 := G
  have hnews : ∀ p ∈ [(b, boxO c turn t n)], s.heap.get? p.1 = some p.2 ∧ p.1 ∈ [b] := fun p hp => by rw [List.mem_singleton.mp hp]; exact ⟨hb, .head _⟩
  have hl : (hideAll s.heap [b]).IsList c vs.toArray := by obtain ⟨o, e, r⟩ := hc; exact ⟨o, hideAll_get [b] e (by simpa using hcb), r⟩
  refine wpAny_call (enterC (as := [b]) (news := [(b, boxO c turn t n)]) (binds := [(ss "box", .ref b), (ss "deep", .int (d : Nat) u)]) G hnews (by k_is) (by k_is) (lt0 (by assumption)) (BindsTo.of_eq rfl) rfl (by decide +kernel) rfl rfl rfl ?_)
  intro L h₁ tk cells F N Y hcn
  k_cells Y
  simp only [List.cons_append, List.nil_append] at N
  rename_i oc2 oc1 dc2 dc1
  have X := G.K
  obtain ⟨_, _, _, _, _, T⟩ := G
  generalize hB : bodyS (topS 25) = B
  conv at hB => lhs; whnf
  subst hB
  generalize hS : scoS (topS 25) = S
  conv at hS => lhs; whnf
  subst hS
  dsimp only
  have offc : OffB b [(L + 1 + 1, oc2), (L + 1, oc1)] := fun p hp e => by have := hcn p hp; rw [e, hb] at this; cases this
  replace N := Mine.News.sub N (J := [(b, boxO c turn t n), (L + 1 + 1, oc2), (L + 1, oc1)]) (fun _ h => by simp only [List.mem_cons, List.not_mem_nil, or_false] at h ⊢; rcases h with rfl | rfl | rfl <;> simp)
  have hb2 : L + 1 + 1 ≠ b := offc _ (.head _)
  have hb1 : L + 1 ≠ b := offc _ (.tail _ (.head _))
  have hFb := hb1
  replace dc1 : oc1.data = .cell (some (.ref b)) := dc1
  replace dc2 : oc2.data = .cell (some (.int (d : Nat) u)) := dc2
  have hr : ∀ (r : Value) (h' : Heap) (tk turn' : Nat) (t : Tok) (n : Nat) (tr : Tr) (m : Str → Option Value) (news : List (Addr × Obj)), Fr (hideAll s.heap [b]) L h' m → News (hideAll s.heap [b]) L h' news → (b, boxO c turn' t n) ∈ news → turn' ≤ turn + pulls d → Drawn (NB b news) r d tr → Q r { s with heap := h', toks := tk } :=
    fun r h' tk turn' t n tr m news F N mb le D => hret _ _ _ _ (NB b _) tr (stB_of F.keep) (box_end (G0 := G0) F N mb hl hns hlen) le (newsB (newsNB N) offNB) D
  clear hret
  refine viaQ (by exact F) (by exact N) fun Q1 s1 F N hq => ?_
  replace hr : ∀ (r : Value) (h' : Heap) (tk turn' : Nat) (t : Tok) (n : Nat) (tr : Tr) (m : Str → Option Value) (news : List (Addr × Obj)), Fr (hideAll s.heap [b]) L h' m → News (hideAll s.heap [b]) L h' news → (b, boxO c turn' t n) ∈ news → turn' ≤ turn + pulls d → Drawn (NB b news) r d tr → Q1 (.ret r) { s1 with heap := h', toks := tk } := fun r h' tk turn' t n tr m news F N mb le D => hq _ _ _ (hr r h' tk turn' t n tr m news F N mb le D)
  clear hq hnews hcn hb hc hcb G0
  generalize hideAll s.heap [b] = g at *
  cases d with
  | zero =>
    simp only [pulls] at htn hr
    k_steps
    refine use_pull0 hh (by show A.depth + 1 + _ < _; first | exact dlt (by assumption) (by decide) | exact dm1 (by assumption) (by first | exact Nat.le_refl _ | exact Nat.le_max_left _ _ | exact Nat.le_max_right _ _) (by decide) | exact dm0 (by assumption) (by first | exact Nat.le_refl _ | exact Nat.le_max_left _ _ | exact Nat.le_max_right _ _) (by decide) | exact dlt2 (by assumption) (by decide) | exact dlt1 (by assumption) (by decide) | omega) (by show A.units + 3 + _ < _; first | exact dlt (by assumption) (by decide) | exact dm1 (by assumption) (by first | exact Nat.le_refl _ | exact Nat.le_max_left _ _ | exact Nat.le_max_right _ _) (by decide) | exact dm0 (by assumption) (by first | exact Nat.le_refl _ | exact Nat.le_max_left _ _ | exact Nat.le_max_right _ _) (by decide) | exact dlt2 (by assumption) (by decide) | exact dlt1 (by assumption) (by decide) | omega) X T (by assumption) (by assumption) hl hns hlen (by repeat (first | exact offc | exact off1 | exact off2 | exact off3 | exact OffB.nil | refine OffB.app ?_ ?_ | refine OffB.cons (by first | exact hb2 | exact hb1 | exact hFb | (show @Ne Nat _ _; dsimp only; first | exact Nat.ne_of_lt ‹_› | exact Nat.ne_of_gt ‹_› | (refine Nat.ne_of_lt (InC.of ‹_ ∧ _› ?_); (repeat (first | exact .hd | exact .last | refine .tl ?_)); done) | (refine Nat.ne_of_gt (InC.of ‹_ ∧ _› ?_); (repeat (first | exact .hd | exact .last | refine .tl ?_)); done) | exact Nat.ne_of_lt (Nat.lt_trans ‹_› ‹_›) | exact Nat.ne_of_gt (Nat.lt_trans ‹_› ‹_›) | omega) | exact off_obj (by assumption) (by k_mem) (by k_mem) (by simp)) ?_)) (by first | (refine Wd.f0 ?_; (repeat (first | exact Wd.z0 | refine Wd.i1 ?_ | refine Wd.s0 ‹_› ?_)); done) | (refine Wd.m0 htn ?_; (repeat (first | exact Wd.z0 | refine Wd.i1 ?_ | refine Wd.s0 ‹_› ?_)); done) | (refine Wd.k0 htn ?_; (repeat (first | exact Wd.z0 | refine Wd.i1 ?_ | refine Wd.s0 ‹_› ?_)); done) | omega) (by decide) (by decide) ?_
    intro p0 pt0 hp0 tkp0 tp0 np0 Fp0 Np0 p00 p01
    rcases upto2 p00 p01 with rfl | rfl
    · k_steps
      exact hr _ _ _ _ _ _ (.name (ss "A")) _ _ (by assumption) (by assumption) (by k_mem) (by first | (refine Wd.f0 ?_; (repeat (first | exact Wd.z0 | refine Wd.i1 ?_ | refine Wd.s0 ‹_› ?_)); done) | (refine Wd.m0 htn ?_; (repeat (first | exact Wd.z0 | refine Wd.i1 ?_ | refine Wd.s0 ‹_› ?_)); done) | (refine Wd.k0 htn ?_; (repeat (first | exact Wd.z0 | refine Wd.i1 ?_ | refine Wd.s0 ‹_› ?_)); done) | omega) ⟨⟨_, _, _, rfl, TupS.is (mNB (by k_mem) (by first | exact Nat.ne_of_lt ‹_› | exact Nat.ne_of_gt ‹_› | (refine Nat.ne_of_lt (InC.of ‹_ ∧ _› ?_); (repeat (first | exact .hd | exact .last | refine .tl ?_)); done) | (refine Nat.ne_of_gt (InC.of ‹_ ∧ _› ?_); (repeat (first | exact .hd | exact .last | refine .tl ?_)); done) | exact Nat.ne_of_lt (Nat.lt_trans ‹_› ‹_›) | exact Nat.ne_of_gt (Nat.lt_trans ‹_› ‹_›) | omega | exact off_obj (by assumption) (by k_mem) (by k_mem) (by simp)))⟩, by first | exact Nat.zero_le _ | exact Nat.le_refl 0 | exact Nat.succ_le_succ (Nat.zero_le _) | exact ht3d D1.ht D2.ht D3.ht | (simp only [Tr.ht_name, Tr.ht_text, Tr.ht_join, Tr.ht_plus, Tr.ht_alt, Tr.ht_dot, Tr.ht_neg, Tr.ht_quest, Tr.ht_dollar, Tr.ht_tilde, Tr.ht_item1, Tr.ht_item2, Tr.ht_call0, Tr.ht_call1, Tr.ht_call2]; omega), by kernel_rfl!, by kernel_rfl!⟩
    · k_steps
      exact hr _ _ _ _ _ _ (.text) _ _ (by assumption) (by assumption) (by k_mem) (by first | (refine Wd.f0 ?_; (repeat (first | exact Wd.z0 | refine Wd.i1 ?_ | refine Wd.s0 ‹_› ?_)); done) | (refine Wd.m0 htn ?_; (repeat (first | exact Wd.z0 | refine Wd.i1 ?_ | refine Wd.s0 ‹_› ?_)); done) | (refine Wd.k0 htn ?_; (repeat (first | exact Wd.z0 | refine Wd.i1 ?_ | refine Wd.s0 ‹_› ?_)); done) | omega) ⟨⟨_, _, _, rfl, TupS.is (mNB (by k_mem) (by first | exact Nat.ne_of_lt ‹_› | exact Nat.ne_of_gt ‹_› | (refine Nat.ne_of_lt (InC.of ‹_ ∧ _› ?_); (repeat (first | exact .hd | exact .last | refine .tl ?_)); done) | (refine Nat.ne_of_gt (InC.of ‹_ ∧ _› ?_); (repeat (first | exact .hd | exact .last | refine .tl ?_)); done) | exact Nat.ne_of_lt (Nat.lt_trans ‹_› ‹_›) | exact Nat.ne_of_gt (Nat.lt_trans ‹_› ‹_›) | omega | exact off_obj (by assumption) (by k_mem) (by k_mem) (by simp)))⟩, by first | exact Nat.zero_le _ | exact Nat.le_refl 0 | exact Nat.succ_le_succ (Nat.zero_le _) | exact ht3d D1.ht D2.ht D3.ht | (simp only [Tr.ht_name, Tr.ht_text, Tr.ht_join, Tr.ht_plus, Tr.ht_alt, Tr.ht_dot, Tr.ht_neg, Tr.ht_quest, Tr.ht_dollar, Tr.ht_tilde, Tr.ht_item1, Tr.ht_item2, Tr.ht_call0, Tr.ht_call1, Tr.ht_call2]; omega), by kernel_rfl!, by kernel_rfl!⟩
  | succ d =>
    simp only [pulls] at htn hr
    k_steps
    refine use_pull0 hh (by show A.depth + 1 + _ < _; first | exact dlt (by assumption) (by decide) | exact dm1 (by assumption) (by first | exact Nat.le_refl _ | exact Nat.le_max_left _ _ | exact Nat.le_max_right _ _) (by decide) | exact dm0 (by assumption) (by first | exact Nat.le_refl _ | exact Nat.le_max_left _ _ | exact Nat.le_max_right _ _) (by decide) | exact dlt2 (by assumption) (by decide) | exact dlt1 (by assumption) (by decide) | omega) (by show A.units + 3 + _ < _; first | exact dlt (by assumption) (by decide) | exact dm1 (by assumption) (by first | exact Nat.le_refl _ | exact Nat.le_max_left _ _ | exact Nat.le_max_right _ _) (by decide) | exact dm0 (by assumption) (by first | exact Nat.le_refl _ | exact Nat.le_max_left _ _ | exact Nat.le_max_right _ _) (by decide) | exact dlt2 (by assumption) (by decide) | exact dlt1 (by assumption) (by decide) | omega) X T (by assumption) (by assumption) hl hns hlen (by repeat (first | exact offc | exact off1 | exact off2 | exact off3 | exact OffB.nil | refine OffB.app ?_ ?_ | refine OffB.cons (by first | exact hb2 | exact hb1 | exact hFb | (show @Ne Nat _ _; dsimp only; first | exact Nat.ne_of_lt ‹_› | exact Nat.ne_of_gt ‹_› | (refine Nat.ne_of_lt (InC.of ‹_ ∧ _› ?_); (repeat (first | exact .hd | exact .last | refine .tl ?_)); done) | (refine Nat.ne_of_gt (InC.of ‹_ ∧ _› ?_); (repeat (first | exact .hd | exact .last | refine .tl ?_)); done) | exact Nat.ne_of_lt (Nat.lt_trans ‹_› ‹_›) | exact Nat.ne_of_gt (Nat.lt_trans ‹_› ‹_›) | omega) | exact off_obj (by assumption) (by k_mem) (by k_mem) (by simp)) ?_)) (by first | (refine Wd.f0 ?_; (repeat (first | exact Wd.z0 | refine Wd.i1 ?_ | refine Wd.s0 ‹_› ?_)); done) | (refine Wd.m0 htn ?_; (repeat (first | exact Wd.z0 | refine Wd.i1 ?_ | refine Wd.s0 ‹_› ?_)); done) | (refine Wd.k0 htn ?_; (repeat (first | exact Wd.z0 | refine Wd.i1 ?_ | refine Wd.s0 ‹_› ?_)); done) | omega) (by decide) (by decide) ?_
    intro p0 pt0 hp0 tkp0 tp0 np0 Fp0 Np0 p00 p01
    rcases upto9 p00 p01 with rfl | rfl | rfl | rfl | rfl | rfl | rfl | rfl | rfl
    · k_steps
      exact hr _ _ _ _ _ _ (.name (ss "A")) _ _ (by assumption) (by assumption) (by k_mem) (by first | (refine Wd.f0 ?_; (repeat (first | exact Wd.z0 | refine Wd.i1 ?_ | refine Wd.s0 ‹_› ?_)); done) | (refine Wd.m0 htn ?_; (repeat (first | exact Wd.z0 | refine Wd.i1 ?_ | refine Wd.s0 ‹_› ?_)); done) | (refine Wd.k0 htn ?_; (repeat (first | exact Wd.z0 | refine Wd.i1 ?_ | refine Wd.s0 ‹_› ?_)); done) | omega) ⟨⟨_, _, _, rfl, TupS.is (mNB (by k_mem) (by first | exact Nat.ne_of_lt ‹_› | exact Nat.ne_of_gt ‹_› | (refine Nat.ne_of_lt (InC.of ‹_ ∧ _› ?_); (repeat (first | exact .hd | exact .last | refine .tl ?_)); done) | (refine Nat.ne_of_gt (InC.of ‹_ ∧ _› ?_); (repeat (first | exact .hd | exact .last | refine .tl ?_)); done) | exact Nat.ne_of_lt (Nat.lt_trans ‹_› ‹_›) | exact Nat.ne_of_gt (Nat.lt_trans ‹_› ‹_›) | omega | exact off_obj (by assumption) (by k_mem) (by k_mem) (by simp)))⟩, by first | exact Nat.zero_le _ | exact Nat.le_refl 0 | exact Nat.succ_le_succ (Nat.zero_le _) | exact ht3d D1.ht D2.ht D3.ht | (simp only [Tr.ht_name, Tr.ht_text, Tr.ht_join, Tr.ht_plus, Tr.ht_alt, Tr.ht_dot, Tr.ht_neg, Tr.ht_quest, Tr.ht_dollar, Tr.ht_tilde, Tr.ht_item1, Tr.ht_item2, Tr.ht_call0, Tr.ht_call1, Tr.ht_call2]; omega), by kernel_rfl!, by kernel_rfl!⟩
    · k_steps
      exact hr _ _ _ _ _ _ (.text) _ _ (by assumption) (by assumption) (by k_mem) (by first | (refine Wd.f0 ?_; (repeat (first | exact Wd.z0 | refine Wd.i1 ?_ | refine Wd.s0 ‹_› ?_)); done) | (refine Wd.m0 htn ?_; (repeat (first | exact Wd.z0 | refine Wd.i1 ?_ | refine Wd.s0 ‹_› ?_)); done) | (refine Wd.k0 htn ?_; (repeat (first | exact Wd.z0 | refine Wd.i1 ?_ | refine Wd.s0 ‹_› ?_)); done) | omega) ⟨⟨_, _, _, rfl, TupS.is (mNB (by k_mem) (by first | exact Nat.ne_of_lt ‹_› | exact Nat.ne_of_gt ‹_› | (refine Nat.ne_of_lt (InC.of ‹_ ∧ _› ?_); (repeat (first | exact .hd | exact .last | refine .tl ?_)); done) | (refine Nat.ne_of_gt (InC.of ‹_ ∧ _› ?_); (repeat (first | exact .hd | exact .last | refine .tl ?_)); done) | exact Nat.ne_of_lt (Nat.lt_trans ‹_› ‹_›) | exact Nat.ne_of_gt (Nat.lt_trans ‹_› ‹_›) | omega | exact off_obj (by assumption) (by k_mem) (by k_mem) (by simp)))⟩, by first | exact Nat.zero_le _ | exact Nat.le_refl 0 | exact Nat.succ_le_succ (Nat.zero_le _) | exact ht3d D1.ht D2.ht D3.ht | (simp only [Tr.ht_name, Tr.ht_text, Tr.ht_join, Tr.ht_plus, Tr.ht_alt, Tr.ht_dot, Tr.ht_neg, Tr.ht_quest, Tr.ht_dollar, Tr.ht_tilde, Tr.ht_item1, Tr.ht_item2, Tr.ht_call0, Tr.ht_call1, Tr.ht_call2]; omega), by kernel_rfl!, by kernel_rfl!⟩
    · k_steps
      refine use_tree0 (ih d (Nat.lt_succ_self _)) (by first | exact hdv1 | omega) hh (by show A.depth + 1 + _ < _; first | exact dlt (by assumption) (by decide) | exact dm1 (by assumption) (by first | exact Nat.le_refl _ | exact Nat.le_max_left _ _ | exact Nat.le_max_right _ _) (by decide) | exact dm0 (by assumption) (by first | exact Nat.le_refl _ | exact Nat.le_max_left _ _ | exact Nat.le_max_right _ _) (by decide) | exact dlt2 (by assumption) (by decide) | exact dlt1 (by assumption) (by decide) | omega) (by show A.units + 3 + _ < _; first | exact dlt (by assumption) (by decide) | exact dm1 (by assumption) (by first | exact Nat.le_refl _ | exact Nat.le_max_left _ _ | exact Nat.le_max_right _ _) (by decide) | exact dm0 (by assumption) (by first | exact Nat.le_refl _ | exact Nat.le_max_left _ _ | exact Nat.le_max_right _ _) (by decide) | exact dlt2 (by assumption) (by decide) | exact dlt1 (by assumption) (by decide) | omega) X T (by assumption) (by assumption) hl hns hlen (by repeat (first | exact offc | exact off1 | exact off2 | exact off3 | exact OffB.nil | refine OffB.app ?_ ?_ | refine OffB.cons (by first | exact hb2 | exact hb1 | exact hFb | (show @Ne Nat _ _; dsimp only; first | exact Nat.ne_of_lt ‹_› | exact Nat.ne_of_gt ‹_› | (refine Nat.ne_of_lt (InC.of ‹_ ∧ _› ?_); (repeat (first | exact .hd | exact .last | refine .tl ?_)); done) | (refine Nat.ne_of_gt (InC.of ‹_ ∧ _› ?_); (repeat (first | exact .hd | exact .last | refine .tl ?_)); done) | exact Nat.ne_of_lt (Nat.lt_trans ‹_› ‹_›) | exact Nat.ne_of_gt (Nat.lt_trans ‹_› ‹_›) | omega) | exact off_obj (by assumption) (by k_mem) (by k_mem) (by simp)) ?_)) (by first | (refine Wd.f0 ?_; (repeat (first | exact Wd.z0 | refine Wd.i1 ?_ | refine Wd.s0 ‹_› ?_)); done) | (refine Wd.m0 htn ?_; (repeat (first | exact Wd.z0 | refine Wd.i1 ?_ | refine Wd.s0 ‹_› ?_)); done) | (refine Wd.k0 htn ?_; (repeat (first | exact Wd.z0 | refine Wd.i1 ?_ | refine Wd.s0 ‹_› ?_)); done) | omega) ?_
      intro r1 h1 tk1 turn1 t1 n1 I1 tr1 F1 N1 off1 le1 D1
      try simp only [List.cons_append, List.nil_append, List.append_assoc] at N1
      k_steps
      refine use_tree0 (ih d (Nat.lt_succ_self _)) (by first | exact hdv1 | omega) hh (by show A.depth + 1 + _ < _; first | exact dlt (by assumption) (by decide) | exact dm1 (by assumption) (by first | exact Nat.le_refl _ | exact Nat.le_max_left _ _ | exact Nat.le_max_right _ _) (by decide) | exact dm0 (by assumption) (by first | exact Nat.le_refl _ | exact Nat.le_max_left _ _ | exact Nat.le_max_right _ _) (by decide) | exact dlt2 (by assumption) (by decide) | exact dlt1 (by assumption) (by decide) | omega) (by show A.units + 3 + _ < _; first | exact dlt (by assumption) (by decide) | exact dm1 (by assumption) (by first | exact Nat.le_refl _ | exact Nat.le_max_left _ _ | exact Nat.le_max_right _ _) (by decide) | exact dm0 (by assumption) (by first | exact Nat.le_refl _ | exact Nat.le_max_left _ _ | exact Nat.le_max_right _ _) (by decide) | exact dlt2 (by assumption) (by decide) | exact dlt1 (by assumption) (by decide) | omega) X T (by assumption) (by assumption) hl hns hlen (by repeat (first | exact offc | exact off1 | exact off2 | exact off3 | exact OffB.nil | refine OffB.app ?_ ?_ | refine OffB.cons (by first | exact hb2 | exact hb1 | exact hFb | (show @Ne Nat _ _; dsimp only; first | exact Nat.ne_of_lt ‹_› | exact Nat.ne_of_gt ‹_› | (refine Nat.ne_of_lt (InC.of ‹_ ∧ _› ?_); (repeat (first | exact .hd | exact .last | refine .tl ?_)); done) | (refine Nat.ne_of_gt (InC.of ‹_ ∧ _› ?_); (repeat (first | exact .hd | exact .last | refine .tl ?_)); done) | exact Nat.ne_of_lt (Nat.lt_trans ‹_› ‹_›) | exact Nat.ne_of_gt (Nat.lt_trans ‹_› ‹_›) | omega) | exact off_obj (by assumption) (by k_mem) (by k_mem) (by simp)) ?_)) (by first | (refine Wd.f0 ?_; (repeat (first | exact Wd.z0 | refine Wd.i1 ?_ | refine Wd.s0 ‹_› ?_)); done) | (refine Wd.m0 htn ?_; (repeat (first | exact Wd.z0 | refine Wd.i1 ?_ | refine Wd.s0 ‹_› ?_)); done) | (refine Wd.k0 htn ?_; (repeat (first | exact Wd.z0 | refine Wd.i1 ?_ | refine Wd.s0 ‹_› ?_)); done) | omega) ?_
      intro r2 h2 tk2 turn2 t2 n2 I2 tr2 F2 N2 off2 le2 D2
      try simp only [List.cons_append, List.nil_append, List.append_assoc] at N2
      k_steps
      exact hr _ _ _ _ _ _ (.join tr1 tr2) _ _ (by assumption) (by assumption) (by k_mem) (by first | (refine Wd.f0 ?_; (repeat (first | exact Wd.z0 | refine Wd.i1 ?_ | refine Wd.s0 ‹_› ?_)); done) | (refine Wd.m0 htn ?_; (repeat (first | exact Wd.z0 | refine Wd.i1 ?_ | refine Wd.s0 ‹_› ?_)); done) | (refine Wd.k0 htn ?_; (repeat (first | exact Wd.z0 | refine Wd.i1 ?_ | refine Wd.s0 ‹_› ?_)); done) | omega) ⟨⟨_, _, _, _, rfl, TupS.is (mNB (by k_mem) (by first | exact Nat.ne_of_lt ‹_› | exact Nat.ne_of_gt ‹_› | (refine Nat.ne_of_lt (InC.of ‹_ ∧ _› ?_); (repeat (first | exact .hd | exact .last | refine .tl ?_)); done) | (refine Nat.ne_of_gt (InC.of ‹_ ∧ _› ?_); (repeat (first | exact .hd | exact .last | refine .tl ?_)); done) | exact Nat.ne_of_lt (Nat.lt_trans ‹_› ‹_›) | exact Nat.ne_of_gt (Nat.lt_trans ‹_› ‹_›) | omega | exact off_obj (by assumption) (by k_mem) (by k_mem) (by simp))), (D1.tree.mono fun a o h => mNB (by repeat (first | exact h | exact List.mem_append_left _ h | exact List.mem_append_right _ h | refine List.mem_append_right _ ?_ | refine List.Mem.tail _ ?_)) (off1 _ h)), (D2.tree.mono fun a o h => mNB (by repeat (first | exact h | exact List.mem_append_left _ h | exact List.mem_append_right _ h | refine List.mem_append_right _ ?_ | refine List.Mem.tail _ ?_)) (off2 _ h))⟩, ht2d D1.ht D2.ht, by first | exact D1.fine | exact and2 D1.fine D2.fine | exact and3 D1.fine D2.fine D3.fine | simp only [Tr.fine_name, Tr.fine_text, Tr.fine_join, Tr.fine_plus, Tr.fine_alt, Tr.fine_dot, Tr.fine_neg, Tr.fine_quest, Tr.fine_dollar, Tr.fine_tilde, Tr.fine_item1, Tr.fine_item2, Tr.fine_call0, Tr.fine_call1, Tr.fine_call2, D1.fine, D2.fine, Bool.and_self], by first | exact D1.good | exact or2 D1.good | exact and2 D1.good D2.good | exact and3 D1.good D2.good D3.good | simp only [Tr.good_name, Tr.good_text, Tr.good_join, Tr.good_plus, Tr.good_alt, Tr.good_dot, Tr.good_neg, Tr.good_quest, Tr.good_dollar, Tr.good_tilde, Tr.good_item1, Tr.good_item2, Tr.good_call0, Tr.good_call1, Tr.good_call2, D1.good, D2.good, Bool.and_self, Bool.or_true]⟩
    · k_steps
      refine use_pull1 hh (by show A.depth + 1 + _ < _; first | exact dlt (by assumption) (by decide) | exact dm1 (by assumption) (by first | exact Nat.le_refl _ | exact Nat.le_max_left _ _ | exact Nat.le_max_right _ _) (by decide) | exact dm0 (by assumption) (by first | exact Nat.le_refl _ | exact Nat.le_max_left _ _ | exact Nat.le_max_right _ _) (by decide) | exact dlt2 (by assumption) (by decide) | exact dlt1 (by assumption) (by decide) | omega) (by show A.units + 3 + _ < _; first | exact dlt (by assumption) (by decide) | exact dm1 (by assumption) (by first | exact Nat.le_refl _ | exact Nat.le_max_left _ _ | exact Nat.le_max_right _ _) (by decide) | exact dm0 (by assumption) (by first | exact Nat.le_refl _ | exact Nat.le_max_left _ _ | exact Nat.le_max_right _ _) (by decide) | exact dlt2 (by assumption) (by decide) | exact dlt1 (by assumption) (by decide) | omega) X T (by assumption) (by assumption) hl hns hlen (by repeat (first | exact offc | exact off1 | exact off2 | exact off3 | exact OffB.nil | refine OffB.app ?_ ?_ | refine OffB.cons (by first | exact hb2 | exact hb1 | exact hFb | (show @Ne Nat _ _; dsimp only; first | exact Nat.ne_of_lt ‹_› | exact Nat.ne_of_gt ‹_› | (refine Nat.ne_of_lt (InC.of ‹_ ∧ _› ?_); (repeat (first | exact .hd | exact .last | refine .tl ?_)); done) | (refine Nat.ne_of_gt (InC.of ‹_ ∧ _› ?_); (repeat (first | exact .hd | exact .last | refine .tl ?_)); done) | exact Nat.ne_of_lt (Nat.lt_trans ‹_› ‹_›) | exact Nat.ne_of_gt (Nat.lt_trans ‹_› ‹_›) | omega) | exact off_obj (by assumption) (by k_mem) (by k_mem) (by simp)) ?_)) (by first | (refine Wd.f0 ?_; (repeat (first | exact Wd.z0 | refine Wd.i1 ?_ | refine Wd.s0 ‹_› ?_)); done) | (refine Wd.m0 htn ?_; (repeat (first | exact Wd.z0 | refine Wd.i1 ?_ | refine Wd.s0 ‹_› ?_)); done) | (refine Wd.k0 htn ?_; (repeat (first | exact Wd.z0 | refine Wd.i1 ?_ | refine Wd.s0 ‹_› ?_)); done) | omega) (by decide) (by decide) ?_
      intro p3 pt3 hp3 tkp3 tp3 np3 Fp3 Np3 p30 p31
      rcases upto3 p30 p31 with rfl | rfl | rfl
      · k_steps
        refine use_tree0 (ih d (Nat.lt_succ_self _)) (by first | exact hdv1 | omega) hh (by show A.depth + 1 + _ < _; first | exact dlt (by assumption) (by decide) | exact dm1 (by assumption) (by first | exact Nat.le_refl _ | exact Nat.le_max_left _ _ | exact Nat.le_max_right _ _) (by decide) | exact dm0 (by assumption) (by first | exact Nat.le_refl _ | exact Nat.le_max_left _ _ | exact Nat.le_max_right _ _) (by decide) | exact dlt2 (by assumption) (by decide) | exact dlt1 (by assumption) (by decide) | omega) (by show A.units + 3 + _ < _; first | exact dlt (by assumption) (by decide) | exact dm1 (by assumption) (by first | exact Nat.le_refl _ | exact Nat.le_max_left _ _ | exact Nat.le_max_right _ _) (by decide) | exact dm0 (by assumption) (by first | exact Nat.le_refl _ | exact Nat.le_max_left _ _ | exact Nat.le_max_right _ _) (by decide) | exact dlt2 (by assumption) (by decide) | exact dlt1 (by assumption) (by decide) | omega) X T (by assumption) (by assumption) hl hns hlen (by repeat (first | exact offc | exact off1 | exact off2 | exact off3 | exact OffB.nil | refine OffB.app ?_ ?_ | refine OffB.cons (by first | exact hb2 | exact hb1 | exact hFb | (show @Ne Nat _ _; dsimp only; first | exact Nat.ne_of_lt ‹_› | exact Nat.ne_of_gt ‹_› | (refine Nat.ne_of_lt (InC.of ‹_ ∧ _› ?_); (repeat (first | exact .hd | exact .last | refine .tl ?_)); done) | (refine Nat.ne_of_gt (InC.of ‹_ ∧ _› ?_); (repeat (first | exact .hd | exact .last | refine .tl ?_)); done) | exact Nat.ne_of_lt (Nat.lt_trans ‹_› ‹_›) | exact Nat.ne_of_gt (Nat.lt_trans ‹_› ‹_›) | omega) | exact off_obj (by assumption) (by k_mem) (by k_mem) (by simp)) ?_)) (by first | (refine Wd.f0 ?_; (repeat (first | exact Wd.z0 | refine Wd.i1 ?_ | refine Wd.s0 ‹_› ?_)); done) | (refine Wd.m0 htn ?_; (repeat (first | exact Wd.z0 | refine Wd.i1 ?_ | refine Wd.s0 ‹_› ?_)); done) | (refine Wd.k0 htn ?_; (repeat (first | exact Wd.z0 | refine Wd.i1 ?_ | refine Wd.s0 ‹_› ?_)); done) | omega) ?_
        intro r1 h1 tk1 turn1 t1 n1 I1 tr1 F1 N1 off1 le1 D1
        try simp only [List.cons_append, List.nil_append, List.append_assoc] at N1
        k_steps
        refine use_tree0 (ih d (Nat.lt_succ_self _)) (by first | exact hdv1 | omega) hh (by show A.depth + 1 + _ < _; first | exact dlt (by assumption) (by decide) | exact dm1 (by assumption) (by first | exact Nat.le_refl _ | exact Nat.le_max_left _ _ | exact Nat.le_max_right _ _) (by decide) | exact dm0 (by assumption) (by first | exact Nat.le_refl _ | exact Nat.le_max_left _ _ | exact Nat.le_max_right _ _) (by decide) | exact dlt2 (by assumption) (by decide) | exact dlt1 (by assumption) (by decide) | omega) (by show A.units + 3 + _ < _; first | exact dlt (by assumption) (by decide) | exact dm1 (by assumption) (by first | exact Nat.le_refl _ | exact Nat.le_max_left _ _ | exact Nat.le_max_right _ _) (by decide) | exact dm0 (by assumption) (by first | exact Nat.le_refl _ | exact Nat.le_max_left _ _ | exact Nat.le_max_right _ _) (by decide) | exact dlt2 (by assumption) (by decide) | exact dlt1 (by assumption) (by decide) | omega) X T (by assumption) (by assumption) hl hns hlen (by repeat (first | exact offc | exact off1 | exact off2 | exact off3 | exact OffB.nil | refine OffB.app ?_ ?_ | refine OffB.cons (by first | exact hb2 | exact hb1 | exact hFb | (show @Ne Nat _ _; dsimp only; first | exact Nat.ne_of_lt ‹_› | exact Nat.ne_of_gt ‹_› | (refine Nat.ne_of_lt (InC.of ‹_ ∧ _› ?_); (repeat (first | exact .hd | exact .last | refine .tl ?_)); done) | (refine Nat.ne_of_gt (InC.of ‹_ ∧ _› ?_); (repeat (first | exact .hd | exact .last | refine .tl ?_)); done) | exact Nat.ne_of_lt (Nat.lt_trans ‹_› ‹_›) | exact Nat.ne_of_gt (Nat.lt_trans ‹_› ‹_›) | omega) | exact off_obj (by assumption) (by k_mem) (by k_mem) (by simp)) ?_)) (by first | (refine Wd.f0 ?_; (repeat (first | exact Wd.z0 | refine Wd.i1 ?_ | refine Wd.s0 ‹_› ?_)); done) | (refine Wd.m0 htn ?_; (repeat (first | exact Wd.z0 | refine Wd.i1 ?_ | refine Wd.s0 ‹_› ?_)); done) | (refine Wd.k0 htn ?_; (repeat (first | exact Wd.z0 | refine Wd.i1 ?_ | refine Wd.s0 ‹_› ?_)); done) | omega) ?_
        intro r2 h2 tk2 turn2 t2 n2 I2 tr2 F2 N2 off2 le2 D2
        try simp only [List.cons_append, List.nil_append, List.append_assoc] at N2
        k_steps
        exact hr _ _ _ _ _ _ (.plus tr1 tr2) _ _ (by assumption) (by assumption) (by k_mem) (by first | (refine Wd.f0 ?_; (repeat (first | exact Wd.z0 | refine Wd.i1 ?_ | refine Wd.s0 ‹_› ?_)); done) | (refine Wd.m0 htn ?_; (repeat (first | exact Wd.z0 | refine Wd.i1 ?_ | refine Wd.s0 ‹_› ?_)); done) | (refine Wd.k0 htn ?_; (repeat (first | exact Wd.z0 | refine Wd.i1 ?_ | refine Wd.s0 ‹_› ?_)); done) | omega) ⟨⟨_, _, _, _, _, rfl, TupS.is (mNB (by k_mem) (by first | exact Nat.ne_of_lt ‹_› | exact Nat.ne_of_gt ‹_› | (refine Nat.ne_of_lt (InC.of ‹_ ∧ _› ?_); (repeat (first | exact .hd | exact .last | refine .tl ?_)); done) | (refine Nat.ne_of_gt (InC.of ‹_ ∧ _› ?_); (repeat (first | exact .hd | exact .last | refine .tl ?_)); done) | exact Nat.ne_of_lt (Nat.lt_trans ‹_› ‹_›) | exact Nat.ne_of_gt (Nat.lt_trans ‹_› ‹_›) | omega | exact off_obj (by assumption) (by k_mem) (by k_mem) (by simp))), (D1.tree.mono fun a o h => mNB (by repeat (first | exact h | exact List.mem_append_left _ h | exact List.mem_append_right _ h | refine List.mem_append_right _ ?_ | refine List.Mem.tail _ ?_)) (off1 _ h)), (D2.tree.mono fun a o h => mNB (by repeat (first | exact h | exact List.mem_append_left _ h | exact List.mem_append_right _ h | refine List.mem_append_right _ ?_ | refine List.Mem.tail _ ?_)) (off2 _ h))⟩, ht2d D1.ht D2.ht, by first | exact D1.fine | exact and2 D1.fine D2.fine | exact and3 D1.fine D2.fine D3.fine | simp only [Tr.fine_name, Tr.fine_text, Tr.fine_join, Tr.fine_plus, Tr.fine_alt, Tr.fine_dot, Tr.fine_neg, Tr.fine_quest, Tr.fine_dollar, Tr.fine_tilde, Tr.fine_item1, Tr.fine_item2, Tr.fine_call0, Tr.fine_call1, Tr.fine_call2, D1.fine, D2.fine, Bool.and_self], by first | exact D1.good | exact or2 D1.good | exact and2 D1.good D2.good | exact and3 D1.good D2.good D3.good | simp only [Tr.good_name, Tr.good_text, Tr.good_join, Tr.good_plus, Tr.good_alt, Tr.good_dot, Tr.good_neg, Tr.good_quest, Tr.good_dollar, Tr.good_tilde, Tr.good_item1, Tr.good_item2, Tr.good_call0, Tr.good_call1, Tr.good_call2, D1.good, D2.good, Bool.and_self, Bool.or_true]⟩
      · k_steps
        refine use_tree0 (ih d (Nat.lt_succ_self _)) (by first | exact hdv1 | omega) hh (by show A.depth + 1 + _ < _; first | exact dlt (by assumption) (by decide) | exact dm1 (by assumption) (by first | exact Nat.le_refl _ | exact Nat.le_max_left _ _ | exact Nat.le_max_right _ _) (by decide) | exact dm0 (by assumption) (by first | exact Nat.le_refl _ | exact Nat.le_max_left _ _ | exact Nat.le_max_right _ _) (by decide) | exact dlt2 (by assumption) (by decide) | exact dlt1 (by assumption) (by decide) | omega) (by show A.units + 3 + _ < _; first | exact dlt (by assumption) (by decide) | exact dm1 (by assumption) (by first | exact Nat.le_refl _ | exact Nat.le_max_left _ _ | exact Nat.le_max_right _ _) (by decide) | exact dm0 (by assumption) (by first | exact Nat.le_refl _ | exact Nat.le_max_left _ _ | exact Nat.le_max_right _ _) (by decide) | exact dlt2 (by assumption) (by decide) | exact dlt1 (by assumption) (by decide) | omega) X T (by assumption) (by assumption) hl hns hlen (by repeat (first | exact offc | exact off1 | exact off2 | exact off3 | exact OffB.nil | refine OffB.app ?_ ?_ | refine OffB.cons (by first | exact hb2 | exact hb1 | exact hFb | (show @Ne Nat _ _; dsimp only; first | exact Nat.ne_of_lt ‹_› | exact Nat.ne_of_gt ‹_› | (refine Nat.ne_of_lt (InC.of ‹_ ∧ _› ?_); (repeat (first | exact .hd | exact .last | refine .tl ?_)); done) | (refine Nat.ne_of_gt (InC.of ‹_ ∧ _› ?_); (repeat (first | exact .hd | exact .last | refine .tl ?_)); done) | exact Nat.ne_of_lt (Nat.lt_trans ‹_› ‹_›) | exact Nat.ne_of_gt (Nat.lt_trans ‹_› ‹_›) | omega) | exact off_obj (by assumption) (by k_mem) (by k_mem) (by simp)) ?_)) (by first | (refine Wd.f0 ?_; (repeat (first | exact Wd.z0 | refine Wd.i1 ?_ | refine Wd.s0 ‹_› ?_)); done) | (refine Wd.m0 htn ?_; (repeat (first | exact Wd.z0 | refine Wd.i1 ?_ | refine Wd.s0 ‹_› ?_)); done) | (refine Wd.k0 htn ?_; (repeat (first | exact Wd.z0 | refine Wd.i1 ?_ | refine Wd.s0 ‹_› ?_)); done) | omega) ?_
        intro r1 h1 tk1 turn1 t1 n1 I1 tr1 F1 N1 off1 le1 D1
        try simp only [List.cons_append, List.nil_append, List.append_assoc] at N1
        k_steps
        refine use_tree0 (ih d (Nat.lt_succ_self _)) (by first | exact hdv1 | omega) hh (by show A.depth + 1 + _ < _; first | exact dlt (by assumption) (by decide) | exact dm1 (by assumption) (by first | exact Nat.le_refl _ | exact Nat.le_max_left _ _ | exact Nat.le_max_right _ _) (by decide) | exact dm0 (by assumption) (by first | exact Nat.le_refl _ | exact Nat.le_max_left _ _ | exact Nat.le_max_right _ _) (by decide) | exact dlt2 (by assumption) (by decide) | exact dlt1 (by assumption) (by decide) | omega) (by show A.units + 3 + _ < _; first | exact dlt (by assumption) (by decide) | exact dm1 (by assumption) (by first | exact Nat.le_refl _ | exact Nat.le_max_left _ _ | exact Nat.le_max_right _ _) (by decide) | exact dm0 (by assumption) (by first | exact Nat.le_refl _ | exact Nat.le_max_left _ _ | exact Nat.le_max_right _ _) (by decide) | exact dlt2 (by assumption) (by decide) | exact dlt1 (by assumption) (by decide) | omega) X T (by assumption) (by assumption) hl hns hlen (by repeat (first | exact offc | exact off1 | exact off2 | exact off3 | exact OffB.nil | refine OffB.app ?_ ?_ | refine OffB.cons (by first | exact hb2 | exact hb1 | exact hFb | (show @Ne Nat _ _; dsimp only; first | exact Nat.ne_of_lt ‹_› | exact Nat.ne_of_gt ‹_› | (refine Nat.ne_of_lt (InC.of ‹_ ∧ _› ?_); (repeat (first | exact .hd | exact .last | refine .tl ?_)); done) | (refine Nat.ne_of_gt (InC.of ‹_ ∧ _› ?_); (repeat (first | exact .hd | exact .last | refine .tl ?_)); done) | exact Nat.ne_of_lt (Nat.lt_trans ‹_› ‹_›) | exact Nat.ne_of_gt (Nat.lt_trans ‹_› ‹_›) | omega) | exact off_obj (by assumption) (by k_mem) (by k_mem) (by simp)) ?_)) (by first | (refine Wd.f0 ?_; (repeat (first | exact Wd.z0 | refine Wd.i1 ?_ | refine Wd.s0 ‹_› ?_)); done) | (refine Wd.m0 htn ?_; (repeat (first | exact Wd.z0 | refine Wd.i1 ?_ | refine Wd.s0 ‹_› ?_)); done) | (refine Wd.k0 htn ?_; (repeat (first | exact Wd.z0 | refine Wd.i1 ?_ | refine Wd.s0 ‹_› ?_)); done) | omega) ?_
        intro r2 h2 tk2 turn2 t2 n2 I2 tr2 F2 N2 off2 le2 D2
        try simp only [List.cons_append, List.nil_append, List.append_assoc] at N2
        k_steps
        exact hr _ _ _ _ _ _ (.alt tr1 tr2) _ _ (by assumption) (by assumption) (by k_mem) (by first | (refine Wd.f0 ?_; (repeat (first | exact Wd.z0 | refine Wd.i1 ?_ | refine Wd.s0 ‹_› ?_)); done) | (refine Wd.m0 htn ?_; (repeat (first | exact Wd.z0 | refine Wd.i1 ?_ | refine Wd.s0 ‹_› ?_)); done) | (refine Wd.k0 htn ?_; (repeat (first | exact Wd.z0 | refine Wd.i1 ?_ | refine Wd.s0 ‹_› ?_)); done) | omega) ⟨⟨_, _, _, _, _, rfl, TupS.is (mNB (by k_mem) (by first | exact Nat.ne_of_lt ‹_› | exact Nat.ne_of_gt ‹_› | (refine Nat.ne_of_lt (InC.of ‹_ ∧ _› ?_); (repeat (first | exact .hd | exact .last | refine .tl ?_)); done) | (refine Nat.ne_of_gt (InC.of ‹_ ∧ _› ?_); (repeat (first | exact .hd | exact .last | refine .tl ?_)); done) | exact Nat.ne_of_lt (Nat.lt_trans ‹_› ‹_›) | exact Nat.ne_of_gt (Nat.lt_trans ‹_› ‹_›) | omega | exact off_obj (by assumption) (by k_mem) (by k_mem) (by simp))), (D1.tree.mono fun a o h => mNB (by repeat (first | exact h | exact List.mem_append_left _ h | exact List.mem_append_right _ h | refine List.mem_append_right _ ?_ | refine List.Mem.tail _ ?_)) (off1 _ h)), (D2.tree.mono fun a o h => mNB (by repeat (first | exact h | exact List.mem_append_left _ h | exact List.mem_append_right _ h | refine List.mem_append_right _ ?_ | refine List.Mem.tail _ ?_)) (off2 _ h))⟩, ht2d D1.ht D2.ht, by first | exact D1.fine | exact and2 D1.fine D2.fine | exact and3 D1.fine D2.fine D3.fine | simp only [Tr.fine_name, Tr.fine_text, Tr.fine_join, Tr.fine_plus, Tr.fine_alt, Tr.fine_dot, Tr.fine_neg, Tr.fine_quest, Tr.fine_dollar, Tr.fine_tilde, Tr.fine_item1, Tr.fine_item2, Tr.fine_call0, Tr.fine_call1, Tr.fine_call2, D1.fine, D2.fine, Bool.and_self], by first | exact D1.good | exact or2 D1.good | exact and2 D1.good D2.good | exact and3 D1.good D2.good D3.good | simp only [Tr.good_name, Tr.good_text, Tr.good_join, Tr.good_plus, Tr.good_alt, Tr.good_dot, Tr.good_neg, Tr.good_quest, Tr.good_dollar, Tr.good_tilde, Tr.good_item1, Tr.good_item2, Tr.good_call0, Tr.good_call1, Tr.good_call2, D1.good, D2.good, Bool.and_self, Bool.or_true]⟩
      · k_steps
        refine use_tree0 (ih d (Nat.lt_succ_self _)) (by first | exact hdv1 | omega) hh (by show A.depth + 1 + _ < _; first | exact dlt (by assumption) (by decide) | exact dm1 (by assumption) (by first | exact Nat.le_refl _ | exact Nat.le_max_left _ _ | exact Nat.le_max_right _ _) (by decide) | exact dm0 (by assumption) (by first | exact Nat.le_refl _ | exact Nat.le_max_left _ _ | exact Nat.le_max_right _ _) (by decide) | exact dlt2 (by assumption) (by decide) | exact dlt1 (by assumption) (by decide) | omega) (by show A.units + 3 + _ < _; first | exact dlt (by assumption) (by decide) | exact dm1 (by assumption) (by first | exact Nat.le_refl _ | exact Nat.le_max_left _ _ | exact Nat.le_max_right _ _) (by decide) | exact dm0 (by assumption) (by first | exact Nat.le_refl _ | exact Nat.le_max_left _ _ | exact Nat.le_max_right _ _) (by decide) | exact dlt2 (by assumption) (by decide) | exact dlt1 (by assumption) (by decide) | omega) X T (by assumption) (by assumption) hl hns hlen (by repeat (first | exact offc | exact off1 | exact off2 | exact off3 | exact OffB.nil | refine OffB.app ?_ ?_ | refine OffB.cons (by first | exact hb2 | exact hb1 | exact hFb | (show @Ne Nat _ _; dsimp only; first | exact Nat.ne_of_lt ‹_› | exact Nat.ne_of_gt ‹_› | (refine Nat.ne_of_lt (InC.of ‹_ ∧ _› ?_); (repeat (first | exact .hd | exact .last | refine .tl ?_)); done) | (refine Nat.ne_of_gt (InC.of ‹_ ∧ _› ?_); (repeat (first | exact .hd | exact .last | refine .tl ?_)); done) | exact Nat.ne_of_lt (Nat.lt_trans ‹_› ‹_›) | exact Nat.ne_of_gt (Nat.lt_trans ‹_› ‹_›) | omega) | exact off_obj (by assumption) (by k_mem) (by k_mem) (by simp)) ?_)) (by first | (refine Wd.f0 ?_; (repeat (first | exact Wd.z0 | refine Wd.i1 ?_ | refine Wd.s0 ‹_› ?_)); done) | (refine Wd.m0 htn ?_; (repeat (first | exact Wd.z0 | refine Wd.i1 ?_ | refine Wd.s0 ‹_› ?_)); done) | (refine Wd.k0 htn ?_; (repeat (first | exact Wd.z0 | refine Wd.i1 ?_ | refine Wd.s0 ‹_› ?_)); done) | omega) ?_
        intro r1 h1 tk1 turn1 t1 n1 I1 tr1 F1 N1 off1 le1 D1
        try simp only [List.cons_append, List.nil_append, List.append_assoc] at N1
        k_steps
        exact hr _ _ _ _ _ _ (.dot tr1) _ _ (by assumption) (by assumption) (by k_mem) (by first | (refine Wd.f0 ?_; (repeat (first | exact Wd.z0 | refine Wd.i1 ?_ | refine Wd.s0 ‹_› ?_)); done) | (refine Wd.m0 htn ?_; (repeat (first | exact Wd.z0 | refine Wd.i1 ?_ | refine Wd.s0 ‹_› ?_)); done) | (refine Wd.k0 htn ?_; (repeat (first | exact Wd.z0 | refine Wd.i1 ?_ | refine Wd.s0 ‹_› ?_)); done) | omega) ⟨⟨_, _, _, _, _, rfl, TupS.is (mNB (by k_mem) (by first | exact Nat.ne_of_lt ‹_› | exact Nat.ne_of_gt ‹_› | (refine Nat.ne_of_lt (InC.of ‹_ ∧ _› ?_); (repeat (first | exact .hd | exact .last | refine .tl ?_)); done) | (refine Nat.ne_of_gt (InC.of ‹_ ∧ _› ?_); (repeat (first | exact .hd | exact .last | refine .tl ?_)); done) | exact Nat.ne_of_lt (Nat.lt_trans ‹_› ‹_›) | exact Nat.ne_of_gt (Nat.lt_trans ‹_› ‹_›) | omega | exact off_obj (by assumption) (by k_mem) (by k_mem) (by simp))), (D1.tree.mono fun a o h => mNB (by repeat (first | exact h | exact List.mem_append_left _ h | exact List.mem_append_right _ h | refine List.mem_append_right _ ?_ | refine List.Mem.tail _ ?_)) (off1 _ h)), ⟨_, _, _, rfl, TupS.is (mNB (by k_mem) (by first | exact Nat.ne_of_lt ‹_› | exact Nat.ne_of_gt ‹_› | (refine Nat.ne_of_lt (InC.of ‹_ ∧ _› ?_); (repeat (first | exact .hd | exact .last | refine .tl ?_)); done) | (refine Nat.ne_of_gt (InC.of ‹_ ∧ _› ?_); (repeat (first | exact .hd | exact .last | refine .tl ?_)); done) | exact Nat.ne_of_lt (Nat.lt_trans ‹_› ‹_›) | exact Nat.ne_of_gt (Nat.lt_trans ‹_› ‹_›) | omega | exact off_obj (by assumption) (by k_mem) (by k_mem) (by simp)))⟩⟩, Nat.succ_le_succ D1.ht, by first | exact D1.fine | exact and2 D1.fine D2.fine | exact and3 D1.fine D2.fine D3.fine | simp only [Tr.fine_name, Tr.fine_text, Tr.fine_join, Tr.fine_plus, Tr.fine_alt, Tr.fine_dot, Tr.fine_neg, Tr.fine_quest, Tr.fine_dollar, Tr.fine_tilde, Tr.fine_item1, Tr.fine_item2, Tr.fine_call0, Tr.fine_call1, Tr.fine_call2, D1.fine, Bool.and_self], by first | exact D1.good | exact or2 D1.good | exact and2 D1.good D2.good | exact and3 D1.good D2.good D3.good | simp only [Tr.good_name, Tr.good_text, Tr.good_join, Tr.good_plus, Tr.good_alt, Tr.good_dot, Tr.good_neg, Tr.good_quest, Tr.good_dollar, Tr.good_tilde, Tr.good_item1, Tr.good_item2, Tr.good_call0, Tr.good_call1, Tr.good_call2, D1.good, Bool.and_self, Bool.or_true]⟩
    · k_steps
      refine use_pull0 hh (by show A.depth + 1 + _ < _; first | exact dlt (by assumption) (by decide) | exact dm1 (by assumption) (by first | exact Nat.le_refl _ | exact Nat.le_max_left _ _ | exact Nat.le_max_right _ _) (by decide) | exact dm0 (by assumption) (by first | exact Nat.le_refl _ | exact Nat.le_max_left _ _ | exact Nat.le_max_right _ _) (by decide) | exact dlt2 (by assumption) (by decide) | exact dlt1 (by assumption) (by decide) | omega) (by show A.units + 3 + _ < _; first | exact dlt (by assumption) (by decide) | exact dm1 (by assumption) (by first | exact Nat.le_refl _ | exact Nat.le_max_left _ _ | exact Nat.le_max_right _ _) (by decide) | exact dm0 (by assumption) (by first | exact Nat.le_refl _ | exact Nat.le_max_left _ _ | exact Nat.le_max_right _ _) (by decide) | exact dlt2 (by assumption) (by decide) | exact dlt1 (by assumption) (by decide) | omega) X T (by assumption) (by assumption) hl hns hlen (by repeat (first | exact offc | exact off1 | exact off2 | exact off3 | exact OffB.nil | refine OffB.app ?_ ?_ | refine OffB.cons (by first | exact hb2 | exact hb1 | exact hFb | (show @Ne Nat _ _; dsimp only; first | exact Nat.ne_of_lt ‹_› | exact Nat.ne_of_gt ‹_› | (refine Nat.ne_of_lt (InC.of ‹_ ∧ _› ?_); (repeat (first | exact .hd | exact .last | refine .tl ?_)); done) | (refine Nat.ne_of_gt (InC.of ‹_ ∧ _› ?_); (repeat (first | exact .hd | exact .last | refine .tl ?_)); done) | exact Nat.ne_of_lt (Nat.lt_trans ‹_› ‹_›) | exact Nat.ne_of_gt (Nat.lt_trans ‹_› ‹_›) | omega) | exact off_obj (by assumption) (by k_mem) (by k_mem) (by simp)) ?_)) (by first | (refine Wd.f0 ?_; (repeat (first | exact Wd.z0 | refine Wd.i1 ?_ | refine Wd.s0 ‹_› ?_)); done) | (refine Wd.m0 htn ?_; (repeat (first | exact Wd.z0 | refine Wd.i1 ?_ | refine Wd.s0 ‹_› ?_)); done) | (refine Wd.k0 htn ?_; (repeat (first | exact Wd.z0 | refine Wd.i1 ?_ | refine Wd.s0 ‹_› ?_)); done) | omega) (by decide) (by decide) ?_
      intro p3 pt3 hp3 tkp3 tp3 np3 Fp3 Np3 p30 p31
      rcases upto3 p30 p31 with rfl | rfl | rfl
      · k_steps
        refine use_tree0 (ih d (Nat.lt_succ_self _)) (by first | exact hdv1 | omega) hh (by show A.depth + 1 + _ < _; first | exact dlt (by assumption) (by decide) | exact dm1 (by assumption) (by first | exact Nat.le_refl _ | exact Nat.le_max_left _ _ | exact Nat.le_max_right _ _) (by decide) | exact dm0 (by assumption) (by first | exact Nat.le_refl _ | exact Nat.le_max_left _ _ | exact Nat.le_max_right _ _) (by decide) | exact dlt2 (by assumption) (by decide) | exact dlt1 (by assumption) (by decide) | omega) (by show A.units + 3 + _ < _; first | exact dlt (by assumption) (by decide) | exact dm1 (by assumption) (by first | exact Nat.le_refl _ | exact Nat.le_max_left _ _ | exact Nat.le_max_right _ _) (by decide) | exact dm0 (by assumption) (by first | exact Nat.le_refl _ | exact Nat.le_max_left _ _ | exact Nat.le_max_right _ _) (by decide) | exact dlt2 (by assumption) (by decide) | exact dlt1 (by assumption) (by decide) | omega) X T (by assumption) (by assumption) hl hns hlen (by repeat (first | exact offc | exact off1 | exact off2 | exact off3 | exact OffB.nil | refine OffB.app ?_ ?_ | refine OffB.cons (by first | exact hb2 | exact hb1 | exact hFb | (show @Ne Nat _ _; dsimp only; first | exact Nat.ne_of_lt ‹_› | exact Nat.ne_of_gt ‹_› | (refine Nat.ne_of_lt (InC.of ‹_ ∧ _› ?_); (repeat (first | exact .hd | exact .last | refine .tl ?_)); done) | (refine Nat.ne_of_gt (InC.of ‹_ ∧ _› ?_); (repeat (first | exact .hd | exact .last | refine .tl ?_)); done) | exact Nat.ne_of_lt (Nat.lt_trans ‹_› ‹_›) | exact Nat.ne_of_gt (Nat.lt_trans ‹_› ‹_›) | omega) | exact off_obj (by assumption) (by k_mem) (by k_mem) (by simp)) ?_)) (by first | (refine Wd.f0 ?_; (repeat (first | exact Wd.z0 | refine Wd.i1 ?_ | refine Wd.s0 ‹_› ?_)); done) | (refine Wd.m0 htn ?_; (repeat (first | exact Wd.z0 | refine Wd.i1 ?_ | refine Wd.s0 ‹_› ?_)); done) | (refine Wd.k0 htn ?_; (repeat (first | exact Wd.z0 | refine Wd.i1 ?_ | refine Wd.s0 ‹_› ?_)); done) | omega) ?_
        intro r1 h1 tk1 turn1 t1 n1 I1 tr1 F1 N1 off1 le1 D1
        try simp only [List.cons_append, List.nil_append, List.append_assoc] at N1
        k_steps
        exact hr _ _ _ _ _ _ (.neg tr1) _ _ (by assumption) (by assumption) (by k_mem) (by first | (refine Wd.f0 ?_; (repeat (first | exact Wd.z0 | refine Wd.i1 ?_ | refine Wd.s0 ‹_› ?_)); done) | (refine Wd.m0 htn ?_; (repeat (first | exact Wd.z0 | refine Wd.i1 ?_ | refine Wd.s0 ‹_› ?_)); done) | (refine Wd.k0 htn ?_; (repeat (first | exact Wd.z0 | refine Wd.i1 ?_ | refine Wd.s0 ‹_› ?_)); done) | omega) ⟨⟨_, _, _, _, rfl, TupS.is (mNB (by k_mem) (by first | exact Nat.ne_of_lt ‹_› | exact Nat.ne_of_gt ‹_› | (refine Nat.ne_of_lt (InC.of ‹_ ∧ _› ?_); (repeat (first | exact .hd | exact .last | refine .tl ?_)); done) | (refine Nat.ne_of_gt (InC.of ‹_ ∧ _› ?_); (repeat (first | exact .hd | exact .last | refine .tl ?_)); done) | exact Nat.ne_of_lt (Nat.lt_trans ‹_› ‹_›) | exact Nat.ne_of_gt (Nat.lt_trans ‹_› ‹_›) | omega | exact off_obj (by assumption) (by k_mem) (by k_mem) (by simp))), (D1.tree.mono fun a o h => mNB (by repeat (first | exact h | exact List.mem_append_left _ h | exact List.mem_append_right _ h | refine List.mem_append_right _ ?_ | refine List.Mem.tail _ ?_)) (off1 _ h))⟩, Nat.succ_le_succ D1.ht, by first | exact D1.fine | exact and2 D1.fine D2.fine | exact and3 D1.fine D2.fine D3.fine | simp only [Tr.fine_name, Tr.fine_text, Tr.fine_join, Tr.fine_plus, Tr.fine_alt, Tr.fine_dot, Tr.fine_neg, Tr.fine_quest, Tr.fine_dollar, Tr.fine_tilde, Tr.fine_item1, Tr.fine_item2, Tr.fine_call0, Tr.fine_call1, Tr.fine_call2, D1.fine, Bool.and_self], by first | exact D1.good | exact or2 D1.good | exact and2 D1.good D2.good | exact and3 D1.good D2.good D3.good | simp only [Tr.good_name, Tr.good_text, Tr.good_join, Tr.good_plus, Tr.good_alt, Tr.good_dot, Tr.good_neg, Tr.good_quest, Tr.good_dollar, Tr.good_tilde, Tr.good_item1, Tr.good_item2, Tr.good_call0, Tr.good_call1, Tr.good_call2, D1.good, Bool.and_self, Bool.or_true]⟩
      · k_steps
        refine use_tree0 (ih d (Nat.lt_succ_self _)) (by first | exact hdv1 | omega) hh (by show A.depth + 1 + _ < _; first | exact dlt (by assumption) (by decide) | exact dm1 (by assumption) (by first | exact Nat.le_refl _ | exact Nat.le_max_left _ _ | exact Nat.le_max_right _ _) (by decide) | exact dm0 (by assumption) (by first | exact Nat.le_refl _ | exact Nat.le_max_left _ _ | exact Nat.le_max_right _ _) (by decide) | exact dlt2 (by assumption) (by decide) | exact dlt1 (by assumption) (by decide) | omega) (by show A.units + 3 + _ < _; first | exact dlt (by assumption) (by decide) | exact dm1 (by assumption) (by first | exact Nat.le_refl _ | exact Nat.le_max_left _ _ | exact Nat.le_max_right _ _) (by decide) | exact dm0 (by assumption) (by first | exact Nat.le_refl _ | exact Nat.le_max_left _ _ | exact Nat.le_max_right _ _) (by decide) | exact dlt2 (by assumption) (by decide) | exact dlt1 (by assumption) (by decide) | omega) X T (by assumption) (by assumption) hl hns hlen (by repeat (first | exact offc | exact off1 | exact off2 | exact off3 | exact OffB.nil | refine OffB.app ?_ ?_ | refine OffB.cons (by first | exact hb2 | exact hb1 | exact hFb | (show @Ne Nat _ _; dsimp only; first | exact Nat.ne_of_lt ‹_› | exact Nat.ne_of_gt ‹_› | (refine Nat.ne_of_lt (InC.of ‹_ ∧ _› ?_); (repeat (first | exact .hd | exact .last | refine .tl ?_)); done) | (refine Nat.ne_of_gt (InC.of ‹_ ∧ _› ?_); (repeat (first | exact .hd | exact .last | refine .tl ?_)); done) | exact Nat.ne_of_lt (Nat.lt_trans ‹_› ‹_›) | exact Nat.ne_of_gt (Nat.lt_trans ‹_› ‹_›) | omega) | exact off_obj (by assumption) (by k_mem) (by k_mem) (by simp)) ?_)) (by first | (refine Wd.f0 ?_; (repeat (first | exact Wd.z0 | refine Wd.i1 ?_ | refine Wd.s0 ‹_› ?_)); done) | (refine Wd.m0 htn ?_; (repeat (first | exact Wd.z0 | refine Wd.i1 ?_ | refine Wd.s0 ‹_› ?_)); done) | (refine Wd.k0 htn ?_; (repeat (first | exact Wd.z0 | refine Wd.i1 ?_ | refine Wd.s0 ‹_› ?_)); done) | omega) ?_
        intro r1 h1 tk1 turn1 t1 n1 I1 tr1 F1 N1 off1 le1 D1
        try simp only [List.cons_append, List.nil_append, List.append_assoc] at N1
        k_steps
        exact hr _ _ _ _ _ _ (.quest tr1) _ _ (by assumption) (by assumption) (by k_mem) (by first | (refine Wd.f0 ?_; (repeat (first | exact Wd.z0 | refine Wd.i1 ?_ | refine Wd.s0 ‹_› ?_)); done) | (refine Wd.m0 htn ?_; (repeat (first | exact Wd.z0 | refine Wd.i1 ?_ | refine Wd.s0 ‹_› ?_)); done) | (refine Wd.k0 htn ?_; (repeat (first | exact Wd.z0 | refine Wd.i1 ?_ | refine Wd.s0 ‹_› ?_)); done) | omega) ⟨⟨_, _, _, _, rfl, TupS.is (mNB (by k_mem) (by first | exact Nat.ne_of_lt ‹_› | exact Nat.ne_of_gt ‹_› | (refine Nat.ne_of_lt (InC.of ‹_ ∧ _› ?_); (repeat (first | exact .hd | exact .last | refine .tl ?_)); done) | (refine Nat.ne_of_gt (InC.of ‹_ ∧ _› ?_); (repeat (first | exact .hd | exact .last | refine .tl ?_)); done) | exact Nat.ne_of_lt (Nat.lt_trans ‹_› ‹_›) | exact Nat.ne_of_gt (Nat.lt_trans ‹_› ‹_›) | omega | exact off_obj (by assumption) (by k_mem) (by k_mem) (by simp))), (D1.tree.mono fun a o h => mNB (by repeat (first | exact h | exact List.mem_append_left _ h | exact List.mem_append_right _ h | refine List.mem_append_right _ ?_ | refine List.Mem.tail _ ?_)) (off1 _ h))⟩, Nat.succ_le_succ D1.ht, by first | exact D1.fine | exact and2 D1.fine D2.fine | exact and3 D1.fine D2.fine D3.fine | simp only [Tr.fine_name, Tr.fine_text, Tr.fine_join, Tr.fine_plus, Tr.fine_alt, Tr.fine_dot, Tr.fine_neg, Tr.fine_quest, Tr.fine_dollar, Tr.fine_tilde, Tr.fine_item1, Tr.fine_item2, Tr.fine_call0, Tr.fine_call1, Tr.fine_call2, D1.fine, Bool.and_self], by first | exact D1.good | exact or2 D1.good | exact and2 D1.good D2.good | exact and3 D1.good D2.good D3.good | simp only [Tr.good_name, Tr.good_text, Tr.good_join, Tr.good_plus, Tr.good_alt, Tr.good_dot, Tr.good_neg, Tr.good_quest, Tr.good_dollar, Tr.good_tilde, Tr.good_item1, Tr.good_item2, Tr.good_call0, Tr.good_call1, Tr.good_call2, D1.good, Bool.and_self, Bool.or_true]⟩
      · k_steps
        refine use_tree0 (ih d (Nat.lt_succ_self _)) (by first | exact hdv1 | omega) hh (by show A.depth + 1 + _ < _; first | exact dlt (by assumption) (by decide) | exact dm1 (by assumption) (by first | exact Nat.le_refl _ | exact Nat.le_max_left _ _ | exact Nat.le_max_right _ _) (by decide) | exact dm0 (by assumption) (by first | exact Nat.le_refl _ | exact Nat.le_max_left _ _ | exact Nat.le_max_right _ _) (by decide) | exact dlt2 (by assumption) (by decide) | exact dlt1 (by assumption) (by decide) | omega) (by show A.units + 3 + _ < _; first | exact dlt (by assumption) (by decide) | exact dm1 (by assumption) (by first | exact Nat.le_refl _ | exact Nat.le_max_left _ _ | exact Nat.le_max_right _ _) (by decide) | exact dm0 (by assumption) (by first | exact Nat.le_refl _ | exact Nat.le_max_left _ _ | exact Nat.le_max_right _ _) (by decide) | exact dlt2 (by assumption) (by decide) | exact dlt1 (by assumption) (by decide) | omega) X T (by assumption) (by assumption) hl hns hlen (by repeat (first | exact offc | exact off1 | exact off2 | exact off3 | exact OffB.nil | refine OffB.app ?_ ?_ | refine OffB.cons (by first | exact hb2 | exact hb1 | exact hFb | (show @Ne Nat _ _; dsimp only; first | exact Nat.ne_of_lt ‹_› | exact Nat.ne_of_gt ‹_› | (refine Nat.ne_of_lt (InC.of ‹_ ∧ _› ?_); (repeat (first | exact .hd | exact .last | refine .tl ?_)); done) | (refine Nat.ne_of_gt (InC.of ‹_ ∧ _› ?_); (repeat (first | exact .hd | exact .last | refine .tl ?_)); done) | exact Nat.ne_of_lt (Nat.lt_trans ‹_› ‹_›) | exact Nat.ne_of_gt (Nat.lt_trans ‹_› ‹_›) | omega) | exact off_obj (by assumption) (by k_mem) (by k_mem) (by simp)) ?_)) (by first | (refine Wd.f0 ?_; (repeat (first | exact Wd.z0 | refine Wd.i1 ?_ | refine Wd.s0 ‹_› ?_)); done) | (refine Wd.m0 htn ?_; (repeat (first | exact Wd.z0 | refine Wd.i1 ?_ | refine Wd.s0 ‹_› ?_)); done) | (refine Wd.k0 htn ?_; (repeat (first | exact Wd.z0 | refine Wd.i1 ?_ | refine Wd.s0 ‹_› ?_)); done) | omega) ?_
        intro r1 h1 tk1 turn1 t1 n1 I1 tr1 F1 N1 off1 le1 D1
        try simp only [List.cons_append, List.nil_append, List.append_assoc] at N1
        k_steps
        exact hr _ _ _ _ _ _ (.dollar tr1) _ _ (by assumption) (by assumption) (by k_mem) (by first | (refine Wd.f0 ?_; (repeat (first | exact Wd.z0 | refine Wd.i1 ?_ | refine Wd.s0 ‹_› ?_)); done) | (refine Wd.m0 htn ?_; (repeat (first | exact Wd.z0 | refine Wd.i1 ?_ | refine Wd.s0 ‹_› ?_)); done) | (refine Wd.k0 htn ?_; (repeat (first | exact Wd.z0 | refine Wd.i1 ?_ | refine Wd.s0 ‹_› ?_)); done) | omega) ⟨⟨_, _, _, _, rfl, TupS.is (mNB (by k_mem) (by first | exact Nat.ne_of_lt ‹_› | exact Nat.ne_of_gt ‹_› | (refine Nat.ne_of_lt (InC.of ‹_ ∧ _› ?_); (repeat (first | exact .hd | exact .last | refine .tl ?_)); done) | (refine Nat.ne_of_gt (InC.of ‹_ ∧ _› ?_); (repeat (first | exact .hd | exact .last | refine .tl ?_)); done) | exact Nat.ne_of_lt (Nat.lt_trans ‹_› ‹_›) | exact Nat.ne_of_gt (Nat.lt_trans ‹_› ‹_›) | omega | exact off_obj (by assumption) (by k_mem) (by k_mem) (by simp))), (D1.tree.mono fun a o h => mNB (by repeat (first | exact h | exact List.mem_append_left _ h | exact List.mem_append_right _ h | refine List.mem_append_right _ ?_ | refine List.Mem.tail _ ?_)) (off1 _ h))⟩, Nat.succ_le_succ D1.ht, by first | exact D1.fine | exact and2 D1.fine D2.fine | exact and3 D1.fine D2.fine D3.fine | simp only [Tr.fine_name, Tr.fine_text, Tr.fine_join, Tr.fine_plus, Tr.fine_alt, Tr.fine_dot, Tr.fine_neg, Tr.fine_quest, Tr.fine_dollar, Tr.fine_tilde, Tr.fine_item1, Tr.fine_item2, Tr.fine_call0, Tr.fine_call1, Tr.fine_call2, D1.fine, Bool.and_self], by first | exact D1.good | exact or2 D1.good | exact and2 D1.good D2.good | exact and3 D1.good D2.good D3.good | simp only [Tr.good_name, Tr.good_text, Tr.good_join, Tr.good_plus, Tr.good_alt, Tr.good_dot, Tr.good_neg, Tr.good_quest, Tr.good_dollar, Tr.good_tilde, Tr.good_item1, Tr.good_item2, Tr.good_call0, Tr.good_call1, Tr.good_call2, D1.good, Bool.and_self, Bool.or_true]⟩
    · k_steps
      refine use_tree0 (ih d (Nat.lt_succ_self _)) (by first | exact hdv1 | omega) hh (by show A.depth + 1 + _ < _; first | exact dlt (by assumption) (by decide) | exact dm1 (by assumption) (by first | exact Nat.le_refl _ | exact Nat.le_max_left _ _ | exact Nat.le_max_right _ _) (by decide) | exact dm0 (by assumption) (by first | exact Nat.le_refl _ | exact Nat.le_max_left _ _ | exact Nat.le_max_right _ _) (by decide) | exact dlt2 (by assumption) (by decide) | exact dlt1 (by assumption) (by decide) | omega) (by show A.units + 3 + _ < _; first | exact dlt (by assumption) (by decide) | exact dm1 (by assumption) (by first | exact Nat.le_refl _ | exact Nat.le_max_left _ _ | exact Nat.le_max_right _ _) (by decide) | exact dm0 (by assumption) (by first | exact Nat.le_refl _ | exact Nat.le_max_left _ _ | exact Nat.le_max_right _ _) (by decide) | exact dlt2 (by assumption) (by decide) | exact dlt1 (by assumption) (by decide) | omega) X T (by assumption) (by assumption) hl hns hlen (by repeat (first | exact offc | exact off1 | exact off2 | exact off3 | exact OffB.nil | refine OffB.app ?_ ?_ | refine OffB.cons (by first | exact hb2 | exact hb1 | exact hFb | (show @Ne Nat _ _; dsimp only; first | exact Nat.ne_of_lt ‹_› | exact Nat.ne_of_gt ‹_› | (refine Nat.ne_of_lt (InC.of ‹_ ∧ _› ?_); (repeat (first | exact .hd | exact .last | refine .tl ?_)); done) | (refine Nat.ne_of_gt (InC.of ‹_ ∧ _› ?_); (repeat (first | exact .hd | exact .last | refine .tl ?_)); done) | exact Nat.ne_of_lt (Nat.lt_trans ‹_› ‹_›) | exact Nat.ne_of_gt (Nat.lt_trans ‹_› ‹_›) | omega) | exact off_obj (by assumption) (by k_mem) (by k_mem) (by simp)) ?_)) (by first | (refine Wd.f0 ?_; (repeat (first | exact Wd.z0 | refine Wd.i1 ?_ | refine Wd.s0 ‹_› ?_)); done) | (refine Wd.m0 htn ?_; (repeat (first | exact Wd.z0 | refine Wd.i1 ?_ | refine Wd.s0 ‹_› ?_)); done) | (refine Wd.k0 htn ?_; (repeat (first | exact Wd.z0 | refine Wd.i1 ?_ | refine Wd.s0 ‹_› ?_)); done) | omega) ?_
      intro r1 h1 tk1 turn1 t1 n1 I1 tr1 F1 N1 off1 le1 D1
      try simp only [List.cons_append, List.nil_append, List.append_assoc] at N1
      k_steps
      refine use_pull0 hh (by show A.depth + 1 + _ < _; first | exact dlt (by assumption) (by decide) | exact dm1 (by assumption) (by first | exact Nat.le_refl _ | exact Nat.le_max_left _ _ | exact Nat.le_max_right _ _) (by decide) | exact dm0 (by assumption) (by first | exact Nat.le_refl _ | exact Nat.le_max_left _ _ | exact Nat.le_max_right _ _) (by decide) | exact dlt2 (by assumption) (by decide) | exact dlt1 (by assumption) (by decide) | omega) (by show A.units + 3 + _ < _; first | exact dlt (by assumption) (by decide) | exact dm1 (by assumption) (by first | exact Nat.le_refl _ | exact Nat.le_max_left _ _ | exact Nat.le_max_right _ _) (by decide) | exact dm0 (by assumption) (by first | exact Nat.le_refl _ | exact Nat.le_max_left _ _ | exact Nat.le_max_right _ _) (by decide) | exact dlt2 (by assumption) (by decide) | exact dlt1 (by assumption) (by decide) | omega) X T (by assumption) (by assumption) hl hns hlen (by repeat (first | exact offc | exact off1 | exact off2 | exact off3 | exact OffB.nil | refine OffB.app ?_ ?_ | refine OffB.cons (by first | exact hb2 | exact hb1 | exact hFb | (show @Ne Nat _ _; dsimp only; first | exact Nat.ne_of_lt ‹_› | exact Nat.ne_of_gt ‹_› | (refine Nat.ne_of_lt (InC.of ‹_ ∧ _› ?_); (repeat (first | exact .hd | exact .last | refine .tl ?_)); done) | (refine Nat.ne_of_gt (InC.of ‹_ ∧ _› ?_); (repeat (first | exact .hd | exact .last | refine .tl ?_)); done) | exact Nat.ne_of_lt (Nat.lt_trans ‹_› ‹_›) | exact Nat.ne_of_gt (Nat.lt_trans ‹_› ‹_›) | omega) | exact off_obj (by assumption) (by k_mem) (by k_mem) (by simp)) ?_)) (by first | (refine Wd.f0 ?_; (repeat (first | exact Wd.z0 | refine Wd.i1 ?_ | refine Wd.s0 ‹_› ?_)); done) | (refine Wd.m0 htn ?_; (repeat (first | exact Wd.z0 | refine Wd.i1 ?_ | refine Wd.s0 ‹_› ?_)); done) | (refine Wd.k0 htn ?_; (repeat (first | exact Wd.z0 | refine Wd.i1 ?_ | refine Wd.s0 ‹_› ?_)); done) | omega) (by decide) (by decide) ?_
      intro p3 pt3 hp3 tkp3 tp3 np3 Fp3 Np3 p30 p31
      rcases upto2 p30 p31 with rfl | rfl
      · k_steps
        refine Stop.of (LCg.CompSrc.range (n := 1) hh (by assumption) (by assumption) (by assumption) (by first | decide | rfl) (by first | rfl | decide) (by first | size_fits | exact Nat.le_of_ble_eq_true rfl) ?_)
        intro g
        refine LCg.CompRest.succ ?_
        rintro v2 Ic2 oIc2 Cc2 oCc2 Dc2 mc2 hc2 tkc2 Ec2 ⟨tv2, rfl⟩ hC2 hx2 Fc2 Nc2 offc2 nec2
        k_steps
        refine use_tree3 (ih d (Nat.lt_succ_self _)) (by first | exact hdv1 | omega) hh (by show A.depth + 1 + _ < _; first | exact dlt (by assumption) (by decide) | exact dm1 (by assumption) (by first | exact Nat.le_refl _ | exact Nat.le_max_left _ _ | exact Nat.le_max_right _ _) (by decide) | exact dm0 (by assumption) (by first | exact Nat.le_refl _ | exact Nat.le_max_left _ _ | exact Nat.le_max_right _ _) (by decide) | exact dlt2 (by assumption) (by decide) | exact dlt1 (by assumption) (by decide) | omega) (by show A.units + 3 + _ < _; first | exact dlt (by assumption) (by decide) | exact dm1 (by assumption) (by first | exact Nat.le_refl _ | exact Nat.le_max_left _ _ | exact Nat.le_max_right _ _) (by decide) | exact dm0 (by assumption) (by first | exact Nat.le_refl _ | exact Nat.le_max_left _ _ | exact Nat.le_max_right _ _) (by decide) | exact dlt2 (by assumption) (by decide) | exact dlt1 (by assumption) (by decide) | omega) X T (by assumption) (by assumption) offc2 hl hns hlen (by repeat (first | exact offc | exact off1 | exact off2 | exact off3 | exact OffB.nil | refine OffB.app ?_ ?_ | refine OffB.cons (by first | exact hb2 | exact hb1 | exact hFb | (show @Ne Nat _ _; dsimp only; first | exact Nat.ne_of_lt ‹_› | exact Nat.ne_of_gt ‹_› | (refine Nat.ne_of_lt (InC.of ‹_ ∧ _› ?_); (repeat (first | exact .hd | exact .last | refine .tl ?_)); done) | (refine Nat.ne_of_gt (InC.of ‹_ ∧ _› ?_); (repeat (first | exact .hd | exact .last | refine .tl ?_)); done) | exact Nat.ne_of_lt (Nat.lt_trans ‹_› ‹_›) | exact Nat.ne_of_gt (Nat.lt_trans ‹_› ‹_›) | omega) | exact off_obj (by assumption) (by k_mem) (by k_mem) (by simp)) ?_)) (by first | (refine Wd.f0 ?_; (repeat (first | exact Wd.z0 | refine Wd.i1 ?_ | refine Wd.s0 ‹_› ?_)); done) | (refine Wd.m0 htn ?_; (repeat (first | exact Wd.z0 | refine Wd.i1 ?_ | refine Wd.s0 ‹_› ?_)); done) | (refine Wd.k0 htn ?_; (repeat (first | exact Wd.z0 | refine Wd.i1 ?_ | refine Wd.s0 ‹_› ?_)); done) | omega) ?_
        intro r2 h2 tk2 turn2 t2 n2 I2 tr2 F2 N2 o32 off2 le2 D2
        try simp only [List.cons_append, List.nil_append, List.append_assoc] at N2 o32
        refine LCg.CompEnd.intro F2 N2 _ (fun _ h => h) o32 trivial ?_
        refine LCg.CompRest.zero ?_
        intro Dz hz tkz Fz Nz oz
        try simp only [List.cons_append, List.nil_append, List.append_assoc] at Nz
        k_steps
        exact hr _ _ _ _ _ _ (.item1 tr1 tr2) _ _ (by assumption) (by assumption) (by k_mem) (by first | (refine Wd.f0 ?_; (repeat (first | exact Wd.z0 | refine Wd.i1 ?_ | refine Wd.s0 ‹_› ?_)); done) | (refine Wd.m0 htn ?_; (repeat (first | exact Wd.z0 | refine Wd.i1 ?_ | refine Wd.s0 ‹_› ?_)); done) | (refine Wd.k0 htn ?_; (repeat (first | exact Wd.z0 | refine Wd.i1 ?_ | refine Wd.s0 ‹_› ?_)); done) | omega) ⟨⟨_, _, _, _, _, rfl, TupS.is (mNB (by k_mem) (by first | exact Nat.ne_of_lt ‹_› | exact Nat.ne_of_gt ‹_› | (refine Nat.ne_of_lt (InC.of ‹_ ∧ _› ?_); (repeat (first | exact .hd | exact .last | refine .tl ?_)); done) | (refine Nat.ne_of_gt (InC.of ‹_ ∧ _› ?_); (repeat (first | exact .hd | exact .last | refine .tl ?_)); done) | exact Nat.ne_of_lt (Nat.lt_trans ‹_› ‹_›) | exact Nat.ne_of_gt (Nat.lt_trans ‹_› ‹_›) | omega | exact off_obj (by assumption) (by k_mem) (by k_mem) (by simp))), TupS.is (mNB (by k_mem) (by first | exact Nat.ne_of_lt ‹_› | exact Nat.ne_of_gt ‹_› | (refine Nat.ne_of_lt (InC.of ‹_ ∧ _› ?_); (repeat (first | exact .hd | exact .last | refine .tl ?_)); done) | (refine Nat.ne_of_gt (InC.of ‹_ ∧ _› ?_); (repeat (first | exact .hd | exact .last | refine .tl ?_)); done) | exact Nat.ne_of_lt (Nat.lt_trans ‹_› ‹_›) | exact Nat.ne_of_gt (Nat.lt_trans ‹_› ‹_›) | omega | exact off_obj (by assumption) (by k_mem) (by k_mem) (by simp))), (D1.tree.mono fun a o h => mNB (by repeat (first | exact h | exact List.mem_append_left _ h | exact List.mem_append_right _ h | refine List.mem_append_right _ ?_ | refine List.Mem.tail _ ?_)) (off1 _ h)), (D2.tree.mono fun a o h => mNB (by repeat (first | exact h | exact List.mem_append_left _ h | exact List.mem_append_right _ h | refine List.mem_append_right _ ?_ | refine List.Mem.tail _ ?_)) (off2 _ h))⟩, ht2d D1.ht D2.ht, by first | exact D1.fine | exact and2 D1.fine D2.fine | exact and3 D1.fine D2.fine D3.fine | simp only [Tr.fine_name, Tr.fine_text, Tr.fine_join, Tr.fine_plus, Tr.fine_alt, Tr.fine_dot, Tr.fine_neg, Tr.fine_quest, Tr.fine_dollar, Tr.fine_tilde, Tr.fine_item1, Tr.fine_item2, Tr.fine_call0, Tr.fine_call1, Tr.fine_call2, D1.fine, D2.fine, Bool.and_self], by first | exact D1.good | exact or2 D1.good | exact and2 D1.good D2.good | exact and3 D1.good D2.good D3.good | simp only [Tr.good_name, Tr.good_text, Tr.good_join, Tr.good_plus, Tr.good_alt, Tr.good_dot, Tr.good_neg, Tr.good_quest, Tr.good_dollar, Tr.good_tilde, Tr.good_item1, Tr.good_item2, Tr.good_call0, Tr.good_call1, Tr.good_call2, D1.good, D2.good, Bool.and_self, Bool.or_true]⟩
      · k_steps
        refine Stop.of (LCg.CompSrc.range (n := 2) hh (by assumption) (by assumption) (by assumption) (by first | decide | rfl) (by first | rfl | decide) (by first | size_fits | exact Nat.le_of_ble_eq_true rfl) ?_)
        intro g
        refine LCg.CompRest.succ ?_
        rintro v2 Ic2 oIc2 Cc2 oCc2 Dc2 mc2 hc2 tkc2 Ec2 ⟨tv2, rfl⟩ hC2 hx2 Fc2 Nc2 offc2 nec2
        k_steps
        refine use_tree3 (ih d (Nat.lt_succ_self _)) (by first | exact hdv1 | omega) hh (by show A.depth + 1 + _ < _; first | exact dlt (by assumption) (by decide) | exact dm1 (by assumption) (by first | exact Nat.le_refl _ | exact Nat.le_max_left _ _ | exact Nat.le_max_right _ _) (by decide) | exact dm0 (by assumption) (by first | exact Nat.le_refl _ | exact Nat.le_max_left _ _ | exact Nat.le_max_right _ _) (by decide) | exact dlt2 (by assumption) (by decide) | exact dlt1 (by assumption) (by decide) | omega) (by show A.units + 3 + _ < _; first | exact dlt (by assumption) (by decide) | exact dm1 (by assumption) (by first | exact Nat.le_refl _ | exact Nat.le_max_left _ _ | exact Nat.le_max_right _ _) (by decide) | exact dm0 (by assumption) (by first | exact Nat.le_refl _ | exact Nat.le_max_left _ _ | exact Nat.le_max_right _ _) (by decide) | exact dlt2 (by assumption) (by decide) | exact dlt1 (by assumption) (by decide) | omega) X T (by assumption) (by assumption) offc2 hl hns hlen (by repeat (first | exact offc | exact off1 | exact off2 | exact off3 | exact OffB.nil | refine OffB.app ?_ ?_ | refine OffB.cons (by first | exact hb2 | exact hb1 | exact hFb | (show @Ne Nat _ _; dsimp only; first | exact Nat.ne_of_lt ‹_› | exact Nat.ne_of_gt ‹_› | (refine Nat.ne_of_lt (InC.of ‹_ ∧ _› ?_); (repeat (first | exact .hd | exact .last | refine .tl ?_)); done) | (refine Nat.ne_of_gt (InC.of ‹_ ∧ _› ?_); (repeat (first | exact .hd | exact .last | refine .tl ?_)); done) | exact Nat.ne_of_lt (Nat.lt_trans ‹_› ‹_›) | exact Nat.ne_of_gt (Nat.lt_trans ‹_› ‹_›) | omega) | exact off_obj (by assumption) (by k_mem) (by k_mem) (by simp)) ?_)) (by first | (refine Wd.f0 ?_; (repeat (first | exact Wd.z0 | refine Wd.i1 ?_ | refine Wd.s0 ‹_› ?_)); done) | (refine Wd.m0 htn ?_; (repeat (first | exact Wd.z0 | refine Wd.i1 ?_ | refine Wd.s0 ‹_› ?_)); done) | (refine Wd.k0 htn ?_; (repeat (first | exact Wd.z0 | refine Wd.i1 ?_ | refine Wd.s0 ‹_› ?_)); done) | omega) ?_
        intro r2 h2 tk2 turn2 t2 n2 I2 tr2 F2 N2 o32 off2 le2 D2
        try simp only [List.cons_append, List.nil_append, List.append_assoc] at N2 o32
        refine LCg.CompEnd.intro F2 N2 _ (fun _ h => h) o32 trivial ?_
        refine LCg.CompRest.succ ?_
        rintro v3 Ic3 oIc3 Cc3 oCc3 Dc3 mc3 hc3 tkc3 Ec3 ⟨tv3, rfl⟩ hC3 hx3 Fc3 Nc3 offc3 nec3
        k_steps
        refine use_tree3 (ih d (Nat.lt_succ_self _)) (by first | exact hdv1 | omega) hh (by show A.depth + 1 + _ < _; first | exact dlt (by assumption) (by decide) | exact dm1 (by assumption) (by first | exact Nat.le_refl _ | exact Nat.le_max_left _ _ | exact Nat.le_max_right _ _) (by decide) | exact dm0 (by assumption) (by first | exact Nat.le_refl _ | exact Nat.le_max_left _ _ | exact Nat.le_max_right _ _) (by decide) | exact dlt2 (by assumption) (by decide) | exact dlt1 (by assumption) (by decide) | omega) (by show A.units + 3 + _ < _; first | exact dlt (by assumption) (by decide) | exact dm1 (by assumption) (by first | exact Nat.le_refl _ | exact Nat.le_max_left _ _ | exact Nat.le_max_right _ _) (by decide) | exact dm0 (by assumption) (by first | exact Nat.le_refl _ | exact Nat.le_max_left _ _ | exact Nat.le_max_right _ _) (by decide) | exact dlt2 (by assumption) (by decide) | exact dlt1 (by assumption) (by decide) | omega) X T (by assumption) (by assumption) offc3 hl hns hlen (by repeat (first | exact offc | exact off1 | exact off2 | exact off3 | exact OffB.nil | refine OffB.app ?_ ?_ | refine OffB.cons (by first | exact hb2 | exact hb1 | exact hFb | (show @Ne Nat _ _; dsimp only; first | exact Nat.ne_of_lt ‹_› | exact Nat.ne_of_gt ‹_› | (refine Nat.ne_of_lt (InC.of ‹_ ∧ _› ?_); (repeat (first | exact .hd | exact .last | refine .tl ?_)); done) | (refine Nat.ne_of_gt (InC.of ‹_ ∧ _› ?_); (repeat (first | exact .hd | exact .last | refine .tl ?_)); done) | exact Nat.ne_of_lt (Nat.lt_trans ‹_› ‹_›) | exact Nat.ne_of_gt (Nat.lt_trans ‹_› ‹_›) | omega) | exact off_obj (by assumption) (by k_mem) (by k_mem) (by simp)) ?_)) (by first | (refine Wd.f0 ?_; (repeat (first | exact Wd.z0 | refine Wd.i1 ?_ | refine Wd.s0 ‹_› ?_)); done) | (refine Wd.m0 htn ?_; (repeat (first | exact Wd.z0 | refine Wd.i1 ?_ | refine Wd.s0 ‹_› ?_)); done) | (refine Wd.k0 htn ?_; (repeat (first | exact Wd.z0 | refine Wd.i1 ?_ | refine Wd.s0 ‹_› ?_)); done) | omega) ?_
        intro r3 h3 tk3 turn3 t3 n3 I3 tr3 F3 N3 o33 off3 le3 D3
        try simp only [List.cons_append, List.nil_append, List.append_assoc] at N3 o33
        refine LCg.CompEnd.intro F3 N3 _ (fun _ h => h) o33 trivial ?_
        refine LCg.CompRest.zero ?_
        intro Dz hz tkz Fz Nz oz
        try simp only [List.cons_append, List.nil_append, List.append_assoc] at Nz
        k_steps
        exact hr _ _ _ _ _ _ (.item2 tr1 tr2 tr3) _ _ (by assumption) (by assumption) (by k_mem) (by first | (refine Wd.f0 ?_; (repeat (first | exact Wd.z0 | refine Wd.i1 ?_ | refine Wd.s0 ‹_› ?_)); done) | (refine Wd.m0 htn ?_; (repeat (first | exact Wd.z0 | refine Wd.i1 ?_ | refine Wd.s0 ‹_› ?_)); done) | (refine Wd.k0 htn ?_; (repeat (first | exact Wd.z0 | refine Wd.i1 ?_ | refine Wd.s0 ‹_› ?_)); done) | omega) ⟨⟨_, _, _, _, _, _, rfl, TupS.is (mNB (by k_mem) (by first | exact Nat.ne_of_lt ‹_› | exact Nat.ne_of_gt ‹_› | (refine Nat.ne_of_lt (InC.of ‹_ ∧ _› ?_); (repeat (first | exact .hd | exact .last | refine .tl ?_)); done) | (refine Nat.ne_of_gt (InC.of ‹_ ∧ _› ?_); (repeat (first | exact .hd | exact .last | refine .tl ?_)); done) | exact Nat.ne_of_lt (Nat.lt_trans ‹_› ‹_›) | exact Nat.ne_of_gt (Nat.lt_trans ‹_› ‹_›) | omega | exact off_obj (by assumption) (by k_mem) (by k_mem) (by simp))), TupS.is (mNB (by k_mem) (by first | exact Nat.ne_of_lt ‹_› | exact Nat.ne_of_gt ‹_› | (refine Nat.ne_of_lt (InC.of ‹_ ∧ _› ?_); (repeat (first | exact .hd | exact .last | refine .tl ?_)); done) | (refine Nat.ne_of_gt (InC.of ‹_ ∧ _› ?_); (repeat (first | exact .hd | exact .last | refine .tl ?_)); done) | exact Nat.ne_of_lt (Nat.lt_trans ‹_› ‹_›) | exact Nat.ne_of_gt (Nat.lt_trans ‹_› ‹_›) | omega | exact off_obj (by assumption) (by k_mem) (by k_mem) (by simp))), (D1.tree.mono fun a o h => mNB (by repeat (first | exact h | exact List.mem_append_left _ h | exact List.mem_append_right _ h | refine List.mem_append_right _ ?_ | refine List.Mem.tail _ ?_)) (off1 _ h)), (D2.tree.mono fun a o h => mNB (by repeat (first | exact h | exact List.mem_append_left _ h | exact List.mem_append_right _ h | refine List.mem_append_right _ ?_ | refine List.Mem.tail _ ?_)) (off2 _ h)), (D3.tree.mono fun a o h => mNB (by repeat (first | exact h | exact List.mem_append_left _ h | exact List.mem_append_right _ h | refine List.mem_append_right _ ?_ | refine List.Mem.tail _ ?_)) (off3 _ h))⟩, by first | exact Nat.zero_le _ | exact Nat.le_refl 0 | exact Nat.succ_le_succ (Nat.zero_le _) | exact ht3d D1.ht D2.ht D3.ht | (simp only [Tr.ht_name, Tr.ht_text, Tr.ht_join, Tr.ht_plus, Tr.ht_alt, Tr.ht_dot, Tr.ht_neg, Tr.ht_quest, Tr.ht_dollar, Tr.ht_tilde, Tr.ht_item1, Tr.ht_item2, Tr.ht_call0, Tr.ht_call1, Tr.ht_call2]; have := D1.ht; have := D2.ht; have := D3.ht; omega), by first | exact D1.fine | exact and2 D1.fine D2.fine | exact and3 D1.fine D2.fine D3.fine | simp only [Tr.fine_name, Tr.fine_text, Tr.fine_join, Tr.fine_plus, Tr.fine_alt, Tr.fine_dot, Tr.fine_neg, Tr.fine_quest, Tr.fine_dollar, Tr.fine_tilde, Tr.fine_item1, Tr.fine_item2, Tr.fine_call0, Tr.fine_call1, Tr.fine_call2, D1.fine, D2.fine, D3.fine, Bool.and_self], by first | exact D1.good | exact or2 D1.good | exact and2 D1.good D2.good | exact and3 D1.good D2.good D3.good | simp only [Tr.good_name, Tr.good_text, Tr.good_join, Tr.good_plus, Tr.good_alt, Tr.good_dot, Tr.good_neg, Tr.good_quest, Tr.good_dollar, Tr.good_tilde, Tr.good_item1, Tr.good_item2, Tr.good_call0, Tr.good_call1, Tr.good_call2, D1.good, D2.good, D3.good, Bool.and_self, Bool.or_true]⟩
    · k_steps
      refine use_pull0 hh (by show A.depth + 1 + _ < _; first | exact dlt (by assumption) (by decide) | exact dm1 (by assumption) (by first | exact Nat.le_refl _ | exact Nat.le_max_left _ _ | exact Nat.le_max_right _ _) (by decide) | exact dm0 (by assumption) (by first | exact Nat.le_refl _ | exact Nat.le_max_left _ _ | exact Nat.le_max_right _ _) (by decide) | exact dlt2 (by assumption) (by decide) | exact dlt1 (by assumption) (by decide) | omega) (by show A.units + 3 + _ < _; first | exact dlt (by assumption) (by decide) | exact dm1 (by assumption) (by first | exact Nat.le_refl _ | exact Nat.le_max_left _ _ | exact Nat.le_max_right _ _) (by decide) | exact dm0 (by assumption) (by first | exact Nat.le_refl _ | exact Nat.le_max_left _ _ | exact Nat.le_max_right _ _) (by decide) | exact dlt2 (by assumption) (by decide) | exact dlt1 (by assumption) (by decide) | omega) X T (by assumption) (by assumption) hl hns hlen (by repeat (first | exact offc | exact off1 | exact off2 | exact off3 | exact OffB.nil | refine OffB.app ?_ ?_ | refine OffB.cons (by first | exact hb2 | exact hb1 | exact hFb | (show @Ne Nat _ _; dsimp only; first | exact Nat.ne_of_lt ‹_› | exact Nat.ne_of_gt ‹_› | (refine Nat.ne_of_lt (InC.of ‹_ ∧ _› ?_); (repeat (first | exact .hd | exact .last | refine .tl ?_)); done) | (refine Nat.ne_of_gt (InC.of ‹_ ∧ _› ?_); (repeat (first | exact .hd | exact .last | refine .tl ?_)); done) | exact Nat.ne_of_lt (Nat.lt_trans ‹_› ‹_›) | exact Nat.ne_of_gt (Nat.lt_trans ‹_› ‹_›) | omega) | exact off_obj (by assumption) (by k_mem) (by k_mem) (by simp)) ?_)) (by first | (refine Wd.f0 ?_; (repeat (first | exact Wd.z0 | refine Wd.i1 ?_ | refine Wd.s0 ‹_› ?_)); done) | (refine Wd.m0 htn ?_; (repeat (first | exact Wd.z0 | refine Wd.i1 ?_ | refine Wd.s0 ‹_› ?_)); done) | (refine Wd.k0 htn ?_; (repeat (first | exact Wd.z0 | refine Wd.i1 ?_ | refine Wd.s0 ‹_› ?_)); done) | omega) (by decide) (by decide) ?_
      intro p3 pt3 hp3 tkp3 tp3 np3 Fp3 Np3 p30 p31
      rcases upto3 p30 p31 with rfl | rfl | rfl
      · k_steps
        refine Stop.of (LCg.CompSrc.range (n := 0) hh (by assumption) (by assumption) (by assumption) (by first | decide | rfl) (by first | rfl | decide) (by first | size_fits | exact Nat.le_of_ble_eq_true rfl) ?_)
        intro g
        refine LCg.CompRest.zero ?_
        intro Dz hz tkz Fz Nz oz
        try simp only [List.cons_append, List.nil_append, List.append_assoc] at Nz
        k_steps
        exact hr _ _ _ _ _ _ (.call0) _ _ (by assumption) (by assumption) (by k_mem) (by first | (refine Wd.f0 ?_; (repeat (first | exact Wd.z0 | refine Wd.i1 ?_ | refine Wd.s0 ‹_› ?_)); done) | (refine Wd.m0 htn ?_; (repeat (first | exact Wd.z0 | refine Wd.i1 ?_ | refine Wd.s0 ‹_› ?_)); done) | (refine Wd.k0 htn ?_; (repeat (first | exact Wd.z0 | refine Wd.i1 ?_ | refine Wd.s0 ‹_› ?_)); done) | omega) ⟨⟨_, _, _, _, rfl, TupS.is (mNB (by k_mem) (by first | exact Nat.ne_of_lt ‹_› | exact Nat.ne_of_gt ‹_› | (refine Nat.ne_of_lt (InC.of ‹_ ∧ _› ?_); (repeat (first | exact .hd | exact .last | refine .tl ?_)); done) | (refine Nat.ne_of_gt (InC.of ‹_ ∧ _› ?_); (repeat (first | exact .hd | exact .last | refine .tl ?_)); done) | exact Nat.ne_of_lt (Nat.lt_trans ‹_› ‹_›) | exact Nat.ne_of_gt (Nat.lt_trans ‹_› ‹_›) | omega | exact off_obj (by assumption) (by k_mem) (by k_mem) (by simp))), TupS.is (mNB (by k_mem) (by first | exact Nat.ne_of_lt ‹_› | exact Nat.ne_of_gt ‹_› | (refine Nat.ne_of_lt (InC.of ‹_ ∧ _› ?_); (repeat (first | exact .hd | exact .last | refine .tl ?_)); done) | (refine Nat.ne_of_gt (InC.of ‹_ ∧ _› ?_); (repeat (first | exact .hd | exact .last | refine .tl ?_)); done) | exact Nat.ne_of_lt (Nat.lt_trans ‹_› ‹_›) | exact Nat.ne_of_gt (Nat.lt_trans ‹_› ‹_›) | omega | exact off_obj (by assumption) (by k_mem) (by k_mem) (by simp)))⟩, by first | exact Nat.zero_le _ | exact Nat.le_refl 0 | exact Nat.succ_le_succ (Nat.zero_le _) | exact ht3d D1.ht D2.ht D3.ht | (simp only [Tr.ht_name, Tr.ht_text, Tr.ht_join, Tr.ht_plus, Tr.ht_alt, Tr.ht_dot, Tr.ht_neg, Tr.ht_quest, Tr.ht_dollar, Tr.ht_tilde, Tr.ht_item1, Tr.ht_item2, Tr.ht_call0, Tr.ht_call1, Tr.ht_call2]; omega), by kernel_rfl!, by kernel_rfl!⟩
      · k_steps
        refine Stop.of (LCg.CompSrc.range (n := 1) hh (by assumption) (by assumption) (by assumption) (by first | decide | rfl) (by first | rfl | decide) (by first | size_fits | exact Nat.le_of_ble_eq_true rfl) ?_)
        intro g
        refine LCg.CompRest.succ ?_
        rintro v1 Ic1 oIc1 Cc1 oCc1 Dc1 mc1 hc1 tkc1 Ec1 ⟨tv1, rfl⟩ hC1 hx1 Fc1 Nc1 offc1 nec1
        k_steps
        refine use_tree3 (ih d (Nat.lt_succ_self _)) (by first | exact hdv1 | omega) hh (by show A.depth + 1 + _ < _; first | exact dlt (by assumption) (by decide) | exact dm1 (by assumption) (by first | exact Nat.le_refl _ | exact Nat.le_max_left _ _ | exact Nat.le_max_right _ _) (by decide) | exact dm0 (by assumption) (by first | exact Nat.le_refl _ | exact Nat.le_max_left _ _ | exact Nat.le_max_right _ _) (by decide) | exact dlt2 (by assumption) (by decide) | exact dlt1 (by assumption) (by decide) | omega) (by show A.units + 3 + _ < _; first | exact dlt (by assumption) (by decide) | exact dm1 (by assumption) (by first | exact Nat.le_refl _ | exact Nat.le_max_left _ _ | exact Nat.le_max_right _ _) (by decide) | exact dm0 (by assumption) (by first | exact Nat.le_refl _ | exact Nat.le_max_left _ _ | exact Nat.le_max_right _ _) (by decide) | exact dlt2 (by assumption) (by decide) | exact dlt1 (by assumption) (by decide) | omega) X T (by assumption) (by assumption) offc1 hl hns hlen (by repeat (first | exact offc | exact off1 | exact off2 | exact off3 | exact OffB.nil | refine OffB.app ?_ ?_ | refine OffB.cons (by first | exact hb2 | exact hb1 | exact hFb | (show @Ne Nat _ _; dsimp only; first | exact Nat.ne_of_lt ‹_› | exact Nat.ne_of_gt ‹_› | (refine Nat.ne_of_lt (InC.of ‹_ ∧ _› ?_); (repeat (first | exact .hd | exact .last | refine .tl ?_)); done) | (refine Nat.ne_of_gt (InC.of ‹_ ∧ _› ?_); (repeat (first | exact .hd | exact .last | refine .tl ?_)); done) | exact Nat.ne_of_lt (Nat.lt_trans ‹_› ‹_›) | exact Nat.ne_of_gt (Nat.lt_trans ‹_› ‹_›) | omega) | exact off_obj (by assumption) (by k_mem) (by k_mem) (by simp)) ?_)) (by first | (refine Wd.f0 ?_; (repeat (first | exact Wd.z0 | refine Wd.i1 ?_ | refine Wd.s0 ‹_› ?_)); done) | (refine Wd.m0 htn ?_; (repeat (first | exact Wd.z0 | refine Wd.i1 ?_ | refine Wd.s0 ‹_› ?_)); done) | (refine Wd.k0 htn ?_; (repeat (first | exact Wd.z0 | refine Wd.i1 ?_ | refine Wd.s0 ‹_› ?_)); done) | omega) ?_
        intro r1 h1 tk1 turn1 t1 n1 I1 tr1 F1 N1 o31 off1 le1 D1
        try simp only [List.cons_append, List.nil_append, List.append_assoc] at N1 o31
        refine LCg.CompEnd.intro F1 N1 _ (fun _ h => h) o31 trivial ?_
        refine LCg.CompRest.zero ?_
        intro Dz hz tkz Fz Nz oz
        try simp only [List.cons_append, List.nil_append, List.append_assoc] at Nz
        k_steps
        exact hr _ _ _ _ _ _ (.call1 tr1) _ _ (by assumption) (by assumption) (by k_mem) (by first | (refine Wd.f0 ?_; (repeat (first | exact Wd.z0 | refine Wd.i1 ?_ | refine Wd.s0 ‹_› ?_)); done) | (refine Wd.m0 htn ?_; (repeat (first | exact Wd.z0 | refine Wd.i1 ?_ | refine Wd.s0 ‹_› ?_)); done) | (refine Wd.k0 htn ?_; (repeat (first | exact Wd.z0 | refine Wd.i1 ?_ | refine Wd.s0 ‹_› ?_)); done) | omega) ⟨⟨_, _, _, _, _, rfl, TupS.is (mNB (by k_mem) (by first | exact Nat.ne_of_lt ‹_› | exact Nat.ne_of_gt ‹_› | (refine Nat.ne_of_lt (InC.of ‹_ ∧ _› ?_); (repeat (first | exact .hd | exact .last | refine .tl ?_)); done) | (refine Nat.ne_of_gt (InC.of ‹_ ∧ _› ?_); (repeat (first | exact .hd | exact .last | refine .tl ?_)); done) | exact Nat.ne_of_lt (Nat.lt_trans ‹_› ‹_›) | exact Nat.ne_of_gt (Nat.lt_trans ‹_› ‹_›) | omega | exact off_obj (by assumption) (by k_mem) (by k_mem) (by simp))), TupS.is (mNB (by k_mem) (by first | exact Nat.ne_of_lt ‹_› | exact Nat.ne_of_gt ‹_› | (refine Nat.ne_of_lt (InC.of ‹_ ∧ _› ?_); (repeat (first | exact .hd | exact .last | refine .tl ?_)); done) | (refine Nat.ne_of_gt (InC.of ‹_ ∧ _› ?_); (repeat (first | exact .hd | exact .last | refine .tl ?_)); done) | exact Nat.ne_of_lt (Nat.lt_trans ‹_› ‹_›) | exact Nat.ne_of_gt (Nat.lt_trans ‹_› ‹_›) | omega | exact off_obj (by assumption) (by k_mem) (by k_mem) (by simp))), (D1.tree.mono fun a o h => mNB (by repeat (first | exact h | exact List.mem_append_left _ h | exact List.mem_append_right _ h | refine List.mem_append_right _ ?_ | refine List.Mem.tail _ ?_)) (off1 _ h))⟩, Nat.succ_le_succ D1.ht, by first | exact D1.fine | exact and2 D1.fine D2.fine | exact and3 D1.fine D2.fine D3.fine | simp only [Tr.fine_name, Tr.fine_text, Tr.fine_join, Tr.fine_plus, Tr.fine_alt, Tr.fine_dot, Tr.fine_neg, Tr.fine_quest, Tr.fine_dollar, Tr.fine_tilde, Tr.fine_item1, Tr.fine_item2, Tr.fine_call0, Tr.fine_call1, Tr.fine_call2, D1.fine, Bool.and_self], by first | exact D1.good | exact or2 D1.good | exact and2 D1.good D2.good | exact and3 D1.good D2.good D3.good | simp only [Tr.good_name, Tr.good_text, Tr.good_join, Tr.good_plus, Tr.good_alt, Tr.good_dot, Tr.good_neg, Tr.good_quest, Tr.good_dollar, Tr.good_tilde, Tr.good_item1, Tr.good_item2, Tr.good_call0, Tr.good_call1, Tr.good_call2, D1.good, Bool.and_self, Bool.or_true]⟩
      · k_steps
        refine Stop.of (LCg.CompSrc.range (n := 2) hh (by assumption) (by assumption) (by assumption) (by first | decide | rfl) (by first | rfl | decide) (by first | size_fits | exact Nat.le_of_ble_eq_true rfl) ?_)
        intro g
        refine LCg.CompRest.succ ?_
        rintro v1 Ic1 oIc1 Cc1 oCc1 Dc1 mc1 hc1 tkc1 Ec1 ⟨tv1, rfl⟩ hC1 hx1 Fc1 Nc1 offc1 nec1
        k_steps
        refine use_tree3 (ih d (Nat.lt_succ_self _)) (by first | exact hdv1 | omega) hh (by show A.depth + 1 + _ < _; first | exact dlt (by assumption) (by decide) | exact dm1 (by assumption) (by first | exact Nat.le_refl _ | exact Nat.le_max_left _ _ | exact Nat.le_max_right _ _) (by decide) | exact dm0 (by assumption) (by first | exact Nat.le_refl _ | exact Nat.le_max_left _ _ | exact Nat.le_max_right _ _) (by decide) | exact dlt2 (by assumption) (by decide) | exact dlt1 (by assumption) (by decide) | omega) (by show A.units + 3 + _ < _; first | exact dlt (by assumption) (by decide) | exact dm1 (by assumption) (by first | exact Nat.le_refl _ | exact Nat.le_max_left _ _ | exact Nat.le_max_right _ _) (by decide) | exact dm0 (by assumption) (by first | exact Nat.le_refl _ | exact Nat.le_max_left _ _ | exact Nat.le_max_right _ _) (by decide) | exact dlt2 (by assumption) (by decide) | exact dlt1 (by assumption) (by decide) | omega) X T (by assumption) (by assumption) offc1 hl hns hlen (by repeat (first | exact offc | exact off1 | exact off2 | exact off3 | exact OffB.nil | refine OffB.app ?_ ?_ | refine OffB.cons (by first | exact hb2 | exact hb1 | exact hFb | (show @Ne Nat _ _; dsimp only; first | exact Nat.ne_of_lt ‹_› | exact Nat.ne_of_gt ‹_› | (refine Nat.ne_of_lt (InC.of ‹_ ∧ _› ?_); (repeat (first | exact .hd | exact .last | refine .tl ?_)); done) | (refine Nat.ne_of_gt (InC.of ‹_ ∧ _› ?_); (repeat (first | exact .hd | exact .last | refine .tl ?_)); done) | exact Nat.ne_of_lt (Nat.lt_trans ‹_› ‹_›) | exact Nat.ne_of_gt (Nat.lt_trans ‹_› ‹_›) | omega) | exact off_obj (by assumption) (by k_mem) (by k_mem) (by simp)) ?_)) (by first | (refine Wd.f0 ?_; (repeat (first | exact Wd.z0 | refine Wd.i1 ?_ | refine Wd.s0 ‹_› ?_)); done) | (refine Wd.m0 htn ?_; (repeat (first | exact Wd.z0 | refine Wd.i1 ?_ | refine Wd.s0 ‹_› ?_)); done) | (refine Wd.k0 htn ?_; (repeat (first | exact Wd.z0 | refine Wd.i1 ?_ | refine Wd.s0 ‹_› ?_)); done) | omega) ?_
        intro r1 h1 tk1 turn1 t1 n1 I1 tr1 F1 N1 o31 off1 le1 D1
        try simp only [List.cons_append, List.nil_append, List.append_assoc] at N1 o31
        refine LCg.CompEnd.intro F1 N1 _ (fun _ h => h) o31 trivial ?_
        refine LCg.CompRest.succ ?_
        rintro v2 Ic2 oIc2 Cc2 oCc2 Dc2 mc2 hc2 tkc2 Ec2 ⟨tv2, rfl⟩ hC2 hx2 Fc2 Nc2 offc2 nec2
        k_steps
        refine use_tree3 (ih d (Nat.lt_succ_self _)) (by first | exact hdv1 | omega) hh (by show A.depth + 1 + _ < _; first | exact dlt (by assumption) (by decide) | exact dm1 (by assumption) (by first | exact Nat.le_refl _ | exact Nat.le_max_left _ _ | exact Nat.le_max_right _ _) (by decide) | exact dm0 (by assumption) (by first | exact Nat.le_refl _ | exact Nat.le_max_left _ _ | exact Nat.le_max_right _ _) (by decide) | exact dlt2 (by assumption) (by decide) | exact dlt1 (by assumption) (by decide) | omega) (by show A.units + 3 + _ < _; first | exact dlt (by assumption) (by decide) | exact dm1 (by assumption) (by first | exact Nat.le_refl _ | exact Nat.le_max_left _ _ | exact Nat.le_max_right _ _) (by decide) | exact dm0 (by assumption) (by first | exact Nat.le_refl _ | exact Nat.le_max_left _ _ | exact Nat.le_max_right _ _) (by decide) | exact dlt2 (by assumption) (by decide) | exact dlt1 (by assumption) (by decide) | omega) X T (by assumption) (by assumption) offc2 hl hns hlen (by repeat (first | exact offc | exact off1 | exact off2 | exact off3 | exact OffB.nil | refine OffB.app ?_ ?_ | refine OffB.cons (by first | exact hb2 | exact hb1 | exact hFb | (show @Ne Nat _ _; dsimp only; first | exact Nat.ne_of_lt ‹_› | exact Nat.ne_of_gt ‹_› | (refine Nat.ne_of_lt (InC.of ‹_ ∧ _› ?_); (repeat (first | exact .hd | exact .last | refine .tl ?_)); done) | (refine Nat.ne_of_gt (InC.of ‹_ ∧ _› ?_); (repeat (first | exact .hd | exact .last | refine .tl ?_)); done) | exact Nat.ne_of_lt (Nat.lt_trans ‹_› ‹_›) | exact Nat.ne_of_gt (Nat.lt_trans ‹_› ‹_›) | omega) | exact off_obj (by assumption) (by k_mem) (by k_mem) (by simp)) ?_)) (by first | (refine Wd.f0 ?_; (repeat (first | exact Wd.z0 | refine Wd.i1 ?_ | refine Wd.s0 ‹_› ?_)); done) | (refine Wd.m0 htn ?_; (repeat (first | exact Wd.z0 | refine Wd.i1 ?_ | refine Wd.s0 ‹_› ?_)); done) | (refine Wd.k0 htn ?_; (repeat (first | exact Wd.z0 | refine Wd.i1 ?_ | refine Wd.s0 ‹_› ?_)); done) | omega) ?_
        intro r2 h2 tk2 turn2 t2 n2 I2 tr2 F2 N2 o32 off2 le2 D2
        try simp only [List.cons_append, List.nil_append, List.append_assoc] at N2 o32
        refine LCg.CompEnd.intro F2 N2 _ (fun _ h => h) o32 trivial ?_
        refine LCg.CompRest.zero ?_
        intro Dz hz tkz Fz Nz oz
        try simp only [List.cons_append, List.nil_append, List.append_assoc] at Nz
        k_steps
        exact hr _ _ _ _ _ _ (.call2 tr1 tr2) _ _ (by assumption) (by assumption) (by k_mem) (by first | (refine Wd.f0 ?_; (repeat (first | exact Wd.z0 | refine Wd.i1 ?_ | refine Wd.s0 ‹_› ?_)); done) | (refine Wd.m0 htn ?_; (repeat (first | exact Wd.z0 | refine Wd.i1 ?_ | refine Wd.s0 ‹_› ?_)); done) | (refine Wd.k0 htn ?_; (repeat (first | exact Wd.z0 | refine Wd.i1 ?_ | refine Wd.s0 ‹_› ?_)); done) | omega) ⟨⟨_, _, _, _, _, _, rfl, TupS.is (mNB (by k_mem) (by first | exact Nat.ne_of_lt ‹_› | exact Nat.ne_of_gt ‹_› | (refine Nat.ne_of_lt (InC.of ‹_ ∧ _› ?_); (repeat (first | exact .hd | exact .last | refine .tl ?_)); done) | (refine Nat.ne_of_gt (InC.of ‹_ ∧ _› ?_); (repeat (first | exact .hd | exact .last | refine .tl ?_)); done) | exact Nat.ne_of_lt (Nat.lt_trans ‹_› ‹_›) | exact Nat.ne_of_gt (Nat.lt_trans ‹_› ‹_›) | omega | exact off_obj (by assumption) (by k_mem) (by k_mem) (by simp))), TupS.is (mNB (by k_mem) (by first | exact Nat.ne_of_lt ‹_› | exact Nat.ne_of_gt ‹_› | (refine Nat.ne_of_lt (InC.of ‹_ ∧ _› ?_); (repeat (first | exact .hd | exact .last | refine .tl ?_)); done) | (refine Nat.ne_of_gt (InC.of ‹_ ∧ _› ?_); (repeat (first | exact .hd | exact .last | refine .tl ?_)); done) | exact Nat.ne_of_lt (Nat.lt_trans ‹_› ‹_›) | exact Nat.ne_of_gt (Nat.lt_trans ‹_› ‹_›) | omega | exact off_obj (by assumption) (by k_mem) (by k_mem) (by simp))), (D1.tree.mono fun a o h => mNB (by repeat (first | exact h | exact List.mem_append_left _ h | exact List.mem_append_right _ h | refine List.mem_append_right _ ?_ | refine List.Mem.tail _ ?_)) (off1 _ h)), (D2.tree.mono fun a o h => mNB (by repeat (first | exact h | exact List.mem_append_left _ h | exact List.mem_append_right _ h | refine List.mem_append_right _ ?_ | refine List.Mem.tail _ ?_)) (off2 _ h))⟩, ht2d D1.ht D2.ht, by first | exact D1.fine | exact and2 D1.fine D2.fine | exact and3 D1.fine D2.fine D3.fine | simp only [Tr.fine_name, Tr.fine_text, Tr.fine_join, Tr.fine_plus, Tr.fine_alt, Tr.fine_dot, Tr.fine_neg, Tr.fine_quest, Tr.fine_dollar, Tr.fine_tilde, Tr.fine_item1, Tr.fine_item2, Tr.fine_call0, Tr.fine_call1, Tr.fine_call2, D1.fine, D2.fine, Bool.and_self], by first | exact D1.good | exact or2 D1.good | exact and2 D1.good D2.good | exact and3 D1.good D2.good D3.good | simp only [Tr.good_name, Tr.good_text, Tr.good_join, Tr.good_plus, Tr.good_alt, Tr.good_dot, Tr.good_neg, Tr.good_quest, Tr.good_dollar, Tr.good_tilde, Tr.good_item1, Tr.good_item2, Tr.good_call0, Tr.good_call1, Tr.good_call2, D1.good, D2.good, Bool.and_self, Bool.or_true]⟩
    · k_steps
      exact hr _ _ _ _ _ _ (.tilde (.name (ss "F"))) _ _ (by assumption) (by assumption) (by k_mem) (by first | (refine Wd.f0 ?_; (repeat (first | exact Wd.z0 | refine Wd.i1 ?_ | refine Wd.s0 ‹_› ?_)); done) | (refine Wd.m0 htn ?_; (repeat (first | exact Wd.z0 | refine Wd.i1 ?_ | refine Wd.s0 ‹_› ?_)); done) | (refine Wd.k0 htn ?_; (repeat (first | exact Wd.z0 | refine Wd.i1 ?_ | refine Wd.s0 ‹_› ?_)); done) | omega) ⟨⟨_, _, _, _, rfl, TupS.is (mNB (by k_mem) (by first | exact Nat.ne_of_lt ‹_› | exact Nat.ne_of_gt ‹_› | (refine Nat.ne_of_lt (InC.of ‹_ ∧ _› ?_); (repeat (first | exact .hd | exact .last | refine .tl ?_)); done) | (refine Nat.ne_of_gt (InC.of ‹_ ∧ _› ?_); (repeat (first | exact .hd | exact .last | refine .tl ?_)); done) | exact Nat.ne_of_lt (Nat.lt_trans ‹_› ‹_›) | exact Nat.ne_of_gt (Nat.lt_trans ‹_› ‹_›) | omega | exact off_obj (by assumption) (by k_mem) (by k_mem) (by simp))), ⟨_, _, _, rfl, TupS.is (mNB (by k_mem) (by first | exact Nat.ne_of_lt ‹_› | exact Nat.ne_of_gt ‹_› | (refine Nat.ne_of_lt (InC.of ‹_ ∧ _› ?_); (repeat (first | exact .hd | exact .last | refine .tl ?_)); done) | (refine Nat.ne_of_gt (InC.of ‹_ ∧ _› ?_); (repeat (first | exact .hd | exact .last | refine .tl ?_)); done) | exact Nat.ne_of_lt (Nat.lt_trans ‹_› ‹_›) | exact Nat.ne_of_gt (Nat.lt_trans ‹_› ‹_›) | omega | exact off_obj (by assumption) (by k_mem) (by k_mem) (by simp)))⟩⟩, by first | exact Nat.zero_le _ | exact Nat.le_refl 0 | exact Nat.succ_le_succ (Nat.zero_le _) | exact ht3d D1.ht D2.ht D3.ht | (simp only [Tr.ht_name, Tr.ht_text, Tr.ht_join, Tr.ht_plus, Tr.ht_alt, Tr.ht_dot, Tr.ht_neg, Tr.ht_quest, Tr.ht_dollar, Tr.ht_tilde, Tr.ht_item1, Tr.ht_item2, Tr.ht_call0, Tr.ht_call1, Tr.ht_call2]; omega), by kernel_rfl!, by kernel_rfl!⟩
    · k_steps
      refine use_tree0 (ih d (Nat.lt_succ_self _)) (by first | exact hdv1 | omega) hh (by show A.depth + 1 + _ < _; first | exact dlt (by assumption) (by decide) | exact dm1 (by assumption) (by first | exact Nat.le_refl _ | exact Nat.le_max_left _ _ | exact Nat.le_max_right _ _) (by decide) | exact dm0 (by assumption) (by first | exact Nat.le_refl _ | exact Nat.le_max_left _ _ | exact Nat.le_max_right _ _) (by decide) | exact dlt2 (by assumption) (by decide) | exact dlt1 (by assumption) (by decide) | omega) (by show A.units + 3 + _ < _; first | exact dlt (by assumption) (by decide) | exact dm1 (by assumption) (by first | exact Nat.le_refl _ | exact Nat.le_max_left _ _ | exact Nat.le_max_right _ _) (by decide) | exact dm0 (by assumption) (by first | exact Nat.le_refl _ | exact Nat.le_max_left _ _ | exact Nat.le_max_right _ _) (by decide) | exact dlt2 (by assumption) (by decide) | exact dlt1 (by assumption) (by decide) | omega) X T (by assumption) (by assumption) hl hns hlen (by repeat (first | exact offc | exact off1 | exact off2 | exact off3 | exact OffB.nil | refine OffB.app ?_ ?_ | refine OffB.cons (by first | exact hb2 | exact hb1 | exact hFb | (show @Ne Nat _ _; dsimp only; first | exact Nat.ne_of_lt ‹_› | exact Nat.ne_of_gt ‹_› | (refine Nat.ne_of_lt (InC.of ‹_ ∧ _› ?_); (repeat (first | exact .hd | exact .last | refine .tl ?_)); done) | (refine Nat.ne_of_gt (InC.of ‹_ ∧ _› ?_); (repeat (first | exact .hd | exact .last | refine .tl ?_)); done) | exact Nat.ne_of_lt (Nat.lt_trans ‹_› ‹_›) | exact Nat.ne_of_gt (Nat.lt_trans ‹_› ‹_›) | omega) | exact off_obj (by assumption) (by k_mem) (by k_mem) (by simp)) ?_)) (by first | (refine Wd.f0 ?_; (repeat (first | exact Wd.z0 | refine Wd.i1 ?_ | refine Wd.s0 ‹_› ?_)); done) | (refine Wd.m0 htn ?_; (repeat (first | exact Wd.z0 | refine Wd.i1 ?_ | refine Wd.s0 ‹_› ?_)); done) | (refine Wd.k0 htn ?_; (repeat (first | exact Wd.z0 | refine Wd.i1 ?_ | refine Wd.s0 ‹_› ?_)); done) | omega) ?_
      intro r1 h1 tk1 turn1 t1 n1 I1 tr1 F1 N1 off1 le1 D1
      try simp only [List.cons_append, List.nil_append, List.append_assoc] at N1
      k_steps
      exact hr _ _ _ _ _ _ (.tilde tr1) _ _ (by assumption) (by assumption) (by k_mem) (by first | (refine Wd.f0 ?_; (repeat (first | exact Wd.z0 | refine Wd.i1 ?_ | refine Wd.s0 ‹_› ?_)); done) | (refine Wd.m0 htn ?_; (repeat (first | exact Wd.z0 | refine Wd.i1 ?_ | refine Wd.s0 ‹_› ?_)); done) | (refine Wd.k0 htn ?_; (repeat (first | exact Wd.z0 | refine Wd.i1 ?_ | refine Wd.s0 ‹_› ?_)); done) | omega) ⟨⟨_, _, _, _, rfl, TupS.is (mNB (by k_mem) (by first | exact Nat.ne_of_lt ‹_› | exact Nat.ne_of_gt ‹_› | (refine Nat.ne_of_lt (InC.of ‹_ ∧ _› ?_); (repeat (first | exact .hd | exact .last | refine .tl ?_)); done) | (refine Nat.ne_of_gt (InC.of ‹_ ∧ _› ?_); (repeat (first | exact .hd | exact .last | refine .tl ?_)); done) | exact Nat.ne_of_lt (Nat.lt_trans ‹_› ‹_›) | exact Nat.ne_of_gt (Nat.lt_trans ‹_› ‹_›) | omega | exact off_obj (by assumption) (by k_mem) (by k_mem) (by simp))), (D1.tree.mono fun a o h => mNB (by repeat (first | exact h | exact List.mem_append_left _ h | exact List.mem_append_right _ h | refine List.mem_append_right _ ?_ | refine List.Mem.tail _ ?_)) (off1 _ h))⟩, Nat.succ_le_succ D1.ht, by first | exact D1.fine | exact and2 D1.fine D2.fine | exact and3 D1.fine D2.fine D3.fine | simp only [Tr.fine_name, Tr.fine_text, Tr.fine_join, Tr.fine_plus, Tr.fine_alt, Tr.fine_dot, Tr.fine_neg, Tr.fine_quest, Tr.fine_dollar, Tr.fine_tilde, Tr.fine_item1, Tr.fine_item2, Tr.fine_call0, Tr.fine_call1, Tr.fine_call2, D1.fine, Bool.and_self], by first | exact D1.good | exact or2 D1.good | exact and2 D1.good D2.good | exact and3 D1.good D2.good D3.good | simp only [Tr.good_name, Tr.good_text, Tr.good_join, Tr.good_plus, Tr.good_alt, Tr.good_dot, Tr.good_neg, Tr.good_quest, Tr.good_dollar, Tr.good_tilde, Tr.good_item1, Tr.good_item2, Tr.good_call0, Tr.good_call1, Tr.good_call2, D1.good, Bool.and_self, Bool.or_true]⟩
theorem tree_con (w : World) (d : Nat) : TreeC w d := Nat.strongRecOn d fun d ih => tree_step w d ih
end
section
set_option maxHeartbeats 0
set_option rowWalk.seconds 0

theorem fail_con (w : World) (x : Str) (t : Tok) : PCon w 65 [.str x t] 2 50 (fun _ => True) (fun _ _ r => r = .bool false) := by
  refine PCon.of fun A s Q E g hh hd hu hgg G hp hret => ?_
  refine enterO (own := []) (binds := [(ss "value", .str x t)]) hgg G own0 hret (B := ?B) (S := ?S) ?hB ?hS (by k_is) (by k_is) (lt0 (by assumption)) (BindsTo.of_eq rfl) (locs rfl) rfl rfl rfl (by decide) ?_
  case hB => conv => lhs; whnf
  case hS => conv => lhs; whnf
  have X := G.K
  clear hret G hgg
  intro s1 Q1 L loose mean mg mb T F N hret _
  k_steps
  exact hret _ _ _ [] (Fr.keep (by assumption)) (fun _ h => nomatch h) rfl
/-- the machine's own objects -/
noncomputable abbrev workE (w : World) (t1 t2 t3 t4 : Tok) (sa ga : Addr) (fv gv : Value) : List DictEntry := [en w.params "stack" t1 (.ref sa), en w.params "guards" t2 (.ref ga), en w.params "found" t3 fv, en w.params "goal" t4 gv]
noncomputable abbrev WN (w : World) (wa wd sa ga : Addr) (t1 t2 t3 t4 : Tok) (fv gv : Value) (vs gs : List Value) (n1 n2 : Nat) : List (Addr × Obj) :=
  [(wa, instObj 180 wd), (wd, dictOf (workE w t1 t2 t3 t4 sa ga fv gv) 4), (sa, lstO vs n1), (ga, lstO gs n2)]
noncomputable def DistK (k a b c d : Nat) : Prop := k ≠ a ∧ k ≠ b ∧ k ≠ c ∧ k ≠ d
noncomputable def Dist4 (a b c d : Nat) : Prop := a ≠ b ∧ a ≠ c ∧ a ≠ d ∧ b ≠ c ∧ b ≠ d ∧ c ≠ d
theorem Dist4.all {a b c d : Nat} {G : Prop} (h : Dist4 a b c d) (k : a ≠ b → a ≠ c → a ≠ d → b ≠ c → b ≠ d → c ≠ d → G) : G :=
  k h.1 h.2.1 h.2.2.1 h.2.2.2.1 h.2.2.2.2.1 h.2.2.2.2.2
theorem DistK.all {k a b c d : Nat} {G : Prop} (h : DistK k a b c d) (i : k ≠ a → k ≠ b → k ≠ c → k ≠ d → G) : G := i h.1 h.2.1 h.2.2.1 h.2.2.2
theorem last_snoc : ∀ (us : List Value) (v : Value), kl_last (us ++ [v]) = some (us, v)
  | [], v => rfl
  | u :: us, v => by
    have := last_snoc us v
    cases us with
    | nil => rfl
    | cons a r => simp only [List.cons_append] at this ⊢; unfold kl_last; rw [this]
theorem push_con (w : World) (wa wd sa ga : Addr) (t1 t2 t3 t4 : Tok) (fv gv : Value) (vs gs : List Value) (n1 n2 : Nat) (nd : Dist4 wa wd sa ga) (x : Str) (t : Tok) (hz : vs.length ≤ 2000) :
    OCon w 163 [.ref wa, .str x t] (WN w wa wd sa ga t1 t2 t3 t4 fv gv vs gs n1 n2) 4 100 (fun _ => True) (fun r own' => r = .bool true ∧ ∃ n1', own' = WN w wa wd sa ga t1 t2 t3 t4 fv gv (vs ++ [.str x t]) gs n1' n2) := by
  refine OCon.of fun A s Q E g hh hd hu hgg G h1 _ hret => ?_
  refine Dist4.all nd fun d1 d2 d3 d4 d5 d6 => ?_
  refine enterO (own := WN w wa wd sa ga t1 t2 t3 t4 fv gv vs gs n1 n2) (binds := [(ss "self", .ref wa), (ss "value", .str x t)]) hgg G h1 hret (B := ?B) (S := ?S) ?hB ?hS (by k_is) (by k_is) (lt0 (by assumption)) (BindsTo.of_eq rfl) (locs rfl) rfl rfl rfl (by decide) ?_
  case hB => conv => lhs; whnf
  case hS => conv => lhs; whnf
  have X := G.K
  clear hret G hgg h1
  intro s1 Q1 L loose mean mg mb T F N hret _
  dsimp only [WN] at N
  k_steps
  refine use_pure (fail_con w x t) (by exact hh) (by show A.depth + 1 + _ < _; first | exact dlt (by assumption) (by decide) | exact dlt1 (by assumption) (by decide) | exact dlt2 (by assumption) (by decide) | omega) (by show A.units + 3 + _ < _; first | exact dlt (by assumption) (by decide) | exact dlt1 (by assumption) (by decide) | exact dlt2 (by assumption) (by decide) | omega) X T (by assumption) (by assumption) (trivial) ?_
  intro PQ
  rintro r1 h1 tk1 I1 F1 N1 hne1 rfl
  replace N1 := News.left N1
  k_steps
  dsimp only
  rename News _ _ _ _ => N
  simp only [List.push_toArray] at N
  exact hret _ _ _ _ (Fr.keep (by assumption)) (own_endg N) ⟨rfl, _, rfl⟩
theorem push_none (w : World) (wa wd sa ga : Addr) (t1 t2 t3 t4 : Tok) (fv gv : Value) (vs gs : List Value) (n1 n2 : Nat) (nd : Dist4 wa wd sa ga) :
    OCon w 163 [.ref wa, .none] (WN w wa wd sa ga t1 t2 t3 t4 fv gv vs gs n1 n2) 4 100 (fun _ => True) (fun r own' => r = .bool false ∧ own' = WN w wa wd sa ga t1 t2 t3 t4 fv gv vs gs n1 n2) := by
  refine OCon.of fun A s Q E g hh hd hu hgg G h1 _ hret => ?_
  refine enterO (own := WN w wa wd sa ga t1 t2 t3 t4 fv gv vs gs n1 n2) (binds := [(ss "self", .ref wa), (ss "value", .none)]) hgg G h1 hret (B := ?B) (S := ?S) ?hB ?hS (by k_is) (by k_is) (lt0 (by assumption)) (BindsTo.of_eq rfl) (locs rfl) rfl rfl rfl (by decide) ?_
  case hB => conv => lhs; whnf
  case hS => conv => lhs; whnf
  have X := G.K
  clear hret G hgg h1
  intro s1 Q1 L loose mean mg mb T F N hret _
  k_steps
  exact hret _ _ _ _ (Fr.keep (by assumption)) (own_endg (by assumption)) ⟨rfl, rfl⟩
theorem pop_con (w : World) (wa wd sa ga : Addr) (t1 t2 t3 t4 : Tok) (fv gv : Value) (us gs : List Value) (n1 n2 : Nat) (nd : Dist4 wa wd sa ga) (x : Str) (t : Tok) (hz : us.length ≤ 2000) :
    OCon w 170 [.ref wa] (WN w wa wd sa ga t1 t2 t3 t4 fv gv (us ++ [.str x t]) gs n1 n2) 4 100 (fun _ => True) (fun r own' => r = .str x t ∧ ∃ n1', own' = WN w wa wd sa ga t1 t2 t3 t4 fv gv us gs n1' n2) := by
  refine OCon.of fun A s Q E g hh hd hu hgg G h1 _ hret => ?_
  refine Dist4.all nd fun d1 d2 d3 d4 d5 d6 => ?_
  refine enterO (own := WN w wa wd sa ga t1 t2 t3 t4 fv gv (us ++ [.str x t]) gs n1 n2) (binds := [(ss "self", .ref wa)]) hgg G h1 hret (B := ?B) (S := ?S) ?hB ?hS (by k_is) (by k_is) (lt0 (by assumption)) (BindsTo.of_eq rfl) (locs rfl) rfl rfl rfl (by decide) ?_
  case hB => conv => lhs; whnf
  case hS => conv => lhs; whnf
  have X := G.K
  clear hret G hgg h1
  intro s1 Q1 L loose mean mg mb T F N hret _
  dsimp only [WN] at N
  k_steps
  refine kl_pop (by k_asm) (by k_asm) (p := us) (y := .str x t) (last_snoc us _) (by k_upd) (by simp only [List.length_append, List.length_cons, List.length_nil, sizeLine_eq]; omega) ?_
  intro h2 F2 N2
  dsimp only
  exact hret _ _ _ _ (Fr.keep (by assumption)) (own_endg N2) ⟨rfl, _, rfl⟩
theorem take_end {g h' : Heap} {L sb la wd : Addr} {lo lx dw : Obj} {W1 W3 W4 : Addr × Obj} (N : News g L h' [(sb, lo), (la, lx), W1, (wd, dw), W3, W4]) : News g L h' [(la, lx), W1, (wd, dw), (sb, lo), W4] :=
  Mine.News.sub N fun p hp => by
    simp only [List.mem_cons, List.not_mem_nil, or_false] at hp ⊢
    rcases hp with h | h | h | h | h <;> simp only [h, true_or, or_true]
theorem slice_hi {us xs : List Value} {i : Int} (h : i = us.length) : (slicePick (us ++ xs).toArray (some i) none none).toList = xs := by
  subst h
  rw [slicePick_from _ us.length (by simp)]
  simp
theorem slice_lo {us xs : List Value} {i : Int} (h : i = us.length) : (slicePick (us ++ xs).toArray none (some i) none).toList = us := by
  subst h
  rw [slicePick_upto _ us.length (by simp)]
  simp
local macro_rules | `(tactic| walk_at "subscriptTail Name Slice ref ref") => `(tactic| (k_dflt (refine kmk_slice_lit (by k_asm) (by k_asm) (by kmk_list) (by kmk_part) (by kmk_part) (by first | exact slice_hi (by simp only [List.size_toArray, List.length_append]; omega) | exact slice_lo (by simp only [List.size_toArray, List.length_append]; omega)) ?_ (by with_unfolding_all rfl) (by kmk_pure) (by simp only [List.size_toArray, List.length_append, sizeLine_eq]; first | decide | omega)); intro _ _ _ _ l1; (try k_lt l1); (try k_sweep)))
inductive TakeP (w : World) (wa wd ga : Addr) (t1 t2 t3 t4 : Tok) (fv gv : Value) (us xs gs : List Value) (n2 : Nat) (r : Value) (own' : List (Addr × Obj)) : Prop
  | mk (la sb : Addr) (n3 n1' : Nat) (er : r = .ref la) (d4 : Dist4 wa wd sb ga) (dk : DistK la wa wd sb ga) (eo : own' = (la, lstO xs n3) :: WN w wa wd sb ga t1 t2 t3 t4 fv gv us gs n1' n2)
theorem take_con (w : World) (wa wd sa ga : Addr) (t1 t2 t3 t4 : Tok) (fv gv : Value) (us xs gs : List Value) (n1 n2 : Nat) (nd : Dist4 wa wd sa ga) (j : Nat) (u : Tok) (hj : xs.length = j) (hz : us.length ≤ 2000) (hz' : j ≤ 2000) :
    OCon w 177 [.ref wa, .int j u] (WN w wa wd sa ga t1 t2 t3 t4 fv gv (us ++ xs) gs n1 n2) 4 100 (fun _ => True) (TakeP w wa wd ga t1 t2 t3 t4 fv gv us xs gs n2) := by
  refine OCon.of fun A s Q E g hh hd hu hgg G h1 _ hret => ?_
  refine Dist4.all nd fun d1 d2 d3 d4 d5 d6 => ?_
  refine enterO (own := WN w wa wd sa ga t1 t2 t3 t4 fv gv (us ++ xs) gs n1 n2) (binds := [(ss "self", .ref wa), (ss "many", .int j u)]) hgg G h1 hret (B := ?B) (S := ?S) ?hB ?hS (by k_is) (by k_is) (lt0 (by assumption)) (BindsTo.of_eq rfl) (locs rfl) rfl rfl rfl (by decide) ?_
  case hB => conv => lhs; whnf
  case hS => conv => lhs; whnf
  have X := G.K
  clear hret G hgg h1
  intro s1 Q1 L loose mean mg mb T F N hret _
  dsimp only [WN] at N
  k_steps
  dsimp only
  rename News _ _ _ _ => N
  exact hret _ _ _ _ (Fr.keep (by assumption)) (own_endg (take_end N)) ⟨_, _, _, _, rfl, by unfold Dist4; refine ⟨?_, ?_, ?_, ?_, ?_, ?_⟩ <;> first | exact Nat.ne_of_lt ‹_› | exact Nat.ne_of_gt ‹_› | (refine Nat.ne_of_lt (InC.of ‹_ ∧ _› ?_); (repeat (first | exact .hd | exact .last | refine .tl ?_)); done) | (refine Nat.ne_of_gt (InC.of ‹_ ∧ _› ?_); (repeat (first | exact .hd | exact .last | refine .tl ?_)); done) | exact Nat.ne_of_lt (Nat.lt_trans ‹_› ‹_›) | exact Nat.ne_of_gt (Nat.lt_trans ‹_› ‹_›) | omega, by unfold DistK; refine ⟨?_, ?_, ?_, ?_⟩ <;> first | exact Nat.ne_of_lt ‹_› | exact Nat.ne_of_gt ‹_› | (refine Nat.ne_of_lt (InC.of ‹_ ∧ _› ?_); (repeat (first | exact .hd | exact .last | refine .tl ?_)); done) | (refine Nat.ne_of_gt (InC.of ‹_ ∧ _› ?_); (repeat (first | exact .hd | exact .last | refine .tl ?_)); done) | exact Nat.ne_of_lt (Nat.lt_trans ‹_› ‹_›) | exact Nat.ne_of_gt (Nat.lt_trans ‹_› ‹_›) | omega, rfl⟩
end
section
set_option maxHeartbeats 0
set_option rowWalk.seconds 0

noncomputable def lamS : Stmt → Arguments × Expr × Scope × Pos
  | .Assign _ (.Tuple [_, .Call _ (.Lambda p b c q :: _) _ _] _ _) _ => (p, b, c, q)
  | _ => (parS (.Pass default), .Constant .none 0 default, default, default)
noncomputable def lamX : Arguments × Expr × Scope × Pos := lamS (nthS (bodyS (topS 29)) 0)
noncomputable abbrev lamQ : Str := ss "_law_climbed.<locals>.<lambda>"
noncomputable abbrev lamO (pm ctv : Value) (lc : Addr) : Obj := kla_obj (ss "<lambda>") lamQ lamX.1 lamX.2.1 lamX.2.2.1 [] pm lc ctv
theorem enterLam {w : World} {A : Around} {s : Shared} {R : Result → Shared → Prop} {as : List Addr} {news : List (Addr × Obj)} {name qual : Str} {params : Arguments} {body : Expr} {scope : Scope}
    {pm ctv : Value} {f c' : Addr} {args : Args} {binds : List (Str × Value)}
    (G : Gd w (hideAll s.heap as)) (hn : ∀ p ∈ news, s.heap.get? p.1 = some p.2 ∧ p.1 ∈ as)
    (ho : s.heap.get? f = some (kla_obj name qual params body scope [] pm c' ctv)) (hcd : s.heap.CodeRec (.ref c') qual) (hroom : A.depth < recursionLimit)
    (hbind : bindArgs (kla_fn name qual params body scope [] pm (.ref c') ctv) args = pure binds) (hloc : ∀ y ∈ binds, scope.names.lookup y.1 = some .local)
    (hco : scope.isCoroutine = false) (hgen : scope.isGenerator = false) (hk : scope.kind = .function) (hcell : ∀ x ∈ scope.names, x.2 ≠ .cell)
    (h : ∀ L h₁, Fr (hideAll s.heap as) L h₁ (fun y => binds.reverse.lookup y) → News (hideAll s.heap as) L h₁ news →
      wpAny (model PG w) (A.deeper (envX qual scope L f (.ref c') [])) (eval body (envX qual scope L f (.ref c') []))
        (fun v s' => R (.ok (.ret v)) s') (fun _ _ => False) { s with heap := h₁, toks := s.toks + binds.length }) :
    codeAny (model PG w) A (.call (.ref f) args) R s := by
  obtain ⟨X, _, _, _, _, T⟩ := G
  have lift : StA (hideAll s.heap as) s.heap := fun b o e => of_hideAll _ e
  refine kla_callFunE hroom ho rfl hco hgen rfl hcd ?_
  rw [hbind]
  refine wpAny_pure (wpAny_newFunctionEnv hcell hloc (fun h₁ hns hsb => ⟨((T.nolimit).keeps lift).fresh _ hsb, ?_⟩) hk)
  show codeAny _ _ (.expr body (envX qual scope s.heap.objs.size f (.ref c') [])) _ _
  have hk₁ : ∀ b o, s.heap.get? b = some o → h₁.get? b = some o := fun b o e => hsb.extBut b o (Nat.ne_of_lt (Heap.lt_size e)) (Heap.get?_push_of_some _ e)
  exact kla_codeExpr (wpAny_mono (h s.heap.objs.size h₁ ⟨hns, fun b o e => hk₁ b o (lift b o e), Nat.le_of_eq (hideAll_size _ _)⟩
    (fun p hp => ⟨hk₁ _ _ (hn p hp).1, Nat.ne_of_lt (Heap.lt_size (hn p hp).1), hideAll_none _ (hn p hp).2⟩)) (fun _ _ x => x) fun _ _ y => y.elim)
theorem tail_news {g h' : Heap} {L : Addr} {q : Addr × Obj} {l : List (Addr × Obj)} (N : News g L h' (q :: l)) : News g L h' l := fun p hp => N p (.tail _ hp)
/-- what the lambda answers -/
noncomputable def lamV (ds : List PyData) (v : Value) : Prop := if PyData.eqv (.list ds) (.list [.str (ss "F")]) = true then v = .none else ∃ t, v = .str (ss "v") t
local macro_rules | `(tactic| walk_at "compareOp Eq ref ref") => `(tactic| walk_at "call ref")
local macro_rules | `(tactic| walk_at "callWith ref") => `(tactic| (k_dflt (refine callWith_F (by exact FnAt.of (by k_asm) (by k_mem)) ?_; k_whole)))
local macro_rules | `(tactic| walk_at "And") => `(tactic| ((with_reducible show FnAt _ _ ∧ _); refine ⟨by k_dflt (exact FnAt.of (by k_asm) (by k_mem)), ?_⟩; try dsimp only [List.nil_append, List.cons_append]))
theorem lam_con (w : World) (pm ctv : Value) (lc la pl : Addr) (items : List Value) (n : Nat) (ds : List PyData) (wv : Value) (hne : @Ne Nat la pl) (hL : PyData.canLayAll0 ds = true) (hD : PyData.depthAll ds ≤ 30) :
    OCon w la [wv, .ref pl] [(la, lamO pm ctv lc), (pl, lstO items n)] 2 100 (fun h => h.CodeRec (.ref lc) lamQ ∧ ∃ as, ReadsAll h items ds as) (fun r own' => lamV ds r ∧ own' = [(la, lamO pm ctv lc), (pl, lstO items n)]) := by
  intro A s Q E hh hd hu G h1 hp hret
  obtain ⟨hcd, as, hra⟩ := hp
  have hcd' : s.heap.CodeRec (.ref lc) lamQ := hcd.keeps fun b o e => of_hideAll _ e
  refine wpAny_call (enterLam (as := ads [(la, lamO pm ctv lc), (pl, lstO items n)]) (news := [(la, lamO pm ctv lc), (pl, lstO items n)]) (binds := [(ss "word", wv), (ss "parts", .ref pl)]) G (own_news h1) (h1 _ (.head _)) hcd' (by omega) rfl (locs rfl) rfl rfl rfl (by decide) ?_)
  intro L h₁ F N
  have hsb : ∀ h', StA (hideAll s.heap (ads [(la, lamO pm ctv lc), (pl, lstO items n)])) h' → StB (ads [(la, lamO pm ctv lc), (pl, lstO items n)]) s.heap h' := fun _ k => stB_of k
  generalize hideAll s.heap (ads [(la, lamO pm ctv lc), (pl, lstO items n)]) = g at *
  have X := G.K
  obtain ⟨_, _, _, _, _, T⟩ := G
  generalize hB : lamX.2.1 = B
  conv at hB => lhs; whnf
  subst hB
  generalize hS : lamX.2.2.1 = S
  conv at hS => lhs; whnf
  subst hS
  dsimp only
  k_steps
  refine eq_dataH (reads_list_at (News.get (by assumption) (by k_mem)) rfl rfl (by simpa using ReadsAll.keeps (Fr.keep (by assumption)) hra)) (reads_list_at (News.get (by assumption) (by k_mem)) rfl rfl (by repeat constructor)) ?_ (by kernel_rfl!) (by show A.units + 3 + 64 < _; first | exact dlt ‹_› (by decide) | exact dh ‹_› ‹_› (by decide) | exact dh0 ‹_› ‹_› (by decide) | exact dhs ‹_› ‹_› (by decide) | exact dm0 ‹_› ‹_› (by decide) | exact dl3 ‹_› (by decide) | exact dlt2 ‹_› (by decide) | omega) ?_
  · unfold SeqAt.shaped PyData.canLay0; rw [hL, Bool.true_and]; exact decide_eq_true (by simp only [PyData.depth]; omega)
  cases hq : PyData.eqv (.list ds) (.list [.str (ss "F")]) with
  | true =>
    k_steps
    exact hret _ _ _ _ (hsb _ (Fr.keep (by assumption))) (own_endg (tail_news (by assumption))) ⟨by unfold lamV; rw [if_pos hq], rfl⟩
  | false =>
    k_steps
    exact hret _ _ _ _ (hsb _ (Fr.keep (by assumption))) (own_endg (tail_news (by assumption))) ⟨by unfold lamV; rw [if_neg (by rw [hq]; decide)]; exact ⟨_, rfl⟩, rfl⟩
/-- the hooks' own objects -/
noncomputable abbrev hookE (w : World) (t1 t2 t3 : Tok) (la : Addr) (lb ln : Value) : List DictEntry := [en w.params "replies" t1 (.ref la), en w.params "labels" t2 lb, en w.params "notes" t3 ln]
noncomputable abbrev HN (w : World) (ha hd : Addr) (t1 t2 t3 : Tok) (la : Addr) (lb ln pm ctv : Value) (lc : Addr) : List (Addr × Obj) := [(ha, instObj 327 hd), (hd, dictOf (hookE w t1 t2 t3 la lb ln) 3), (la, lamO pm ctv lc)]
noncomputable def DistP (a b c p : Nat) : Prop := a ≠ p ∧ b ≠ p ∧ c ≠ p
noncomputable def Dist3 (a b c : Nat) : Prop := a ≠ b ∧ a ≠ c ∧ b ≠ c
theorem Dist3.all {a b c : Nat} {G : Prop} (h : Dist3 a b c) (k : a ≠ b → a ≠ c → b ≠ c → G) : G := k h.1 h.2.1 h.2.2
theorem DistP.all {a b c p : Nat} {G : Prop} (h : DistP a b c p) (k : a ≠ p → b ≠ p → c ≠ p → G) : G := k h.1 h.2.1 h.2.2
theorem ask_con (w : World) (ha hd : Addr) (t1 t2 t3 : Tok) (la : Addr) (lb ln pm ctv : Value) (lc : Addr) (pl : Addr) (items : List Value) (n : Nat) (ds : List PyData) (wv : Value) (nd : Dist3 ha hd la) (hpl : DistP ha hd la pl) (hL : PyData.canLayAll0 ds = true) (hD : PyData.depthAll ds ≤ 30) :
    OCon w 205 [.ref ha, wv, .ref pl] (HN w ha hd t1 t2 t3 la lb ln pm ctv lc ++ [(pl, lstO items n)]) 4 200 (fun h => h.CodeRec (.ref lc) lamQ ∧ ∃ as, ReadsAll h items ds as) (fun r own' => lamV ds r ∧ own' = HN w ha hd t1 t2 t3 la lb ln pm ctv lc ++ [(pl, lstO items n)]) := by
  refine OCon.of fun A s Q E g hh hdp hu hgg G h1 hp hret => ?_
  refine Dist3.all nd fun d1 d2 d3 => ?_
  obtain ⟨e1, e2, e3⟩ := hpl
  obtain ⟨hcd, as, hra⟩ := hp
  refine enterO (own := HN w ha hd t1 t2 t3 la lb ln pm ctv lc ++ [(pl, lstO items n)]) (binds := [(ss "self", .ref ha), (ss "word", wv), (ss "parts", .ref pl)]) hgg G h1 hret (B := ?B) (S := ?S) ?hB ?hS (by k_is) (by k_is) (lt0 (by assumption)) (BindsTo.of_eq rfl) (locs rfl) rfl rfl rfl (by decide) ?_
  case hB => conv => lhs; whnf
  case hS => conv => lhs; whnf
  have X := G.K
  clear hret G hgg h1
  intro s1 Q1 L loose mean mg mb T F N hret _
  dsimp only [HN, List.cons_append, List.nil_append] at N
  k_steps
  rename News _ _ _ _ => N
  refine use_oc (own := [(la, lamO pm ctv lc), (pl, lstO items n)]) (rest := [(ha, instObj 327 hd), (hd, dictOf (hookE w t1 t2 t3 la lb ln) 3)]) (lam_con w pm ctv lc la pl items n ds wv e3 hL hD) (by exact hh) (by show A.depth + 1 + _ < _; first | exact dlt (by assumption) (by decide) | exact dlt1 (by assumption) (by decide) | exact dlt2 (by assumption) (by decide) | exact dh ‹_› ‹_› (by decide) | exact dh0 ‹_› ‹_› (by decide) | exact dhs ‹_› ‹_› (by decide) | exact dm0 ‹_› ‹_› (by decide) | exact dl3 ‹_› (by decide) | exact dlt2 ‹_› (by decide) | omega) (by show A.units + 3 + _ < _; first | exact dlt (by assumption) (by decide) | exact dlt1 (by assumption) (by decide) | exact dlt2 (by assumption) (by decide) | exact dh ‹_› ‹_› (by decide) | exact dh0 ‹_› ‹_› (by decide) | exact dhs ‹_› ‹_› (by decide) | exact dm0 ‹_› ‹_› (by decide) | exact dl3 ‹_› (by decide) | exact dlt2 ‹_› (by decide) | omega) X T (by assumption) (Mine.News.sub N (by (try dsimp only [List.cons_append, List.nil_append]); lcg_sub)) (by repeat (first | exact Apart.nil_left | refine Apart.cons (by k_all) ?_)) (fun st _ => ⟨hcd.keeps st, as, ReadsAll.keeps st hra⟩) ?_
  intro PQ
  clear N
  rintro v1 h1 tk1 own1 F1 N1 ap1 ⟨hv, rfl⟩
  try dsimp only [List.cons_append, List.nil_append] at N1
  exact hret _ _ _ _ (Fr.keep (by assumption)) (own_endg (Mine.News.sub N1 (by lcg_sub))) ⟨hv, rfl⟩
end
section
set_option maxHeartbeats 0
set_option rowWalk.seconds 0
theorem distP_of {a b c p : Nat} (h : a < p ∧ b < p ∧ c < p) : DistP a b c p := ⟨Nat.ne_of_lt h.1, Nat.ne_of_lt h.2.1, Nat.ne_of_lt h.2.2⟩

theorem use_ask {w : World} {A : Around} {s : Shared} {Q E : Value → Shared → Prop} {g : Heap} {L : Addr} {m : Str → Option Value} {loose : List Str} {mean : ExcName → Option Value} {mg mb : Str → Option Value}
    {ha hd : Addr} {t1 t2 t3 : Tok} {la : Addr} {lb ln pm ctv : Value} {lc pl : Addr} {items : List Value} {n : Nat} {ds : List PyData} {wv : Value} (nd : Dist3 ha hd la) (hL : PyData.canLayAll0 ds = true) (hD : PyData.depthAll ds ≤ 30)
    (hh : A.handled = none) (hdp : A.depth + 4 < recursionLimit) (hu : A.units + 200 < cLine) (X : (K w.params).In g) (T : Top topProg loose mean mg mb g)
    (F : Fr g L s.heap m) (N : News g L s.heap ((pl, lstO items n) :: (ha, instObj 327 hd) :: (hd, dictOf (hookE w t1 t2 t3 la lb ln) 3) :: (la, lamO pm ctv lc) :: [])) (hpl : DistP ha hd la pl)
    (pre : g.CodeRec (.ref lc) lamQ ∧ ∃ as, ReadsAll g items ds as)
    (k : ∀ v h' tk, Fr g L h' m → News g L h' (HN w ha hd t1 t2 t3 la lb ln pm ctv lc) → lamV ds v → Q v { s with heap := h', toks := tk }) :
    Stop (wpAny (model PG w) A (call (.ref 205) [.ref ha, wv, .ref pl]) Q E s) := by
  obtain ⟨hcd, as, hra⟩ := pre
  refine use_oc (own := HN w ha hd t1 t2 t3 la lb ln pm ctv lc ++ [(pl, lstO items n)]) (rest := []) (ask_con w ha hd t1 t2 t3 la lb ln pm ctv lc pl items n ds wv nd hpl hL hD) hh hdp hu X T F (Mine.News.sub N (by dsimp only [HN, List.cons_append, List.nil_append]; lcg_sub)) Apart.nil (fun st _ => ⟨hcd.keeps st, as, ReadsAll.keeps st hra⟩) ?_
  intro PQ
  rintro v h' tk own' F' N' - ⟨hv, rfl⟩
  exact k v h' tk F' (Mine.News.sub N' (by dsimp only [HN, List.cons_append, List.nil_append]; lcg_sub)) hv
theorem hk_var_value (w : World) (ha hd : Addr) (t1 t2 t3 : Tok) (la : Addr) (lb ln pm ctv : Value) (lc : Addr) (nd : Dist3 ha hd la) (v_name : Value) (d_name : PyData) (hL : PyData.canLayAll0 [d_name] = true) (hD : PyData.depthAll [d_name] ≤ 30) :
    OCon w 212 [.ref ha, v_name] (HN w ha hd t1 t2 t3 la lb ln pm ctv lc) 8 400 (fun h => h.CodeRec (.ref lc) lamQ ∧ ∃ as, ReadsAll h [v_name] [d_name] as) (fun r own' => lamV [d_name] r ∧ own' = HN w ha hd t1 t2 t3 la lb ln pm ctv lc) := by
  refine OCon.of fun A s Q E g hh hdp hu hgg G h1 hp hret => ?_
  have nd' := nd
  refine Dist3.all nd' fun n1 n2 n3 => ?_
  refine enterO (own := HN w ha hd t1 t2 t3 la lb ln pm ctv lc) (binds := [(ss "self", .ref ha), (ss "name", v_name)]) hgg G h1 hret (B := ?B) (S := ?S) ?hB ?hS (by k_is) (by k_is) (lt0 (by assumption)) (BindsTo.of_eq rfl) (locs rfl) rfl rfl rfl (by decide) ?_
  case hB => conv => lhs; whnf
  case hS => conv => lhs; whnf
  have X := G.K
  clear hret G hgg h1
  intro s1 Q1 L loose mean mg mb T F N hret hnx
  dsimp only [HN] at N
  k_steps
  refine use_ask nd hL hD (by exact hh) (by show A.depth + 1 + _ < _; first | exact dlt (by assumption) (by decide) | exact dlt1 (by assumption) (by decide) | exact dlt2 (by assumption) (by decide) | omega) (by show A.units + 3 + _ < _; first | exact dlt (by assumption) (by decide) | exact dlt1 (by assumption) (by decide) | exact dlt2 (by assumption) (by decide) | omega) X T (by assumption) (by assumption) (by first | exact distP_of ‹_› | (unfold DistP; omega)) hp ?_
  intro v h2 tk2 F2 N2 hv
  exact hret _ _ _ _ (Fr.keep (by assumption)) (own_endg (by assumption)) ⟨hv, rfl⟩
theorem hk_name_of (w : World) (ha hd : Addr) (t1 t2 t3 : Tok) (la : Addr) (lb ln pm ctv : Value) (lc : Addr) (nd : Dist3 ha hd la) (v_kind v_name : Value) (d_name : PyData) (hL : PyData.canLayAll0 [d_name] = true) (hD : PyData.depthAll [d_name] ≤ 30) :
    OCon w 219 [.ref ha, v_kind, v_name] (HN w ha hd t1 t2 t3 la lb ln pm ctv lc) 8 400 (fun h => h.CodeRec (.ref lc) lamQ ∧ ∃ as, ReadsAll h [v_name] [d_name] as) (fun r own' => lamV [d_name] r ∧ own' = HN w ha hd t1 t2 t3 la lb ln pm ctv lc) := by
  refine OCon.of fun A s Q E g hh hdp hu hgg G h1 hp hret => ?_
  have nd' := nd
  refine Dist3.all nd' fun n1 n2 n3 => ?_
  refine enterO (own := HN w ha hd t1 t2 t3 la lb ln pm ctv lc) (binds := [(ss "self", .ref ha), (ss "kind", v_kind), (ss "name", v_name)]) hgg G h1 hret (B := ?B) (S := ?S) ?hB ?hS (by k_is) (by k_is) (lt0 (by assumption)) (BindsTo.of_eq rfl) (locs rfl) rfl rfl rfl (by decide) ?_
  case hB => conv => lhs; whnf
  case hS => conv => lhs; whnf
  have X := G.K
  clear hret G hgg h1
  intro s1 Q1 L loose mean mg mb T F N hret hnx
  dsimp only [HN] at N
  k_steps
  refine use_ask nd hL hD (by exact hh) (by show A.depth + 1 + _ < _; first | exact dlt (by assumption) (by decide) | exact dlt1 (by assumption) (by decide) | exact dlt2 (by assumption) (by decide) | omega) (by show A.units + 3 + _ < _; first | exact dlt (by assumption) (by decide) | exact dlt1 (by assumption) (by decide) | exact dlt2 (by assumption) (by decide) | omega) X T (by assumption) (by assumption) (by first | exact distP_of ‹_› | (unfold DistP; omega)) hp ?_
  intro v h2 tk2 F2 N2 hv
  exact hret _ _ _ _ (Fr.keep (by assumption)) (own_endg (by assumption)) ⟨hv, rfl⟩
theorem hk_named_by (w : World) (ha hd : Addr) (t1 t2 t3 : Tok) (la : Addr) (lb ln pm ctv : Value) (lc : Addr) (nd : Dist3 ha hd la) (v_value : Value) (d_value : PyData) (hL : PyData.canLayAll0 [d_value] = true) (hD : PyData.depthAll [d_value] ≤ 30) :
    OCon w 226 [.ref ha, v_value] (HN w ha hd t1 t2 t3 la lb ln pm ctv lc) 8 400 (fun h => h.CodeRec (.ref lc) lamQ ∧ ∃ as, ReadsAll h [v_value] [d_value] as) (fun r own' => lamV [d_value] r ∧ own' = HN w ha hd t1 t2 t3 la lb ln pm ctv lc) := by
  refine OCon.of fun A s Q E g hh hdp hu hgg G h1 hp hret => ?_
  have nd' := nd
  refine Dist3.all nd' fun n1 n2 n3 => ?_
  refine enterO (own := HN w ha hd t1 t2 t3 la lb ln pm ctv lc) (binds := [(ss "self", .ref ha), (ss "value", v_value)]) hgg G h1 hret (B := ?B) (S := ?S) ?hB ?hS (by k_is) (by k_is) (lt0 (by assumption)) (BindsTo.of_eq rfl) (locs rfl) rfl rfl rfl (by decide) ?_
  case hB => conv => lhs; whnf
  case hS => conv => lhs; whnf
  have X := G.K
  clear hret G hgg h1
  intro s1 Q1 L loose mean mg mb T F N hret hnx
  dsimp only [HN] at N
  k_steps
  refine use_ask nd hL hD (by exact hh) (by show A.depth + 1 + _ < _; first | exact dlt (by assumption) (by decide) | exact dlt1 (by assumption) (by decide) | exact dlt2 (by assumption) (by decide) | omega) (by show A.units + 3 + _ < _; first | exact dlt (by assumption) (by decide) | exact dlt1 (by assumption) (by decide) | exact dlt2 (by assumption) (by decide) | omega) X T (by assumption) (by assumption) (by first | exact distP_of ‹_› | (unfold DistP; omega)) hp ?_
  intro v h2 tk2 F2 N2 hv
  exact hret _ _ _ _ (Fr.keep (by assumption)) (own_endg (by assumption)) ⟨hv, rfl⟩
theorem hk_ref_value (w : World) (ha hd : Addr) (t1 t2 t3 : Tok) (la : Addr) (lb ln pm ctv : Value) (lc : Addr) (nd : Dist3 ha hd la) (v_ref : Value) (d_ref : PyData) (hL : PyData.canLayAll0 [d_ref] = true) (hD : PyData.depthAll [d_ref] ≤ 30) :
    OCon w 233 [.ref ha, v_ref] (HN w ha hd t1 t2 t3 la lb ln pm ctv lc) 8 400 (fun h => h.CodeRec (.ref lc) lamQ ∧ ∃ as, ReadsAll h [v_ref] [d_ref] as) (fun r own' => lamV [d_ref] r ∧ own' = HN w ha hd t1 t2 t3 la lb ln pm ctv lc) := by
  refine OCon.of fun A s Q E g hh hdp hu hgg G h1 hp hret => ?_
  have nd' := nd
  refine Dist3.all nd' fun n1 n2 n3 => ?_
  refine enterO (own := HN w ha hd t1 t2 t3 la lb ln pm ctv lc) (binds := [(ss "self", .ref ha), (ss "ref", v_ref)]) hgg G h1 hret (B := ?B) (S := ?S) ?hB ?hS (by k_is) (by k_is) (lt0 (by assumption)) (BindsTo.of_eq rfl) (locs rfl) rfl rfl rfl (by decide) ?_
  case hB => conv => lhs; whnf
  case hS => conv => lhs; whnf
  have X := G.K
  clear hret G hgg h1
  intro s1 Q1 L loose mean mg mb T F N hret hnx
  dsimp only [HN] at N
  k_steps
  refine use_ask nd hL hD (by exact hh) (by show A.depth + 1 + _ < _; first | exact dlt (by assumption) (by decide) | exact dlt1 (by assumption) (by decide) | exact dlt2 (by assumption) (by decide) | omega) (by show A.units + 3 + _ < _; first | exact dlt (by assumption) (by decide) | exact dlt1 (by assumption) (by decide) | exact dlt2 (by assumption) (by decide) | omega) X T (by assumption) (by assumption) (by first | exact distP_of ‹_› | (unfold DistP; omega)) hp ?_
  intro v h2 tk2 F2 N2 hv
  exact hret _ _ _ _ (Fr.keep (by assumption)) (own_endg (by assumption)) ⟨hv, rfl⟩
theorem hk_called (w : World) (ha hd : Addr) (t1 t2 t3 : Tok) (la : Addr) (lb ln pm ctv : Value) (lc : Addr) (nd : Dist3 ha hd la) (v_name v_args v_wants_name : Value) (d_name d_args d_wants_name : PyData) (hL : PyData.canLayAll0 [d_name, d_args, d_wants_name] = true) (hD : PyData.depthAll [d_name, d_args, d_wants_name] ≤ 30) :
    OCon w 240 [.ref ha, v_name, v_args, v_wants_name] (HN w ha hd t1 t2 t3 la lb ln pm ctv lc) 8 400 (fun h => h.CodeRec (.ref lc) lamQ ∧ ∃ as, ReadsAll h [v_name, v_args, v_wants_name] [d_name, d_args, d_wants_name] as) (fun r own' => lamV [d_name, d_args, d_wants_name] r ∧ own' = HN w ha hd t1 t2 t3 la lb ln pm ctv lc) := by
  refine OCon.of fun A s Q E g hh hdp hu hgg G h1 hp hret => ?_
  have nd' := nd
  refine Dist3.all nd' fun n1 n2 n3 => ?_
  refine enterO (own := HN w ha hd t1 t2 t3 la lb ln pm ctv lc) (binds := [(ss "self", .ref ha), (ss "name", v_name), (ss "args", v_args), (ss "wants_name", v_wants_name)]) hgg G h1 hret (B := ?B) (S := ?S) ?hB ?hS (by k_is) (by k_is) (lt0 (by assumption)) (BindsTo.of_eq rfl) (locs rfl) rfl rfl rfl (by decide) ?_
  case hB => conv => lhs; whnf
  case hS => conv => lhs; whnf
  have X := G.K
  clear hret G hgg h1
  intro s1 Q1 L loose mean mg mb T F N hret hnx
  dsimp only [HN] at N
  k_steps
  refine use_ask nd hL hD (by exact hh) (by show A.depth + 1 + _ < _; first | exact dlt (by assumption) (by decide) | exact dlt1 (by assumption) (by decide) | exact dlt2 (by assumption) (by decide) | omega) (by show A.units + 3 + _ < _; first | exact dlt (by assumption) (by decide) | exact dlt1 (by assumption) (by decide) | exact dlt2 (by assumption) (by decide) | omega) X T (by assumption) (by assumption) (by first | exact distP_of ‹_› | (unfold DistP; omega)) hp ?_
  intro v h2 tk2 F2 N2 hv
  exact hret _ _ _ _ (Fr.keep (by assumption)) (own_endg (by assumption)) ⟨hv, rfl⟩
theorem hk_item_of (w : World) (ha hd : Addr) (t1 t2 t3 : Tok) (la : Addr) (lb ln pm ctv : Value) (lc : Addr) (nd : Dist3 ha hd la) (v_owner v_keys v_wants_name : Value) (d_owner d_keys d_wants_name : PyData) (hL : PyData.canLayAll0 [d_owner, d_keys, d_wants_name] = true) (hD : PyData.depthAll [d_owner, d_keys, d_wants_name] ≤ 30) :
    OCon w 247 [.ref ha, v_owner, v_keys, v_wants_name] (HN w ha hd t1 t2 t3 la lb ln pm ctv lc) 8 400 (fun h => h.CodeRec (.ref lc) lamQ ∧ ∃ as, ReadsAll h [v_owner, v_keys, v_wants_name] [d_owner, d_keys, d_wants_name] as) (fun r own' => lamV [d_owner, d_keys, d_wants_name] r ∧ own' = HN w ha hd t1 t2 t3 la lb ln pm ctv lc) := by
  refine OCon.of fun A s Q E g hh hdp hu hgg G h1 hp hret => ?_
  have nd' := nd
  refine Dist3.all nd' fun n1 n2 n3 => ?_
  refine enterO (own := HN w ha hd t1 t2 t3 la lb ln pm ctv lc) (binds := [(ss "self", .ref ha), (ss "owner", v_owner), (ss "keys", v_keys), (ss "wants_name", v_wants_name)]) hgg G h1 hret (B := ?B) (S := ?S) ?hB ?hS (by k_is) (by k_is) (lt0 (by assumption)) (BindsTo.of_eq rfl) (locs rfl) rfl rfl rfl (by decide) ?_
  case hB => conv => lhs; whnf
  case hS => conv => lhs; whnf
  have X := G.K
  clear hret G hgg h1
  intro s1 Q1 L loose mean mg mb T F N hret hnx
  dsimp only [HN] at N
  k_steps
  refine use_ask nd hL hD (by exact hh) (by show A.depth + 1 + _ < _; first | exact dlt (by assumption) (by decide) | exact dlt1 (by assumption) (by decide) | exact dlt2 (by assumption) (by decide) | omega) (by show A.units + 3 + _ < _; first | exact dlt (by assumption) (by decide) | exact dlt1 (by assumption) (by decide) | exact dlt2 (by assumption) (by decide) | omega) X T (by assumption) (by assumption) (by first | exact distP_of ‹_› | (unfold DistP; omega)) hp ?_
  intro v h2 tk2 F2 N2 hv
  exact hret _ _ _ _ (Fr.keep (by assumption)) (own_endg (by assumption)) ⟨hv, rfl⟩
theorem hk_operated (w : World) (ha hd : Addr) (t1 t2 t3 : Tok) (la : Addr) (lb ln pm ctv : Value) (lc : Addr) (nd : Dist3 ha hd la) (v_op v_args : Value) (d_op d_args : PyData) (hL : PyData.canLayAll0 [d_op, d_args] = true) (hD : PyData.depthAll [d_op, d_args] ≤ 30) :
    OCon w 254 [.ref ha, v_op, v_args] (HN w ha hd t1 t2 t3 la lb ln pm ctv lc) 8 400 (fun h => h.CodeRec (.ref lc) lamQ ∧ ∃ as, ReadsAll h [v_op, v_args] [d_op, d_args] as) (fun r own' => lamV [d_op, d_args] r ∧ own' = HN w ha hd t1 t2 t3 la lb ln pm ctv lc) := by
  refine OCon.of fun A s Q E g hh hdp hu hgg G h1 hp hret => ?_
  have nd' := nd
  refine Dist3.all nd' fun n1 n2 n3 => ?_
  refine enterO (own := HN w ha hd t1 t2 t3 la lb ln pm ctv lc) (binds := [(ss "self", .ref ha), (ss "op", v_op), (ss "args", v_args)]) hgg G h1 hret (B := ?B) (S := ?S) ?hB ?hS (by k_is) (by k_is) (lt0 (by assumption)) (BindsTo.of_eq rfl) (locs rfl) rfl rfl rfl (by decide) ?_
  case hB => conv => lhs; whnf
  case hS => conv => lhs; whnf
  have X := G.K
  clear hret G hgg h1
  intro s1 Q1 L loose mean mg mb T F N hret hnx
  dsimp only [HN] at N
  k_steps
  refine use_ask nd hL hD (by exact hh) (by show A.depth + 1 + _ < _; first | exact dlt (by assumption) (by decide) | exact dlt1 (by assumption) (by decide) | exact dlt2 (by assumption) (by decide) | omega) (by show A.units + 3 + _ < _; first | exact dlt (by assumption) (by decide) | exact dlt1 (by assumption) (by decide) | exact dlt2 (by assumption) (by decide) | omega) X T (by assumption) (by assumption) (by first | exact distP_of ‹_› | (unfold DistP; omega)) hp ?_
  intro v h2 tk2 F2 N2 hv
  exact hret _ _ _ _ (Fr.keep (by assumption)) (own_endg (by assumption)) ⟨hv, rfl⟩
theorem hk_given_part (w : World) (ha hd : Addr) (t1 t2 t3 : Tok) (la : Addr) (lb ln pm ctv : Value) (lc : Addr) (nd : Dist3 ha hd la) (v_op v_value v_ref : Value) (d_op d_value d_ref : PyData) (hL : PyData.canLayAll0 [d_op, d_value, d_ref] = true) (hD : PyData.depthAll [d_op, d_value, d_ref] ≤ 30) :
    OCon w 268 [.ref ha, v_op, v_value, v_ref] (HN w ha hd t1 t2 t3 la lb ln pm ctv lc) 8 400 (fun h => h.CodeRec (.ref lc) lamQ ∧ ∃ as, ReadsAll h [v_op, v_value, v_ref] [d_op, d_value, d_ref] as) (fun r own' => lamV [d_op, d_value, d_ref] r ∧ own' = HN w ha hd t1 t2 t3 la lb ln pm ctv lc) := by
  refine OCon.of fun A s Q E g hh hdp hu hgg G h1 hp hret => ?_
  have nd' := nd
  refine Dist3.all nd' fun n1 n2 n3 => ?_
  refine enterO (own := HN w ha hd t1 t2 t3 la lb ln pm ctv lc) (binds := [(ss "self", .ref ha), (ss "op", v_op), (ss "value", v_value), (ss "ref", v_ref)]) hgg G h1 hret (B := ?B) (S := ?S) ?hB ?hS (by k_is) (by k_is) (lt0 (by assumption)) (BindsTo.of_eq rfl) (locs rfl) rfl rfl rfl (by decide) ?_
  case hB => conv => lhs; whnf
  case hS => conv => lhs; whnf
  have X := G.K
  clear hret G hgg h1
  intro s1 Q1 L loose mean mg mb T F N hret hnx
  dsimp only [HN] at N
  k_steps
  refine use_ask nd hL hD (by exact hh) (by show A.depth + 1 + _ < _; first | exact dlt (by assumption) (by decide) | exact dlt1 (by assumption) (by decide) | exact dlt2 (by assumption) (by decide) | omega) (by show A.units + 3 + _ < _; first | exact dlt (by assumption) (by decide) | exact dlt1 (by assumption) (by decide) | exact dlt2 (by assumption) (by decide) | omega) X T (by assumption) (by assumption) (by first | exact distP_of ‹_› | (unfold DistP; omega)) hp ?_
  intro v h2 tk2 F2 N2 hv
  exact hret _ _ _ _ (Fr.keep (by assumption)) (own_endg (by assumption)) ⟨hv, rfl⟩
theorem hk_matched (w : World) (ha hd : Addr) (t1 t2 t3 : Tok) (la : Addr) (lb ln pm ctv : Value) (lc : Addr) (nd : Dist3 ha hd la) (v_subject v_pattern : Value) (d_subject d_pattern : PyData) (hL : PyData.canLayAll0 [d_subject, d_pattern] = true) (hD : PyData.depthAll [d_subject, d_pattern] ≤ 30) :
    OCon w 282 [.ref ha, v_subject, v_pattern] (HN w ha hd t1 t2 t3 la lb ln pm ctv lc) 8 400 (fun h => h.CodeRec (.ref lc) lamQ ∧ ∃ as, ReadsAll h [v_subject, v_pattern] [d_subject, d_pattern] as) (fun r own' => lamV [d_subject, d_pattern] r ∧ own' = HN w ha hd t1 t2 t3 la lb ln pm ctv lc) := by
  refine OCon.of fun A s Q E g hh hdp hu hgg G h1 hp hret => ?_
  have nd' := nd
  refine Dist3.all nd' fun n1 n2 n3 => ?_
  refine enterO (own := HN w ha hd t1 t2 t3 la lb ln pm ctv lc) (binds := [(ss "self", .ref ha), (ss "subject", v_subject), (ss "pattern", v_pattern)]) hgg G h1 hret (B := ?B) (S := ?S) ?hB ?hS (by k_is) (by k_is) (lt0 (by assumption)) (BindsTo.of_eq rfl) (locs rfl) rfl rfl rfl (by decide) ?_
  case hB => conv => lhs; whnf
  case hS => conv => lhs; whnf
  have X := G.K
  clear hret G hgg h1
  intro s1 Q1 L loose mean mg mb T F N hret hnx
  dsimp only [HN] at N
  k_steps
  refine use_ask nd hL hD (by exact hh) (by show A.depth + 1 + _ < _; first | exact dlt (by assumption) (by decide) | exact dlt1 (by assumption) (by decide) | exact dlt2 (by assumption) (by decide) | omega) (by show A.units + 3 + _ < _; first | exact dlt (by assumption) (by decide) | exact dlt1 (by assumption) (by decide) | exact dlt2 (by assumption) (by decide) | omega) X T (by assumption) (by assumption) (by first | exact distP_of ‹_› | (unfold DistP; omega)) hp ?_
  intro v h2 tk2 F2 N2 hv
  exact hret _ _ _ _ (Fr.keep (by assumption)) (own_endg (by assumption)) ⟨hv, rfl⟩
theorem hk_assign (w : World) (ha hd : Addr) (t1 t2 t3 : Tok) (la : Addr) (lb ln pm ctv : Value) (lc : Addr) (nd : Dist3 ha hd la) (v_ref v_value : Value) (d_ref d_value : PyData) (hL : PyData.canLayAll0 [d_ref, d_value] = true) (hD : PyData.depthAll [d_ref, d_value] ≤ 30) :
    OCon w 289 [.ref ha, v_ref, v_value] (HN w ha hd t1 t2 t3 la lb ln pm ctv lc) 8 400 (fun h => h.CodeRec (.ref lc) lamQ ∧ ∃ as, ReadsAll h [v_ref, v_value] [d_ref, d_value] as) (fun r own' => r = .none ∧ own' = HN w ha hd t1 t2 t3 la lb ln pm ctv lc) := by
  refine OCon.of fun A s Q E g hh hdp hu hgg G h1 hp hret => ?_
  have nd' := nd
  refine Dist3.all nd' fun n1 n2 n3 => ?_
  refine enterO (own := HN w ha hd t1 t2 t3 la lb ln pm ctv lc) (binds := [(ss "self", .ref ha), (ss "ref", v_ref), (ss "value", v_value)]) hgg G h1 hret (B := ?B) (S := ?S) ?hB ?hS (by k_is) (by k_is) (lt0 (by assumption)) (BindsTo.of_eq rfl) (locs rfl) rfl rfl rfl (by decide) ?_
  case hB => conv => lhs; whnf
  case hS => conv => lhs; whnf
  have X := G.K
  clear hret G hgg h1
  intro s1 Q1 L loose mean mg mb T F N hret hnx
  dsimp only [HN] at N
  k_steps
  refine use_ask nd hL hD (by exact hh) (by show A.depth + 1 + _ < _; first | exact dlt (by assumption) (by decide) | exact dlt1 (by assumption) (by decide) | exact dlt2 (by assumption) (by decide) | omega) (by show A.units + 3 + _ < _; first | exact dlt (by assumption) (by decide) | exact dlt1 (by assumption) (by decide) | exact dlt2 (by assumption) (by decide) | omega) X T (by assumption) (by assumption) (by first | exact distP_of ‹_› | (unfold DistP; omega)) hp ?_
  intro v h2 tk2 F2 N2 hv
  k_steps
  exact hnx _ _ _ (Fr.keep (by assumption)) (own_endg (by assumption)) ⟨rfl, rfl⟩
theorem hk_replace (w : World) (ha hd : Addr) (t1 t2 t3 : Tok) (la : Addr) (lb ln pm ctv : Value) (lc : Addr) (nd : Dist3 ha hd la) (v_ref v_found v_value : Value) (d_ref d_found d_value : PyData) (hL : PyData.canLayAll0 [d_ref, d_found, d_value] = true) (hD : PyData.depthAll [d_ref, d_found, d_value] ≤ 30) :
    OCon w 296 [.ref ha, v_ref, v_found, v_value] (HN w ha hd t1 t2 t3 la lb ln pm ctv lc) 8 400 (fun h => h.CodeRec (.ref lc) lamQ ∧ ∃ as, ReadsAll h [v_ref, v_found, v_value] [d_ref, d_found, d_value] as) (fun r own' => r = .none ∧ own' = HN w ha hd t1 t2 t3 la lb ln pm ctv lc) := by
  refine OCon.of fun A s Q E g hh hdp hu hgg G h1 hp hret => ?_
  have nd' := nd
  refine Dist3.all nd' fun n1 n2 n3 => ?_
  refine enterO (own := HN w ha hd t1 t2 t3 la lb ln pm ctv lc) (binds := [(ss "self", .ref ha), (ss "ref", v_ref), (ss "found", v_found), (ss "value", v_value)]) hgg G h1 hret (B := ?B) (S := ?S) ?hB ?hS (by k_is) (by k_is) (lt0 (by assumption)) (BindsTo.of_eq rfl) (locs rfl) rfl rfl rfl (by decide) ?_
  case hB => conv => lhs; whnf
  case hS => conv => lhs; whnf
  have X := G.K
  clear hret G hgg h1
  intro s1 Q1 L loose mean mg mb T F N hret hnx
  dsimp only [HN] at N
  k_steps
  refine use_ask nd hL hD (by exact hh) (by show A.depth + 1 + _ < _; first | exact dlt (by assumption) (by decide) | exact dlt1 (by assumption) (by decide) | exact dlt2 (by assumption) (by decide) | omega) (by show A.units + 3 + _ < _; first | exact dlt (by assumption) (by decide) | exact dlt1 (by assumption) (by decide) | exact dlt2 (by assumption) (by decide) | omega) X T (by assumption) (by assumption) (by first | exact distP_of ‹_› | (unfold DistP; omega)) hp ?_
  intro v h2 tk2 F2 N2 hv
  k_steps
  exact hnx _ _ _ (Fr.keep (by assumption)) (own_endg (by assumption)) ⟨rfl, rfl⟩
end
section
set_option maxHeartbeats 0
set_option rowWalk.seconds 0

noncomputable abbrev MN (w : World) (wa wd sa ga : Addr) (t1 t2 t3 t4 : Tok) (fv : Value) (vs gs : List Value) (n1 n2 : Nat) (ha hd : Addr) (r1 r2 r3 : Tok) (la : Addr) (lb ln pm ctv : Value) (lc : Addr) : List (Addr × Obj) :=
  [(wa, instObj 180 wd), (wd, dictOf (workE w t1 t2 t3 t4 sa ga fv .none) 4), (sa, lstO vs n1), (ga, lstO gs n2), (ha, instObj 327 hd), (hd, dictOf (hookE w r1 r2 r3 la lb ln) 3), (la, lamO pm ctv lc)]
noncomputable def Dist7 (a b c d e f g : Nat) : Prop := Dist4 a b c d ∧ DistP e f g a ∧ DistP e f g b ∧ DistP e f g c ∧ DistP e f g d ∧ Dist3 e f g
theorem Dist7.apart {w : World} {wa wd sa ga : Addr} {t1 t2 t3 t4 : Tok} {fv gv : Value} {vs gs : List Value} {n1 n2 : Nat} {ha hd : Addr} {r1 r2 r3 : Tok} {la : Addr} {lb ln pm ctv : Value} {lc : Addr} (h : Dist7 wa wd sa ga ha hd la) :
    Apart (WN w wa wd sa ga t1 t2 t3 t4 fv gv vs gs n1 n2) (HN w ha hd r1 r2 r3 la lb ln pm ctv lc) := by
  obtain ⟨⟨_, _, _, _, _, _⟩, ⟨_, _, _⟩, ⟨_, _, _⟩, ⟨_, _, _⟩, ⟨_, _, _⟩, ⟨_, _, _⟩⟩ := h
  repeat (first | exact Apart.nil_left | refine Apart.cons (by k_all) ?_)
theorem dist7_lt {a b c d e f g : Nat} (n : Dist4 a b c d) (ha : a < g) (hb : b < g) (hc : c < g) (hd : d < g) (hg : g < f) (hf : f < e) : Dist7 a b c d e f g :=
  have p : ∀ {x : Nat}, x < g → DistP e f g x := fun h => ⟨Nat.ne_of_gt (Nat.lt_trans (Nat.lt_trans h hg) hf), Nat.ne_of_gt (Nat.lt_trans h hg), Nat.ne_of_gt h⟩
  ⟨n, p ha, p hb, p hc, p hd, Nat.ne_of_gt hf, Nat.ne_of_gt (Nat.lt_trans hg hf), Nat.ne_of_gt hg⟩
theorem Dist7.all {a b c d e f g : Nat} {G : Prop} (h : Dist7 a b c d e f g) (k : a ≠ b → a ≠ c → a ≠ d → b ≠ c → b ≠ d → c ≠ d → e ≠ a → f ≠ a → g ≠ a → e ≠ b → f ≠ b → g ≠ b → e ≠ c → f ≠ c → g ≠ c → e ≠ d → f ≠ d → g ≠ d → e ≠ f → e ≠ g → f ≠ g → G) : G := by
  obtain ⟨⟨_, _, _, _, _, _⟩, ⟨_, _, _⟩, ⟨_, _, _⟩, ⟨_, _, _⟩, ⟨_, _, _⟩, ⟨_, _, _⟩⟩ := h
  apply k <;> assumption
theorem dist_new {a b c d e f g c' : Nat} (x : Dist7 a b c d e f g) (y : Dist4 a b c' d) (z : DistP e f g c') : Dist7 a b c' d e f g := ⟨y, x.2.1, x.2.2.1, z, x.2.2.2.2⟩
noncomputable def GoodS (x : Str) : Prop := x = ss "v" ∨ x = ss "" ∨ x = ss "t"
noncomputable def GoodV (vs : List Value) : Prop := ∀ v ∈ vs, ∃ x t, v = .str x t ∧ GoodS x
noncomputable def GoodF (v : Value) : Prop := v = .none ∨ ∃ x t, v = .str x t ∧ GoodS x
theorem goodS_ok {x : Str} (h : GoodS x) : PyData.strOk x = true := by
  rcases h with rfl | rfl | rfl <;> kernel_rfl!
theorem goodS_nF {x : Str} (h : GoodS x) : x ≠ ss "F" := by
  rcases h with rfl | rfl | rfl <;> decide +kernel
theorem good_v : GoodS (ss "v") := .inl rfl
theorem GoodV.nil : GoodV [] := fun _ h => nomatch h
theorem GoodV.app {us xs : List Value} (x : GoodV us) (y : GoodV xs) : GoodV (us ++ xs) := fun v hv => by
  rcases List.mem_append.mp hv with h | h
  · exact x v h
  · exact y v h
theorem GoodV.snoc {us : List Value} {x : Str} {t : Tok} (a : GoodV us) (b : GoodS x) : GoodV (us ++ [Value.str x t]) := a.app fun v hv => by rw [List.mem_singleton.mp hv]; exact ⟨x, t, rfl, b⟩
theorem good_split {vs : List Value} {j : Nat} (g : GoodV vs) (l : j ≤ vs.length) : ∃ us xs, vs = us ++ xs ∧ xs.length = j ∧ GoodV us ∧ GoodV xs :=
  ⟨vs.take (vs.length - j), vs.drop (vs.length - j), (List.take_append_drop _ _).symm, by rw [List.length_drop]; omega, fun v hv => g v (List.mem_of_mem_take hv), fun v hv => g v (List.mem_of_mem_drop hv)⟩
theorem good_last {vs : List Value} (g : GoodV vs) (l : 1 ≤ vs.length) : ∃ us x t, vs = us ++ [Value.str x t] ∧ GoodV us ∧ GoodS x := by
  obtain ⟨us, xs, rfl, h, a, b⟩ := good_split g l
  obtain ⟨v, rfl⟩ := List.length_eq_one_iff.mp h
  obtain ⟨x, t, rfl, q⟩ := b v (.head _)
  exact ⟨us, x, t, rfl, a, q⟩
theorem good_reads : ∀ {xs : List Value}, GoodV xs → ∃ ds as, (∀ h, ReadsAll h xs ds as) ∧ PyData.canLayAll0 ds = true ∧ PyData.depthAll ds ≤ 1
  | [], _ => ⟨[], _, fun _ => .nil, rfl, Nat.zero_le _⟩
  | v :: xs, g => by
    obtain ⟨ds, as, r, c, d⟩ := good_reads (xs := xs) fun u hu => g u (.tail _ hu)
    obtain ⟨x, t, rfl, q⟩ := g v (.head _)
    refine ⟨.str x :: ds, _, fun h => .cons (.str _ _) (r h), ?_, ?_⟩
    · simp only [PyData.canLayAll0, PyData.canLay0, goodS_ok q, c, Bool.and_self]
    · simp only [PyData.depthAll, PyData.depth]; omega
theorem lamV_one {x : Str} {r : Value} (n : x ≠ ss "F") (h : lamV [.str x] r) : ∃ t, r = .str (ss "v") t := by
  unfold lamV at h
  rwa [if_neg (by simp [PyData.eqv, PyData.eqvAll, n])] at h
theorem lamV_two {a b : PyData} {l : List PyData} {r : Value} (h : lamV (a :: b :: l) r) : ∃ t, r = .str (ss "v") t := by
  unfold lamV at h
  rwa [if_neg (by simp [PyData.eqv, PyData.eqvAll])] at h
theorem lamV_F {r : Value} (h : lamV [.str (ss "F")] r) : r = .none := by
  unfold lamV at h
  rwa [if_pos (by simp [PyData.eqv, PyData.eqvAll])] at h
inductive Ran (w : World) (wa wd ga : Addr) (t1 t2 t3 t4 : Tok) (ha hd : Addr) (r1 r2 r3 : Tok) (la : Addr) (lb ln pm ctv : Value) (lc : Addr) (h' : Nat) (gs' : List Value) (r : Value) (own' : List (Addr × Obj)) : Prop
  | mk (er : r = .bool true) (sb : Addr) (n1' n2' : Nat) (fv' : Value) (vs' : List Value) (d7 : Dist7 wa wd sb ga ha hd la) (gf : GoodF fv') (gv : GoodV vs') (hl : vs'.length = h') (eo : own' = MN w wa wd sb ga t1 t2 t3 t4 fv' vs' gs' n1' n2' ha hd r1 r2 r3 la lb ln pm ctv lc)
theorem part_given (w : World) (wa wd sa ga : Addr) (t1 t2 t3 t4 : Tok) (fv : Value) (vs gs : List Value) (n1 n2 : Nat) (ha hd : Addr) (r1 r2 r3 : Tok) (la : Addr) (lb ln pm ctv : Value) (lc : Addr) (nd : Dist7 wa wd sa ga ha hd la) (hz : vs.length ≤ 1000) (hg : GoodV vs) (hf : GoodF fv) (v : Value) (h2 : 2 ≤ vs.length) :
    OCon w 345 [.ref wa, v, .ref ha] (MN w wa wd sa ga t1 t2 t3 t4 fv vs gs n1 n2 ha hd r1 r2 r3 la lb ln pm ctv lc) 20 1000 (fun h => OrdS (HS h) v .given ∧ h.CodeRec (.ref lc) lamQ) (Ran w wa wd ga t1 t2 t3 t4 ha hd r1 r2 r3 la lb ln pm ctv lc (vs.length - 1) gs) := by
  refine OCon.of fun A s Q E g hh hdp hu hgg G h1 hp hret => ?_
  obtain ⟨⟨a, l, rfl, hT, t, u, rfl⟩, hcd⟩ := hp
  replace hT := hT.heap
  have n4 := nd.1
  have n3 := nd.2.2.2.2.2
  refine Dist7.all nd fun q1 q2 q3 q4 q5 q6 q7 q8 q9 q10 q11 q12 q13 q14 q15 q16 q17 q18 q19 q20 q21 => ?_
  obtain ⟨us1, x, tx, rfl, g1, gx⟩ := good_last hg (by omega)
  simp only [List.length_append, List.length_cons, List.length_nil] at h2 hz
  obtain ⟨us, y, ty, rfl, g2, gy⟩ := good_last g1 (by omega)
  simp only [List.length_append, List.length_cons, List.length_nil] at h2 hz
  refine enterO (own := MN w wa wd sa ga t1 t2 t3 t4 fv (us ++ [Value.str y ty] ++ [Value.str x tx]) gs n1 n2 ha hd r1 r2 r3 la lb ln pm ctv lc) (binds := [(ss "work", .ref wa), (ss "order", .ref a), (ss "hooks", .ref ha)]) hgg G h1 hret (B := ?B) (S := ?S) ?hB ?hS (by k_is) (by k_is) (lt0 (by assumption)) (BindsTo.of_eq rfl) (locs rfl) rfl rfl rfl (by decide) ?_
  case hB => conv => lhs; whnf
  case hS => conv => lhs; whnf
  have X := G.K
  clear hret G hgg h1
  intro s1 Q1 L loose mean mg mb T F N hret _
  dsimp only [WN, HN, MN, List.cons_append, List.nil_append] at N
  k_steps
  rename News _ _ _ _ => N
  refine use_oc (own := WN w wa wd sa ga t1 t2 t3 t4 fv .none (us ++ [Value.str y ty] ++ [Value.str x tx]) gs n1 n2) (rest := HN w ha hd r1 r2 r3 la lb ln pm ctv lc) (pop_con w wa wd sa ga t1 t2 t3 t4 fv .none (us ++ [Value.str y ty]) gs n1 n2 n4 x tx (by simp only [List.length_append, List.length_cons, List.length_nil]; omega)) (by exact hh) (by show A.depth + 1 + _ < _; first | exact dlt (by assumption) (by decide) | exact dlt1 (by assumption) (by decide) | exact dlt2 (by assumption) (by decide) | exact dh ‹_› ‹_› (by decide) | exact dh0 ‹_› ‹_› (by decide) | exact dhs ‹_› ‹_› (by decide) | exact dm0 ‹_› ‹_› (by decide) | exact dl3 ‹_› (by decide) | exact dlt2 ‹_› (by decide) | omega) (by show A.units + 3 + _ < _; first | exact dlt (by assumption) (by decide) | exact dlt1 (by assumption) (by decide) | exact dlt2 (by assumption) (by decide) | exact dh ‹_› ‹_› (by decide) | exact dh0 ‹_› ‹_› (by decide) | exact dhs ‹_› ‹_› (by decide) | exact dm0 ‹_› ‹_› (by decide) | exact dl3 ‹_› (by decide) | exact dlt2 ‹_› (by decide) | omega) X T (by assumption) (by first | exact N | exact News.swap N | exact Mine.News.sub N (by (try dsimp only [WN, HN, MN, List.cons_append, List.nil_append]); lcg_sub)) (by first | assumption | exact Apart.symm (by assumption) | exact Dist7.apart (by assumption) | exact Apart.symm (Dist7.apart (by assumption)) | repeat (first | exact Apart.nil_left | refine Apart.cons (by k_all) ?_)) (fun _ _ => trivial) ?_
  intro PQ
  clear N
  rintro v1 h1 tk1 own1 F1 N1 ap1 ⟨rfl, m1, rfl⟩
  try dsimp only [WN, HN, MN, List.cons_append, List.nil_append] at N1
  k_steps
  rename News _ _ _ _ => N
  refine use_oc (own := WN w wa wd sa ga t1 t2 t3 t4 fv .none (us ++ [Value.str y ty]) gs m1 n2) (rest := HN w ha hd r1 r2 r3 la lb ln pm ctv lc) (pop_con w wa wd sa ga t1 t2 t3 t4 fv .none us gs m1 n2 n4 y ty (by omega)) (by exact hh) (by show A.depth + 1 + _ < _; first | exact dlt (by assumption) (by decide) | exact dlt1 (by assumption) (by decide) | exact dlt2 (by assumption) (by decide) | exact dh ‹_› ‹_› (by decide) | exact dh0 ‹_› ‹_› (by decide) | exact dhs ‹_› ‹_› (by decide) | exact dm0 ‹_› ‹_› (by decide) | exact dl3 ‹_› (by decide) | exact dlt2 ‹_› (by decide) | omega) (by show A.units + 3 + _ < _; first | exact dlt (by assumption) (by decide) | exact dlt1 (by assumption) (by decide) | exact dlt2 (by assumption) (by decide) | exact dh ‹_› ‹_› (by decide) | exact dh0 ‹_› ‹_› (by decide) | exact dhs ‹_› ‹_› (by decide) | exact dm0 ‹_› ‹_› (by decide) | exact dl3 ‹_› (by decide) | exact dlt2 ‹_› (by decide) | omega) X T (by assumption) (by first | exact N | exact News.swap N | exact Mine.News.sub N (by (try dsimp only [WN, HN, MN, List.cons_append, List.nil_append]); lcg_sub)) (by first | assumption | exact Apart.symm (by assumption) | exact Dist7.apart (by assumption) | exact Apart.symm (Dist7.apart (by assumption)) | repeat (first | exact Apart.nil_left | refine Apart.cons (by k_all) ?_)) (fun _ _ => trivial) ?_
  intro PQ
  clear N
  rintro v2 h2 tk2 own2 F2 N2 ap2 ⟨rfl, m2, rfl⟩
  try dsimp only [WN, HN, MN, List.cons_append, List.nil_append] at N2
  k_steps
  rename News _ _ _ _ => N
  refine use_oc (own := HN w ha hd r1 r2 r3 la lb ln pm ctv lc) (rest := WN w wa wd sa ga t1 t2 t3 t4 fv .none us gs m2 n2) (hk_given_part w ha hd r1 r2 r3 la lb ln pm ctv lc n3 (Value.str (ss ".") u) (Value.str y ty) (Value.str x tx) (PyData.str (ss ".")) (PyData.str y) (PyData.str x) (by simp only [PyData.canLayAll0, PyData.canLay0, goodS_ok gx, goodS_ok gy, Bool.and_true, Bool.true_and]; kernel_rfl!) (by simp only [PyData.depthAll, PyData.depth]; first | decide | exact mxd1 ‹_› | exact mxd2 ‹_› | omega)) (by exact hh) (by show A.depth + 1 + _ < _; first | exact dlt (by assumption) (by decide) | exact dlt1 (by assumption) (by decide) | exact dlt2 (by assumption) (by decide) | exact dh ‹_› ‹_› (by decide) | exact dh0 ‹_› ‹_› (by decide) | exact dhs ‹_› ‹_› (by decide) | exact dm0 ‹_› ‹_› (by decide) | exact dl3 ‹_› (by decide) | exact dlt2 ‹_› (by decide) | omega) (by show A.units + 3 + _ < _; first | exact dlt (by assumption) (by decide) | exact dlt1 (by assumption) (by decide) | exact dlt2 (by assumption) (by decide) | exact dh ‹_› ‹_› (by decide) | exact dh0 ‹_› ‹_› (by decide) | exact dhs ‹_› ‹_› (by decide) | exact dm0 ‹_› ‹_› (by decide) | exact dl3 ‹_› (by decide) | exact dlt2 ‹_› (by decide) | omega) X T (by assumption) (by first | exact N | exact News.swap N | exact Mine.News.sub N (by (try dsimp only [WN, HN, MN, List.cons_append, List.nil_append]); lcg_sub)) (by first | assumption | exact Apart.symm (by assumption) | exact Dist7.apart (by assumption) | exact Apart.symm (Dist7.apart (by assumption)) | repeat (first | exact Apart.nil_left | refine Apart.cons (by k_all) ?_)) (fun st hr => ⟨hcd.keeps st, _, .cons (.str _ _) (.cons (.str _ _) (.cons (.str _ _) .nil))⟩) ?_
  intro PQ
  clear N
  rintro v3 h3 tk3 own3 F3 N3 ap3 ⟨hv, rfl⟩
  try dsimp only [WN, HN, MN, List.cons_append, List.nil_append] at N3
  obtain ⟨tv3, rfl⟩ := lamV_two hv
  k_steps
  rename News _ _ _ _ => N
  refine use_oc (own := WN w wa wd sa ga t1 t2 t3 t4 fv .none us gs m2 n2) (rest := HN w ha hd r1 r2 r3 la lb ln pm ctv lc) (push_con w wa wd sa ga t1 t2 t3 t4 fv .none us gs m2 n2 n4 (ss "v") tv3 (by omega)) (by exact hh) (by show A.depth + 1 + _ < _; first | exact dlt (by assumption) (by decide) | exact dlt1 (by assumption) (by decide) | exact dlt2 (by assumption) (by decide) | exact dh ‹_› ‹_› (by decide) | exact dh0 ‹_› ‹_› (by decide) | exact dhs ‹_› ‹_› (by decide) | exact dm0 ‹_› ‹_› (by decide) | exact dl3 ‹_› (by decide) | exact dlt2 ‹_› (by decide) | omega) (by show A.units + 3 + _ < _; first | exact dlt (by assumption) (by decide) | exact dlt1 (by assumption) (by decide) | exact dlt2 (by assumption) (by decide) | exact dh ‹_› ‹_› (by decide) | exact dh0 ‹_› ‹_› (by decide) | exact dhs ‹_› ‹_› (by decide) | exact dm0 ‹_› ‹_› (by decide) | exact dl3 ‹_› (by decide) | exact dlt2 ‹_› (by decide) | omega) X T (by assumption) (by first | exact N | exact News.swap N | exact Mine.News.sub N (by (try dsimp only [WN, HN, MN, List.cons_append, List.nil_append]); lcg_sub)) (by first | assumption | exact Apart.symm (by assumption) | exact Dist7.apart (by assumption) | exact Apart.symm (Dist7.apart (by assumption)) | repeat (first | exact Apart.nil_left | refine Apart.cons (by k_all) ?_)) (fun _ _ => trivial) ?_
  intro PQ
  clear N
  rintro v4 h4 tk4 own4 F4 N4 ap4 ⟨rfl, m4, rfl⟩
  try dsimp only [WN, HN, MN, List.cons_append, List.nil_append] at N4
  k_steps
  try dsimp only
  rename News _ _ _ _ => N
  exact hret _ _ _ (MN w wa wd sa ga t1 t2 t3 t4 fv (us ++ [Value.str (ss "v") tv3]) gs m4 n2 ha hd r1 r2 r3 la lb ln pm ctv lc) (Fr.keep (by assumption)) (own_endg (by first | exact N | exact News.swap N | exact Mine.News.sub N (by dsimp only [WN, HN, MN, List.cons_append, List.nil_append]; lcg_sub))) ⟨rfl, sa, m4, n2, fv, (us ++ [Value.str (ss "v") tv3]), nd, hf, g2.snoc good_v, by first | exact rfl | exact sb2 ‹_› | exact sb1 ‹_› | exact sbn ‹_› | exact sbc ‹_› | omega | (simp only [List.length_append, List.length_cons, List.length_nil] at *; first | exact rfl | exact sb2 ‹_› | exact sb1 ‹_› | exact sbn ‹_› | exact sbc ‹_› | omega) | simp only [List.length_append, List.length_cons, List.length_nil], rfl⟩
end
section
set_option maxHeartbeats 0
set_option rowWalk.seconds 0

theorem neg_last (us : List Value) (v : Value) : seqIndex? (-1) (us ++ [v]).length = some us.length := by
  rw [PySem.MeetsSeq.seqIndex_neg (by omega) (by simp; omega)]
  congr 1
  simp only [List.length_append, List.length_cons, List.length_nil]
  omega
theorem good_two {vs : List Value} (g : GoodV vs) (l : 2 ≤ vs.length) : ∃ us y ty x tx, vs = us ++ [Value.str y ty, Value.str x tx] ∧ GoodV us ∧ GoodS y ∧ GoodS x := by
  obtain ⟨us, xs, rfl, h, a, b⟩ := good_split g l
  cases xs with
  | nil => cases h
  | cons v r =>
    obtain ⟨u, rfl⟩ := List.length_eq_one_iff.mp (Nat.succ.inj h)
    obtain ⟨y, ty, rfl, q⟩ := b v (.head _)
    obtain ⟨x, tx, rfl, q'⟩ := b u (.tail _ (.head _))
    exact ⟨us, y, ty, x, tx, rfl, a, q, q'⟩
theorem deed_match (w : World) (wa wd sa ga : Addr) (t1 t2 t3 t4 : Tok) (fv : Value) (vs gs : List Value) (n1 n2 : Nat) (ha hd : Addr) (r1 r2 r3 : Tok) (la : Addr) (lb ln pm ctv : Value) (lc : Addr) (nd : Dist7 wa wd sa ga ha hd la) (hz : vs.length ≤ 1000) (hg : GoodV vs) (hf : GoodF fv) (tw : Tok) (h2 : 2 ≤ vs.length) :
    OCon w 352 [.ref wa, .str (ss "MATCH") tw, .ref ha] (MN w wa wd sa ga t1 t2 t3 t4 fv vs gs n1 n2 ha hd r1 r2 r3 la lb ln pm ctv lc) 20 1000 (fun h => h.CodeRec (.ref lc) lamQ) (Ran w wa wd ga t1 t2 t3 t4 ha hd r1 r2 r3 la lb ln pm ctv lc (vs.length - 2) gs) := by
  refine OCon.of fun A s Q E g hh hdp hu hgg G h1 hcd hret => ?_
  have n4 := nd.1
  have n3 := nd.2.2.2.2.2
  refine Dist7.all nd fun q1 q2 q3 q4 q5 q6 q7 q8 q9 q10 q11 q12 q13 q14 q15 q16 q17 q18 q19 q20 q21 => ?_
  obtain ⟨us, y, ty, x, tx, rfl, g2, gy, gx⟩ := good_two hg (by omega)
  simp only [List.length_append, List.length_cons, List.length_nil] at h2 hz
  refine enterO (own := MN w wa wd sa ga t1 t2 t3 t4 fv (us ++ [Value.str y ty, Value.str x tx]) gs n1 n2 ha hd r1 r2 r3 la lb ln pm ctv lc) (binds := [(ss "work", .ref wa), (ss "word", .str (ss "MATCH") tw), (ss "hooks", .ref ha)]) hgg G h1 hret (B := ?B) (S := ?S) ?hB ?hS (by k_is) (by k_is) (lt0 (by assumption)) (BindsTo.of_eq rfl) (locs rfl) rfl rfl rfl (by decide) ?_
  case hB => conv => lhs; whnf
  case hS => conv => lhs; whnf
  have X := G.K
  clear hret G hgg h1
  intro s1 Q1 L loose mean mg mb T F N hret _
  dsimp only [WN, HN, MN, List.cons_append, List.nil_append] at N
  k_steps
  rename News _ _ _ _ => N
  refine use_oc (own := WN w wa wd sa ga t1 t2 t3 t4 fv .none (us ++ [Value.str y ty, Value.str x tx]) gs n1 n2) (rest := HN w ha hd r1 r2 r3 la lb ln pm ctv lc) (take_con w wa wd sa ga t1 t2 t3 t4 fv .none us [Value.str y ty, Value.str x tx] gs n1 n2 n4 2 _ rfl (by omega) (by omega)) (by exact hh) (by show A.depth + 1 + _ < _; first | exact dlt (by assumption) (by decide) | exact dlt1 (by assumption) (by decide) | exact dlt2 (by assumption) (by decide) | exact dh ‹_› ‹_› (by decide) | exact dh0 ‹_› ‹_› (by decide) | exact dhs ‹_› ‹_› (by decide) | exact dm0 ‹_› ‹_› (by decide) | exact dl3 ‹_› (by decide) | exact dlt2 ‹_› (by decide) | omega) (by show A.units + 3 + _ < _; first | exact dlt (by assumption) (by decide) | exact dlt1 (by assumption) (by decide) | exact dlt2 (by assumption) (by decide) | exact dh ‹_› ‹_› (by decide) | exact dh0 ‹_› ‹_› (by decide) | exact dhs ‹_› ‹_› (by decide) | exact dm0 ‹_› ‹_› (by decide) | exact dl3 ‹_› (by decide) | exact dlt2 ‹_› (by decide) | omega) X T (by assumption) (by first | exact N | exact News.swap N | exact Mine.News.sub N (by (try dsimp only [WN, HN, MN, List.cons_append, List.nil_append]); lcg_sub)) (by first | assumption | exact Apart.symm (by assumption) | exact Dist7.apart (by assumption) | exact Apart.symm (Dist7.apart (by assumption)) | repeat (first | exact Apart.nil_left | refine Apart.cons (by k_all) ?_)) (fun _ _ => trivial) ?_
  intro PQ
  clear N
  rintro v1 h1 tk1 own1 F1 N1 ap1 ⟨ka1, sb1, k1, m1, rfl, nn1, nk1, rfl⟩
  try dsimp only [WN, HN, MN, List.cons_append, List.nil_append] at N1
  have ax1 : DistP ha hd la sb1 := ⟨Ne.symm (ap1 (sb1, lstO us m1) (.tail _ (.tail _ (.tail _ (.head _)))) (ha, instObj 327 hd) (.head _)), Ne.symm (ap1 (sb1, lstO us m1) (.tail _ (.tail _ (.tail _ (.head _)))) (hd, dictOf (hookE w r1 r2 r3 la lb ln) 3) (.tail _ (.head _))), Ne.symm (ap1 (sb1, lstO us m1) (.tail _ (.tail _ (.tail _ (.head _)))) (la, lamO pm ctv lc) (.tail _ (.tail _ (.head _))))⟩
  have ay1 : DistP ha hd la ka1 := ⟨Ne.symm (ap1 (ka1, lstO [Value.str y ty, Value.str x tx] k1) (.head _) (ha, instObj 327 hd) (.head _)), Ne.symm (ap1 (ka1, lstO [Value.str y ty, Value.str x tx] k1) (.head _) (hd, dictOf (hookE w r1 r2 r3 la lb ln) 3) (.tail _ (.head _))), Ne.symm (ap1 (ka1, lstO [Value.str y ty, Value.str x tx] k1) (.head _) (la, lamO pm ctv lc) (.tail _ (.tail _ (.head _))))⟩
  have nx1 := dist_new nd nn1 ax1
  refine DistP.all ax1 fun ax1h1 ax1h2 ax1h3 => ?_
  refine DistP.all ay1 fun ay1h1 ay1h2 ay1h3 => ?_
  refine DistK.all nk1 fun nk1h1 nk1h2 nk1h3 nk1h4 => ?_
  refine Dist4.all nn1 fun nn1h1 nn1h2 nn1h3 nn1h4 nn1h5 nn1h6 => ?_
  k_steps
  rename News _ _ _ _ => N
  refine use_oc (own := HN w ha hd r1 r2 r3 la lb ln pm ctv lc) (rest := WN w wa wd sb1 ga t1 t2 t3 t4 fv .none us gs m1 n2) (hk_matched w ha hd r1 r2 r3 la lb ln pm ctv lc n3 (Value.str y ty) (Value.str x tx) (PyData.str y) (PyData.str x) (by simp only [PyData.canLayAll0, PyData.canLay0, goodS_ok gx, goodS_ok gy, Bool.and_true, Bool.true_and]) (by simp only [PyData.depthAll, PyData.depth]; first | decide | exact mxd1 ‹_› | exact mxd2 ‹_› | omega)) (by exact hh) (by show A.depth + 1 + _ < _; first | exact dlt (by assumption) (by decide) | exact dlt1 (by assumption) (by decide) | exact dlt2 (by assumption) (by decide) | exact dh ‹_› ‹_› (by decide) | exact dh0 ‹_› ‹_› (by decide) | exact dhs ‹_› ‹_› (by decide) | exact dm0 ‹_› ‹_› (by decide) | exact dl3 ‹_› (by decide) | exact dlt2 ‹_› (by decide) | omega) (by show A.units + 3 + _ < _; first | exact dlt (by assumption) (by decide) | exact dlt1 (by assumption) (by decide) | exact dlt2 (by assumption) (by decide) | exact dh ‹_› ‹_› (by decide) | exact dh0 ‹_› ‹_› (by decide) | exact dhs ‹_› ‹_› (by decide) | exact dm0 ‹_› ‹_› (by decide) | exact dl3 ‹_› (by decide) | exact dlt2 ‹_› (by decide) | omega) X T (by assumption) (by first | exact N | exact News.swap N | exact Mine.News.sub N (by (try dsimp only [WN, HN, MN, List.cons_append, List.nil_append]); lcg_sub)) (by first | assumption | exact Apart.symm (by assumption) | exact Dist7.apart (by assumption) | exact Apart.symm (Dist7.apart (by assumption)) | repeat (first | exact Apart.nil_left | refine Apart.cons (by k_all) ?_)) (fun st hr => ⟨hcd.keeps st, _, .cons (.str _ _) (.cons (.str _ _) .nil)⟩) ?_
  intro PQ
  clear N
  rintro v2 h2 tk2 own2 F2 N2 ap2 ⟨hv, rfl⟩
  try dsimp only [WN, HN, MN, List.cons_append, List.nil_append] at N2
  obtain ⟨tv2, rfl⟩ := lamV_two hv
  k_steps
  try dsimp only
  rename News _ _ _ _ => N
  exact hret _ _ _ (MN w wa wd sb1 ga t1 t2 t3 t4 (Value.str (ss "v") tv2) us gs m1 n2 ha hd r1 r2 r3 la lb ln pm ctv lc) (Fr.keep (by assumption)) (own_endg (by first | exact N | exact News.swap N | exact Mine.News.sub N (by dsimp only [WN, HN, MN, List.cons_append, List.nil_append]; lcg_sub))) ⟨rfl, sb1, m1, n2, (Value.str (ss "v") tv2), us, nx1, (.inr ⟨_, _, rfl, good_v⟩), g2, by first | exact rfl | exact sb2 ‹_› | exact sb1 ‹_› | exact sbn ‹_› | exact sbc ‹_› | omega | (simp only [List.length_append, List.length_cons, List.length_nil] at *; first | exact rfl | exact sb2 ‹_› | exact sb1 ‹_› | exact sbn ‹_› | exact sbc ‹_› | omega) | simp only [List.length_append, List.length_cons, List.length_nil], rfl⟩
theorem deed_assign (w : World) (wa wd sa ga : Addr) (t1 t2 t3 t4 : Tok) (fv : Value) (vs gs : List Value) (n1 n2 : Nat) (ha hd : Addr) (r1 r2 r3 : Tok) (la : Addr) (lb ln pm ctv : Value) (lc : Addr) (nd : Dist7 wa wd sa ga ha hd la) (hz : vs.length ≤ 1000) (hg : GoodV vs) (hf : GoodF fv) (tw : Tok) (h2 : 2 ≤ vs.length) :
    OCon w 352 [.ref wa, .str (ss "ASSIGN") tw, .ref ha] (MN w wa wd sa ga t1 t2 t3 t4 fv vs gs n1 n2 ha hd r1 r2 r3 la lb ln pm ctv lc) 20 1000 (fun h => h.CodeRec (.ref lc) lamQ) (Ran w wa wd ga t1 t2 t3 t4 ha hd r1 r2 r3 la lb ln pm ctv lc (vs.length - 2) gs) := by
  refine OCon.of fun A s Q E g hh hdp hu hgg G h1 hcd hret => ?_
  have n4 := nd.1
  have n3 := nd.2.2.2.2.2
  refine Dist7.all nd fun q1 q2 q3 q4 q5 q6 q7 q8 q9 q10 q11 q12 q13 q14 q15 q16 q17 q18 q19 q20 q21 => ?_
  obtain ⟨us, y, ty, x, tx, rfl, g2, gy, gx⟩ := good_two hg (by omega)
  simp only [List.length_append, List.length_cons, List.length_nil] at h2 hz
  refine enterO (own := MN w wa wd sa ga t1 t2 t3 t4 fv (us ++ [Value.str y ty, Value.str x tx]) gs n1 n2 ha hd r1 r2 r3 la lb ln pm ctv lc) (binds := [(ss "work", .ref wa), (ss "word", .str (ss "ASSIGN") tw), (ss "hooks", .ref ha)]) hgg G h1 hret (B := ?B) (S := ?S) ?hB ?hS (by k_is) (by k_is) (lt0 (by assumption)) (BindsTo.of_eq rfl) (locs rfl) rfl rfl rfl (by decide) ?_
  case hB => conv => lhs; whnf
  case hS => conv => lhs; whnf
  have X := G.K
  clear hret G hgg h1
  intro s1 Q1 L loose mean mg mb T F N hret _
  dsimp only [WN, HN, MN, List.cons_append, List.nil_append] at N
  k_steps
  rename News _ _ _ _ => N
  refine use_oc (own := WN w wa wd sa ga t1 t2 t3 t4 fv .none (us ++ [Value.str y ty, Value.str x tx]) gs n1 n2) (rest := HN w ha hd r1 r2 r3 la lb ln pm ctv lc) (take_con w wa wd sa ga t1 t2 t3 t4 fv .none us [Value.str y ty, Value.str x tx] gs n1 n2 n4 2 _ rfl (by omega) (by omega)) (by exact hh) (by show A.depth + 1 + _ < _; first | exact dlt (by assumption) (by decide) | exact dlt1 (by assumption) (by decide) | exact dlt2 (by assumption) (by decide) | exact dh ‹_› ‹_› (by decide) | exact dh0 ‹_› ‹_› (by decide) | exact dhs ‹_› ‹_› (by decide) | exact dm0 ‹_› ‹_› (by decide) | exact dl3 ‹_› (by decide) | exact dlt2 ‹_› (by decide) | omega) (by show A.units + 3 + _ < _; first | exact dlt (by assumption) (by decide) | exact dlt1 (by assumption) (by decide) | exact dlt2 (by assumption) (by decide) | exact dh ‹_› ‹_› (by decide) | exact dh0 ‹_› ‹_› (by decide) | exact dhs ‹_› ‹_› (by decide) | exact dm0 ‹_› ‹_› (by decide) | exact dl3 ‹_› (by decide) | exact dlt2 ‹_› (by decide) | omega) X T (by assumption) (by first | exact N | exact News.swap N | exact Mine.News.sub N (by (try dsimp only [WN, HN, MN, List.cons_append, List.nil_append]); lcg_sub)) (by first | assumption | exact Apart.symm (by assumption) | exact Dist7.apart (by assumption) | exact Apart.symm (Dist7.apart (by assumption)) | repeat (first | exact Apart.nil_left | refine Apart.cons (by k_all) ?_)) (fun _ _ => trivial) ?_
  intro PQ
  clear N
  rintro v1 h1 tk1 own1 F1 N1 ap1 ⟨ka1, sb1, k1, m1, rfl, nn1, nk1, rfl⟩
  try dsimp only [WN, HN, MN, List.cons_append, List.nil_append] at N1
  have ax1 : DistP ha hd la sb1 := ⟨Ne.symm (ap1 (sb1, lstO us m1) (.tail _ (.tail _ (.tail _ (.head _)))) (ha, instObj 327 hd) (.head _)), Ne.symm (ap1 (sb1, lstO us m1) (.tail _ (.tail _ (.tail _ (.head _)))) (hd, dictOf (hookE w r1 r2 r3 la lb ln) 3) (.tail _ (.head _))), Ne.symm (ap1 (sb1, lstO us m1) (.tail _ (.tail _ (.tail _ (.head _)))) (la, lamO pm ctv lc) (.tail _ (.tail _ (.head _))))⟩
  have ay1 : DistP ha hd la ka1 := ⟨Ne.symm (ap1 (ka1, lstO [Value.str y ty, Value.str x tx] k1) (.head _) (ha, instObj 327 hd) (.head _)), Ne.symm (ap1 (ka1, lstO [Value.str y ty, Value.str x tx] k1) (.head _) (hd, dictOf (hookE w r1 r2 r3 la lb ln) 3) (.tail _ (.head _))), Ne.symm (ap1 (ka1, lstO [Value.str y ty, Value.str x tx] k1) (.head _) (la, lamO pm ctv lc) (.tail _ (.tail _ (.head _))))⟩
  have nx1 := dist_new nd nn1 ax1
  refine DistP.all ax1 fun ax1h1 ax1h2 ax1h3 => ?_
  refine DistP.all ay1 fun ay1h1 ay1h2 ay1h3 => ?_
  refine DistK.all nk1 fun nk1h1 nk1h2 nk1h3 nk1h4 => ?_
  refine Dist4.all nn1 fun nn1h1 nn1h2 nn1h3 nn1h4 nn1h5 nn1h6 => ?_
  k_steps
  rename News _ _ _ _ => N
  refine use_oc (own := HN w ha hd r1 r2 r3 la lb ln pm ctv lc) (rest := WN w wa wd sb1 ga t1 t2 t3 t4 fv .none us gs m1 n2) (hk_assign w ha hd r1 r2 r3 la lb ln pm ctv lc n3 (Value.str y ty) (Value.str x tx) (PyData.str y) (PyData.str x) (by simp only [PyData.canLayAll0, PyData.canLay0, goodS_ok gx, goodS_ok gy, Bool.and_true, Bool.true_and]) (by simp only [PyData.depthAll, PyData.depth]; first | decide | exact mxd1 ‹_› | exact mxd2 ‹_› | omega)) (by exact hh) (by show A.depth + 1 + _ < _; first | exact dlt (by assumption) (by decide) | exact dlt1 (by assumption) (by decide) | exact dlt2 (by assumption) (by decide) | exact dh ‹_› ‹_› (by decide) | exact dh0 ‹_› ‹_› (by decide) | exact dhs ‹_› ‹_› (by decide) | exact dm0 ‹_› ‹_› (by decide) | exact dl3 ‹_› (by decide) | exact dlt2 ‹_› (by decide) | omega) (by show A.units + 3 + _ < _; first | exact dlt (by assumption) (by decide) | exact dlt1 (by assumption) (by decide) | exact dlt2 (by assumption) (by decide) | exact dh ‹_› ‹_› (by decide) | exact dh0 ‹_› ‹_› (by decide) | exact dhs ‹_› ‹_› (by decide) | exact dm0 ‹_› ‹_› (by decide) | exact dl3 ‹_› (by decide) | exact dlt2 ‹_› (by decide) | omega) X T (by assumption) (by first | exact N | exact News.swap N | exact Mine.News.sub N (by (try dsimp only [WN, HN, MN, List.cons_append, List.nil_append]); lcg_sub)) (by first | assumption | exact Apart.symm (by assumption) | exact Dist7.apart (by assumption) | exact Apart.symm (Dist7.apart (by assumption)) | repeat (first | exact Apart.nil_left | refine Apart.cons (by k_all) ?_)) (fun st hr => ⟨hcd.keeps st, _, .cons (.str _ _) (.cons (.str _ _) .nil)⟩) ?_
  intro PQ
  clear N
  rintro v2 h2 tk2 own2 F2 N2 ap2 ⟨rfl, rfl⟩
  try dsimp only [WN, HN, MN, List.cons_append, List.nil_append] at N2
  k_steps
  try dsimp only
  rename News _ _ _ _ => N
  exact hret _ _ _ (MN w wa wd sb1 ga t1 t2 t3 t4 fv us gs m1 n2 ha hd r1 r2 r3 la lb ln pm ctv lc) (Fr.keep (by assumption)) (own_endg (by first | exact N | exact News.swap N | exact Mine.News.sub N (by dsimp only [WN, HN, MN, List.cons_append, List.nil_append]; lcg_sub))) ⟨rfl, sb1, m1, n2, fv, us, nx1, hf, g2, by first | exact rfl | exact sb2 ‹_› | exact sb1 ‹_› | exact sbn ‹_› | exact sbc ‹_› | omega | (simp only [List.length_append, List.length_cons, List.length_nil] at *; first | exact rfl | exact sb2 ‹_› | exact sb1 ‹_› | exact sbn ‹_› | exact sbc ‹_› | omega) | simp only [List.length_append, List.length_cons, List.length_nil], rfl⟩
theorem deed_replace (w : World) (wa wd sa ga : Addr) (t1 t2 t3 t4 : Tok) (fv : Value) (vs gs : List Value) (n1 n2 : Nat) (ha hd : Addr) (r1 r2 r3 : Tok) (la : Addr) (lb ln pm ctv : Value) (lc : Addr) (nd : Dist7 wa wd sa ga ha hd la) (hz : vs.length ≤ 1000) (hg : GoodV vs) (hf : GoodF fv) (tw : Tok) (h2 : 2 ≤ vs.length) :
    OCon w 352 [.ref wa, .str (ss "REPLACE") tw, .ref ha] (MN w wa wd sa ga t1 t2 t3 t4 fv vs gs n1 n2 ha hd r1 r2 r3 la lb ln pm ctv lc) 20 1000 (fun h => h.CodeRec (.ref lc) lamQ) (Ran w wa wd ga t1 t2 t3 t4 ha hd r1 r2 r3 la lb ln pm ctv lc (vs.length - 2) gs) := by
  refine OCon.of fun A s Q E g hh hdp hu hgg G h1 hcd hret => ?_
  have n4 := nd.1
  have n3 := nd.2.2.2.2.2
  refine Dist7.all nd fun q1 q2 q3 q4 q5 q6 q7 q8 q9 q10 q11 q12 q13 q14 q15 q16 q17 q18 q19 q20 q21 => ?_
  obtain ⟨us, y, ty, x, tx, rfl, g2, gy, gx⟩ := good_two hg (by omega)
  simp only [List.length_append, List.length_cons, List.length_nil] at h2 hz
  rcases hf with rfl | ⟨z, tz, rfl, gz⟩
  · refine enterO (own := MN w wa wd sa ga t1 t2 t3 t4 Value.none (us ++ [Value.str y ty, Value.str x tx]) gs n1 n2 ha hd r1 r2 r3 la lb ln pm ctv lc) (binds := [(ss "work", .ref wa), (ss "word", .str (ss "REPLACE") tw), (ss "hooks", .ref ha)]) hgg G h1 hret (B := ?B) (S := ?S) ?hB ?hS (by k_is) (by k_is) (lt0 (by assumption)) (BindsTo.of_eq rfl) (locs rfl) rfl rfl rfl (by decide) ?_
    case hB => conv => lhs; whnf
    case hS => conv => lhs; whnf
    have X := G.K
    clear hret G hgg h1
    intro s1 Q1 L loose mean mg mb T F N hret _
    dsimp only [WN, HN, MN, List.cons_append, List.nil_append] at N
    k_steps
    rename News _ _ _ _ => N
    refine use_oc (own := WN w wa wd sa ga t1 t2 t3 t4 Value.none .none (us ++ [Value.str y ty, Value.str x tx]) gs n1 n2) (rest := HN w ha hd r1 r2 r3 la lb ln pm ctv lc) (take_con w wa wd sa ga t1 t2 t3 t4 Value.none .none us [Value.str y ty, Value.str x tx] gs n1 n2 n4 2 _ rfl (by omega) (by omega)) (by exact hh) (by show A.depth + 1 + _ < _; first | exact dlt (by assumption) (by decide) | exact dlt1 (by assumption) (by decide) | exact dlt2 (by assumption) (by decide) | exact dh ‹_› ‹_› (by decide) | exact dh0 ‹_› ‹_› (by decide) | exact dhs ‹_› ‹_› (by decide) | exact dm0 ‹_› ‹_› (by decide) | exact dl3 ‹_› (by decide) | exact dlt2 ‹_› (by decide) | omega) (by show A.units + 3 + _ < _; first | exact dlt (by assumption) (by decide) | exact dlt1 (by assumption) (by decide) | exact dlt2 (by assumption) (by decide) | exact dh ‹_› ‹_› (by decide) | exact dh0 ‹_› ‹_› (by decide) | exact dhs ‹_› ‹_› (by decide) | exact dm0 ‹_› ‹_› (by decide) | exact dl3 ‹_› (by decide) | exact dlt2 ‹_› (by decide) | omega) X T (by assumption) (by first | exact N | exact News.swap N | exact Mine.News.sub N (by (try dsimp only [WN, HN, MN, List.cons_append, List.nil_append]); lcg_sub)) (by first | assumption | exact Apart.symm (by assumption) | exact Dist7.apart (by assumption) | exact Apart.symm (Dist7.apart (by assumption)) | repeat (first | exact Apart.nil_left | refine Apart.cons (by k_all) ?_)) (fun _ _ => trivial) ?_
    intro PQ
    clear N
    rintro v1 h1 tk1 own1 F1 N1 ap1 ⟨ka1, sb1, k1, m1, rfl, nn1, nk1, rfl⟩
    try dsimp only [WN, HN, MN, List.cons_append, List.nil_append] at N1
    have ax1 : DistP ha hd la sb1 := ⟨Ne.symm (ap1 (sb1, lstO us m1) (.tail _ (.tail _ (.tail _ (.head _)))) (ha, instObj 327 hd) (.head _)), Ne.symm (ap1 (sb1, lstO us m1) (.tail _ (.tail _ (.tail _ (.head _)))) (hd, dictOf (hookE w r1 r2 r3 la lb ln) 3) (.tail _ (.head _))), Ne.symm (ap1 (sb1, lstO us m1) (.tail _ (.tail _ (.tail _ (.head _)))) (la, lamO pm ctv lc) (.tail _ (.tail _ (.head _))))⟩
    have ay1 : DistP ha hd la ka1 := ⟨Ne.symm (ap1 (ka1, lstO [Value.str y ty, Value.str x tx] k1) (.head _) (ha, instObj 327 hd) (.head _)), Ne.symm (ap1 (ka1, lstO [Value.str y ty, Value.str x tx] k1) (.head _) (hd, dictOf (hookE w r1 r2 r3 la lb ln) 3) (.tail _ (.head _))), Ne.symm (ap1 (ka1, lstO [Value.str y ty, Value.str x tx] k1) (.head _) (la, lamO pm ctv lc) (.tail _ (.tail _ (.head _))))⟩
    have nx1 := dist_new nd nn1 ax1
    refine DistP.all ax1 fun ax1h1 ax1h2 ax1h3 => ?_
    refine DistP.all ay1 fun ay1h1 ay1h2 ay1h3 => ?_
    refine DistK.all nk1 fun nk1h1 nk1h2 nk1h3 nk1h4 => ?_
    refine Dist4.all nn1 fun nn1h1 nn1h2 nn1h3 nn1h4 nn1h5 nn1h6 => ?_
    k_steps
    rename News _ _ _ _ => N
    refine use_oc (own := HN w ha hd r1 r2 r3 la lb ln pm ctv lc) (rest := WN w wa wd sb1 ga t1 t2 t3 t4 Value.none .none us gs m1 n2) (hk_replace w ha hd r1 r2 r3 la lb ln pm ctv lc n3 (Value.str y ty) Value.none (Value.str x tx) (PyData.str y) PyData.none (PyData.str x) (by simp only [PyData.canLayAll0, PyData.canLay0, goodS_ok gx, goodS_ok gy, Bool.and_true, Bool.true_and]) (by simp only [PyData.depthAll, PyData.depth]; first | decide | exact mxd1 ‹_› | exact mxd2 ‹_› | omega)) (by exact hh) (by show A.depth + 1 + _ < _; first | exact dlt (by assumption) (by decide) | exact dlt1 (by assumption) (by decide) | exact dlt2 (by assumption) (by decide) | exact dh ‹_› ‹_› (by decide) | exact dh0 ‹_› ‹_› (by decide) | exact dhs ‹_› ‹_› (by decide) | exact dm0 ‹_› ‹_› (by decide) | exact dl3 ‹_› (by decide) | exact dlt2 ‹_› (by decide) | omega) (by show A.units + 3 + _ < _; first | exact dlt (by assumption) (by decide) | exact dlt1 (by assumption) (by decide) | exact dlt2 (by assumption) (by decide) | exact dh ‹_› ‹_› (by decide) | exact dh0 ‹_› ‹_› (by decide) | exact dhs ‹_› ‹_› (by decide) | exact dm0 ‹_› ‹_› (by decide) | exact dl3 ‹_› (by decide) | exact dlt2 ‹_› (by decide) | omega) X T (by assumption) (by first | exact N | exact News.swap N | exact Mine.News.sub N (by (try dsimp only [WN, HN, MN, List.cons_append, List.nil_append]); lcg_sub)) (by first | assumption | exact Apart.symm (by assumption) | exact Dist7.apart (by assumption) | exact Apart.symm (Dist7.apart (by assumption)) | repeat (first | exact Apart.nil_left | refine Apart.cons (by k_all) ?_)) (fun st hr => ⟨hcd.keeps st, _, .cons (.str _ _) (.cons .none (.cons (.str _ _) .nil))⟩) ?_
    intro PQ
    clear N
    rintro v2 h2 tk2 own2 F2 N2 ap2 ⟨rfl, rfl⟩
    try dsimp only [WN, HN, MN, List.cons_append, List.nil_append] at N2
    k_steps
    try dsimp only
    rename News _ _ _ _ => N
    exact hret _ _ _ (MN w wa wd sb1 ga t1 t2 t3 t4 Value.none us gs m1 n2 ha hd r1 r2 r3 la lb ln pm ctv lc) (Fr.keep (by assumption)) (own_endg (by first | exact N | exact News.swap N | exact Mine.News.sub N (by dsimp only [WN, HN, MN, List.cons_append, List.nil_append]; lcg_sub))) ⟨rfl, sb1, m1, n2, Value.none, us, nx1, (.inl rfl), g2, by first | exact rfl | exact sb2 ‹_› | exact sb1 ‹_› | exact sbn ‹_› | exact sbc ‹_› | omega | (simp only [List.length_append, List.length_cons, List.length_nil] at *; first | exact rfl | exact sb2 ‹_› | exact sb1 ‹_› | exact sbn ‹_› | exact sbc ‹_› | omega) | simp only [List.length_append, List.length_cons, List.length_nil], rfl⟩
  · refine enterO (own := MN w wa wd sa ga t1 t2 t3 t4 (Value.str z tz) (us ++ [Value.str y ty, Value.str x tx]) gs n1 n2 ha hd r1 r2 r3 la lb ln pm ctv lc) (binds := [(ss "work", .ref wa), (ss "word", .str (ss "REPLACE") tw), (ss "hooks", .ref ha)]) hgg G h1 hret (B := ?B2) (S := ?S2) ?hB2 ?hS2 (by k_is) (by k_is) (lt0 (by assumption)) (BindsTo.of_eq rfl) (locs rfl) rfl rfl rfl (by decide) ?_
    case hB2 => conv => lhs; whnf
    case hS2 => conv => lhs; whnf
    have X := G.K
    clear hret G hgg h1
    intro s1 Q1 L loose mean mg mb T F N hret _
    dsimp only [WN, HN, MN, List.cons_append, List.nil_append] at N
    k_steps
    rename News _ _ _ _ => N
    refine use_oc (own := WN w wa wd sa ga t1 t2 t3 t4 (Value.str z tz) .none (us ++ [Value.str y ty, Value.str x tx]) gs n1 n2) (rest := HN w ha hd r1 r2 r3 la lb ln pm ctv lc) (take_con w wa wd sa ga t1 t2 t3 t4 (Value.str z tz) .none us [Value.str y ty, Value.str x tx] gs n1 n2 n4 2 _ rfl (by omega) (by omega)) (by exact hh) (by show A.depth + 1 + _ < _; first | exact dlt (by assumption) (by decide) | exact dlt1 (by assumption) (by decide) | exact dlt2 (by assumption) (by decide) | exact dh ‹_› ‹_› (by decide) | exact dh0 ‹_› ‹_› (by decide) | exact dhs ‹_› ‹_› (by decide) | exact dm0 ‹_› ‹_› (by decide) | exact dl3 ‹_› (by decide) | exact dlt2 ‹_› (by decide) | omega) (by show A.units + 3 + _ < _; first | exact dlt (by assumption) (by decide) | exact dlt1 (by assumption) (by decide) | exact dlt2 (by assumption) (by decide) | exact dh ‹_› ‹_› (by decide) | exact dh0 ‹_› ‹_› (by decide) | exact dhs ‹_› ‹_› (by decide) | exact dm0 ‹_› ‹_› (by decide) | exact dl3 ‹_› (by decide) | exact dlt2 ‹_› (by decide) | omega) X T (by assumption) (by first | exact N | exact News.swap N | exact Mine.News.sub N (by (try dsimp only [WN, HN, MN, List.cons_append, List.nil_append]); lcg_sub)) (by first | assumption | exact Apart.symm (by assumption) | exact Dist7.apart (by assumption) | exact Apart.symm (Dist7.apart (by assumption)) | repeat (first | exact Apart.nil_left | refine Apart.cons (by k_all) ?_)) (fun _ _ => trivial) ?_
    intro PQ
    clear N
    rintro v1 h1 tk1 own1 F1 N1 ap1 ⟨ka1, sb1, k1, m1, rfl, nn1, nk1, rfl⟩
    try dsimp only [WN, HN, MN, List.cons_append, List.nil_append] at N1
    have ax1 : DistP ha hd la sb1 := ⟨Ne.symm (ap1 (sb1, lstO us m1) (.tail _ (.tail _ (.tail _ (.head _)))) (ha, instObj 327 hd) (.head _)), Ne.symm (ap1 (sb1, lstO us m1) (.tail _ (.tail _ (.tail _ (.head _)))) (hd, dictOf (hookE w r1 r2 r3 la lb ln) 3) (.tail _ (.head _))), Ne.symm (ap1 (sb1, lstO us m1) (.tail _ (.tail _ (.tail _ (.head _)))) (la, lamO pm ctv lc) (.tail _ (.tail _ (.head _))))⟩
    have ay1 : DistP ha hd la ka1 := ⟨Ne.symm (ap1 (ka1, lstO [Value.str y ty, Value.str x tx] k1) (.head _) (ha, instObj 327 hd) (.head _)), Ne.symm (ap1 (ka1, lstO [Value.str y ty, Value.str x tx] k1) (.head _) (hd, dictOf (hookE w r1 r2 r3 la lb ln) 3) (.tail _ (.head _))), Ne.symm (ap1 (ka1, lstO [Value.str y ty, Value.str x tx] k1) (.head _) (la, lamO pm ctv lc) (.tail _ (.tail _ (.head _))))⟩
    have nx1 := dist_new nd nn1 ax1
    refine DistP.all ax1 fun ax1h1 ax1h2 ax1h3 => ?_
    refine DistP.all ay1 fun ay1h1 ay1h2 ay1h3 => ?_
    refine DistK.all nk1 fun nk1h1 nk1h2 nk1h3 nk1h4 => ?_
    refine Dist4.all nn1 fun nn1h1 nn1h2 nn1h3 nn1h4 nn1h5 nn1h6 => ?_
    k_steps
    rename News _ _ _ _ => N
    refine use_oc (own := HN w ha hd r1 r2 r3 la lb ln pm ctv lc) (rest := WN w wa wd sb1 ga t1 t2 t3 t4 (Value.str z tz) .none us gs m1 n2) (hk_replace w ha hd r1 r2 r3 la lb ln pm ctv lc n3 (Value.str y ty) (Value.str z tz) (Value.str x tx) (PyData.str y) (PyData.str z) (PyData.str x) (by simp only [PyData.canLayAll0, PyData.canLay0, goodS_ok gx, goodS_ok gz, goodS_ok gy, Bool.and_true, Bool.true_and]) (by simp only [PyData.depthAll, PyData.depth]; first | decide | exact mxd1 ‹_› | exact mxd2 ‹_› | omega)) (by exact hh) (by show A.depth + 1 + _ < _; first | exact dlt (by assumption) (by decide) | exact dlt1 (by assumption) (by decide) | exact dlt2 (by assumption) (by decide) | exact dh ‹_› ‹_› (by decide) | exact dh0 ‹_› ‹_› (by decide) | exact dhs ‹_› ‹_› (by decide) | exact dm0 ‹_› ‹_› (by decide) | exact dl3 ‹_› (by decide) | exact dlt2 ‹_› (by decide) | omega) (by show A.units + 3 + _ < _; first | exact dlt (by assumption) (by decide) | exact dlt1 (by assumption) (by decide) | exact dlt2 (by assumption) (by decide) | exact dh ‹_› ‹_› (by decide) | exact dh0 ‹_› ‹_› (by decide) | exact dhs ‹_› ‹_› (by decide) | exact dm0 ‹_› ‹_› (by decide) | exact dl3 ‹_› (by decide) | exact dlt2 ‹_› (by decide) | omega) X T (by assumption) (by first | exact N | exact News.swap N | exact Mine.News.sub N (by (try dsimp only [WN, HN, MN, List.cons_append, List.nil_append]); lcg_sub)) (by first | assumption | exact Apart.symm (by assumption) | exact Dist7.apart (by assumption) | exact Apart.symm (Dist7.apart (by assumption)) | repeat (first | exact Apart.nil_left | refine Apart.cons (by k_all) ?_)) (fun st hr => ⟨hcd.keeps st, _, .cons (.str _ _) (.cons (.str _ _) (.cons (.str _ _) .nil))⟩) ?_
    intro PQ
    clear N
    rintro v2 h2 tk2 own2 F2 N2 ap2 ⟨rfl, rfl⟩
    try dsimp only [WN, HN, MN, List.cons_append, List.nil_append] at N2
    k_steps
    try dsimp only
    rename News _ _ _ _ => N
    exact hret _ _ _ (MN w wa wd sb1 ga t1 t2 t3 t4 (Value.str z tz) us gs m1 n2 ha hd r1 r2 r3 la lb ln pm ctv lc) (Fr.keep (by assumption)) (own_endg (by first | exact N | exact News.swap N | exact Mine.News.sub N (by dsimp only [WN, HN, MN, List.cons_append, List.nil_append]; lcg_sub))) ⟨rfl, sb1, m1, n2, (Value.str z tz), us, nx1, (.inr ⟨_, _, rfl, gz⟩), g2, by first | exact rfl | exact sb2 ‹_› | exact sb1 ‹_› | exact sbn ‹_› | exact sbc ‹_› | omega | (simp only [List.length_append, List.length_cons, List.length_nil] at *; first | exact rfl | exact sb2 ‹_› | exact sb1 ‹_› | exact sbn ‹_› | exact sbc ‹_› | omega) | simp only [List.length_append, List.length_cons, List.length_nil], rfl⟩
theorem other_drop (w : World) (wa wd sa ga : Addr) (t1 t2 t3 t4 : Tok) (fv : Value) (vs gs : List Value) (n1 n2 : Nat) (ha hd : Addr) (r1 r2 r3 : Tok) (la : Addr) (lb ln pm ctv : Value) (lc : Addr) (nd : Dist7 wa wd sa ga ha hd la) (hz : vs.length ≤ 1000) (hg : GoodV vs) (hf : GoodF fv) (v : Value) (h2 : 1 ≤ vs.length) :
    OCon w 359 [.ref wa, v, .ref ha] (MN w wa wd sa ga t1 t2 t3 t4 fv vs gs n1 n2 ha hd r1 r2 r3 la lb ln pm ctv lc) 20 1000 (fun h => OrdS (HS h) v .drop ∧ h.CodeRec (.ref lc) lamQ) (Ran w wa wd ga t1 t2 t3 t4 ha hd r1 r2 r3 la lb ln pm ctv lc (vs.length - 1) gs) := by
  refine OCon.of fun A s Q E g hh hdp hu hgg G h1 hp hret => ?_
  obtain ⟨⟨a, l, rfl, hT, t, rfl⟩, hcd⟩ := hp
  replace hT := hT.heap
  have n4 := nd.1
  have n3 := nd.2.2.2.2.2
  refine Dist7.all nd fun q1 q2 q3 q4 q5 q6 q7 q8 q9 q10 q11 q12 q13 q14 q15 q16 q17 q18 q19 q20 q21 => ?_
  obtain ⟨us, x, tx, rfl, g2, gx⟩ := good_last hg (by omega)
  simp only [List.length_append, List.length_cons, List.length_nil] at h2 hz
  refine enterO (own := MN w wa wd sa ga t1 t2 t3 t4 fv (us ++ [Value.str x tx]) gs n1 n2 ha hd r1 r2 r3 la lb ln pm ctv lc) (binds := [(ss "work", .ref wa), (ss "order", .ref a), (ss "hooks", .ref ha)]) hgg G h1 hret (B := ?B) (S := ?S) ?hB ?hS (by k_is) (by k_is) (lt0 (by assumption)) (BindsTo.of_eq rfl) (locs rfl) rfl rfl rfl (by decide) ?_
  case hB => conv => lhs; whnf
  case hS => conv => lhs; whnf
  have X := G.K
  clear hret G hgg h1
  intro s1 Q1 L loose mean mg mb T F N hret _
  dsimp only [WN, HN, MN, List.cons_append, List.nil_append] at N
  k_steps
  rename News _ _ _ _ => N
  refine use_oc (own := WN w wa wd sa ga t1 t2 t3 t4 fv .none (us ++ [Value.str x tx]) gs n1 n2) (rest := HN w ha hd r1 r2 r3 la lb ln pm ctv lc) (pop_con w wa wd sa ga t1 t2 t3 t4 fv .none us gs n1 n2 n4 x tx (by omega)) (by exact hh) (by show A.depth + 1 + _ < _; first | exact dlt (by assumption) (by decide) | exact dlt1 (by assumption) (by decide) | exact dlt2 (by assumption) (by decide) | exact dh ‹_› ‹_› (by decide) | exact dh0 ‹_› ‹_› (by decide) | exact dhs ‹_› ‹_› (by decide) | exact dm0 ‹_› ‹_› (by decide) | exact dl3 ‹_› (by decide) | exact dlt2 ‹_› (by decide) | omega) (by show A.units + 3 + _ < _; first | exact dlt (by assumption) (by decide) | exact dlt1 (by assumption) (by decide) | exact dlt2 (by assumption) (by decide) | exact dh ‹_› ‹_› (by decide) | exact dh0 ‹_› ‹_› (by decide) | exact dhs ‹_› ‹_› (by decide) | exact dm0 ‹_› ‹_› (by decide) | exact dl3 ‹_› (by decide) | exact dlt2 ‹_› (by decide) | omega) X T (by assumption) (by first | exact N | exact News.swap N | exact Mine.News.sub N (by (try dsimp only [WN, HN, MN, List.cons_append, List.nil_append]); lcg_sub)) (by first | assumption | exact Apart.symm (by assumption) | exact Dist7.apart (by assumption) | exact Apart.symm (Dist7.apart (by assumption)) | repeat (first | exact Apart.nil_left | refine Apart.cons (by k_all) ?_)) (fun _ _ => trivial) ?_
  intro PQ
  clear N
  rintro v1 h1 tk1 own1 F1 N1 ap1 ⟨rfl, m1, rfl⟩
  try dsimp only [WN, HN, MN, List.cons_append, List.nil_append] at N1
  k_steps
  try dsimp only
  rename News _ _ _ _ => N
  exact hret _ _ _ (MN w wa wd sa ga t1 t2 t3 t4 fv us gs m1 n2 ha hd r1 r2 r3 la lb ln pm ctv lc) (Fr.keep (by assumption)) (own_endg (by first | exact N | exact News.swap N | exact Mine.News.sub N (by dsimp only [WN, HN, MN, List.cons_append, List.nil_append]; lcg_sub))) ⟨rfl, sa, m1, n2, fv, us, nd, hf, g2, by first | exact rfl | exact sb2 ‹_› | exact sb1 ‹_› | exact sbn ‹_› | exact sbc ‹_› | omega | (simp only [List.length_append, List.length_cons, List.length_nil] at *; first | exact rfl | exact sb2 ‹_› | exact sb1 ‹_› | exact sbn ‹_› | exact sbc ‹_› | omega) | simp only [List.length_append, List.length_cons, List.length_nil], rfl⟩
theorem other_double (w : World) (wa wd sa ga : Addr) (t1 t2 t3 t4 : Tok) (fv : Value) (vs gs : List Value) (n1 n2 : Nat) (ha hd : Addr) (r1 r2 r3 : Tok) (la : Addr) (lb ln pm ctv : Value) (lc : Addr) (nd : Dist7 wa wd sa ga ha hd la) (hz : vs.length ≤ 1000) (hg : GoodV vs) (hf : GoodF fv) (v : Value) (h2 : 1 ≤ vs.length) :
    OCon w 359 [.ref wa, v, .ref ha] (MN w wa wd sa ga t1 t2 t3 t4 fv vs gs n1 n2 ha hd r1 r2 r3 la lb ln pm ctv lc) 20 1000 (fun h => OrdS (HS h) v .double ∧ h.CodeRec (.ref lc) lamQ) (Ran w wa wd ga t1 t2 t3 t4 ha hd r1 r2 r3 la lb ln pm ctv lc (vs.length + 1) gs) := by
  refine OCon.of fun A s Q E g hh hdp hu hgg G h1 hp hret => ?_
  obtain ⟨⟨a, l, rfl, hT, t, rfl⟩, hcd⟩ := hp
  replace hT := hT.heap
  have n4 := nd.1
  have n3 := nd.2.2.2.2.2
  refine Dist7.all nd fun q1 q2 q3 q4 q5 q6 q7 q8 q9 q10 q11 q12 q13 q14 q15 q16 q17 q18 q19 q20 q21 => ?_
  obtain ⟨us, x, tx, rfl, g2, gx⟩ := good_last hg (by omega)
  simp only [List.length_append, List.length_cons, List.length_nil] at h2 hz
  refine enterO (own := MN w wa wd sa ga t1 t2 t3 t4 fv (us ++ [Value.str x tx]) gs n1 n2 ha hd r1 r2 r3 la lb ln pm ctv lc) (binds := [(ss "work", .ref wa), (ss "order", .ref a), (ss "hooks", .ref ha)]) hgg G h1 hret (B := ?B) (S := ?S) ?hB ?hS (by k_is) (by k_is) (lt0 (by assumption)) (BindsTo.of_eq rfl) (locs rfl) rfl rfl rfl (by decide) ?_
  case hB => conv => lhs; whnf
  case hS => conv => lhs; whnf
  have X := G.K
  clear hret G hgg h1
  intro s1 Q1 L loose mean mg mb T F N hret _
  dsimp only [WN, HN, MN, List.cons_append, List.nil_append] at N
  k_steps
  refine kde_neg (v := Value.str x tx) (j := us.length) (News.isList (by assumption) (by k_mem)) (by decide) (by decide) (neg_last _ _) (by simp) ?_
  k_steps
  rename News _ _ _ _ => N
  refine use_oc (own := WN w wa wd sa ga t1 t2 t3 t4 fv .none (us ++ [Value.str x tx]) gs n1 n2) (rest := HN w ha hd r1 r2 r3 la lb ln pm ctv lc) (push_con w wa wd sa ga t1 t2 t3 t4 fv .none (us ++ [Value.str x tx]) gs n1 n2 n4 x tx (by simp only [List.length_append, List.length_cons, List.length_nil]; omega)) (by exact hh) (by show A.depth + 1 + _ < _; first | exact dlt (by assumption) (by decide) | exact dlt1 (by assumption) (by decide) | exact dlt2 (by assumption) (by decide) | exact dh ‹_› ‹_› (by decide) | exact dh0 ‹_› ‹_› (by decide) | exact dhs ‹_› ‹_› (by decide) | exact dm0 ‹_› ‹_› (by decide) | exact dl3 ‹_› (by decide) | exact dlt2 ‹_› (by decide) | omega) (by show A.units + 3 + _ < _; first | exact dlt (by assumption) (by decide) | exact dlt1 (by assumption) (by decide) | exact dlt2 (by assumption) (by decide) | exact dh ‹_› ‹_› (by decide) | exact dh0 ‹_› ‹_› (by decide) | exact dhs ‹_› ‹_› (by decide) | exact dm0 ‹_› ‹_› (by decide) | exact dl3 ‹_› (by decide) | exact dlt2 ‹_› (by decide) | omega) X T (by assumption) (by first | exact N | exact News.swap N | exact Mine.News.sub N (by (try dsimp only [WN, HN, MN, List.cons_append, List.nil_append]); lcg_sub)) (by first | assumption | exact Apart.symm (by assumption) | exact Dist7.apart (by assumption) | exact Apart.symm (Dist7.apart (by assumption)) | repeat (first | exact Apart.nil_left | refine Apart.cons (by k_all) ?_)) (fun _ _ => trivial) ?_
  intro PQ
  clear N
  rintro v1 h1 tk1 own1 F1 N1 ap1 ⟨rfl, m1, rfl⟩
  try dsimp only [WN, HN, MN, List.cons_append, List.nil_append] at N1
  k_steps
  try dsimp only
  rename News _ _ _ _ => N
  exact hret _ _ _ (MN w wa wd sa ga t1 t2 t3 t4 fv ((us ++ [Value.str x tx]) ++ [Value.str x tx]) gs m1 n2 ha hd r1 r2 r3 la lb ln pm ctv lc) (Fr.keep (by assumption)) (own_endg (by first | exact N | exact News.swap N | exact Mine.News.sub N (by dsimp only [WN, HN, MN, List.cons_append, List.nil_append]; lcg_sub))) ⟨rfl, sa, m1, n2, fv, ((us ++ [Value.str x tx]) ++ [Value.str x tx]), nd, hf, hg.snoc gx, by first | exact rfl | exact sb2 ‹_› | exact sb1 ‹_› | exact sbn ‹_› | exact sbc ‹_› | omega | (simp only [List.length_append, List.length_cons, List.length_nil] at *; first | exact rfl | exact sb2 ‹_› | exact sb1 ‹_› | exact sbn ‹_› | exact sbc ‹_› | omega) | simp only [List.length_append, List.length_cons, List.length_nil], rfl⟩
theorem other_unguard (w : World) (wa wd sa ga : Addr) (t1 t2 t3 t4 : Tok) (fv : Value) (vs us : List Value) (g0 : Value) (n1 n2 : Nat) (ha hd : Addr) (r1 r2 r3 : Tok) (la : Addr) (lb ln pm ctv : Value) (lc : Addr) (nd : Dist7 wa wd sa ga ha hd la) (hz : vs.length ≤ 1000) (hg : GoodV vs) (hf : GoodF fv) (hzg : us.length ≤ 1000) (v : Value)  :
    OCon w 359 [.ref wa, v, .ref ha] (MN w wa wd sa ga t1 t2 t3 t4 fv vs (us ++ [g0]) n1 n2 ha hd r1 r2 r3 la lb ln pm ctv lc) 20 1000 (fun h => OrdS (HS h) v .unguard ∧ h.CodeRec (.ref lc) lamQ) (Ran w wa wd ga t1 t2 t3 t4 ha hd r1 r2 r3 la lb ln pm ctv lc vs.length us) := by
  refine OCon.of fun A s Q E g hh hdp hu hgg G h1 hp hret => ?_
  obtain ⟨⟨a, l, rfl, hT, t, rfl⟩, hcd⟩ := hp
  replace hT := hT.heap
  have n4 := nd.1
  have n3 := nd.2.2.2.2.2
  refine Dist7.all nd fun q1 q2 q3 q4 q5 q6 q7 q8 q9 q10 q11 q12 q13 q14 q15 q16 q17 q18 q19 q20 q21 => ?_
  refine enterO (own := MN w wa wd sa ga t1 t2 t3 t4 fv vs (us ++ [g0]) n1 n2 ha hd r1 r2 r3 la lb ln pm ctv lc) (binds := [(ss "work", .ref wa), (ss "order", .ref a), (ss "hooks", .ref ha)]) hgg G h1 hret (B := ?B) (S := ?S) ?hB ?hS (by k_is) (by k_is) (lt0 (by assumption)) (BindsTo.of_eq rfl) (locs rfl) rfl rfl rfl (by decide) ?_
  case hB => conv => lhs; whnf
  case hS => conv => lhs; whnf
  have X := G.K
  clear hret G hgg h1
  intro s1 Q1 L loose mean mg mb T F N hret _
  dsimp only [WN, HN, MN, List.cons_append, List.nil_append] at N
  k_steps
  refine kl_pop (by k_asm) (by k_asm) (p := us) (y := g0) (last_snoc us _) (by k_upd) (by simp only [List.length_append, List.length_cons, List.length_nil, sizeLine_eq]; omega) ?_
  intro h2 F2 N2
  k_steps
  try dsimp only
  rename News _ _ _ _ => N
  exact hret _ _ _ (MN w wa wd sa ga t1 t2 t3 t4 fv vs us n1 _ ha hd r1 r2 r3 la lb ln pm ctv lc) (Fr.keep (by assumption)) (own_endg (by first | exact N | exact News.swap N | exact Mine.News.sub N (by dsimp only [WN, HN, MN, List.cons_append, List.nil_append]; lcg_sub))) ⟨rfl, sa, n1, _, fv, vs, nd, hf, hg, by first | exact rfl | exact sb2 ‹_› | exact sb1 ‹_› | exact sbn ‹_› | exact sbc ‹_› | omega | (simp only [List.length_append, List.length_cons, List.length_nil] at *; first | exact rfl | exact sb2 ‹_› | exact sb1 ‹_› | exact sbn ‹_› | exact sbc ‹_› | omega) | simp only [List.length_append, List.length_cons, List.length_nil], rfl⟩
theorem other_fail (w : World) (wa wd sa ga : Addr) (t1 t2 t3 t4 : Tok) (fv : Value) (vs gs : List Value) (n1 n2 : Nat) (ha hd : Addr) (r1 r2 r3 : Tok) (la : Addr) (lb ln pm ctv : Value) (lc : Addr) (nd : Dist7 wa wd sa ga ha hd la) (hz : vs.length ≤ 1000) (hg : GoodV vs) (hf : GoodF fv) (v : Value)  :
    OCon w 359 [.ref wa, v, .ref ha] (MN w wa wd sa ga t1 t2 t3 t4 fv vs gs n1 n2 ha hd r1 r2 r3 la lb ln pm ctv lc) 20 1000 (fun h => OrdS (HS h) v .fail ∧ h.CodeRec (.ref lc) lamQ) (fun r own' => r = .bool false ∧ own' = MN w wa wd sa ga t1 t2 t3 t4 fv vs gs n1 n2 ha hd r1 r2 r3 la lb ln pm ctv lc) := by
  refine OCon.of fun A s Q E g hh hdp hu hgg G h1 hp hret => ?_
  obtain ⟨⟨a, l, rfl, hT, t, rfl⟩, hcd⟩ := hp
  replace hT := hT.heap
  have n4 := nd.1
  have n3 := nd.2.2.2.2.2
  refine Dist7.all nd fun q1 q2 q3 q4 q5 q6 q7 q8 q9 q10 q11 q12 q13 q14 q15 q16 q17 q18 q19 q20 q21 => ?_
  refine enterO (own := MN w wa wd sa ga t1 t2 t3 t4 fv vs gs n1 n2 ha hd r1 r2 r3 la lb ln pm ctv lc) (binds := [(ss "work", .ref wa), (ss "order", .ref a), (ss "hooks", .ref ha)]) hgg G h1 hret (B := ?B) (S := ?S) ?hB ?hS (by k_is) (by k_is) (lt0 (by assumption)) (BindsTo.of_eq rfl) (locs rfl) rfl rfl rfl (by decide) ?_
  case hB => conv => lhs; whnf
  case hS => conv => lhs; whnf
  have X := G.K
  clear hret G hgg h1
  intro s1 Q1 L loose mean mg mb T F N hret _
  dsimp only [WN, HN, MN, List.cons_append, List.nil_append] at N
  k_steps
  try dsimp only
  rename News _ _ _ _ => N
  exact hret _ _ _ (MN w wa wd sa ga t1 t2 t3 t4 fv vs gs n1 n2 ha hd r1 r2 r3 la lb ln pm ctv lc) (Fr.keep (by assumption)) (own_endg (by first | exact N | exact News.swap N | exact Mine.News.sub N (by dsimp only [WN, HN, MN, List.cons_append, List.nil_append]; lcg_sub))) ⟨rfl, rfl⟩
end
section
set_option maxHeartbeats 0
set_option rowWalk.seconds 0

theorem o_push (w : World) (wa wd sa ga : Addr) (t1 t2 t3 t4 : Tok) (fv : Value) (vs gs : List Value) (n1 n2 : Nat) (ha hd : Addr) (r1 r2 r3 : Tok) (la : Addr) (lb ln pm ctv : Value) (lc : Addr) (nd : Dist7 wa wd sa ga ha hd la) (hz : vs.length ≤ 1000) (hg : GoodV vs) (hf : GoodF fv) (v : Value) (z : Str) (gs0 : GoodS z) :
    OCon w 338 [.ref wa, v, .ref ha] (MN w wa wd sa ga t1 t2 t3 t4 fv vs gs n1 n2 ha hd r1 r2 r3 la lb ln pm ctv lc) 40 3000 (fun h => OrdS (HS h) v (.push z) ∧ h.CodeRec (.ref lc) lamQ) (Ran w wa wd ga t1 t2 t3 t4 ha hd r1 r2 r3 la lb ln pm ctv lc (vs.length + 1) gs) := by
  refine OCon.of fun A s Q E g hh hdp hu hgg G h1 hp hret => ?_
  obtain ⟨⟨a, l, rfl, hT, t, u, rfl⟩, hcd⟩ := hp
  replace hT := hT.heap
  have n4 := nd.1
  have n3 := nd.2.2.2.2.2
  refine Dist7.all nd fun q1 q2 q3 q4 q5 q6 q7 q8 q9 q10 q11 q12 q13 q14 q15 q16 q17 q18 q19 q20 q21 => ?_
  refine enterO (own := MN w wa wd sa ga t1 t2 t3 t4 fv vs gs n1 n2 ha hd r1 r2 r3 la lb ln pm ctv lc) (binds := [(ss "work", .ref wa), (ss "order", .ref a), (ss "hooks", .ref ha)]) hgg G h1 hret (B := ?B) (S := ?S) ?hB ?hS (by k_is) (by k_is) (lt0 (by assumption)) (BindsTo.of_eq rfl) (locs rfl) rfl rfl rfl (by decide) ?_
  case hB => conv => lhs; whnf
  case hS => conv => lhs; whnf
  have X := G.K
  clear hret G hgg h1
  intro s1 Q1 L loose mean mg mb T F N hret _
  dsimp only [WN, HN, MN, List.cons_append, List.nil_append] at N
  k_steps
  rename News _ _ _ _ => N
  refine use_oc (own := WN w wa wd sa ga t1 t2 t3 t4 fv .none vs gs n1 n2) (rest := HN w ha hd r1 r2 r3 la lb ln pm ctv lc) (push_con w wa wd sa ga t1 t2 t3 t4 fv .none vs gs n1 n2 n4 z u (by omega)) (by exact hh) (by show A.depth + 1 + _ < _; first | exact dlt (by assumption) (by decide) | exact dlt1 (by assumption) (by decide) | exact dlt2 (by assumption) (by decide) | exact dh ‹_› ‹_› (by decide) | exact dh0 ‹_› ‹_› (by decide) | exact dhs ‹_› ‹_› (by decide) | exact dm0 ‹_› ‹_› (by decide) | exact dl3 ‹_› (by decide) | exact dlt2 ‹_› (by decide) | omega) (by show A.units + 3 + _ < _; first | exact dlt (by assumption) (by decide) | exact dlt1 (by assumption) (by decide) | exact dlt2 (by assumption) (by decide) | exact dh ‹_› ‹_› (by decide) | exact dh0 ‹_› ‹_› (by decide) | exact dhs ‹_› ‹_› (by decide) | exact dm0 ‹_› ‹_› (by decide) | exact dl3 ‹_› (by decide) | exact dlt2 ‹_› (by decide) | omega) X T (by assumption) (by first | exact N | exact News.swap N | exact Mine.News.sub N (by (try dsimp only [WN, HN, MN, List.cons_append, List.nil_append]); lcg_sub)) (by first | assumption | exact Apart.symm (by assumption) | exact Dist7.apart (by assumption) | exact Apart.symm (Dist7.apart (by assumption)) | repeat (first | exact Apart.nil_left | refine Apart.cons (by k_all) ?_)) (fun _ _ => trivial) ?_
  intro PQ
  clear N
  rintro v1 h1 tk1 own1 F1 N1 ap1 ⟨rfl, m1, rfl⟩
  try dsimp only [WN, HN, MN, List.cons_append, List.nil_append] at N1
  k_steps
  try dsimp only
  rename News _ _ _ _ => N
  exact hret _ _ _ (MN w wa wd sa ga t1 t2 t3 t4 fv (vs ++ [Value.str z u]) gs m1 n2 ha hd r1 r2 r3 la lb ln pm ctv lc) (Fr.keep (by assumption)) (own_endg (by first | exact N | exact News.swap N | exact Mine.News.sub N (by dsimp only [WN, HN, MN, List.cons_append, List.nil_append]; lcg_sub))) ⟨rfl, sa, m1, n2, fv, (vs ++ [Value.str z u]), nd, hf, hg.snoc gs0, by first | exact rfl | exact sb2 ‹_› | exact sb1 ‹_› | exact sbn ‹_› | exact sbc ‹_› | omega | (simp only [List.length_append, List.length_cons, List.length_nil] at *; first | exact rfl | exact sb2 ‹_› | exact sb1 ‹_› | exact sbn ‹_› | exact sbc ‹_› | omega) | simp only [List.length_append, List.length_cons, List.length_nil], rfl⟩
theorem o_var (w : World) (wa wd sa ga : Addr) (t1 t2 t3 t4 : Tok) (fv : Value) (vs gs : List Value) (n1 n2 : Nat) (ha hd : Addr) (r1 r2 r3 : Tok) (la : Addr) (lb ln pm ctv : Value) (lc : Addr) (nd : Dist7 wa wd sa ga ha hd la) (hz : vs.length ≤ 1000) (hg : GoodV vs) (hf : GoodF fv) (v : Value) (x : Str) (hx : PyData.strOk x = true) (nF : x ≠ ss "F") :
    OCon w 338 [.ref wa, v, .ref ha] (MN w wa wd sa ga t1 t2 t3 t4 fv vs gs n1 n2 ha hd r1 r2 r3 la lb ln pm ctv lc) 40 3000 (fun h => OrdS (HS h) v (.var x) ∧ h.CodeRec (.ref lc) lamQ) (Ran w wa wd ga t1 t2 t3 t4 ha hd r1 r2 r3 la lb ln pm ctv lc (vs.length + 1) gs) := by
  refine OCon.of fun A s Q E g hh hdp hu hgg G h1 hp hret => ?_
  obtain ⟨⟨a, l, rfl, hT, t, u, rfl⟩, hcd⟩ := hp
  replace hT := hT.heap
  have n4 := nd.1
  have n3 := nd.2.2.2.2.2
  refine Dist7.all nd fun q1 q2 q3 q4 q5 q6 q7 q8 q9 q10 q11 q12 q13 q14 q15 q16 q17 q18 q19 q20 q21 => ?_
  refine enterO (own := MN w wa wd sa ga t1 t2 t3 t4 fv vs gs n1 n2 ha hd r1 r2 r3 la lb ln pm ctv lc) (binds := [(ss "work", .ref wa), (ss "order", .ref a), (ss "hooks", .ref ha)]) hgg G h1 hret (B := ?B) (S := ?S) ?hB ?hS (by k_is) (by k_is) (lt0 (by assumption)) (BindsTo.of_eq rfl) (locs rfl) rfl rfl rfl (by decide) ?_
  case hB => conv => lhs; whnf
  case hS => conv => lhs; whnf
  have X := G.K
  clear hret G hgg h1
  intro s1 Q1 L loose mean mg mb T F N hret _
  dsimp only [WN, HN, MN, List.cons_append, List.nil_append] at N
  k_steps
  rename News _ _ _ _ => N
  refine use_oc (own := HN w ha hd r1 r2 r3 la lb ln pm ctv lc) (rest := WN w wa wd sa ga t1 t2 t3 t4 fv .none vs gs n1 n2) (hk_var_value w ha hd r1 r2 r3 la lb ln pm ctv lc n3 (Value.str x u) (PyData.str x) (by simp only [PyData.canLayAll0, PyData.canLay0, hx, Bool.and_true]) (by simp only [PyData.depthAll, PyData.depth]; first | decide | exact mxd1 ‹_› | exact mxd2 ‹_› | omega)) (by exact hh) (by show A.depth + 1 + _ < _; first | exact dlt (by assumption) (by decide) | exact dlt1 (by assumption) (by decide) | exact dlt2 (by assumption) (by decide) | exact dh ‹_› ‹_› (by decide) | exact dh0 ‹_› ‹_› (by decide) | exact dhs ‹_› ‹_› (by decide) | exact dm0 ‹_› ‹_› (by decide) | exact dl3 ‹_› (by decide) | exact dlt2 ‹_› (by decide) | omega) (by show A.units + 3 + _ < _; first | exact dlt (by assumption) (by decide) | exact dlt1 (by assumption) (by decide) | exact dlt2 (by assumption) (by decide) | exact dh ‹_› ‹_› (by decide) | exact dh0 ‹_› ‹_› (by decide) | exact dhs ‹_› ‹_› (by decide) | exact dm0 ‹_› ‹_› (by decide) | exact dl3 ‹_› (by decide) | exact dlt2 ‹_› (by decide) | omega) X T (by assumption) (by first | exact N | exact News.swap N | exact Mine.News.sub N (by (try dsimp only [WN, HN, MN, List.cons_append, List.nil_append]); lcg_sub)) (by first | assumption | exact Apart.symm (by assumption) | exact Dist7.apart (by assumption) | exact Apart.symm (Dist7.apart (by assumption)) | repeat (first | exact Apart.nil_left | refine Apart.cons (by k_all) ?_)) (fun st hr => ⟨hcd.keeps st, _, .cons (.str _ _) .nil⟩) ?_
  intro PQ
  clear N
  rintro v1 h1 tk1 own1 F1 N1 ap1 ⟨hv, rfl⟩
  try dsimp only [WN, HN, MN, List.cons_append, List.nil_append] at N1
  obtain ⟨tv1, rfl⟩ := lamV_one nF hv
  k_steps
  rename News _ _ _ _ => N
  refine use_oc (own := WN w wa wd sa ga t1 t2 t3 t4 fv .none vs gs n1 n2) (rest := HN w ha hd r1 r2 r3 la lb ln pm ctv lc) (push_con w wa wd sa ga t1 t2 t3 t4 fv .none vs gs n1 n2 n4 (ss "v") tv1 (by omega)) (by exact hh) (by show A.depth + 1 + _ < _; first | exact dlt (by assumption) (by decide) | exact dlt1 (by assumption) (by decide) | exact dlt2 (by assumption) (by decide) | exact dh ‹_› ‹_› (by decide) | exact dh0 ‹_› ‹_› (by decide) | exact dhs ‹_› ‹_› (by decide) | exact dm0 ‹_› ‹_› (by decide) | exact dl3 ‹_› (by decide) | exact dlt2 ‹_› (by decide) | omega) (by show A.units + 3 + _ < _; first | exact dlt (by assumption) (by decide) | exact dlt1 (by assumption) (by decide) | exact dlt2 (by assumption) (by decide) | exact dh ‹_› ‹_› (by decide) | exact dh0 ‹_› ‹_› (by decide) | exact dhs ‹_› ‹_› (by decide) | exact dm0 ‹_› ‹_› (by decide) | exact dl3 ‹_› (by decide) | exact dlt2 ‹_› (by decide) | omega) X T (by assumption) (by first | exact N | exact News.swap N | exact Mine.News.sub N (by (try dsimp only [WN, HN, MN, List.cons_append, List.nil_append]); lcg_sub)) (by first | assumption | exact Apart.symm (by assumption) | exact Dist7.apart (by assumption) | exact Apart.symm (Dist7.apart (by assumption)) | repeat (first | exact Apart.nil_left | refine Apart.cons (by k_all) ?_)) (fun _ _ => trivial) ?_
  intro PQ
  clear N
  rintro v2 h2 tk2 own2 F2 N2 ap2 ⟨rfl, m2, rfl⟩
  try dsimp only [WN, HN, MN, List.cons_append, List.nil_append] at N2
  k_steps
  try dsimp only
  rename News _ _ _ _ => N
  exact hret _ _ _ (MN w wa wd sa ga t1 t2 t3 t4 fv (vs ++ [Value.str (ss "v") tv1]) gs m2 n2 ha hd r1 r2 r3 la lb ln pm ctv lc) (Fr.keep (by assumption)) (own_endg (by first | exact N | exact News.swap N | exact Mine.News.sub N (by dsimp only [WN, HN, MN, List.cons_append, List.nil_append]; lcg_sub))) ⟨rfl, sa, m2, n2, fv, (vs ++ [Value.str (ss "v") tv1]), nd, hf, hg.snoc good_v, by first | exact rfl | exact sb2 ‹_› | exact sb1 ‹_› | exact sbn ‹_› | exact sbc ‹_› | omega | (simp only [List.length_append, List.length_cons, List.length_nil] at *; first | exact rfl | exact sb2 ‹_› | exact sb1 ‹_› | exact sbn ‹_› | exact sbc ‹_› | omega) | simp only [List.length_append, List.length_cons, List.length_nil], rfl⟩
theorem o_varF (w : World) (wa wd sa ga : Addr) (t1 t2 t3 t4 : Tok) (fv : Value) (vs gs : List Value) (n1 n2 : Nat) (ha hd : Addr) (r1 r2 r3 : Tok) (la : Addr) (lb ln pm ctv : Value) (lc : Addr) (nd : Dist7 wa wd sa ga ha hd la) (hz : vs.length ≤ 1000) (hg : GoodV vs) (hf : GoodF fv) (v : Value)  :
    OCon w 338 [.ref wa, v, .ref ha] (MN w wa wd sa ga t1 t2 t3 t4 fv vs gs n1 n2 ha hd r1 r2 r3 la lb ln pm ctv lc) 40 3000 (fun h => OrdS (HS h) v (.var (ss "F")) ∧ h.CodeRec (.ref lc) lamQ) (fun r own' => r = .bool false ∧ own' = MN w wa wd sa ga t1 t2 t3 t4 fv vs gs n1 n2 ha hd r1 r2 r3 la lb ln pm ctv lc) := by
  refine OCon.of fun A s Q E g hh hdp hu hgg G h1 hp hret => ?_
  obtain ⟨⟨a, l, rfl, hT, t, u, rfl⟩, hcd⟩ := hp
  replace hT := hT.heap
  have n4 := nd.1
  have n3 := nd.2.2.2.2.2
  refine Dist7.all nd fun q1 q2 q3 q4 q5 q6 q7 q8 q9 q10 q11 q12 q13 q14 q15 q16 q17 q18 q19 q20 q21 => ?_
  refine enterO (own := MN w wa wd sa ga t1 t2 t3 t4 fv vs gs n1 n2 ha hd r1 r2 r3 la lb ln pm ctv lc) (binds := [(ss "work", .ref wa), (ss "order", .ref a), (ss "hooks", .ref ha)]) hgg G h1 hret (B := ?B) (S := ?S) ?hB ?hS (by k_is) (by k_is) (lt0 (by assumption)) (BindsTo.of_eq rfl) (locs rfl) rfl rfl rfl (by decide) ?_
  case hB => conv => lhs; whnf
  case hS => conv => lhs; whnf
  have X := G.K
  clear hret G hgg h1
  intro s1 Q1 L loose mean mg mb T F N hret _
  dsimp only [WN, HN, MN, List.cons_append, List.nil_append] at N
  k_steps
  rename News _ _ _ _ => N
  refine use_oc (own := HN w ha hd r1 r2 r3 la lb ln pm ctv lc) (rest := WN w wa wd sa ga t1 t2 t3 t4 fv .none vs gs n1 n2) (hk_var_value w ha hd r1 r2 r3 la lb ln pm ctv lc n3 (Value.str (ss "F") u) (PyData.str (ss "F")) (by kernel_rfl!) (by simp only [PyData.depthAll, PyData.depth]; first | decide | exact mxd1 ‹_› | exact mxd2 ‹_› | omega)) (by exact hh) (by show A.depth + 1 + _ < _; first | exact dlt (by assumption) (by decide) | exact dlt1 (by assumption) (by decide) | exact dlt2 (by assumption) (by decide) | exact dh ‹_› ‹_› (by decide) | exact dh0 ‹_› ‹_› (by decide) | exact dhs ‹_› ‹_› (by decide) | exact dm0 ‹_› ‹_› (by decide) | exact dl3 ‹_› (by decide) | exact dlt2 ‹_› (by decide) | omega) (by show A.units + 3 + _ < _; first | exact dlt (by assumption) (by decide) | exact dlt1 (by assumption) (by decide) | exact dlt2 (by assumption) (by decide) | exact dh ‹_› ‹_› (by decide) | exact dh0 ‹_› ‹_› (by decide) | exact dhs ‹_› ‹_› (by decide) | exact dm0 ‹_› ‹_› (by decide) | exact dl3 ‹_› (by decide) | exact dlt2 ‹_› (by decide) | omega) X T (by assumption) (by first | exact N | exact News.swap N | exact Mine.News.sub N (by (try dsimp only [WN, HN, MN, List.cons_append, List.nil_append]); lcg_sub)) (by first | assumption | exact Apart.symm (by assumption) | exact Dist7.apart (by assumption) | exact Apart.symm (Dist7.apart (by assumption)) | repeat (first | exact Apart.nil_left | refine Apart.cons (by k_all) ?_)) (fun st hr => ⟨hcd.keeps st, _, .cons (.str _ _) .nil⟩) ?_
  intro PQ
  clear N
  rintro v1 h1 tk1 own1 F1 N1 ap1 ⟨hv, rfl⟩
  try dsimp only [WN, HN, MN, List.cons_append, List.nil_append] at N1
  have hv2 := lamV_F hv
  subst hv2
  k_steps
  rename News _ _ _ _ => N
  refine use_oc (own := WN w wa wd sa ga t1 t2 t3 t4 fv .none vs gs n1 n2) (rest := HN w ha hd r1 r2 r3 la lb ln pm ctv lc) (push_none w wa wd sa ga t1 t2 t3 t4 fv .none vs gs n1 n2 n4) (by exact hh) (by show A.depth + 1 + _ < _; first | exact dlt (by assumption) (by decide) | exact dlt1 (by assumption) (by decide) | exact dlt2 (by assumption) (by decide) | exact dh ‹_› ‹_› (by decide) | exact dh0 ‹_› ‹_› (by decide) | exact dhs ‹_› ‹_› (by decide) | exact dm0 ‹_› ‹_› (by decide) | exact dl3 ‹_› (by decide) | exact dlt2 ‹_› (by decide) | omega) (by show A.units + 3 + _ < _; first | exact dlt (by assumption) (by decide) | exact dlt1 (by assumption) (by decide) | exact dlt2 (by assumption) (by decide) | exact dh ‹_› ‹_› (by decide) | exact dh0 ‹_› ‹_› (by decide) | exact dhs ‹_› ‹_› (by decide) | exact dm0 ‹_› ‹_› (by decide) | exact dl3 ‹_› (by decide) | exact dlt2 ‹_› (by decide) | omega) X T (by assumption) (by first | exact N | exact News.swap N | exact Mine.News.sub N (by (try dsimp only [WN, HN, MN, List.cons_append, List.nil_append]); lcg_sub)) (by first | assumption | exact Apart.symm (by assumption) | exact Dist7.apart (by assumption) | exact Apart.symm (Dist7.apart (by assumption)) | repeat (first | exact Apart.nil_left | refine Apart.cons (by k_all) ?_)) (fun _ _ => trivial) ?_
  intro PQ
  clear N
  rintro v2 h2 tk2 own2 F2 N2 ap2 ⟨rfl, rfl⟩
  try dsimp only [WN, HN, MN, List.cons_append, List.nil_append] at N2
  k_steps
  try dsimp only
  rename News _ _ _ _ => N
  exact hret _ _ _ (MN w wa wd sa ga t1 t2 t3 t4 fv vs gs n1 n2 ha hd r1 r2 r3 la lb ln pm ctv lc) (Fr.keep (by assumption)) (own_endg (by first | exact N | exact News.swap N | exact Mine.News.sub N (by dsimp only [WN, HN, MN, List.cons_append, List.nil_append]; lcg_sub))) ⟨rfl, rfl⟩
theorem o_ref (w : World) (wa wd sa ga : Addr) (t1 t2 t3 t4 : Tok) (fv : Value) (vs gs : List Value) (n1 n2 : Nat) (ha hd : Addr) (r1 r2 r3 : Tok) (la : Addr) (lb ln pm ctv : Value) (lc : Addr) (nd : Dist7 wa wd sa ga ha hd la) (hz : vs.length ≤ 1000) (hg : GoodV vs) (hf : GoodF fv) (v : Value) (x : Str) (hx : PyData.strOk x = true) (nF : x ≠ ss "F") :
    OCon w 338 [.ref wa, v, .ref ha] (MN w wa wd sa ga t1 t2 t3 t4 fv vs gs n1 n2 ha hd r1 r2 r3 la lb ln pm ctv lc) 40 3000 (fun h => OrdS (HS h) v (.ref x) ∧ h.CodeRec (.ref lc) lamQ) (Ran w wa wd ga t1 t2 t3 t4 ha hd r1 r2 r3 la lb ln pm ctv lc (vs.length + 1) gs) := by
  refine OCon.of fun A s Q E g hh hdp hu hgg G h1 hp hret => ?_
  obtain ⟨⟨a, l, rfl, hT, t, u, rfl⟩, hcd⟩ := hp
  replace hT := hT.heap
  have n4 := nd.1
  have n3 := nd.2.2.2.2.2
  refine Dist7.all nd fun q1 q2 q3 q4 q5 q6 q7 q8 q9 q10 q11 q12 q13 q14 q15 q16 q17 q18 q19 q20 q21 => ?_
  refine enterO (own := MN w wa wd sa ga t1 t2 t3 t4 fv vs gs n1 n2 ha hd r1 r2 r3 la lb ln pm ctv lc) (binds := [(ss "work", .ref wa), (ss "order", .ref a), (ss "hooks", .ref ha)]) hgg G h1 hret (B := ?B) (S := ?S) ?hB ?hS (by k_is) (by k_is) (lt0 (by assumption)) (BindsTo.of_eq rfl) (locs rfl) rfl rfl rfl (by decide) ?_
  case hB => conv => lhs; whnf
  case hS => conv => lhs; whnf
  have X := G.K
  clear hret G hgg h1
  intro s1 Q1 L loose mean mg mb T F N hret _
  dsimp only [WN, HN, MN, List.cons_append, List.nil_append] at N
  k_steps
  rename News _ _ _ _ => N
  refine use_oc (own := HN w ha hd r1 r2 r3 la lb ln pm ctv lc) (rest := WN w wa wd sa ga t1 t2 t3 t4 fv .none vs gs n1 n2) (hk_name_of w ha hd r1 r2 r3 la lb ln pm ctv lc n3 (Value.str (ss "var") _) (Value.str x u) (PyData.str x) (by simp only [PyData.canLayAll0, PyData.canLay0, hx, Bool.and_true]) (by simp only [PyData.depthAll, PyData.depth]; first | decide | exact mxd1 ‹_› | exact mxd2 ‹_› | omega)) (by exact hh) (by show A.depth + 1 + _ < _; first | exact dlt (by assumption) (by decide) | exact dlt1 (by assumption) (by decide) | exact dlt2 (by assumption) (by decide) | exact dh ‹_› ‹_› (by decide) | exact dh0 ‹_› ‹_› (by decide) | exact dhs ‹_› ‹_› (by decide) | exact dm0 ‹_› ‹_› (by decide) | exact dl3 ‹_› (by decide) | exact dlt2 ‹_› (by decide) | omega) (by show A.units + 3 + _ < _; first | exact dlt (by assumption) (by decide) | exact dlt1 (by assumption) (by decide) | exact dlt2 (by assumption) (by decide) | exact dh ‹_› ‹_› (by decide) | exact dh0 ‹_› ‹_› (by decide) | exact dhs ‹_› ‹_› (by decide) | exact dm0 ‹_› ‹_› (by decide) | exact dl3 ‹_› (by decide) | exact dlt2 ‹_› (by decide) | omega) X T (by assumption) (by first | exact N | exact News.swap N | exact Mine.News.sub N (by (try dsimp only [WN, HN, MN, List.cons_append, List.nil_append]); lcg_sub)) (by first | assumption | exact Apart.symm (by assumption) | exact Dist7.apart (by assumption) | exact Apart.symm (Dist7.apart (by assumption)) | repeat (first | exact Apart.nil_left | refine Apart.cons (by k_all) ?_)) (fun st hr => ⟨hcd.keeps st, _, .cons (.str _ _) .nil⟩) ?_
  intro PQ
  clear N
  rintro v1 h1 tk1 own1 F1 N1 ap1 ⟨hv, rfl⟩
  try dsimp only [WN, HN, MN, List.cons_append, List.nil_append] at N1
  obtain ⟨tv1, rfl⟩ := lamV_one nF hv
  k_steps
  rename News _ _ _ _ => N
  refine use_oc (own := WN w wa wd sa ga t1 t2 t3 t4 fv .none vs gs n1 n2) (rest := HN w ha hd r1 r2 r3 la lb ln pm ctv lc) (push_con w wa wd sa ga t1 t2 t3 t4 fv .none vs gs n1 n2 n4 (ss "v") tv1 (by omega)) (by exact hh) (by show A.depth + 1 + _ < _; first | exact dlt (by assumption) (by decide) | exact dlt1 (by assumption) (by decide) | exact dlt2 (by assumption) (by decide) | exact dh ‹_› ‹_› (by decide) | exact dh0 ‹_› ‹_› (by decide) | exact dhs ‹_› ‹_› (by decide) | exact dm0 ‹_› ‹_› (by decide) | exact dl3 ‹_› (by decide) | exact dlt2 ‹_› (by decide) | omega) (by show A.units + 3 + _ < _; first | exact dlt (by assumption) (by decide) | exact dlt1 (by assumption) (by decide) | exact dlt2 (by assumption) (by decide) | exact dh ‹_› ‹_› (by decide) | exact dh0 ‹_› ‹_› (by decide) | exact dhs ‹_› ‹_› (by decide) | exact dm0 ‹_› ‹_› (by decide) | exact dl3 ‹_› (by decide) | exact dlt2 ‹_› (by decide) | omega) X T (by assumption) (by first | exact N | exact News.swap N | exact Mine.News.sub N (by (try dsimp only [WN, HN, MN, List.cons_append, List.nil_append]); lcg_sub)) (by first | assumption | exact Apart.symm (by assumption) | exact Dist7.apart (by assumption) | exact Apart.symm (Dist7.apart (by assumption)) | repeat (first | exact Apart.nil_left | refine Apart.cons (by k_all) ?_)) (fun _ _ => trivial) ?_
  intro PQ
  clear N
  rintro v2 h2 tk2 own2 F2 N2 ap2 ⟨rfl, m2, rfl⟩
  try dsimp only [WN, HN, MN, List.cons_append, List.nil_append] at N2
  k_steps
  try dsimp only
  rename News _ _ _ _ => N
  exact hret _ _ _ (MN w wa wd sa ga t1 t2 t3 t4 fv (vs ++ [Value.str (ss "v") tv1]) gs m2 n2 ha hd r1 r2 r3 la lb ln pm ctv lc) (Fr.keep (by assumption)) (own_endg (by first | exact N | exact News.swap N | exact Mine.News.sub N (by dsimp only [WN, HN, MN, List.cons_append, List.nil_append]; lcg_sub))) ⟨rfl, sa, m2, n2, fv, (vs ++ [Value.str (ss "v") tv1]), nd, hf, hg.snoc good_v, by first | exact rfl | exact sb2 ‹_› | exact sb1 ‹_› | exact sbn ‹_› | exact sbc ‹_› | omega | (simp only [List.length_append, List.length_cons, List.length_nil] at *; first | exact rfl | exact sb2 ‹_› | exact sb1 ‹_› | exact sbn ‹_› | exact sbc ‹_› | omega) | simp only [List.length_append, List.length_cons, List.length_nil], rfl⟩
theorem o_refF (w : World) (wa wd sa ga : Addr) (t1 t2 t3 t4 : Tok) (fv : Value) (vs gs : List Value) (n1 n2 : Nat) (ha hd : Addr) (r1 r2 r3 : Tok) (la : Addr) (lb ln pm ctv : Value) (lc : Addr) (nd : Dist7 wa wd sa ga ha hd la) (hz : vs.length ≤ 1000) (hg : GoodV vs) (hf : GoodF fv) (v : Value)  :
    OCon w 338 [.ref wa, v, .ref ha] (MN w wa wd sa ga t1 t2 t3 t4 fv vs gs n1 n2 ha hd r1 r2 r3 la lb ln pm ctv lc) 40 3000 (fun h => OrdS (HS h) v (.ref (ss "F")) ∧ h.CodeRec (.ref lc) lamQ) (fun r own' => r = .bool false ∧ own' = MN w wa wd sa ga t1 t2 t3 t4 fv vs gs n1 n2 ha hd r1 r2 r3 la lb ln pm ctv lc) := by
  refine OCon.of fun A s Q E g hh hdp hu hgg G h1 hp hret => ?_
  obtain ⟨⟨a, l, rfl, hT, t, u, rfl⟩, hcd⟩ := hp
  replace hT := hT.heap
  have n4 := nd.1
  have n3 := nd.2.2.2.2.2
  refine Dist7.all nd fun q1 q2 q3 q4 q5 q6 q7 q8 q9 q10 q11 q12 q13 q14 q15 q16 q17 q18 q19 q20 q21 => ?_
  refine enterO (own := MN w wa wd sa ga t1 t2 t3 t4 fv vs gs n1 n2 ha hd r1 r2 r3 la lb ln pm ctv lc) (binds := [(ss "work", .ref wa), (ss "order", .ref a), (ss "hooks", .ref ha)]) hgg G h1 hret (B := ?B) (S := ?S) ?hB ?hS (by k_is) (by k_is) (lt0 (by assumption)) (BindsTo.of_eq rfl) (locs rfl) rfl rfl rfl (by decide) ?_
  case hB => conv => lhs; whnf
  case hS => conv => lhs; whnf
  have X := G.K
  clear hret G hgg h1
  intro s1 Q1 L loose mean mg mb T F N hret _
  dsimp only [WN, HN, MN, List.cons_append, List.nil_append] at N
  k_steps
  rename News _ _ _ _ => N
  refine use_oc (own := HN w ha hd r1 r2 r3 la lb ln pm ctv lc) (rest := WN w wa wd sa ga t1 t2 t3 t4 fv .none vs gs n1 n2) (hk_name_of w ha hd r1 r2 r3 la lb ln pm ctv lc n3 (Value.str (ss "var") _) (Value.str (ss "F") u) (PyData.str (ss "F")) (by kernel_rfl!) (by simp only [PyData.depthAll, PyData.depth]; first | decide | exact mxd1 ‹_› | exact mxd2 ‹_› | omega)) (by exact hh) (by show A.depth + 1 + _ < _; first | exact dlt (by assumption) (by decide) | exact dlt1 (by assumption) (by decide) | exact dlt2 (by assumption) (by decide) | exact dh ‹_› ‹_› (by decide) | exact dh0 ‹_› ‹_› (by decide) | exact dhs ‹_› ‹_› (by decide) | exact dm0 ‹_› ‹_› (by decide) | exact dl3 ‹_› (by decide) | exact dlt2 ‹_› (by decide) | omega) (by show A.units + 3 + _ < _; first | exact dlt (by assumption) (by decide) | exact dlt1 (by assumption) (by decide) | exact dlt2 (by assumption) (by decide) | exact dh ‹_› ‹_› (by decide) | exact dh0 ‹_› ‹_› (by decide) | exact dhs ‹_› ‹_› (by decide) | exact dm0 ‹_› ‹_› (by decide) | exact dl3 ‹_› (by decide) | exact dlt2 ‹_› (by decide) | omega) X T (by assumption) (by first | exact N | exact News.swap N | exact Mine.News.sub N (by (try dsimp only [WN, HN, MN, List.cons_append, List.nil_append]); lcg_sub)) (by first | assumption | exact Apart.symm (by assumption) | exact Dist7.apart (by assumption) | exact Apart.symm (Dist7.apart (by assumption)) | repeat (first | exact Apart.nil_left | refine Apart.cons (by k_all) ?_)) (fun st hr => ⟨hcd.keeps st, _, .cons (.str _ _) .nil⟩) ?_
  intro PQ
  clear N
  rintro v1 h1 tk1 own1 F1 N1 ap1 ⟨hv, rfl⟩
  try dsimp only [WN, HN, MN, List.cons_append, List.nil_append] at N1
  have hv2 := lamV_F hv
  subst hv2
  k_steps
  rename News _ _ _ _ => N
  refine use_oc (own := WN w wa wd sa ga t1 t2 t3 t4 fv .none vs gs n1 n2) (rest := HN w ha hd r1 r2 r3 la lb ln pm ctv lc) (push_none w wa wd sa ga t1 t2 t3 t4 fv .none vs gs n1 n2 n4) (by exact hh) (by show A.depth + 1 + _ < _; first | exact dlt (by assumption) (by decide) | exact dlt1 (by assumption) (by decide) | exact dlt2 (by assumption) (by decide) | exact dh ‹_› ‹_› (by decide) | exact dh0 ‹_› ‹_› (by decide) | exact dhs ‹_› ‹_› (by decide) | exact dm0 ‹_› ‹_› (by decide) | exact dl3 ‹_› (by decide) | exact dlt2 ‹_› (by decide) | omega) (by show A.units + 3 + _ < _; first | exact dlt (by assumption) (by decide) | exact dlt1 (by assumption) (by decide) | exact dlt2 (by assumption) (by decide) | exact dh ‹_› ‹_› (by decide) | exact dh0 ‹_› ‹_› (by decide) | exact dhs ‹_› ‹_› (by decide) | exact dm0 ‹_› ‹_› (by decide) | exact dl3 ‹_› (by decide) | exact dlt2 ‹_› (by decide) | omega) X T (by assumption) (by first | exact N | exact News.swap N | exact Mine.News.sub N (by (try dsimp only [WN, HN, MN, List.cons_append, List.nil_append]); lcg_sub)) (by first | assumption | exact Apart.symm (by assumption) | exact Dist7.apart (by assumption) | exact Apart.symm (Dist7.apart (by assumption)) | repeat (first | exact Apart.nil_left | refine Apart.cons (by k_all) ?_)) (fun _ _ => trivial) ?_
  intro PQ
  clear N
  rintro v2 h2 tk2 own2 F2 N2 ap2 ⟨rfl, rfl⟩
  try dsimp only [WN, HN, MN, List.cons_append, List.nil_append] at N2
  k_steps
  try dsimp only
  rename News _ _ _ _ => N
  exact hret _ _ _ (MN w wa wd sa ga t1 t2 t3 t4 fv vs gs n1 n2 ha hd r1 r2 r3 la lb ln pm ctv lc) (Fr.keep (by assumption)) (own_endg (by first | exact N | exact News.swap N | exact Mine.News.sub N (by dsimp only [WN, HN, MN, List.cons_append, List.nil_append]; lcg_sub))) ⟨rfl, rfl⟩
theorem o_value (w : World) (wa wd sa ga : Addr) (t1 t2 t3 t4 : Tok) (fv : Value) (vs gs : List Value) (n1 n2 : Nat) (ha hd : Addr) (r1 r2 r3 : Tok) (la : Addr) (lb ln pm ctv : Value) (lc : Addr) (nd : Dist7 wa wd sa ga ha hd la) (hz : vs.length ≤ 1000) (hg : GoodV vs) (hf : GoodF fv) (v : Value) (h2 : 1 ≤ vs.length) :
    OCon w 338 [.ref wa, v, .ref ha] (MN w wa wd sa ga t1 t2 t3 t4 fv vs gs n1 n2 ha hd r1 r2 r3 la lb ln pm ctv lc) 40 3000 (fun h => OrdS (HS h) v .value ∧ h.CodeRec (.ref lc) lamQ) (Ran w wa wd ga t1 t2 t3 t4 ha hd r1 r2 r3 la lb ln pm ctv lc vs.length gs) := by
  refine OCon.of fun A s Q E g hh hdp hu hgg G h1 hp hret => ?_
  obtain ⟨⟨a, l, rfl, hT, t, rfl⟩, hcd⟩ := hp
  replace hT := hT.heap
  have n4 := nd.1
  have n3 := nd.2.2.2.2.2
  refine Dist7.all nd fun q1 q2 q3 q4 q5 q6 q7 q8 q9 q10 q11 q12 q13 q14 q15 q16 q17 q18 q19 q20 q21 => ?_
  obtain ⟨us, x, tx, rfl, g2, gx⟩ := good_last hg (by omega)
  simp only [List.length_append, List.length_cons, List.length_nil] at h2 hz
  refine enterO (own := MN w wa wd sa ga t1 t2 t3 t4 fv (us ++ [Value.str x tx]) gs n1 n2 ha hd r1 r2 r3 la lb ln pm ctv lc) (binds := [(ss "work", .ref wa), (ss "order", .ref a), (ss "hooks", .ref ha)]) hgg G h1 hret (B := ?B) (S := ?S) ?hB ?hS (by k_is) (by k_is) (lt0 (by assumption)) (BindsTo.of_eq rfl) (locs rfl) rfl rfl rfl (by decide) ?_
  case hB => conv => lhs; whnf
  case hS => conv => lhs; whnf
  have X := G.K
  clear hret G hgg h1
  intro s1 Q1 L loose mean mg mb T F N hret _
  dsimp only [WN, HN, MN, List.cons_append, List.nil_append] at N
  k_steps
  rename News _ _ _ _ => N
  refine use_oc (own := WN w wa wd sa ga t1 t2 t3 t4 fv .none (us ++ [Value.str x tx]) gs n1 n2) (rest := HN w ha hd r1 r2 r3 la lb ln pm ctv lc) (pop_con w wa wd sa ga t1 t2 t3 t4 fv .none us gs n1 n2 n4 x tx (by omega)) (by exact hh) (by show A.depth + 1 + _ < _; first | exact dlt (by assumption) (by decide) | exact dlt1 (by assumption) (by decide) | exact dlt2 (by assumption) (by decide) | exact dh ‹_› ‹_› (by decide) | exact dh0 ‹_› ‹_› (by decide) | exact dhs ‹_› ‹_› (by decide) | exact dm0 ‹_› ‹_› (by decide) | exact dl3 ‹_› (by decide) | exact dlt2 ‹_› (by decide) | omega) (by show A.units + 3 + _ < _; first | exact dlt (by assumption) (by decide) | exact dlt1 (by assumption) (by decide) | exact dlt2 (by assumption) (by decide) | exact dh ‹_› ‹_› (by decide) | exact dh0 ‹_› ‹_› (by decide) | exact dhs ‹_› ‹_› (by decide) | exact dm0 ‹_› ‹_› (by decide) | exact dl3 ‹_› (by decide) | exact dlt2 ‹_› (by decide) | omega) X T (by assumption) (by first | exact N | exact News.swap N | exact Mine.News.sub N (by (try dsimp only [WN, HN, MN, List.cons_append, List.nil_append]); lcg_sub)) (by first | assumption | exact Apart.symm (by assumption) | exact Dist7.apart (by assumption) | exact Apart.symm (Dist7.apart (by assumption)) | repeat (first | exact Apart.nil_left | refine Apart.cons (by k_all) ?_)) (fun _ _ => trivial) ?_
  intro PQ
  clear N
  rintro v1 h1 tk1 own1 F1 N1 ap1 ⟨rfl, m1, rfl⟩
  try dsimp only [WN, HN, MN, List.cons_append, List.nil_append] at N1
  k_steps
  rename News _ _ _ _ => N
  refine use_oc (own := HN w ha hd r1 r2 r3 la lb ln pm ctv lc) (rest := WN w wa wd sa ga t1 t2 t3 t4 fv .none us gs m1 n2) (hk_ref_value w ha hd r1 r2 r3 la lb ln pm ctv lc n3 (Value.str x tx) (PyData.str x) (by simp only [PyData.canLayAll0, PyData.canLay0, goodS_ok gx, Bool.and_true]) (by simp only [PyData.depthAll, PyData.depth]; first | decide | exact mxd1 ‹_› | exact mxd2 ‹_› | omega)) (by exact hh) (by show A.depth + 1 + _ < _; first | exact dlt (by assumption) (by decide) | exact dlt1 (by assumption) (by decide) | exact dlt2 (by assumption) (by decide) | exact dh ‹_› ‹_› (by decide) | exact dh0 ‹_› ‹_› (by decide) | exact dhs ‹_› ‹_› (by decide) | exact dm0 ‹_› ‹_› (by decide) | exact dl3 ‹_› (by decide) | exact dlt2 ‹_› (by decide) | omega) (by show A.units + 3 + _ < _; first | exact dlt (by assumption) (by decide) | exact dlt1 (by assumption) (by decide) | exact dlt2 (by assumption) (by decide) | exact dh ‹_› ‹_› (by decide) | exact dh0 ‹_› ‹_› (by decide) | exact dhs ‹_› ‹_› (by decide) | exact dm0 ‹_› ‹_› (by decide) | exact dl3 ‹_› (by decide) | exact dlt2 ‹_› (by decide) | omega) X T (by assumption) (by first | exact N | exact News.swap N | exact Mine.News.sub N (by (try dsimp only [WN, HN, MN, List.cons_append, List.nil_append]); lcg_sub)) (by first | assumption | exact Apart.symm (by assumption) | exact Dist7.apart (by assumption) | exact Apart.symm (Dist7.apart (by assumption)) | repeat (first | exact Apart.nil_left | refine Apart.cons (by k_all) ?_)) (fun st hr => ⟨hcd.keeps st, _, .cons (.str _ _) .nil⟩) ?_
  intro PQ
  clear N
  rintro v2 h2 tk2 own2 F2 N2 ap2 ⟨hv, rfl⟩
  try dsimp only [WN, HN, MN, List.cons_append, List.nil_append] at N2
  obtain ⟨tv2, rfl⟩ := lamV_one (goodS_nF gx) hv
  k_steps
  rename News _ _ _ _ => N
  refine use_oc (own := WN w wa wd sa ga t1 t2 t3 t4 fv .none us gs m1 n2) (rest := HN w ha hd r1 r2 r3 la lb ln pm ctv lc) (push_con w wa wd sa ga t1 t2 t3 t4 fv .none us gs m1 n2 n4 (ss "v") tv2 (by omega)) (by exact hh) (by show A.depth + 1 + _ < _; first | exact dlt (by assumption) (by decide) | exact dlt1 (by assumption) (by decide) | exact dlt2 (by assumption) (by decide) | exact dh ‹_› ‹_› (by decide) | exact dh0 ‹_› ‹_› (by decide) | exact dhs ‹_› ‹_› (by decide) | exact dm0 ‹_› ‹_› (by decide) | exact dl3 ‹_› (by decide) | exact dlt2 ‹_› (by decide) | omega) (by show A.units + 3 + _ < _; first | exact dlt (by assumption) (by decide) | exact dlt1 (by assumption) (by decide) | exact dlt2 (by assumption) (by decide) | exact dh ‹_› ‹_› (by decide) | exact dh0 ‹_› ‹_› (by decide) | exact dhs ‹_› ‹_› (by decide) | exact dm0 ‹_› ‹_› (by decide) | exact dl3 ‹_› (by decide) | exact dlt2 ‹_› (by decide) | omega) X T (by assumption) (by first | exact N | exact News.swap N | exact Mine.News.sub N (by (try dsimp only [WN, HN, MN, List.cons_append, List.nil_append]); lcg_sub)) (by first | assumption | exact Apart.symm (by assumption) | exact Dist7.apart (by assumption) | exact Apart.symm (Dist7.apart (by assumption)) | repeat (first | exact Apart.nil_left | refine Apart.cons (by k_all) ?_)) (fun _ _ => trivial) ?_
  intro PQ
  clear N
  rintro v3 h3 tk3 own3 F3 N3 ap3 ⟨rfl, m3, rfl⟩
  try dsimp only [WN, HN, MN, List.cons_append, List.nil_append] at N3
  k_steps
  try dsimp only
  rename News _ _ _ _ => N
  exact hret _ _ _ (MN w wa wd sa ga t1 t2 t3 t4 fv (us ++ [Value.str (ss "v") tv2]) gs m3 n2 ha hd r1 r2 r3 la lb ln pm ctv lc) (Fr.keep (by assumption)) (own_endg (by first | exact N | exact News.swap N | exact Mine.News.sub N (by dsimp only [WN, HN, MN, List.cons_append, List.nil_append]; lcg_sub))) ⟨rfl, sa, m3, n2, fv, (us ++ [Value.str (ss "v") tv2]), nd, hf, g2.snoc good_v, by first | exact rfl | exact sb2 ‹_› | exact sb1 ‹_› | exact sbn ‹_› | exact sbc ‹_› | omega | (simp only [List.length_append, List.length_cons, List.length_nil] at *; first | exact rfl | exact sb2 ‹_› | exact sb1 ‹_› | exact sbn ‹_› | exact sbc ‹_› | omega) | simp only [List.length_append, List.length_cons, List.length_nil], rfl⟩
theorem o_indirect (w : World) (wa wd sa ga : Addr) (t1 t2 t3 t4 : Tok) (fv : Value) (vs gs : List Value) (n1 n2 : Nat) (ha hd : Addr) (r1 r2 r3 : Tok) (la : Addr) (lb ln pm ctv : Value) (lc : Addr) (nd : Dist7 wa wd sa ga ha hd la) (hz : vs.length ≤ 1000) (hg : GoodV vs) (hf : GoodF fv) (v : Value) (h2 : 1 ≤ vs.length) :
    OCon w 338 [.ref wa, v, .ref ha] (MN w wa wd sa ga t1 t2 t3 t4 fv vs gs n1 n2 ha hd r1 r2 r3 la lb ln pm ctv lc) 40 3000 (fun h => OrdS (HS h) v .indirect ∧ h.CodeRec (.ref lc) lamQ) (Ran w wa wd ga t1 t2 t3 t4 ha hd r1 r2 r3 la lb ln pm ctv lc vs.length gs) := by
  refine OCon.of fun A s Q E g hh hdp hu hgg G h1 hp hret => ?_
  obtain ⟨⟨a, l, rfl, hT, t, rfl⟩, hcd⟩ := hp
  replace hT := hT.heap
  have n4 := nd.1
  have n3 := nd.2.2.2.2.2
  refine Dist7.all nd fun q1 q2 q3 q4 q5 q6 q7 q8 q9 q10 q11 q12 q13 q14 q15 q16 q17 q18 q19 q20 q21 => ?_
  obtain ⟨us, x, tx, rfl, g2, gx⟩ := good_last hg (by omega)
  simp only [List.length_append, List.length_cons, List.length_nil] at h2 hz
  refine enterO (own := MN w wa wd sa ga t1 t2 t3 t4 fv (us ++ [Value.str x tx]) gs n1 n2 ha hd r1 r2 r3 la lb ln pm ctv lc) (binds := [(ss "work", .ref wa), (ss "order", .ref a), (ss "hooks", .ref ha)]) hgg G h1 hret (B := ?B) (S := ?S) ?hB ?hS (by k_is) (by k_is) (lt0 (by assumption)) (BindsTo.of_eq rfl) (locs rfl) rfl rfl rfl (by decide) ?_
  case hB => conv => lhs; whnf
  case hS => conv => lhs; whnf
  have X := G.K
  clear hret G hgg h1
  intro s1 Q1 L loose mean mg mb T F N hret _
  dsimp only [WN, HN, MN, List.cons_append, List.nil_append] at N
  k_steps
  rename News _ _ _ _ => N
  refine use_oc (own := WN w wa wd sa ga t1 t2 t3 t4 fv .none (us ++ [Value.str x tx]) gs n1 n2) (rest := HN w ha hd r1 r2 r3 la lb ln pm ctv lc) (pop_con w wa wd sa ga t1 t2 t3 t4 fv .none us gs n1 n2 n4 x tx (by omega)) (by exact hh) (by show A.depth + 1 + _ < _; first | exact dlt (by assumption) (by decide) | exact dlt1 (by assumption) (by decide) | exact dlt2 (by assumption) (by decide) | exact dh ‹_› ‹_› (by decide) | exact dh0 ‹_› ‹_› (by decide) | exact dhs ‹_› ‹_› (by decide) | exact dm0 ‹_› ‹_› (by decide) | exact dl3 ‹_› (by decide) | exact dlt2 ‹_› (by decide) | omega) (by show A.units + 3 + _ < _; first | exact dlt (by assumption) (by decide) | exact dlt1 (by assumption) (by decide) | exact dlt2 (by assumption) (by decide) | exact dh ‹_› ‹_› (by decide) | exact dh0 ‹_› ‹_› (by decide) | exact dhs ‹_› ‹_› (by decide) | exact dm0 ‹_› ‹_› (by decide) | exact dl3 ‹_› (by decide) | exact dlt2 ‹_› (by decide) | omega) X T (by assumption) (by first | exact N | exact News.swap N | exact Mine.News.sub N (by (try dsimp only [WN, HN, MN, List.cons_append, List.nil_append]); lcg_sub)) (by first | assumption | exact Apart.symm (by assumption) | exact Dist7.apart (by assumption) | exact Apart.symm (Dist7.apart (by assumption)) | repeat (first | exact Apart.nil_left | refine Apart.cons (by k_all) ?_)) (fun _ _ => trivial) ?_
  intro PQ
  clear N
  rintro v1 h1 tk1 own1 F1 N1 ap1 ⟨rfl, m1, rfl⟩
  try dsimp only [WN, HN, MN, List.cons_append, List.nil_append] at N1
  k_steps
  rename News _ _ _ _ => N
  refine use_oc (own := HN w ha hd r1 r2 r3 la lb ln pm ctv lc) (rest := WN w wa wd sa ga t1 t2 t3 t4 fv .none us gs m1 n2) (hk_named_by w ha hd r1 r2 r3 la lb ln pm ctv lc n3 (Value.str x tx) (PyData.str x) (by simp only [PyData.canLayAll0, PyData.canLay0, goodS_ok gx, Bool.and_true]) (by simp only [PyData.depthAll, PyData.depth]; first | decide | exact mxd1 ‹_› | exact mxd2 ‹_› | omega)) (by exact hh) (by show A.depth + 1 + _ < _; first | exact dlt (by assumption) (by decide) | exact dlt1 (by assumption) (by decide) | exact dlt2 (by assumption) (by decide) | exact dh ‹_› ‹_› (by decide) | exact dh0 ‹_› ‹_› (by decide) | exact dhs ‹_› ‹_› (by decide) | exact dm0 ‹_› ‹_› (by decide) | exact dl3 ‹_› (by decide) | exact dlt2 ‹_› (by decide) | omega) (by show A.units + 3 + _ < _; first | exact dlt (by assumption) (by decide) | exact dlt1 (by assumption) (by decide) | exact dlt2 (by assumption) (by decide) | exact dh ‹_› ‹_› (by decide) | exact dh0 ‹_› ‹_› (by decide) | exact dhs ‹_› ‹_› (by decide) | exact dm0 ‹_› ‹_› (by decide) | exact dl3 ‹_› (by decide) | exact dlt2 ‹_› (by decide) | omega) X T (by assumption) (by first | exact N | exact News.swap N | exact Mine.News.sub N (by (try dsimp only [WN, HN, MN, List.cons_append, List.nil_append]); lcg_sub)) (by first | assumption | exact Apart.symm (by assumption) | exact Dist7.apart (by assumption) | exact Apart.symm (Dist7.apart (by assumption)) | repeat (first | exact Apart.nil_left | refine Apart.cons (by k_all) ?_)) (fun st hr => ⟨hcd.keeps st, _, .cons (.str _ _) .nil⟩) ?_
  intro PQ
  clear N
  rintro v2 h2 tk2 own2 F2 N2 ap2 ⟨hv, rfl⟩
  try dsimp only [WN, HN, MN, List.cons_append, List.nil_append] at N2
  obtain ⟨tv2, rfl⟩ := lamV_one (goodS_nF gx) hv
  k_steps
  rename News _ _ _ _ => N
  refine use_oc (own := WN w wa wd sa ga t1 t2 t3 t4 fv .none us gs m1 n2) (rest := HN w ha hd r1 r2 r3 la lb ln pm ctv lc) (push_con w wa wd sa ga t1 t2 t3 t4 fv .none us gs m1 n2 n4 (ss "v") tv2 (by omega)) (by exact hh) (by show A.depth + 1 + _ < _; first | exact dlt (by assumption) (by decide) | exact dlt1 (by assumption) (by decide) | exact dlt2 (by assumption) (by decide) | exact dh ‹_› ‹_› (by decide) | exact dh0 ‹_› ‹_› (by decide) | exact dhs ‹_› ‹_› (by decide) | exact dm0 ‹_› ‹_› (by decide) | exact dl3 ‹_› (by decide) | exact dlt2 ‹_› (by decide) | omega) (by show A.units + 3 + _ < _; first | exact dlt (by assumption) (by decide) | exact dlt1 (by assumption) (by decide) | exact dlt2 (by assumption) (by decide) | exact dh ‹_› ‹_› (by decide) | exact dh0 ‹_› ‹_› (by decide) | exact dhs ‹_› ‹_› (by decide) | exact dm0 ‹_› ‹_› (by decide) | exact dl3 ‹_› (by decide) | exact dlt2 ‹_› (by decide) | omega) X T (by assumption) (by first | exact N | exact News.swap N | exact Mine.News.sub N (by (try dsimp only [WN, HN, MN, List.cons_append, List.nil_append]); lcg_sub)) (by first | assumption | exact Apart.symm (by assumption) | exact Dist7.apart (by assumption) | exact Apart.symm (Dist7.apart (by assumption)) | repeat (first | exact Apart.nil_left | refine Apart.cons (by k_all) ?_)) (fun _ _ => trivial) ?_
  intro PQ
  clear N
  rintro v3 h3 tk3 own3 F3 N3 ap3 ⟨rfl, m3, rfl⟩
  try dsimp only [WN, HN, MN, List.cons_append, List.nil_append] at N3
  k_steps
  try dsimp only
  rename News _ _ _ _ => N
  exact hret _ _ _ (MN w wa wd sa ga t1 t2 t3 t4 fv (us ++ [Value.str (ss "v") tv2]) gs m3 n2 ha hd r1 r2 r3 la lb ln pm ctv lc) (Fr.keep (by assumption)) (own_endg (by first | exact N | exact News.swap N | exact Mine.News.sub N (by dsimp only [WN, HN, MN, List.cons_append, List.nil_append]; lcg_sub))) ⟨rfl, sa, m3, n2, fv, (us ++ [Value.str (ss "v") tv2]), nd, hf, g2.snoc good_v, by first | exact rfl | exact sb2 ‹_› | exact sb1 ‹_› | exact sbn ‹_› | exact sbc ‹_› | omega | (simp only [List.length_append, List.length_cons, List.length_nil] at *; first | exact rfl | exact sb2 ‹_› | exact sb1 ‹_› | exact sbn ‹_› | exact sbc ‹_› | omega) | simp only [List.length_append, List.length_cons, List.length_nil], rfl⟩
theorem o_call (w : World) (wa wd sa ga : Addr) (t1 t2 t3 t4 : Tok) (fv : Value) (vs gs : List Value) (n1 n2 : Nat) (ha hd : Addr) (r1 r2 r3 : Tok) (la : Addr) (lb ln pm ctv : Value) (lc : Addr) (nd : Dist7 wa wd sa ga ha hd la) (hz : vs.length ≤ 1000) (hg : GoodV vs) (hf : GoodF fv) (v : Value) (n : Nat) (h2 : n ≤ vs.length) :
    OCon w 338 [.ref wa, v, .ref ha] (MN w wa wd sa ga t1 t2 t3 t4 fv vs gs n1 n2 ha hd r1 r2 r3 la lb ln pm ctv lc) 40 3000 (fun h => OrdS (HS h) v (.call n) ∧ h.CodeRec (.ref lc) lamQ) (Ran w wa wd ga t1 t2 t3 t4 ha hd r1 r2 r3 la lb ln pm ctv lc (vs.length - n + 1) gs) := by
  refine OCon.of fun A s Q E g hh hdp hu hgg G h1 hp hret => ?_
  obtain ⟨⟨a, l, rfl, hT, t, u, v0, rfl⟩, hcd⟩ := hp
  replace hT := hT.heap
  have n4 := nd.1
  have n3 := nd.2.2.2.2.2
  refine Dist7.all nd fun q1 q2 q3 q4 q5 q6 q7 q8 q9 q10 q11 q12 q13 q14 q15 q16 q17 q18 q19 q20 q21 => ?_
  obtain ⟨us, xs, rfl, hxs, g2, gxs⟩ := good_split hg h2
  obtain ⟨ds, asd, hrd, hcl, hdl⟩ := good_reads gxs
  simp only [List.length_append, List.length_cons, List.length_nil] at h2 hz
  refine enterO (own := MN w wa wd sa ga t1 t2 t3 t4 fv (us ++ xs) gs n1 n2 ha hd r1 r2 r3 la lb ln pm ctv lc) (binds := [(ss "work", .ref wa), (ss "order", .ref a), (ss "hooks", .ref ha)]) hgg G h1 hret (B := ?B) (S := ?S) ?hB ?hS (by k_is) (by k_is) (lt0 (by assumption)) (BindsTo.of_eq rfl) (locs rfl) rfl rfl rfl (by decide) ?_
  case hB => conv => lhs; whnf
  case hS => conv => lhs; whnf
  have X := G.K
  clear hret G hgg h1
  intro s1 Q1 L loose mean mg mb T F N hret _
  dsimp only [WN, HN, MN, List.cons_append, List.nil_append] at N
  k_steps
  rename News _ _ _ _ => N
  refine use_oc (own := WN w wa wd sa ga t1 t2 t3 t4 fv .none (us ++ xs) gs n1 n2) (rest := HN w ha hd r1 r2 r3 la lb ln pm ctv lc) (take_con w wa wd sa ga t1 t2 t3 t4 fv .none us xs gs n1 n2 n4 n v0 hxs (by omega) (by omega)) (by exact hh) (by show A.depth + 1 + _ < _; first | exact dlt (by assumption) (by decide) | exact dlt1 (by assumption) (by decide) | exact dlt2 (by assumption) (by decide) | exact dh ‹_› ‹_› (by decide) | exact dh0 ‹_› ‹_› (by decide) | exact dhs ‹_› ‹_› (by decide) | exact dm0 ‹_› ‹_› (by decide) | exact dl3 ‹_› (by decide) | exact dlt2 ‹_› (by decide) | omega) (by show A.units + 3 + _ < _; first | exact dlt (by assumption) (by decide) | exact dlt1 (by assumption) (by decide) | exact dlt2 (by assumption) (by decide) | exact dh ‹_› ‹_› (by decide) | exact dh0 ‹_› ‹_› (by decide) | exact dhs ‹_› ‹_› (by decide) | exact dm0 ‹_› ‹_› (by decide) | exact dl3 ‹_› (by decide) | exact dlt2 ‹_› (by decide) | omega) X T (by assumption) (by first | exact N | exact News.swap N | exact Mine.News.sub N (by (try dsimp only [WN, HN, MN, List.cons_append, List.nil_append]); lcg_sub)) (by first | assumption | exact Apart.symm (by assumption) | exact Dist7.apart (by assumption) | exact Apart.symm (Dist7.apart (by assumption)) | repeat (first | exact Apart.nil_left | refine Apart.cons (by k_all) ?_)) (fun _ _ => trivial) ?_
  intro PQ
  clear N
  rintro v1 h1 tk1 own1 F1 N1 ap1 ⟨ka1, sb1, k1, m1, rfl, nn1, nk1, rfl⟩
  try dsimp only [WN, HN, MN, List.cons_append, List.nil_append] at N1
  have ax1 : DistP ha hd la sb1 := ⟨Ne.symm (ap1 (sb1, lstO us m1) (.tail _ (.tail _ (.tail _ (.head _)))) (ha, instObj 327 hd) (.head _)), Ne.symm (ap1 (sb1, lstO us m1) (.tail _ (.tail _ (.tail _ (.head _)))) (hd, dictOf (hookE w r1 r2 r3 la lb ln) 3) (.tail _ (.head _))), Ne.symm (ap1 (sb1, lstO us m1) (.tail _ (.tail _ (.tail _ (.head _)))) (la, lamO pm ctv lc) (.tail _ (.tail _ (.head _))))⟩
  have ay1 : DistP ha hd la ka1 := ⟨Ne.symm (ap1 (ka1, lstO xs k1) (.head _) (ha, instObj 327 hd) (.head _)), Ne.symm (ap1 (ka1, lstO xs k1) (.head _) (hd, dictOf (hookE w r1 r2 r3 la lb ln) 3) (.tail _ (.head _))), Ne.symm (ap1 (ka1, lstO xs k1) (.head _) (la, lamO pm ctv lc) (.tail _ (.tail _ (.head _))))⟩
  have nx1 := dist_new nd nn1 ax1
  refine DistP.all ax1 fun ax1h1 ax1h2 ax1h3 => ?_
  refine DistP.all ay1 fun ay1h1 ay1h2 ay1h3 => ?_
  refine DistK.all nk1 fun nk1h1 nk1h2 nk1h3 nk1h4 => ?_
  refine Dist4.all nn1 fun nn1h1 nn1h2 nn1h3 nn1h4 nn1h5 nn1h6 => ?_
  k_steps
  rename News _ _ _ _ => N
  refine use_oc (own := HN w ha hd r1 r2 r3 la lb ln pm ctv lc) (rest := (ka1, lstO xs k1) :: (WN w wa wd sb1 ga t1 t2 t3 t4 fv .none us gs m1 n2)) (hk_called w ha hd r1 r2 r3 la lb ln pm ctv lc n3 (Value.str (ss "G") u) (Value.ref ka1) (Value.bool false) (PyData.str (ss "G")) (PyData.list ds) (PyData.bool false) (by simp only [PyData.canLayAll0, PyData.canLay0, hcl, Bool.and_true, Bool.true_and]; kernel_rfl!) (by simp only [PyData.depthAll, PyData.depth]; first | decide | exact mxd1 ‹_› | exact mxd2 ‹_› | omega)) (by exact hh) (by show A.depth + 1 + _ < _; first | exact dlt (by assumption) (by decide) | exact dlt1 (by assumption) (by decide) | exact dlt2 (by assumption) (by decide) | exact dh ‹_› ‹_› (by decide) | exact dh0 ‹_› ‹_› (by decide) | exact dhs ‹_› ‹_› (by decide) | exact dm0 ‹_› ‹_› (by decide) | exact dl3 ‹_› (by decide) | exact dlt2 ‹_› (by decide) | omega) (by show A.units + 3 + _ < _; first | exact dlt (by assumption) (by decide) | exact dlt1 (by assumption) (by decide) | exact dlt2 (by assumption) (by decide) | exact dh ‹_› ‹_› (by decide) | exact dh0 ‹_› ‹_› (by decide) | exact dhs ‹_› ‹_› (by decide) | exact dm0 ‹_› ‹_› (by decide) | exact dl3 ‹_› (by decide) | exact dlt2 ‹_› (by decide) | omega) X T (by assumption) (by first | exact N | exact News.swap N | exact Mine.News.sub N (by (try dsimp only [WN, HN, MN, List.cons_append, List.nil_append]); lcg_sub)) (by first | assumption | exact Apart.symm (by assumption) | exact Dist7.apart (by assumption) | exact Apart.symm (Dist7.apart (by assumption)) | repeat (first | exact Apart.nil_left | refine Apart.cons (by k_all) ?_)) (fun st hr => ⟨hcd.keeps st, _, .cons (.str _ _) (.cons (reads_list_at (hr _ (.head _)) rfl rfl (by simpa using hrd _)) (.cons (.bool _) .nil))⟩) ?_
  intro PQ
  clear N
  rintro v2 h2 tk2 own2 F2 N2 ap2 ⟨hv, rfl⟩
  try dsimp only [WN, HN, MN, List.cons_append, List.nil_append] at N2
  obtain ⟨tv2, rfl⟩ := lamV_two hv
  k_steps
  rename News _ _ _ _ => N
  refine use_oc (own := WN w wa wd sb1 ga t1 t2 t3 t4 fv .none us gs m1 n2) (rest := HN w ha hd r1 r2 r3 la lb ln pm ctv lc) (push_con w wa wd sb1 ga t1 t2 t3 t4 fv .none us gs m1 n2 nn1 (ss "v") tv2 (by omega)) (by exact hh) (by show A.depth + 1 + _ < _; first | exact dlt (by assumption) (by decide) | exact dlt1 (by assumption) (by decide) | exact dlt2 (by assumption) (by decide) | exact dh ‹_› ‹_› (by decide) | exact dh0 ‹_› ‹_› (by decide) | exact dhs ‹_› ‹_› (by decide) | exact dm0 ‹_› ‹_› (by decide) | exact dl3 ‹_› (by decide) | exact dlt2 ‹_› (by decide) | omega) (by show A.units + 3 + _ < _; first | exact dlt (by assumption) (by decide) | exact dlt1 (by assumption) (by decide) | exact dlt2 (by assumption) (by decide) | exact dh ‹_› ‹_› (by decide) | exact dh0 ‹_› ‹_› (by decide) | exact dhs ‹_› ‹_› (by decide) | exact dm0 ‹_› ‹_› (by decide) | exact dl3 ‹_› (by decide) | exact dlt2 ‹_› (by decide) | omega) X T (by assumption) (by first | exact N | exact News.swap N | exact Mine.News.sub N (by (try dsimp only [WN, HN, MN, List.cons_append, List.nil_append]); lcg_sub)) (by first | assumption | exact Apart.symm (by assumption) | exact Dist7.apart (by assumption) | exact Apart.symm (Dist7.apart (by assumption)) | repeat (first | exact Apart.nil_left | refine Apart.cons (by k_all) ?_)) (fun _ _ => trivial) ?_
  intro PQ
  clear N
  rintro v3 h3 tk3 own3 F3 N3 ap3 ⟨rfl, m3, rfl⟩
  try dsimp only [WN, HN, MN, List.cons_append, List.nil_append] at N3
  k_steps
  try dsimp only
  rename News _ _ _ _ => N
  exact hret _ _ _ (MN w wa wd sb1 ga t1 t2 t3 t4 fv (us ++ [Value.str (ss "v") tv2]) gs m3 n2 ha hd r1 r2 r3 la lb ln pm ctv lc) (Fr.keep (by assumption)) (own_endg (by first | exact N | exact News.swap N | exact Mine.News.sub N (by dsimp only [WN, HN, MN, List.cons_append, List.nil_append]; lcg_sub))) ⟨rfl, sb1, m3, n2, fv, (us ++ [Value.str (ss "v") tv2]), nx1, hf, g2.snoc good_v, by first | exact rfl | exact sb2 ‹_› | exact sb1 ‹_› | exact sbn ‹_› | exact sbc ‹_› | omega | (simp only [List.length_append, List.length_cons, List.length_nil] at *; first | exact rfl | exact sb2 ‹_› | exact sb1 ‹_› | exact sbn ‹_› | exact sbc ‹_› | omega) | simp only [List.length_append, List.length_cons, List.length_nil], rfl⟩
theorem o_item (w : World) (wa wd sa ga : Addr) (t1 t2 t3 t4 : Tok) (fv : Value) (vs gs : List Value) (n1 n2 : Nat) (ha hd : Addr) (r1 r2 r3 : Tok) (la : Addr) (lb ln pm ctv : Value) (lc : Addr) (nd : Dist7 wa wd sa ga ha hd la) (hz : vs.length ≤ 1000) (hg : GoodV vs) (hf : GoodF fv) (v : Value) (n : Nat) (h2 : n + 1 ≤ vs.length) :
    OCon w 338 [.ref wa, v, .ref ha] (MN w wa wd sa ga t1 t2 t3 t4 fv vs gs n1 n2 ha hd r1 r2 r3 la lb ln pm ctv lc) 40 3000 (fun h => OrdS (HS h) v (.item n) ∧ h.CodeRec (.ref lc) lamQ) (Ran w wa wd ga t1 t2 t3 t4 ha hd r1 r2 r3 la lb ln pm ctv lc (vs.length - n) gs) := by
  refine OCon.of fun A s Q E g hh hdp hu hgg G h1 hp hret => ?_
  obtain ⟨⟨a, l, rfl, hT, t, v0, rfl⟩, hcd⟩ := hp
  replace hT := hT.heap
  have n4 := nd.1
  have n3 := nd.2.2.2.2.2
  refine Dist7.all nd fun q1 q2 q3 q4 q5 q6 q7 q8 q9 q10 q11 q12 q13 q14 q15 q16 q17 q18 q19 q20 q21 => ?_
  obtain ⟨us1, xs, rfl, hxs, g1, gxs⟩ := good_split hg (j := n) (by omega)
  obtain ⟨ds, asd, hrd, hcl, hdl⟩ := good_reads gxs
  simp only [List.length_append, List.length_cons, List.length_nil] at h2 hz
  obtain ⟨us, x, tx, rfl, g2, gx⟩ := good_last g1 (by omega)
  simp only [List.length_append, List.length_cons, List.length_nil] at h2 hz
  refine enterO (own := MN w wa wd sa ga t1 t2 t3 t4 fv ((us ++ [Value.str x tx]) ++ xs) gs n1 n2 ha hd r1 r2 r3 la lb ln pm ctv lc) (binds := [(ss "work", .ref wa), (ss "order", .ref a), (ss "hooks", .ref ha)]) hgg G h1 hret (B := ?B) (S := ?S) ?hB ?hS (by k_is) (by k_is) (lt0 (by assumption)) (BindsTo.of_eq rfl) (locs rfl) rfl rfl rfl (by decide) ?_
  case hB => conv => lhs; whnf
  case hS => conv => lhs; whnf
  have X := G.K
  clear hret G hgg h1
  intro s1 Q1 L loose mean mg mb T F N hret _
  dsimp only [WN, HN, MN, List.cons_append, List.nil_append] at N
  k_steps
  rename News _ _ _ _ => N
  refine use_oc (own := WN w wa wd sa ga t1 t2 t3 t4 fv .none ((us ++ [Value.str x tx]) ++ xs) gs n1 n2) (rest := HN w ha hd r1 r2 r3 la lb ln pm ctv lc) (take_con w wa wd sa ga t1 t2 t3 t4 fv .none (us ++ [Value.str x tx]) xs gs n1 n2 n4 n v0 hxs (by simp only [List.length_append, List.length_cons, List.length_nil]; omega) (by omega)) (by exact hh) (by show A.depth + 1 + _ < _; first | exact dlt (by assumption) (by decide) | exact dlt1 (by assumption) (by decide) | exact dlt2 (by assumption) (by decide) | exact dh ‹_› ‹_› (by decide) | exact dh0 ‹_› ‹_› (by decide) | exact dhs ‹_› ‹_› (by decide) | exact dm0 ‹_› ‹_› (by decide) | exact dl3 ‹_› (by decide) | exact dlt2 ‹_› (by decide) | omega) (by show A.units + 3 + _ < _; first | exact dlt (by assumption) (by decide) | exact dlt1 (by assumption) (by decide) | exact dlt2 (by assumption) (by decide) | exact dh ‹_› ‹_› (by decide) | exact dh0 ‹_› ‹_› (by decide) | exact dhs ‹_› ‹_› (by decide) | exact dm0 ‹_› ‹_› (by decide) | exact dl3 ‹_› (by decide) | exact dlt2 ‹_› (by decide) | omega) X T (by assumption) (by first | exact N | exact News.swap N | exact Mine.News.sub N (by (try dsimp only [WN, HN, MN, List.cons_append, List.nil_append]); lcg_sub)) (by first | assumption | exact Apart.symm (by assumption) | exact Dist7.apart (by assumption) | exact Apart.symm (Dist7.apart (by assumption)) | repeat (first | exact Apart.nil_left | refine Apart.cons (by k_all) ?_)) (fun _ _ => trivial) ?_
  intro PQ
  clear N
  rintro v1 h1 tk1 own1 F1 N1 ap1 ⟨ka1, sb1, k1, m1, rfl, nn1, nk1, rfl⟩
  try dsimp only [WN, HN, MN, List.cons_append, List.nil_append] at N1
  have ax1 : DistP ha hd la sb1 := ⟨Ne.symm (ap1 (sb1, lstO (us ++ [Value.str x tx]) m1) (.tail _ (.tail _ (.tail _ (.head _)))) (ha, instObj 327 hd) (.head _)), Ne.symm (ap1 (sb1, lstO (us ++ [Value.str x tx]) m1) (.tail _ (.tail _ (.tail _ (.head _)))) (hd, dictOf (hookE w r1 r2 r3 la lb ln) 3) (.tail _ (.head _))), Ne.symm (ap1 (sb1, lstO (us ++ [Value.str x tx]) m1) (.tail _ (.tail _ (.tail _ (.head _)))) (la, lamO pm ctv lc) (.tail _ (.tail _ (.head _))))⟩
  have ay1 : DistP ha hd la ka1 := ⟨Ne.symm (ap1 (ka1, lstO xs k1) (.head _) (ha, instObj 327 hd) (.head _)), Ne.symm (ap1 (ka1, lstO xs k1) (.head _) (hd, dictOf (hookE w r1 r2 r3 la lb ln) 3) (.tail _ (.head _))), Ne.symm (ap1 (ka1, lstO xs k1) (.head _) (la, lamO pm ctv lc) (.tail _ (.tail _ (.head _))))⟩
  have nx1 := dist_new nd nn1 ax1
  refine DistP.all ax1 fun ax1h1 ax1h2 ax1h3 => ?_
  refine DistP.all ay1 fun ay1h1 ay1h2 ay1h3 => ?_
  refine DistK.all nk1 fun nk1h1 nk1h2 nk1h3 nk1h4 => ?_
  refine Dist4.all nn1 fun nn1h1 nn1h2 nn1h3 nn1h4 nn1h5 nn1h6 => ?_
  k_steps
  rename News _ _ _ _ => N
  refine use_oc (own := WN w wa wd sb1 ga t1 t2 t3 t4 fv .none (us ++ [Value.str x tx]) gs m1 n2) (rest := (ka1, lstO xs k1) :: (HN w ha hd r1 r2 r3 la lb ln pm ctv lc)) (pop_con w wa wd sb1 ga t1 t2 t3 t4 fv .none us gs m1 n2 nn1 x tx (by omega)) (by exact hh) (by show A.depth + 1 + _ < _; first | exact dlt (by assumption) (by decide) | exact dlt1 (by assumption) (by decide) | exact dlt2 (by assumption) (by decide) | exact dh ‹_› ‹_› (by decide) | exact dh0 ‹_› ‹_› (by decide) | exact dhs ‹_› ‹_› (by decide) | exact dm0 ‹_› ‹_› (by decide) | exact dl3 ‹_› (by decide) | exact dlt2 ‹_› (by decide) | omega) (by show A.units + 3 + _ < _; first | exact dlt (by assumption) (by decide) | exact dlt1 (by assumption) (by decide) | exact dlt2 (by assumption) (by decide) | exact dh ‹_› ‹_› (by decide) | exact dh0 ‹_› ‹_› (by decide) | exact dhs ‹_› ‹_› (by decide) | exact dm0 ‹_› ‹_› (by decide) | exact dl3 ‹_› (by decide) | exact dlt2 ‹_› (by decide) | omega) X T (by assumption) (by first | exact N | exact News.swap N | exact Mine.News.sub N (by (try dsimp only [WN, HN, MN, List.cons_append, List.nil_append]); lcg_sub)) (by first | assumption | exact Apart.symm (by assumption) | exact Dist7.apart (by assumption) | exact Apart.symm (Dist7.apart (by assumption)) | repeat (first | exact Apart.nil_left | refine Apart.cons (by k_all) ?_)) (fun _ _ => trivial) ?_
  intro PQ
  clear N
  rintro v2 h2 tk2 own2 F2 N2 ap2 ⟨rfl, m2, rfl⟩
  try dsimp only [WN, HN, MN, List.cons_append, List.nil_append] at N2
  k_steps
  rename News _ _ _ _ => N
  refine use_oc (own := HN w ha hd r1 r2 r3 la lb ln pm ctv lc) (rest := (ka1, lstO xs k1) :: (WN w wa wd sb1 ga t1 t2 t3 t4 fv .none us gs m2 n2)) (hk_item_of w ha hd r1 r2 r3 la lb ln pm ctv lc n3 (Value.str x tx) (Value.ref ka1) (Value.bool false) (PyData.str x) (PyData.list ds) (PyData.bool false) (by simp only [PyData.canLayAll0, PyData.canLay0, hcl, goodS_ok gx, Bool.and_true, Bool.true_and]) (by simp only [PyData.depthAll, PyData.depth]; first | decide | exact mxd1 ‹_› | exact mxd2 ‹_› | omega)) (by exact hh) (by show A.depth + 1 + _ < _; first | exact dlt (by assumption) (by decide) | exact dlt1 (by assumption) (by decide) | exact dlt2 (by assumption) (by decide) | exact dh ‹_› ‹_› (by decide) | exact dh0 ‹_› ‹_› (by decide) | exact dhs ‹_› ‹_› (by decide) | exact dm0 ‹_› ‹_› (by decide) | exact dl3 ‹_› (by decide) | exact dlt2 ‹_› (by decide) | omega) (by show A.units + 3 + _ < _; first | exact dlt (by assumption) (by decide) | exact dlt1 (by assumption) (by decide) | exact dlt2 (by assumption) (by decide) | exact dh ‹_› ‹_› (by decide) | exact dh0 ‹_› ‹_› (by decide) | exact dhs ‹_› ‹_› (by decide) | exact dm0 ‹_› ‹_› (by decide) | exact dl3 ‹_› (by decide) | exact dlt2 ‹_› (by decide) | omega) X T (by assumption) (by first | exact N | exact News.swap N | exact Mine.News.sub N (by (try dsimp only [WN, HN, MN, List.cons_append, List.nil_append]); lcg_sub)) (by first | assumption | exact Apart.symm (by assumption) | exact Dist7.apart (by assumption) | exact Apart.symm (Dist7.apart (by assumption)) | repeat (first | exact Apart.nil_left | refine Apart.cons (by k_all) ?_)) (fun st hr => ⟨hcd.keeps st, _, .cons (.str _ _) (.cons (reads_list_at (hr _ (.head _)) rfl rfl (by simpa using hrd _)) (.cons (.bool _) .nil))⟩) ?_
  intro PQ
  clear N
  rintro v3 h3 tk3 own3 F3 N3 ap3 ⟨hv, rfl⟩
  try dsimp only [WN, HN, MN, List.cons_append, List.nil_append] at N3
  obtain ⟨tv3, rfl⟩ := lamV_two hv
  k_steps
  rename News _ _ _ _ => N
  refine use_oc (own := WN w wa wd sb1 ga t1 t2 t3 t4 fv .none us gs m2 n2) (rest := HN w ha hd r1 r2 r3 la lb ln pm ctv lc) (push_con w wa wd sb1 ga t1 t2 t3 t4 fv .none us gs m2 n2 nn1 (ss "v") tv3 (by omega)) (by exact hh) (by show A.depth + 1 + _ < _; first | exact dlt (by assumption) (by decide) | exact dlt1 (by assumption) (by decide) | exact dlt2 (by assumption) (by decide) | exact dh ‹_› ‹_› (by decide) | exact dh0 ‹_› ‹_› (by decide) | exact dhs ‹_› ‹_› (by decide) | exact dm0 ‹_› ‹_› (by decide) | exact dl3 ‹_› (by decide) | exact dlt2 ‹_› (by decide) | omega) (by show A.units + 3 + _ < _; first | exact dlt (by assumption) (by decide) | exact dlt1 (by assumption) (by decide) | exact dlt2 (by assumption) (by decide) | exact dh ‹_› ‹_› (by decide) | exact dh0 ‹_› ‹_› (by decide) | exact dhs ‹_› ‹_› (by decide) | exact dm0 ‹_› ‹_› (by decide) | exact dl3 ‹_› (by decide) | exact dlt2 ‹_› (by decide) | omega) X T (by assumption) (by first | exact N | exact News.swap N | exact Mine.News.sub N (by (try dsimp only [WN, HN, MN, List.cons_append, List.nil_append]); lcg_sub)) (by first | assumption | exact Apart.symm (by assumption) | exact Dist7.apart (by assumption) | exact Apart.symm (Dist7.apart (by assumption)) | repeat (first | exact Apart.nil_left | refine Apart.cons (by k_all) ?_)) (fun _ _ => trivial) ?_
  intro PQ
  clear N
  rintro v4 h4 tk4 own4 F4 N4 ap4 ⟨rfl, m4, rfl⟩
  try dsimp only [WN, HN, MN, List.cons_append, List.nil_append] at N4
  k_steps
  try dsimp only
  rename News _ _ _ _ => N
  exact hret _ _ _ (MN w wa wd sb1 ga t1 t2 t3 t4 fv (us ++ [Value.str (ss "v") tv3]) gs m4 n2 ha hd r1 r2 r3 la lb ln pm ctv lc) (Fr.keep (by assumption)) (own_endg (by first | exact N | exact News.swap N | exact Mine.News.sub N (by dsimp only [WN, HN, MN, List.cons_append, List.nil_append]; lcg_sub))) ⟨rfl, sb1, m4, n2, fv, (us ++ [Value.str (ss "v") tv3]), nx1, hf, g2.snoc good_v, by first | exact rfl | exact sb2 ‹_› | exact sb1 ‹_› | exact sbn ‹_› | exact sbc ‹_› | omega | (simp only [List.length_append, List.length_cons, List.length_nil] at *; first | exact rfl | exact sb2 ‹_› | exact sb1 ‹_› | exact sbn ‹_› | exact sbc ‹_› | omega) | simp only [List.length_append, List.length_cons, List.length_nil], rfl⟩
theorem o_unary (w : World) (wa wd sa ga : Addr) (t1 t2 t3 t4 : Tok) (fv : Value) (vs gs : List Value) (n1 n2 : Nat) (ha hd : Addr) (r1 r2 r3 : Tok) (la : Addr) (lb ln pm ctv : Value) (lc : Addr) (nd : Dist7 wa wd sa ga ha hd la) (hz : vs.length ≤ 1000) (hg : GoodV vs) (hf : GoodF fv) (v : Value) (op : Str) (hop : PyData.strOk op = true) (h2 : 1 ≤ vs.length) :
    OCon w 338 [.ref wa, v, .ref ha] (MN w wa wd sa ga t1 t2 t3 t4 fv vs gs n1 n2 ha hd r1 r2 r3 la lb ln pm ctv lc) 40 3000 (fun h => OrdS (HS h) v (.unary op) ∧ h.CodeRec (.ref lc) lamQ) (Ran w wa wd ga t1 t2 t3 t4 ha hd r1 r2 r3 la lb ln pm ctv lc (vs.length - 0) gs) := by
  refine OCon.of fun A s Q E g hh hdp hu hgg G h1 hp hret => ?_
  obtain ⟨⟨a, l, rfl, hT, t, u, rfl⟩, hcd⟩ := hp
  replace hT := hT.heap
  have n4 := nd.1
  have n3 := nd.2.2.2.2.2
  refine Dist7.all nd fun q1 q2 q3 q4 q5 q6 q7 q8 q9 q10 q11 q12 q13 q14 q15 q16 q17 q18 q19 q20 q21 => ?_
  obtain ⟨us, xs, rfl, hxs, g2, gxs⟩ := good_split hg h2
  obtain ⟨ds, asd, hrd, hcl, hdl⟩ := good_reads gxs
  simp only [List.length_append, List.length_cons, List.length_nil] at h2 hz
  refine enterO (own := MN w wa wd sa ga t1 t2 t3 t4 fv (us ++ xs) gs n1 n2 ha hd r1 r2 r3 la lb ln pm ctv lc) (binds := [(ss "work", .ref wa), (ss "order", .ref a), (ss "hooks", .ref ha)]) hgg G h1 hret (B := ?B) (S := ?S) ?hB ?hS (by k_is) (by k_is) (lt0 (by assumption)) (BindsTo.of_eq rfl) (locs rfl) rfl rfl rfl (by decide) ?_
  case hB => conv => lhs; whnf
  case hS => conv => lhs; whnf
  have X := G.K
  clear hret G hgg h1
  intro s1 Q1 L loose mean mg mb T F N hret _
  dsimp only [WN, HN, MN, List.cons_append, List.nil_append] at N
  k_steps
  rename News _ _ _ _ => N
  refine use_oc (own := WN w wa wd sa ga t1 t2 t3 t4 fv .none (us ++ xs) gs n1 n2) (rest := HN w ha hd r1 r2 r3 la lb ln pm ctv lc) (take_con w wa wd sa ga t1 t2 t3 t4 fv .none us xs gs n1 n2 n4 1 _ hxs (by omega) (by omega)) (by exact hh) (by show A.depth + 1 + _ < _; first | exact dlt (by assumption) (by decide) | exact dlt1 (by assumption) (by decide) | exact dlt2 (by assumption) (by decide) | exact dh ‹_› ‹_› (by decide) | exact dh0 ‹_› ‹_› (by decide) | exact dhs ‹_› ‹_› (by decide) | exact dm0 ‹_› ‹_› (by decide) | exact dl3 ‹_› (by decide) | exact dlt2 ‹_› (by decide) | omega) (by show A.units + 3 + _ < _; first | exact dlt (by assumption) (by decide) | exact dlt1 (by assumption) (by decide) | exact dlt2 (by assumption) (by decide) | exact dh ‹_› ‹_› (by decide) | exact dh0 ‹_› ‹_› (by decide) | exact dhs ‹_› ‹_› (by decide) | exact dm0 ‹_› ‹_› (by decide) | exact dl3 ‹_› (by decide) | exact dlt2 ‹_› (by decide) | omega) X T (by assumption) (by first | exact N | exact News.swap N | exact Mine.News.sub N (by (try dsimp only [WN, HN, MN, List.cons_append, List.nil_append]); lcg_sub)) (by first | assumption | exact Apart.symm (by assumption) | exact Dist7.apart (by assumption) | exact Apart.symm (Dist7.apart (by assumption)) | repeat (first | exact Apart.nil_left | refine Apart.cons (by k_all) ?_)) (fun _ _ => trivial) ?_
  intro PQ
  clear N
  rintro v1 h1 tk1 own1 F1 N1 ap1 ⟨ka1, sb1, k1, m1, rfl, nn1, nk1, rfl⟩
  try dsimp only [WN, HN, MN, List.cons_append, List.nil_append] at N1
  have ax1 : DistP ha hd la sb1 := ⟨Ne.symm (ap1 (sb1, lstO us m1) (.tail _ (.tail _ (.tail _ (.head _)))) (ha, instObj 327 hd) (.head _)), Ne.symm (ap1 (sb1, lstO us m1) (.tail _ (.tail _ (.tail _ (.head _)))) (hd, dictOf (hookE w r1 r2 r3 la lb ln) 3) (.tail _ (.head _))), Ne.symm (ap1 (sb1, lstO us m1) (.tail _ (.tail _ (.tail _ (.head _)))) (la, lamO pm ctv lc) (.tail _ (.tail _ (.head _))))⟩
  have ay1 : DistP ha hd la ka1 := ⟨Ne.symm (ap1 (ka1, lstO xs k1) (.head _) (ha, instObj 327 hd) (.head _)), Ne.symm (ap1 (ka1, lstO xs k1) (.head _) (hd, dictOf (hookE w r1 r2 r3 la lb ln) 3) (.tail _ (.head _))), Ne.symm (ap1 (ka1, lstO xs k1) (.head _) (la, lamO pm ctv lc) (.tail _ (.tail _ (.head _))))⟩
  have nx1 := dist_new nd nn1 ax1
  refine DistP.all ax1 fun ax1h1 ax1h2 ax1h3 => ?_
  refine DistP.all ay1 fun ay1h1 ay1h2 ay1h3 => ?_
  refine DistK.all nk1 fun nk1h1 nk1h2 nk1h3 nk1h4 => ?_
  refine Dist4.all nn1 fun nn1h1 nn1h2 nn1h3 nn1h4 nn1h5 nn1h6 => ?_
  k_steps
  rename News _ _ _ _ => N
  refine use_oc (own := HN w ha hd r1 r2 r3 la lb ln pm ctv lc) (rest := (ka1, lstO xs k1) :: (WN w wa wd sb1 ga t1 t2 t3 t4 fv .none us gs m1 n2)) (hk_operated w ha hd r1 r2 r3 la lb ln pm ctv lc n3 (Value.str op u) (Value.ref ka1) (PyData.str op) (PyData.list ds) (by simp only [PyData.canLayAll0, PyData.canLay0, hcl, hop, Bool.and_true, Bool.true_and]) (by simp only [PyData.depthAll, PyData.depth]; first | decide | exact mxd1 ‹_› | exact mxd2 ‹_› | omega)) (by exact hh) (by show A.depth + 1 + _ < _; first | exact dlt (by assumption) (by decide) | exact dlt1 (by assumption) (by decide) | exact dlt2 (by assumption) (by decide) | exact dh ‹_› ‹_› (by decide) | exact dh0 ‹_› ‹_› (by decide) | exact dhs ‹_› ‹_› (by decide) | exact dm0 ‹_› ‹_› (by decide) | exact dl3 ‹_› (by decide) | exact dlt2 ‹_› (by decide) | omega) (by show A.units + 3 + _ < _; first | exact dlt (by assumption) (by decide) | exact dlt1 (by assumption) (by decide) | exact dlt2 (by assumption) (by decide) | exact dh ‹_› ‹_› (by decide) | exact dh0 ‹_› ‹_› (by decide) | exact dhs ‹_› ‹_› (by decide) | exact dm0 ‹_› ‹_› (by decide) | exact dl3 ‹_› (by decide) | exact dlt2 ‹_› (by decide) | omega) X T (by assumption) (by first | exact N | exact News.swap N | exact Mine.News.sub N (by (try dsimp only [WN, HN, MN, List.cons_append, List.nil_append]); lcg_sub)) (by first | assumption | exact Apart.symm (by assumption) | exact Dist7.apart (by assumption) | exact Apart.symm (Dist7.apart (by assumption)) | repeat (first | exact Apart.nil_left | refine Apart.cons (by k_all) ?_)) (fun st hr => ⟨hcd.keeps st, _, .cons (.str _ _) (.cons (reads_list_at (hr _ (.head _)) rfl rfl (by simpa using hrd _)) .nil)⟩) ?_
  intro PQ
  clear N
  rintro v2 h2 tk2 own2 F2 N2 ap2 ⟨hv, rfl⟩
  try dsimp only [WN, HN, MN, List.cons_append, List.nil_append] at N2
  obtain ⟨tv2, rfl⟩ := lamV_two hv
  k_steps
  rename News _ _ _ _ => N
  refine use_oc (own := WN w wa wd sb1 ga t1 t2 t3 t4 fv .none us gs m1 n2) (rest := HN w ha hd r1 r2 r3 la lb ln pm ctv lc) (push_con w wa wd sb1 ga t1 t2 t3 t4 fv .none us gs m1 n2 nn1 (ss "v") tv2 (by omega)) (by exact hh) (by show A.depth + 1 + _ < _; first | exact dlt (by assumption) (by decide) | exact dlt1 (by assumption) (by decide) | exact dlt2 (by assumption) (by decide) | exact dh ‹_› ‹_› (by decide) | exact dh0 ‹_› ‹_› (by decide) | exact dhs ‹_› ‹_› (by decide) | exact dm0 ‹_› ‹_› (by decide) | exact dl3 ‹_› (by decide) | exact dlt2 ‹_› (by decide) | omega) (by show A.units + 3 + _ < _; first | exact dlt (by assumption) (by decide) | exact dlt1 (by assumption) (by decide) | exact dlt2 (by assumption) (by decide) | exact dh ‹_› ‹_› (by decide) | exact dh0 ‹_› ‹_› (by decide) | exact dhs ‹_› ‹_› (by decide) | exact dm0 ‹_› ‹_› (by decide) | exact dl3 ‹_› (by decide) | exact dlt2 ‹_› (by decide) | omega) X T (by assumption) (by first | exact N | exact News.swap N | exact Mine.News.sub N (by (try dsimp only [WN, HN, MN, List.cons_append, List.nil_append]); lcg_sub)) (by first | assumption | exact Apart.symm (by assumption) | exact Dist7.apart (by assumption) | exact Apart.symm (Dist7.apart (by assumption)) | repeat (first | exact Apart.nil_left | refine Apart.cons (by k_all) ?_)) (fun _ _ => trivial) ?_
  intro PQ
  clear N
  rintro v3 h3 tk3 own3 F3 N3 ap3 ⟨rfl, m3, rfl⟩
  try dsimp only [WN, HN, MN, List.cons_append, List.nil_append] at N3
  k_steps
  try dsimp only
  rename News _ _ _ _ => N
  exact hret _ _ _ (MN w wa wd sb1 ga t1 t2 t3 t4 fv (us ++ [Value.str (ss "v") tv2]) gs m3 n2 ha hd r1 r2 r3 la lb ln pm ctv lc) (Fr.keep (by assumption)) (own_endg (by first | exact N | exact News.swap N | exact Mine.News.sub N (by dsimp only [WN, HN, MN, List.cons_append, List.nil_append]; lcg_sub))) ⟨rfl, sb1, m3, n2, fv, (us ++ [Value.str (ss "v") tv2]), nx1, hf, g2.snoc good_v, by first | exact rfl | exact sb2 ‹_› | exact sb1 ‹_› | exact sbn ‹_› | exact sbc ‹_› | omega | (simp only [List.length_append, List.length_cons, List.length_nil] at *; first | exact rfl | exact sb2 ‹_› | exact sb1 ‹_› | exact sbn ‹_› | exact sbc ‹_› | omega) | simp only [List.length_append, List.length_cons, List.length_nil], rfl⟩
theorem o_binary (w : World) (wa wd sa ga : Addr) (t1 t2 t3 t4 : Tok) (fv : Value) (vs gs : List Value) (n1 n2 : Nat) (ha hd : Addr) (r1 r2 r3 : Tok) (la : Addr) (lb ln pm ctv : Value) (lc : Addr) (nd : Dist7 wa wd sa ga ha hd la) (hz : vs.length ≤ 1000) (hg : GoodV vs) (hf : GoodF fv) (v : Value) (op : Str) (hop : PyData.strOk op = true) (h2 : 2 ≤ vs.length) :
    OCon w 338 [.ref wa, v, .ref ha] (MN w wa wd sa ga t1 t2 t3 t4 fv vs gs n1 n2 ha hd r1 r2 r3 la lb ln pm ctv lc) 40 3000 (fun h => OrdS (HS h) v (.binary op) ∧ h.CodeRec (.ref lc) lamQ) (Ran w wa wd ga t1 t2 t3 t4 ha hd r1 r2 r3 la lb ln pm ctv lc (vs.length - 1) gs) := by
  refine OCon.of fun A s Q E g hh hdp hu hgg G h1 hp hret => ?_
  obtain ⟨⟨a, l, rfl, hT, t, u, rfl⟩, hcd⟩ := hp
  replace hT := hT.heap
  have n4 := nd.1
  have n3 := nd.2.2.2.2.2
  refine Dist7.all nd fun q1 q2 q3 q4 q5 q6 q7 q8 q9 q10 q11 q12 q13 q14 q15 q16 q17 q18 q19 q20 q21 => ?_
  obtain ⟨us, xs, rfl, hxs, g2, gxs⟩ := good_split hg h2
  obtain ⟨ds, asd, hrd, hcl, hdl⟩ := good_reads gxs
  simp only [List.length_append, List.length_cons, List.length_nil] at h2 hz
  refine enterO (own := MN w wa wd sa ga t1 t2 t3 t4 fv (us ++ xs) gs n1 n2 ha hd r1 r2 r3 la lb ln pm ctv lc) (binds := [(ss "work", .ref wa), (ss "order", .ref a), (ss "hooks", .ref ha)]) hgg G h1 hret (B := ?B) (S := ?S) ?hB ?hS (by k_is) (by k_is) (lt0 (by assumption)) (BindsTo.of_eq rfl) (locs rfl) rfl rfl rfl (by decide) ?_
  case hB => conv => lhs; whnf
  case hS => conv => lhs; whnf
  have X := G.K
  clear hret G hgg h1
  intro s1 Q1 L loose mean mg mb T F N hret _
  dsimp only [WN, HN, MN, List.cons_append, List.nil_append] at N
  k_steps
  rename News _ _ _ _ => N
  refine use_oc (own := WN w wa wd sa ga t1 t2 t3 t4 fv .none (us ++ xs) gs n1 n2) (rest := HN w ha hd r1 r2 r3 la lb ln pm ctv lc) (take_con w wa wd sa ga t1 t2 t3 t4 fv .none us xs gs n1 n2 n4 2 _ hxs (by omega) (by omega)) (by exact hh) (by show A.depth + 1 + _ < _; first | exact dlt (by assumption) (by decide) | exact dlt1 (by assumption) (by decide) | exact dlt2 (by assumption) (by decide) | exact dh ‹_› ‹_› (by decide) | exact dh0 ‹_› ‹_› (by decide) | exact dhs ‹_› ‹_› (by decide) | exact dm0 ‹_› ‹_› (by decide) | exact dl3 ‹_› (by decide) | exact dlt2 ‹_› (by decide) | omega) (by show A.units + 3 + _ < _; first | exact dlt (by assumption) (by decide) | exact dlt1 (by assumption) (by decide) | exact dlt2 (by assumption) (by decide) | exact dh ‹_› ‹_› (by decide) | exact dh0 ‹_› ‹_› (by decide) | exact dhs ‹_› ‹_› (by decide) | exact dm0 ‹_› ‹_› (by decide) | exact dl3 ‹_› (by decide) | exact dlt2 ‹_› (by decide) | omega) X T (by assumption) (by first | exact N | exact News.swap N | exact Mine.News.sub N (by (try dsimp only [WN, HN, MN, List.cons_append, List.nil_append]); lcg_sub)) (by first | assumption | exact Apart.symm (by assumption) | exact Dist7.apart (by assumption) | exact Apart.symm (Dist7.apart (by assumption)) | repeat (first | exact Apart.nil_left | refine Apart.cons (by k_all) ?_)) (fun _ _ => trivial) ?_
  intro PQ
  clear N
  rintro v1 h1 tk1 own1 F1 N1 ap1 ⟨ka1, sb1, k1, m1, rfl, nn1, nk1, rfl⟩
  try dsimp only [WN, HN, MN, List.cons_append, List.nil_append] at N1
  have ax1 : DistP ha hd la sb1 := ⟨Ne.symm (ap1 (sb1, lstO us m1) (.tail _ (.tail _ (.tail _ (.head _)))) (ha, instObj 327 hd) (.head _)), Ne.symm (ap1 (sb1, lstO us m1) (.tail _ (.tail _ (.tail _ (.head _)))) (hd, dictOf (hookE w r1 r2 r3 la lb ln) 3) (.tail _ (.head _))), Ne.symm (ap1 (sb1, lstO us m1) (.tail _ (.tail _ (.tail _ (.head _)))) (la, lamO pm ctv lc) (.tail _ (.tail _ (.head _))))⟩
  have ay1 : DistP ha hd la ka1 := ⟨Ne.symm (ap1 (ka1, lstO xs k1) (.head _) (ha, instObj 327 hd) (.head _)), Ne.symm (ap1 (ka1, lstO xs k1) (.head _) (hd, dictOf (hookE w r1 r2 r3 la lb ln) 3) (.tail _ (.head _))), Ne.symm (ap1 (ka1, lstO xs k1) (.head _) (la, lamO pm ctv lc) (.tail _ (.tail _ (.head _))))⟩
  have nx1 := dist_new nd nn1 ax1
  refine DistP.all ax1 fun ax1h1 ax1h2 ax1h3 => ?_
  refine DistP.all ay1 fun ay1h1 ay1h2 ay1h3 => ?_
  refine DistK.all nk1 fun nk1h1 nk1h2 nk1h3 nk1h4 => ?_
  refine Dist4.all nn1 fun nn1h1 nn1h2 nn1h3 nn1h4 nn1h5 nn1h6 => ?_
  k_steps
  rename News _ _ _ _ => N
  refine use_oc (own := HN w ha hd r1 r2 r3 la lb ln pm ctv lc) (rest := (ka1, lstO xs k1) :: (WN w wa wd sb1 ga t1 t2 t3 t4 fv .none us gs m1 n2)) (hk_operated w ha hd r1 r2 r3 la lb ln pm ctv lc n3 (Value.str op u) (Value.ref ka1) (PyData.str op) (PyData.list ds) (by simp only [PyData.canLayAll0, PyData.canLay0, hcl, hop, Bool.and_true, Bool.true_and]) (by simp only [PyData.depthAll, PyData.depth]; first | decide | exact mxd1 ‹_› | exact mxd2 ‹_› | omega)) (by exact hh) (by show A.depth + 1 + _ < _; first | exact dlt (by assumption) (by decide) | exact dlt1 (by assumption) (by decide) | exact dlt2 (by assumption) (by decide) | exact dh ‹_› ‹_› (by decide) | exact dh0 ‹_› ‹_› (by decide) | exact dhs ‹_› ‹_› (by decide) | exact dm0 ‹_› ‹_› (by decide) | exact dl3 ‹_› (by decide) | exact dlt2 ‹_› (by decide) | omega) (by show A.units + 3 + _ < _; first | exact dlt (by assumption) (by decide) | exact dlt1 (by assumption) (by decide) | exact dlt2 (by assumption) (by decide) | exact dh ‹_› ‹_› (by decide) | exact dh0 ‹_› ‹_› (by decide) | exact dhs ‹_› ‹_› (by decide) | exact dm0 ‹_› ‹_› (by decide) | exact dl3 ‹_› (by decide) | exact dlt2 ‹_› (by decide) | omega) X T (by assumption) (by first | exact N | exact News.swap N | exact Mine.News.sub N (by (try dsimp only [WN, HN, MN, List.cons_append, List.nil_append]); lcg_sub)) (by first | assumption | exact Apart.symm (by assumption) | exact Dist7.apart (by assumption) | exact Apart.symm (Dist7.apart (by assumption)) | repeat (first | exact Apart.nil_left | refine Apart.cons (by k_all) ?_)) (fun st hr => ⟨hcd.keeps st, _, .cons (.str _ _) (.cons (reads_list_at (hr _ (.head _)) rfl rfl (by simpa using hrd _)) .nil)⟩) ?_
  intro PQ
  clear N
  rintro v2 h2 tk2 own2 F2 N2 ap2 ⟨hv, rfl⟩
  try dsimp only [WN, HN, MN, List.cons_append, List.nil_append] at N2
  obtain ⟨tv2, rfl⟩ := lamV_two hv
  k_steps
  rename News _ _ _ _ => N
  refine use_oc (own := WN w wa wd sb1 ga t1 t2 t3 t4 fv .none us gs m1 n2) (rest := HN w ha hd r1 r2 r3 la lb ln pm ctv lc) (push_con w wa wd sb1 ga t1 t2 t3 t4 fv .none us gs m1 n2 nn1 (ss "v") tv2 (by omega)) (by exact hh) (by show A.depth + 1 + _ < _; first | exact dlt (by assumption) (by decide) | exact dlt1 (by assumption) (by decide) | exact dlt2 (by assumption) (by decide) | exact dh ‹_› ‹_› (by decide) | exact dh0 ‹_› ‹_› (by decide) | exact dhs ‹_› ‹_› (by decide) | exact dm0 ‹_› ‹_› (by decide) | exact dl3 ‹_› (by decide) | exact dlt2 ‹_› (by decide) | omega) (by show A.units + 3 + _ < _; first | exact dlt (by assumption) (by decide) | exact dlt1 (by assumption) (by decide) | exact dlt2 (by assumption) (by decide) | exact dh ‹_› ‹_› (by decide) | exact dh0 ‹_› ‹_› (by decide) | exact dhs ‹_› ‹_› (by decide) | exact dm0 ‹_› ‹_› (by decide) | exact dl3 ‹_› (by decide) | exact dlt2 ‹_› (by decide) | omega) X T (by assumption) (by first | exact N | exact News.swap N | exact Mine.News.sub N (by (try dsimp only [WN, HN, MN, List.cons_append, List.nil_append]); lcg_sub)) (by first | assumption | exact Apart.symm (by assumption) | exact Dist7.apart (by assumption) | exact Apart.symm (Dist7.apart (by assumption)) | repeat (first | exact Apart.nil_left | refine Apart.cons (by k_all) ?_)) (fun _ _ => trivial) ?_
  intro PQ
  clear N
  rintro v3 h3 tk3 own3 F3 N3 ap3 ⟨rfl, m3, rfl⟩
  try dsimp only [WN, HN, MN, List.cons_append, List.nil_append] at N3
  k_steps
  try dsimp only
  rename News _ _ _ _ => N
  exact hret _ _ _ (MN w wa wd sb1 ga t1 t2 t3 t4 fv (us ++ [Value.str (ss "v") tv2]) gs m3 n2 ha hd r1 r2 r3 la lb ln pm ctv lc) (Fr.keep (by assumption)) (own_endg (by first | exact N | exact News.swap N | exact Mine.News.sub N (by dsimp only [WN, HN, MN, List.cons_append, List.nil_append]; lcg_sub))) ⟨rfl, sb1, m3, n2, fv, (us ++ [Value.str (ss "v") tv2]), nx1, hf, g2.snoc good_v, by first | exact rfl | exact sb2 ‹_› | exact sb1 ‹_› | exact sbn ‹_› | exact sbc ‹_› | omega | (simp only [List.length_append, List.length_cons, List.length_nil] at *; first | exact rfl | exact sb2 ‹_› | exact sb1 ‹_› | exact sbn ‹_› | exact sbc ‹_› | omega) | simp only [List.length_append, List.length_cons, List.length_nil], rfl⟩
theorem o_join (w : World) (wa wd sa ga : Addr) (t1 t2 t3 t4 : Tok) (fv : Value) (vs gs : List Value) (n1 n2 : Nat) (ha hd : Addr) (r1 r2 r3 : Tok) (la : Addr) (lb ln pm ctv : Value) (lc : Addr) (nd : Dist7 wa wd sa ga ha hd la) (hz : vs.length ≤ 1000) (hg : GoodV vs) (hf : GoodF fv) (v : Value) (h2 : 2 ≤ vs.length) :
    OCon w 338 [.ref wa, v, .ref ha] (MN w wa wd sa ga t1 t2 t3 t4 fv vs gs n1 n2 ha hd r1 r2 r3 la lb ln pm ctv lc) 40 3000 (fun h => OrdS (HS h) v .join ∧ h.CodeRec (.ref lc) lamQ) (Ran w wa wd ga t1 t2 t3 t4 ha hd r1 r2 r3 la lb ln pm ctv lc (vs.length - 1) gs) := by
  refine OCon.of fun A s Q E g hh hdp hu hgg G h1 hp hret => ?_
  obtain ⟨⟨a, l, rfl, hT, t, rfl⟩, hcd⟩ := hp
  replace hT := hT.heap
  have n4 := nd.1
  have n3 := nd.2.2.2.2.2
  refine Dist7.all nd fun q1 q2 q3 q4 q5 q6 q7 q8 q9 q10 q11 q12 q13 q14 q15 q16 q17 q18 q19 q20 q21 => ?_
  obtain ⟨us, xs, rfl, hxs, g2, gxs⟩ := good_split hg h2
  obtain ⟨ds, asd, hrd, hcl, hdl⟩ := good_reads gxs
  simp only [List.length_append, List.length_cons, List.length_nil] at h2 hz
  refine enterO (own := MN w wa wd sa ga t1 t2 t3 t4 fv (us ++ xs) gs n1 n2 ha hd r1 r2 r3 la lb ln pm ctv lc) (binds := [(ss "work", .ref wa), (ss "order", .ref a), (ss "hooks", .ref ha)]) hgg G h1 hret (B := ?B) (S := ?S) ?hB ?hS (by k_is) (by k_is) (lt0 (by assumption)) (BindsTo.of_eq rfl) (locs rfl) rfl rfl rfl (by decide) ?_
  case hB => conv => lhs; whnf
  case hS => conv => lhs; whnf
  have X := G.K
  clear hret G hgg h1
  intro s1 Q1 L loose mean mg mb T F N hret _
  dsimp only [WN, HN, MN, List.cons_append, List.nil_append] at N
  k_steps
  rename News _ _ _ _ => N
  refine use_oc (own := WN w wa wd sa ga t1 t2 t3 t4 fv .none (us ++ xs) gs n1 n2) (rest := HN w ha hd r1 r2 r3 la lb ln pm ctv lc) (take_con w wa wd sa ga t1 t2 t3 t4 fv .none us xs gs n1 n2 n4 2 _ hxs (by omega) (by omega)) (by exact hh) (by show A.depth + 1 + _ < _; first | exact dlt (by assumption) (by decide) | exact dlt1 (by assumption) (by decide) | exact dlt2 (by assumption) (by decide) | exact dh ‹_› ‹_› (by decide) | exact dh0 ‹_› ‹_› (by decide) | exact dhs ‹_› ‹_› (by decide) | exact dm0 ‹_› ‹_› (by decide) | exact dl3 ‹_› (by decide) | exact dlt2 ‹_› (by decide) | omega) (by show A.units + 3 + _ < _; first | exact dlt (by assumption) (by decide) | exact dlt1 (by assumption) (by decide) | exact dlt2 (by assumption) (by decide) | exact dh ‹_› ‹_› (by decide) | exact dh0 ‹_› ‹_› (by decide) | exact dhs ‹_› ‹_› (by decide) | exact dm0 ‹_› ‹_› (by decide) | exact dl3 ‹_› (by decide) | exact dlt2 ‹_› (by decide) | omega) X T (by assumption) (by first | exact N | exact News.swap N | exact Mine.News.sub N (by (try dsimp only [WN, HN, MN, List.cons_append, List.nil_append]); lcg_sub)) (by first | assumption | exact Apart.symm (by assumption) | exact Dist7.apart (by assumption) | exact Apart.symm (Dist7.apart (by assumption)) | repeat (first | exact Apart.nil_left | refine Apart.cons (by k_all) ?_)) (fun _ _ => trivial) ?_
  intro PQ
  clear N
  rintro v1 h1 tk1 own1 F1 N1 ap1 ⟨ka1, sb1, k1, m1, rfl, nn1, nk1, rfl⟩
  try dsimp only [WN, HN, MN, List.cons_append, List.nil_append] at N1
  have ax1 : DistP ha hd la sb1 := ⟨Ne.symm (ap1 (sb1, lstO us m1) (.tail _ (.tail _ (.tail _ (.head _)))) (ha, instObj 327 hd) (.head _)), Ne.symm (ap1 (sb1, lstO us m1) (.tail _ (.tail _ (.tail _ (.head _)))) (hd, dictOf (hookE w r1 r2 r3 la lb ln) 3) (.tail _ (.head _))), Ne.symm (ap1 (sb1, lstO us m1) (.tail _ (.tail _ (.tail _ (.head _)))) (la, lamO pm ctv lc) (.tail _ (.tail _ (.head _))))⟩
  have ay1 : DistP ha hd la ka1 := ⟨Ne.symm (ap1 (ka1, lstO xs k1) (.head _) (ha, instObj 327 hd) (.head _)), Ne.symm (ap1 (ka1, lstO xs k1) (.head _) (hd, dictOf (hookE w r1 r2 r3 la lb ln) 3) (.tail _ (.head _))), Ne.symm (ap1 (ka1, lstO xs k1) (.head _) (la, lamO pm ctv lc) (.tail _ (.tail _ (.head _))))⟩
  have nx1 := dist_new nd nn1 ax1
  refine DistP.all ax1 fun ax1h1 ax1h2 ax1h3 => ?_
  refine DistP.all ay1 fun ay1h1 ay1h2 ay1h3 => ?_
  refine DistK.all nk1 fun nk1h1 nk1h2 nk1h3 nk1h4 => ?_
  refine Dist4.all nn1 fun nn1h1 nn1h2 nn1h3 nn1h4 nn1h5 nn1h6 => ?_
  k_steps
  rename News _ _ _ _ => N
  refine use_oc (own := HN w ha hd r1 r2 r3 la lb ln pm ctv lc) (rest := (ka1, lstO xs k1) :: (WN w wa wd sb1 ga t1 t2 t3 t4 fv .none us gs m1 n2)) (hk_operated w ha hd r1 r2 r3 la lb ln pm ctv lc n3 (Value.str (ss " ") _) (Value.ref ka1) (PyData.str (ss " ")) (PyData.list ds) (by simp only [PyData.canLayAll0, PyData.canLay0, hcl, Bool.and_true, Bool.true_and]; kernel_rfl!) (by simp only [PyData.depthAll, PyData.depth]; first | decide | exact mxd1 ‹_› | exact mxd2 ‹_› | omega)) (by exact hh) (by show A.depth + 1 + _ < _; first | exact dlt (by assumption) (by decide) | exact dlt1 (by assumption) (by decide) | exact dlt2 (by assumption) (by decide) | exact dh ‹_› ‹_› (by decide) | exact dh0 ‹_› ‹_› (by decide) | exact dhs ‹_› ‹_› (by decide) | exact dm0 ‹_› ‹_› (by decide) | exact dl3 ‹_› (by decide) | exact dlt2 ‹_› (by decide) | omega) (by show A.units + 3 + _ < _; first | exact dlt (by assumption) (by decide) | exact dlt1 (by assumption) (by decide) | exact dlt2 (by assumption) (by decide) | exact dh ‹_› ‹_› (by decide) | exact dh0 ‹_› ‹_› (by decide) | exact dhs ‹_› ‹_› (by decide) | exact dm0 ‹_› ‹_› (by decide) | exact dl3 ‹_› (by decide) | exact dlt2 ‹_› (by decide) | omega) X T (by assumption) (by first | exact N | exact News.swap N | exact Mine.News.sub N (by (try dsimp only [WN, HN, MN, List.cons_append, List.nil_append]); lcg_sub)) (by first | assumption | exact Apart.symm (by assumption) | exact Dist7.apart (by assumption) | exact Apart.symm (Dist7.apart (by assumption)) | repeat (first | exact Apart.nil_left | refine Apart.cons (by k_all) ?_)) (fun st hr => ⟨hcd.keeps st, _, .cons (.str _ _) (.cons (reads_list_at (hr _ (.head _)) rfl rfl (by simpa using hrd _)) .nil)⟩) ?_
  intro PQ
  clear N
  rintro v2 h2 tk2 own2 F2 N2 ap2 ⟨hv, rfl⟩
  try dsimp only [WN, HN, MN, List.cons_append, List.nil_append] at N2
  obtain ⟨tv2, rfl⟩ := lamV_two hv
  k_steps
  rename News _ _ _ _ => N
  refine use_oc (own := WN w wa wd sb1 ga t1 t2 t3 t4 fv .none us gs m1 n2) (rest := HN w ha hd r1 r2 r3 la lb ln pm ctv lc) (push_con w wa wd sb1 ga t1 t2 t3 t4 fv .none us gs m1 n2 nn1 (ss "v") tv2 (by omega)) (by exact hh) (by show A.depth + 1 + _ < _; first | exact dlt (by assumption) (by decide) | exact dlt1 (by assumption) (by decide) | exact dlt2 (by assumption) (by decide) | exact dh ‹_› ‹_› (by decide) | exact dh0 ‹_› ‹_› (by decide) | exact dhs ‹_› ‹_› (by decide) | exact dm0 ‹_› ‹_› (by decide) | exact dl3 ‹_› (by decide) | exact dlt2 ‹_› (by decide) | omega) (by show A.units + 3 + _ < _; first | exact dlt (by assumption) (by decide) | exact dlt1 (by assumption) (by decide) | exact dlt2 (by assumption) (by decide) | exact dh ‹_› ‹_› (by decide) | exact dh0 ‹_› ‹_› (by decide) | exact dhs ‹_› ‹_› (by decide) | exact dm0 ‹_› ‹_› (by decide) | exact dl3 ‹_› (by decide) | exact dlt2 ‹_› (by decide) | omega) X T (by assumption) (by first | exact N | exact News.swap N | exact Mine.News.sub N (by (try dsimp only [WN, HN, MN, List.cons_append, List.nil_append]); lcg_sub)) (by first | assumption | exact Apart.symm (by assumption) | exact Dist7.apart (by assumption) | exact Apart.symm (Dist7.apart (by assumption)) | repeat (first | exact Apart.nil_left | refine Apart.cons (by k_all) ?_)) (fun _ _ => trivial) ?_
  intro PQ
  clear N
  rintro v3 h3 tk3 own3 F3 N3 ap3 ⟨rfl, m3, rfl⟩
  try dsimp only [WN, HN, MN, List.cons_append, List.nil_append] at N3
  k_steps
  try dsimp only
  rename News _ _ _ _ => N
  exact hret _ _ _ (MN w wa wd sb1 ga t1 t2 t3 t4 fv (us ++ [Value.str (ss "v") tv2]) gs m3 n2 ha hd r1 r2 r3 la lb ln pm ctv lc) (Fr.keep (by assumption)) (own_endg (by first | exact N | exact News.swap N | exact Mine.News.sub N (by dsimp only [WN, HN, MN, List.cons_append, List.nil_append]; lcg_sub))) ⟨rfl, sb1, m3, n2, fv, (us ++ [Value.str (ss "v") tv2]), nx1, hf, g2.snoc good_v, by first | exact rfl | exact sb2 ‹_› | exact sb1 ‹_› | exact sbn ‹_› | exact sbc ‹_› | omega | (simp only [List.length_append, List.length_cons, List.length_nil] at *; first | exact rfl | exact sb2 ‹_› | exact sb1 ‹_› | exact sbn ‹_› | exact sbc ‹_› | omega) | simp only [List.length_append, List.length_cons, List.length_nil], rfl⟩
end
section
set_option maxHeartbeats 0
set_option rowWalk.seconds 0

theorem o_given (w : World) (wa wd sa ga : Addr) (t1 t2 t3 t4 : Tok) (fv : Value) (vs gs : List Value) (n1 n2 : Nat) (ha hd : Addr) (r1 r2 r3 : Tok) (la : Addr) (lb ln pm ctv : Value) (lc : Addr) (nd : Dist7 wa wd sa ga ha hd la) (hz : vs.length ≤ 1000) (hg : GoodV vs) (hf : GoodF fv) (v : Value) (h2 : 2 ≤ vs.length) :
    OCon w 338 [.ref wa, v, .ref ha] (MN w wa wd sa ga t1 t2 t3 t4 fv vs gs n1 n2 ha hd r1 r2 r3 la lb ln pm ctv lc) 40 3000 (fun h => OrdS (HS h) v .given ∧ h.CodeRec (.ref lc) lamQ) (Ran w wa wd ga t1 t2 t3 t4 ha hd r1 r2 r3 la lb ln pm ctv lc (vs.length - 1) gs) := by
  refine OCon.of fun A s Q E g hh hdp hu hgg G h1 hp hret => ?_
  obtain ⟨⟨a, l, rfl, hT, t, u, rfl⟩, hcd⟩ := hp
  replace hT := hT.heap
  have n4 := nd.1
  have n3 := nd.2.2.2.2.2
  refine Dist7.all nd fun q1 q2 q3 q4 q5 q6 q7 q8 q9 q10 q11 q12 q13 q14 q15 q16 q17 q18 q19 q20 q21 => ?_
  refine enterO (own := MN w wa wd sa ga t1 t2 t3 t4 fv vs gs n1 n2 ha hd r1 r2 r3 la lb ln pm ctv lc) (binds := [(ss "work", .ref wa), (ss "order", .ref a), (ss "hooks", .ref ha)]) hgg G h1 hret (B := ?B) (S := ?S) ?hB ?hS (by k_is) (by k_is) (lt0 (by assumption)) (BindsTo.of_eq rfl) (locs rfl) rfl rfl rfl (by decide) ?_
  case hB => conv => lhs; whnf
  case hS => conv => lhs; whnf
  have X := G.K
  clear hret G hgg h1
  intro s1 Q1 L loose mean mg mb T F N hret _
  dsimp only [WN, HN, MN, List.cons_append, List.nil_append] at N
  k_steps
  rename News _ _ _ _ => N
  refine use_oc (own := MN w wa wd sa ga t1 t2 t3 t4 fv vs gs n1 n2 ha hd r1 r2 r3 la lb ln pm ctv lc) (rest := []) (part_given w wa wd sa ga t1 t2 t3 t4 fv vs gs n1 n2 ha hd r1 r2 r3 la lb ln pm ctv lc nd hz hg hf (.ref a) h2) (by exact hh) (by show A.depth + 1 + _ < _; first | exact dlt (by assumption) (by decide) | exact dlt1 (by assumption) (by decide) | exact dlt2 (by assumption) (by decide) | exact dh ‹_› ‹_› (by decide) | exact dh0 ‹_› ‹_› (by decide) | exact dhs ‹_› ‹_› (by decide) | exact dm0 ‹_› ‹_› (by decide) | exact dl3 ‹_› (by decide) | exact dlt2 ‹_› (by decide) | omega) (by show A.units + 3 + _ < _; first | exact dlt (by assumption) (by decide) | exact dlt1 (by assumption) (by decide) | exact dlt2 (by assumption) (by decide) | exact dh ‹_› ‹_› (by decide) | exact dh0 ‹_› ‹_› (by decide) | exact dhs ‹_› ‹_› (by decide) | exact dm0 ‹_› ‹_› (by decide) | exact dl3 ‹_› (by decide) | exact dlt2 ‹_› (by decide) | omega) X T (by assumption) (by first | exact N | exact News.swap N | exact Mine.News.sub N (by (try dsimp only [WN, HN, MN, List.cons_append, List.nil_append]); lcg_sub)) Apart.nil (fun st _ => ⟨⟨a, _, rfl, (show TupS (HS g) a _ from hT).mono (fun _ _ e => st _ _ e), ⟨_, _, rfl⟩⟩, hcd.keeps st⟩) ?_
  intro PQ
  clear N
  rintro v1 h1 tk1 own1 F1 N1 ap1 ⟨rfl, sb1, m1, m2, fv2, vs2, nd2, hf2, hg2, hl2, rfl⟩
  try dsimp only [WN, HN, MN, List.cons_append, List.nil_append] at N1
  k_steps
  try dsimp only
  rename News _ _ _ _ => N
  exact hret _ _ _ (MN w wa wd sb1 ga t1 t2 t3 t4 fv2 vs2 gs m1 m2 ha hd r1 r2 r3 la lb ln pm ctv lc) (Fr.keep (by assumption)) (own_endg (by first | exact N | exact News.swap N | exact Mine.News.sub N (by dsimp only [WN, HN, MN, List.cons_append, List.nil_append]; lcg_sub))) ⟨rfl, sb1, m1, m2, fv2, vs2, nd2, hf2, hg2, by first | exact rfl | exact sb2 ‹_› | exact sb1 ‹_› | exact sbn ‹_› | exact sbc ‹_› | omega | (simp only [List.length_append, List.length_cons, List.length_nil] at *; first | exact rfl | exact sb2 ‹_› | exact sb1 ‹_› | exact sbn ‹_› | exact sbc ‹_› | omega) | simp only [List.length_append, List.length_cons, List.length_nil], rfl⟩
theorem o_match_ (w : World) (wa wd sa ga : Addr) (t1 t2 t3 t4 : Tok) (fv : Value) (vs gs : List Value) (n1 n2 : Nat) (ha hd : Addr) (r1 r2 r3 : Tok) (la : Addr) (lb ln pm ctv : Value) (lc : Addr) (nd : Dist7 wa wd sa ga ha hd la) (hz : vs.length ≤ 1000) (hg : GoodV vs) (hf : GoodF fv) (v : Value) (h2 : 2 ≤ vs.length) :
    OCon w 338 [.ref wa, v, .ref ha] (MN w wa wd sa ga t1 t2 t3 t4 fv vs gs n1 n2 ha hd r1 r2 r3 la lb ln pm ctv lc) 40 3000 (fun h => OrdS (HS h) v .match_ ∧ h.CodeRec (.ref lc) lamQ) (Ran w wa wd ga t1 t2 t3 t4 ha hd r1 r2 r3 la lb ln pm ctv lc (vs.length - 2) gs) := by
  refine OCon.of fun A s Q E g hh hdp hu hgg G h1 hp hret => ?_
  obtain ⟨⟨a, l, rfl, hT, t, rfl⟩, hcd⟩ := hp
  replace hT := hT.heap
  have n4 := nd.1
  have n3 := nd.2.2.2.2.2
  refine Dist7.all nd fun q1 q2 q3 q4 q5 q6 q7 q8 q9 q10 q11 q12 q13 q14 q15 q16 q17 q18 q19 q20 q21 => ?_
  refine enterO (own := MN w wa wd sa ga t1 t2 t3 t4 fv vs gs n1 n2 ha hd r1 r2 r3 la lb ln pm ctv lc) (binds := [(ss "work", .ref wa), (ss "order", .ref a), (ss "hooks", .ref ha)]) hgg G h1 hret (B := ?B) (S := ?S) ?hB ?hS (by k_is) (by k_is) (lt0 (by assumption)) (BindsTo.of_eq rfl) (locs rfl) rfl rfl rfl (by decide) ?_
  case hB => conv => lhs; whnf
  case hS => conv => lhs; whnf
  have X := G.K
  clear hret G hgg h1
  intro s1 Q1 L loose mean mg mb T F N hret _
  dsimp only [WN, HN, MN, List.cons_append, List.nil_append] at N
  k_steps
  rename News _ _ _ _ => N
  refine use_oc (own := MN w wa wd sa ga t1 t2 t3 t4 fv vs gs n1 n2 ha hd r1 r2 r3 la lb ln pm ctv lc) (rest := []) (deed_match w wa wd sa ga t1 t2 t3 t4 fv vs gs n1 n2 ha hd r1 r2 r3 la lb ln pm ctv lc nd hz hg hf _ h2) (by exact hh) (by show A.depth + 1 + _ < _; first | exact dlt (by assumption) (by decide) | exact dlt1 (by assumption) (by decide) | exact dlt2 (by assumption) (by decide) | exact dh ‹_› ‹_› (by decide) | exact dh0 ‹_› ‹_› (by decide) | exact dhs ‹_› ‹_› (by decide) | exact dm0 ‹_› ‹_› (by decide) | exact dl3 ‹_› (by decide) | exact dlt2 ‹_› (by decide) | omega) (by show A.units + 3 + _ < _; first | exact dlt (by assumption) (by decide) | exact dlt1 (by assumption) (by decide) | exact dlt2 (by assumption) (by decide) | exact dh ‹_› ‹_› (by decide) | exact dh0 ‹_› ‹_› (by decide) | exact dhs ‹_› ‹_› (by decide) | exact dm0 ‹_› ‹_› (by decide) | exact dl3 ‹_› (by decide) | exact dlt2 ‹_› (by decide) | omega) X T (by assumption) (by first | exact N | exact News.swap N | exact Mine.News.sub N (by (try dsimp only [WN, HN, MN, List.cons_append, List.nil_append]); lcg_sub)) Apart.nil (fun st _ => hcd.keeps st) ?_
  intro PQ
  clear N
  rintro v1 h1 tk1 own1 F1 N1 ap1 ⟨rfl, sb1, m1, m2, fv2, vs2, nd2, hf2, hg2, hl2, rfl⟩
  try dsimp only [WN, HN, MN, List.cons_append, List.nil_append] at N1
  k_steps
  try dsimp only
  rename News _ _ _ _ => N
  exact hret _ _ _ (MN w wa wd sb1 ga t1 t2 t3 t4 fv2 vs2 gs m1 m2 ha hd r1 r2 r3 la lb ln pm ctv lc) (Fr.keep (by assumption)) (own_endg (by first | exact N | exact News.swap N | exact Mine.News.sub N (by dsimp only [WN, HN, MN, List.cons_append, List.nil_append]; lcg_sub))) ⟨rfl, sb1, m1, m2, fv2, vs2, nd2, hf2, hg2, by first | exact rfl | exact sb2 ‹_› | exact sb1 ‹_› | exact sbn ‹_› | exact sbc ‹_› | omega | (simp only [List.length_append, List.length_cons, List.length_nil] at *; first | exact rfl | exact sb2 ‹_› | exact sb1 ‹_› | exact sbn ‹_› | exact sbc ‹_› | omega) | simp only [List.length_append, List.length_cons, List.length_nil], rfl⟩
theorem o_assign (w : World) (wa wd sa ga : Addr) (t1 t2 t3 t4 : Tok) (fv : Value) (vs gs : List Value) (n1 n2 : Nat) (ha hd : Addr) (r1 r2 r3 : Tok) (la : Addr) (lb ln pm ctv : Value) (lc : Addr) (nd : Dist7 wa wd sa ga ha hd la) (hz : vs.length ≤ 1000) (hg : GoodV vs) (hf : GoodF fv) (v : Value) (h2 : 2 ≤ vs.length) :
    OCon w 338 [.ref wa, v, .ref ha] (MN w wa wd sa ga t1 t2 t3 t4 fv vs gs n1 n2 ha hd r1 r2 r3 la lb ln pm ctv lc) 40 3000 (fun h => OrdS (HS h) v .assign ∧ h.CodeRec (.ref lc) lamQ) (Ran w wa wd ga t1 t2 t3 t4 ha hd r1 r2 r3 la lb ln pm ctv lc (vs.length - 2) gs) := by
  refine OCon.of fun A s Q E g hh hdp hu hgg G h1 hp hret => ?_
  obtain ⟨⟨a, l, rfl, hT, t, rfl⟩, hcd⟩ := hp
  replace hT := hT.heap
  have n4 := nd.1
  have n3 := nd.2.2.2.2.2
  refine Dist7.all nd fun q1 q2 q3 q4 q5 q6 q7 q8 q9 q10 q11 q12 q13 q14 q15 q16 q17 q18 q19 q20 q21 => ?_
  refine enterO (own := MN w wa wd sa ga t1 t2 t3 t4 fv vs gs n1 n2 ha hd r1 r2 r3 la lb ln pm ctv lc) (binds := [(ss "work", .ref wa), (ss "order", .ref a), (ss "hooks", .ref ha)]) hgg G h1 hret (B := ?B) (S := ?S) ?hB ?hS (by k_is) (by k_is) (lt0 (by assumption)) (BindsTo.of_eq rfl) (locs rfl) rfl rfl rfl (by decide) ?_
  case hB => conv => lhs; whnf
  case hS => conv => lhs; whnf
  have X := G.K
  clear hret G hgg h1
  intro s1 Q1 L loose mean mg mb T F N hret _
  dsimp only [WN, HN, MN, List.cons_append, List.nil_append] at N
  k_steps
  rename News _ _ _ _ => N
  refine use_oc (own := MN w wa wd sa ga t1 t2 t3 t4 fv vs gs n1 n2 ha hd r1 r2 r3 la lb ln pm ctv lc) (rest := []) (deed_assign w wa wd sa ga t1 t2 t3 t4 fv vs gs n1 n2 ha hd r1 r2 r3 la lb ln pm ctv lc nd hz hg hf _ h2) (by exact hh) (by show A.depth + 1 + _ < _; first | exact dlt (by assumption) (by decide) | exact dlt1 (by assumption) (by decide) | exact dlt2 (by assumption) (by decide) | exact dh ‹_› ‹_› (by decide) | exact dh0 ‹_› ‹_› (by decide) | exact dhs ‹_› ‹_› (by decide) | exact dm0 ‹_› ‹_› (by decide) | exact dl3 ‹_› (by decide) | exact dlt2 ‹_› (by decide) | omega) (by show A.units + 3 + _ < _; first | exact dlt (by assumption) (by decide) | exact dlt1 (by assumption) (by decide) | exact dlt2 (by assumption) (by decide) | exact dh ‹_› ‹_› (by decide) | exact dh0 ‹_› ‹_› (by decide) | exact dhs ‹_› ‹_› (by decide) | exact dm0 ‹_› ‹_› (by decide) | exact dl3 ‹_› (by decide) | exact dlt2 ‹_› (by decide) | omega) X T (by assumption) (by first | exact N | exact News.swap N | exact Mine.News.sub N (by (try dsimp only [WN, HN, MN, List.cons_append, List.nil_append]); lcg_sub)) Apart.nil (fun st _ => hcd.keeps st) ?_
  intro PQ
  clear N
  rintro v1 h1 tk1 own1 F1 N1 ap1 ⟨rfl, sb1, m1, m2, fv2, vs2, nd2, hf2, hg2, hl2, rfl⟩
  try dsimp only [WN, HN, MN, List.cons_append, List.nil_append] at N1
  k_steps
  try dsimp only
  rename News _ _ _ _ => N
  exact hret _ _ _ (MN w wa wd sb1 ga t1 t2 t3 t4 fv2 vs2 gs m1 m2 ha hd r1 r2 r3 la lb ln pm ctv lc) (Fr.keep (by assumption)) (own_endg (by first | exact N | exact News.swap N | exact Mine.News.sub N (by dsimp only [WN, HN, MN, List.cons_append, List.nil_append]; lcg_sub))) ⟨rfl, sb1, m1, m2, fv2, vs2, nd2, hf2, hg2, by first | exact rfl | exact sb2 ‹_› | exact sb1 ‹_› | exact sbn ‹_› | exact sbc ‹_› | omega | (simp only [List.length_append, List.length_cons, List.length_nil] at *; first | exact rfl | exact sb2 ‹_› | exact sb1 ‹_› | exact sbn ‹_› | exact sbc ‹_› | omega) | simp only [List.length_append, List.length_cons, List.length_nil], rfl⟩
theorem o_replace (w : World) (wa wd sa ga : Addr) (t1 t2 t3 t4 : Tok) (fv : Value) (vs gs : List Value) (n1 n2 : Nat) (ha hd : Addr) (r1 r2 r3 : Tok) (la : Addr) (lb ln pm ctv : Value) (lc : Addr) (nd : Dist7 wa wd sa ga ha hd la) (hz : vs.length ≤ 1000) (hg : GoodV vs) (hf : GoodF fv) (v : Value) (h2 : 2 ≤ vs.length) :
    OCon w 338 [.ref wa, v, .ref ha] (MN w wa wd sa ga t1 t2 t3 t4 fv vs gs n1 n2 ha hd r1 r2 r3 la lb ln pm ctv lc) 40 3000 (fun h => OrdS (HS h) v .replace ∧ h.CodeRec (.ref lc) lamQ) (Ran w wa wd ga t1 t2 t3 t4 ha hd r1 r2 r3 la lb ln pm ctv lc (vs.length - 2) gs) := by
  refine OCon.of fun A s Q E g hh hdp hu hgg G h1 hp hret => ?_
  obtain ⟨⟨a, l, rfl, hT, t, rfl⟩, hcd⟩ := hp
  replace hT := hT.heap
  have n4 := nd.1
  have n3 := nd.2.2.2.2.2
  refine Dist7.all nd fun q1 q2 q3 q4 q5 q6 q7 q8 q9 q10 q11 q12 q13 q14 q15 q16 q17 q18 q19 q20 q21 => ?_
  refine enterO (own := MN w wa wd sa ga t1 t2 t3 t4 fv vs gs n1 n2 ha hd r1 r2 r3 la lb ln pm ctv lc) (binds := [(ss "work", .ref wa), (ss "order", .ref a), (ss "hooks", .ref ha)]) hgg G h1 hret (B := ?B) (S := ?S) ?hB ?hS (by k_is) (by k_is) (lt0 (by assumption)) (BindsTo.of_eq rfl) (locs rfl) rfl rfl rfl (by decide) ?_
  case hB => conv => lhs; whnf
  case hS => conv => lhs; whnf
  have X := G.K
  clear hret G hgg h1
  intro s1 Q1 L loose mean mg mb T F N hret _
  dsimp only [WN, HN, MN, List.cons_append, List.nil_append] at N
  k_steps
  rename News _ _ _ _ => N
  refine use_oc (own := MN w wa wd sa ga t1 t2 t3 t4 fv vs gs n1 n2 ha hd r1 r2 r3 la lb ln pm ctv lc) (rest := []) (deed_replace w wa wd sa ga t1 t2 t3 t4 fv vs gs n1 n2 ha hd r1 r2 r3 la lb ln pm ctv lc nd hz hg hf _ h2) (by exact hh) (by show A.depth + 1 + _ < _; first | exact dlt (by assumption) (by decide) | exact dlt1 (by assumption) (by decide) | exact dlt2 (by assumption) (by decide) | exact dh ‹_› ‹_› (by decide) | exact dh0 ‹_› ‹_› (by decide) | exact dhs ‹_› ‹_› (by decide) | exact dm0 ‹_› ‹_› (by decide) | exact dl3 ‹_› (by decide) | exact dlt2 ‹_› (by decide) | omega) (by show A.units + 3 + _ < _; first | exact dlt (by assumption) (by decide) | exact dlt1 (by assumption) (by decide) | exact dlt2 (by assumption) (by decide) | exact dh ‹_› ‹_› (by decide) | exact dh0 ‹_› ‹_› (by decide) | exact dhs ‹_› ‹_› (by decide) | exact dm0 ‹_› ‹_› (by decide) | exact dl3 ‹_› (by decide) | exact dlt2 ‹_› (by decide) | omega) X T (by assumption) (by first | exact N | exact News.swap N | exact Mine.News.sub N (by (try dsimp only [WN, HN, MN, List.cons_append, List.nil_append]); lcg_sub)) Apart.nil (fun st _ => hcd.keeps st) ?_
  intro PQ
  clear N
  rintro v1 h1 tk1 own1 F1 N1 ap1 ⟨rfl, sb1, m1, m2, fv2, vs2, nd2, hf2, hg2, hl2, rfl⟩
  try dsimp only [WN, HN, MN, List.cons_append, List.nil_append] at N1
  k_steps
  try dsimp only
  rename News _ _ _ _ => N
  exact hret _ _ _ (MN w wa wd sb1 ga t1 t2 t3 t4 fv2 vs2 gs m1 m2 ha hd r1 r2 r3 la lb ln pm ctv lc) (Fr.keep (by assumption)) (own_endg (by first | exact N | exact News.swap N | exact Mine.News.sub N (by dsimp only [WN, HN, MN, List.cons_append, List.nil_append]; lcg_sub))) ⟨rfl, sb1, m1, m2, fv2, vs2, nd2, hf2, hg2, by first | exact rfl | exact sb2 ‹_› | exact sb1 ‹_› | exact sbn ‹_› | exact sbc ‹_› | omega | (simp only [List.length_append, List.length_cons, List.length_nil] at *; first | exact rfl | exact sb2 ‹_› | exact sb1 ‹_› | exact sbn ‹_› | exact sbc ‹_› | omega) | simp only [List.length_append, List.length_cons, List.length_nil], rfl⟩
theorem o_drop (w : World) (wa wd sa ga : Addr) (t1 t2 t3 t4 : Tok) (fv : Value) (vs gs : List Value) (n1 n2 : Nat) (ha hd : Addr) (r1 r2 r3 : Tok) (la : Addr) (lb ln pm ctv : Value) (lc : Addr) (nd : Dist7 wa wd sa ga ha hd la) (hz : vs.length ≤ 1000) (hg : GoodV vs) (hf : GoodF fv) (v : Value) (h2 : 1 ≤ vs.length) :
    OCon w 338 [.ref wa, v, .ref ha] (MN w wa wd sa ga t1 t2 t3 t4 fv vs gs n1 n2 ha hd r1 r2 r3 la lb ln pm ctv lc) 40 3000 (fun h => OrdS (HS h) v .drop ∧ h.CodeRec (.ref lc) lamQ) (Ran w wa wd ga t1 t2 t3 t4 ha hd r1 r2 r3 la lb ln pm ctv lc (vs.length - 1) gs) := by
  refine OCon.of fun A s Q E g hh hdp hu hgg G h1 hp hret => ?_
  obtain ⟨⟨a, l, rfl, hT, t, rfl⟩, hcd⟩ := hp
  replace hT := hT.heap
  have n4 := nd.1
  have n3 := nd.2.2.2.2.2
  refine Dist7.all nd fun q1 q2 q3 q4 q5 q6 q7 q8 q9 q10 q11 q12 q13 q14 q15 q16 q17 q18 q19 q20 q21 => ?_
  refine enterO (own := MN w wa wd sa ga t1 t2 t3 t4 fv vs gs n1 n2 ha hd r1 r2 r3 la lb ln pm ctv lc) (binds := [(ss "work", .ref wa), (ss "order", .ref a), (ss "hooks", .ref ha)]) hgg G h1 hret (B := ?B) (S := ?S) ?hB ?hS (by k_is) (by k_is) (lt0 (by assumption)) (BindsTo.of_eq rfl) (locs rfl) rfl rfl rfl (by decide) ?_
  case hB => conv => lhs; whnf
  case hS => conv => lhs; whnf
  have X := G.K
  clear hret G hgg h1
  intro s1 Q1 L loose mean mg mb T F N hret _
  dsimp only [WN, HN, MN, List.cons_append, List.nil_append] at N
  k_steps
  rename News _ _ _ _ => N
  refine use_oc (own := MN w wa wd sa ga t1 t2 t3 t4 fv vs gs n1 n2 ha hd r1 r2 r3 la lb ln pm ctv lc) (rest := []) (other_drop w wa wd sa ga t1 t2 t3 t4 fv vs gs n1 n2 ha hd r1 r2 r3 la lb ln pm ctv lc nd hz hg hf (.ref a) h2) (by exact hh) (by show A.depth + 1 + _ < _; first | exact dlt (by assumption) (by decide) | exact dlt1 (by assumption) (by decide) | exact dlt2 (by assumption) (by decide) | exact dh ‹_› ‹_› (by decide) | exact dh0 ‹_› ‹_› (by decide) | exact dhs ‹_› ‹_› (by decide) | exact dm0 ‹_› ‹_› (by decide) | exact dl3 ‹_› (by decide) | exact dlt2 ‹_› (by decide) | omega) (by show A.units + 3 + _ < _; first | exact dlt (by assumption) (by decide) | exact dlt1 (by assumption) (by decide) | exact dlt2 (by assumption) (by decide) | exact dh ‹_› ‹_› (by decide) | exact dh0 ‹_› ‹_› (by decide) | exact dhs ‹_› ‹_› (by decide) | exact dm0 ‹_› ‹_› (by decide) | exact dl3 ‹_› (by decide) | exact dlt2 ‹_› (by decide) | omega) X T (by assumption) (by first | exact N | exact News.swap N | exact Mine.News.sub N (by (try dsimp only [WN, HN, MN, List.cons_append, List.nil_append]); lcg_sub)) Apart.nil (fun st _ => ⟨⟨a, _, rfl, (show TupS (HS g) a _ from hT).mono (fun _ _ e => st _ _ e), ⟨_, rfl⟩⟩, hcd.keeps st⟩) ?_
  intro PQ
  clear N
  rintro v1 h1 tk1 own1 F1 N1 ap1 ⟨rfl, sb1, m1, m2, fv2, vs2, nd2, hf2, hg2, hl2, rfl⟩
  try dsimp only [WN, HN, MN, List.cons_append, List.nil_append] at N1
  k_steps
  try dsimp only
  rename News _ _ _ _ => N
  exact hret _ _ _ (MN w wa wd sb1 ga t1 t2 t3 t4 fv2 vs2 gs m1 m2 ha hd r1 r2 r3 la lb ln pm ctv lc) (Fr.keep (by assumption)) (own_endg (by first | exact N | exact News.swap N | exact Mine.News.sub N (by dsimp only [WN, HN, MN, List.cons_append, List.nil_append]; lcg_sub))) ⟨rfl, sb1, m1, m2, fv2, vs2, nd2, hf2, hg2, by first | exact rfl | exact sb2 ‹_› | exact sb1 ‹_› | exact sbn ‹_› | exact sbc ‹_› | omega | (simp only [List.length_append, List.length_cons, List.length_nil] at *; first | exact rfl | exact sb2 ‹_› | exact sb1 ‹_› | exact sbn ‹_› | exact sbc ‹_› | omega) | simp only [List.length_append, List.length_cons, List.length_nil], rfl⟩
theorem o_double (w : World) (wa wd sa ga : Addr) (t1 t2 t3 t4 : Tok) (fv : Value) (vs gs : List Value) (n1 n2 : Nat) (ha hd : Addr) (r1 r2 r3 : Tok) (la : Addr) (lb ln pm ctv : Value) (lc : Addr) (nd : Dist7 wa wd sa ga ha hd la) (hz : vs.length ≤ 1000) (hg : GoodV vs) (hf : GoodF fv) (v : Value) (h2 : 1 ≤ vs.length) :
    OCon w 338 [.ref wa, v, .ref ha] (MN w wa wd sa ga t1 t2 t3 t4 fv vs gs n1 n2 ha hd r1 r2 r3 la lb ln pm ctv lc) 40 3000 (fun h => OrdS (HS h) v .double ∧ h.CodeRec (.ref lc) lamQ) (Ran w wa wd ga t1 t2 t3 t4 ha hd r1 r2 r3 la lb ln pm ctv lc (vs.length + 1) gs) := by
  refine OCon.of fun A s Q E g hh hdp hu hgg G h1 hp hret => ?_
  obtain ⟨⟨a, l, rfl, hT, t, rfl⟩, hcd⟩ := hp
  replace hT := hT.heap
  have n4 := nd.1
  have n3 := nd.2.2.2.2.2
  refine Dist7.all nd fun q1 q2 q3 q4 q5 q6 q7 q8 q9 q10 q11 q12 q13 q14 q15 q16 q17 q18 q19 q20 q21 => ?_
  refine enterO (own := MN w wa wd sa ga t1 t2 t3 t4 fv vs gs n1 n2 ha hd r1 r2 r3 la lb ln pm ctv lc) (binds := [(ss "work", .ref wa), (ss "order", .ref a), (ss "hooks", .ref ha)]) hgg G h1 hret (B := ?B) (S := ?S) ?hB ?hS (by k_is) (by k_is) (lt0 (by assumption)) (BindsTo.of_eq rfl) (locs rfl) rfl rfl rfl (by decide) ?_
  case hB => conv => lhs; whnf
  case hS => conv => lhs; whnf
  have X := G.K
  clear hret G hgg h1
  intro s1 Q1 L loose mean mg mb T F N hret _
  dsimp only [WN, HN, MN, List.cons_append, List.nil_append] at N
  k_steps
  rename News _ _ _ _ => N
  refine use_oc (own := MN w wa wd sa ga t1 t2 t3 t4 fv vs gs n1 n2 ha hd r1 r2 r3 la lb ln pm ctv lc) (rest := []) (other_double w wa wd sa ga t1 t2 t3 t4 fv vs gs n1 n2 ha hd r1 r2 r3 la lb ln pm ctv lc nd hz hg hf (.ref a) h2) (by exact hh) (by show A.depth + 1 + _ < _; first | exact dlt (by assumption) (by decide) | exact dlt1 (by assumption) (by decide) | exact dlt2 (by assumption) (by decide) | exact dh ‹_› ‹_› (by decide) | exact dh0 ‹_› ‹_› (by decide) | exact dhs ‹_› ‹_› (by decide) | exact dm0 ‹_› ‹_› (by decide) | exact dl3 ‹_› (by decide) | exact dlt2 ‹_› (by decide) | omega) (by show A.units + 3 + _ < _; first | exact dlt (by assumption) (by decide) | exact dlt1 (by assumption) (by decide) | exact dlt2 (by assumption) (by decide) | exact dh ‹_› ‹_› (by decide) | exact dh0 ‹_› ‹_› (by decide) | exact dhs ‹_› ‹_› (by decide) | exact dm0 ‹_› ‹_› (by decide) | exact dl3 ‹_› (by decide) | exact dlt2 ‹_› (by decide) | omega) X T (by assumption) (by first | exact N | exact News.swap N | exact Mine.News.sub N (by (try dsimp only [WN, HN, MN, List.cons_append, List.nil_append]); lcg_sub)) Apart.nil (fun st _ => ⟨⟨a, _, rfl, (show TupS (HS g) a _ from hT).mono (fun _ _ e => st _ _ e), ⟨_, rfl⟩⟩, hcd.keeps st⟩) ?_
  intro PQ
  clear N
  rintro v1 h1 tk1 own1 F1 N1 ap1 ⟨rfl, sb1, m1, m2, fv2, vs2, nd2, hf2, hg2, hl2, rfl⟩
  try dsimp only [WN, HN, MN, List.cons_append, List.nil_append] at N1
  k_steps
  try dsimp only
  rename News _ _ _ _ => N
  exact hret _ _ _ (MN w wa wd sb1 ga t1 t2 t3 t4 fv2 vs2 gs m1 m2 ha hd r1 r2 r3 la lb ln pm ctv lc) (Fr.keep (by assumption)) (own_endg (by first | exact N | exact News.swap N | exact Mine.News.sub N (by dsimp only [WN, HN, MN, List.cons_append, List.nil_append]; lcg_sub))) ⟨rfl, sb1, m1, m2, fv2, vs2, nd2, hf2, hg2, by first | exact rfl | exact sb2 ‹_› | exact sb1 ‹_› | exact sbn ‹_› | exact sbc ‹_› | omega | (simp only [List.length_append, List.length_cons, List.length_nil] at *; first | exact rfl | exact sb2 ‹_› | exact sb1 ‹_› | exact sbn ‹_› | exact sbc ‹_› | omega) | simp only [List.length_append, List.length_cons, List.length_nil], rfl⟩
theorem o_unguard (w : World) (wa wd sa ga : Addr) (t1 t2 t3 t4 : Tok) (fv : Value) (vs us : List Value) (g0 : Value) (n1 n2 : Nat) (ha hd : Addr) (r1 r2 r3 : Tok) (la : Addr) (lb ln pm ctv : Value) (lc : Addr) (nd : Dist7 wa wd sa ga ha hd la) (hz : vs.length ≤ 1000) (hg : GoodV vs) (hf : GoodF fv) (hzg : us.length ≤ 1000) (v : Value)  :
    OCon w 338 [.ref wa, v, .ref ha] (MN w wa wd sa ga t1 t2 t3 t4 fv vs (us ++ [g0]) n1 n2 ha hd r1 r2 r3 la lb ln pm ctv lc) 40 3000 (fun h => OrdS (HS h) v .unguard ∧ h.CodeRec (.ref lc) lamQ) (Ran w wa wd ga t1 t2 t3 t4 ha hd r1 r2 r3 la lb ln pm ctv lc vs.length us) := by
  refine OCon.of fun A s Q E g hh hdp hu hgg G h1 hp hret => ?_
  obtain ⟨⟨a, l, rfl, hT, t, rfl⟩, hcd⟩ := hp
  replace hT := hT.heap
  have n4 := nd.1
  have n3 := nd.2.2.2.2.2
  refine Dist7.all nd fun q1 q2 q3 q4 q5 q6 q7 q8 q9 q10 q11 q12 q13 q14 q15 q16 q17 q18 q19 q20 q21 => ?_
  refine enterO (own := MN w wa wd sa ga t1 t2 t3 t4 fv vs (us ++ [g0]) n1 n2 ha hd r1 r2 r3 la lb ln pm ctv lc) (binds := [(ss "work", .ref wa), (ss "order", .ref a), (ss "hooks", .ref ha)]) hgg G h1 hret (B := ?B) (S := ?S) ?hB ?hS (by k_is) (by k_is) (lt0 (by assumption)) (BindsTo.of_eq rfl) (locs rfl) rfl rfl rfl (by decide) ?_
  case hB => conv => lhs; whnf
  case hS => conv => lhs; whnf
  have X := G.K
  clear hret G hgg h1
  intro s1 Q1 L loose mean mg mb T F N hret _
  dsimp only [WN, HN, MN, List.cons_append, List.nil_append] at N
  k_steps
  rename News _ _ _ _ => N
  refine use_oc (own := MN w wa wd sa ga t1 t2 t3 t4 fv vs (us ++ [g0]) n1 n2 ha hd r1 r2 r3 la lb ln pm ctv lc) (rest := []) (other_unguard w wa wd sa ga t1 t2 t3 t4 fv vs us g0 n1 n2 ha hd r1 r2 r3 la lb ln pm ctv lc nd hz hg hf hzg (.ref a)) (by exact hh) (by show A.depth + 1 + _ < _; first | exact dlt (by assumption) (by decide) | exact dlt1 (by assumption) (by decide) | exact dlt2 (by assumption) (by decide) | exact dh ‹_› ‹_› (by decide) | exact dh0 ‹_› ‹_› (by decide) | exact dhs ‹_› ‹_› (by decide) | exact dm0 ‹_› ‹_› (by decide) | exact dl3 ‹_› (by decide) | exact dlt2 ‹_› (by decide) | omega) (by show A.units + 3 + _ < _; first | exact dlt (by assumption) (by decide) | exact dlt1 (by assumption) (by decide) | exact dlt2 (by assumption) (by decide) | exact dh ‹_› ‹_› (by decide) | exact dh0 ‹_› ‹_› (by decide) | exact dhs ‹_› ‹_› (by decide) | exact dm0 ‹_› ‹_› (by decide) | exact dl3 ‹_› (by decide) | exact dlt2 ‹_› (by decide) | omega) X T (by assumption) (by first | exact N | exact News.swap N | exact Mine.News.sub N (by (try dsimp only [WN, HN, MN, List.cons_append, List.nil_append]); lcg_sub)) Apart.nil (fun st _ => ⟨⟨a, _, rfl, (show TupS (HS g) a _ from hT).mono (fun _ _ e => st _ _ e), ⟨_, rfl⟩⟩, hcd.keeps st⟩) ?_
  intro PQ
  clear N
  rintro v1 h1 tk1 own1 F1 N1 ap1 ⟨rfl, sb1, m1, m2, fv2, vs2, nd2, hf2, hg2, hl2, rfl⟩
  try dsimp only [WN, HN, MN, List.cons_append, List.nil_append] at N1
  k_steps
  try dsimp only
  rename News _ _ _ _ => N
  exact hret _ _ _ (MN w wa wd sb1 ga t1 t2 t3 t4 fv2 vs2 us m1 m2 ha hd r1 r2 r3 la lb ln pm ctv lc) (Fr.keep (by assumption)) (own_endg (by first | exact N | exact News.swap N | exact Mine.News.sub N (by dsimp only [WN, HN, MN, List.cons_append, List.nil_append]; lcg_sub))) ⟨rfl, sb1, m1, m2, fv2, vs2, nd2, hf2, hg2, by first | exact rfl | exact sb2 ‹_› | exact sb1 ‹_› | exact sbn ‹_› | exact sbc ‹_› | omega | (simp only [List.length_append, List.length_cons, List.length_nil] at *; first | exact rfl | exact sb2 ‹_› | exact sb1 ‹_› | exact sbn ‹_› | exact sbc ‹_› | omega) | simp only [List.length_append, List.length_cons, List.length_nil], rfl⟩
theorem o_fail (w : World) (wa wd sa ga : Addr) (t1 t2 t3 t4 : Tok) (fv : Value) (vs gs : List Value) (n1 n2 : Nat) (ha hd : Addr) (r1 r2 r3 : Tok) (la : Addr) (lb ln pm ctv : Value) (lc : Addr) (nd : Dist7 wa wd sa ga ha hd la) (hz : vs.length ≤ 1000) (hg : GoodV vs) (hf : GoodF fv) (v : Value)  :
    OCon w 338 [.ref wa, v, .ref ha] (MN w wa wd sa ga t1 t2 t3 t4 fv vs gs n1 n2 ha hd r1 r2 r3 la lb ln pm ctv lc) 40 3000 (fun h => OrdS (HS h) v .fail ∧ h.CodeRec (.ref lc) lamQ) (fun r own' => r = .bool false ∧ own' = MN w wa wd sa ga t1 t2 t3 t4 fv vs gs n1 n2 ha hd r1 r2 r3 la lb ln pm ctv lc) := by
  refine OCon.of fun A s Q E g hh hdp hu hgg G h1 hp hret => ?_
  obtain ⟨⟨a, l, rfl, hT, t, rfl⟩, hcd⟩ := hp
  replace hT := hT.heap
  have n4 := nd.1
  have n3 := nd.2.2.2.2.2
  refine Dist7.all nd fun q1 q2 q3 q4 q5 q6 q7 q8 q9 q10 q11 q12 q13 q14 q15 q16 q17 q18 q19 q20 q21 => ?_
  refine enterO (own := MN w wa wd sa ga t1 t2 t3 t4 fv vs gs n1 n2 ha hd r1 r2 r3 la lb ln pm ctv lc) (binds := [(ss "work", .ref wa), (ss "order", .ref a), (ss "hooks", .ref ha)]) hgg G h1 hret (B := ?B) (S := ?S) ?hB ?hS (by k_is) (by k_is) (lt0 (by assumption)) (BindsTo.of_eq rfl) (locs rfl) rfl rfl rfl (by decide) ?_
  case hB => conv => lhs; whnf
  case hS => conv => lhs; whnf
  have X := G.K
  clear hret G hgg h1
  intro s1 Q1 L loose mean mg mb T F N hret _
  dsimp only [WN, HN, MN, List.cons_append, List.nil_append] at N
  k_steps
  rename News _ _ _ _ => N
  refine use_oc (own := MN w wa wd sa ga t1 t2 t3 t4 fv vs gs n1 n2 ha hd r1 r2 r3 la lb ln pm ctv lc) (rest := []) (other_fail w wa wd sa ga t1 t2 t3 t4 fv vs gs n1 n2 ha hd r1 r2 r3 la lb ln pm ctv lc nd hz hg hf (.ref a)) (by exact hh) (by show A.depth + 1 + _ < _; first | exact dlt (by assumption) (by decide) | exact dlt1 (by assumption) (by decide) | exact dlt2 (by assumption) (by decide) | exact dh ‹_› ‹_› (by decide) | exact dh0 ‹_› ‹_› (by decide) | exact dhs ‹_› ‹_› (by decide) | exact dm0 ‹_› ‹_› (by decide) | exact dl3 ‹_› (by decide) | exact dlt2 ‹_› (by decide) | omega) (by show A.units + 3 + _ < _; first | exact dlt (by assumption) (by decide) | exact dlt1 (by assumption) (by decide) | exact dlt2 (by assumption) (by decide) | exact dh ‹_› ‹_› (by decide) | exact dh0 ‹_› ‹_› (by decide) | exact dhs ‹_› ‹_› (by decide) | exact dm0 ‹_› ‹_› (by decide) | exact dl3 ‹_› (by decide) | exact dlt2 ‹_› (by decide) | omega) X T (by assumption) (by first | exact N | exact News.swap N | exact Mine.News.sub N (by (try dsimp only [WN, HN, MN, List.cons_append, List.nil_append]); lcg_sub)) Apart.nil (fun st _ => ⟨⟨a, _, rfl, (show TupS (HS g) a _ from hT).mono (fun _ _ e => st _ _ e), ⟨_, rfl⟩⟩, hcd.keeps st⟩) ?_
  intro PQ
  clear N
  rintro v1 h1 tk1 own1 F1 N1 ap1 ⟨rfl, rfl⟩
  try dsimp only [WN, HN, MN, List.cons_append, List.nil_append] at N1
  k_steps
  try dsimp only
  rename News _ _ _ _ => N
  exact hret _ _ _ (MN w wa wd sa ga t1 t2 t3 t4 fv vs gs n1 n2 ha hd r1 r2 r3 la lb ln pm ctv lc) (Fr.keep (by assumption)) (own_endg (by first | exact N | exact News.swap N | exact Mine.News.sub N (by dsimp only [WN, HN, MN, List.cons_append, List.nil_append]; lcg_sub))) ⟨rfl, rfl⟩
/-- orders whose texts can be laid -/
noncomputable def Ord.okay : Ord → Prop
  | .push z => GoodS z
  | .var x | .ref x => PyData.strOk x = true
  | .unary op | .binary op => PyData.strOk op = true
  | _ => True
noncomputable def GsRel (gs gs' : List Value) (gl gl' : List (Nat × Nat)) : Prop := (gs' = gs ∧ gl' = gl) ∨ ∃ g0 q, gs = gs' ++ [g0] ∧ gl = q :: gl'
theorem OCon.weak {w : World} {f : Addr} {vs : List Value} {own : List (Addr × Obj)} {d u : Nat} {Pre : Heap → Prop} {P P' : Value → List (Addr × Obj) → Prop} (C : OCon w f vs own d u Pre P) (i : ∀ r o, P r o → P' r o) : OCon w f vs own d u Pre P' :=
  fun A s Q E hh hd hu G h1 hp hret => C A s Q E hh hd hu G h1 hp fun v h' tk own' a b c => hret v h' tk own' a b (i _ _ c)
/-- an order done, on lists -/
theorem do_con (w : World) (wa wd sa ga : Addr) (t1 t2 t3 t4 : Tok) (fv : Value) (vs gs : List Value) (n1 n2 : Nat) (ha hd : Addr) (r1 r2 r3 : Tok) (la : Addr) (lb ln pm ctv : Value) (lc : Addr) (nd : Dist7 wa wd sa ga ha hd la) (hz : vs.length ≤ 1000) (hg : GoodV vs) (hf : GoodF fv) (hzg : gs.length ≤ 1000) (v : Value) (o : Ord) (ho : o.okay) (gl gl' : List (Nat × Nat)) (h' : Nat) (hgl : gl.length = gs.length) (hd' : doOrd o gl vs.length = some (some (gl', h'))) :
    OCon w 338 [.ref wa, v, .ref ha] (MN w wa wd sa ga t1 t2 t3 t4 fv vs gs n1 n2 ha hd r1 r2 r3 la lb ln pm ctv lc) 40 3000 (fun h => OrdS (HS h) v o ∧ h.CodeRec (.ref lc) lamQ) (fun r own' => ∃ gs', GsRel gs gs' gl gl' ∧ Ran w wa wd ga t1 t2 t3 t4 ha hd r1 r2 r3 la lb ln pm ctv lc h' gs' r own') := by
  cases o <;> simp only [doOrd] at hd'
  case push z => cases hd'; exact (o_push w wa wd sa ga t1 t2 t3 t4 fv vs gs n1 n2 ha hd r1 r2 r3 la lb ln pm ctv lc nd hz hg hf v z ho).weak fun r o x => ⟨_, .inl ⟨rfl, rfl⟩, x⟩
  case var x =>
    split at hd'
    · cases hd'
    · rename_i nF; cases hd'; exact (o_var w wa wd sa ga t1 t2 t3 t4 fv vs gs n1 n2 ha hd r1 r2 r3 la lb ln pm ctv lc nd hz hg hf v x ho nF).weak fun r o x => ⟨_, .inl ⟨rfl, rfl⟩, x⟩
  case ref x =>
    split at hd'
    · cases hd'
    · rename_i nF; cases hd'; exact (o_ref w wa wd sa ga t1 t2 t3 t4 fv vs gs n1 n2 ha hd r1 r2 r3 la lb ln pm ctv lc nd hz hg hf v x ho nF).weak fun r o x => ⟨_, .inl ⟨rfl, rfl⟩, x⟩
  case value => split at hd' <;> cases hd'; exact (o_value w wa wd sa ga t1 t2 t3 t4 fv vs gs n1 n2 ha hd r1 r2 r3 la lb ln pm ctv lc nd hz hg hf v (by assumption)).weak fun r o x => ⟨_, .inl ⟨rfl, rfl⟩, x⟩
  case indirect => split at hd' <;> cases hd'; exact (o_indirect w wa wd sa ga t1 t2 t3 t4 fv vs gs n1 n2 ha hd r1 r2 r3 la lb ln pm ctv lc nd hz hg hf v (by assumption)).weak fun r o x => ⟨_, .inl ⟨rfl, rfl⟩, x⟩
  case call n => split at hd' <;> cases hd'; exact (o_call w wa wd sa ga t1 t2 t3 t4 fv vs gs n1 n2 ha hd r1 r2 r3 la lb ln pm ctv lc nd hz hg hf v n (by assumption)).weak fun r o x => ⟨_, .inl ⟨rfl, rfl⟩, x⟩
  case item n => split at hd' <;> cases hd'; exact (o_item w wa wd sa ga t1 t2 t3 t4 fv vs gs n1 n2 ha hd r1 r2 r3 la lb ln pm ctv lc nd hz hg hf v n (by assumption)).weak fun r o x => ⟨_, .inl ⟨rfl, rfl⟩, x⟩
  case unary op => split at hd' <;> cases hd'; exact (o_unary w wa wd sa ga t1 t2 t3 t4 fv vs gs n1 n2 ha hd r1 r2 r3 la lb ln pm ctv lc nd hz hg hf v op ho (by assumption)).weak fun r o x => ⟨_, .inl ⟨rfl, rfl⟩, x⟩
  case binary op => split at hd' <;> cases hd'; exact (o_binary w wa wd sa ga t1 t2 t3 t4 fv vs gs n1 n2 ha hd r1 r2 r3 la lb ln pm ctv lc nd hz hg hf v op ho (by assumption)).weak fun r o x => ⟨_, .inl ⟨rfl, rfl⟩, x⟩
  case join => split at hd' <;> cases hd'; exact (o_join w wa wd sa ga t1 t2 t3 t4 fv vs gs n1 n2 ha hd r1 r2 r3 la lb ln pm ctv lc nd hz hg hf v (by assumption)).weak fun r o x => ⟨_, .inl ⟨rfl, rfl⟩, x⟩
  case given => split at hd' <;> cases hd'; exact (o_given w wa wd sa ga t1 t2 t3 t4 fv vs gs n1 n2 ha hd r1 r2 r3 la lb ln pm ctv lc nd hz hg hf v (by assumption)).weak fun r o x => ⟨_, .inl ⟨rfl, rfl⟩, x⟩
  case drop => split at hd' <;> cases hd'; exact (o_drop w wa wd sa ga t1 t2 t3 t4 fv vs gs n1 n2 ha hd r1 r2 r3 la lb ln pm ctv lc nd hz hg hf v (by assumption)).weak fun r o x => ⟨_, .inl ⟨rfl, rfl⟩, x⟩
  case fail => cases hd'
  case guard n => cases hd'
  case unguard =>
    match gl, hgl, hd' with
    | [], _, hd' => cases hd'
    | q :: gl, hgl, hd' =>
      cases hd'
      have hl : gs ≠ [] := fun e => by subst e; cases hgl
      obtain ⟨us, g0, rfl⟩ : ∃ us g0, gs = us ++ [g0] := ⟨gs.dropLast, gs.getLast hl, (List.dropLast_concat_getLast hl).symm⟩
      simp only [List.length_append, List.length_cons, List.length_nil] at hzg
      exact (o_unguard w wa wd sa ga t1 t2 t3 t4 fv vs us g0 n1 n2 ha hd r1 r2 r3 la lb ln pm ctv lc nd hz hg hf (by omega) v).weak fun r o x => ⟨_, .inr ⟨_, _, rfl, rfl⟩, x⟩
  case match_ => split at hd' <;> cases hd'; exact (o_match_ w wa wd sa ga t1 t2 t3 t4 fv vs gs n1 n2 ha hd r1 r2 r3 la lb ln pm ctv lc nd hz hg hf v (by assumption)).weak fun r o x => ⟨_, .inl ⟨rfl, rfl⟩, x⟩
  case assign => split at hd' <;> cases hd'; exact (o_assign w wa wd sa ga t1 t2 t3 t4 fv vs gs n1 n2 ha hd r1 r2 r3 la lb ln pm ctv lc nd hz hg hf v (by assumption)).weak fun r o x => ⟨_, .inl ⟨rfl, rfl⟩, x⟩
  case replace => split at hd' <;> cases hd'; exact (o_replace w wa wd sa ga t1 t2 t3 t4 fv vs gs n1 n2 ha hd r1 r2 r3 la lb ln pm ctv lc nd hz hg hf v (by assumption)).weak fun r o x => ⟨_, .inl ⟨rfl, rfl⟩, x⟩
  case double => split at hd' <;> cases hd'; exact (o_double w wa wd sa ga t1 t2 t3 t4 fv vs gs n1 n2 ha hd r1 r2 r3 la lb ln pm ctv lc nd hz hg hf v (by assumption)).weak fun r o x => ⟨_, .inl ⟨rfl, rfl⟩, x⟩
theorem do_fail (w : World) (wa wd sa ga : Addr) (t1 t2 t3 t4 : Tok) (fv : Value) (vs gs : List Value) (n1 n2 : Nat) (ha hd : Addr) (r1 r2 r3 : Tok) (la : Addr) (lb ln pm ctv : Value) (lc : Addr) (nd : Dist7 wa wd sa ga ha hd la) (hz : vs.length ≤ 1000) (hg : GoodV vs) (hf : GoodF fv) (v : Value) (o : Ord) (gl : List (Nat × Nat)) (hd' : doOrd o gl vs.length = some none) :
    OCon w 338 [.ref wa, v, .ref ha] (MN w wa wd sa ga t1 t2 t3 t4 fv vs gs n1 n2 ha hd r1 r2 r3 la lb ln pm ctv lc) 40 3000 (fun h => OrdS (HS h) v o ∧ h.CodeRec (.ref lc) lamQ) (fun r own' => r = .bool false ∧ own' = MN w wa wd sa ga t1 t2 t3 t4 fv vs gs n1 n2 ha hd r1 r2 r3 la lb ln pm ctv lc) := by
  cases o <;> simp only [doOrd] at hd'
  case var x =>
    split at hd'
    · rename_i e; subst e; exact o_varF w wa wd sa ga t1 t2 t3 t4 fv vs gs n1 n2 ha hd r1 r2 r3 la lb ln pm ctv lc nd hz hg hf v
    · cases hd'
  case ref x =>
    split at hd'
    · rename_i e; subst e; exact o_refF w wa wd sa ga t1 t2 t3 t4 fv vs gs n1 n2 ha hd r1 r2 r3 la lb ln pm ctv lc nd hz hg hf v
    · cases hd'
  case fail => exact o_fail w wa wd sa ga t1 t2 t3 t4 fv vs gs n1 n2 ha hd r1 r2 r3 la lb ln pm ctv lc nd hz hg hf v
  case unguard =>
    match gl, hd' with
    | [], hd' => cases hd'
    | q :: gl, hd' => cases hd'
  all_goals first | (cases hd'; done) | (split at hd' <;> cases hd')
end
section
set_option maxHeartbeats 0
set_option rowWalk.seconds 0
theorem ite_posE {p P Q : Prop} [Decidable p] (h : p) (x : P) : if decide p = true then P else Q := by rw [if_pos (decide_eq_true h)]; exact x
theorem ite_negE {p P Q : Prop} [Decidable p] (h : ¬ p) (x : Q) : if decide p = true then P else Q := by rw [if_neg (by simpa using h)]; exact x

section
variable {prog : Program} {w : World} {A : Around} {Q : Flow → Shared → Prop} {s : Shared} {env : Env} {g : Heap} {L : Addr}
noncomputable def WPost (g : Heap) (L : Addr) (s : Shared) (J : Nat → (Str → Option Value) → List (Addr × Obj) → Prop) (n : Nat) (Q : Flow → Shared → Prop) (f : Flow) (s₃ : Shared) : Prop := match f with
  | .ret v => Q (.ret v) s₃
  | .next => ∃ n', n' < n ∧ ∃ h tk m nx, s₃ = { s with heap := h, toks := tk } ∧ Fr g L h m ∧ News g L h nx ∧ J n' m nx
  | _ => False
theorem WPost.next {J : Nat → (Str → Option Value) → List (Addr × Obj) → Prop} {n n' : Nat} {h : Heap} {tk : Nat} {m : Str → Option Value} {nx : List (Addr × Obj)} (hn : n' < n) (F : Fr g L h m) (N : News g L h nx) (j : J n' m nx) :
    WPost g L s J n Q .next { s with heap := h, toks := tk } := ⟨n', hn, h, tk, m, nx, rfl, F, N, j⟩
theorem While_fuel {test : Expr} {body : List Stmt} {pos : Pos} {m : Str → Option Value} {news : List (Addr × Obj)} (J : Nat → (Str → Option Value) → List (Addr × Obj) → Prop) {n₀ : Nat}
    (F : Fr g L s.heap m) (N : News g L s.heap news) (hJ : J n₀ m news)
    (turn : ∀ n m₁ news₁ h₁ tk₁, Fr g L h₁ m₁ → News g L h₁ news₁ → J n m₁ news₁ →
      wpAny (model prog w) A (isTrue test env (eval test env)) (fun b s₂ =>
        if b = true then wpAny (model prog w) A (execs body env) (WPost g L s J n Q) (fun _ _ => False) s₂ else Q .next s₂) (fun _ _ => False) { s with heap := h₁, toks := tk₁ }) :
    wpAny (model prog w) A (exec (.While test body [] pos) env) Q (fun _ _ => False) s := by
  refine wpAny_While (codeAny_noErr (codeAny_whileLoop (fun n s' => ∃ h₁ tk₁ m₁ news₁, s' = { s with heap := h₁, toks := tk₁ } ∧ Fr g L h₁ m₁ ∧ News g L h₁ news₁ ∧ J n m₁ news₁) ?_ n₀ ⟨s.heap, s.toks, m, news, rfl, F, N, hJ⟩))
  rintro n s' ⟨h₁, tk₁, m₁, news₁, rfl, F₁, N₁, J₁⟩
  refine wpAny_mono (turn n m₁ news₁ h₁ tk₁ F₁ N₁ J₁) (fun b s₂ h₂ => ?_) fun _ _ e => e.elim
  cases b with
  | false =>
    simp only [Bool.false_eq_true, if_false] at h₂ ⊢
    exact wpAny_execs_nil h₂
  | true =>
    simp only [if_true] at h₂ ⊢
    refine wpAny_mono h₂ (fun f s₃ h₃ => ?_) fun _ _ e => e.elim
    cases f with
    | next =>
      obtain ⟨n', hn, h', tk, m₂, news₂, rfl, F₂, N₂, J₂⟩ := h₃
      exact ⟨n', hn, h', tk, m₂, news₂, rfl, F₂, N₂, J₂⟩
    | ret v => exact h₃
    | brk => exact h₃.elim
    | cont => exact h₃.elim
end
theorem OrdsS.at {S : Sto} {vs : List Value} {os : List Ord} (x : OrdsS S vs os) : ∀ {i : Nat} {o : Ord}, os[i]? = some o → ∃ v, vs[i]? = some v ∧ OrdS S v o := by
  induction x with
  | nil => intro i v h; simp at h
  | cons h _ ih =>
    intro i v hv
    cases i with
    | zero => simp at hv; subst hv; exact ⟨_, rfl, h⟩
    | succ i => simpa using ih (by simpa using hv)
/-- the guards that stand, bottom first; beside them the plain ones, top first -/
inductive GdS (S : Sto) : List Value → List (Nat × Nat) → Prop
  | nil : GdS S [] []
  | snoc {gs : List Value} {gl : List (Nat × Nat)} {a : Addr} {p h : Nat} {tp th : Tok} (r : GdS S gs gl) (x : TupS S a [.int (p : Nat) tp, .int (h : Nat) th]) : GdS S (gs ++ [.ref a]) ((p, h) :: gl)
theorem GdS.mono {S S' : Sto} (k : ∀ a o, S a o → S' a o) {gs : List Value} {gl : List (Nat × Nat)} (x : GdS S gs gl) : GdS S' gs gl := by
  induction x with
  | nil => exact .nil
  | snoc _ x ih => exact .snoc ih (x.mono k)
theorem GdS.length {S : Sto} {gs : List Value} {gl : List (Nat × Nat)} (x : GdS S gs gl) : gl.length = gs.length := by
  induction x with
  | nil => rfl
  | snoc _ _ ih => simp [ih]
theorem GdS.inv {S : Sto} {gs : List Value} {p h : Nat} {gl : List (Nat × Nat)} (x : GdS S gs ((p, h) :: gl)) : ∃ us a tp th, gs = us ++ [.ref a] ∧ GdS S us gl ∧ TupS S a [.int (p : Nat) tp, .int (h : Nat) th] := by
  cases x with
  | snoc r x => exact ⟨_, _, _, _, rfl, r, x⟩
theorem GdS.rel {S : Sto} {gs gs' : List Value} {gl gl' : List (Nat × Nat)} (x : GdS S gs gl) (r : GsRel gs gs' gl gl') : GdS S gs' gl' := by
  rcases r with ⟨rfl, rfl⟩ | ⟨g0, ⟨p, h⟩, rfl, rfl⟩
  · exact x
  · obtain ⟨us, a, tp, th, e, y, _⟩ := x.inv
    have := List.append_inj' e rfl
    rw [this.1]; exact y
theorem gds_reads {h : Heap} {gs : List Value} {gl : List (Nat × Nat)} (x : GdS (HS h) gs gl) : ∃ ds as, ReadsAll h gs ds as ∧ PyData.canLayAll0 ds = true ∧ PyData.depthAll ds ≤ 4 ∧ ds.length = gs.length := by
  induction x with
  | nil => exact ⟨[], _, .nil, rfl, Nat.zero_le _, rfl⟩
  | @snoc gs gl a p hh tp th r x ih =>
    obtain ⟨ds, as, q, c, d, e⟩ := ih
    obtain ⟨o, e1, e2, n, e3⟩ := x
    have one := reads_tuple_at (xs := [.int (p : Nat), .int (hh : Nat)]) e1 e2 e3 (by simpa using ReadsAll.cons (.int _ _) (.cons (.int _ _) .nil))
    have app : ∀ {vs ws : List Value} {ds es : List PyData} {as bs : List Addr}, ReadsAll h vs ds as → ReadsAll h ws es bs → ∃ cs, ReadsAll h (vs ++ ws) (ds ++ es) cs := by
      intro vs
      induction vs with
      | nil => intro ws ds es as bs a b; cases a; exact ⟨_, b⟩
      | cons v vs ih => intro ws ds es as bs a b; cases a with | cons a a' => obtain ⟨cs, y⟩ := ih a' b; exact ⟨_, .cons a y⟩
    obtain ⟨cs, y⟩ := app q (.cons one .nil)
    refine ⟨_, cs, y, ?_, ?_, by simp [e]⟩
    · have : ∀ l : List PyData, PyData.canLayAll0 l = true → PyData.canLayAll0 (l ++ [.tuple [.int (p : Nat), .int (hh : Nat)]]) = true := by
        intro l
        induction l with
        | nil => intro _; rfl
        | cons b l ih => intro hb; simp only [List.cons_append, PyData.canLayAll0, Bool.and_eq_true] at hb ⊢; exact ⟨hb.1, ih hb.2⟩
      exact this _ c
    · have : ∀ l : List PyData, PyData.depthAll l ≤ 4 → PyData.depthAll (l ++ [.tuple [.int (p : Nat), .int (hh : Nat)]]) ≤ 4 := by
        intro l
        induction l with
        | nil => intro _; simp only [List.nil_append, PyData.depthAll, PyData.depth]; first | decide | omega
        | cons b l ih => intro hb; simp only [List.cons_append, PyData.depthAll] at hb ⊢; first | exact Nat.max_le.2 ⟨(Nat.max_le.1 hb).1, ih (Nat.max_le.1 hb).2⟩ | (have := ih (by omega); omega)
      exact this _ d
theorem ord_head {o : Ord} {l : List Value} (h : OrdItems o l) : (∃ k t u, o = .guard k ∧ l = [.str (ss "GUARD") t, .int (k : Nat) u]) ∨ ((∀ k, o ≠ .guard k) ∧ ∃ x t l', l = .str x t :: l' ∧ x ≠ ss "GUARD") := by
  cases o <;> simp only [OrdItems] at h
  case guard k => obtain ⟨t, u, rfl⟩ := h; exact .inl ⟨k, t, u, rfl, rfl⟩
  case call n => obtain ⟨t, u, v, rfl⟩ := h; exact .inr ⟨(fun k e => by cases e), _, _, _, rfl, by decide +kernel⟩
  all_goals first
    | (obtain ⟨t, u, rfl⟩ := h; exact .inr ⟨(fun k e => by cases e), _, _, _, rfl, by decide +kernel⟩)
    | (obtain ⟨t, rfl⟩ := h; exact .inr ⟨(fun k e => by cases e), _, _, _, rfl, by decide +kernel⟩)
theorem mrun_ord {os : List Ord} {n p h most : Nat} {gs : List (Nat × Nat)} {o : Ord} {r : Nat} (hr : mrun os (n + 1) p gs h most = some r) (ho : os[p]? = some o) (no : ∀ k, o ≠ .guard k) :
    (∃ gs' h', doOrd o gs h = some (some (gs', h')) ∧ mrun os n (p + 1) gs' h' (max most h') = some r) ∨
    (doOrd o gs h = some none ∧ ((gs = [] ∧ r = most) ∨ ∃ p' h' gs', gs = (p', h') :: gs' ∧ h' ≤ h ∧ mrun os n p' gs' h' (max most h') = some r)) := by
  unfold mrun at hr
  split at hr
  · rw [ho] at hr
    split at hr
    · rename_i e; cases e
    · rename_i e; cases e; exact absurd rfl (no _)
    · rename_i e; cases e
      split at hr
      · cases hr
      · rename_i e; exact .inl ⟨_, _, e, hr⟩
      · rename_i e
        refine .inr ⟨e, ?_⟩
        split at hr
        · cases hr; exact .inl ⟨rfl, rfl⟩
        · split at hr
          · rename_i l; exact .inr ⟨_, _, _, rfl, l, hr⟩
          · cases hr
  · cases hr
theorem mrun_guard_inv {os : List Ord} {n p h most k : Nat} {gs : List (Nat × Nat)} {r : Nat} (hr : mrun os (n + 1) p gs h most = some r) (ho : os[p]? = some (.guard k)) : mrun os n (p + 1) ((p + k, h) :: gs) h (max most h) = some r := by
  unfold mrun at hr
  split at hr
  · rw [ho] at hr; exact hr
  · cases hr
theorem mrun_end {os : List Ord} {n p h most : Nat} {gs : List (Nat × Nat)} {r : Nat} (hr : mrun os (n + 1) p gs h most = some r) (ho : os[p]? = none) : r = most := by
  unfold mrun at hr
  split at hr
  · rw [ho] at hr; cases hr; rfl
  · cases hr
theorem mrun_room {os : List Ord} {n p h most : Nat} {gs : List (Nat × Nat)} {r : Nat} (hr : mrun os n p gs h most = some r) : ∃ n', n = n' + 1 ∧ h ≤ 1000 ∧ gs.length ≤ 1000 := by
  cases n with
  | zero => cases hr
  | succ n =>
    unfold mrun at hr
    split at hr
    · rename_i q; exact ⟨n, rfl, q.1, q.2⟩
    · cases hr
/-- the frame of the climb -/
noncomputable def C6 (a wa ha : Addr) (vm va vh : Option Value) : Str → Option Value := fun y => if y = ss "most" then vm else if y = ss "at" then va else if y = ss "height" then vh else if y = ss "hooks" then some (.ref ha) else if y = ss "work" then some (.ref wa) else if y = ss "orders" then some (.ref a) else none
end
section
set_option maxHeartbeats 0
set_option rowWalk.seconds 0

local macro_rules | `(tactic| k_all) => `(tactic| assumption)
theorem list_item {prog : Program} {w : World} {A : Around} {E : Value → Shared → Prop} {s : Shared} {value slice : PySem.Expr} {l : Addr} {vs : List Value} {p : Nat} {u : Tok} {v : Value} {Q : Value → Shared → Prop}
    (hl : s.heap.IsList l vs.toArray) (hx : vs[p]? = some v) (hz : p < 100000000) (h : Q v s)
    (hs : subscripted slice false (.ref l) (.int (p : Nat) u) = operate [.ref l, .int (p : Nat) u] (getItem (.ref l) (.int (p : Nat) u))) :
    wpAny (model prog w) A (subscriptTail value slice (.ref l) (.int (p : Nat) u)) Q E s :=
  tail_any hl.typeIs slot_list_getitem.lookup (wpAny_getItem_list hl (by omega) (by omega) (by simpa using hx) h) hs
theorem eq_ff {prog : Program} {w : World} {A : Around} {E : Value → Shared → Prop} {s : Shared} {x y : Str} {t u : Tok} {Q : Value → Shared → Prop} (e : x ≠ y) (h : Q (.bool false) s) : wpAny (model prog w) A (compareOp .Eq (.str x t) (.str y u)) Q E s := PyProof.Rows.eq_str (by rw [show (x == y) = false by simp [e]]; exact h)
local macro_rules | `(tactic| walk_at "ite") => `(tactic| (first | with_reducible refine ite_posE (by omega) ?_ | with_reducible refine ite_negE (by omega) ?_))
local macro_rules | `(tactic| walk_at "subscriptTail Name Name ref int") => `(tactic| (k_dflt (refine list_item (Fr.lst (by assumption) (by assumption)) (by assumption) (by omega) ?_ (by with_unfolding_all rfl))))
local macro_rules | `(tactic| walk_at "compareOp Eq str str") => `(tactic| (k_dflt (refine eq_ff (by assumption) ?_)))
local macro_rules | `(tactic| walk_at "compareOp NotEq ref ref") => `(tactic| walk_at "call ref")
local macro_rules | `(tactic| walk_at "isTrue Compare") => `(tactic| (k_dflt (refine wpAny_isTrue_Compare1 ?_)))

theorem head0 (v : Value) (l : List Value) : seqIndex? 0 (v :: l).length = some 0 := by
  unfold seqIndex?
  simp
local macro_rules | `(tactic| walk_at "subscriptTail") => `(tactic| ((with_reducible show wpAny _ _ (subscriptTail _ _ (.ref _) (.int _ _)) _ _ _); k_dflt (refine item_tupleT (Fr.tup (by assumption) (by assumption)) (by decide) (by decide) (by exact head0 _ _) (by rfl) ?_)))
theorem turn_map {a wa ha : Addr} {vm va vh vm' va' : Option Value} : (fun y => if y = PySem.Str.ofString "most" then vm' else if y = PySem.Str.ofString "at" then va' else C6 a wa ha vm va vh y) = C6 a wa ha vm' va' vh := by
  funext y
  unfold C6
  by_cases h1 : y = ss "most"
  · simp [h1]
  · by_cases h2 : y = ss "at"
    · simp [h1, h2]
    · simp only [h1, h2, if_false]
theorem max_len {a : Nat} {vs : List Value} : max (a : Int) (vs.toArray.size : Int) = ((max a vs.length : Nat) : Int) := by
  rw [List.size_toArray]; omega
theorem news_rot {g h : Heap} {L : Addr} {q : Addr × Obj} {M X : List (Addr × Obj)} (N : News g L h (q :: (M ++ X))) : News g L h (M ++ q :: X) := fun p hp => N p (by
  rcases List.mem_append.mp hp with hp | hp
  · exact .tail _ (List.mem_append_left _ hp)
  · rcases List.mem_cons.mp hp with rfl | hp
    · exact .head _
    · exact .tail _ (List.mem_append_right _ hp))

theorem turn_map2 {a wa ha : Addr} {vm va vh vm' va' vh' : Option Value} : (fun y => if y = PySem.Str.ofString "most" then vm' else if y = PySem.Str.ofString "height" then vh' else if y = PySem.Str.ofString "at" then va' else C6 a wa ha vm va vh y) = C6 a wa ha vm' va' vh' := by
  have n1 : ss "height" ≠ ss "most" := by decide +kernel
  have n2 : ss "height" ≠ ss "at" := by decide +kernel
  have n3 : ss "at" ≠ ss "height" := by decide +kernel
  funext y
  unfold C6
  by_cases h1 : y = ss "most"
  · simp [h1]
  · by_cases h2 : y = ss "height"
    · subst h2; simp [n1, n2]
    · by_cases h3 : y = ss "at"
      · subst h3; simp [h1, n3]
      · simp only [h1, h2, h3, if_false]
theorem allLt_ne {D : Addr} : ∀ {X : List (Addr × Obj)}, AllLt D X → ∀ p ∈ X, p.1 ≠ D
  | [], _, p, h => nomatch h
  | q :: r, x, p, h => by
    rcases List.mem_cons.mp h with rfl | h
    · exact Nat.ne_of_lt x.1
    · exact allLt_ne x.2 p h
theorem news_sw {g h : Heap} {L : Addr} {D W1 W2 old : Addr × Obj} {rest : List (Addr × Obj)} (N : News g L h (D :: W1 :: W2 :: old :: rest)) : News g L h (W1 :: W2 :: D :: rest) := fun p hp => N p (by
  simp only [List.mem_cons] at hp ⊢
  rcases hp with h | h | h | h <;> simp only [h, true_or, or_true])
theorem split_at {α : Type} (l : List α) (n : Nat) (h : n ≤ l.length) : ∃ us xs, l = us ++ xs ∧ us.length = n := ⟨l.take n, l.drop n, (List.take_append_drop _ _).symm, by rw [List.length_take]; omega⟩
local macro_rules | `(tactic| walk_at "subscriptTail Name Slice ref ref") => `(tactic| (k_dflt (refine kmk_slice_lit (by k_asm) (by k_asm) (by kmk_list) (by kmk_part) (by kmk_part) (by exact slice_lo (by omega)) ?_ (by with_unfolding_all rfl) (by kmk_pure) (by simp only [List.size_toArray, List.length_append, sizeLine_eq] at *; omega)); intro _ _ _ _ l1; (try k_lt l1); (try k_sweep)))
theorem apart_MN {w : World} {wa wd sa ga : Addr} {t1 t2 t3 t4 : Tok} {fv : Value} {vs gs : List Value} {n1 n2 : Nat} {ha hd : Addr} {r1 r2 r3 : Tok} {la : Addr} {lb ln pm ctv : Value} {lc : Addr} {X : List (Addr × Obj)}
    (h1 : ∀ p ∈ X, p.1 ≠ wa) (h2 : ∀ p ∈ X, p.1 ≠ wd) (h3 : ∀ p ∈ X, p.1 ≠ sa) (h4 : ∀ p ∈ X, p.1 ≠ ga) (h5 : ∀ p ∈ X, p.1 ≠ ha) (h6 : ∀ p ∈ X, p.1 ≠ hd) (h7 : ∀ p ∈ X, p.1 ≠ la) : Apart (MN w wa wd sa ga t1 t2 t3 t4 fv vs gs n1 n2 ha hd r1 r2 r3 la lb ln pm ctv lc) X :=
  .cons h1 (.cons h2 (.cons h3 (.cons h4 (.cons h5 (.cons h6 (.cons h7 .nil_left))))))
inductive LJ (w : World) (os : List Ord) (r : Nat) (a wa wd ga : Addr) (t1 t2 t3 t4 : Tok) (ha hd : Addr) (r1 r2 r3 : Tok) (la : Addr) (lb ln pm ctv : Value) (lc : Addr) (X0 : List (Addr × Obj)) (n : Nat) (m : Str → Option Value) (nx : List (Addr × Obj)) : Prop
  | mk (p : Nat) (gl : List (Nat × Nat)) (most : Nat) (sa : Addr) (n1 n2 : Nat) (fv : Value) (vs gs : List Value) (X : List (Addr × Obj)) (tm ta : Tok) (vh : Option Value) (hr : mrun os n p gl vs.length most = some r)
    (em : m = C6 a wa ha (some (.int (most : Nat) tm)) (some (.int (p : Nat) ta)) vh) (en : nx = MN w wa wd sa ga t1 t2 t3 t4 fv vs gs n1 n2 ha hd r1 r2 r3 la lb ln pm ctv lc ++ X) (ap : Apart (MN w wa wd sa ga t1 t2 t3 t4 fv vs gs n1 n2 ha hd r1 r2 r3 la lb ln pm ctv lc) X) (hX0 : ∀ q ∈ X0, q ∈ X) (hG : GdS (IS X) gs gl) (nd : Dist7 wa wd sa ga ha hd la) (hg : GoodV vs) (hf : GoodF fv)
theorem climb_loop (w : World) (os : List Ord) (r : Nat) (a wa wd ga : Addr) (t1 t2 t3 t4 : Tok) (ha hd : Addr) (r1 r2 r3 : Tok) (la : Addr) (lb ln pm ctv : Value) (lc : Addr) (X0 : List (Addr × Obj)) {A : Around} {s : Shared} {Q : Flow → Shared → Prop} {g : Heap} {L : Addr} {m : Str → Option Value} {nx : List (Addr × Obj)} {vl : List Value} {loose : List Str} {mean : ExcName → Option Value} {mg mb : Str → Option Value} {n : Nat}
    (hh : A.handled = none) (hdp : A.depth + 50 < recursionLimit) (hu : A.units + 4000 < cLine) (X : (K w.params).In g) (T : Top topProg loose mean mg mb g) (hT : g.IsList a vl.toArray) (q : OrdsS (HS g) vl os) (hok : ∀ o ∈ os, o.okay) (hlen : os.length ≤ 100000)
    (hcode : ∀ H, StA g H → (∀ q ∈ X0, H.get? q.1 = some q.2) → H.CodeRec (.ref lc) lamQ) (F : Fr g L s.heap m) (N : News g L s.heap nx) (j : LJ w os r a wa wd ga t1 t2 t3 t4 ha hd r1 r2 r3 la lb ln pm ctv lc X0 n m nx)
    (k1 : ∀ h' tk tm va vh nx, Fr g L h' (C6 a wa ha (some (.int (r : Nat) tm)) va vh) → News g L h' nx → (∀ q ∈ X0, q ∈ nx) → Q .next { s with heap := h', toks := tk })
    (k2 : ∀ h' tk tm m nx, Fr g L h' m → News g L h' nx → (∀ q ∈ X0, q ∈ nx) → Q (.ret (.int (r : Nat) tm)) { s with heap := h', toks := tk }) :
    wpAny (model PG w) A (exec (nthS (bodyS (topS 29)) 2) (envOf (ss "_law_climbed") (scoS (topS 29)) L 395 (.ref 394))) Q (fun _ _ => False) s := by
  generalize hB : nthS (bodyS (topS 29)) 2 = B
  conv at hB => lhs; whnf
  subst hB
  generalize hS : scoS (topS 29) = S
  conv at hS => lhs; whnf
  subst hS
  refine While_fuel (LJ w os r a wa wd ga t1 t2 t3 t4 ha hd r1 r2 r3 la lb ln pm ctv lc X0) F N j ?_
  clear F N j
  rintro n m nx h tk F N ⟨p, gl, most, sa, n1, n2, fv, vs, gs, XX, tm, ta, vh, hr, rfl, rfl, ap, hX0, hG, nd, hg, hf⟩
  have hvl := q.length
  have hsz : vl.toArray.size = vl.length := List.size_toArray
  obtain ⟨n, rfl, hz, hzg⟩ := mrun_room hr
  rw [hG.length] at hzg
  have ap0 := ap
  dsimp only [WN, HN, MN, List.cons_append, List.nil_append] at N ap0
  have x_wa : ∀ p ∈ XX, p.1 ≠ wa := fun p hp => Ne.symm (ap0 _ (.head _) p hp)
  have x_wd : ∀ p ∈ XX, p.1 ≠ wd := fun p hp => Ne.symm (ap0 _ (.tail _ (.head _)) p hp)
  have x_sa : ∀ p ∈ XX, p.1 ≠ sa := fun p hp => Ne.symm (ap0 _ (.tail _ (.tail _ (.head _))) p hp)
  have x_ga : ∀ p ∈ XX, p.1 ≠ ga := fun p hp => Ne.symm (ap0 _ (.tail _ (.tail _ (.tail _ (.head _)))) p hp)
  have x_ha : ∀ p ∈ XX, p.1 ≠ ha := fun p hp => Ne.symm (ap0 _ (.tail _ (.tail _ (.tail _ (.tail _ (.head _))))) p hp)
  have x_hd : ∀ p ∈ XX, p.1 ≠ hd := fun p hp => Ne.symm (ap0 _ (.tail _ (.tail _ (.tail _ (.tail _ (.tail _ (.head _)))))) p hp)
  have x_la : ∀ p ∈ XX, p.1 ≠ la := fun p hp => Ne.symm (ap0 _ (.tail _ (.tail _ (.tail _ (.tail _ (.tail _ (.tail _ (.head _))))))) p hp)
  have n4 := nd.1
  have n3 := nd.2.2.2.2.2
  refine Dist7.all nd fun q1 q2 q3 q4 q5 q6 q7 q8 q9 q10 q11 q12 q13 q14 q15 q16 q17 q18 q19 q20 q21 => ?_
  cases ho : os[p]? with
  | none =>
    have hp : os.length ≤ p := by simpa using ho
    have e := mrun_end hr ho
    subst e
    k_steps
    exact k1 _ _ _ _ _ _ (by assumption) (by assumption) (fun q hq => by simp only [List.mem_cons, List.mem_append]; simp only [hX0 q hq, or_true])
  | some o =>
    have hp : p < os.length := (List.getElem?_eq_some_iff.mp ho).1
    obtain ⟨v, hv, oa, l, rfl, oT, oI⟩ := q.at ho
    replace oT := oT.heap
    have hko : o.okay := hok o (List.mem_of_getElem? ho)
    rcases ord_head oI with ⟨k, t, u, rfl, rfl⟩ | ⟨no, x, t, l', rfl, nG⟩
    · k_steps
      rename News _ _ _ _ => N
      rename Fr _ _ _ _ => F
      rw [turn_map, max_len] at F
      simp only [List.push_toArray] at N
      exact WPost.next (n' := n) (Nat.lt_succ_self _) F (news_rot (M := MN w wa wd sa ga t1 t2 t3 t4 fv vs (gs ++ [Value.ref _]) n1 (n2 + 1) ha hd r1 r2 r3 la lb ln pm ctv lc) N) ⟨p + 1, (p + k, vs.length) :: gl, max most vs.length, sa, n1, n2 + 1, fv, vs, gs ++ [.ref _], (_, _) :: XX, _, _, vh, mrun_guard_inv hr ho, rfl, rfl, apart_MN (List.forall_mem_cons.mpr ⟨by show @Ne Nat _ _; dsimp only; first | exact Nat.ne_of_lt ‹_› | exact Nat.ne_of_gt ‹_› | (refine Nat.ne_of_lt (InC.of ‹_ ∧ _› ?_); (repeat (first | exact .hd | exact .last | refine .tl ?_)); done) | (refine Nat.ne_of_gt (InC.of ‹_ ∧ _› ?_); (repeat (first | exact .hd | exact .last | refine .tl ?_)); done) | exact Nat.ne_of_lt (Nat.lt_trans ‹_› ‹_›) | exact Nat.ne_of_gt (Nat.lt_trans ‹_› ‹_›) | omega, x_wa⟩) (List.forall_mem_cons.mpr ⟨by show @Ne Nat _ _; dsimp only; first | exact Nat.ne_of_lt ‹_› | exact Nat.ne_of_gt ‹_› | (refine Nat.ne_of_lt (InC.of ‹_ ∧ _› ?_); (repeat (first | exact .hd | exact .last | refine .tl ?_)); done) | (refine Nat.ne_of_gt (InC.of ‹_ ∧ _› ?_); (repeat (first | exact .hd | exact .last | refine .tl ?_)); done) | exact Nat.ne_of_lt (Nat.lt_trans ‹_› ‹_›) | exact Nat.ne_of_gt (Nat.lt_trans ‹_› ‹_›) | omega, x_wd⟩) (List.forall_mem_cons.mpr ⟨by show @Ne Nat _ _; dsimp only; first | exact Nat.ne_of_lt ‹_› | exact Nat.ne_of_gt ‹_› | (refine Nat.ne_of_lt (InC.of ‹_ ∧ _› ?_); (repeat (first | exact .hd | exact .last | refine .tl ?_)); done) | (refine Nat.ne_of_gt (InC.of ‹_ ∧ _› ?_); (repeat (first | exact .hd | exact .last | refine .tl ?_)); done) | exact Nat.ne_of_lt (Nat.lt_trans ‹_› ‹_›) | exact Nat.ne_of_gt (Nat.lt_trans ‹_› ‹_›) | omega, x_sa⟩) (List.forall_mem_cons.mpr ⟨by show @Ne Nat _ _; dsimp only; first | exact Nat.ne_of_lt ‹_› | exact Nat.ne_of_gt ‹_› | (refine Nat.ne_of_lt (InC.of ‹_ ∧ _› ?_); (repeat (first | exact .hd | exact .last | refine .tl ?_)); done) | (refine Nat.ne_of_gt (InC.of ‹_ ∧ _› ?_); (repeat (first | exact .hd | exact .last | refine .tl ?_)); done) | exact Nat.ne_of_lt (Nat.lt_trans ‹_› ‹_›) | exact Nat.ne_of_gt (Nat.lt_trans ‹_› ‹_›) | omega, x_ga⟩) (List.forall_mem_cons.mpr ⟨by show @Ne Nat _ _; dsimp only; first | exact Nat.ne_of_lt ‹_› | exact Nat.ne_of_gt ‹_› | (refine Nat.ne_of_lt (InC.of ‹_ ∧ _› ?_); (repeat (first | exact .hd | exact .last | refine .tl ?_)); done) | (refine Nat.ne_of_gt (InC.of ‹_ ∧ _› ?_); (repeat (first | exact .hd | exact .last | refine .tl ?_)); done) | exact Nat.ne_of_lt (Nat.lt_trans ‹_› ‹_›) | exact Nat.ne_of_gt (Nat.lt_trans ‹_› ‹_›) | omega, x_ha⟩) (List.forall_mem_cons.mpr ⟨by show @Ne Nat _ _; dsimp only; first | exact Nat.ne_of_lt ‹_› | exact Nat.ne_of_gt ‹_› | (refine Nat.ne_of_lt (InC.of ‹_ ∧ _› ?_); (repeat (first | exact .hd | exact .last | refine .tl ?_)); done) | (refine Nat.ne_of_gt (InC.of ‹_ ∧ _› ?_); (repeat (first | exact .hd | exact .last | refine .tl ?_)); done) | exact Nat.ne_of_lt (Nat.lt_trans ‹_› ‹_›) | exact Nat.ne_of_gt (Nat.lt_trans ‹_› ‹_›) | omega, x_hd⟩) (List.forall_mem_cons.mpr ⟨by show @Ne Nat _ _; dsimp only; first | exact Nat.ne_of_lt ‹_› | exact Nat.ne_of_gt ‹_› | (refine Nat.ne_of_lt (InC.of ‹_ ∧ _› ?_); (repeat (first | exact .hd | exact .last | refine .tl ?_)); done) | (refine Nat.ne_of_gt (InC.of ‹_ ∧ _› ?_); (repeat (first | exact .hd | exact .last | refine .tl ?_)); done) | exact Nat.ne_of_lt (Nat.lt_trans ‹_› ‹_›) | exact Nat.ne_of_gt (Nat.lt_trans ‹_› ‹_›) | omega, x_la⟩), fun q hq => .tail _ (hX0 q hq), .snoc (hG.mono fun _ _ e => .tail _ e) (TupS.is (.head _)), nd, hg, hf⟩
    · k_steps
      have oS : TupS (HS g) oa (Value.str x t :: l') := oT
      rcases mrun_ord hr ho no with ⟨gl', h', hdo, hr'⟩ | ⟨hdo, hcase⟩
      · rename News _ _ _ _ => N
        refine use_oc (own := MN w wa wd sa ga t1 t2 t3 t4 fv vs gs n1 n2 ha hd r1 r2 r3 la lb ln pm ctv lc) (rest := XX) (do_con w wa wd sa ga t1 t2 t3 t4 fv vs gs n1 n2 ha hd r1 r2 r3 la lb ln pm ctv lc nd hz hg hf hzg (.ref oa) o hko gl gl' h' hG.length hdo) (by exact hh) (by show A.depth + _ < _; first | exact dl0 ‹_› (by decide) | exact dh ‹_› ‹_› (by decide) | exact dh0 ‹_› ‹_› (by decide) | exact dhs ‹_› ‹_› (by decide) | exact dm0 ‹_› ‹_› (by decide) | exact dl3 ‹_› (by decide) | exact dlt2 ‹_› (by decide) | omega) (by show A.units + _ < _; first | exact dl0 ‹_› (by decide) | exact dh ‹_› ‹_› (by decide) | exact dh0 ‹_› ‹_› (by decide) | exact dhs ‹_› ‹_› (by decide) | exact dm0 ‹_› ‹_› (by decide) | exact dl3 ‹_› (by decide) | exact dlt2 ‹_› (by decide) | omega) X T (by assumption) N ap (fun st hrest => ⟨⟨oa, _, rfl, oS.mono (fun _ _ e => st _ _ e), oI⟩, hcode _ st (fun q hq => hrest q (hX0 q hq))⟩) ?_
        intro PQ
        clear N
        rintro v1 h1 tk1 own1 F1 N1 ap1 ⟨gs2, hrel, rfl, sb, m1, m2, fv2, vs2, nd2, hf2, hg2, rfl, rfl⟩
        try dsimp only [WN, HN, MN, List.cons_append, List.nil_append] at N1
        obtain ⟨n', hn', hz2, hzg2⟩ := mrun_room hr'
        k_steps
        rename News _ _ _ _ => N
        rename Fr _ _ _ _ => F
        rw [turn_map, max_len] at F
        exact WPost.next (n' := n) (Nat.lt_succ_self _) F N ⟨p + 1, gl', max most vs2.length, sb, m1, m2, fv2, vs2, gs2, XX, _, _, vh, hr', rfl, rfl, ap1, hX0, hG.rel hrel, nd2, hg2, hf2⟩
      · rename News _ _ _ _ => N
        refine use_oc (own := MN w wa wd sa ga t1 t2 t3 t4 fv vs gs n1 n2 ha hd r1 r2 r3 la lb ln pm ctv lc) (rest := XX) (do_fail w wa wd sa ga t1 t2 t3 t4 fv vs gs n1 n2 ha hd r1 r2 r3 la lb ln pm ctv lc nd hz hg hf (.ref oa) o gl hdo) (by exact hh) (by show A.depth + _ < _; first | exact dl0 ‹_› (by decide) | exact dh ‹_› ‹_› (by decide) | exact dh0 ‹_› ‹_› (by decide) | exact dhs ‹_› ‹_› (by decide) | exact dm0 ‹_› ‹_› (by decide) | exact dl3 ‹_› (by decide) | exact dlt2 ‹_› (by decide) | omega) (by show A.units + _ < _; first | exact dl0 ‹_› (by decide) | exact dh ‹_› ‹_› (by decide) | exact dh0 ‹_› ‹_› (by decide) | exact dhs ‹_› ‹_› (by decide) | exact dm0 ‹_› ‹_› (by decide) | exact dl3 ‹_› (by decide) | exact dlt2 ‹_› (by decide) | omega) X T (by assumption) N ap (fun st hrest => ⟨⟨oa, _, rfl, oS.mono (fun _ _ e => st _ _ e), oI⟩, hcode _ st (fun q hq => hrest q (hX0 q hq))⟩) ?_
        intro PQ
        clear N
        rintro v1 h1 tk1 own1 F1 N1 ap1 ⟨rfl, rfl⟩
        try dsimp only [WN, HN, MN, List.cons_append, List.nil_append] at N1
        k_steps
        rename News _ _ _ _ => N
        obtain ⟨ds, as, hrd, hcl, hdl, hel⟩ := gds_reads (hG.mono fun a o e => (N (a, o) (by simp only [List.mem_cons]; simp only [show (a, o) ∈ XX from e, or_true])).1)
        refine ne_dataH (reads_list_at (News.get (by assumption) (by k_mem)) rfl rfl (by simpa using hrd)) (reads_list_at (News.get (by assumption) (by k_mem)) rfl rfl (by repeat constructor)) ?_ (by kernel_rfl!) (by omega) ?_
        · unfold SeqAt.shaped PyData.canLay0; rw [hcl, Bool.true_and]; exact decide_eq_true (by simp only [PyData.depth]; omega)
        rcases hcase with ⟨rfl, rfl⟩ | ⟨p2, h2, gl2, rfl, hle, hr2⟩
        · have e0 : gs = [] := List.eq_nil_of_length_eq_zero hG.length.symm
          subst e0
          have e1 : ds = [] := List.eq_nil_of_length_eq_zero hel
          subst e1
          have e2 : (!PyData.eqv (.list []) (.list [])) = false := by kernel_rfl!
          rw [e2]
          k_steps
          dsimp only
          exact k2 _ _ _ _ _ (by assumption) (by assumption) (fun q hq => by simp only [List.mem_cons]; simp only [hX0 q hq, or_true])
        · obtain ⟨us, a0, tp, th, rfl, hG2, hT0⟩ := hG.inv
          have e2 : (!PyData.eqv (.list ds) (.list [])) = true := by
            cases ds with
            | nil => simp at hel
            | cons b r => simp [PyData.eqv, PyData.eqvAll]
          rw [e2]
          obtain ⟨us1, xs1, rfl, hu1⟩ := split_at vs h2 hle
          replace N := tail_news N
          simp only [List.length_append, List.length_cons, List.length_nil] at hz hzg
          subst hu1
          k_steps
          refine kl_pop (by k_asm) (by k_asm) (p := us) (y := .ref a0) (last_snoc us _) (by k_upd) (by simp only [List.length_append, List.length_cons, List.length_nil, sizeLine_eq]; omega) ?_
          intro h3 F3 N3
          dsimp only
          refine unpackN_ F3 N3 (hT0.mono fun a o e => (N3 (a, o) (by simp only [List.mem_cons]; simp only [show (a, o) ∈ XX from e, or_true])).1).heap (by assumption) rfl rfl ?_
          intro h4 F4 N4
          k_steps
          rename News _ _ _ _ => N
          rename Fr _ _ _ _ => F
          rename _ ∧ _ => l1
          obtain ⟨l_wa, l_wd, l_sa, l_ga, l_ha, l_hd, l_la, l_X⟩ := l1
          rw [turn_map2, max_len] at F
          exact WPost.next (n' := n) (Nat.lt_succ_self _) F (news_sw N) ⟨p2, gl2, max most us1.length, _, 0, n2 + 1, fv, us1, us, XX, _, _, _, hr2, rfl, rfl, apart_MN x_wa x_wd (allLt_ne l_X) x_ga x_ha x_hd x_la, hX0, hG2, dist_new nd ⟨n4.1, Nat.ne_of_lt l_wa, n4.2.2.1, Nat.ne_of_lt l_wd, n4.2.2.2.2.1, Nat.ne_of_gt l_ga⟩ ⟨Nat.ne_of_lt l_ha, Nat.ne_of_lt l_hd, Nat.ne_of_lt l_la⟩, fun v hv => hg v (List.mem_append_left _ hv), hf⟩
end
section
local macro_rules | `(tactic| walk_at "unpackItems ref") => `(tactic| (k_dflt (refine unpackItemsN_ (by k_asm) (by k_asm) (by kun_tup) (by assumption) (by rfl) ?_); intro _ _ _; (try k_sweep)))
section
set_option maxHeartbeats 0
set_option rowWalk.seconds 0

/-- the same of a call's code -/
noncomputable def OConC (w : World) (f : Addr) (args : Args) (own : List (Addr × Obj)) (d u : Nat) (Pre : Heap → Prop) (Post : Value → List (Addr × Obj) → Prop) : Prop :=
  ∀ (A : Around) (s : Shared) (R : Result → Shared → Prop), A.handled = none → A.depth + d < recursionLimit → A.units + u < cLine → Gd w (hideAll s.heap (ads own)) → (∀ p ∈ own, s.heap.get? p.1 = some p.2) → Pre (hideAll s.heap (ads own)) →
    (∀ v h' tk own', StB (ads own) s.heap h' → (∀ p ∈ own', h'.get? p.1 = some p.2 ∧ (hideAll s.heap (ads own)).get? p.1 = none) → Post v own' → R (.ok (.ret v)) { s with heap := h', toks := tk }) →
    codeAny (model PG w) A (.call (.ref f) args) R s
theorem use_occ {w : World} {A : Around} {s : Shared} {R : Result → Shared → Prop} {f : Addr} {args : Args} {own rest : List (Addr × Obj)} {d u : Nat} {Pre : Heap → Prop} {Post : Value → List (Addr × Obj) → Prop}
    {g : Heap} {L : Addr} {m : Str → Option Value} {loose : List Str} {mean : ExcName → Option Value} {mg mb : Str → Option Value} (C : OConC w f args own d u Pre Post) (hh : A.handled = none) (hd : A.depth + d < recursionLimit) (hu : A.units + u < cLine) (X : (K w.params).In g) (T : Top topProg loose mean mg mb g)
    (F : Fr g L s.heap m) (N : News g L s.heap (own ++ rest)) (off : Apart own rest) (pre : StA g (hideAll s.heap (ads own)) → (∀ p ∈ rest, (hideAll s.heap (ads own)).get? p.1 = some p.2) → Pre (hideAll s.heap (ads own)))
    (k : ∀ v h' tk own', Fr g L h' m → News g L h' (own' ++ rest) → Apart own' rest → Post v own' → R (.ok (.ret v)) { s with heap := h', toks := tk }) :
    codeAny (model PG w) A (.call (.ref f) args) R s := by
  have st := own_base F N
  have ra : ∀ q ∈ rest, q.1 ∉ ads own := fun q hq hm => by
    obtain ⟨p, hp, e⟩ := List.mem_map.mp hm
    exact off p hp q hq e
  refine C A s R hh hd hu ⟨X.keeps st, _, _, _, _, T.keeps st⟩ (fun p hp => (N p (List.mem_append_left _ hp)).1) (pre st fun q hq => hideAll_get _ (N q (List.mem_append_right _ hq)).1 (ra q hq)) fun v h' tk own' sb ho po => ?_
  have nL : L ∉ ads own := fun hm => by
    obtain ⟨p, hp, e⟩ := List.mem_map.mp hm
    exact (N p (List.mem_append_left _ hp)).2.1 e
  have hLs : ∃ o, (hideAll s.heap (ads own)).get? L = some o := by
    obtain ⟨o, _, _, e, _⟩ := F.ns
    exact ⟨o, hideAll_get _ e nL⟩
  have F' : Fr g L h' m := ⟨F.ns.at' fun o e => sb _ _ nL e, fun b o e => sb _ _ (fun hm => by
      obtain ⟨p, hp, rfl⟩ := List.mem_map.mp hm
      have := (N p (List.mem_append_left _ hp)).2.2
      rw [this] at e; cases e) (F.keep b o e), F.above⟩
  refine k v h' tk own' F' (fun p hp => ?_) (fun p hp q hq e => ?_) po
  · rcases List.mem_append.mp hp with hp | hp
    · refine ⟨(ho p hp).1, fun e => ?_, ?_⟩
      · obtain ⟨o, ho'⟩ := hLs
        have := (ho p hp).2
        rw [e, ho'] at this; cases this
      · cases q : g.get? p.1 with
        | none => rfl
        | some o => have := st _ _ q; rw [(ho p hp).2] at this; cases this
    · exact ⟨sb _ _ (ra p hp) (N p (List.mem_append_right _ hp)).1, (N p (List.mem_append_right _ hp)).2⟩
  · have h1 := hideAll_get _ (N q (List.mem_append_right _ hq)).1 (ra q hq)
    have h2 := (ho p hp).2
    rw [e, h1] at h2; cases h2
theorem news_pick {g h : Heap} {L : Addr} {a b c d : Addr × Obj} (N : News g L h [b, a, c, d]) : News g L h [c, d, a, b] := Mine.News.sub N (by lcg_sub)
inductive WorkI (w : World) (wa wd : Addr) (own' : List (Addr × Obj)) : Prop
  | mk (sa ga : Addr) (t1 t2 t3 t4 : Tok) (n1 n2 : Nat) (d4 : Dist4 wa wd sa ga) (eo : own' = WN w wa wd sa ga t1 t2 t3 t4 .none .none [] [] n1 n2)
inductive HookI (w : World) (ha hd : Addr) (v1 v2 : Value) (own' : List (Addr × Obj)) : Prop
  | mk (ln : Value) (t1 t2 t3 : Tok) (eo : own' = [(ha, instObj 327 hd), (hd, dictOf [en w.params "replies" t1 v1, en w.params "labels" t2 v2, en w.params "notes" t3 ln] 3)])
theorem work_init (w : World) (wa wd : Addr) (ne : @Ne Nat wa wd) : OConC w 156 ⟨[.ref wa], []⟩ [(wa, instObj 180 wd), (wd, dictOf [] 0)] 2 100 (fun _ => True) (fun v own' => v = .none ∧ WorkI w wa wd own') := by
  intro A s R hh hd hu G h1 _ hret
  refine (enter (as := ads ([(wa, instObj 180 wd), (wd, dictOf [] 0)])) (news := [(wa, instObj 180 wd), (wd, dictOf [] 0)]) (binds := [(ss "self", .ref wa)]) G (own_news h1) (by k_is) (by k_is) (lt0 (by assumption)) (BindsTo.of_eq rfl) (locs rfl) rfl rfl rfl (by decide) ?_)
  intro L h₁ F N
  have hsb : ∀ h', StA (hideAll s.heap (ads ([(wa, instObj 180 wd), (wd, dictOf [] 0)]))) h' → StB (ads ([(wa, instObj 180 wd), (wd, dictOf [] 0)])) s.heap h' := fun _ k => stB_of k
  generalize hideAll s.heap (ads ([(wa, instObj 180 wd), (wd, dictOf [] 0)])) = g at *
  have X := G.K
  obtain ⟨_, _, _, _, _, T⟩ := G
  generalize hB : bodyS (inS 17 0) = B
  conv at hB => lhs; whnf
  subst hB
  generalize hS : scoS (inS 17 0) = S
  conv at hS => lhs; whnf
  subst hS
  try dsimp only
  k_steps
  try dsimp only
  rename News _ _ _ _ => N
  exact hret _ _ _ _ (hsb _ (Fr.keep (by assumption))) (own_endg (news_pick N)) ⟨rfl, _, _, _, _, _, _, _, _, by unfold Dist4; refine ⟨?_, ?_, ?_, ?_, ?_, ?_⟩ <;> first | exact Nat.ne_of_lt ‹_› | exact Nat.ne_of_gt ‹_› | (refine Nat.ne_of_lt (InC.of ‹_ ∧ _› ?_); (repeat (first | exact .hd | exact .last | refine .tl ?_)); done) | (refine Nat.ne_of_gt (InC.of ‹_ ∧ _› ?_); (repeat (first | exact .hd | exact .last | refine .tl ?_)); done) | exact Nat.ne_of_lt (Nat.lt_trans ‹_› ‹_›) | exact Nat.ne_of_gt (Nat.lt_trans ‹_› ‹_›) | omega, rfl⟩
theorem hook_init (w : World) (ha hd : Addr) (v1 v2 : Value) (ne : @Ne Nat ha hd) : OConC w 198 ⟨[.ref ha, v1, v2], []⟩ [(ha, instObj 327 hd), (hd, dictOf [] 0)] 2 100 (fun _ => True) (fun v own' => v = .none ∧ HookI w ha hd v1 v2 own') := by
  intro A s R hh hdp hu G h1 _ hret
  refine (enter (as := ads ([(ha, instObj 327 hd), (hd, dictOf [] 0)])) (news := [(ha, instObj 327 hd), (hd, dictOf [] 0)]) (binds := [(ss "self", .ref ha), (ss "replies", v1), (ss "labels", v2)]) G (own_news h1) (by k_is) (by k_is) (lt0 (by assumption)) (BindsTo.of_eq rfl) (locs rfl) rfl rfl rfl (by decide) ?_)
  intro L h₁ F N
  have hsb : ∀ h', StA (hideAll s.heap (ads ([(ha, instObj 327 hd), (hd, dictOf [] 0)]))) h' → StB (ads ([(ha, instObj 327 hd), (hd, dictOf [] 0)])) s.heap h' := fun _ k => stB_of k
  generalize hideAll s.heap (ads ([(ha, instObj 327 hd), (hd, dictOf [] 0)])) = g at *
  have X := G.K
  obtain ⟨_, _, _, _, _, T⟩ := G
  generalize hB : bodyS (inS 18 0) = B
  conv at hB => lhs; whnf
  subst hB
  generalize hS : scoS (inS 18 0) = S
  conv at hS => lhs; whnf
  subst hS
  try dsimp only
  k_steps
  try dsimp only
  rename News _ _ _ _ => N
  exact hret _ _ _ _ (hsb _ (Fr.keep (by assumption))) (own_endg (tail_news N)) ⟨rfl, _, _, _, _, rfl⟩
local macro_rules | `(tactic| walk_at "exec While") => `(tactic| walk_at "call ref")
/-- the table of the climb's code, once the lambda stands in it -/
noncomputable abbrev tabL (lc : Addr) : Array Value := #[] ++ #[rawInt lamX.2.2.2.line, rawInt lamX.2.2.2.col, .ref lc]
theorem first_map {a wa ha : Addr} {vm va : Option Value} : (fun y => if y = PySem.Str.ofString "at" then va else if y = PySem.Str.ofString "most" then vm else if y = PySem.Str.ofString "work" then some (.ref wa) else if y = PySem.Str.ofString "hooks" then some (.ref ha) else List.lookup y [(ss "orders", Value.ref a)].reverse) = C6 a wa ha vm va none := by
  have n1 : ss "at" ≠ ss "most" := by decide +kernel
  have n2 : ss "work" ≠ ss "most" := by decide +kernel
  have n3 : ss "work" ≠ ss "at" := by decide +kernel
  have n4 : ss "work" ≠ ss "height" := by decide +kernel
  have n5 : ss "work" ≠ ss "hooks" := by decide +kernel
  have n6 : ss "hooks" ≠ ss "height" := by decide +kernel
  have n7 : ss "hooks" ≠ ss "at" := by decide +kernel
  have n8 : ss "hooks" ≠ ss "most" := by decide +kernel
  have n9 : ss "height" ≠ ss "orders" := by decide +kernel
  have n10 : ss "height" ≠ ss "most" := by decide +kernel
  have n11 : ss "height" ≠ ss "at" := by decide +kernel
  have n12 : ss "height" ≠ ss "work" := by decide +kernel
  have n13 : ss "height" ≠ ss "hooks" := by decide +kernel
  have lk : ∀ y : Str, List.lookup y [(ss "orders", Value.ref a)].reverse = if y = ss "orders" then some (.ref a) else none := by
    intro y
    by_cases h : y = ss "orders"
    · subst h; simp [List.lookup]
    · have h' : (y == ss "orders") = false := by simp [h]
      simp [List.lookup, h', h]
  funext y
  rw [lk]
  unfold C6
  by_cases h1 : y = ss "at"
  · subst h1; simp only [if_pos, if_neg n1]
  rw [if_neg h1]
  by_cases h2 : y = ss "most"
  · subst h2; simp only [if_pos]
  rw [if_neg h2, if_neg h2, if_neg h1]
  by_cases h3 : y = ss "work"
  · subst h3; rw [if_pos rfl, if_neg n4, if_neg n5, if_pos rfl]
  rw [if_neg h3]
  by_cases h4 : y = ss "hooks"
  · subst h4; rw [if_pos rfl, if_neg n6, if_pos rfl]
  rw [if_neg h4]
  by_cases h5 : y = ss "height"
  · subst h5; rw [if_neg n9, if_pos rfl]
  rw [if_neg h5, if_neg h4, if_neg h3]
theorem climb_miss (w : World) (os : List Ord) (a : Addr) (r n : Nat) (hr : mrun os n 0 [] 0 0 = some r) (hok : ∀ o ∈ os, o.okay) (hlen : os.length ≤ 100000) :
    OCon w 395 [.ref a] [(390, tabObj #[])] 60 6000 (fun h => CodeHd h 394 390 ∧ ∃ vl, h.IsList a vl.toArray ∧ OrdsS (HS h) vl os)
      (fun v own' => ∃ t lc oc vs tq, v = .int (r : Nat) t ∧ own' = [(390, tabObj (tabL lc)), (lc, oc)] ∧ oc.data = .fields vs ∧ vs[1]? = some (.str lamQ tq) ∧ @Ne Nat lc 390) := by
  refine OCon.of fun A s Q E g hh hdp hu hgg G h1 hp hret => ?_
  obtain ⟨hC, vl, hT, q⟩ := hp
  refine enterO (own := [(390, tabObj #[])]) (binds := [(ss "orders", .ref a)]) hgg G h1 hret (B := ?B) (S := ?S) ?hB ?hS (by k_is) (by k_is) (lt0 (by assumption)) (BindsTo.of_eq rfl) (locs rfl) rfl rfl rfl (by decide) ?_
  case hB => conv => lhs; whnf
  case hS => conv => lhs; whnf
  have X := G.K
  clear hret G hgg h1
  intro s1 Q1 L loose mean mg mb T F N hret _
  k_steps
  refine Stop.of (call_cls (by k_asm) X (by k_asm) (by k_is) (by k_is) (by k_is) ?_)
  intro wa wd h1 F1 N1 l1 l2
  have hp1 : @LT.lt Nat _ 390 wd := l1 _ (.head _)
  have hp2 : @LT.lt Nat _ wd wa := l2
  refine use_occ (own := [(wa, instObj 180 wd), (wd, dictOf [] 0)]) (rest := [(390, tabObj #[])]) (work_init w wa wd (Nat.ne_of_gt l2)) (by exact hh) (by show A.depth + 1 + 1 + _ < _; first | exact dlt (by assumption) (by decide) | exact dlt1 (by assumption) (by decide) | exact dlt2 (by assumption) (by decide) | exact dh ‹_› ‹_› (by decide) | exact dh0 ‹_› ‹_› (by decide) | exact dhs ‹_› ‹_› (by decide) | exact dm0 ‹_› ‹_› (by decide) | exact dl3 ‹_› (by decide) | exact dlt2 ‹_› (by decide) | omega) (by show A.units + 3 + 1 + _ < _; first | exact dlt (by assumption) (by decide) | exact dlt1 (by assumption) (by decide) | exact dlt2 (by assumption) (by decide) | exact dh ‹_› ‹_› (by decide) | exact dh0 ‹_› ‹_› (by decide) | exact dhs ‹_› ‹_› (by decide) | exact dm0 ‹_› ‹_› (by decide) | exact dl3 ‹_› (by decide) | exact dlt2 ‹_› (by decide) | omega) X T F1 N1 (by first | assumption | exact Apart.symm (by assumption) | exact Dist7.apart (by assumption) | exact Apart.symm (Dist7.apart (by assumption)) | repeat (first | exact Apart.nil_left | refine Apart.cons (by k_all) ?_)) (fun _ _ => trivial) ?_
  clear F1 N1 F N
  rintro v1 h2 tk1 own1 F1 N1 ap1 ⟨rfl, sa, ga, t1, t2, t3, t4, n1, n2, nd4, rfl⟩
  refine ⟨rfl, ?_⟩
  dsimp only [WN, HN, MN, List.cons_append, List.nil_append] at N1
  have hp3 : @Ne Nat 390 sa := Ne.symm (ap1 _ (.tail _ (.tail _ (.head _))) _ (.head _))
  have hp4 : @Ne Nat 390 ga := Ne.symm (ap1 _ (.tail _ (.tail _ (.tail _ (.head _)))) _ (.head _))
  have hp5 : @Ne Nat 390 wd := Nat.ne_of_lt hp1
  have hp6 : @Ne Nat 390 wa := by omega
  dsimp only
  k_steps
  rename_i f c oc ovs ot ctv h9 tk9 od1 od2 ol1 ol2 dd h8 oo FF NN lo hs fs hi fi ol3
  refine Stop.of (call_cls (by k_asm) X (by k_asm) (by k_is) (by k_is) (by k_is) ?_)
  intro ha hd h3 F3 N3 l3 l4
  refine use_occ (own := [(ha, instObj 327 hd), (hd, dictOf [] 0)]) (hook_init w ha hd (.ref f) (.ref dd) (Nat.ne_of_gt l4)) (by exact hh) (by show A.depth + 1 + 1 + _ < _; first | exact dlt (by assumption) (by decide) | exact dlt1 (by assumption) (by decide) | exact dlt2 (by assumption) (by decide) | exact dh ‹_› ‹_› (by decide) | exact dh0 ‹_› ‹_› (by decide) | exact dhs ‹_› ‹_› (by decide) | exact dm0 ‹_› ‹_› (by decide) | exact dl3 ‹_› (by decide) | exact dlt2 ‹_› (by decide) | omega) (by show A.units + 3 + 1 + _ < _; first | exact dlt (by assumption) (by decide) | exact dlt1 (by assumption) (by decide) | exact dlt2 (by assumption) (by decide) | exact dh ‹_› ‹_› (by decide) | exact dh0 ‹_› ‹_› (by decide) | exact dhs ‹_› ‹_› (by decide) | exact dm0 ‹_› ‹_› (by decide) | exact dl3 ‹_› (by decide) | exact dlt2 ‹_› (by decide) | omega) X T F3 N3 (Apart.cons (fun q hq => Nat.ne_of_lt (Nat.lt_trans (l3 q hq) l4)) (Apart.cons (fun q hq => Nat.ne_of_lt (l3 q hq)) Apart.nil_left)) (fun _ _ => trivial) ?_
  clear F3 N3 FF NN
  rintro v4 h4 tk4 own4 F4 N4 ap4 ⟨rfl, ln, u1, u2, u3, rfl⟩
  refine ⟨rfl, ?_⟩
  dsimp only [List.cons_append, List.nil_append] at N4
  dsimp only
  k_steps
  rename News _ _ _ _ => N
  rename Fr _ _ _ _ => F
  rw [first_map] at F
  have eq := od2.trans (congrArg (fun q => some (Value.str q ot)) (show _ = lamQ by kernel_rfl!))
  obtain ⟨b1, b2, b3, b4, b5⟩ := ol1
  have b6 : @LT.lt Nat _ c hd := l3 (c, oc) (by k_mem)
  have b7 : @LT.lt Nat _ f hd := l3 (f, _) (.tail _ (.head _))
  have b8 : @LT.lt Nat _ c f := ol2
  have b9 : @LT.lt Nat _ hd ha := l4
  have nd7 : Dist7 wa wd sa ga ha hd f := dist7_lt nd4 (by first | assumption | exact Nat.lt_trans ‹_› ‹_› | exact Nat.ne_of_lt ‹_› | exact Nat.ne_of_gt ‹_› | (refine Nat.ne_of_lt (InC.of ‹_ ∧ _› ?_); (repeat (first | exact .hd | exact .last | refine .tl ?_)); done) | (refine Nat.ne_of_gt (InC.of ‹_ ∧ _› ?_); (repeat (first | exact .hd | exact .last | refine .tl ?_)); done) | exact Nat.ne_of_lt (Nat.lt_trans ‹_› ‹_›) | exact Nat.ne_of_gt (Nat.lt_trans ‹_› ‹_›) | omega) (by first | assumption | exact Nat.lt_trans ‹_› ‹_› | exact Nat.ne_of_lt ‹_› | exact Nat.ne_of_gt ‹_› | (refine Nat.ne_of_lt (InC.of ‹_ ∧ _› ?_); (repeat (first | exact .hd | exact .last | refine .tl ?_)); done) | (refine Nat.ne_of_gt (InC.of ‹_ ∧ _› ?_); (repeat (first | exact .hd | exact .last | refine .tl ?_)); done) | exact Nat.ne_of_lt (Nat.lt_trans ‹_› ‹_›) | exact Nat.ne_of_gt (Nat.lt_trans ‹_› ‹_›) | omega) (by first | assumption | exact Nat.lt_trans ‹_› ‹_› | exact Nat.ne_of_lt ‹_› | exact Nat.ne_of_gt ‹_› | (refine Nat.ne_of_lt (InC.of ‹_ ∧ _› ?_); (repeat (first | exact .hd | exact .last | refine .tl ?_)); done) | (refine Nat.ne_of_gt (InC.of ‹_ ∧ _› ?_); (repeat (first | exact .hd | exact .last | refine .tl ?_)); done) | exact Nat.ne_of_lt (Nat.lt_trans ‹_› ‹_›) | exact Nat.ne_of_gt (Nat.lt_trans ‹_› ‹_›) | omega) (by first | assumption | exact Nat.lt_trans ‹_› ‹_› | exact Nat.ne_of_lt ‹_› | exact Nat.ne_of_gt ‹_› | (refine Nat.ne_of_lt (InC.of ‹_ ∧ _› ?_); (repeat (first | exact .hd | exact .last | refine .tl ?_)); done) | (refine Nat.ne_of_gt (InC.of ‹_ ∧ _› ?_); (repeat (first | exact .hd | exact .last | refine .tl ?_)); done) | exact Nat.ne_of_lt (Nat.lt_trans ‹_› ‹_›) | exact Nat.ne_of_gt (Nat.lt_trans ‹_› ‹_›) | omega) (by first | assumption | exact Nat.lt_trans ‹_› ‹_› | exact Nat.ne_of_lt ‹_› | exact Nat.ne_of_gt ‹_› | (refine Nat.ne_of_lt (InC.of ‹_ ∧ _› ?_); (repeat (first | exact .hd | exact .last | refine .tl ?_)); done) | (refine Nat.ne_of_gt (InC.of ‹_ ∧ _› ?_); (repeat (first | exact .hd | exact .last | refine .tl ?_)); done) | exact Nat.ne_of_lt (Nat.lt_trans ‹_› ‹_›) | exact Nat.ne_of_gt (Nat.lt_trans ‹_› ‹_›) | omega) (by first | assumption | exact Nat.lt_trans ‹_› ‹_› | exact Nat.ne_of_lt ‹_› | exact Nat.ne_of_gt ‹_› | (refine Nat.ne_of_lt (InC.of ‹_ ∧ _› ?_); (repeat (first | exact .hd | exact .last | refine .tl ?_)); done) | (refine Nat.ne_of_gt (InC.of ‹_ ∧ _› ?_); (repeat (first | exact .hd | exact .last | refine .tl ?_)); done) | exact Nat.ne_of_lt (Nat.lt_trans ‹_› ‹_›) | exact Nat.ne_of_gt (Nat.lt_trans ‹_› ‹_›) | omega)
  refine Stop.of (climb_loop w os r a wa wd ga t1 t2 t3 t4 ha hd u1 u2 u3 f (.ref dd) ln _ ctv c [(390, tabObj (tabL c)), (c, oc)] (by exact hh) (by show A.depth + 1 + _ < _; first | exact dlt (by assumption) (by decide) | exact dlt1 (by assumption) (by decide) | exact dlt2 (by assumption) (by decide) | exact dh ‹_› ‹_› (by decide) | exact dh0 ‹_› ‹_› (by decide) | exact dhs ‹_› ‹_› (by decide) | exact dm0 ‹_› ‹_› (by decide) | exact dl3 ‹_› (by decide) | exact dlt2 ‹_› (by decide) | omega) (by show A.units + 3 + _ < _; first | exact dlt (by assumption) (by decide) | exact dlt1 (by assumption) (by decide) | exact dlt2 (by assumption) (by decide) | exact dh ‹_› ‹_› (by decide) | exact dh0 ‹_› ‹_› (by decide) | exact dhs ‹_› ‹_› (by decide) | exact dm0 ‹_› ‹_› (by decide) | exact dl3 ‹_› (by decide) | exact dlt2 ‹_› (by decide) | omega) X T hT q hok hlen
    (fun H _ hx => ⟨c, oc, ovs, ot, rfl, hx (c, oc) (.tail _ (.head _)), od1, eq⟩) F (Mine.News.sub N (by dsimp only [MN, List.cons_append, List.nil_append]; lcg_sub)) ⟨0, [], 0, sa, n1, n2, .none, [], [], _, _, _, none, hr, rfl, rfl, apart_MN (by k_all) (by k_all) (by k_all) (by k_all) (by k_all) (by k_all) (by k_all), fun q h => h, .nil, nd7, GoodV.nil, .inl rfl⟩ ?_ ?_)
  · intro h' tk tm va vh nx F N hx
    dsimp only
    k_steps
    exact hret _ _ _ [(390, tabObj (tabL c)), (c, oc)] (Fr.keep (by assumption)) (own_endg (Mine.News.sub (by assumption) hx)) ⟨_, _, oc, ovs, ot, rfl, rfl, od1, eq, Nat.ne_of_gt b5⟩
  · intro h' tk tm m nx F N hx
    dsimp only
    exact hret _ _ _ [(390, tabObj (tabL c)), (c, oc)] F.keep (own_endg (Mine.News.sub N hx)) ⟨_, _, oc, ovs, ot, rfl, rfl, od1, eq, Nat.ne_of_gt b5⟩
end
section
local macro_rules | `(tactic| walk_at "dummy") => `(tactic| skip)
set_option maxHeartbeats 0
set_option rowWalk.seconds 0

local macro_rules | `(tactic| walk_at "exec While") => `(tactic| walk_at "call ref")
theorem climb_hit (w : World) (os : List Ord) (a : Addr) (r n : Nat) (hr : mrun os n 0 [] 0 0 = some r) (hok : ∀ o ∈ os, o.okay) (c : Addr) (hlen : os.length ≤ 100000) :
    OCon w 395 [.ref a] [(390, tabObj (tabL c))] 60 6000 (fun h => CodeHd h 394 390 ∧ h.CodeRec (.ref c) lamQ ∧ ∃ vl, h.IsList a vl.toArray ∧ OrdsS (HS h) vl os)
      (fun v own' => ∃ t, v = .int (r : Nat) t ∧ own' = [(390, tabObj (tabL c))]) := by
  refine OCon.of fun A s Q E g hh hdp hu hgg G h1 hp hret => ?_
  obtain ⟨hC, hcr, vl, hT, q⟩ := hp
  refine enterO (own := [(390, tabObj (tabL c))]) (binds := [(ss "orders", .ref a)]) hgg G h1 hret (B := ?B) (S := ?S) ?hB ?hS (by k_is) (by k_is) (lt0 (by assumption)) (BindsTo.of_eq rfl) (locs rfl) rfl rfl rfl (by decide) ?_
  case hB => conv => lhs; whnf
  case hS => conv => lhs; whnf
  have X := G.K
  clear hret G hgg h1
  intro s1 Q1 L loose mean mg mb T F N hret _
  k_steps
  refine Stop.of (call_cls (by k_asm) X (by k_asm) (by k_is) (by k_is) (by k_is) ?_)
  intro wa wd h1 F1 N1 l1 l2
  have hp1 : @LT.lt Nat _ 390 wd := l1 _ (.head _)
  have hp2 : @LT.lt Nat _ wd wa := l2
  refine use_occ (own := [(wa, instObj 180 wd), (wd, dictOf [] 0)]) (rest := [(390, tabObj (tabL c))]) (work_init w wa wd (Nat.ne_of_gt l2)) (by exact hh) (by show A.depth + 1 + 1 + _ < _; first | exact dlt (by assumption) (by decide) | exact dlt1 (by assumption) (by decide) | exact dlt2 (by assumption) (by decide) | exact dh ‹_› ‹_› (by decide) | exact dh0 ‹_› ‹_› (by decide) | exact dhs ‹_› ‹_› (by decide) | exact dm0 ‹_› ‹_› (by decide) | exact dl3 ‹_› (by decide) | exact dlt2 ‹_› (by decide) | omega) (by show A.units + 3 + 1 + _ < _; first | exact dlt (by assumption) (by decide) | exact dlt1 (by assumption) (by decide) | exact dlt2 (by assumption) (by decide) | exact dh ‹_› ‹_› (by decide) | exact dh0 ‹_› ‹_› (by decide) | exact dhs ‹_› ‹_› (by decide) | exact dm0 ‹_› ‹_› (by decide) | exact dl3 ‹_› (by decide) | exact dlt2 ‹_› (by decide) | omega) X T F1 N1 (by first | assumption | exact Apart.symm (by assumption) | exact Dist7.apart (by assumption) | exact Apart.symm (Dist7.apart (by assumption)) | repeat (first | exact Apart.nil_left | refine Apart.cons (by k_all) ?_)) (fun _ _ => trivial) ?_
  clear F1 N1 F N
  rintro v1 h2 tk1 own1 F1 N1 ap1 ⟨rfl, sa, ga, t1, t2, t3, t4, n1, n2, nd4, rfl⟩
  refine ⟨rfl, ?_⟩
  dsimp only [WN, HN, MN, List.cons_append, List.nil_append] at N1
  have hp3 : @Ne Nat 390 sa := Ne.symm (ap1 _ (.tail _ (.tail _ (.head _))) _ (.head _))
  have hp4 : @Ne Nat 390 ga := Ne.symm (ap1 _ (.tail _ (.tail _ (.tail _ (.head _)))) _ (.head _))
  have hp5 : @Ne Nat 390 wd := Nat.ne_of_lt hp1
  have hp6 : @Ne Nat 390 wa := by omega
  dsimp only
  k_steps
  rename_i f ctv h9 tk9 ol1 dd h8 oo FF NN lo hs fs hi fi ol3
  refine Stop.of (call_cls (by k_asm) X (by k_asm) (by k_is) (by k_is) (by k_is) ?_)
  intro ha hd h3 F3 N3 l3 l4
  refine use_occ (own := [(ha, instObj 327 hd), (hd, dictOf [] 0)]) (hook_init w ha hd (.ref f) (.ref dd) (Nat.ne_of_gt l4)) (by exact hh) (by show A.depth + 1 + 1 + _ < _; first | exact dlt (by assumption) (by decide) | exact dlt1 (by assumption) (by decide) | exact dlt2 (by assumption) (by decide) | exact dh ‹_› ‹_› (by decide) | exact dh0 ‹_› ‹_› (by decide) | exact dhs ‹_› ‹_› (by decide) | exact dm0 ‹_› ‹_› (by decide) | exact dl3 ‹_› (by decide) | exact dlt2 ‹_› (by decide) | omega) (by show A.units + 3 + 1 + _ < _; first | exact dlt (by assumption) (by decide) | exact dlt1 (by assumption) (by decide) | exact dlt2 (by assumption) (by decide) | exact dh ‹_› ‹_› (by decide) | exact dh0 ‹_› ‹_› (by decide) | exact dhs ‹_› ‹_› (by decide) | exact dm0 ‹_› ‹_› (by decide) | exact dl3 ‹_› (by decide) | exact dlt2 ‹_› (by decide) | omega) X T F3 N3 (Apart.cons (fun q hq => Nat.ne_of_lt (Nat.lt_trans (l3 q hq) l4)) (Apart.cons (fun q hq => Nat.ne_of_lt (l3 q hq)) Apart.nil_left)) (fun _ _ => trivial) ?_
  clear F3 N3 FF NN
  rintro v4 h4 tk4 own4 F4 N4 ap4 ⟨rfl, ln, u1, u2, u3, rfl⟩
  refine ⟨rfl, ?_⟩
  dsimp only [List.cons_append, List.nil_append] at N4
  dsimp only
  k_steps
  rename News _ _ _ _ => N
  rename Fr _ _ _ _ => F
  rw [first_map] at F
  obtain ⟨b1, b2, b3, b4, b5⟩ := ol1
  have b7 : @LT.lt Nat _ f hd := l3 (f, _) (.tail _ (.head _))
  have b9 : @LT.lt Nat _ hd ha := l4
  have nd7 : Dist7 wa wd sa ga ha hd f := dist7_lt nd4 (by first | assumption | exact Nat.lt_trans ‹_› ‹_› | exact Nat.ne_of_lt ‹_› | exact Nat.ne_of_gt ‹_› | (refine Nat.ne_of_lt (InC.of ‹_ ∧ _› ?_); (repeat (first | exact .hd | exact .last | refine .tl ?_)); done) | (refine Nat.ne_of_gt (InC.of ‹_ ∧ _› ?_); (repeat (first | exact .hd | exact .last | refine .tl ?_)); done) | exact Nat.ne_of_lt (Nat.lt_trans ‹_› ‹_›) | exact Nat.ne_of_gt (Nat.lt_trans ‹_› ‹_›) | omega) (by first | assumption | exact Nat.lt_trans ‹_› ‹_› | exact Nat.ne_of_lt ‹_› | exact Nat.ne_of_gt ‹_› | (refine Nat.ne_of_lt (InC.of ‹_ ∧ _› ?_); (repeat (first | exact .hd | exact .last | refine .tl ?_)); done) | (refine Nat.ne_of_gt (InC.of ‹_ ∧ _› ?_); (repeat (first | exact .hd | exact .last | refine .tl ?_)); done) | exact Nat.ne_of_lt (Nat.lt_trans ‹_› ‹_›) | exact Nat.ne_of_gt (Nat.lt_trans ‹_› ‹_›) | omega) (by first | assumption | exact Nat.lt_trans ‹_› ‹_› | exact Nat.ne_of_lt ‹_› | exact Nat.ne_of_gt ‹_› | (refine Nat.ne_of_lt (InC.of ‹_ ∧ _› ?_); (repeat (first | exact .hd | exact .last | refine .tl ?_)); done) | (refine Nat.ne_of_gt (InC.of ‹_ ∧ _› ?_); (repeat (first | exact .hd | exact .last | refine .tl ?_)); done) | exact Nat.ne_of_lt (Nat.lt_trans ‹_› ‹_›) | exact Nat.ne_of_gt (Nat.lt_trans ‹_› ‹_›) | omega) (by first | assumption | exact Nat.lt_trans ‹_› ‹_› | exact Nat.ne_of_lt ‹_› | exact Nat.ne_of_gt ‹_› | (refine Nat.ne_of_lt (InC.of ‹_ ∧ _› ?_); (repeat (first | exact .hd | exact .last | refine .tl ?_)); done) | (refine Nat.ne_of_gt (InC.of ‹_ ∧ _› ?_); (repeat (first | exact .hd | exact .last | refine .tl ?_)); done) | exact Nat.ne_of_lt (Nat.lt_trans ‹_› ‹_›) | exact Nat.ne_of_gt (Nat.lt_trans ‹_› ‹_›) | omega) (by first | assumption | exact Nat.lt_trans ‹_› ‹_› | exact Nat.ne_of_lt ‹_› | exact Nat.ne_of_gt ‹_› | (refine Nat.ne_of_lt (InC.of ‹_ ∧ _› ?_); (repeat (first | exact .hd | exact .last | refine .tl ?_)); done) | (refine Nat.ne_of_gt (InC.of ‹_ ∧ _› ?_); (repeat (first | exact .hd | exact .last | refine .tl ?_)); done) | exact Nat.ne_of_lt (Nat.lt_trans ‹_› ‹_›) | exact Nat.ne_of_gt (Nat.lt_trans ‹_› ‹_›) | omega) (by first | assumption | exact Nat.lt_trans ‹_› ‹_› | exact Nat.ne_of_lt ‹_› | exact Nat.ne_of_gt ‹_› | (refine Nat.ne_of_lt (InC.of ‹_ ∧ _› ?_); (repeat (first | exact .hd | exact .last | refine .tl ?_)); done) | (refine Nat.ne_of_gt (InC.of ‹_ ∧ _› ?_); (repeat (first | exact .hd | exact .last | refine .tl ?_)); done) | exact Nat.ne_of_lt (Nat.lt_trans ‹_› ‹_›) | exact Nat.ne_of_gt (Nat.lt_trans ‹_› ‹_›) | omega)
  refine Stop.of (climb_loop w os r a wa wd ga t1 t2 t3 t4 ha hd u1 u2 u3 f (.ref dd) ln _ ctv c [(390, tabObj (tabL c))] (by exact hh) (by show A.depth + 1 + _ < _; first | exact dlt (by assumption) (by decide) | exact dlt1 (by assumption) (by decide) | exact dlt2 (by assumption) (by decide) | exact dh ‹_› ‹_› (by decide) | exact dh0 ‹_› ‹_› (by decide) | exact dhs ‹_› ‹_› (by decide) | exact dm0 ‹_› ‹_› (by decide) | exact dl3 ‹_› (by decide) | exact dlt2 ‹_› (by decide) | omega) (by show A.units + 3 + _ < _; first | exact dlt (by assumption) (by decide) | exact dlt1 (by assumption) (by decide) | exact dlt2 (by assumption) (by decide) | exact dh ‹_› ‹_› (by decide) | exact dh0 ‹_› ‹_› (by decide) | exact dhs ‹_› ‹_› (by decide) | exact dm0 ‹_› ‹_› (by decide) | exact dl3 ‹_› (by decide) | exact dlt2 ‹_› (by decide) | omega) X T hT q hok hlen
    (fun H st _ => hcr.keeps st) F (Mine.News.sub N (by dsimp only [MN, List.cons_append, List.nil_append]; lcg_sub)) ⟨0, [], 0, sa, n1, n2, .none, [], [], _, _, _, none, hr, rfl, rfl, apart_MN (by k_all) (by k_all) (by k_all) (by k_all) (by k_all) (by k_all) (by k_all), fun q h => h, .nil, nd7, GoodV.nil, .inl rfl⟩ ?_ ?_)
  · intro h' tk tm va vh nx F N hx
    dsimp only
    k_steps
    exact hret _ _ _ [(390, tabObj (tabL c))] (Fr.keep (by assumption)) (own_endg (Mine.News.sub (by assumption) hx)) ⟨_, rfl, rfl⟩
  · intro h' tk tm m nx F N hx
    dsimp only
    exact hret _ _ _ [(390, tabObj (tabL c))] F.keep (own_endg (Mine.News.sub N hx)) ⟨_, rfl, rfl⟩
end
end
section
set_option maxHeartbeats 0
set_option rowWalk.seconds 0

/-- a statement's own dict -/
noncomputable abbrev stE (w : World) (t1 t2 t3 t4 t5 t6 t7 t8 t9 t10 : Tok) (sv pv iv rv l tx : Value) : List DictEntry :=
  [en w.params "label" t1 .none, en w.params "subject" t2 sv, en w.params "pattern" t3 pv, en w.params "is_replaced" t4 iv, en w.params "replacement" t5 rv, en w.params "go_success" t6 .none, en w.params "go_failure" t7 .none, en w.params "go_always" t8 .none, en w.params "line" t9 l, en w.params "text" t10 tx]
theorem tree_ref {S : Sto} {v : Value} : ∀ {t : Tr}, TreeS S v t → ∃ a, v = .ref a := by
  intro t h
  cases tree_head h <;> exact ⟨_, by assumption⟩
theorem body_con0 (w : World) (st sd : Addr) (t1 t2 t3 t4 t5 t6 t7 t8 t9 t10 : Tok) (a1 a2 aV : Addr) (lv tx : Value) (one other : Tr) (hz1 : one.orders.length ≤ 100000) (hz2 : other.orders.length ≤ 100000) (hh1 : one.ht ≤ 10) (hh2 : other.ht ≤ 10) :
    OCon w 107 [.ref st] [(st, instObj 138 sd), (sd, dictOf (stE w t1 t2 t3 t4 t5 t6 t7 t8 t9 t10 (.ref a1) .none (.bool false) .none lv tx) 10)] 80 2000 (fun h => TreeS (HS h) (.ref a1) one ∧ TreeS (HS h) (.ref a2) other ∧ True) (fun r own' => OrdsIn own' r (bodyO 0 one other)) := by
  refine OCon.of fun A s Q E g hh hd hu hgg G h1 hp hret => ?_
  obtain ⟨q1, q2, q3⟩ := hp
  refine enterO (own := [(st, instObj 138 sd), (sd, dictOf (stE w t1 t2 t3 t4 t5 t6 t7 t8 t9 t10 (.ref a1) .none (.bool false) .none lv tx) 10)]) (binds := [(ss "statement", .ref st)]) hgg G h1 hret (B := ?B) (S := ?S) ?hB ?hS (by k_is) (by k_is) (lt0 (by assumption)) (BindsTo.of_eq rfl) (locs rfl) rfl rfl rfl (by decide) ?_
  case hB => conv => lhs; whnf
  case hS => conv => lhs; whnf
  have X := G.K
  clear hret G hgg h1
  intro s1 Q1 L loose mean mg mb T F N hret _
  k_steps
  refine use_pure (value_con w one (by first | exact ar_le ‹_› (by decide) | exact ar_lt ‹_› (by decide) | omega) _) (by exact hh) (by show A.depth + 1 + _ < _; first | exact dlt (by assumption) (by decide) | exact dlt1 (by assumption) (by decide) | exact dlt2 (by assumption) (by decide) | exact dh ‹_› ‹_› (by decide) | exact dh0 ‹_› ‹_› (by decide) | exact dhs ‹_› ‹_› (by decide) | exact dm0 ‹_› ‹_› (by decide) | exact dl3 ‹_› (by decide) | exact dlt2 ‹_› (by decide) | omega) (by show A.units + 3 + _ < _; first | exact dlt (by assumption) (by decide) | exact dlt1 (by assumption) (by decide) | exact dlt2 (by assumption) (by decide) | exact dh ‹_› ‹_› (by decide) | exact dh0 ‹_› ‹_› (by decide) | exact dhs ‹_› ‹_› (by decide) | exact dm0 ‹_› ‹_› (by decide) | exact dl3 ‹_› (by decide) | exact dlt2 ‹_› (by decide) | omega) X T (by assumption) (by assumption) (tree_heap (by assumption) q1) ?_
  intro PQ
  intro r1 h1 tk1 I1 F1 N1 hne1 hp1
  obtain ⟨a1, vs1, n1, rfl, m1, o1⟩ := hp1
  simp only [List.nil_append, List.cons_append, List.append_assoc] at N1
  replace N1 := News.put N1 (q := (a1, lstO vs1 n1)) (by repeat (first | exact m1 | exact List.mem_append_left _ m1 | exact List.mem_append_right _ m1 | refine List.mem_append_right _ ?_ | refine List.Mem.tail _ ?_))
  have hl1 := o1.length
  k_steps
  exact hret _ _ _ _ (Fr.keep (by assumption)) (own_endg (by assumption)) ⟨_, _, _, rfl, .head _, OrdsS.append (o1.mono (fun _ _ h => by unfold IS at h ⊢; repeat (first | exact h | exact List.mem_append_left _ h | exact List.mem_append_right _ h | refine List.mem_append_right _ ?_ | refine List.Mem.tail _ ?_))) (.cons ⟨_, _, rfl, TupS.is (by k_mem), _, rfl⟩ .nil)⟩
theorem body_con1 (w : World) (st sd : Addr) (t1 t2 t3 t4 t5 t6 t7 t8 t9 t10 : Tok) (a1 a2 aV : Addr) (lv tx : Value) (one other : Tr) (hz1 : one.orders.length ≤ 100000) (hz2 : other.orders.length ≤ 100000) (hh1 : one.ht ≤ 10) (hh2 : other.ht ≤ 10) :
    OCon w 107 [.ref st] [(st, instObj 138 sd), (sd, dictOf (stE w t1 t2 t3 t4 t5 t6 t7 t8 t9 t10 (.ref aV) .none (.bool true) (.ref a2) lv tx) 10)] 80 2000 (fun h => TreeS (HS h) (.ref a1) one ∧ TreeS (HS h) (.ref a2) other ∧ NameS (HS h) (.ref aV) (ss "V")) (fun r own' => OrdsIn own' r (bodyO 1 one other)) := by
  refine OCon.of fun A s Q E g hh hd hu hgg G h1 hp hret => ?_
  obtain ⟨q1, q2, q3⟩ := hp
  refine enterO (own := [(st, instObj 138 sd), (sd, dictOf (stE w t1 t2 t3 t4 t5 t6 t7 t8 t9 t10 (.ref aV) .none (.bool true) (.ref a2) lv tx) 10)]) (binds := [(ss "statement", .ref st)]) hgg G h1 hret (B := ?B) (S := ?S) ?hB ?hS (by k_is) (by k_is) (lt0 (by assumption)) (BindsTo.of_eq rfl) (locs rfl) rfl rfl rfl (by decide) ?_
  case hB => conv => lhs; whnf
  case hS => conv => lhs; whnf
  have X := G.K
  clear hret G hgg h1
  intro s1 Q1 L loose mean mg mb T F N hret _
  k_steps
  refine use_pure (name_con w (ss "V") _) (by exact hh) (by show A.depth + 1 + _ < _; first | exact dlt (by assumption) (by decide) | exact dlt1 (by assumption) (by decide) | exact dlt2 (by assumption) (by decide) | exact dh ‹_› ‹_› (by decide) | exact dh0 ‹_› ‹_› (by decide) | exact dhs ‹_› ‹_› (by decide) | exact dm0 ‹_› ‹_› (by decide) | exact dl3 ‹_› (by decide) | exact dlt2 ‹_› (by decide) | omega) (by show A.units + 3 + _ < _; first | exact dlt (by assumption) (by decide) | exact dlt1 (by assumption) (by decide) | exact dlt2 (by assumption) (by decide) | exact dh ‹_› ‹_› (by decide) | exact dh0 ‹_› ‹_› (by decide) | exact dhs ‹_› ‹_› (by decide) | exact dm0 ‹_› ‹_› (by decide) | exact dl3 ‹_› (by decide) | exact dlt2 ‹_› (by decide) | omega) X T (by assumption) (by assumption) (name_heap (by assumption) q3) ?_
  intro PQ
  intro r1 h1 tk1 I1 F1 N1 hne1 hp1
  obtain ⟨a1, vs1, n1, rfl, m1, o1⟩ := hp1
  simp only [List.nil_append, List.cons_append, List.append_assoc] at N1
  replace N1 := News.put N1 (q := (a1, lstO vs1 n1)) (by repeat (first | exact m1 | exact List.mem_append_left _ m1 | exact List.mem_append_right _ m1 | refine List.mem_append_right _ ?_ | refine List.Mem.tail _ ?_))
  have hl1 := o1.length
  k_steps
  refine use_pure (value_con w other (by first | exact ar_le ‹_› (by decide) | exact ar_lt ‹_› (by decide) | omega) _) (by exact hh) (by show A.depth + 1 + _ < _; first | exact dlt (by assumption) (by decide) | exact dlt1 (by assumption) (by decide) | exact dlt2 (by assumption) (by decide) | exact dh ‹_› ‹_› (by decide) | exact dh0 ‹_› ‹_› (by decide) | exact dhs ‹_› ‹_› (by decide) | exact dm0 ‹_› ‹_› (by decide) | exact dl3 ‹_› (by decide) | exact dlt2 ‹_› (by decide) | omega) (by show A.units + 3 + _ < _; first | exact dlt (by assumption) (by decide) | exact dlt1 (by assumption) (by decide) | exact dlt2 (by assumption) (by decide) | exact dh ‹_› ‹_› (by decide) | exact dh0 ‹_› ‹_› (by decide) | exact dhs ‹_› ‹_› (by decide) | exact dm0 ‹_› ‹_› (by decide) | exact dl3 ‹_› (by decide) | exact dlt2 ‹_› (by decide) | omega) X T (by assumption) (by assumption) (tree_heap (by assumption) q2) ?_
  intro PQ
  intro r2 h2 tk2 I2 F2 N2 hne2 hp2
  obtain ⟨a2, vs2, n2, rfl, m2, o2⟩ := hp2
  simp only [List.nil_append, List.cons_append, List.append_assoc] at N2
  replace N2 := News.put N2 (q := (a2, lstO vs2 n2)) (by repeat (first | exact m2 | exact List.mem_append_left _ m2 | exact List.mem_append_right _ m2 | refine List.mem_append_right _ ?_ | refine List.Mem.tail _ ?_))
  have hl2 := o2.length
  k_steps
  exact hret _ _ _ _ (Fr.keep (by assumption)) (own_endg (by assumption)) ⟨_, _, _, rfl, .head _, OrdsS.append (OrdsS.append (o1.mono (fun _ _ h => by unfold IS at h ⊢; repeat (first | exact h | exact List.mem_append_left _ h | exact List.mem_append_right _ h | refine List.mem_append_right _ ?_ | refine List.Mem.tail _ ?_))) (o2.mono (fun _ _ h => by unfold IS at h ⊢; repeat (first | exact h | exact List.mem_append_left _ h | exact List.mem_append_right _ h | refine List.mem_append_right _ ?_ | refine List.Mem.tail _ ?_)))) (.cons ⟨_, _, rfl, TupS.is (by k_mem), _, rfl⟩ .nil)⟩
theorem body_con2 (w : World) (st sd : Addr) (t1 t2 t3 t4 t5 t6 t7 t8 t9 t10 : Tok) (a1 a2 aV : Addr) (lv tx : Value) (one other : Tr) (hz1 : one.orders.length ≤ 100000) (hz2 : other.orders.length ≤ 100000) (hh1 : one.ht ≤ 10) (hh2 : other.ht ≤ 10) :
    OCon w 107 [.ref st] [(st, instObj 138 sd), (sd, dictOf (stE w t1 t2 t3 t4 t5 t6 t7 t8 t9 t10 (.ref a1) (.ref a2) (.bool false) .none lv tx) 10)] 80 2000 (fun h => TreeS (HS h) (.ref a1) one ∧ TreeS (HS h) (.ref a2) other ∧ True) (fun r own' => OrdsIn own' r (bodyO 2 one other)) := by
  refine OCon.of fun A s Q E g hh hd hu hgg G h1 hp hret => ?_
  obtain ⟨q1, q2, q3⟩ := hp
  refine enterO (own := [(st, instObj 138 sd), (sd, dictOf (stE w t1 t2 t3 t4 t5 t6 t7 t8 t9 t10 (.ref a1) (.ref a2) (.bool false) .none lv tx) 10)]) (binds := [(ss "statement", .ref st)]) hgg G h1 hret (B := ?B) (S := ?S) ?hB ?hS (by k_is) (by k_is) (lt0 (by assumption)) (BindsTo.of_eq rfl) (locs rfl) rfl rfl rfl (by decide) ?_
  case hB => conv => lhs; whnf
  case hS => conv => lhs; whnf
  have X := G.K
  clear hret G hgg h1
  intro s1 Q1 L loose mean mg mb T F N hret _
  k_steps
  refine use_pure (value_con w one (by first | exact ar_le ‹_› (by decide) | exact ar_lt ‹_› (by decide) | omega) _) (by exact hh) (by show A.depth + 1 + _ < _; first | exact dlt (by assumption) (by decide) | exact dlt1 (by assumption) (by decide) | exact dlt2 (by assumption) (by decide) | exact dh ‹_› ‹_› (by decide) | exact dh0 ‹_› ‹_› (by decide) | exact dhs ‹_› ‹_› (by decide) | exact dm0 ‹_› ‹_› (by decide) | exact dl3 ‹_› (by decide) | exact dlt2 ‹_› (by decide) | omega) (by show A.units + 3 + _ < _; first | exact dlt (by assumption) (by decide) | exact dlt1 (by assumption) (by decide) | exact dlt2 (by assumption) (by decide) | exact dh ‹_› ‹_› (by decide) | exact dh0 ‹_› ‹_› (by decide) | exact dhs ‹_› ‹_› (by decide) | exact dm0 ‹_› ‹_› (by decide) | exact dl3 ‹_› (by decide) | exact dlt2 ‹_› (by decide) | omega) X T (by assumption) (by assumption) (tree_heap (by assumption) q1) ?_
  intro PQ
  intro r1 h1 tk1 I1 F1 N1 hne1 hp1
  obtain ⟨a1, vs1, n1, rfl, m1, o1⟩ := hp1
  simp only [List.nil_append, List.cons_append, List.append_assoc] at N1
  replace N1 := News.put N1 (q := (a1, lstO vs1 n1)) (by repeat (first | exact m1 | exact List.mem_append_left _ m1 | exact List.mem_append_right _ m1 | refine List.mem_append_right _ ?_ | refine List.Mem.tail _ ?_))
  have hl1 := o1.length
  k_steps
  refine use_pure (value_con w other (by first | exact ar_le ‹_› (by decide) | exact ar_lt ‹_› (by decide) | omega) _) (by exact hh) (by show A.depth + 1 + _ < _; first | exact dlt (by assumption) (by decide) | exact dlt1 (by assumption) (by decide) | exact dlt2 (by assumption) (by decide) | exact dh ‹_› ‹_› (by decide) | exact dh0 ‹_› ‹_› (by decide) | exact dhs ‹_› ‹_› (by decide) | exact dm0 ‹_› ‹_› (by decide) | exact dl3 ‹_› (by decide) | exact dlt2 ‹_› (by decide) | omega) (by show A.units + 3 + _ < _; first | exact dlt (by assumption) (by decide) | exact dlt1 (by assumption) (by decide) | exact dlt2 (by assumption) (by decide) | exact dh ‹_› ‹_› (by decide) | exact dh0 ‹_› ‹_› (by decide) | exact dhs ‹_› ‹_› (by decide) | exact dm0 ‹_› ‹_› (by decide) | exact dl3 ‹_› (by decide) | exact dlt2 ‹_› (by decide) | omega) X T (by assumption) (by assumption) (tree_heap (by assumption) q2) ?_
  intro PQ
  intro r2 h2 tk2 I2 F2 N2 hne2 hp2
  obtain ⟨a2, vs2, n2, rfl, m2, o2⟩ := hp2
  simp only [List.nil_append, List.cons_append, List.append_assoc] at N2
  replace N2 := News.put N2 (q := (a2, lstO vs2 n2)) (by repeat (first | exact m2 | exact List.mem_append_left _ m2 | exact List.mem_append_right _ m2 | refine List.mem_append_right _ ?_ | refine List.Mem.tail _ ?_))
  have hl2 := o2.length
  k_steps
  exact hret _ _ _ _ (Fr.keep (by assumption)) (own_endg (by assumption)) ⟨_, _, _, rfl, .head _, OrdsS.append (OrdsS.append (o1.mono (fun _ _ h => by unfold IS at h ⊢; repeat (first | exact h | exact List.mem_append_left _ h | exact List.mem_append_right _ h | refine List.mem_append_right _ ?_ | refine List.Mem.tail _ ?_))) (o2.mono (fun _ _ h => by unfold IS at h ⊢; repeat (first | exact h | exact List.mem_append_left _ h | exact List.mem_append_right _ h | refine List.mem_append_right _ ?_ | refine List.Mem.tail _ ?_)))) (.cons ⟨_, _, rfl, TupS.is (by k_mem), _, rfl⟩ .nil)⟩
theorem body_con3 (w : World) (st sd : Addr) (t1 t2 t3 t4 t5 t6 t7 t8 t9 t10 : Tok) (a1 a2 aV : Addr) (lv tx : Value) (one other : Tr) (hz1 : one.orders.length ≤ 100000) (hz2 : other.orders.length ≤ 100000) (hh1 : one.ht ≤ 10) (hh2 : other.ht ≤ 10) :
    OCon w 107 [.ref st] [(st, instObj 138 sd), (sd, dictOf (stE w t1 t2 t3 t4 t5 t6 t7 t8 t9 t10 (.ref aV) (.ref a1) (.bool true) (.ref a2) lv tx) 10)] 80 2000 (fun h => TreeS (HS h) (.ref a1) one ∧ TreeS (HS h) (.ref a2) other ∧ NameS (HS h) (.ref aV) (ss "V")) (fun r own' => OrdsIn own' r (bodyO 3 one other)) := by
  refine OCon.of fun A s Q E g hh hd hu hgg G h1 hp hret => ?_
  obtain ⟨q1, q2, q3⟩ := hp
  refine enterO (own := [(st, instObj 138 sd), (sd, dictOf (stE w t1 t2 t3 t4 t5 t6 t7 t8 t9 t10 (.ref aV) (.ref a1) (.bool true) (.ref a2) lv tx) 10)]) (binds := [(ss "statement", .ref st)]) hgg G h1 hret (B := ?B) (S := ?S) ?hB ?hS (by k_is) (by k_is) (lt0 (by assumption)) (BindsTo.of_eq rfl) (locs rfl) rfl rfl rfl (by decide) ?_
  case hB => conv => lhs; whnf
  case hS => conv => lhs; whnf
  have X := G.K
  clear hret G hgg h1
  intro s1 Q1 L loose mean mg mb T F N hret _
  k_steps
  refine use_pure (name_con w (ss "V") _) (by exact hh) (by show A.depth + 1 + _ < _; first | exact dlt (by assumption) (by decide) | exact dlt1 (by assumption) (by decide) | exact dlt2 (by assumption) (by decide) | exact dh ‹_› ‹_› (by decide) | exact dh0 ‹_› ‹_› (by decide) | exact dhs ‹_› ‹_› (by decide) | exact dm0 ‹_› ‹_› (by decide) | exact dl3 ‹_› (by decide) | exact dlt2 ‹_› (by decide) | omega) (by show A.units + 3 + _ < _; first | exact dlt (by assumption) (by decide) | exact dlt1 (by assumption) (by decide) | exact dlt2 (by assumption) (by decide) | exact dh ‹_› ‹_› (by decide) | exact dh0 ‹_› ‹_› (by decide) | exact dhs ‹_› ‹_› (by decide) | exact dm0 ‹_› ‹_› (by decide) | exact dl3 ‹_› (by decide) | exact dlt2 ‹_› (by decide) | omega) X T (by assumption) (by assumption) (name_heap (by assumption) q3) ?_
  intro PQ
  intro r1 h1 tk1 I1 F1 N1 hne1 hp1
  obtain ⟨a1, vs1, n1, rfl, m1, o1⟩ := hp1
  simp only [List.nil_append, List.cons_append, List.append_assoc] at N1
  replace N1 := News.put N1 (q := (a1, lstO vs1 n1)) (by repeat (first | exact m1 | exact List.mem_append_left _ m1 | exact List.mem_append_right _ m1 | refine List.mem_append_right _ ?_ | refine List.Mem.tail _ ?_))
  have hl1 := o1.length
  k_steps
  refine use_pure (value_con w one (by first | exact ar_le ‹_› (by decide) | exact ar_lt ‹_› (by decide) | omega) _) (by exact hh) (by show A.depth + 1 + _ < _; first | exact dlt (by assumption) (by decide) | exact dlt1 (by assumption) (by decide) | exact dlt2 (by assumption) (by decide) | exact dh ‹_› ‹_› (by decide) | exact dh0 ‹_› ‹_› (by decide) | exact dhs ‹_› ‹_› (by decide) | exact dm0 ‹_› ‹_› (by decide) | exact dl3 ‹_› (by decide) | exact dlt2 ‹_› (by decide) | omega) (by show A.units + 3 + _ < _; first | exact dlt (by assumption) (by decide) | exact dlt1 (by assumption) (by decide) | exact dlt2 (by assumption) (by decide) | exact dh ‹_› ‹_› (by decide) | exact dh0 ‹_› ‹_› (by decide) | exact dhs ‹_› ‹_› (by decide) | exact dm0 ‹_› ‹_› (by decide) | exact dl3 ‹_› (by decide) | exact dlt2 ‹_› (by decide) | omega) X T (by assumption) (by assumption) (tree_heap (by assumption) q1) ?_
  intro PQ
  intro r2 h2 tk2 I2 F2 N2 hne2 hp2
  obtain ⟨a2, vs2, n2, rfl, m2, o2⟩ := hp2
  simp only [List.nil_append, List.cons_append, List.append_assoc] at N2
  replace N2 := News.put N2 (q := (a2, lstO vs2 n2)) (by repeat (first | exact m2 | exact List.mem_append_left _ m2 | exact List.mem_append_right _ m2 | refine List.mem_append_right _ ?_ | refine List.Mem.tail _ ?_))
  have hl2 := o2.length
  k_steps
  refine use_pure (value_con w other (by first | exact ar_le ‹_› (by decide) | exact ar_lt ‹_› (by decide) | omega) _) (by exact hh) (by show A.depth + 1 + _ < _; first | exact dlt (by assumption) (by decide) | exact dlt1 (by assumption) (by decide) | exact dlt2 (by assumption) (by decide) | exact dh ‹_› ‹_› (by decide) | exact dh0 ‹_› ‹_› (by decide) | exact dhs ‹_› ‹_› (by decide) | exact dm0 ‹_› ‹_› (by decide) | exact dl3 ‹_› (by decide) | exact dlt2 ‹_› (by decide) | omega) (by show A.units + 3 + _ < _; first | exact dlt (by assumption) (by decide) | exact dlt1 (by assumption) (by decide) | exact dlt2 (by assumption) (by decide) | exact dh ‹_› ‹_› (by decide) | exact dh0 ‹_› ‹_› (by decide) | exact dhs ‹_› ‹_› (by decide) | exact dm0 ‹_› ‹_› (by decide) | exact dl3 ‹_› (by decide) | exact dlt2 ‹_› (by decide) | omega) X T (by assumption) (by assumption) (tree_heap (by assumption) q2) ?_
  intro PQ
  intro r3 h3 tk3 I3 F3 N3 hne3 hp3
  obtain ⟨a3, vs3, n3, rfl, m3, o3⟩ := hp3
  simp only [List.nil_append, List.cons_append, List.append_assoc] at N3
  replace N3 := News.put N3 (q := (a3, lstO vs3 n3)) (by repeat (first | exact m3 | exact List.mem_append_left _ m3 | exact List.mem_append_right _ m3 | refine List.mem_append_right _ ?_ | refine List.Mem.tail _ ?_))
  have hl3 := o3.length
  k_steps
  exact hret _ _ _ _ (Fr.keep (by assumption)) (own_endg (by assumption)) ⟨_, _, _, rfl, .head _, OrdsS.append (os' := [.replace]) (OrdsS.append (OrdsS.append (os := [.ref (ss "V")]) (os' := .double :: .value :: (one.orders ++ [.match_])) (o1.mono (fun _ _ h => by unfold IS at h ⊢; repeat (first | exact h | exact List.mem_append_left _ h | exact List.mem_append_right _ h | refine List.mem_append_right _ ?_ | refine List.Mem.tail _ ?_))) (.cons ⟨_, _, rfl, TupS.is (by k_mem), _, rfl⟩ (.cons ⟨_, _, rfl, TupS.is (by k_mem), _, rfl⟩ (OrdsS.append (os' := [.match_]) (o2.mono (fun _ _ h => by unfold IS at h ⊢; repeat (first | exact h | exact List.mem_append_left _ h | exact List.mem_append_right _ h | refine List.mem_append_right _ ?_ | refine List.Mem.tail _ ?_))) (.cons ⟨_, _, rfl, TupS.is (by k_mem), _, rfl⟩ .nil))))) (o3.mono (fun _ _ h => by unfold IS at h ⊢; repeat (first | exact h | exact List.mem_append_left _ h | exact List.mem_append_right _ h | refine List.mem_append_right _ ?_ | refine List.Mem.tail _ ?_)))) (.cons ⟨_, _, rfl, TupS.is (by k_mem), _, rfl⟩ .nil)⟩
end
section
set_option maxHeartbeats 0
set_option rowWalk.seconds 0

local macro_rules | `(tactic| walk_at "unpackItems ref") => `(tactic| (k_dflt (refine unpackItemsN_ (by k_asm) (by k_asm) (by kun_tup) (by assumption) (by rfl) ?_); intro _ _ _; (try k_sweep)))
inductive StI (w : World) (st sd : Addr) (v1 v2 : Value) (own' : List (Addr × Obj)) : Prop
  | mk (t1 t2 t3 t4 t5 t6 t7 t8 t9 t10 : Tok) (eo : own' = [(st, instObj 138 sd), (sd, dictOf (stE w t1 t2 t3 t4 t5 t6 t7 t8 t9 t10 .none .none (.bool false) .none v1 v2) 10)])
theorem stmt_init (w : World) (st sd : Addr) (v1 v2 : Value) (ne : @Ne Nat st sd) : OConC w 135 ⟨[.ref st, v1, v2], []⟩ [(st, instObj 138 sd), (sd, dictOf [] 0)] 2 100 (fun _ => True) (fun v own' => v = .none ∧ StI w st sd v1 v2 own') := by
  intro A s R hh hdp hu G h1 hp hret
  refine (enter (as := ads ([(st, instObj 138 sd), (sd, dictOf [] 0)])) (news := [(st, instObj 138 sd), (sd, dictOf [] 0)]) (binds := [(ss "self", .ref st), (ss "line", v1), (ss "text", v2)]) G (own_news h1) (by k_is) (by k_is) (lt0 (by assumption)) (BindsTo.of_eq rfl) (locs rfl) rfl rfl rfl (by decide) ?_)
  intro L h₁ F N
  have hsb : ∀ h', StA (hideAll s.heap (ads ([(st, instObj 138 sd), (sd, dictOf [] 0)]))) h' → StB (ads ([(st, instObj 138 sd), (sd, dictOf [] 0)])) s.heap h' := fun _ k => stB_of k
  generalize hideAll s.heap (ads ([(st, instObj 138 sd), (sd, dictOf [] 0)])) = g at *
  have X := G.K
  obtain ⟨_, _, _, _, _, T⟩ := G
  generalize hB : bodyS (inS 15 0) = B
  conv at hB => lhs; whnf
  subst hB
  generalize hS : scoS (inS 15 0) = S
  conv at hS => lhs; whnf
  subst hS
  try dsimp only
  k_steps
  try dsimp only
  rename News _ _ _ _ => N
  exact hret _ _ _ _ (hsb _ (Fr.keep (by assumption))) (own_endg N) ⟨rfl, _, _, _, _, _, _, _, _, _, _, rfl⟩
/-- what _law_body gives: a statement of the kind, and that body_orders tells its orders -/
inductive BodyR (w : World) (k : Nat) (one other : Tr) (a1 a2 : Addr) (I : List (Addr × Obj)) : Value → Prop
  | mk (a st sd : Addr) (E : List DictEntry) (t : Tok) (N : Sto → Prop) (hT : TupS (IS I) a [.ref st, .int (bodyHigh k one other) t]) (m1 : (st, instObj 138 sd) ∈ I) (m2 : (sd, dictOf E 10) ∈ I) (ne : @Ne Nat st sd)
      (hN : N (IS I)) (up : ∀ (S S' : Sto), (∀ a o, S a o → o.cls = .type "tuple" → S' a o) → N S → N S')
      (C : OCon w 107 [.ref st] [(st, instObj 138 sd), (sd, dictOf E 10)] 80 2000 (fun h => TreeS (HS h) (.ref a1) one ∧ TreeS (HS h) (.ref a2) other ∧ N (HS h)) (fun r own' => OrdsIn own' r (bodyO k one other))) :
      BodyR w k one other a1 a2 I (.ref a)
theorem law_body0 (w : World) (u : Tok) (a1 a2 : Addr) (one other : Tr) (hh1 : one.ht ≤ 10) (hh2 : other.ht ≤ 10) (hz1 : one.orders.length ≤ 100000) (hz2 : other.orders.length ≤ 100000) :
    PCon w 402 [.int 0 u, .ref a1, .ref a2] 80 2000 (fun h => TreeS (HS h) (.ref a1) one ∧ TreeS (HS h) (.ref a2) other)
      (fun _ I r => BodyR w 0 one other a1 a2 I r) := by
  refine PCon.of fun A s Q E g hh hd hu hgg G hp hret => ?_
  obtain ⟨q1, q2⟩ := hp
  refine enterO (own := []) (binds := [(ss "kind", .int 0 u), (ss "one", .ref a1), (ss "other", .ref a2)]) hgg G own0 hret (B := ?B) (S := ?S) ?hB ?hS (by k_is) (by k_is) (lt0 (by assumption)) (BindsTo.of_eq rfl) (locs rfl) rfl rfl rfl (by decide) ?_
  case hB => conv => lhs; whnf
  case hS => conv => lhs; whnf
  have X := G.K
  clear hret G hgg
  intro s1 Q1 L loose mean mg mb T F N hret _
  k_steps
  refine Stop.of (call_cls (by k_asm) X (by k_asm) (by k_is) (by k_is) (by k_is) ?_)
  intro st sd h1 F1 N1 l1 l2
  have hp2 : @LT.lt Nat _ sd st := l2
  refine use_occ (own := [(st, instObj 138 sd), (sd, dictOf [] 0)]) (rest := []) (stmt_init w st sd _ _ (Nat.ne_of_gt l2)) (by exact hh) (by show A.depth + 1 + 1 + _ < _; first | exact dlt (by assumption) (by decide) | exact dlt1 (by assumption) (by decide) | exact dlt2 (by assumption) (by decide) | exact dh ‹_› ‹_› (by decide) | exact dh0 ‹_› ‹_› (by decide) | exact dhs ‹_› ‹_› (by decide) | exact dm0 ‹_› ‹_› (by decide) | exact dl3 ‹_› (by decide) | exact dlt2 ‹_› (by decide) | omega) (by show A.units + 3 + 1 + _ < _; first | exact dlt (by assumption) (by decide) | exact dlt1 (by assumption) (by decide) | exact dlt2 (by assumption) (by decide) | exact dh ‹_› ‹_› (by decide) | exact dh0 ‹_› ‹_› (by decide) | exact dhs ‹_› ‹_› (by decide) | exact dm0 ‹_› ‹_› (by decide) | exact dl3 ‹_› (by decide) | exact dlt2 ‹_› (by decide) | omega) X T F1 N1 Apart.nil (fun _ _ => trivial) ?_
  clear F1 N1 F N
  rintro v1 h2 tk1 own1 F1 N1 ap1 ⟨rfl, t1, t2, t3, t4, t5, t6, t7, t8, t9, t10, rfl⟩
  refine ⟨rfl, ?_⟩
  dsimp only [List.cons_append, List.nil_append] at N1
  dsimp only
  k_steps
  refine use_pure (high_con w 11 one (by first | exact ar_le ‹_› (by decide) | exact ar_lt ‹_› (by decide) | omega) _) (by exact hh) (by show A.depth + 1 + _ < _; first | exact dlt (by assumption) (by decide) | exact dlt1 (by assumption) (by decide) | exact dlt2 (by assumption) (by decide) | exact dh ‹_› ‹_› (by decide) | exact dh0 ‹_› ‹_› (by decide) | exact dhs ‹_› ‹_› (by decide) | exact dm0 ‹_› ‹_› (by decide) | exact dl3 ‹_› (by decide) | exact dlt2 ‹_› (by decide) | omega) (by show A.units + 3 + _ < _; first | exact dlt (by assumption) (by decide) | exact dlt1 (by assumption) (by decide) | exact dlt2 (by assumption) (by decide) | exact dh ‹_› ‹_› (by decide) | exact dh0 ‹_› ‹_› (by decide) | exact dhs ‹_› ‹_› (by decide) | exact dm0 ‹_› ‹_› (by decide) | exact dl3 ‹_› (by decide) | exact dlt2 ‹_› (by decide) | omega) X T (by assumption) (by assumption) (tree_heap (by assumption) q1) ?_
  intro PQ
  rintro r2 h2 tk2 I2 F2 N2 hne2 ⟨tl, rfl⟩
  replace N2 := News.left N2
  k_steps
  refine use_pure (high_con w 11 other (by first | exact ar_le ‹_› (by decide) | exact ar_lt ‹_› (by decide) | omega) _) (by exact hh) (by show A.depth + 1 + _ < _; first | exact dlt (by assumption) (by decide) | exact dlt1 (by assumption) (by decide) | exact dlt2 (by assumption) (by decide) | exact dh ‹_› ‹_› (by decide) | exact dh0 ‹_› ‹_› (by decide) | exact dhs ‹_› ‹_› (by decide) | exact dm0 ‹_› ‹_› (by decide) | exact dl3 ‹_› (by decide) | exact dlt2 ‹_› (by decide) | omega) (by show A.units + 3 + _ < _; first | exact dlt (by assumption) (by decide) | exact dlt1 (by assumption) (by decide) | exact dlt2 (by assumption) (by decide) | exact dh ‹_› ‹_› (by decide) | exact dh0 ‹_› ‹_› (by decide) | exact dhs ‹_› ‹_› (by decide) | exact dm0 ‹_› ‹_› (by decide) | exact dl3 ‹_› (by decide) | exact dlt2 ‹_› (by decide) | omega) X T (by assumption) (by assumption) (tree_heap (by assumption) q2) ?_
  intro PQ
  rintro r3 h3 tk3 I3 F3 N3 hne3 ⟨th, rfl⟩
  replace N3 := News.left N3
  k_steps
  exact hret _ _ _ _ (Fr.keep (by assumption)) (newsI (by assumption)) (.mk _ st sd _ _ (fun _ => True) (TupS.is (by k_mem)) (by k_mem) (by k_mem) (Nat.ne_of_gt l2) trivial (fun _ _ _ h => h) (body_con0 w st sd _ _ _ _ _ _ _ _ _ _ a1 a2 0 _ _ one other hz1 hz2 hh1 hh2))
theorem law_body1 (w : World) (u : Tok) (a1 a2 : Addr) (one other : Tr) (hh1 : one.ht ≤ 10) (hh2 : other.ht ≤ 10) (hz1 : one.orders.length ≤ 100000) (hz2 : other.orders.length ≤ 100000) :
    PCon w 402 [.int 1 u, .ref a1, .ref a2] 80 2000 (fun h => TreeS (HS h) (.ref a1) one ∧ TreeS (HS h) (.ref a2) other)
      (fun _ I r => BodyR w 1 one other a1 a2 I r) := by
  refine PCon.of fun A s Q E g hh hd hu hgg G hp hret => ?_
  obtain ⟨q1, q2⟩ := hp
  refine enterO (own := []) (binds := [(ss "kind", .int 1 u), (ss "one", .ref a1), (ss "other", .ref a2)]) hgg G own0 hret (B := ?B) (S := ?S) ?hB ?hS (by k_is) (by k_is) (lt0 (by assumption)) (BindsTo.of_eq rfl) (locs rfl) rfl rfl rfl (by decide) ?_
  case hB => conv => lhs; whnf
  case hS => conv => lhs; whnf
  have X := G.K
  clear hret G hgg
  intro s1 Q1 L loose mean mg mb T F N hret _
  k_steps
  refine Stop.of (call_cls (by k_asm) X (by k_asm) (by k_is) (by k_is) (by k_is) ?_)
  intro st sd h1 F1 N1 l1 l2
  have hp2 : @LT.lt Nat _ sd st := l2
  refine use_occ (own := [(st, instObj 138 sd), (sd, dictOf [] 0)]) (rest := []) (stmt_init w st sd _ _ (Nat.ne_of_gt l2)) (by exact hh) (by show A.depth + 1 + 1 + _ < _; first | exact dlt (by assumption) (by decide) | exact dlt1 (by assumption) (by decide) | exact dlt2 (by assumption) (by decide) | exact dh ‹_› ‹_› (by decide) | exact dh0 ‹_› ‹_› (by decide) | exact dhs ‹_› ‹_› (by decide) | exact dm0 ‹_› ‹_› (by decide) | exact dl3 ‹_› (by decide) | exact dlt2 ‹_› (by decide) | omega) (by show A.units + 3 + 1 + _ < _; first | exact dlt (by assumption) (by decide) | exact dlt1 (by assumption) (by decide) | exact dlt2 (by assumption) (by decide) | exact dh ‹_› ‹_› (by decide) | exact dh0 ‹_› ‹_› (by decide) | exact dhs ‹_› ‹_› (by decide) | exact dm0 ‹_› ‹_› (by decide) | exact dl3 ‹_› (by decide) | exact dlt2 ‹_› (by decide) | omega) X T F1 N1 Apart.nil (fun _ _ => trivial) ?_
  clear F1 N1 F N
  rintro v1 h2 tk1 own1 F1 N1 ap1 ⟨rfl, t1, t2, t3, t4, t5, t6, t7, t8, t9, t10, rfl⟩
  refine ⟨rfl, ?_⟩
  dsimp only [List.cons_append, List.nil_append] at N1
  dsimp only
  k_steps
  refine use_pure (high_con w 11 one (by first | exact ar_le ‹_› (by decide) | exact ar_lt ‹_› (by decide) | omega) _) (by exact hh) (by show A.depth + 1 + _ < _; first | exact dlt (by assumption) (by decide) | exact dlt1 (by assumption) (by decide) | exact dlt2 (by assumption) (by decide) | exact dh ‹_› ‹_› (by decide) | exact dh0 ‹_› ‹_› (by decide) | exact dhs ‹_› ‹_› (by decide) | exact dm0 ‹_› ‹_› (by decide) | exact dl3 ‹_› (by decide) | exact dlt2 ‹_› (by decide) | omega) (by show A.units + 3 + _ < _; first | exact dlt (by assumption) (by decide) | exact dlt1 (by assumption) (by decide) | exact dlt2 (by assumption) (by decide) | exact dh ‹_› ‹_› (by decide) | exact dh0 ‹_› ‹_› (by decide) | exact dhs ‹_› ‹_› (by decide) | exact dm0 ‹_› ‹_› (by decide) | exact dl3 ‹_› (by decide) | exact dlt2 ‹_› (by decide) | omega) X T (by assumption) (by assumption) (tree_heap (by assumption) q1) ?_
  intro PQ
  rintro r2 h2 tk2 I2 F2 N2 hne2 ⟨tl, rfl⟩
  replace N2 := News.left N2
  k_steps
  refine use_pure (high_con w 11 other (by first | exact ar_le ‹_› (by decide) | exact ar_lt ‹_› (by decide) | omega) _) (by exact hh) (by show A.depth + 1 + _ < _; first | exact dlt (by assumption) (by decide) | exact dlt1 (by assumption) (by decide) | exact dlt2 (by assumption) (by decide) | exact dh ‹_› ‹_› (by decide) | exact dh0 ‹_› ‹_› (by decide) | exact dhs ‹_› ‹_› (by decide) | exact dm0 ‹_› ‹_› (by decide) | exact dl3 ‹_› (by decide) | exact dlt2 ‹_› (by decide) | omega) (by show A.units + 3 + _ < _; first | exact dlt (by assumption) (by decide) | exact dlt1 (by assumption) (by decide) | exact dlt2 (by assumption) (by decide) | exact dh ‹_› ‹_› (by decide) | exact dh0 ‹_› ‹_› (by decide) | exact dhs ‹_› ‹_› (by decide) | exact dm0 ‹_› ‹_› (by decide) | exact dl3 ‹_› (by decide) | exact dlt2 ‹_› (by decide) | omega) X T (by assumption) (by assumption) (tree_heap (by assumption) q2) ?_
  intro PQ
  rintro r3 h3 tk3 I3 F3 N3 hne3 ⟨th, rfl⟩
  replace N3 := News.left N3
  k_steps
  exact hret _ _ _ _ (Fr.keep (by assumption)) (newsI (by assumption)) (BodyR.mk _ st sd _ _ (fun S => NameS S (.ref _) (ss "V")) (TupS.is (by k_mem)) (by k_mem) (by k_mem) (Nat.ne_of_gt l2) ⟨_, _, _, rfl, TupS.is (by k_mem)⟩ (fun _ _ k h => NameS.mono' k h) (body_con1 w st sd _ _ _ _ _ _ _ _ _ _ a1 a2 _ _ _ one other hz1 hz2 hh1 hh2))
theorem law_body2 (w : World) (u : Tok) (a1 a2 : Addr) (one other : Tr) (hh1 : one.ht ≤ 10) (hh2 : other.ht ≤ 10) (hz1 : one.orders.length ≤ 100000) (hz2 : other.orders.length ≤ 100000) :
    PCon w 402 [.int 2 u, .ref a1, .ref a2] 80 2000 (fun h => TreeS (HS h) (.ref a1) one ∧ TreeS (HS h) (.ref a2) other)
      (fun _ I r => BodyR w 2 one other a1 a2 I r) := by
  refine PCon.of fun A s Q E g hh hd hu hgg G hp hret => ?_
  obtain ⟨q1, q2⟩ := hp
  refine enterO (own := []) (binds := [(ss "kind", .int 2 u), (ss "one", .ref a1), (ss "other", .ref a2)]) hgg G own0 hret (B := ?B) (S := ?S) ?hB ?hS (by k_is) (by k_is) (lt0 (by assumption)) (BindsTo.of_eq rfl) (locs rfl) rfl rfl rfl (by decide) ?_
  case hB => conv => lhs; whnf
  case hS => conv => lhs; whnf
  have X := G.K
  clear hret G hgg
  intro s1 Q1 L loose mean mg mb T F N hret _
  k_steps
  refine Stop.of (call_cls (by k_asm) X (by k_asm) (by k_is) (by k_is) (by k_is) ?_)
  intro st sd h1 F1 N1 l1 l2
  have hp2 : @LT.lt Nat _ sd st := l2
  refine use_occ (own := [(st, instObj 138 sd), (sd, dictOf [] 0)]) (rest := []) (stmt_init w st sd _ _ (Nat.ne_of_gt l2)) (by exact hh) (by show A.depth + 1 + 1 + _ < _; first | exact dlt (by assumption) (by decide) | exact dlt1 (by assumption) (by decide) | exact dlt2 (by assumption) (by decide) | exact dh ‹_› ‹_› (by decide) | exact dh0 ‹_› ‹_› (by decide) | exact dhs ‹_› ‹_› (by decide) | exact dm0 ‹_› ‹_› (by decide) | exact dl3 ‹_› (by decide) | exact dlt2 ‹_› (by decide) | omega) (by show A.units + 3 + 1 + _ < _; first | exact dlt (by assumption) (by decide) | exact dlt1 (by assumption) (by decide) | exact dlt2 (by assumption) (by decide) | exact dh ‹_› ‹_› (by decide) | exact dh0 ‹_› ‹_› (by decide) | exact dhs ‹_› ‹_› (by decide) | exact dm0 ‹_› ‹_› (by decide) | exact dl3 ‹_› (by decide) | exact dlt2 ‹_› (by decide) | omega) X T F1 N1 Apart.nil (fun _ _ => trivial) ?_
  clear F1 N1 F N
  rintro v1 h2 tk1 own1 F1 N1 ap1 ⟨rfl, t1, t2, t3, t4, t5, t6, t7, t8, t9, t10, rfl⟩
  refine ⟨rfl, ?_⟩
  dsimp only [List.cons_append, List.nil_append] at N1
  dsimp only
  k_steps
  refine use_pure (high_con w 11 one (by first | exact ar_le ‹_› (by decide) | exact ar_lt ‹_› (by decide) | omega) _) (by exact hh) (by show A.depth + 1 + _ < _; first | exact dlt (by assumption) (by decide) | exact dlt1 (by assumption) (by decide) | exact dlt2 (by assumption) (by decide) | exact dh ‹_› ‹_› (by decide) | exact dh0 ‹_› ‹_› (by decide) | exact dhs ‹_› ‹_› (by decide) | exact dm0 ‹_› ‹_› (by decide) | exact dl3 ‹_› (by decide) | exact dlt2 ‹_› (by decide) | omega) (by show A.units + 3 + _ < _; first | exact dlt (by assumption) (by decide) | exact dlt1 (by assumption) (by decide) | exact dlt2 (by assumption) (by decide) | exact dh ‹_› ‹_› (by decide) | exact dh0 ‹_› ‹_› (by decide) | exact dhs ‹_› ‹_› (by decide) | exact dm0 ‹_› ‹_› (by decide) | exact dl3 ‹_› (by decide) | exact dlt2 ‹_› (by decide) | omega) X T (by assumption) (by assumption) (tree_heap (by assumption) q1) ?_
  intro PQ
  rintro r2 h2 tk2 I2 F2 N2 hne2 ⟨tl, rfl⟩
  replace N2 := News.left N2
  k_steps
  refine use_pure (high_con w 11 other (by first | exact ar_le ‹_› (by decide) | exact ar_lt ‹_› (by decide) | omega) _) (by exact hh) (by show A.depth + 1 + _ < _; first | exact dlt (by assumption) (by decide) | exact dlt1 (by assumption) (by decide) | exact dlt2 (by assumption) (by decide) | exact dh ‹_› ‹_› (by decide) | exact dh0 ‹_› ‹_› (by decide) | exact dhs ‹_› ‹_› (by decide) | exact dm0 ‹_› ‹_› (by decide) | exact dl3 ‹_› (by decide) | exact dlt2 ‹_› (by decide) | omega) (by show A.units + 3 + _ < _; first | exact dlt (by assumption) (by decide) | exact dlt1 (by assumption) (by decide) | exact dlt2 (by assumption) (by decide) | exact dh ‹_› ‹_› (by decide) | exact dh0 ‹_› ‹_› (by decide) | exact dhs ‹_› ‹_› (by decide) | exact dm0 ‹_› ‹_› (by decide) | exact dl3 ‹_› (by decide) | exact dlt2 ‹_› (by decide) | omega) X T (by assumption) (by assumption) (tree_heap (by assumption) q2) ?_
  intro PQ
  rintro r3 h3 tk3 I3 F3 N3 hne3 ⟨th, rfl⟩
  replace N3 := News.left N3
  k_steps
  exact hret _ _ _ _ (Fr.keep (by assumption)) (newsI (by assumption)) (.mk _ st sd _ _ (fun _ => True) (TupS.is (by k_mem)) (by k_mem) (by k_mem) (Nat.ne_of_gt l2) trivial (fun _ _ _ h => h) (body_con2 w st sd _ _ _ _ _ _ _ _ _ _ a1 a2 0 _ _ one other hz1 hz2 hh1 hh2))
theorem law_body3 (w : World) (u : Tok) (a1 a2 : Addr) (one other : Tr) (hh1 : one.ht ≤ 10) (hh2 : other.ht ≤ 10) (hz1 : one.orders.length ≤ 100000) (hz2 : other.orders.length ≤ 100000) :
    PCon w 402 [.int 3 u, .ref a1, .ref a2] 80 2000 (fun h => TreeS (HS h) (.ref a1) one ∧ TreeS (HS h) (.ref a2) other)
      (fun _ I r => BodyR w 3 one other a1 a2 I r) := by
  refine PCon.of fun A s Q E g hh hd hu hgg G hp hret => ?_
  obtain ⟨q1, q2⟩ := hp
  refine enterO (own := []) (binds := [(ss "kind", .int 3 u), (ss "one", .ref a1), (ss "other", .ref a2)]) hgg G own0 hret (B := ?B) (S := ?S) ?hB ?hS (by k_is) (by k_is) (lt0 (by assumption)) (BindsTo.of_eq rfl) (locs rfl) rfl rfl rfl (by decide) ?_
  case hB => conv => lhs; whnf
  case hS => conv => lhs; whnf
  have X := G.K
  clear hret G hgg
  intro s1 Q1 L loose mean mg mb T F N hret _
  k_steps
  refine Stop.of (call_cls (by k_asm) X (by k_asm) (by k_is) (by k_is) (by k_is) ?_)
  intro st sd h1 F1 N1 l1 l2
  have hp2 : @LT.lt Nat _ sd st := l2
  refine use_occ (own := [(st, instObj 138 sd), (sd, dictOf [] 0)]) (rest := []) (stmt_init w st sd _ _ (Nat.ne_of_gt l2)) (by exact hh) (by show A.depth + 1 + 1 + _ < _; first | exact dlt (by assumption) (by decide) | exact dlt1 (by assumption) (by decide) | exact dlt2 (by assumption) (by decide) | exact dh ‹_› ‹_› (by decide) | exact dh0 ‹_› ‹_› (by decide) | exact dhs ‹_› ‹_› (by decide) | exact dm0 ‹_› ‹_› (by decide) | exact dl3 ‹_› (by decide) | exact dlt2 ‹_› (by decide) | omega) (by show A.units + 3 + 1 + _ < _; first | exact dlt (by assumption) (by decide) | exact dlt1 (by assumption) (by decide) | exact dlt2 (by assumption) (by decide) | exact dh ‹_› ‹_› (by decide) | exact dh0 ‹_› ‹_› (by decide) | exact dhs ‹_› ‹_› (by decide) | exact dm0 ‹_› ‹_› (by decide) | exact dl3 ‹_› (by decide) | exact dlt2 ‹_› (by decide) | omega) X T F1 N1 Apart.nil (fun _ _ => trivial) ?_
  clear F1 N1 F N
  rintro v1 h2 tk1 own1 F1 N1 ap1 ⟨rfl, t1, t2, t3, t4, t5, t6, t7, t8, t9, t10, rfl⟩
  refine ⟨rfl, ?_⟩
  dsimp only [List.cons_append, List.nil_append] at N1
  dsimp only
  k_steps
  refine use_pure (high_con w 11 one (by first | exact ar_le ‹_› (by decide) | exact ar_lt ‹_› (by decide) | omega) _) (by exact hh) (by show A.depth + 1 + _ < _; first | exact dlt (by assumption) (by decide) | exact dlt1 (by assumption) (by decide) | exact dlt2 (by assumption) (by decide) | exact dh ‹_› ‹_› (by decide) | exact dh0 ‹_› ‹_› (by decide) | exact dhs ‹_› ‹_› (by decide) | exact dm0 ‹_› ‹_› (by decide) | exact dl3 ‹_› (by decide) | exact dlt2 ‹_› (by decide) | omega) (by show A.units + 3 + _ < _; first | exact dlt (by assumption) (by decide) | exact dlt1 (by assumption) (by decide) | exact dlt2 (by assumption) (by decide) | exact dh ‹_› ‹_› (by decide) | exact dh0 ‹_› ‹_› (by decide) | exact dhs ‹_› ‹_› (by decide) | exact dm0 ‹_› ‹_› (by decide) | exact dl3 ‹_› (by decide) | exact dlt2 ‹_› (by decide) | omega) X T (by assumption) (by assumption) (tree_heap (by assumption) q1) ?_
  intro PQ
  rintro r2 h2 tk2 I2 F2 N2 hne2 ⟨tl, rfl⟩
  replace N2 := News.left N2
  k_steps
  refine use_pure (high_con w 11 other (by first | exact ar_le ‹_› (by decide) | exact ar_lt ‹_› (by decide) | omega) _) (by exact hh) (by show A.depth + 1 + _ < _; first | exact dlt (by assumption) (by decide) | exact dlt1 (by assumption) (by decide) | exact dlt2 (by assumption) (by decide) | exact dh ‹_› ‹_› (by decide) | exact dh0 ‹_› ‹_› (by decide) | exact dhs ‹_› ‹_› (by decide) | exact dm0 ‹_› ‹_› (by decide) | exact dl3 ‹_› (by decide) | exact dlt2 ‹_› (by decide) | omega) (by show A.units + 3 + _ < _; first | exact dlt (by assumption) (by decide) | exact dlt1 (by assumption) (by decide) | exact dlt2 (by assumption) (by decide) | exact dh ‹_› ‹_› (by decide) | exact dh0 ‹_› ‹_› (by decide) | exact dhs ‹_› ‹_› (by decide) | exact dm0 ‹_› ‹_› (by decide) | exact dl3 ‹_› (by decide) | exact dlt2 ‹_› (by decide) | omega) X T (by assumption) (by assumption) (tree_heap (by assumption) q2) ?_
  intro PQ
  rintro r3 h3 tk3 I3 F3 N3 hne3 ⟨th, rfl⟩
  replace N3 := News.left N3
  k_steps
  exact hret _ _ _ _ (Fr.keep (by assumption)) (newsI (by assumption)) (BodyR.mk _ st sd _ _ (fun S => NameS S (.ref _) (ss "V")) (TupS.is (by k_mem)) (by k_mem) (by k_mem) (Nat.ne_of_gt l2) ⟨_, _, _, rfl, TupS.is (by k_mem)⟩ (fun _ _ k h => NameS.mono' k h) (body_con3 w st sd _ _ _ _ _ _ _ _ _ _ a1 a2 _ _ _ one other hz1 hz2 hh1 hh2))
theorem law_body (w : World) (k : Nat) (kd : Int) (e : kd = k) (hk : k < 4) (u : Tok) (a1 a2 : Addr) (one other : Tr) (hh1 : one.ht ≤ 10) (hh2 : other.ht ≤ 10) (hz1 : one.orders.length ≤ 100000) (hz2 : other.orders.length ≤ 100000) :
    PCon w 402 [.int kd u, .ref a1, .ref a2] 80 2000 (fun h => TreeS (HS h) (.ref a1) one ∧ TreeS (HS h) (.ref a2) other) (fun _ I r => BodyR w k one other a1 a2 I r) := by
  subst e
  match k, hk with
  | 0, _ => exact law_body0 w u a1 a2 one other hh1 hh2 hz1 hz2
  | 1, _ => exact law_body1 w u a1 a2 one other hh1 hh2 hz1 hz2
  | 2, _ => exact law_body2 w u a1 a2 one other hh1 hh2 hz1 hz2
  | 3, _ => exact law_body3 w u a1 a2 one other hh1 hh2 hz1 hz2
end
section
theorem ints_snoc : ∀ {ys : List Value} {ns : List Int} {n : Int} {t : Tok}, IntsAre ys ns → IntsAre (ys ++ [.int n t]) (ns ++ [n])
  | _, _, _, _, .nil => .cons _ _ .nil
  | _, _, _, _, .cons a b h => .cons a b (ints_snoc h)
theorem ints_get : ∀ {vs : List Value} {ns : List Int}, IntsAre vs ns → ∀ {i : Nat} {v : Value}, vs[i]? = some v → ∃ n t, v = .int n t
  | _, _, .nil, _, _, h => by simp at h
  | _, _, .cons a b _, 0, _, h => by simp at h; exact ⟨a, b, h.symm⟩
  | _, _, .cons _ _ r, i + 1, _, h => ints_get r (by simpa using h)
section
open LCg
variable {prog : Program} {w : World} {A : Around} {E : Value → Shared → Prop} {s : Shared} {h₀ : Heap} {L : Addr} {m : Str → Option Value} {env : Env}
theorem rest_I {elt : Expr} {x : Str} {scope : Scope} {cl : List (Str × Addr)} {S : List (Addr × Obj) → Prop} {Fin : List Value → List (Addr × Obj) → Prop} {vs : List Value} {ns : List Int} {news : List (Addr × Obj)} (hS : S news) (hv : IntsAre vs ns)
    (turn : ∀ (n : Int) (t : Tok) I oI C oC D oD m₂ h tk (E' : Value → Shared → Prop), NsObj oC m₂ → m₂ x = some (.int n t) → Fr h₀ L h m → News h₀ L h ((I, oI) :: (C, oC) :: (D, oD) :: news) →
      wpAny (model prog w) A (eval elt (compEnvC scope cl C env)) (EltEnd h₀ L m { s with heap := h, toks := tk } ((I, oI) :: (C, oC) :: (D, oD) :: news) (fun y => ∃ n t, y = .int n t)) E' { s with heap := h, toks := tk })
    (fin : ∀ ys, ys.length = vs.length → (∃ ns, IntsAre ys ns) → Fin ys news) :
    ∀ k i ys, i + k = vs.length → ys.length = i → (∃ ns, IntsAre ys ns) → CompRest prog w A h₀ L m env elt x scope cl s S (fun i v => vs.toArray[i]? = some v) Fin k i ys news
  | 0, i, ys, hi, hy, hns => CompRest.zero (fin ys (by omega) hns)
  | k + 1, i, ys, hi, hy, ⟨ms, hms⟩ => CompRest.succ (by
    intro v I oI C oC D m₂ h tk E' hv' hC hx F N off ne
    have hv2 : vs[i]? = some v := by simpa using hv'
    obtain ⟨n, t, rfl⟩ := ints_get hv hv2
    refine wpAny_mono (turn n t I oI C oC D _ m₂ h tk E' hC hx F N) (fun y s' h' => ?_) fun _ _ e => e
    obtain ⟨h₁, tk₁, rfl, F₁, N₁, n', t', rfl⟩ := h'
    exact CompEnd.intro F₁ N₁ news (fun _ h => h) off hS (rest_I hS hv turn fin k (i + 1) _ (by omega) (by simp [hy]) ⟨_, ints_snoc hms⟩))
end
/-- orders that the drawn trees make can be done -/
theorem tree_okay : ∀ (t : Tr), t.fine = true → ∀ o ∈ t.orders, o.okay := by
  have kt : GoodS (ss "t") := .inr (.inr rfl)
  have ke : GoodS (ss "") := .inr (.inl rfl)
  have k1 : PyData.strOk (ss "+") = true := by kernel_rfl!
  have k2 : PyData.strOk (ss "|") = true := by kernel_rfl!
  have k3 : PyData.strOk (ss "B") = true := by kernel_rfl!
  have k4 : PyData.strOk (ss "-") = true := by kernel_rfl!
  intro t
  induction t with
  | name x => intro h o ho; simp only [Tr.orders_name, Tr.orders_text, Tr.orders_join, Tr.orders_plus, Tr.orders_alt, Tr.orders_dot, Tr.orders_neg, Tr.orders_quest, Tr.orders_dollar, Tr.orders_tilde, Tr.orders_item1, Tr.orders_item2, Tr.orders_call0, Tr.orders_call1, Tr.orders_call2, List.mem_singleton] at ho; subst ho; exact h
  | text => intro h o ho; simp only [Tr.orders_name, Tr.orders_text, Tr.orders_join, Tr.orders_plus, Tr.orders_alt, Tr.orders_dot, Tr.orders_neg, Tr.orders_quest, Tr.orders_dollar, Tr.orders_tilde, Tr.orders_item1, Tr.orders_item2, Tr.orders_call0, Tr.orders_call1, Tr.orders_call2, List.mem_singleton] at ho; subst ho; exact kt
  | call0 => intro h o ho; simp only [Tr.orders_name, Tr.orders_text, Tr.orders_join, Tr.orders_plus, Tr.orders_alt, Tr.orders_dot, Tr.orders_neg, Tr.orders_quest, Tr.orders_dollar, Tr.orders_tilde, Tr.orders_item1, Tr.orders_item2, Tr.orders_call0, Tr.orders_call1, Tr.orders_call2, List.mem_singleton] at ho; subst ho; exact trivial
  | join l r i j | plus l r i j | alt l r i j | item1 l r i j | call2 l r i j =>
    intro h o ho
    simp only [Tr.fine_name, Tr.fine_text, Tr.fine_join, Tr.fine_plus, Tr.fine_alt, Tr.fine_dot, Tr.fine_neg, Tr.fine_quest, Tr.fine_dollar, Tr.fine_tilde, Tr.fine_item1, Tr.fine_item2, Tr.fine_call0, Tr.fine_call1, Tr.fine_call2, Bool.and_eq_true] at h
    simp only [Tr.orders_name, Tr.orders_text, Tr.orders_join, Tr.orders_plus, Tr.orders_alt, Tr.orders_dot, Tr.orders_neg, Tr.orders_quest, Tr.orders_dollar, Tr.orders_tilde, Tr.orders_item1, Tr.orders_item2, Tr.orders_call0, Tr.orders_call1, Tr.orders_call2, List.mem_append, List.mem_singleton] at ho
    rcases ho with (ho | ho) | rfl
    · exact i h.1 o ho
    · exact j h.2 o ho
    · first | exact trivial | exact k1 | exact k2
  | item2 q l r k i j =>
    intro h o ho
    simp only [Tr.fine_name, Tr.fine_text, Tr.fine_join, Tr.fine_plus, Tr.fine_alt, Tr.fine_dot, Tr.fine_neg, Tr.fine_quest, Tr.fine_dollar, Tr.fine_tilde, Tr.fine_item1, Tr.fine_item2, Tr.fine_call0, Tr.fine_call1, Tr.fine_call2, Bool.and_eq_true] at h
    simp only [Tr.orders_name, Tr.orders_text, Tr.orders_join, Tr.orders_plus, Tr.orders_alt, Tr.orders_dot, Tr.orders_neg, Tr.orders_quest, Tr.orders_dollar, Tr.orders_tilde, Tr.orders_item1, Tr.orders_item2, Tr.orders_call0, Tr.orders_call1, Tr.orders_call2, List.mem_append, List.mem_singleton] at ho
    rcases ho with (ho | ho | ho) | rfl
    · exact k h.1 o ho
    · exact i h.2.1 o ho
    · exact j h.2.2 o ho
    · exact trivial
  | dot l i =>
    intro h o ho
    simp only [Tr.orders_name, Tr.orders_text, Tr.orders_join, Tr.orders_plus, Tr.orders_alt, Tr.orders_dot, Tr.orders_neg, Tr.orders_quest, Tr.orders_dollar, Tr.orders_tilde, Tr.orders_item1, Tr.orders_item2, Tr.orders_call0, Tr.orders_call1, Tr.orders_call2, List.mem_append, List.mem_singleton] at ho
    rcases ho with (ho | rfl) | rfl
    · exact i h o ho
    · exact k3
    · exact trivial
  | neg l i | call1 l i =>
    intro h o ho
    simp only [Tr.orders_name, Tr.orders_text, Tr.orders_join, Tr.orders_plus, Tr.orders_alt, Tr.orders_dot, Tr.orders_neg, Tr.orders_quest, Tr.orders_dollar, Tr.orders_tilde, Tr.orders_item1, Tr.orders_item2, Tr.orders_call0, Tr.orders_call1, Tr.orders_call2, List.mem_append, List.mem_singleton] at ho
    rcases ho with ho | rfl
    · exact i h o ho
    · first | exact trivial | exact k4
  | quest l i =>
    intro h o ho
    simp only [Tr.orders_name, Tr.orders_text, Tr.orders_join, Tr.orders_plus, Tr.orders_alt, Tr.orders_dot, Tr.orders_neg, Tr.orders_quest, Tr.orders_dollar, Tr.orders_tilde, Tr.orders_item1, Tr.orders_item2, Tr.orders_call0, Tr.orders_call1, Tr.orders_call2, List.mem_append, List.mem_cons, List.not_mem_nil, or_false] at ho
    rcases ho with ho | rfl | rfl
    · exact i h o ho
    · exact trivial
    · exact ke
  | dollar l i =>
    intro h o ho
    simp only [Tr.orders_name, Tr.orders_text, Tr.orders_join, Tr.orders_plus, Tr.orders_alt, Tr.orders_dot, Tr.orders_neg, Tr.orders_quest, Tr.orders_dollar, Tr.orders_tilde, Tr.orders_item1, Tr.orders_item2, Tr.orders_call0, Tr.orders_call1, Tr.orders_call2, List.mem_append, List.mem_cons, List.not_mem_nil, or_false] at ho
    rcases ho with ho | rfl | rfl
    · exact i h o ho
    · exact trivial
    · exact trivial
  | tilde l i =>
    intro h o ho
    simp only [Tr.orders_name, Tr.orders_text, Tr.orders_join, Tr.orders_plus, Tr.orders_alt, Tr.orders_dot, Tr.orders_neg, Tr.orders_quest, Tr.orders_dollar, Tr.orders_tilde, Tr.orders_item1, Tr.orders_item2, Tr.orders_call0, Tr.orders_call1, Tr.orders_call2, List.mem_append, List.mem_cons, List.not_mem_nil, or_false] at ho
    rcases ho with (rfl | ho) | rfl | rfl | rfl
    · exact trivial
    · exact i h o ho
    · exact trivial
    · exact trivial
    · exact ke
theorem body_okay {k : Nat} {one other : Tr} (h1 : one.fine = true) (h2 : other.fine = true) : ∀ o ∈ bodyO k one other, o.okay := by
  have kv : PyData.strOk (ss "V") = true := by kernel_rfl!
  have a1 := tree_okay one h1
  have a2 := tree_okay other h2
  intro o ho
  match k with
  | 0 =>
    simp only [bodyO, List.mem_append, List.mem_singleton] at ho
    rcases ho with ho | rfl
    · exact a1 o ho
    · exact trivial
  | 1 =>
    simp only [bodyO, List.mem_append, List.mem_singleton] at ho
    rcases ho with (rfl | ho) | rfl
    · exact kv
    · exact a2 o ho
    · exact trivial
  | 2 =>
    simp only [bodyO, List.mem_append, List.mem_singleton] at ho
    rcases ho with (ho | ho) | rfl
    · exact a1 o ho
    · exact a2 o ho
    · exact trivial
  | k + 3 =>
    simp only [bodyO, List.mem_append, List.mem_cons, List.not_mem_nil, or_false] at ho
    rcases ho with ((((rfl | rfl | rfl) | ho) | rfl) | ho) | rfl
    · exact kv
    · exact trivial
    · exact trivial
    · exact a1 o ho
    · exact trivial
    · exact a2 o ho
    · exact trivial
section
variable {w : World} {A : Around} {s : Shared} {Q E : Value → Shared → Prop} {g : Heap} {L b c : Addr} {m : Str → Option Value} {post : List (Addr × Obj)} {cs : List Value} {turn n nc : Nat} {t u : Tok} {loose : List Str} {mean : ExcName → Option Value} {mg mb : Str → Option Value}
theorem box_ofL (X₀ : (K w.params).In g) (T : Top topProg loose mean mg mb g) (F : Fr g L s.heap m) (N : News g L s.heap ((b, boxO c turn t n) :: post)) (hc : (c, lstO cs nc) ∈ post) (off : OffB b post) (hi : ∃ ns, IntsAre cs ns) (hz : cs.length ≤ 100) : BoxPre w s.heap b c cs turn := by
  have hb := N _ (.head _)
  have k : StA g (hideAll s.heap [b]) := fun x o e => hideAll_get [b] (F.keep _ _ e) fun hx => by rw [List.mem_singleton.mp hx, hb.2.2] at e; cases e
  exact ⟨⟨X₀.keeps k, _, _, _, _, T.keeps k⟩, ⟨t, n, hb.1⟩, ⟨_, (N _ (.tail _ hc)).1, rfl, _, rfl⟩, hi, hz, off _ hc⟩
theorem use_pullL {many : Int} (hh : A.handled = none) (hd : A.depth + 2 < recursionLimit) (hu : A.units + 50 < cLine) (X₀ : (K w.params).In g) (T : Top topProg loose mean mg mb g) (F : Fr g L s.heap m) (N : News g L s.heap ((b, boxO c turn t n) :: post))
    (hc : (c, lstO cs nc) ∈ post) (off : OffB b post) (hi : ∃ ns, IntsAre cs ns) (hz : cs.length ≤ 100) (ht : turn ≤ 1000000) (h0 : 0 < many) (h1 : many < 100)
    (k : ∀ r t' h' tk t n, Fr g L h' m → News g L h' ((b, boxO c (turn + 1) t n) :: post) → 0 ≤ r → r < many → Q (.int r t') { s with heap := h', toks := tk }) :
    Stop (wpAny (model PG w) A (call (.ref 366) [.ref b, .int many u]) Q E s) := by
  refine pull_con w A s Q E b c cs turn many u hh hd hu (box_ofL X₀ T F N hc off hi hz) ht h0 h1 fun r t' h' tk st P a1 a2 => ?_
  obtain ⟨F', t'', n'', N'⟩ := box_keep F N (.head _) st P.2.1 fun p hp => ⟨.tail _ hp, off p hp⟩
  exact k r t' h' tk t'' n'' F' N' a1 a2
theorem use_treeL (d : Nat) {dv : Int} (hdv : dv = (d : Nat)) (hh : A.handled = none) (hd : A.depth + (5 * d + 8) < recursionLimit) (hu : A.units + (50 * d + 200) < cLine) (X₀ : (K w.params).In g) (T : Top topProg loose mean mg mb g) (F : Fr g L s.heap m) (N : News g L s.heap ((b, boxO c turn t n) :: post))
    (hc : (c, lstO cs nc) ∈ post) (off : OffB b post) (hi : ∃ ns, IntsAre cs ns) (hz : cs.length ≤ 100) (ht : turn + pulls d ≤ 1000000)
    (k : ∀ r h' tk turn' t n I tr, Fr g L h' m → News g L h' ((b, boxO c turn' t n) :: (post ++ I)) → OffB b I → (∀ p ∈ I, ∀ q ∈ post, p.1 ≠ q.1) → turn' ≤ turn + pulls d → Drawn I r d tr → Q r { s with heap := h', toks := tk }) :
    Stop (wpAny (model PG w) A (call (.ref 371) [.ref b, .int dv u]) Q E s) := by
  subst hdv
  refine tree_con w d A s Q E b c cs turn u hh hd hu (box_ofL X₀ T F N hc off hi hz) ht fun r h' tk turn' I tr st P le hI D => ?_
  obtain ⟨F', t'', n'', N'⟩ := box_keep F N (.head _) st P.2.1 fun p hp => ⟨.tail _ hp, off p hp⟩
  have apart : ∀ p ∈ I, ∀ q ∈ (b, boxO c turn t n) :: post, p.1 ≠ q.1 := fun p hp q hq e => by
    have := (hI p hp).2
    rw [e, (N q hq).1] at this; cases this
  refine k r h' tk turn' t'' n'' I tr F' (fun z hz => ?_) (fun p hp => apart p hp _ (.head _)) (fun p hp q hq => apart p hp q (.tail _ hq)) le D
  rcases List.mem_cons.mp hz with rfl | hz
  · exact N' _ (.head _)
  · rcases List.mem_append.mp hz with hz | hz
    · exact N' _ (.tail _ hz)
    · refine ⟨(hI z hz).1, fun e => ?_, ?_⟩
      · obtain ⟨o, _, _, ho, _⟩ := F.ns
        have := (hI z hz).2
        rw [e, ho] at this; cases this
      · cases q : g.get? z.1 with
        | none => rfl
        | some o => have := F.keep _ _ q; rw [(hI z hz).2] at this; cases this
end
end
section
set_option maxHeartbeats 0
set_option rowWalk.seconds 0

section
variable {prog : Program} {w : World} {A : Around} {cn : Str} {cs : Scope} {a : Addr} {cd : Value} {y : Str} {elts : List Expr} {kk : Nat} {px py pos : Pos} {body : List Stmt} {s : Shared} {Q : Flow → Shared → Prop}
    {g : Heap} {L : Addr} {m : Str → Option Value} {news : List (Addr × Obj)} {R : Addr} {items : List Value} {nR : Nat}
/-- for a, b, .. in y, y a list of the ledger that stays -/
theorem for_rows (J : Nat → (Str → Option Value) → List (Addr × Obj) → Prop) (hh : A.handled = none) (hrf : ∀ v ∈ items, ∃ T, v = .ref T) (hJR : ∀ i m nx, J i m nx → (R, lstO items nR) ∈ nx) (F : Fr g L s.heap m) (N : News g L s.heap news) (hy : m y = some (.ref R))
    (hk : cs.kind = .function) (hl : (envOf cn cs L a cd).kindOf y = some .local) (hd : (y == ("__debug__" : Str)) = false) (j : J 0 m news)
    (turn : ∀ i v m nx h tk I oI, items[i]? = some v → J i m nx → Fr g L h m → News g L h ((I, oI) :: nx) → (∀ p ∈ nx, p.1 ≠ I) →
      wpAny (model prog w) A (assign (.Tuple elts kk px) (envOf cn cs L a cd) v) (fun _ s₂ => wpAny (model prog w) A (execs body (envOf cn cs L a cd)) (FPost g L s I oI (J (i + 1)) Q) (fun _ _ => False) s₂) (fun _ _ => False) { s with heap := h, toks := tk })
    (done : ∀ m nx h tk, J items.length m nx → Fr g L h m → News g L h nx → Q .next { s with heap := h, toks := tk }) :
    wpAny (model prog w) A (exec (.For (.Tuple elts kk px) (.Name y py) body [] pos) (envOf cn cs L a cd)) Q (fun _ _ => False) s := by
  refine wpAny_For (ld F hy ?_ hk hl hd) (fun _ => rfl)
  have hR := N _ (hJR _ _ _ j)
  have hT' : s.heap.IsList R items.toArray := ⟨_, hR.1, rfl, _, rfl⟩
  have hlt : R < s.heap.objs.size := Heap.lt_size hR.1
  refine wpAny_pyIter_list hT' (codeAny_noErr ?_)
  have up : ∀ b o, s.heap.get? b = some o → (s.heap.push { cls := .type "list_iterator", data := .fields #[.ref R, .int 0 0] }).get? b = some o := fun b o e => Heap.get?_push_of_some _ e
  generalize hI : s.heap.objs.size = I
  have W := Walks.list (prog := prog) (w := w) (A := A) hh I R (by rw [← hI]; exact Nat.ne_of_lt hlt) items.toArray
  have hIL : L ≠ I := by rw [← hI]; exact Nat.ne_of_lt F.ns.lt
  have hgI : g.get? I = none := by rw [← hI]; exact next_is_new F
  have nocare : ∀ {e : Value} {s' : Shared} {P : Prop}, False → P := fun h => h.elim
  have F0 := F.keeps up
  have N0 := N.grown up
  have off0 : ∀ p ∈ news, p.1 ≠ I := fun p hp => by rw [← hI]; exact Nat.ne_of_lt (Heap.lt_size (N p hp).1)
  have st0 : (s.heap.push { cls := .type "list_iterator", data := .fields #[.ref R, .int 0 0] }).IsListIter I R 0 ∧ (s.heap.push { cls := .type "list_iterator", data := .fields #[.ref R, .int 0 0] }).IsList R items.toArray := by
    subst hI
    exact ⟨⟨_, Heap.get?_push_size _ rfl, rfl, rfl⟩, hT'.push _⟩
  refine codeAny_forLoop_any (ForI g L s I items.length (fun i h => h.IsListIter I R i ∧ h.IsList R items.toArray) J) ?_ items.length
    ⟨0, _, s.toks, m, news, rfl, Nat.zero_le _, rfl, st0, F0, N0, off0, j⟩
  rintro k s' ⟨i, h, tk, m, nx, rfl, hi, rfl, st, F, N, off, j⟩
  by_cases hlt : i < items.length
  · refine W.item i _ _ _ (by simpa using hlt) st fun v h' tk' hP hst' hk => ?_
    have F' := LCg.fr_but F hk hIL hgI
    have N' := LCg.news_but N hk off
    obtain ⟨oI, heI, rI⟩ := id hst'.1
    have hP2 : items[i]? = some v := by simpa using hP
    obtain ⟨T0, rfl⟩ := hrf v (List.mem_of_getElem? hP2)
    refine wpAny_letOwnedTupleGo_listiter (s := { s with heap := h', toks := tk' }) hst'.1 ?_
    refine wpAny_mono (turn i _ m nx h' tk' I oI hP2 j F' (fun p hp => ?_) off) (fun _ s₂ h₂ => wpAny_mono h₂ (fun f s₃ h₃ => ?_) fun _ _ e => e.elim) fun _ _ e => e.elim
    · rcases List.mem_cons.mp hp with rfl | hp
      · exact ⟨heI, Ne.symm hIL, hgI⟩
      · exact N' p hp
    · have go : (∃ h' tk' m' nx', s₃ = { s with heap := h', toks := tk' } ∧ Fr g L h' m' ∧ News g L h' ((I, oI) :: nx') ∧ (∀ p ∈ nx', p.1 ≠ I) ∧ J (i + 1) m' nx') →
          ∃ k', k' < items.length - i ∧ ForI g L s I items.length (fun i h => h.IsListIter I R i ∧ h.IsList R items.toArray) J k' s₃ := by
        rintro ⟨h₄, tk₄, m₄, nx₄, rfl, F₄, N₄, off₄, j₄⟩
        exact ⟨items.length - (i + 1), by first | exact Nat.sub_lt_sub_left ‹_› (Nat.lt_succ_self i) | omega, i + 1, h₄, tk₄, m₄, nx₄, rfl, hlt, rfl, ⟨⟨oI, (N₄ _ (.head _)).1, rI⟩, ⟨_, (N₄ _ (.tail _ (hJR _ _ _ j₄))).1, rfl, _, rfl⟩⟩, F₄, fun p hp => N₄ p (.tail _ hp), off₄, j₄⟩
      cases f with
      | next => exact go h₃
      | cont => exact go h₃
      | brk => exact h₃
      | ret v => exact h₃
  · obtain rfl : i = items.length := Nat.le_antisymm hi (Nat.not_lt.mp hlt)
    refine W.done _ _ _ (by simpa using st) fun h' tk' hk => ?_
    exact wpAny_execs_nil (done m nx h' tk' j (LCg.fr_but F hk hIL hgI) (LCg.news_but N hk off))
end
end
section
set_option maxHeartbeats 0
set_option rowWalk.seconds 0

theorem neI_ff {prog : Program} {w : World} {A : Around} {E : Value → Shared → Prop} {s : Shared} {a b : Int} {t u : Tok} {Q : Value → Shared → Prop} (e : a = b) (h : Q (.bool false) s) : wpAny (model prog w) A (compareOp .NotEq (.int a t) (.int b u)) Q E s := PyProof.Rows.ne_int (by rw [show (a != b) = false by simp [e]]; exact h)
local macro_rules | `(tactic| walk_at "ite") => `(tactic| (first | with_reducible refine ite_posE (by omega) ?_ | with_reducible refine ite_negE (by omega) ?_))
local macro_rules | `(tactic| walk_at "compareOp NotEq int int") => `(tactic| (k_dflt (refine neI_ff (by omega) ?_)))
local macro_rules | `(tactic| walk_at "isTrue Compare") => `(tactic| (k_dflt (refine wpAny_isTrue_Compare1 ?_)))
/-- a row of the law: its orders, what is due, is it all -/
inductive RowS (S : Sto) (T : Addr) (os : List Ord) (due : Int) (b : Bool) : Prop
  | mk (a : Addr) (v : List Value) (n : Nat) (u : Tok) (hT : TupS S T [.ref a, .int due u, .bool b]) (ha : S a (lstO v n)) (hO : OrdsS S v os)
theorem RowS.mono {S S' : Sto} (k : ∀ a o, S a o → S' a o) {T : Addr} {os : List Ord} {due : Int} {b : Bool} (x : RowS S T os due b) : RowS S' T os due b := let ⟨a, v, n, u, h1, h2, h3⟩ := x; ⟨a, v, n, u, h1.mono k, k _ _ h2, h3.mono k⟩
noncomputable def D4 (m : Str → Option Value) (vo vd vi vc : Option Value) : Str → Option Value := fun y => if y = ss "climbed" then vc else if y = ss "is_all" then vi else if y = ss "due" then vd else if y = ss "orders" then vo else m y
theorem D4_self (m : Str → Option Value) : m = D4 m (m (ss "orders")) (m (ss "due")) (m (ss "is_all")) (m (ss "climbed")) := by
  funext y
  unfold D4
  (repeat' split) <;> simp_all
theorem D4_turn {m : Str → Option Value} {vo vd vi vc a b c d : Option Value} : (fun y => if y = PySem.Str.ofString "climbed" then d else if y = PySem.Str.ofString "is_all" then c else if y = PySem.Str.ofString "due" then b else if y = PySem.Str.ofString "orders" then a else D4 m vo vd vi vc y) = D4 m a b c d := by
  funext y
  unfold D4
  by_cases h1 : y = ss "climbed"
  · simp [h1]
  · by_cases h2 : y = ss "is_all"
    · simp [h1, h2]
    · by_cases h3 : y = ss "due"
      · simp [h1, h2, h3]
      · simp only [h1, h2, h3, if_false]
        by_cases h4 : y = ss "orders"
        · simp [h4]
        · simp [h4]
theorem news_two {g h : Heap} {L : Addr} {a b : Addr × Obj} {r : List (Addr × Obj)} (N : News g L h (a :: b :: r)) : News g L h (b :: a :: r) := fun p hp => N p (by
  simp only [List.mem_cons] at hp ⊢
  rcases hp with h | h | h <;> simp only [h, true_or, or_true])
/-- between the turns: the table, the rows, the rest -/
inductive RJ (m : Str → Option Value) (R T1 T2 : Addr) (nR : Nat) (Z : List (Addr × Obj)) (i : Nat) (m' : Str → Option Value) (nx : List (Addr × Obj)) : Prop
  | mk (vo vd vi vc : Option Value) (ps : Array Value) (X : List (Addr × Obj)) (em : m' = D4 m vo vd vi vc) (en : nx = (390, tabObj ps) :: (R, lstO [.ref T1, .ref T2] nR) :: X) (hZ : ∀ p ∈ Z, p ∈ X) (f3 : OffB 390 X) (fR : OffB R X)
    (hps : (i = 0 ∧ ps = #[]) ∨ (1 ≤ i ∧ ∃ c oc ovs t, ps = tabL c ∧ (c, oc) ∈ X ∧ oc.data = .fields ovs ∧ ovs[1]? = some (.str lamQ t)))
theorem law_loop {w : World} {A : Around} {s : Shared} {Q : Flow → Shared → Prop} {g : Heap} {L fa R T1 T2 : Addr} {cd : Value} {loose : List Str} {mean : ExcName → Option Value} {mg mb : Str → Option Value} {m : Str → Option Value} {nR : Nat} {Z : List (Addr × Obj)} {os1 os2 : List Ord} {due1 due2 : Int} {b1 b2 : Bool}
    (hh : A.handled = none) (hd : A.depth + 120 < recursionLimit) (hu : A.units + 7000 < cLine) (X : (K w.params).In g) (T : Top topProg loose mean mg mb g) (hC : CodeHd g 394 390) (F : Fr g L s.heap m) (hm : m (ss "rows") = some (.ref R))
    (N : News g L s.heap ((390, tabObj #[]) :: (R, lstO [.ref T1, .ref T2] nR) :: Z)) (o3 : OffB 390 Z) (oR : OffB R Z) (nR3 : @Ne Nat R 390)
    (r1 : RowS (IS Z) T1 os1 due1 b1) (k1 : RowOk os1 due1 b1) (ok1 : ∀ o ∈ os1, o.okay) (l1 : os1.length ≤ 100000) (r2 : RowS (IS Z) T2 os2 due2 b2) (k2 : RowOk os2 due2 b2) (ok2 : ∀ o ∈ os2, o.okay) (l2 : os2.length ≤ 100000)
    (k : ∀ h' tk m' ps nx, Fr g L h' m' → News g L h' ((390, tabObj ps) :: nx) → Q .next { s with heap := h', toks := tk }) :
    wpAny (model PG w) A (exec (nthS (bodyS (topS 31)) 9) (envOf (ss "law") (scoS (topS 31)) L fa cd)) Q (fun _ _ => False) s := by
  generalize hB : nthS (bodyS (topS 31)) 9 = B
  conv at hB => lhs; whnf
  subst hB
  generalize hSS : scoS (topS 31) = S
  conv at hSS => lhs; whnf
  subst hSS
  rw [D4_self m] at F
  refine for_rows (R := R) (items := [.ref T1, .ref T2]) (nR := nR) (RJ m R T1 T2 nR Z) hh (fun v hv => ?_) (fun i m nx j => ?_) F N ?_ rfl rfl rfl ?_ ?_ ?_
  · simp only [List.mem_cons, List.not_mem_nil, or_false] at hv
    rcases hv with rfl | rfl <;> exact ⟨_, rfl⟩
  · obtain ⟨_, _, _, _, _, _, _, rfl, _⟩ := j
    exact .tail _ (.head _)
  · rw [← D4_self m]; exact hm
  · exact ⟨_, _, _, _, _, _, rfl, rfl, fun _ h => h, o3, oR, .inl ⟨rfl, rfl⟩⟩
  · rintro i v m' nx h tk I oI hv ⟨vo, vd, vi, vc, ps, XX, rfl, rfl, hZ, f3, fR, hps⟩ F N off
    have i3 : @Ne Nat 390 I := off _ (.head _)
    have iR : @Ne Nat R I := off _ (.tail _ (.head _))
    have iX : OffB I XX := fun p hp => off p (.tail _ (.tail _ hp))
    match i, hv with
    | 0, hv =>
      cases hv
      rcases hps with ⟨-, rfl⟩ | ⟨h01, _⟩
      rotate_left
      · exact absurd h01 (by decide)
      obtain ⟨a, v, n_, u, hT, ha, hO⟩ := (r1.mono (fun _ _ e => hZ _ e) : RowS (IS XX) T1 os1 due1 b1)
      obtain ⟨hdep, n, r, hr, hle, heq⟩ := k1
      refine unpackN_ F N (hT.mono fun a o e => (N (a, o) (.tail _ (.tail _ (.tail _ e)))).1).heap (by exact hh) rfl rfl ?_
      clear F N
      intro h1 F N
      k_steps
      rename News _ _ _ _ => N
      refine use_oc (own := [(390, tabObj #[])]) (rest := (I, oI) :: (R, lstO [.ref T1, .ref T2] nR) :: XX) (climb_miss w os1 a r n hr ok1 l1) (by exact hh) (by first | exact dl0 hd (by decide) | exact dh ‹_› ‹_› (by decide) | exact dh0 ‹_› ‹_› (by decide) | exact dhs ‹_› ‹_› (by decide) | exact dm0 ‹_› ‹_› (by decide) | exact dl3 ‹_› (by decide) | exact dlt2 ‹_› (by decide) | omega) (by first | exact dl0 hu (by decide) | exact dh ‹_› ‹_› (by decide) | exact dh0 ‹_› ‹_› (by decide) | exact dhs ‹_› ‹_› (by decide) | exact dm0 ‹_› ‹_› (by decide) | exact dl3 ‹_› (by decide) | exact dlt2 ‹_› (by decide) | omega) X T (by assumption) (news_two N) (.cons (List.forall_mem_cons.mpr ⟨Ne.symm i3, List.forall_mem_cons.mpr ⟨nR3, f3⟩⟩) .nil_left)
        (fun st hq => ⟨hC.keeps st, v, ⟨_, hq (a, lstO v n_) (.tail _ (.tail _ ha)), rfl, _, rfl⟩, hO.mono fun a o e => hq (a, o) (.tail _ (.tail _ e))⟩) ?_
      intro PQ
      clear N
      rintro v2 h2 tk2 own2 F N ap2 ⟨tr, lc, oc, ovs, tq, rfl, rfl, hod, hov, hlc⟩
      dsimp only [List.cons_append, List.nil_append] at N
      k_steps
      rename News _ _ _ _ => N
      refine use_pure (depth_con w os1 a) (by exact hh) (by first | exact dl0 hd (by decide) | exact dh ‹_› ‹_› (by decide) | exact dh0 ‹_› ‹_› (by decide) | exact dhs ‹_› ‹_› (by decide) | exact dm0 ‹_› ‹_› (by decide) | exact dl3 ‹_› (by decide) | exact dlt2 ‹_› (by decide) | omega) (by first | exact dl0 hu (by decide) | exact dh ‹_› ‹_› (by decide) | exact dh0 ‹_› ‹_› (by decide) | exact dhs ‹_› ‹_› (by decide) | exact dm0 ‹_› ‹_› (by decide) | exact dl3 ‹_› (by decide) | exact dlt2 ‹_› (by decide) | omega) X T (by assumption) N ⟨v, ⟨_, (N (a, lstO v n_) (.tail _ (.tail _ (.tail _ (.tail _ ha))))).1, rfl, _, rfl⟩, hO.mono fun a o e => (N (a, o) (.tail _ (.tail _ (.tail _ (.tail _ e))))).1⟩ ?_
      intro PQ
      clear N
      rintro r3 h3 tk3 I3 F N hne3 ⟨t3, rfl⟩
      replace N := News.left N
      cases b1
      all_goals (
        first | (have heq2 := heq rfl) | skip
        k_steps
        rename Fr _ _ _ _ => F
        rw [D4_turn] at F
        exact FPost.next (nx' := (390, tabObj (tabL lc)) :: (R, lstO [.ref T1, .ref T2] nR) :: ((lc, oc) :: XX)) F (by assumption) (fun p hp => by simp only [List.mem_cons] at hp ⊢; rcases hp with h | h | h | h | h <;> simp only [h, true_or, or_true]) (List.forall_mem_cons.mpr ⟨i3, List.forall_mem_cons.mpr ⟨iR, List.forall_mem_cons.mpr ⟨ap2 _ (.tail _ (.head _)) _ (.head _), iX⟩⟩⟩) ⟨_, _, _, _, _, _, rfl, rfl, fun p hp => .tail _ (hZ p hp), .cons hlc f3, .cons (ap2 (lc, oc) (.tail _ (.head _)) _ (.tail _ (.head _))) fR, .inr ⟨by decide, lc, oc, ovs, tq, rfl, .head _, hod, hov⟩⟩)
    | 1, hv =>
      cases hv
      rcases hps with ⟨h01, -⟩ | ⟨-, c, oc, ovs, tq, rfl, hcm, hod, hov⟩
      · exact absurd h01 (by decide)
      obtain ⟨a, v, n_, u, hT, ha, hO⟩ := (r2.mono (fun _ _ e => hZ _ e) : RowS (IS XX) T2 os2 due2 b2)
      obtain ⟨hdep, n, r, hr, hle, heq⟩ := k2
      refine unpackN_ F N (hT.mono fun a o e => (N (a, o) (.tail _ (.tail _ (.tail _ e)))).1).heap (by exact hh) rfl rfl ?_
      clear F N
      intro h1 F N
      k_steps
      rename News _ _ _ _ => N
      refine use_oc (own := [(390, tabObj (tabL c))]) (rest := (I, oI) :: (R, lstO [.ref T1, .ref T2] nR) :: XX) (climb_hit w os2 a r n hr ok2 c l2) (by exact hh) (by first | exact dl0 hd (by decide) | exact dh ‹_› ‹_› (by decide) | exact dh0 ‹_› ‹_› (by decide) | exact dhs ‹_› ‹_› (by decide) | exact dm0 ‹_› ‹_› (by decide) | exact dl3 ‹_› (by decide) | exact dlt2 ‹_› (by decide) | omega) (by first | exact dl0 hu (by decide) | exact dh ‹_› ‹_› (by decide) | exact dh0 ‹_› ‹_› (by decide) | exact dhs ‹_› ‹_› (by decide) | exact dm0 ‹_› ‹_› (by decide) | exact dl3 ‹_› (by decide) | exact dlt2 ‹_› (by decide) | omega) X T (by assumption) (news_two N) (.cons (List.forall_mem_cons.mpr ⟨Ne.symm i3, List.forall_mem_cons.mpr ⟨nR3, f3⟩⟩) .nil_left)
        (fun st hq => ⟨hC.keeps st, ⟨c, oc, ovs, tq, rfl, hq (c, oc) (.tail _ (.tail _ hcm)), hod, hov⟩, v, ⟨_, hq (a, lstO v n_) (.tail _ (.tail _ ha)), rfl, _, rfl⟩, hO.mono fun a o e => hq (a, o) (.tail _ (.tail _ e))⟩) ?_
      intro PQ
      clear N
      rintro v2 h2 tk2 own2 F N ap2 ⟨tr, rfl, rfl⟩
      dsimp only [List.cons_append, List.nil_append] at N
      k_steps
      rename News _ _ _ _ => N
      refine use_pure (depth_con w os2 a) (by exact hh) (by first | exact dl0 hd (by decide) | exact dh ‹_› ‹_› (by decide) | exact dh0 ‹_› ‹_› (by decide) | exact dhs ‹_› ‹_› (by decide) | exact dm0 ‹_› ‹_› (by decide) | exact dl3 ‹_› (by decide) | exact dlt2 ‹_› (by decide) | omega) (by first | exact dl0 hu (by decide) | exact dh ‹_› ‹_› (by decide) | exact dh0 ‹_› ‹_› (by decide) | exact dhs ‹_› ‹_› (by decide) | exact dm0 ‹_› ‹_› (by decide) | exact dl3 ‹_› (by decide) | exact dlt2 ‹_› (by decide) | omega) X T (by assumption) N ⟨v, ⟨_, (N (a, lstO v n_) (.tail _ (.tail _ (.tail _ ha)))).1, rfl, _, rfl⟩, hO.mono fun a o e => (N (a, o) (.tail _ (.tail _ (.tail _ e)))).1⟩ ?_
      intro PQ
      clear N
      rintro r3 h3 tk3 I3 F N hne3 ⟨t3, rfl⟩
      replace N := News.left N
      cases b2
      all_goals (
        first | (have heq2 := heq rfl) | skip
        k_steps
        rename Fr _ _ _ _ => F
        rw [D4_turn] at F
        exact FPost.next (nx' := (390, tabObj (tabL c)) :: (R, lstO [.ref T1, .ref T2] nR) :: XX) F (by assumption) (fun p hp => by simp only [List.mem_cons] at hp ⊢; rcases hp with h | h | h | h <;> simp only [h, true_or, or_true]) (List.forall_mem_cons.mpr ⟨i3, List.forall_mem_cons.mpr ⟨iR, iX⟩⟩) ⟨_, _, _, _, _, _, rfl, rfl, hZ, f3, fR, .inr ⟨by decide, c, oc, ovs, tq, rfl, hcm, hod, hov⟩⟩)
    | i + 2, hv => simp at hv
  · rintro m' nx h tk ⟨_, _, _, _, ps, XX, rfl, rfl, _⟩ F N
    exact k _ _ _ ps _ F N
end
section
set_option maxHeartbeats 0
set_option rowWalk.seconds 0

local macro_rules | `(tactic| walk_at "exec For") => `(tactic| walk_at "call ref")
local macro_rules | `(tactic| walk_at "CompSrc") => `(tactic| walk_at "call ref")
local macro_rules | `(tactic| walk_at "eval ListComp") => `(tactic| (k_dflt (refine LCg.ListComp_U (F₀ := by k_asm) (by with_unfolding_all rfl) (by decide) (by rfl) (by decide) (by rfl) ?_)))
local macro_rules | `(tactic| k_all) => `(tactic| assumption)
local macro_rules | `(tactic| walk_at "unpackItems ref") => `(tactic| walk_at "call ref")
theorem absorb2 {g h : Heap} {L : Addr} {p q : Addr × Obj} {Z I : List (Addr × Obj)} (N : News g L h ((p :: q :: Z) ++ I)) (o1 : OffB p.1 Z) (o2 : OffB q.1 Z) (hne : ∀ x ∈ I, ∀ y ∈ p :: q :: Z, y.1 ≠ x.1) :
    ∃ Z', (∀ x ∈ Z, x ∈ Z') ∧ (∀ x ∈ I, x ∈ Z') ∧ OffB p.1 Z' ∧ OffB q.1 Z' ∧ News g L h (p :: q :: Z') :=
  ⟨Z ++ I, fun _ h => List.mem_append_left _ h, fun _ h => List.mem_append_right _ h, o1.app fun x hx => Ne.symm (hne x hx _ (.head _)), o2.app fun x hx => Ne.symm (hne x hx _ (.tail _ (.head _))), N⟩
theorem absorb3 {g h : Heap} {L : Addr} {p q r : Addr × Obj} {Z I : List (Addr × Obj)} (N : News g L h ((p :: q :: r :: Z) ++ I)) (o1 : OffB p.1 Z) (o2 : OffB q.1 Z) (o3 : OffB r.1 Z) (hne : ∀ x ∈ I, ∀ y ∈ p :: q :: r :: Z, y.1 ≠ x.1) :
    ∃ Z', (∀ x ∈ Z, x ∈ Z') ∧ (∀ x ∈ I, x ∈ Z') ∧ OffB p.1 Z' ∧ OffB q.1 Z' ∧ OffB r.1 Z' ∧ News g L h (p :: q :: r :: Z') :=
  ⟨Z ++ I, fun _ h => List.mem_append_left _ h, fun _ h => List.mem_append_right _ h, o1.app fun x hx => Ne.symm (hne x hx _ (.head _)), o2.app fun x hx => Ne.symm (hne x hx _ (.tail _ (.head _))), o3.app fun x hx => Ne.symm (hne x hx _ (.tail _ (.tail _ (.head _)))), N⟩
theorem off_lt {D : Addr} {Z : List (Addr × Obj)} (h : AllLt D Z) : OffB D Z := fun p hp => by
  induction Z with
  | nil => cases hp
  | cons q r ih =>
    rcases List.mem_cons.mp hp with rfl | hp
    · exact Nat.ne_of_lt h.1
    · exact ih h.2 hp
theorem drawn_len {I : List (Addr × Obj)} {r : Value} {d : Nat} {t : Tr} (D : Drawn I r d t) (h : d ≤ 3) : t.orders.length ≤ 256 := by
  have h1 := orders_len t
  have h2 := D.ht
  have : 4 ^ (t.ht + 1) ≤ 4 ^ 4 := Nat.pow_le_pow_right (by omega) (by omega)
  omega

inductive MarkS : Prop
  | mk
local macro_rules | `(tactic| walk_at "eval BoolOp") => `(tactic| ((with_reducible rename MarkS => hMS); refine Stop.of ?_))
noncomputable def BEnd (g : Heap) (L : Addr) (s : Shared) (m : Str → Option Value) (nx : List (Addr × Obj)) (b : Bool) (v : Value) (s' : Shared) : Prop := v = .bool b ∧ ∃ h tk, s' = { s with heap := h, toks := tk } ∧ Fr g L h m ∧ News g L h nx
theorem BEnd.mk {g : Heap} {L : Addr} {s : Shared} {m : Str → Option Value} {nx : List (Addr × Obj)} {b x : Bool} {h : Heap} {tk : Nat} (e : x = b) (F : Fr g L h m) (N : News g L h nx) : BEnd g L s m nx b (.bool x) { s with heap := h, toks := tk } := ⟨by rw [e], h, tk, rfl, F, N⟩
theorem b_mid {M : Model} {A : Around} {E : Value → Shared → Prop} {Q : Value → Shared → Prop} {x : Sem Value} {s : Shared} {g : Heap} {L : Addr} {m : Str → Option Value} {nx : List (Addr × Obj)} (b : Bool) (F : Fr g L s.heap m) (N : News g L s.heap nx)
    (h : wpAny M A x (BEnd g L s m nx b) E s) (k : ∀ h tk, Fr g L h m → News g L h nx → Q (.bool b) { s with heap := h, toks := tk }) : wpAny M A x Q E s :=
  wpAny_mono h (fun v s' q => by obtain ⟨rfl, h, tk, rfl, F, N⟩ := q; exact k _ _ F N) fun _ _ e => e
theorem news_rot3 {g h : Heap} {L : Addr} {a b c : Addr × Obj} {r : List (Addr × Obj)} (N : News g L h (a :: b :: c :: r)) : News g L h (b :: c :: a :: r) := fun p hp => N p (by
  simp only [List.mem_cons] at hp ⊢
  rcases hp with h | h | h | h <;> simp only [h, true_or, or_true])
/-- a tuple stands where a statement is put aside -/
theorem hide_tuple {g h : Heap} {L st sd : Addr} {o1 o2 : Obj} {nx : List (Addr × Obj)} (N : News g L h nx) (m1 : (st, o1) ∈ nx) (m2 : (sd, o2) ∈ nx) (c1 : o1.cls ≠ .type "tuple") (c2 : o2.cls ≠ .type "tuple") {a : Addr} {o : Obj} (ma : (a, o) ∈ nx) (hc : o.cls = .type "tuple") : (hideAll h (ads [(st, o1), (sd, o2)])).get? a = some o :=
  hideAll_get _ (N _ ma).1 fun hm => by
    have hm' : a ∈ [st, sd] := hm
    simp only [List.mem_cons, List.not_mem_nil, or_false] at hm'
    rcases hm' with rfl | rfl
    · have := (N _ m1).1; rw [(N _ ma).1] at this; cases this; exact c1 hc
    · have := (N _ m2).1; rw [(N _ ma).1] at this; cases this; exact c2 hc
theorem body_len (k : Nat) (one other : Tr) : (bodyO k one other).length ≤ one.orders.length + other.orders.length + 6 := by
  unfold bodyO
  split <;> simp only [List.length_append, List.length_cons, List.length_nil] <;> omega
theorem law_run {w : World} {A : Around} {s : Shared} {Q : Flow → Shared → Prop} {g : Heap} {L sl fa : Addr} {cd : Value} {loose : List Str} {mean : ExcName → Option Value} {mg mb : Str → Option Value} {vs : List Value} {ns : List Int}
    (hh : A.handled = none) (hd : A.depth + 200 < recursionLimit) (hu : A.units + 8000 < cLine) (X : (K w.params).In g) (T : Top topProg loose mean mg mb g) (hC : CodeHd g 394 390) (hS : g.IsList sl vs.toArray) (hI : IntsAre vs ns) (hn : ns.length ≤ 63)
    (F : Fr g L s.heap (fun x => List.lookup x [(ss "script", Value.ref sl)].reverse)) (N : News g L s.heap [(390, tabObj #[])])
    (k : ∀ h' tk m ps nx, Fr g L h' m → News g L h' ((390, tabObj ps) :: nx) → Q (.ret (.bool true)) { s with heap := h', toks := tk }) :
    wpAny (model PG w) A (execs (bodyS (topS 31)) (envOf (ss "law") (scoS (topS 31)) L fa cd)) Q (fun _ _ => False) s := by
  generalize hB : bodyS (topS 31) = B
  conv at hB => lhs; whnf
  subst hB
  generalize hSS : scoS (topS 31) = S
  conv at hSS => lhs; whnf
  subst hSS
  k_steps
  rename List Value => ws
  rename _ = min _ _ => hmin
  rename IntsAre ws _ => hW
  have hwl := hW.length
  refine Stop.of (LCg.CompSrc.ledger (by exact hh) (by assumption) (by assumption) (by k_mem) (by rw [List.size_toArray, sizeLine_eq]; omega) fun g2 => ?_)
  rw [List.size_toArray]
  refine rest_I ?_ hW ?_ ?_ _ 0 [] (by first | exact ar_le ‹_› (by decide) | exact ar_lt ‹_› (by decide) | exact lrA ‹_› ‹_› ‹_› | exact lrB ‹_› ‹_› ‹_› ‹_› | omega) rfl ⟨_, .nil⟩
  · exact .inr ⟨_, by k_mem, rfl, _, rfl⟩
  · intro n t I oI C oC D oD m₂ h tk E' hCo hx F N
    k_steps
    exact EltEnd.mk (by assumption) (by assumption) (fun _ h => h) ⟨_, _, rfl⟩
  try clear F
  try clear N
  intro cs hcs hci D h tk F N off
  have Dn : @Ne Nat D 390 := Ne.symm (off.2.1)
  k_steps
  rename News _ _ _ _ => N
  rename Fr _ _ _ _ => F
  rename _ ∧ _ => lb
  rename_i b h1 h1b
  obtain ⟨lb1, lb2, lb3⟩ := lb
  -- the tree
  have hcs100 : cs.length ≤ 100 := by omega
  refine use_treeL (b := b) (c := D) (cs := cs) (turn := 0) (post := [(390, tabObj #[]), (D, lstO cs cs.length)]) 3 (by rfl) (by exact hh) (by first | exact dl0 hd (by decide) | exact dh ‹_› ‹_› (by decide) | exact dh0 ‹_› ‹_› (by decide) | exact dhs ‹_› ‹_› (by decide) | exact dm0 ‹_› ‹_› (by decide) | exact dl3 ‹_› (by decide) | exact dlt2 ‹_› (by decide) | omega) (by first | exact dl0 hu (by decide) | exact dh ‹_› ‹_› (by decide) | exact dh0 ‹_› ‹_› (by decide) | exact dhs ‹_› ‹_› (by decide) | exact dm0 ‹_› ‹_› (by decide) | exact dl3 ‹_› (by decide) | exact dlt2 ‹_› (by decide) | omega) X T F (Mine.News.sub N (by lcg_sub)) (.tail _ (.head _)) (.cons (Nat.ne_of_lt lb3) (.cons (Nat.ne_of_lt lb1) .nil)) hci (by first | exact ar_le ‹_› (by decide) | exact ar_lt ‹_› (by decide) | exact lrA ‹_› ‹_› ‹_› | exact lrB ‹_› ‹_› ‹_› ‹_› | omega) (by decide) ?_
  clear F N
  intro tv h2 tk2 turn2 t2 n2 I1 tr1 F N offI1 apI1 le1 D1
  obtain ⟨Z, zc, zI, zb, z3, N⟩ : ∃ Z, (D, lstO cs cs.length) ∈ Z ∧ (∀ p ∈ I1, p ∈ Z) ∧ OffB b Z ∧ OffB 390 Z ∧ News g L h2 ((b, boxO D turn2 t2 n2) :: (390, tabObj #[]) :: Z) :=
    ⟨(D, lstO cs cs.length) :: I1, List.Mem.head _, fun p h => List.Mem.tail _ h, .cons (Nat.ne_of_lt lb1) offI1, .cons Dn fun p hp => apI1 p hp _ (.head _), N⟩
  have len1 := drawn_len D1 (by decide)
  have ht1 := D1.ht
  k_steps
  rename News _ _ _ _ => N
  refine use_pure (value_con w tr1 (by first | exact ar_le ‹_› (by decide) | exact ar_lt ‹_› (by decide) | exact lrA ‹_› ‹_› ‹_› | exact lrB ‹_› ‹_› ‹_› ‹_› | omega) tv) (by exact hh) (by first | exact dl0 hd (by decide) | exact dh ‹_› ‹_› (by decide) | exact dh0 ‹_› ‹_› (by decide) | exact dhs ‹_› ‹_› (by decide) | exact dm0 ‹_› ‹_› (by decide) | exact dl3 ‹_› (by decide) | exact dlt2 ‹_› (by decide) | omega) (by first | exact dl0 hu (by decide) | exact dh ‹_› ‹_› (by decide) | exact dh0 ‹_› ‹_› (by decide) | exact dhs ‹_› ‹_› (by decide) | exact dm0 ‹_› ‹_› (by decide) | exact dl3 ‹_› (by decide) | exact dlt2 ‹_› (by decide) | omega) X T (by assumption) (by assumption) (D1.tree.mono fun a o e => (N (a, o) (.tail _ (.tail _ (zI _ e)))).1) ?_
  intro PQ
  rintro r3 h3 tk3 J3 F3 N3 hne3 ⟨a1, v1, k1, rfl, ma1, oo1⟩
  clear N
  obtain ⟨Z2, zz2, zi2, zb2, z32, N⟩ := absorb2 N3 zb z3 hne3
  have zc2 := zz2 _ zc
  clear N3
  k_steps
  rename News _ _ _ _ => N
  refine use_pure (high_con w 11 tr1 (by first | exact ar_le ‹_› (by decide) | exact ar_lt ‹_› (by decide) | exact lrA ‹_› ‹_› ‹_› | exact lrB ‹_› ‹_› ‹_› ‹_› | omega) tv) (by exact hh) (by first | exact dl0 hd (by decide) | exact dh ‹_› ‹_› (by decide) | exact dh0 ‹_› ‹_› (by decide) | exact dhs ‹_› ‹_› (by decide) | exact dm0 ‹_› ‹_› (by decide) | exact dl3 ‹_› (by decide) | exact dlt2 ‹_› (by decide) | omega) (by first | exact dl0 hu (by decide) | exact dh ‹_› ‹_› (by decide) | exact dh0 ‹_› ‹_› (by decide) | exact dhs ‹_› ‹_› (by decide) | exact dm0 ‹_› ‹_› (by decide) | exact dl3 ‹_› (by decide) | exact dlt2 ‹_› (by decide) | omega) X T (by assumption) (by assumption) (D1.tree.mono fun a o e => (N (a, o) (.tail _ (.tail _ (zz2 _ (zI _ e))))).1) ?_
  intro PQ
  rintro r4 h4 tk4 J4 F4 N4 hne4 ⟨tu, rfl⟩
  clear N
  replace N4 := News.left N4
  k_steps
  rename News _ _ _ _ => N
  refine use_pure (sharp_con w 11 tr1 D1.fine (by first | exact ar_le ‹_› (by decide) | exact ar_lt ‹_› (by decide) | exact lrA ‹_› ‹_› ‹_› | exact lrB ‹_› ‹_› ‹_› ‹_› | omega) (by first | exact ar_le ‹_› (by decide) | exact ar_lt ‹_› (by decide) | exact lrA ‹_› ‹_› ‹_› | exact lrB ‹_› ‹_› ‹_› ‹_› | omega) tv) (by exact hh) (by first | exact dl0 hd (by decide) | exact dh ‹_› ‹_› (by decide) | exact dh0 ‹_› ‹_› (by decide) | exact dhs ‹_› ‹_› (by decide) | exact dm0 ‹_› ‹_› (by decide) | exact dl3 ‹_› (by decide) | exact dlt2 ‹_› (by decide) | omega) (by first | exact dl0 hu (by decide) | exact dh ‹_› ‹_› (by decide) | exact dh0 ‹_› ‹_› (by decide) | exact dhs ‹_› ‹_› (by decide) | exact dm0 ‹_› ‹_› (by decide) | exact dl3 ‹_› (by decide) | exact dlt2 ‹_› (by decide) | omega) X T (by assumption) (by assumption) (D1.tree.mono fun a o e => (N (a, o) (.tail _ (.tail _ (zz2 _ (zI _ e))))).1) ?_
  intro PQ
  rintro r5 h5 tk5 J5 F5 N5 hne5 rfl
  clear N
  replace N5 := News.left N5
  k_steps
  rename News _ _ _ _ => N
  rename Fr _ _ _ _ => F
  rename_i T1 g6 lT R g7 lR g8
  obtain ⟨lT1, lT2, lT3⟩ := lT
  obtain ⟨lR1, lR2, lR3, lR4⟩ := lR
  obtain ⟨Z3, zz3, zT, zb3, z33, zR3, N⟩ : ∃ Z, (∀ x ∈ Z2, x ∈ Z) ∧ ((T1, ({ cls := .type "tuple", data := .seq #[.ref a1, .int tr1.high tu, .bool tr1.sharp] } : Obj)) ∈ Z) ∧ OffB b Z ∧ OffB 390 Z ∧ OffB R Z ∧ News g L g8 ((b, boxO D turn2 t2 n2) :: (390, tabObj #[]) :: (R, lstO [.ref T1] 0) :: Z) :=
    ⟨(T1, _) :: Z2, fun _ h => List.Mem.tail _ h, List.Mem.head _, .cons (Nat.ne_of_gt lT1) zb2, .cons (Nat.ne_of_gt lT2) z32, .cons (Nat.ne_of_lt lR1) (off_lt lR4), fun p hp => N p (by
      simp only [List.mem_cons] at hp ⊢
      rcases hp with h | h | h | h | h <;> simp only [h, true_or, or_true])⟩
  have hp3 : pulls 3 = 53 := rfl
  have hp2 : pulls 2 = 17 := rfl
  -- the kind
  refine use_pullL (b := b) (c := D) (cs := cs) (turn := turn2) (by exact hh) (by first | exact dl0 hd (by decide) | exact dh ‹_› ‹_› (by decide) | exact dh0 ‹_› ‹_› (by decide) | exact dhs ‹_› ‹_› (by decide) | exact dm0 ‹_› ‹_› (by decide) | exact dl3 ‹_› (by decide) | exact dlt2 ‹_› (by decide) | omega) (by first | exact dl0 hu (by decide) | exact dh ‹_› ‹_› (by decide) | exact dh0 ‹_› ‹_› (by decide) | exact dhs ‹_› ‹_› (by decide) | exact dm0 ‹_› ‹_› (by decide) | exact dl3 ‹_› (by decide) | exact dlt2 ‹_› (by decide) | omega) X T F N (.tail _ (.tail _ (zz3 _ zc2))) (.cons (Nat.ne_of_lt lb3) (.cons (Nat.ne_of_gt lR2) zb3)) hci (by first | exact ar_le ‹_› (by decide) | exact ar_lt ‹_› (by decide) | exact lrA ‹_› ‹_› ‹_› | exact lrB ‹_› ‹_› ‹_› ‹_› | omega) (by first | exact ar_le ‹_› (by decide) | exact ar_lt ‹_› (by decide) | exact lrA ‹_› ‹_› ‹_› | exact lrB ‹_› ‹_› ‹_› ‹_› | omega) (by decide) (by decide) ?_
  clear N F
  intro kd tkd h9 tk9 t9 n9 F N kd0 kd1
  k_steps
  rename News _ _ _ _ => N
  rename Fr _ _ _ _ => F
  -- one
  refine use_treeL (b := b) (c := D) (cs := cs) (turn := turn2 + 1) 2 (by rfl) (by exact hh) (by first | exact dl0 hd (by decide) | exact dh ‹_› ‹_› (by decide) | exact dh0 ‹_› ‹_› (by decide) | exact dhs ‹_› ‹_› (by decide) | exact dm0 ‹_› ‹_› (by decide) | exact dl3 ‹_› (by decide) | exact dlt2 ‹_› (by decide) | omega) (by first | exact dl0 hu (by decide) | exact dh ‹_› ‹_› (by decide) | exact dh0 ‹_› ‹_› (by decide) | exact dhs ‹_› ‹_› (by decide) | exact dm0 ‹_› ‹_› (by decide) | exact dl3 ‹_› (by decide) | exact dlt2 ‹_› (by decide) | omega) X T F N (.tail _ (.tail _ (zz3 _ zc2))) (.cons (Nat.ne_of_lt lb3) (.cons (Nat.ne_of_gt lR2) zb3)) hci (by first | exact ar_le ‹_› (by decide) | exact ar_lt ‹_› (by decide) | exact lrA ‹_› ‹_› ‹_› | exact lrB ‹_› ‹_› ‹_› ‹_› | omega) (by first | exact ar_le ‹_› (by decide) | exact ar_lt ‹_› (by decide) | exact lrA ‹_› ‹_› ‹_› | exact lrB ‹_› ‹_› ‹_› ‹_› | omega) ?_
  clear F N
  intro ov h10 tk10 turn10 t10 n10 I2 tr2 F N offI2 apI2 le2 D2
  obtain ⟨Z4, zz4, zi4, zb4, z34, zR4, N⟩ : ∃ Z, (∀ x ∈ Z3, x ∈ Z) ∧ (∀ x ∈ I2, x ∈ Z) ∧ OffB b Z ∧ OffB 390 Z ∧ OffB R Z ∧ News g L h10 ((b, boxO D turn10 t10 n10) :: (390, tabObj #[]) :: (R, lstO [.ref T1] 0) :: Z) :=
    ⟨Z3 ++ I2, fun _ h => List.mem_append_left _ h, fun _ h => List.mem_append_right _ h, zb3.app offI2, z33.app fun p hp => apI2 p hp _ (.head _), zR3.app fun p hp => apI2 p hp _ (.tail _ (.head _)), N⟩
  k_steps
  rename News _ _ _ _ => N
  rename Fr _ _ _ _ => F
  -- other
  refine use_treeL (b := b) (c := D) (cs := cs) (turn := turn10) 2 (by rfl) (by exact hh) (by first | exact dl0 hd (by decide) | exact dh ‹_› ‹_› (by decide) | exact dh0 ‹_› ‹_› (by decide) | exact dhs ‹_› ‹_› (by decide) | exact dm0 ‹_› ‹_› (by decide) | exact dl3 ‹_› (by decide) | exact dlt2 ‹_› (by decide) | omega) (by first | exact dl0 hu (by decide) | exact dh ‹_› ‹_› (by decide) | exact dh0 ‹_› ‹_› (by decide) | exact dhs ‹_› ‹_› (by decide) | exact dm0 ‹_› ‹_› (by decide) | exact dl3 ‹_› (by decide) | exact dlt2 ‹_› (by decide) | omega) X T F N (.tail _ (.tail _ (zz4 _ (zz3 _ zc2)))) (.cons (Nat.ne_of_lt lb3) (.cons (Nat.ne_of_gt lR2) zb4)) hci (by first | exact ar_le ‹_› (by decide) | exact ar_lt ‹_› (by decide) | exact lrA ‹_› ‹_› ‹_› | exact lrB ‹_› ‹_› ‹_› ‹_› | omega) (by first | exact ar_le ‹_› (by decide) | exact ar_lt ‹_› (by decide) | exact lrA ‹_› ‹_› ‹_› | exact lrB ‹_› ‹_› ‹_› ‹_› | omega) ?_
  clear F N
  intro rv h11 tk11 turn11 t11 n11 I3 tr3 F N offI3 apI3 le3 D3
  obtain ⟨Z5, zz5, zi5, zb5, z35, zR5, N⟩ : ∃ Z, (∀ x ∈ Z4, x ∈ Z) ∧ (∀ x ∈ I3, x ∈ Z) ∧ OffB b Z ∧ OffB 390 Z ∧ OffB R Z ∧ News g L h11 ((b, boxO D turn11 t11 n11) :: (390, tabObj #[]) :: (R, lstO [.ref T1] 0) :: Z) :=
    ⟨Z4 ++ I3, fun _ h => List.mem_append_left _ h, fun _ h => List.mem_append_right _ h, zb4.app offI3, z34.app fun p hp => apI3 p hp _ (.head _), zR4.app fun p hp => apI3 p hp _ (.tail _ (.head _)), N⟩
  have len2 := drawn_len D2 (by decide)
  have len3 := drawn_len D3 (by decide)
  have ht2 := D2.ht
  have ht3 := D3.ht
  obtain ⟨x1, rfl⟩ := tree_ref D2.tree
  obtain ⟨x2, rfl⟩ := tree_ref D3.tree
  k_steps
  rename News _ _ _ _ => N
  obtain ⟨kk, hkk, hk4⟩ : ∃ k : Nat, kd = k ∧ k < 4 := kdN ‹_› ‹_›
  refine use_pure (law_body w kk kd hkk hk4 tkd x1 x2 tr2 tr3 (by first | exact ar_le ‹_› (by decide) | exact ar_lt ‹_› (by decide) | exact lrA ‹_› ‹_› ‹_› | exact lrB ‹_› ‹_› ‹_› ‹_› | omega) (by first | exact ar_le ‹_› (by decide) | exact ar_lt ‹_› (by decide) | exact lrA ‹_› ‹_› ‹_› | exact lrB ‹_› ‹_› ‹_› ‹_› | omega) (by first | exact ar_le ‹_› (by decide) | exact ar_lt ‹_› (by decide) | exact lrA ‹_› ‹_› ‹_› | exact lrB ‹_› ‹_› ‹_› ‹_› | omega) (by first | exact ar_le ‹_› (by decide) | exact ar_lt ‹_› (by decide) | exact lrA ‹_› ‹_› ‹_› | exact lrB ‹_› ‹_› ‹_› ‹_› | omega)) (by exact hh) (by first | exact dl0 hd (by decide) | exact dh ‹_› ‹_› (by decide) | exact dh0 ‹_› ‹_› (by decide) | exact dhs ‹_› ‹_› (by decide) | exact dm0 ‹_› ‹_› (by decide) | exact dl3 ‹_› (by decide) | exact dlt2 ‹_› (by decide) | omega) (by first | exact dl0 hu (by decide) | exact dh ‹_› ‹_› (by decide) | exact dh0 ‹_› ‹_› (by decide) | exact dhs ‹_› ‹_› (by decide) | exact dm0 ‹_› ‹_› (by decide) | exact dl3 ‹_› (by decide) | exact dlt2 ‹_› (by decide) | omega) X T (by assumption) (by assumption) (⟨D2.tree.mono fun a o e => (N (a, o) (.tail _ (.tail _ (.tail _ (zz5 _ (zi4 _ e)))))).1, D3.tree.mono fun a o e => (N (a, o) (.tail _ (.tail _ (.tail _ (zi5 _ e))))).1⟩) ?_
  intro PQ
  rintro r6 h6 tk6 J6 F6 N6 hne6 ⟨TT, st, sd, E6, tq, nmP, hTT, mst, msd, nsd, nmV, nmU, bodyC⟩
  clear N
  obtain ⟨Z6, zz6, zi6, zb6, z36, zR6, N⟩ := absorb3 N6 zb5 z35 zR5 hne6
  clear N6
  refine unpackN_ F6 N (hTT.mono fun a o e => (N (a, o) (.tail _ (.tail _ (.tail _ (zi6 _ e))))).1).heap (by exact hh) rfl rfl ?_
  clear N F6
  intro h12 F N
  have mk : MarkS := .mk
  k_steps
  rename MarkS => mk
  clear mk
  rename News _ _ _ _ => N
  rename Fr _ _ _ _ => F
  refine Stop.of (b_mid (bodySharp kk tr2 tr3) F N ?_ ?_)
  · rcases (kd4 hkk hk4 : (kd = 0 ∧ kk = 0) ∨ (kd = 1 ∧ kk = 1) ∨ (kd = 2 ∧ kk = 2) ∨ (kd = 3 ∧ kk = 3)) with ⟨rfl, rfl⟩ | ⟨rfl, rfl⟩ | ⟨rfl, rfl⟩ | ⟨rfl, rfl⟩
    · k_steps
      rename News _ _ _ _ => N
      refine use_pure (sharp_con w 11 tr2 D2.fine (by first | exact ar_le ‹_› (by decide) | exact ar_lt ‹_› (by decide) | exact lrA ‹_› ‹_› ‹_› | exact lrB ‹_› ‹_› ‹_› ‹_› | omega) (by first | exact ar_le ‹_› (by decide) | exact ar_lt ‹_› (by decide) | exact lrA ‹_› ‹_› ‹_› | exact lrB ‹_› ‹_› ‹_› ‹_› | omega) _) (by exact hh) (by first | exact dl0 hd (by decide) | exact dh ‹_› ‹_› (by decide) | exact dh0 ‹_› ‹_› (by decide) | exact dhs ‹_› ‹_› (by decide) | exact dm0 ‹_› ‹_› (by decide) | exact dl3 ‹_› (by decide) | exact dlt2 ‹_› (by decide) | omega) (by first | exact dl0 hu (by decide) | exact dh ‹_› ‹_› (by decide) | exact dh0 ‹_› ‹_› (by decide) | exact dhs ‹_› ‹_› (by decide) | exact dm0 ‹_› ‹_› (by decide) | exact dl3 ‹_› (by decide) | exact dlt2 ‹_› (by decide) | omega) X T (by assumption) (by assumption) (D2.tree.mono fun a o e => (N (a, o) (.tail _ (.tail _ (.tail _ (zz6 _ (zz5 _ (zi4 _ e))))))).1) ?_
      intro PQ
      rintro r7 h7 tk7 J7 F7 N7 hne7 rfl
      clear N
      replace N7 := News.left N7
      cases hb : tr2.sharp with
      | false =>
        k_steps
        exact BEnd.mk (by simp [bodySharp, hb]) (by assumption) (by assumption)
      | true =>
        k_steps
        exact BEnd.mk (by simp [bodySharp, hb]) (by assumption) (by assumption)
    · k_steps
      rename News _ _ _ _ => N
      refine use_pure (sharp_con w 11 tr3 D3.fine (by first | exact ar_le ‹_› (by decide) | exact ar_lt ‹_› (by decide) | exact lrA ‹_› ‹_› ‹_› | exact lrB ‹_› ‹_› ‹_› ‹_› | omega) (by first | exact ar_le ‹_› (by decide) | exact ar_lt ‹_› (by decide) | exact lrA ‹_› ‹_› ‹_› | exact lrB ‹_› ‹_› ‹_› ‹_› | omega) _) (by exact hh) (by first | exact dl0 hd (by decide) | exact dh ‹_› ‹_› (by decide) | exact dh0 ‹_› ‹_› (by decide) | exact dhs ‹_› ‹_› (by decide) | exact dm0 ‹_› ‹_› (by decide) | exact dl3 ‹_› (by decide) | exact dlt2 ‹_› (by decide) | omega) (by first | exact dl0 hu (by decide) | exact dh ‹_› ‹_› (by decide) | exact dh0 ‹_› ‹_› (by decide) | exact dhs ‹_› ‹_› (by decide) | exact dm0 ‹_› ‹_› (by decide) | exact dl3 ‹_› (by decide) | exact dlt2 ‹_› (by decide) | omega) X T (by assumption) (by assumption) (D3.tree.mono fun a o e => (N (a, o) (.tail _ (.tail _ (.tail _ (zz6 _ (zi5 _ e)))))).1) ?_
      intro PQ
      rintro r7 h7 tk7 J7 F7 N7 hne7 rfl
      clear N
      replace N7 := News.left N7
      k_steps
      exact BEnd.mk (by simp [bodySharp]) (by assumption) (by assumption)
    · k_steps
      rename News _ _ _ _ => N
      refine use_pure (sharp_con w 11 tr2 D2.fine (by first | exact ar_le ‹_› (by decide) | exact ar_lt ‹_› (by decide) | exact lrA ‹_› ‹_› ‹_› | exact lrB ‹_› ‹_› ‹_› ‹_› | omega) (by first | exact ar_le ‹_› (by decide) | exact ar_lt ‹_› (by decide) | exact lrA ‹_› ‹_› ‹_› | exact lrB ‹_› ‹_› ‹_› ‹_› | omega) _) (by exact hh) (by first | exact dl0 hd (by decide) | exact dh ‹_› ‹_› (by decide) | exact dh0 ‹_› ‹_› (by decide) | exact dhs ‹_› ‹_› (by decide) | exact dm0 ‹_› ‹_› (by decide) | exact dl3 ‹_› (by decide) | exact dlt2 ‹_› (by decide) | omega) (by first | exact dl0 hu (by decide) | exact dh ‹_› ‹_› (by decide) | exact dh0 ‹_› ‹_› (by decide) | exact dhs ‹_› ‹_› (by decide) | exact dm0 ‹_› ‹_› (by decide) | exact dl3 ‹_› (by decide) | exact dlt2 ‹_› (by decide) | omega) X T (by assumption) (by assumption) (D2.tree.mono fun a o e => (N (a, o) (.tail _ (.tail _ (.tail _ (zz6 _ (zz5 _ (zi4 _ e))))))).1) ?_
      intro PQ
      rintro r7 h7 tk7 J7 F7 N7 hne7 rfl
      clear N
      replace N7 := News.left N7
      cases hb : tr2.sharp with
      | false =>
        k_steps
        exact BEnd.mk (by simp [bodySharp, hb]) (by assumption) (by assumption)
      | true =>
        k_steps
        rename News _ _ _ _ => N
        refine use_pure (sharp_con w 11 tr3 D3.fine (by first | exact ar_le ‹_› (by decide) | exact ar_lt ‹_› (by decide) | exact lrA ‹_› ‹_› ‹_› | exact lrB ‹_› ‹_› ‹_› ‹_› | omega) (by first | exact ar_le ‹_› (by decide) | exact ar_lt ‹_› (by decide) | exact lrA ‹_› ‹_› ‹_› | exact lrB ‹_› ‹_› ‹_› ‹_› | omega) _) (by exact hh) (by first | exact dl0 hd (by decide) | exact dh ‹_› ‹_› (by decide) | exact dh0 ‹_› ‹_› (by decide) | exact dhs ‹_› ‹_› (by decide) | exact dm0 ‹_› ‹_› (by decide) | exact dl3 ‹_› (by decide) | exact dlt2 ‹_› (by decide) | omega) (by first | exact dl0 hu (by decide) | exact dh ‹_› ‹_› (by decide) | exact dh0 ‹_› ‹_› (by decide) | exact dhs ‹_› ‹_› (by decide) | exact dm0 ‹_› ‹_› (by decide) | exact dl3 ‹_› (by decide) | exact dlt2 ‹_› (by decide) | omega) X T (by assumption) (by assumption) (D3.tree.mono fun a o e => (N (a, o) (.tail _ (.tail _ (.tail _ (zz6 _ (zi5 _ e)))))).1) ?_
        intro PQ
        rintro r8 h8 tk8 J8 F8 N8 hne8 rfl
        clear N
        replace N8 := News.left N8
        k_steps
        exact BEnd.mk (by simp [bodySharp, hb]) (by assumption) (by assumption)
    · k_steps
      rename News _ _ _ _ => N
      refine use_pure (sharp_con w 11 tr2 D2.fine (by first | exact ar_le ‹_› (by decide) | exact ar_lt ‹_› (by decide) | exact lrA ‹_› ‹_› ‹_› | exact lrB ‹_› ‹_› ‹_› ‹_› | omega) (by first | exact ar_le ‹_› (by decide) | exact ar_lt ‹_› (by decide) | exact lrA ‹_› ‹_› ‹_› | exact lrB ‹_› ‹_› ‹_› ‹_› | omega) _) (by exact hh) (by first | exact dl0 hd (by decide) | exact dh ‹_› ‹_› (by decide) | exact dh0 ‹_› ‹_› (by decide) | exact dhs ‹_› ‹_› (by decide) | exact dm0 ‹_› ‹_› (by decide) | exact dl3 ‹_› (by decide) | exact dlt2 ‹_› (by decide) | omega) (by first | exact dl0 hu (by decide) | exact dh ‹_› ‹_› (by decide) | exact dh0 ‹_› ‹_› (by decide) | exact dhs ‹_› ‹_› (by decide) | exact dm0 ‹_› ‹_› (by decide) | exact dl3 ‹_› (by decide) | exact dlt2 ‹_› (by decide) | omega) X T (by assumption) (by assumption) (D2.tree.mono fun a o e => (N (a, o) (.tail _ (.tail _ (.tail _ (zz6 _ (zz5 _ (zi4 _ e))))))).1) ?_
      intro PQ
      rintro r7 h7 tk7 J7 F7 N7 hne7 rfl
      clear N
      replace N7 := News.left N7
      cases hb : tr2.sharp with
      | false =>
        k_steps
        exact BEnd.mk (by simp [bodySharp, hb]) (by assumption) (by assumption)
      | true =>
        k_steps
        rename News _ _ _ _ => N
        refine use_pure (sharp_con w 11 tr3 D3.fine (by first | exact ar_le ‹_› (by decide) | exact ar_lt ‹_› (by decide) | exact lrA ‹_› ‹_› ‹_› | exact lrB ‹_› ‹_› ‹_› ‹_› | omega) (by first | exact ar_le ‹_› (by decide) | exact ar_lt ‹_› (by decide) | exact lrA ‹_› ‹_› ‹_› | exact lrB ‹_› ‹_› ‹_› ‹_› | omega) _) (by exact hh) (by first | exact dl0 hd (by decide) | exact dh ‹_› ‹_› (by decide) | exact dh0 ‹_› ‹_› (by decide) | exact dhs ‹_› ‹_› (by decide) | exact dm0 ‹_› ‹_› (by decide) | exact dl3 ‹_› (by decide) | exact dlt2 ‹_› (by decide) | omega) (by first | exact dl0 hu (by decide) | exact dh ‹_› ‹_› (by decide) | exact dh0 ‹_› ‹_› (by decide) | exact dhs ‹_› ‹_› (by decide) | exact dm0 ‹_› ‹_› (by decide) | exact dl3 ‹_› (by decide) | exact dlt2 ‹_› (by decide) | omega) X T (by assumption) (by assumption) (D3.tree.mono fun a o e => (N (a, o) (.tail _ (.tail _ (.tail _ (zz6 _ (zi5 _ e)))))).1) ?_
        intro PQ
        rintro r8 h8 tk8 J8 F8 N8 hne8 rfl
        clear N
        replace N8 := News.left N8
        k_steps
        exact BEnd.mk (by simp [bodySharp, hb]) (by assumption) (by assumption)
  · clear F N
    intro h13 tk13 F N
    k_steps
    rename News _ _ _ _ => N
    rename Fr _ _ _ _ => F
    refine use_oc (own := [(st, instObj 138 sd), (sd, dictOf E6 10)]) (rest := (390, tabObj #[]) :: (R, lstO [.ref T1] 0) :: Z5) bodyC (by exact hh) (by first | exact dl0 hd (by decide) | exact dh ‹_› ‹_› (by decide) | exact dh0 ‹_› ‹_› (by decide) | exact dhs ‹_› ‹_› (by decide) | exact dm0 ‹_› ‹_› (by decide) | exact dl3 ‹_› (by decide) | exact dlt2 ‹_› (by decide) | omega) (by first | exact dl0 hu (by decide) | exact dh ‹_› ‹_› (by decide) | exact dh0 ‹_› ‹_› (by decide) | exact dhs ‹_› ‹_› (by decide) | exact dm0 ‹_› ‹_› (by decide) | exact dl3 ‹_› (by decide) | exact dlt2 ‹_› (by decide) | omega) X T F
      (fun p hp => N p (by
        simp only [List.cons_append, List.nil_append, List.mem_cons] at hp
        rcases hp with rfl | rfl | rfl | rfl | hp
        · exact .tail _ (.tail _ (.tail _ (zi6 _ mst)))
        · exact .tail _ (.tail _ (.tail _ (zi6 _ msd)))
        · exact .tail _ (.head _)
        · exact .tail _ (.tail _ (.head _))
        · exact .tail _ (.tail _ (.tail _ (zz6 _ hp)))))
      (.cons (fun q hq => hne6 _ mst q (.tail _ hq)) (.cons (fun q hq => hne6 _ msd q (.tail _ hq)) .nil_left))
      (fun _ _ => ⟨D2.tree.mono' fun a o e hc => hide_tuple N (.tail _ (.tail _ (.tail _ (zi6 _ mst)))) (.tail _ (.tail _ (.tail _ (zi6 _ msd)))) (by simp) (by simp) (.tail _ (.tail _ (.tail _ (zz6 _ (zz5 _ (zi4 _ e)))))) hc, D3.tree.mono' fun a o e hc => hide_tuple N (.tail _ (.tail _ (.tail _ (zi6 _ mst)))) (.tail _ (.tail _ (.tail _ (zi6 _ msd)))) (by simp) (by simp) (.tail _ (.tail _ (.tail _ (zz6 _ (zi5 _ e))))) hc, nmU _ _ (fun a o e hc => hide_tuple N (.tail _ (.tail _ (.tail _ (zi6 _ mst)))) (.tail _ (.tail _ (.tail _ (zi6 _ msd)))) (by simp) (by simp) (.tail _ (.tail _ (.tail _ (zi6 _ e)))) hc) nmV⟩) ?_
    intro PQ
    clear F N
    rintro v14 h14 tk14 own14 F N ap14 ⟨a2, v2s, k2, rfl, ma2, oo2⟩
    obtain ⟨Z7, zz7, zo7, z37, zR7, N⟩ : ∃ Z, (∀ x ∈ Z5, x ∈ Z) ∧ (∀ x ∈ own14, x ∈ Z) ∧ OffB 390 Z ∧ (∀ p ∈ Z, p.1 ≠ R) ∧ News g L h14 ((390, tabObj #[]) :: (R, lstO [.ref T1] 0) :: Z) :=
      ⟨Z5 ++ own14, fun _ h => List.mem_append_left _ h, fun _ h => List.mem_append_right _ h, z35.app fun p hp => ap14 p hp _ (.head _), OffB.app zR5 fun p hp => ap14 p hp _ (.tail _ (.head _)), fun p hp => N p (by
        simp only [List.mem_cons, List.mem_append] at hp ⊢
        rcases hp with h | h | h | h <;> simp only [h, true_or, or_true])⟩
    have nR3 : @Ne Nat R 390 := Nat.ne_of_gt lR3
    k_steps
    rename News _ _ _ _ => N
    rename Fr _ _ _ _ => F
    rename _ ∧ _ => l5
    obtain ⟨l51, l52, l53⟩ := l5
    try simp only [List.push_toArray, List.cons_append, List.nil_append] at N
    refine Stop.of (law_loop (due2 := bodyHigh kk tr2 tr3) (b2 := bodySharp kk tr2 tr3) (os2 := bodyO kk tr2 tr3) (by exact hh) (by first | exact dl0 hd (by decide) | exact dh ‹_› ‹_› (by decide) | exact dh0 ‹_› ‹_› (by decide) | exact dhs ‹_› ‹_› (by decide) | exact dm0 ‹_› ‹_› (by decide) | exact dl3 ‹_› (by decide) | exact dlt2 ‹_› (by decide) | omega) (by first | exact dl0 hu (by decide) | exact dh ‹_› ‹_› (by decide) | exact dh0 ‹_› ‹_› (by decide) | exact dhs ‹_› ‹_› (by decide) | exact dm0 ‹_› ‹_› (by decide) | exact dl3 ‹_› (by decide) | exact dlt2 ‹_› (by decide) | omega) X T hC F (by rfl) (news_rot3 N) (.cons (Nat.ne_of_gt l51) z37) (.cons (Nat.ne_of_gt l52) zR7) nR3
      ⟨a1, v1, k1, tu, TupS.is (.tail _ (zz7 _ (zz5 _ (zz4 _ zT)))), List.Mem.tail _ (zz7 _ (zz5 _ (zz4 _ (zz3 _ (zi2 _ ma1))))), oo1.mono fun a o e => List.Mem.tail _ (zz7 _ (zz5 _ (zz4 _ (zz3 _ (zi2 _ e)))))⟩ (row_tree D1.good (by first | exact ar_le ‹_› (by decide) | exact ar_lt ‹_› (by decide) | exact lrA ‹_› ‹_› ‹_› | exact lrB ‹_› ‹_› ‹_› ‹_› | omega)) (tree_okay tr1 D1.fine) (by first | exact ar_le ‹_› (by decide) | exact ar_lt ‹_› (by decide) | exact lrA ‹_› ‹_› ‹_› | exact lrB ‹_› ‹_› ‹_› ‹_› | omega)
      ⟨a2, v2s, k2, tq, TupS.is (.head _), List.Mem.tail _ (zo7 _ ma2), oo2.mono fun a o e => List.Mem.tail _ (zo7 _ e)⟩ (row_body hk4 D2.good (by first | exact ar_le ‹_› (by decide) | exact ar_lt ‹_› (by decide) | exact lrA ‹_› ‹_› ‹_› | exact lrB ‹_› ‹_› ‹_› ‹_› | omega) D3.good (by first | exact ar_le ‹_› (by decide) | exact ar_lt ‹_› (by decide) | exact lrA ‹_› ‹_› ‹_› | exact lrB ‹_› ‹_› ‹_› ‹_› | omega)) (body_okay D2.fine D3.fine) (Nat.le_trans (body_len kk tr2 tr3) (by first | exact ar_le ‹_› (by decide) | exact ar_lt ‹_› (by decide) | exact lrA ‹_› ‹_› ‹_› | exact lrB ‹_› ‹_› ‹_› ‹_› | omega)) ?_)
    intro h15 tk15 m15 ps15 nx15 F N
    dsimp only
    k_steps
    exact k _ _ _ _ _ (by assumption) (by assumption)
end
section
set_option maxHeartbeats 0
/-- the looks at the text, one by one -/
theorem said_looks : looksOpen PySem.Challenge.rw_pf0370_01.row.prog = true := by
  unfold looksOpen
  refine look_both (look_both (look_both (look_both (look_both ?_ ?_) ?_) ?_) ?_) ?_
  all_goals (first | rw [PySem.W.Fast.te17119622794617984870] | rw [PySem.W.Fast.te8377067652309620493] | rw [PySem.W.Fast.te8326940854005059898] | skip)
  all_goals decide +kernel
theorem said_row : OpenRow.wellSaid (OpenLaw.row PySem.Challenge.rw_pf0370_01) = true := by
  unfold OpenRow.wellSaid
  refine look_both (look_both ?_ ?_) ?_
  · unfold OpenRow.partSaid
    refine look_both (look_both (look_both (look_both (look_both (look_both (look_both (look_both (look_both (look_both (look_both (look_both (look_both ?_ ?_) ?_) ?_) ?_) ?_) ?_) ?_) ?_) ?_) ?_) ?_) ?_) ?_
    · exact said_looks
    all_goals decide +kernel
  · decide +kernel
  · decide +kernel
theorem said_ok : OpenLaw.wellSaid PySem.Challenge.rw_pf0370_01 = true := by
  unfold OpenLaw.wellSaid
  refine look_both (look_both (look_both (look_both (look_both (look_both (look_both (look_both (look_both (look_both (look_both (look_both (look_both (look_both (look_both (look_both (look_both (look_both ?_ ?_) ?_) ?_) ?_) ?_) ?_) ?_) ?_) ?_) ?_) ?_) ?_) ?_) ?_) ?_) ?_) ?_) ?_
  · exact said_row
  all_goals decide +kernel
theorem head_ok (walk : WalkO vw [PySem.Str.ofString "SnobolError"] (XL vw []) (kmHook K kAs kAs_ok [390]).says PySem.Challenge.rw_pf0370_01.row.toRowW
    { name := ss "law", params := parS (topS 31), body := bodyS (topS 31), scope := scoS (topS 31), pos := posS (topS 31) } [] (fun f vs => PySem.call f vs)) : PySem.Challenge.rw_pf0370_01.Holds := by
  w_on; refine holds_law said_ok fun said => ?_
  refine holds_open (q := vw) (loose := [PySem.Str.ofString "SnobolError"]) (Xt := xt) (XP := XL vw []) (Yf := Hook.obs hook) (Ya := Hook.val hook) (YP := Hook.says hook) (N := 5160) left_ok (Hook.of hook) (Hook.keeps hook) (fun s e => xl_of s (Bool.and_eq_true_iff.mp e).1) XL.keeps (by rfl) (by rfl) (by rfl) (fun s e => recFacts_of (Bool.and_eq_true_iff.mp e).2) (by rfl) (by first | assumption | decide +kernel) (by decide +kernel) ⟨rfl, rfl, rfl, rfl, rfl, by decide +kernel⟩ ?hw walk
  case hw => exact ⟨[.list []], by decide +kernel, by decide +kernel⟩
end
section
set_option maxHeartbeats 0
set_option maxHeartbeats 8000000 in
theorem t1 : PySem.Challenge.rw_pf0370_01.Holds := head_ok (by
  k_fill
  intro w s₀ s₁ mg mb G Y fa o pm cd doc dV kV ho hd hcd hD hmg hg args vals as hpre hlay hrd hwl hlo
  have KX := km_in_of Y
  km_tabs Y
  have X := (Ground.X G).1
  have V := (Ground.X G).2
  refine Ground.open G ?_
  intro T B D TE TW
  try (refine guard_noD D (by decide +kernel) ?_; clear D)
  dsimp only at hmg
  km_lay T hmg ho hd cd
  clear hmg
  wrow_args hpre hlay hrd hwl hlo
  all_goals (
    first | refine callC_kw (enter_call ?_) | refine enter_call ?_
    w_top on
    kn_posts
    w_call any ho hd hcd hD T F
    clear hd
    kn_ghosts F T
    k_drop
    skip)
  rename Fr _ _ _ _ => F
  rename News _ _ _ _ => N
  rename IntsAre _ _ => hI
  rename Frag.In _ _ => hX
  rename Top topProg _ _ _ _ _ => hT
  rename ¬ (_ < _) => hlen
  refine wpAny_mono (law_run (w := w) (by rfl) (by show callerA.depth + 1 + 200 < recursionLimit; decide +kernel) (by show callerA.units + 3 + 8000 < cLine; decide +kernel) hX hT codeHd lifted hI (by omega) F N ?_) (fun _ _ x => x) (fun _ _ x => x.elim)
  intro h' tk m ps nx F' N'
  refine And.intro ?_ (And.intro (GrownAt.of (by k_asm) (by k_mem)) trivial)
  k_steps)
end
end Mine
theorem PySem.Challenge.cw_pf0370_01_holds : PySem.Challenge.rw_pf0370_01.Holds := by
  exact Mine.t1
