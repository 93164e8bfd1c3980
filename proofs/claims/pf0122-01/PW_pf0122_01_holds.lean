import PyProof.Rows.All
import Wide.All
import OpenK.AllK
import Wide.FinOn
import PySem.Challenge.RW_pf0122_01
set_option Elab.async false
set_option linter.all false
set_option maxRecDepth 100000
set_option maxHeartbeats 8000000
set_option rowWalk.seconds 0
section
open PySem PySem.W PyProof.Rows
namespace Mine
abbrev Kept (P : Prop) (_ : P) : Prop := P
theorem kept {P : Prop} {h : P} : Kept P h := h
/-- the top's statements that bind a name for the law's walk -/
noncomputable def view : Program :=
  let p := PySem.Challenge.rw_pf0122_01.row.prog
  let b := p.main.body
  { p with main := { p.main with body := (b.drop 1).take 4 ++ ((b.drop 6).take 29 ++ ((b.drop 36).take 2 ++ ((b.drop 39).take 1 ++ ((b.drop 41).take 1 ++ b.drop 43)))) } }
theorem law_said : OpenLaw.wellSaid PySem.Challenge.rw_pf0122_01 = true := by
  delta OpenLaw.wellSaid
  repeat' (with_reducible apply look_both)
  any_goals (delta OpenRow.wellSaid; repeat' (with_reducible apply look_both))
  any_goals (delta OpenRow.partSaid; repeat' (with_reducible apply look_both))
  any_goals (delta looksOpen; repeat' (with_reducible apply look_both))
  all_goals ((try simp only [PySem.W.Fast.te8326940854005059898, PySem.W.Fast.te8377067652309620493, PySem.W.Fast.te17119622794617984870, PySem.W.Fast.te16286561074155671207, PySem.W.Fast.te8179353310426384613, PySem.W.Fast.te18344453789297297638, PySem.W.Fast.te6984425678791042302, PySem.W.Fast.te10792542408131684335, PySem.W.Fast.te5923862056798008813, PySem.W.Fast.te13343964577679436407, PySem.W.Fast.te17868728402115742887, PySem.W.Fast.te11788848310118352699, PySem.W.Fast.te12862048085361865435, PySem.W.Fast.named_eq]); decide +kernel)
/-- what the top makes and the law never reads, each behind so many objects of the ledger -/
noncomputable def besides (P : Params) : List (Nat × List Obj) := [
  (16, [
    { cls := .type "builtin_function_or_method", data := .fields #[.builtin "type.__prepare__", .type "type"] },
    { cls := .type "dict", data := .dict #[{ hash := PyData.keyHash P (Str.ofString "__module__"), key := .str (Str.ofString "__module__") 196, val := .str (Str.ofString "f77.errors") 187 }, { hash := PyData.keyHash P (Str.ofString "__qualname__"), key := .str (Str.ofString "__qualname__") 198, val := .str (Str.ofString "F77Error") 197 }, { hash := PyData.keyHash P (Str.ofString "__firstlineno__"), key := .str (Str.ofString "__firstlineno__") 200, val := .int 2 199 }, { hash := PyData.keyHash P (Str.ofString "__init__"), key := .str (Str.ofString "__init__") 208, val := .ref 28 }, { hash := PyData.keyHash P (Str.ofString "__static_attributes__"), key := .str (Str.ofString "__static_attributes__") 210, val := .ref 29 }] 5 },
    { cls := .type "tuple", data := .seq #[] },
    { cls := .none, data := .fields #[.int 4 0, .int 4 0, .ref 27] },
    { cls := .type "code", data := .fields #[.str (Str.ofString "F77Error") 191, .str (Str.ofString "F77Error") 192, .str (Str.ofString "/claim/cut.py") 193, .int 2 0, .int 0 0, .int 0 0, .int 0 0, .int 0 0, .ref 18, .bool false, .int 181 0, .ref 19, .none, .none, .none, .none, .int 194 0, .int 2 0, .str (Str.ofString "/claim/cut.py") 195] },
    { cls := .type "frame", slots := #[some (.ref 20), some (.ref 3), some (.ref 17), none, some (.str (Str.ofString "f77.errors") 187), none, some (.ref 0)] }]),
  (11, [
    { cls := .type "super", data := .fields #[.ref 31, .ref 31, .ref 31] },
    { cls := .type "builtin_function_or_method", data := .fields #[.builtin "object.__init_subclass__", .ref 31] }]),
  (1, [
    { cls := .type "builtin_function_or_method", data := .fields #[.builtin "type.__prepare__", .type "type"] },
    { cls := .type "dict", data := .dict #[{ hash := PyData.keyHash P (Str.ofString "__module__"), key := .str (Str.ofString "__module__") 225, val := .str (Str.ofString "f77.errors") 187 }, { hash := PyData.keyHash P (Str.ofString "__qualname__"), key := .str (Str.ofString "__qualname__") 227, val := .str (Str.ofString "CheckFault") 226 }, { hash := PyData.keyHash P (Str.ofString "__firstlineno__"), key := .str (Str.ofString "__firstlineno__") 229, val := .int 7 228 }, { hash := PyData.keyHash P (Str.ofString "__static_attributes__"), key := .str (Str.ofString "__static_attributes__") 230, val := .ref 42 }] 4 },
    { cls := .type "tuple", data := .seq #[] },
    { cls := .none, data := .fields #[] },
    { cls := .type "code", data := .fields #[.str (Str.ofString "CheckFault") 220, .str (Str.ofString "CheckFault") 221, .str (Str.ofString "/claim/cut.py") 222, .int 7 0, .int 0 0, .int 0 0, .int 0 0, .int 0 0, .ref 38, .bool false, .int 181 0, .ref 39, .none, .none, .none, .none, .int 223 0, .int 7 0, .str (Str.ofString "/claim/cut.py") 224] },
    { cls := .type "frame", slots := #[some (.ref 40), some (.ref 3), some (.ref 37), none, some (.str (Str.ofString "f77.errors") 187), none, some (.ref 0)] }]),
  (3, [
    { cls := .type "super", data := .fields #[.ref 44, .ref 44, .ref 44] },
    { cls := .type "builtin_function_or_method", data := .fields #[.builtin "object.__init_subclass__", .ref 44] }]),
  (1, [
    { cls := .type "builtin_function_or_method", data := .fields #[.builtin "type.__prepare__", .type "type"] },
    { cls := .type "dict", data := .dict #[{ hash := PyData.keyHash P (Str.ofString "__module__"), key := .str (Str.ofString "__module__") 241, val := .str (Str.ofString "f77.errors") 187 }, { hash := PyData.keyHash P (Str.ofString "__qualname__"), key := .str (Str.ofString "__qualname__") 243, val := .str (Str.ofString "IoFault") 242 }, { hash := PyData.keyHash P (Str.ofString "__firstlineno__"), key := .str (Str.ofString "__firstlineno__") 245, val := .int 9 244 }, { hash := PyData.keyHash P (Str.ofString "__init__"), key := .str (Str.ofString "__init__") 254, val := .ref 60 }, { hash := PyData.keyHash P (Str.ofString "__static_attributes__"), key := .str (Str.ofString "__static_attributes__") 256, val := .ref 61 }] 5 },
    { cls := .type "tuple", data := .seq #[] },
    { cls := .none, data := .fields #[.int 11 0, .int 4 0, .ref 59] },
    { cls := .type "code", data := .fields #[.str (Str.ofString "IoFault") 236, .str (Str.ofString "IoFault") 237, .str (Str.ofString "/claim/cut.py") 238, .int 9 0, .int 0 0, .int 0 0, .int 0 0, .int 0 0, .ref 50, .bool false, .int 181 0, .ref 51, .none, .none, .none, .none, .int 239 0, .int 9 0, .str (Str.ofString "/claim/cut.py") 240] },
    { cls := .type "frame", slots := #[some (.ref 52), some (.ref 3), some (.ref 49), none, some (.str (Str.ofString "f77.errors") 187), none, some (.ref 0)] }]),
  (10, [
    { cls := .type "super", data := .fields #[.ref 63, .ref 63, .ref 63] },
    { cls := .type "builtin_function_or_method", data := .fields #[.builtin "object.__init_subclass__", .ref 63] }]),
  (1, [
    { cls := .type "builtin_function_or_method", data := .fields #[.builtin "type.__prepare__", .type "type"] },
    { cls := .type "dict", data := .dict #[{ hash := PyData.keyHash P (Str.ofString "__module__"), key := .str (Str.ofString "__module__") 267, val := .str (Str.ofString "f77.errors") 187 }, { hash := PyData.keyHash P (Str.ofString "__qualname__"), key := .str (Str.ofString "__qualname__") 269, val := .str (Str.ofString "EndFault") 268 }, { hash := PyData.keyHash P (Str.ofString "__firstlineno__"), key := .str (Str.ofString "__firstlineno__") 271, val := .int 14 270 }, { hash := PyData.keyHash P (Str.ofString "__init__"), key := .str (Str.ofString "__init__") 279, val := .ref 79 }, { hash := PyData.keyHash P (Str.ofString "__static_attributes__"), key := .str (Str.ofString "__static_attributes__") 280, val := .ref 80 }] 5 },
    { cls := .type "tuple", data := .seq #[] },
    { cls := .none, data := .fields #[.int 16 0, .int 4 0, .ref 78] },
    { cls := .type "code", data := .fields #[.str (Str.ofString "EndFault") 262, .str (Str.ofString "EndFault") 263, .str (Str.ofString "/claim/cut.py") 264, .int 14 0, .int 0 0, .int 0 0, .int 0 0, .int 0 0, .ref 69, .bool false, .int 181 0, .ref 70, .none, .none, .none, .none, .int 265 0, .int 14 0, .str (Str.ofString "/claim/cut.py") 266] },
    { cls := .type "frame", slots := #[some (.ref 71), some (.ref 3), some (.ref 68), none, some (.str (Str.ofString "f77.errors") 187), none, some (.ref 0)] }]),
  (10, [
    { cls := .type "super", data := .fields #[.ref 82, .ref 82, .ref 82] },
    { cls := .type "builtin_function_or_method", data := .fields #[.builtin "object.__init_subclass__", .ref 82] }]),
  (4, [
    { cls := .type "tuple", data := .seq #[] },
    { cls := .type "builtin_function_or_method", data := .fields #[.builtin "type.__prepare__", .type "type"] },
    { cls := .type "dict", data := .dict #[{ hash := PyData.keyHash P (Str.ofString "__module__"), key := .str (Str.ofString "__module__") 323, val := .str (Str.ofString "f77.files") 284 }, { hash := PyData.keyHash P (Str.ofString "__qualname__"), key := .str (Str.ofString "__qualname__") 325, val := .str (Str.ofString "File") 324 }, { hash := PyData.keyHash P (Str.ofString "__firstlineno__"), key := .str (Str.ofString "__firstlineno__") 327, val := .int 31 326 }, { hash := PyData.keyHash P (Str.ofString "__init__"), key := .str (Str.ofString "__init__") 338, val := .ref 102 }, { hash := PyData.keyHash P (Str.ofString "__static_attributes__"), key := .str (Str.ofString "__static_attributes__") 345, val := .ref 103 }] 5 },
    { cls := .type "tuple", data := .seq #[] },
    { cls := .none, data := .fields #[.int 33 0, .int 4 0, .ref 101] },
    { cls := .type "code", data := .fields #[.str (Str.ofString "File") 318, .str (Str.ofString "File") 319, .str (Str.ofString "/claim/cut.py") 320, .int 31 0, .int 0 0, .int 0 0, .int 0 0, .int 0 0, .ref 92, .bool false, .int 181 0, .ref 93, .none, .none, .none, .none, .int 321 0, .int 31 0, .str (Str.ofString "/claim/cut.py") 322] },
    { cls := .type "frame", slots := #[some (.ref 94), some (.ref 3), some (.ref 91), none, some (.str (Str.ofString "f77.files") 284), none, some (.ref 0)] }]),
  (12, [
    { cls := .type "super", data := .fields #[.ref 105, .ref 105, .ref 105] },
    { cls := .type "builtin_function_or_method", data := .fields #[.builtin "object.__init_subclass__", .ref 105] },
    { cls := .type "tuple", data := .seq #[] },
    { cls := .type "builtin_function_or_method", data := .fields #[.builtin "type.__prepare__", .type "type"] },
    { cls := .type "dict", data := .dict #[{ hash := PyData.keyHash P (Str.ofString "__module__"), key := .str (Str.ofString "__module__") 360, val := .str (Str.ofString "f77.files") 284 }, { hash := PyData.keyHash P (Str.ofString "__qualname__"), key := .str (Str.ofString "__qualname__") 362, val := .str (Str.ofString "Store") 361 }, { hash := PyData.keyHash P (Str.ofString "__firstlineno__"), key := .str (Str.ofString "__firstlineno__") 364, val := .int 40 363 }, { hash := PyData.keyHash P (Str.ofString "__init__"), key := .str (Str.ofString "__init__") 371, val := .ref 123 }, { hash := PyData.keyHash P (Str.ofString "__static_attributes__"), key := .str (Str.ofString "__static_attributes__") 373, val := .ref 124 }] 5 },
    { cls := .type "tuple", data := .seq #[] },
    { cls := .none, data := .fields #[.int 42 0, .int 4 0, .ref 122] },
    { cls := .type "code", data := .fields #[.str (Str.ofString "Store") 355, .str (Str.ofString "Store") 356, .str (Str.ofString "/claim/cut.py") 357, .int 40 0, .int 0 0, .int 0 0, .int 0 0, .int 0 0, .ref 113, .bool false, .int 181 0, .ref 114, .none, .none, .none, .none, .int 358 0, .int 40 0, .str (Str.ofString "/claim/cut.py") 359] },
    { cls := .type "frame", slots := #[some (.ref 115), some (.ref 3), some (.ref 112), none, some (.str (Str.ofString "f77.files") 284), none, some (.ref 0)] }]),
  (12, [
    { cls := .type "super", data := .fields #[.ref 126, .ref 126, .ref 126] },
    { cls := .type "builtin_function_or_method", data := .fields #[.builtin "object.__init_subclass__", .ref 126] },
    { cls := .type "tuple", data := .seq #[] },
    { cls := .type "builtin_function_or_method", data := .fields #[.builtin "type.__prepare__", .type "type"] },
    { cls := .type "dict", data := .dict #[{ hash := PyData.keyHash P (Str.ofString "__module__"), key := .str (Str.ofString "__module__") 388, val := .str (Str.ofString "f77.files") 284 }, { hash := PyData.keyHash P (Str.ofString "__qualname__"), key := .str (Str.ofString "__qualname__") 390, val := .str (Str.ofString "Unit") 389 }, { hash := PyData.keyHash P (Str.ofString "__firstlineno__"), key := .str (Str.ofString "__firstlineno__") 392, val := .int 44 391 }, { hash := PyData.keyHash P (Str.ofString "__init__"), key := .str (Str.ofString "__init__") 402, val := .ref 144 }, { hash := PyData.keyHash P (Str.ofString "__static_attributes__"), key := .str (Str.ofString "__static_attributes__") 407, val := .ref 145 }] 5 },
    { cls := .type "tuple", data := .seq #[] },
    { cls := .none, data := .fields #[.int 46 0, .int 4 0, .ref 143] },
    { cls := .type "code", data := .fields #[.str (Str.ofString "Unit") 383, .str (Str.ofString "Unit") 384, .str (Str.ofString "/claim/cut.py") 385, .int 44 0, .int 0 0, .int 0 0, .int 0 0, .int 0 0, .ref 134, .bool false, .int 181 0, .ref 135, .none, .none, .none, .none, .int 386 0, .int 44 0, .str (Str.ofString "/claim/cut.py") 387] },
    { cls := .type "frame", slots := #[some (.ref 136), some (.ref 3), some (.ref 133), none, some (.str (Str.ofString "f77.files") 284), none, some (.ref 0)] }]),
  (12, [
    { cls := .type "super", data := .fields #[.ref 147, .ref 147, .ref 147] },
    { cls := .type "builtin_function_or_method", data := .fields #[.builtin "object.__init_subclass__", .ref 147] }]),
  (110, [
    { cls := .type "tuple", data := .seq #[] },
    { cls := .type "builtin_function_or_method", data := .fields #[.builtin "type.__prepare__", .type "type"] },
    { cls := .type "dict", data := .dict #[{ hash := PyData.keyHash P (Str.ofString "__module__"), key := .str (Str.ofString "__module__") 571, val := .str (Str.ofString "f77.trees") 562 }, { hash := PyData.keyHash P (Str.ofString "__qualname__"), key := .str (Str.ofString "__qualname__") 573, val := .str (Str.ofString "UnitTree") 572 }, { hash := PyData.keyHash P (Str.ofString "__firstlineno__"), key := .str (Str.ofString "__firstlineno__") 575, val := .int 164 574 }, { hash := PyData.keyHash P (Str.ofString "__init__"), key := .str (Str.ofString "__init__") 584, val := .ref 275 }, { hash := PyData.keyHash P (Str.ofString "__static_attributes__"), key := .str (Str.ofString "__static_attributes__") 599, val := .ref 276 }] 5 },
    { cls := .type "tuple", data := .seq #[] },
    { cls := .none, data := .fields #[.int 166 0, .int 4 0, .ref 274] },
    { cls := .type "code", data := .fields #[.str (Str.ofString "UnitTree") 566, .str (Str.ofString "UnitTree") 567, .str (Str.ofString "/claim/cut.py") 568, .int 164 0, .int 0 0, .int 0 0, .int 0 0, .int 0 0, .ref 265, .bool false, .int 181 0, .ref 266, .none, .none, .none, .none, .int 569 0, .int 164 0, .str (Str.ofString "/claim/cut.py") 570] },
    { cls := .type "frame", slots := #[some (.ref 267), some (.ref 3), some (.ref 264), none, some (.str (Str.ofString "f77.trees") 562), none, some (.ref 0)] }]),
  (12, [
    { cls := .type "super", data := .fields #[.ref 278, .ref 278, .ref 278] },
    { cls := .type "builtin_function_or_method", data := .fields #[.builtin "object.__init_subclass__", .ref 278] },
    { cls := .type "tuple", data := .seq #[] },
    { cls := .type "builtin_function_or_method", data := .fields #[.builtin "type.__prepare__", .type "type"] },
    { cls := .type "dict", data := .dict #[{ hash := PyData.keyHash P (Str.ofString "__module__"), key := .str (Str.ofString "__module__") 616, val := .str (Str.ofString "f77.world") 607 }, { hash := PyData.keyHash P (Str.ofString "__qualname__"), key := .str (Str.ofString "__qualname__") 618, val := .str (Str.ofString "World") 617 }, { hash := PyData.keyHash P (Str.ofString "__firstlineno__"), key := .str (Str.ofString "__firstlineno__") 620, val := .int 182 619 }, { hash := PyData.keyHash P (Str.ofString "__init__"), key := .str (Str.ofString "__init__") 629, val := .ref 296 }, { hash := PyData.keyHash P (Str.ofString "__static_attributes__"), key := .str (Str.ofString "__static_attributes__") 636, val := .ref 297 }] 5 },
    { cls := .type "tuple", data := .seq #[] },
    { cls := .none, data := .fields #[.int 184 0, .int 4 0, .ref 295] },
    { cls := .type "code", data := .fields #[.str (Str.ofString "World") 611, .str (Str.ofString "World") 612, .str (Str.ofString "/claim/cut.py") 613, .int 182 0, .int 0 0, .int 0 0, .int 0 0, .int 0 0, .ref 286, .bool false, .int 181 0, .ref 287, .none, .none, .none, .none, .int 614 0, .int 182 0, .str (Str.ofString "/claim/cut.py") 615] },
    { cls := .type "frame", slots := #[some (.ref 288), some (.ref 3), some (.ref 285), none, some (.str (Str.ofString "f77.world") 607), none, some (.ref 0)] }]),
  (12, [
    { cls := .type "super", data := .fields #[.ref 299, .ref 299, .ref 299] },
    { cls := .type "builtin_function_or_method", data := .fields #[.builtin "object.__init_subclass__", .ref 299] }])]
noncomputable def takeIn (k : List (Option Obj) → List Obj) : Nat → List (Option Obj) → List Obj
  | 0, vs => k vs
  | n + 1, some v :: vs => v :: takeIn k n vs
  | n + 1, none :: vs => takeIn k n vs
  | _ + 1, [] => []
noncomputable def laid : List (Nat × List Obj) → List (Option Obj) → List Obj
  | [], vs => vs.filterMap id
  | (n, os) :: r, vs => takeIn (fun vs => os ++ laid r vs) n vs
/-- the state behind the top -/
noncomputable def topEnd (P : Params) (vs : List (Option Obj)) : Shared := { heap := { objs := (laid (besides P) vs).toArray }, toks := 720 }
theorem left_of {α β : Type} {o : World → Option Shared} {f : Shared → α} {g : Shared → β} {a : α} {b : World → β} (S : World → Shared)
    (run : ∀ w, o w = some (S w)) (sees : ∀ w, f (S w) = a) (obs : ∀ w, g (S w) = b w) (w : World) : (o w).map (fun s => (f s, g s)) = some (a, b w) := by
  rw [run w]
  show some (_, _) = some (_, _)
  rw [sees w, obs w]
local macro_rules | `(tactic| o_law) => `(tactic| refine holds_law law_said fun said => ?_)
/-- the first look at the top, for the ledger hd.heap_1 alone -/
theorem as_is {r : OpenRow} (hw : r.toRowW.promised) (hc : r.Holds) : r.Holds := hc
local macro_rules | `(tactic| k_head) => `(tactic| x_head)
local macro_rules | `(tactic| o_head $H) => `(tactic| refine as_is ?$(Lean.mkIdent `hw) ?$(Lean.mkIdent `hc))
open_top hd for PySem.Challenge.rw_pf0122_01
noncomputable def ranged (a : Nat) : Nat → List Nat → List Nat
  | 0, r => r
  | n + 1, r => a :: ranged (a + 1) n r
noncomputable def addrsBut : List (Nat × Nat) → Nat → List Nat
  | [], a => ranged a (356 - a) []
  | (n, m) :: r, a => ranged a n (addrsBut r (a + n + m))
noncomputable def addrs : List Nat := addrsBut [(16, 6), (11, 2), (1, 6), (3, 2), (1, 6), (10, 2), (1, 6), (10, 2), (4, 7), (12, 9), (12, 9), (12, 2), (110, 7), (12, 9), (12, 2)] 0
theorem addrs_is (P : Params) : addrs = (hd.heap_1 P).map (·.1) := by kernel_rfl
theorem top_run (w : World) : openEnds treeTable PySem.Challenge.rw_pf0122_01.row.prog w 6134 = some (topEnd w.params ((hd.heap_1 w.params).map fun p => some p.2)) := by
  unfold openEnds fencedOpening topFrom
  simp only [PySem.W.Fast.te14364793385576792824, PySem.W.Fast.te14082659384304107361, PySem.W.Fast.te14289696077712309145]
  kernel_rfl
theorem top_obs (w : World) : addrs.map (topEnd w.params ((hd.heap_1 w.params).map fun p => some p.2)).heap.get? = (hd.heap_1 w.params).map fun p => some p.2 := by kernel_rfl
theorem top_left : LeftO PySem.Challenge.rw_pf0122_01.row.prog view [] (fun s => xlAt view [] s && recOk (RowW.records PySem.Challenge.rw_pf0122_01.row.toRowW) s) (Hook.obs (kHook hd.heap_1 addrs addrs_is)) (Hook.val (kHook hd.heap_1 addrs addrs_is)) 6134 := by
  refine left_of _ top_run (fun w => ?_) top_obs
  simp only [PySem.W.Fast.te4187177175401517315]
  kernel_rfl
local macro_rules | `(tactic| o_head $H) => `(tactic| (
  refine holds_open (q := view) (loose := []) (Xt := fun s => xlAt view [] s && recOk (RowW.records PySem.Challenge.rw_pf0122_01.row.toRowW) s) (XP := XL view []) (Yf := Hook.obs $H) (Ya := Hook.val $H) (YP := Hook.says $H) (N := 6134) top_left (Hook.of $H) (Hook.keeps $H) (fun s e => xl_of s (Bool.and_eq_true_iff.mp e).1) XL.keeps (by rfl) (by rfl) (by rfl) (fun s e => recFacts_of (Bool.and_eq_true_iff.mp e).2) (by rfl) (by first | assumption | decide +kernel) (by decide +kernel) ⟨rfl, rfl, rfl, rfl, rfl, by decide +kernel⟩ ?$(Lean.mkIdent `hw) ?$(Lean.mkIdent `hc)))
local macro_rules | `(tactic| k_head) => `(tactic| o_head (kHook hd.heap_1 addrs addrs_is))
open_top law_top for PySem.Challenge.rw_pf0122_01
end Mine
end
section
open PySem PySem.W PyProof.Rows PySem.Calls
namespace Mine
/-- the program -/
noncomputable abbrev P0 : Program := PySem.Challenge.rw_pf0122_01.row.prog
/-- what stands around a call: depth and C units up to a bound -/
abbrev At (d u : Nat) (gd : Option (List Code)) (env : Env) (outer : List Env) : Around :=
  { handled := none, depth := d, frames := some (env :: outer), guards := gd, units := u }
theorem in_up {Γ : Ctx} {A A' : Around} (h : Γ.In A) (e1 : A.handled = A'.handled) (e2 : A.depth ≤ A'.depth) (e3 : A.frames = A'.frames) (e4 : A.guards = A'.guards) (e5 : A.units ≤ A'.units) : Γ.In A' :=
  ⟨h.1.trans e1, Nat.le_trans h.2.1 e2, fun l hl => h.2.2.1 l (e3.trans hl), fun g hg => h.2.2.2.1 g (e4.trans hg), Nat.le_trans h.2.2.2.2 e5⟩
theorem wp_up {α : Type} {M : Model} {A A' : Around} {t : Sem α} {Q : α → Shared → Prop} {E : Value → Shared → Prop} {s : Shared} (h : wpAny M A' t Q E s)
    (e1 : A.handled = A'.handled) (e2 : A.depth ≤ A'.depth) (e3 : A.frames = A'.frames) (e4 : A.guards = A'.guards) (e5 : A.units ≤ A'.units) : wpAny M A t Q E s :=
  fun Γ p hΓ => h Γ p (in_up hΓ e1 e2 e3 e4 e5)
end Mine
end
section
open PySem PySem.W PyProof.Rows PySem.Calls
namespace Mine
/-! An own exception class with its own __init__: made, its __init__ called. -/
abbrev tupObj (vs : List Value) : Obj := { cls := .type "tuple", data := .seq vs.toArray }
abbrev excObj (C t : Addr) (od : Option Addr) : Obj := { cls := .ref C, dict := od, data := .fields #[.ref t, .none, .none, .none, .bool false, .none] }
section
variable {M : Model} {A : Around} {E : Value → Shared → Prop} {h : Heap} {g : Array GenState} {d : Drawn} {t : Nat} {os : OsState}
variable {nm q : Str} {C N : Addr} {bs bm : List Value} {hdct : Bool} {sn : List Str} {sub : List Value} {ab : Bool} {col : Option Bool} {dd : Option Addr} {k0 k1 k2 k3 k5 : Option Value}
theorem chk_new (hB : (Value.ref C :: bm).contains (.type "Exception") = true) {rest : List Value} {Q : Unit → Shared → Prop} (hC : h.get? C = some (excClassObj nm q C N bs bm hdct sn sub ab col dd k0 k1 k2 k3 k5 "Exception.__new__"))
    (hq : Q () ⟨h, g, d, t, os⟩) : wpAny M A (checkBuiltinCall "Exception.__new__" ⟨.ref C :: rest, []⟩) Q E ⟨h, g, d, t, os⟩ := (by exact kept : Kept _ (by
  have F := PySem.F.excBase_Exception
  have hstar := F.noStar
  simp only [checkBuiltinCall, F.newKind, F.newSplit, F.newRow]
  repeat (first | refine wpAny_loadPart_at hC ?_ | (refine wpAny_isSubtype_exc hC ?_; rw [hB]) | refine wpAny_staticBase_exc hC ?_ | refine wpAny_madeBy_exc hC ?_ | simp only [bne_self_eq_false, Bool.false_eq_true, if_false] | wp_step)
  exact hq))
end
section
variable {prog : Program} {w : World} {A : Around} {E : Value → Shared → Prop} {R : Result → Shared → Prop} {h : Heap} {g : Array GenState} {d : Drawn} {t : Nat} {os : OsState}
variable {nm q : Str} {C N : Addr} {bs bm : List Value} {hdct : Bool} {sn : List Str} {sub : List Value} {ab : Bool} {col : Option Bool} {dd : Option Addr} {k0 k1 k2 k3 k5 : Option Value}
theorem run_new (hB : (Value.ref C :: bm).contains (.type "Exception") = true) (hA : (Value.ref C :: bm).contains (.type "AttributeError") = false) (hN : (Value.ref C :: bm).contains (.type "NameError") = false) {rest : List Value}
    (hC : h.get? C = some (excClassObj nm q C N bs bm hdct sn sub ab col dd k0 k1 k2 k3 k5 "Exception.__new__"))
    (hq : R (.ok (.ret (.ref (h.objs.size + 1)))) ⟨(h.push (tupObj rest)).push (excObj C h.objs.size none), g, d, t, os⟩) (hrest : rest.length ≤ sizeLine := by size_fits) :
    codeAny (model prog w) A (.builtin "Exception.__new__" ⟨.ref C :: rest, []⟩) R ⟨h, g, d, t, os⟩ := (by exact kept : Kept _ (by
  have F := PySem.F.excBase_Exception
  have hends := F.ends
  refine codeAny_builtinAt F.entry ?_
  unfold Builtin.«BaseException.__new__»
  refine PySem.wpAt_bind ?_
  show PySem.wpAt _ _ _ (stack >>= _) _ _ _
  refine PySem.wpAt_bind (PySem.wpAt_stack fun p below => PySem.wpAt_of_wpAny ?_)
  wp_walk
  refine PySem.wpAt_of_wpAny ?_
  rw [F.owner]
  repeat (first | with_reducible refine wpAny_madeHere_exc F.canon hC ?_ | with_reducible refine wpAny_loadPart_at hC ?_ | (with_reducible refine wpAny_isSubtype_exc hC ?_; first | rw [hB] | rw [hA] | rw [hN]) | wp_step)
  show R _ _
  rw [Heap.size_push]
  exact hq))
theorem call_exc {K : Frag} (X : K.In h) (hB : (Value.ref C :: bm).contains (.type "Exception") = true) (hA : (Value.ref C :: bm).contains (.type "AttributeError") = false) (hN : (Value.ref C :: bm).contains (.type "NameError") = false) {rest : List Value} {fI : Addr} {Q : Value → Shared → Prop}
    (hC : h.get? C = some (excClassObj nm q C N bs bm hdct sn sub ab col dd k0 k1 k2 k3 k5 "Exception.__new__")) (hi : findIn K (.ref C) "__init__" = some (some (.ref fI))) (hf : typeIn K (.ref fI) = some (.type "function"))
    (hq : wpAny (model prog w) (A.under (.builtin "type.__call__" ⟨.ref C :: rest, []⟩)) (call (.ref fI) (.ref (h.objs.size + 1) :: rest)) (fun r s' => r = .none ∧ Q (.ref (h.objs.size + 1)) s') E ⟨(h.push (tupObj rest)).push (excObj C h.objs.size none), g, d, t, os⟩)
    (hrest : rest.length ≤ sizeLine := by size_fits) : wpAny (model prog w) A (call (.ref C) rest) Q E ⟨h, g, d, t, os⟩ := (by exact kept : Kept _ (by
  have F := PySem.F.excBase_Exception
  have f1 := tc_lookup
  have f2 := tc_bind (.ref C)
  have hT : (⟨h, g, d, t, os⟩ : Shared).TypeIs (.ref C) "type" := ⟨_, hC, rfl⟩
  refine wpAny_call (codeAny_of_tree ?_)
  show wpAny _ _ (callAny (.ref C) _) _ _ _
  repeat (any_goals (first | assumption | with_reducible refine wpAny_loadPart_at hC ?_ | wp_step))
  refine ⟨rfl, ?_⟩
  refine codeAny_call_builtin_at (Code.quiet_builtin _ (by decide +kernel)) entry_typeCall (wpAny_check_type_call_sub hC ?_)
  repeat (first | with_reducible refine wpAny_loadPart_at hC ?_ | with_reducible refine wpAny_madeBy_exc hC ?_ | wp_step)
  refine codeAny_call_builtin_code (Code.quiet_builtin _ F.quiet) (chk_new hB hC ?_)
  refine run_new hB hA hN hC ?_ hrest
  show wpAny _ _ _ _ _ ⟨(h.push (tupObj rest)).push (excObj C h.objs.size none), g, d, t, os⟩
  have k : ∀ b o, h.get? b = some o → ((h.push (tupObj rest)).push (excObj C h.objs.size none)).get? b = some o := fun b o e => Heap.get?_push_of_some _ (Heap.get?_push_of_some _ e)
  have hC₁ := k _ _ hC
  have X₁ : K.In ((h.push (tupObj rest)).push (excObj C h.objs.size none)) := X.keeps k
  have hget : ((h.push (tupObj rest)).push (excObj C h.objs.size none)).get? (h.objs.size + 1) = some (excObj C h.objs.size none) := by heap_get
  have hcC : (Value.ref C :: bm).contains (.ref C) = true := by simp
  unfold isInstance
  repeat (first | with_reducible refine wpAny_loadPart_at hget ?_ | (with_reducible refine wpAny_isSubtype_exc hC₁ ?_; rw [hcC]) | ((show wpAny _ _ (isSubtype (.ref C) (.ref C)) _ _ _); refine wpAny_isSubtype_exc hC₁ ?_; rw [hcC]) | wp_step)
  show wpAny _ _ (typeLookup (.ref C) _) _ _ _
  refine (looks_findIn X₁ hi).here ?_
  refine wpAny_holding (wpAny_bind ?_)
  refine (bind_fn X₁ _ hf).here ?_
  refine wpAny_bind (wpAny_mono hq (fun r s' hr => ?_) fun _ _ x => x)
  obtain ⟨rfl, hQ⟩ := hr
  wp_walk
  exact hQ))
end
end Mine
end
section
open PySem PySem.W PyProof.Rows PySem.Calls
namespace Mine
section
variable {prog : Program} {w : World} {A : Around} {E : Value → Shared → Prop} {R : Result → Shared → Prop} {s : Shared} {K : Frag} {x C t L : Addr} {od : Option Addr} {h₀ : Heap} {m : Str → Option Value} {pre post : List (Addr × Obj)} {v : Value}
variable {nm q : Str} {N₁ : Addr} {bs bm : List Value} {hdct : Bool} {sn : List Str} {sub : List Value} {ab : Bool} {col : Option Bool} {dd : Option Addr} {k0 k1 k2 k3 k5 : Option Value} {newId : String}
theorem chk_init {M : Model} {Q : Unit → Shared → Prop} {h : Heap} {g : Array GenState} {d : Drawn} {tk : Nat} {os : OsState} (hC : h.get? C = some (excClassObj nm q C N₁ bs bm hdct sn sub ab col dd k0 k1 k2 k3 k5 newId)) (he : h.get? x = some (excObj C t od)) (hB : (Value.ref C :: bm).contains (.type "Exception") = true)
    (hq : Q () ⟨h, g, d, tk, os⟩) : wpAny M A (checkBuiltinCall "Exception.__init__" ⟨[.ref x, v], []⟩) Q E ⟨h, g, d, tk, os⟩ := (by exact kept : Kept _ (by
  have F := PySem.F.excBase_Exception
  have hshort := F.noStar
  have hcls : (excObj C t od).cls = .ref C := rfl
  simp only [checkBuiltinCall, F.initKind, F.initSplit, F.initRow]
  repeat (first | (with_reducible refine wpAny_loadPart_at he ?_; rw [hcls]) | with_reducible refine wpAny_loadPart_at hC ?_ | (with_reducible refine wpAny_isSubtype_exc hC ?_; rw [hB]) | wp_step)
  exact hq))
theorem exc_type {M : Model} {h : Heap} (hx : h.get? x = some (excObj C t od)) : Looks M h (typeOf (.ref x)) (.ref C) := (Looks.ld hx).andThen .now
theorem exc_init (F : Fr h₀ L s.heap m) (N : News h₀ L s.heap (pre ++ (x, excObj C t od) :: post)) (hC : s.heap.get? C = some (excClassObj nm q C N₁ bs bm hdct sn sub ab col dd k0 k1 k2 k3 k5 newId)) (hB : (Value.ref C :: bm).contains (.type "Exception") = true) (h1 : ∀ p ∈ pre, p.1 ≠ x) (h2 : ∀ p ∈ post, p.1 ≠ x)
    (h : ∀ t2 h', Fr h₀ L h' m → News h₀ L h' ((t2, tupObj [v]) :: (pre ++ (x, excObj C t2 od) :: post)) → (∀ p ∈ pre ++ (x, excObj C t od) :: post, p.1 < t2) → R (.ok (.ret .none)) { s with heap := h' }) :
    codeAny (model prog w) A (.call (.builtin "Exception.__init__") ⟨[.ref x, v], []⟩) R s := by
  have F1 := PySem.F.excBase_Exception
  obtain ⟨hp, g, d, tk, os⟩ := s
  have hx : hp.get? x = some (excObj C t od) := (N (x, excObj C t od) (List.mem_append_right _ (.head _))).1
  refine codeAny_call_builtin F1.init.plain F1.initEntry (chk_init hC hx hB ?_)
  unfold Builtin.«BaseException.__init__»
  have hx₁ := Heap.get?_push_of_some (tupObj [v]) hx
  wp_walk
  show R _ _
  have F' := F.push (tupObj [v])
  have N' := N.push F (tupObj [v])
  have l : ∀ p ∈ pre ++ (x, excObj C t od) :: post, p.1 < hp.objs.size := fun p hp' => Heap.lt_size (N p hp').1
  have l1 : ∀ p ∈ (hp.objs.size, tupObj [v]) :: pre, p.1 ≠ x := fun p hp' => by
    rcases List.mem_cons.mp hp' with rfl | hp'
    · exact Nat.ne_of_gt (l _ (List.mem_append_right _ (.head _)))
    · exact h1 p hp'
  obtain ⟨U1, U2⟩ := news_upd (pre := (hp.objs.size, tupObj [v]) :: pre) (f := Obj.mapFields fun x => x.setIfInBounds 0 (Value.ref hp.objs.size)) (o' := excObj C hp.objs.size od) F' N' l1 h2 rfl rfl
  exact h _ _ U1 U2 l
end
end Mine
end
section
open PySem PySem.W PyProof.Rows PySem.Calls
namespace Mine
section
variable {prog : Program} {w : World} {A : Around} {E : Value → Shared → Prop} {R : Result → Shared → Prop} {s : Shared} {K : Frag} {x C t L dx : Addr} {od : Option Addr} {h₀ : Heap} {m : Str → Option Value} {pre post : List (Addr × Obj)} {v : Value} {name : Str} {tk : Tok} {cd : ClassData} {as : List Addr}
theorem refuse_own (self : Value) : ∀ as : List Addr, refuseLoop self "__setattr__" (as.map Value.ref ++ [.type "Exception", .type "BaseException", .type "object"]) = pure ()
  | [] => PySem.F.store_Exception.passes self
  | a :: r => by rw [List.map_cons, List.cons_append, refuseLoop_ref]; exact refuse_own self r
theorem exc_open (X : K.In s.heap) (hx : s.heap.get? x = some (excObj C t od)) (hc : clsIn K C = some cd) (hm : cd.mro = as.map Value.ref ++ [.type "Exception", .type "BaseException", .type "object"]) (ho : mroIn K C (.type "object") = some true) (ht : takerIn K C name = some none)
    (h : ∀ b, wpAny (model prog w) A.in1 (Builtin.ObjectAttr.storeInOwnDict (.ref x) (.ref C) (.str name tk) name v b)
      (fun fin s' => match fin with | .done f => R (.ok f) s' | .again c' => c'.quiet = true ∧ codeAny (model prog w) A c' R s') (fun e s' => R (.error e) s') s) :
    codeAny (model prog w) A (.call (.builtin "object.__setattr__") ⟨[.ref x, .str name tk, v], []⟩) R s := (by exact kept : Kept _ (by
  have SF := PySem.F.store_Exception
  have ty := exc_type (M := model prog w) hx
  have sub : Looks (model prog w) s.heap (isInstance (.ref x) (.type "object")) true := ty.andThen (looks_mroIn X ho)
  refine codeAny_call_builtin SF.slot.plain SF.entry (@check_slot (model prog w) _ _ s "object.__setattr__" "object" "__setattr__" (.ref x) [.str name tk, v] [] _ SF.kind SF.split sub (SF.args (.ref x) (.str name tk) v) ?_)
  obtain ⟨attr, ha, hr⟩ := Option.bind_eq_some_iff.mp ht
  have hm' : Looks (model prog w) s.heap (mroOf (.ref C)) cd.mro := (looks_clsIn X hc).andThen .now
  have L3 : Looks (model prog w) s.heap (Builtin.ObjectAttr.storeTaker? attr) none := by
    cases attr with
    | none => exact .now
    | some a =>
      obtain ⟨b, hb, e⟩ := Option.map_eq_some_iff.mp hr
      refine (looks_takesIn X hb).andThen ?_
      cases b <;> first | exact .now | cases e
  rw [osa_eq, refuse_eq]
  refine wpAny_bind (wpAny_bind (ty.here (wpAny_bind (hm'.here ?_))))
  rw [hm, refuse_own]
  refine wpAny_pure (wpAny_bind (ty.here (wpAny_bind ((looks_findIn X ha).here (wpAny_bind (L3.here ?_))))))
  exact h _))
theorem exc_store (F : Fr h₀ L s.heap m) (N : News h₀ L s.heap (pre ++ (x, excObj C t none) :: post)) (X : K.In s.heap) (hc : clsIn K C = some cd) (hm : cd.mro = as.map Value.ref ++ [.type "Exception", .type "BaseException", .type "object"]) (hd : cd.hasDict = true)
    (ho : mroIn K C (.type "object") = some true) (ht : takerIn K C name = some none) (h1 : ∀ p ∈ pre, p.1 ≠ x) (h2 : ∀ p ∈ post, p.1 ≠ x)
    (h : ∀ d h', Fr h₀ L h' m → News h₀ L h' ((d, dictOf [⟨PyData.keyHash w.params name, .str name s.toks, v⟩] 1) :: (pre ++ (x, excObj C t (some d)) :: post)) → (∀ p ∈ pre ++ (x, excObj C t none) :: post, p.1 < d) → R (.ok (.ret .none)) { s with heap := h', toks := s.toks + 1 }) :
    codeAny (model prog w) A (.call (.builtin "object.__setattr__") ⟨[.ref x, .str name tk, v], []⟩) R s := (by exact kept : Kept _ (by
  have hx : s.heap.get? x = some (excObj C t none) := (N (x, excObj C t none) (List.mem_append_right _ (.head _))).1
  refine exc_open X hx hc hm ho ht fun b => ?_
  refine wpAny_bind (wpAny_pure (wpAny_bind ?_))
  refine wpAny_bind (wpAny_loadPart hx (wpAny_bind ((looks_clsIn X hc).here ?_)))
  rw [hd]
  obtain ⟨hp, g, dr, tt, os⟩ := s
  have l : ∀ p ∈ pre ++ (x, excObj C t none) :: post, p.1 < hp.objs.size := fun p hp' => Heap.lt_size (N p hp').1
  have hxs : x ≠ hp.objs.size := Nat.ne_of_lt (l _ (List.mem_append_right _ (.head _)))
  have l1 : ∀ p ∈ (hp.objs.size, dictOf [] 0) :: pre, p.1 ≠ x := fun p hp' => by
    rcases List.mem_cons.mp hp' with rfl | hp'
    · exact Ne.symm hxs
    · exact h1 p hp'
  have F1 := F.push (dictOf [] 0)
  have N1 := N.push F (dictOf [] 0)
  obtain ⟨F2, N2⟩ := news_upd (pre := (hp.objs.size, dictOf [] 0) :: pre) (f := fun o => { cls := o.cls, dict := some hp.objs.size, data := o.data, slots := o.slots }) (o' := excObj C t (some hp.objs.size)) F1 N1 l1 h2 rfl rfl
  have l2 : ∀ p ∈ pre ++ (x, excObj C t (some hp.objs.size)) :: post, p.1 ≠ hp.objs.size := fun p hp' => by
    rcases List.mem_append.mp hp' with hp' | hp'
    · exact Nat.ne_of_lt (l p (List.mem_append_left _ hp'))
    rcases List.mem_cons.mp hp' with rfl | hp'
    · exact hxs
    · exact Nat.ne_of_lt (l p (List.mem_append_right _ (.tail _ hp')))
  obtain ⟨F3, N3⟩ := news_upd (pre := []) (f := Obj.putName name (PyData.keyHash w.params name) (.str name tt) v) (o' := dictOf [⟨PyData.keyHash w.params name, .str name tt, v⟩] 1) F2 N2 (fun _ hp' => nomatch hp') l2 (putName_dict _ _ _ _ _ _) rfl
  have D2 := (N2 _ (.head _)).1
  have D3 := (N3 _ (.head _)).1
  refine wpAny_bind (wpAny_alloc' ?_)
  refine wpAny_bind (wpAny_update' (N1 (x, excObj C t none) (.tail _ (List.mem_append_right _ (.head _)))).1 ?_)
  refine wpAny_pure ?_
  show wpAny _ _ (Builtin.ObjectAttr.storeInDict hp.objs.size (.str name tk) name v) _ _ _
  refine wpAny_bind (wpAny_pure (wpAny_bind ?_))
  unfold nsSet
  refine wpAny_bind (wpAny_bind (wpAny_askSetting (wpAny_pure (wpAny_bind (wpAny_mkText (wpAny_bind (wpAny_loadPart D2 ?_)))))))
  refine wpAny_updatePart D2 ?_
  refine wpAny_bind (wpAny_lookBehind D3 (pastItsLine_dict (by rw [List.size_toArray, sizeLine_eq]; exact Nat.le_add_left 1 16777216)) ?_)
  exact wpAny_pure (h _ _ F3 N3 l)))
theorem exc_store2 {n0 : Str} {t0 : Tok} {v0 : Value} {i0 : Int} (F : Fr h₀ L s.heap m) (N : News h₀ L s.heap ((x, excObj C t (some dx)) :: (dx, dictOf [⟨i0, .str n0 t0, v0⟩] 1) :: post)) (X : K.In s.heap) (hc : clsIn K C = some cd)
    (hm : cd.mro = as.map Value.ref ++ [.type "Exception", .type "BaseException", .type "object"]) (hd : cd.hasDict = true) (ho : mroIn K C (.type "object") = some true) (ht : takerIn K C name = some none) (hn : (Value.str n0 t0).isStr name = false)
    (hxd : x ≠ dx) (h2 : ∀ p ∈ post, p.1 ≠ dx)
    (h : ∀ h', Fr h₀ L h' m → News h₀ L h' ((x, excObj C t (some dx)) :: (dx, dictOf [⟨i0, .str n0 t0, v0⟩, ⟨PyData.keyHash w.params name, .str name s.toks, v⟩] 2) :: post) → R (.ok (.ret .none)) { s with heap := h', toks := s.toks + 1 }) :
    codeAny (model prog w) A (.call (.builtin "object.__setattr__") ⟨[.ref x, .str name tk, v], []⟩) R s := (by exact kept : Kept _ (by
  have hx : s.heap.get? x = some (excObj C t (some dx)) := (N _ (.head _)).1
  have D := (N _ (.tail _ (.head _))).1
  refine exc_open X hx hc hm ho ht fun b => ?_
  refine wpAny_bind (wpAny_pure (wpAny_bind ?_))
  refine wpAny_bind (wpAny_loadPart hx (wpAny_bind ((looks_clsIn X hc).here ?_)))
  rw [hd]
  obtain ⟨hp, g, dr, tt, os⟩ := s
  have ep : putL name (PyData.keyHash w.params name) (.str name tt) v [⟨i0, .str n0 t0, v0⟩] = [⟨i0, .str n0 t0, v0⟩, ⟨PyData.keyHash w.params name, .str name tt, v⟩] := by
    unfold putL; rw [hn]; rfl
  have en : putN name [⟨i0, .str n0 t0, v0⟩] 1 = 2 := by
    unfold putN; simp only [List.any_cons, List.any_nil, hn]; rfl
  obtain ⟨F3, N3⟩ := news_upd (pre := [(x, excObj C t (some dx))]) (f := Obj.putName name (PyData.keyHash w.params name) (.str name tt) v) (o' := dictOf [⟨i0, .str n0 t0, v0⟩, ⟨PyData.keyHash w.params name, .str name tt, v⟩] 2) F N
    (fun p hp' => by rw [List.mem_singleton.mp hp']; exact hxd) h2 (by rw [putName_dict, ep, en]) rfl
  have D3 := (N3 _ (.tail _ (.head _))).1
  refine wpAny_pure (a := some dx) ?_
  show wpAny _ _ (Builtin.ObjectAttr.storeInDict dx (.str name tk) name v) _ _ _
  refine wpAny_bind (wpAny_pure (wpAny_bind ?_))
  unfold nsSet
  refine wpAny_bind (wpAny_bind (wpAny_askSetting (wpAny_pure (wpAny_bind (wpAny_mkText (wpAny_bind (wpAny_loadPart D ?_)))))))
  have c : aRefKeyMayBeTheName name (#[⟨i0, .str n0 t0, v0⟩] : Array DictEntry) = false := by
    rw [aRefKeyMayBeTheName_at, ← Array.any_toList, ← Array.any_toList]
    simp only [List.any_cons, List.any_nil, hn]; rfl
  dsimp only
  rw [show ([⟨i0, .str n0 t0, v0⟩] : List DictEntry).toArray = #[⟨i0, .str n0 t0, v0⟩] from rfl, c]
  refine wpAny_updatePart D ?_
  refine wpAny_bind (wpAny_lookBehind D3 (pastItsLine_dict (by rw [List.size_toArray, sizeLine_eq]; exact Nat.le_add_left 2 16777215)) ?_)
  exact wpAny_pure (h _ F3 N3)))
end
end Mine
end
section
open PySem PySem.W PyProof.Rows PySem.Calls
namespace Mine
/-! An exception of an own class leaves frames and is caught by its own name. -/
section
variable {M : Model} {A : Around} {E : Value → Shared → Prop} {s' : Shared} {base g h : Heap} {outer : List Env} {L a e t C : Addr} {m : Str → Option Value} {name : Str} {scope : Scope} {cd : Value} {Q : Unit → Shared → Prop} {news : List (Addr × Obj)} {vs : List Value}
/-- the addresses of the frames, the leaving one first -/
abbrev frs (L : Addr) (outer : List Env) : List Addr := L :: outer.filterMap (·.frame)
theorem frames_eq : (envOf name scope L a cd :: outer).filterMap (·.frame) = frs L outer := rfl
theorem not_frame {b : Addr} {o : Obj} (K : Below A base outer g) (F : Fr g L h m) (q : base.get? b = some o) : b ∉ frs L outer := fun hm => by
  rcases List.mem_cons.mp hm with rfl | hm
  · have := K.stays _ _ q; rw [kts_self F] at this; cases this
  · rw [(K.frames.mem hm).1] at q; cases q
theorem news_off (K : Below A base outer g) (N : News g L h news) {q : Addr × Obj} (hq : q ∈ news) : q.1 ∉ frs L outer := fun hm => by
  rcases List.mem_cons.mp hm with z | hm
  · exact (N q hq).2.1 z
  · obtain ⟨_, o, ho, _⟩ := K.frames.mem hm
    rw [(N q hq).2.2] at ho; cases ho
/-- a frame's heap with one new object hidden -/
theorem hide_one {o : Obj} (F : Fr g L h m) (N : News g L h ((e, o) :: news)) (hn : ∀ p ∈ news, p.1 ≠ e) : Fr g L (hideAll h [e]) m ∧ News g L (hideAll h [e]) news := by
  have z := N _ (.head _)
  have off : ∀ b o, g.get? b = some o → b ∉ [e] := fun b o q hb => by
    rw [List.mem_singleton.mp hb, z.2.2] at q; cases q
  obtain ⟨oL, es, ep, hL, r⟩ := F.ns
  exact ⟨⟨⟨oL, es, ep, hideAll_get _ hL fun hb => z.2.1 (List.mem_singleton.mp hb).symm, r⟩, fun b o q => hideAll_get _ (F.keep b o q) (off b o q), F.above⟩, fun p hp => ⟨hideAll_get _ (N p (.tail _ hp)).1 fun hb => hn p hp (List.mem_singleton.mp hb), (N p (.tail _ hp)).2⟩⟩
theorem leave_own {od : Option Addr} (K : Below A base outer g) (F : Fr g L s'.heap m) (N : News g L s'.heap ((e, excObj C t od) :: news)) (hn : ∀ p ∈ news, @LT.lt Nat _ p.1 e)
    (hQ : ∀ h', RaisedSN base g outer e (.ref C) news h' → g.UpToSlots h' → Q () { s' with heap := h' }) (hk : scope.kind = .function := by rfl) :
    wpAny M (A.deeper (envOf name scope L a cd)) (leaving (envOf name scope L a cd) (.ref e)) Q E s' := (by exact kept : Kept _ (by
  have he := (N _ (.head _)).1
  obtain ⟨F, N⟩ := hide_one F N fun p hp => Nat.ne_of_lt (hn p hp)
  have keeps : ∀ b o, (hideAll s'.heap [e]).get? b = some o → s'.heap.get? b = some o := fun b o q => of_hideAll _ q
  have new : (hideAll s'.heap [e]).get? e = none := hideAll_none _ (.head _)
  generalize hideAll s'.heap [e] = h at F N keeps new
  have K' := K.push (name := name) (a := a) (cd := cd) F hk
  have hin : ∀ env ∈ (envOf name scope L a cd :: outer), ∀ b, env.frame = some b → b ∈ frs L outer := fun env he b hb => by
    rw [← frames_eq (name := name) (scope := scope) (a := a) (cd := cd)]; exact List.mem_filterMap.mpr ⟨env, he, hb⟩
  have hen : (hideAll h (frs L outer)).get? e = none := by
    cases q : (hideAll h (frs L outer)).get? e with
    | none => rfl
    | some o => have := of_hideAll _ q; rw [new] at this; cases this
  refine wpAny_leaving_firstW (a0 := .ref t) K'.stack ((funFrames_hide K'.frames hin).of_keeps fun b o hb _ => ⟨o, keeps b o hb, rfl⟩) rfl he (fun b o hb => keeps b o (of_hideAll _ hb)) hen rfl rfl rfl fun h' hL => ?_
  obtain ⟨k1, ⟨_, _, k2⟩, k3, k4⟩ := hL
  refine hQ h' ⟨hideAll h (frs L outer), .ref t, fun b o q => hideAll_get _ (K'.stays b o q) (not_frame K F q), fun b o q nm => hideAll_get _ (F.keep b o q) fun hm => ?_, fun q hq => ⟨hideAll_get _ (N q hq).1 (news_off K N hq), (N q hq).2.2, fresh_of_stays K.stays (N q hq).2.2⟩, k1, hen, k2, k3⟩
    (((Heap.UpToSlots.of_keeps F.keep).trans (Heap.UpToSlots.of_keeps keeps)).trans k4)
  rcases List.mem_cons.mp hm with rfl | hm
  · rw [kts_self F] at q; cases q
  · exact nm hm))
end
section
variable {prog : Program} {w : World} {A₀ A : Around} {E : Value → Shared → Prop} {s s' : Shared} {base g G : Heap} {outer : List Env} {L a e C : Addr} {m : Str → Option Value} {name : Str} {scope : Scope} {cd : Value}
  {b₀ : Stmt} {suite : List Stmt} {pos np : Pos} {rest : List ExceptHandler} {Q : Flow → Shared → Prop} {news : List (Addr × Obj)} {KF : Frag}
  {p : Program} {loose : List Str} {mean : ExcName → Option Value} {mg mb : Str → Option Value} {x : Str}
theorem caught_own (R : RaisedSN base G (envOf name scope L a cd :: outer) e (.ref C) news s'.heap) (F : Fr g L G m) (K : Below A₀ base outer g) (hsm : G.UpToSlots s'.heap) (XB : KF.In base) (TB : Top p loose mean mg mb base)
    (ex : nsIn KF mainGlobals x = some (some (.ref C))) (q : ktsIn KF C "BaseException" = true)
    (k : ∀ h' g', KtsTurn (outer.filterMap (·.frame)) g g' → Fr g' L h' m → News g' L h' news → Below A₀ base outer g' → KF.In g' → Top p loose mean mg mb g' →
      wpAny (model prog w) ((A₀.deeper (envOf name scope L a cd)).mark (some (.ref e))) (execs (b₀ :: suite) (envOf name scope L a cd)) Q E { s' with heap := h' })
    (hk : scope.kind = .function := by rfl) (hx : (envOf name scope L a cd).kindOf x = some .globalImplicit := by rfl) (hd : (x == ("__debug__" : Str)) = false := by decide)
    (hE : PassesOwnAt (model prog w) ((A₀.deeper (envOf name scope L a cd)).mark (some (.ref e))) (A₀.deeper (envOf name scope L a cd)) (envOf name scope L a cd) E := by passes_own) :
    wpAny (model prog w) (A₀.deeper (envOf name scope L a cd)) (noteFrame (.ref e) (envOf name scope L a cd))
      (fun _ s₂ => wpAny (model prog w) (A₀.deeper (envOf name scope L a cd)) (setFlight (.ref e) none) (fun _ s₃ =>
        wpAny (model prog w) (A₀.deeper (envOf name scope L a cd)) (handleBy (.ref e) (envOf name scope L a cd) (.ExceptHandler (some (.Name x np)) none (b₀ :: suite) pos :: rest)) Q E s₃) E s₂) E s' := (by exact kept : Kept _ (by
  obtain ⟨B, a0, hB, hBG, hl, hfl⟩ := R
  have hL : B.get? L = none := by
    obtain ⟨_, ⟨L', _, hf, hn', _⟩, _⟩ := hfl.2.2.1
    obtain rfl : L = L' := Option.some.inj hf
    exact hn'
  refine wpAny_looks_onW (Around.frames_deeper K.stack) rfl hfl fun h1 held1 sm1 => wpAny_landsW held1 fun h2 fly2 sm2 => ?_
  have up2 := hsm.trans (sm1.trans sm2)
  obtain ⟨g2, -, F2, K2⟩ := kts_ground K F hBG fly2.1 up2
  have X2 : KF.In g2 := XB.keeps K2.stays
  obtain ⟨ob, hob, hobc⟩ := fly2.there
  obtain ⟨nm, q', N, bs, bm, hdct, sn, sub, ab, col, dd, k0, k1, k2, k3, k5, newId, hC, hbase, -⟩ := kts_cls X2 q
  refine wpAny_handleBy_cons (codeAny_handlers_test (name_K F2 X2 (topRead_of (TB.keeps K2.stays)) ex ?_ hk hx hd)) (by intro z; cases z)
  refine wpAny_excMatches_sub_self (F2.keep _ _ hC) hob hobc hbase (codeAny_handlers_suite (lands_againW fly2 fun h3 fly3 sm3 => ?_))
  obtain ⟨g3, T3, F3, K3⟩ := kts_ground K F hBG fly3.1 (up2.trans sm3)
  exact wpAny_passesOwnAt hE (k h3 g3 T3 F3 (fun r hr => ⟨fly3.1 _ _ (hl r hr).1, (fun z => by have := (hl r hr).1; rw [z, hL] at this; cases this), T3.none_ _ (kts_none F.keep (hl r hr).2.1)⟩) K3 (XB.keeps K3.stays) (TB.keeps K3.stays))))
/-- the end of a raised expression: a new exception of an own class -/
def Thrown (KF : Frag) (C : Addr) (E : Value → Shared → Prop) (v : Value) (s : Shared) : Prop :=
  ∃ e dd sl t, v = .ref e ∧ KF.In s.heap ∧ s.heap.get? e = some ⟨.ref C, dd, .fields #[.ref t, .none, .none, .none, .bool false, .none], sl⟩ ∧ E (.ref e) s
theorem raise_own {A : Around} {env : Env} {ex : Expr} {Q : Flow → Shared → Prop} (hh : A.handled = none) (q : ktsIn KF C "BaseException" = true)
    (h : wpAny (model prog w) A (eval ex env) (fun v s₁ => Thrown KF C E v s₁) E s) : wpAny (model prog w) A (exec (.Raise (some ex) none pos) env) Q E s := (by exact kept : Kept _ (by
  rw [arm_exec_Raise]
  refine wpAny_bind (wpAny_standAt ?_)
  show wpAny _ _ (raiseStmt env (some (eval ex env >>= fun v => standAt pos >>= fun _ => pure v)) none) _ _ _
  unfold raiseStmt
  refine wpAny_bind (wpAny_bind (wpAny_mono h (fun v s₁ h₁ => wpAny_bind (wpAny_standAt (wpAny_pure ?_))) fun _ _ z => z))
  obtain ⟨e, dd, sl, t, rfl, X, he, hE⟩ := h₁
  obtain ⟨nm, q', N, bs, bm, hdct, sn, sub, ab, col, dd', k0, k1, k2, k3, k5, newId, hC, hbase, -⟩ := kts_cls X q
  have hcB : (Value.ref C :: bm).contains (.type "BaseException") = true := by rw [List.contains_cons, hbase, Bool.or_true]
  obtain ⟨hp, gg, d, tk, os⟩ := s₁
  repeat (first | with_reducible refine wpAny_loadPart_at he ?_ | with_reducible refine wpAny_loadPart_at hC ?_ | (with_reducible refine wpAny_isSubtype_exc hC ?_; rw [hcB]) | wp_step)
  exact wpAny_raiseNew_none hh hE))
end
end Mine
end
section
open PySem PySem.W PyProof.Rows PySem.Calls
namespace Mine
/-! A call from the law's own frame of a def that catches. -/
section
variable {prog : Program} {w : World} {A₀ A : Around} {s : Shared} {base h₀ : Heap} {L : Addr} {m : Str → Option Value} {env : Env} {news : List (Addr × Obj)} {K : Frag} {p : Program} {loose : List Str} {mean : ExcName → Option Value} {mg mb : Str → Option Value}
    {R : Result → Shared → Prop} {name qual : Str} {params : Arguments} {body : List Stmt} {scope : Scope} {dV kV doc pm cdv ct oc : Value} {an od : Option Addr} {osl : Array (Option Value)} {f : Addr} {args : Args} {binds : List (Str × Value)}
theorem code_defT (B : Below A₀ base [] h₀) (F : Fr h₀ L s.heap m) (X₀ : K.In h₀) (N : News h₀ L s.heap news) (T : Top p loose mean mg mb h₀) (hA : A.frames = some [env]) (hf : env.frame = some L) (hke : env.scope.kind = .function)
    (ho : K.lookup f = some ⟨oc, od, .func (fnOf name qual params body scope dV kV doc pm an cdv ct), osl⟩) (hcd : codeIn K cdv qual = true) (hroom : A.depth < recursionLimit)
    (hbind : BindsTo s (fnOf name qual params body scope dV kV doc pm an cdv ct) args binds) (hloc : ∀ y ∈ binds, scope.names.lookup y.1 = some .local)
    (h : ∀ g L' h₁, Fr h₀ L g m → Fr g L' h₁ (fun y => binds.reverse.lookup y) → News g L' h₁ news → Below A base [env] g → K.In g → Top p loose mean mg mb g →
      wpAny (model prog w) (A.deeper (envOf qual scope L' f cdv)) (execs body (envOf qual scope L' f cdv))
        (fun fl s' => LeaveS0 [L] h₀ L m g R (match fl with | .ret v => v | _ => .none) s')
        (fun e s' => wpAny (model prog w) (A.deeper (envOf qual scope L' f cdv)) (leaving (envOf qual scope L' f cdv) e) (fun _ s'' => R (.error e) s'') (fun e' s'' => R (.error e') s'') s')
        { s with heap := h₁, toks := s.toks + binds.length })
    (hco : scope.isCoroutine = false) (hgen : scope.isGenerator = false) (hk : scope.kind = .function) (hcell : ∀ x ∈ scope.names, x.2 ≠ .cell) : codeAny (model prog w) A (.call (.ref f) args) R s := (by exact kept : Kept _ (by
  have X := X₀.keeps F.keep
  refine codeAny_call_def (fd := fnOf name qual params body scope dV kV doc pm an cdv ct) (body := body) (binds := binds) hroom (X _ _ ho) rfl (T.nolimit.keeps F.keep) (codeRec_of X hcd) rfl hbind hcell hloc (fun h₁ hns hk₁ => ?_) hco hgen hk
  have off : ∀ b o, h₀.get? b = some o → b ∉ news.map (·.1) := fun b o e q => by
    obtain ⟨r, hr, rfl⟩ := List.mem_map.mp q
    rw [(N r hr).2.2] at e; cases e
  have st : h₀.StaysIn (hideAll s.heap (news.map (·.1))) := fun b o e => hideAll_get _ (F.keep b o e) (off b o e)
  have nL₀ : h₀.get? L = none := kts_self F
  obtain ⟨oL, es, ep, hL, hLd, hLr⟩ := F.ns
  have hLg : (hideAll s.heap (news.map (·.1))).get? L = some oL := hideAll_get _ hL fun q => by
    obtain ⟨r, hr, e⟩ := List.mem_map.mp q
    exact (N r hr).2.1 e
  have B₂ : Below A base [env] (hideAll s.heap (news.map (·.1))) := ⟨hA, fun b o e => st b o (B.stays b o e), ⟨by rw [hke]; decide, ⟨L, oL, hf, fresh_of_stays B.stays nL₀, hLg, fun vs q => by rw [hLd] at q; cases q⟩, trivial⟩⟩
  refine wpAny_mono (h _ s.heap.objs.size h₁ ⟨⟨oL, es, ep, hLg, hLd, hLr⟩, st, F.above⟩ ⟨hns, fun b o e => hk₁ b o (of_hideAll _ e), Nat.le_of_eq (hideAll_size _ _)⟩
    (fun r hr => ⟨hk₁ _ _ (N r hr).1, Nat.ne_of_lt (Heap.lt_size (N r hr).1), hideAll_none _ (List.mem_map_of_mem hr)⟩) B₂ (X₀.keeps st) (T.keeps st)) (fun fl s' hl => ?_) fun _ _ y => y
  obtain ⟨g', L', m', news', T', F', N', k⟩ := hl
  obtain ⟨sl, hs⟩ := T'.up hLg
  refine k ⟨⟨_, es, ep, F'.keep _ _ hs, hLd, hLr⟩, fun b o e => F'.keep b o (T'.other b o (st b o e) fun q => ?_), F.above⟩ fun r hr => ⟨(N' r hr).1, fun q => ?_, ?_⟩
  · rw [List.mem_singleton.mp q, nL₀] at e; cases e
  · have := (N' r hr).2.2; rw [q, hs] at this; cases this
  · cases q : h₀.get? r.1 with
    | none => rfl
    | some o =>
      obtain ⟨sl', hs'⟩ := T'.up (st _ _ q)
      have := (N' r hr).2.2
      rw [hs'] at this; cases this))
end
end Mine
end
section
open PySem PySem.W PyProof.Rows PySem.Calls
namespace Mine
theorem lo_of {w : World} {h₀ h : Heap} {L d : Addr} {o : Obj} {news : List (Addr × Obj)} (X : (hd.heap_1 w.params).In h₀) (N : News h₀ L h news) (hm : (d, o) ∈ news) : (d == sysModules) = false := (by exact kept : Kept _ (by
  obtain ⟨o1, ho1⟩ : ∃ o1, (hd.heap_1 w.params).lookup sysModules = some o1 := ⟨_, by k_is⟩
  have h1 := X _ _ ho1
  have h2 := (N _ hm).2.2
  cases q : d == sysModules with
  | false => rfl
  | true =>
    rw [beq_iff_eq.mp q] at h2
    rw [h1] at h2; cases h2))
theorem some_is {α : Type} {x : Option α} {v : α} (h : x = some v) : x.isSome = true := by rw [h]; rfl
theorem none_is {α : Type} {x : Option α} (h : x = none) : x.isSome = false := by rw [h]; rfl
end Mine
end
section
open PySem PySem.W PyProof.Rows PySem.Calls
namespace Mine
/-! sorted(d) of a dict of the ledger: the keys in order, in a new list. -/
theorem ints_pts : ∀ {vs : List Value} {kvs : List (Int × Value)}, vs.length = kvs.length → (∀ (j : Nat) (v : Value), vs[j]? = some v → ∃ k x, kvs[j]? = some (k, x) ∧ ∃ t, v = Value.int k t) → IntsAre vs (kvs.map (·.1))
  | [], [], _, _ => .nil
  | [], _ :: _, h, _ => nomatch h
  | _ :: _, [], h, _ => nomatch h
  | v :: vs, kv :: kvs, h, p => by
    obtain ⟨k, x, e, t, rfl⟩ := p 0 v rfl
    obtain rfl : kv = (k, x) := Option.some.inj e
    exact .cons k t (ints_pts (Nat.succ.inj h) fun j u hu => p (j + 1) u hu)
theorem strs_pts : ∀ {vs : List Value} {kvs : List (Str × Value)}, vs.length = kvs.length → (∀ (j : Nat) (v : Value), vs[j]? = some v → ∃ k x, kvs[j]? = some (k, x) ∧ ∃ t, v = Value.str k t) → StrsAre vs (kvs.map (·.1))
  | [], [], _, _ => .nil
  | [], _ :: _, h, _ => nomatch h
  | _ :: _, [], h, _ => nomatch h
  | v :: vs, kv :: kvs, h, p => by
    obtain ⟨k, x, e, t, rfl⟩ := p 0 v rfl
    obtain rfl : kv = (k, x) := Option.some.inj e
    exact .cons k t (strs_pts (Nat.succ.inj h) fun j u hu => p (j + 1) u hu)
section
variable {prog : Program} {w : World} {A : Around} {E : Value → Shared → Prop} {s : Shared} {h₀ : Heap} {L d : Addr} {m : Str → Option Value} {news : List (Addr × Obj)} {o : Obj} {Q : Value → Shared → Prop}
/-- what the sort leaves of the list's own object -/
theorem news_sorted {h : Heap} {D : Addr} {vs : List Value} {out : Array Value} (F : Fr h₀ L h m) (N : News h₀ L h ((D, listOf vs.toArray 0) :: news)) (l1 : ∀ q ∈ news, q.1 < D) :
    ∃ n, Fr h₀ L (sortedHeap h D vs out) m ∧ News h₀ L (sortedHeap h D vs out) ((D, listOf out n) :: news) := by
  have z := N _ (.head _)
  have b : ∀ q ∈ news, q.1 ≠ D := fun q hq => Nat.ne_of_lt (l1 q hq)
  have nil : ∀ q ∈ ([] : List (Addr × Obj)), q.1 ≠ D := fun _ hq => nomatch hq
  have F1 : Fr h₀ L (h.update D (Obj.mapSeq fun _ => (#[] : Array Value))) m := F.change (Heap.SameBut.update ..) z.2.1 z.2.2
  have F3 := (F1.push (seqObj "tuple" vs.toArray 0)).push (seqObj "list" #[] 0)
  obtain ⟨n1, N1⟩ : ∃ n1, News h₀ L (h.update D (Obj.mapSeq fun _ => (#[] : Array Value))) ((D, listOf #[] n1) :: news) :=
    ⟨_, ki_turn (pre := []) (post := news) (fun _ => (#[] : Array Value)) (its' := #[]) N nil b rfl rfl⟩
  have N2 := News.grown N1 fun _ _ e => Heap.get?_push_of_some (seqObj "tuple" vs.toArray 0) e
  have N3 := News.grown N2 fun _ _ e => Heap.get?_push_of_some (seqObj "list" #[] 0) e
  exact ⟨_, F3.change (Heap.SameBut.update ..) z.2.1 z.2.2, ki_turn (pre := []) (post := news) (fun _ => out) (its' := out) N3 nil b rfl rfl⟩
theorem sorted_ints {kvs : List (Int × Value)} (hh : A.handled = none) (F : Fr h₀ L s.heap m) (N : News h₀ L s.heap news) (hm : (d, o) ∈ news) (hd : o.IsDictOf (PySem.intKind prog w) kvs) (lo : (d == sysModules) = false) (hn : kvs.length < 64)
    (h : ∀ (D : Addr) h' tk (out : Array Value) n ns, Fr h₀ L h' m → News h₀ L h' ((D, listOf out n) :: news) → (∀ q ∈ news, q.1 < D) → IntsAre out.toList ns → ns.Perm (kvs.map (·.1)) → ns.Pairwise (· ≤ ·) → Q (.ref D) { s with heap := h', toks := tk }) :
    wpAny (model prog w) A (call (.builtin "sorted") [.ref d]) Q E s := (by exact kept : Kept _ (by
  obtain ⟨ep, hat⟩ := (kda_dict N hm hd).dictAt
  refine kdu_sorted (kdl_dict (knd := PySem.intKind prog w) (kvs := kvs) (ep := ep) lo) hh F N hat (by rw [sizeLine_eq]; omega) fun D h' tk vs F' N' l1 hl hv => ?_
  have hI : IntsAre vs (kvs.map (·.1)) := ints_pts hl fun j v hj => by
    obtain ⟨k, x, e, hk⟩ := hv j v hj
    exact ⟨k, x, e, PyProof.V.Flat.int_inv (kdl_flat_int hk)⟩
  refine wpAny_call_entry PyProof.Rows.slot_list_sort ⟨_, (N' _ (.head _)).1, rfl⟩ PyProof.Rows.entry_list_sort (list_sort_tree (n := 0) (vs := vs) (N' _ (.head _)).1 hI (by omega) fun out ns' a1 a2 a3 => ⟨.none, rfl, ?_⟩) (PyProof.Rows.args_list_sort _)
  obtain ⟨n, F4, N4⟩ := news_sorted (out := out) F' N' l1
  exact h D _ _ out n ns' F4 N4 l1 a1 a2 a3))
theorem sorted_strsD {kvs : List (Str × Value)} (hh : A.handled = none) (F : Fr h₀ L s.heap m) (N : News h₀ L s.heap news) (hm : (d, o) ∈ news) (hd : o.IsDictOf (PySem.strKind prog w) kvs) (lo : (d == sysModules) = false) (hn : kvs.length < 64)
    (h : ∀ (D : Addr) h' tk (out : Array Value) n ns, Fr h₀ L h' m → News h₀ L h' ((D, listOf out n) :: news) → (∀ q ∈ news, q.1 < D) → StrsAre out.toList ns → ns.Perm (kvs.map (·.1)) → sortedS ns = true → Q (.ref D) { s with heap := h', toks := tk }) :
    wpAny (model prog w) A (call (.builtin "sorted") [.ref d]) Q E s := (by exact kept : Kept _ (by
  obtain ⟨ep, hat⟩ := (kda_dict N hm hd).dictAt
  refine kdu_sorted (kdl_dict (knd := PySem.strKind prog w) (kvs := kvs) (ep := ep) lo) hh F N hat (by rw [sizeLine_eq]; omega) fun D h' tk vs F' N' l1 hl hv => ?_
  have hS : StrsAre vs (kvs.map (·.1)) := strs_pts hl fun j v hj => by
    obtain ⟨k, x, e, hk⟩ := hv j v hj
    exact ⟨k, x, e, PyProof.V.Flat.str_inv (kdl_flat_str hk)⟩
  refine wpAny_call_entry PyProof.Rows.slot_list_sort ⟨_, (N' _ (.head _)).1, rfl⟩ PyProof.Rows.entry_list_sort (list_sort_treeK strKind_oneLt (n := 0) (vs := vs) (N' _ (.head _)).1 hS.keysOf (fun v₁ v₂ rest e => keyKind_strs (by rw [← e]; exact hS)) (by omega) fun st' hp hs => ⟨.none, rfl, ?_⟩) (PyProof.Rows.args_list_sort _)
  obtain ⟨ss', a1, a2, a3⟩ := sorted_out_str hS hp hs
  obtain ⟨n, F4, N4⟩ := news_sorted (out := (arrOf st').map (·.2)) F' N' l1
  exact h D _ _ _ n ss' F4 N4 l1 a1 a2 a3))
end
end Mine
end
section
open PySem PySem.W PyProof.Rows PySem.Calls
namespace Mine
/-! Loops whose turns change the ledger: over a list of the call's own, and over a range. -/
/-- the place where a loop's own lines are wanted: no rule of the library looks here -/
def Looped (prog : Program) (w : World) (A : Around) (h₀ : Heap) (env : Env) (x : Str) (body : List Stmt) (Q : Flow → Shared → Prop) (E : Value → Shared → Prop) (v : Value) (s : Shared) : Prop :=
  wpAny (model prog w) A (pyIter v) (fun it s₂ => LoopAtV prog w A h₀ env x body Q E it s₂) E s
/-- the end of a turn -/
def TurnEnd (h₀ : Heap) (L : Addr) (x y : Str) (m₀ : Str → Option Value) (I : Addr) (own : List (Addr × Obj)) (J : List (Addr × Obj) → Prop) (s : Shared) (Q : Flow → Shared → Prop) : Flow → Shared → Prop
  | .ret v, s₂ => Q (.ret v) s₂
  | .brk, s₂ => Q .next s₂
  | _, s₂ => ∃ h' tk m' nx, s₂ = { s with heap := h', toks := tk } ∧ Fr h₀ L h' m' ∧ (∀ z, z ≠ x → z ≠ y → m' z = m₀ z) ∧ News h₀ L h' (own ++ nx) ∧ (∀ p ∈ nx, p.1 ≠ I) ∧ J nx
theorem two_names {x y : Str} {m m₀ : Str → Option Value} (h : ∀ z, z ≠ x → z ≠ y → m z = m₀ z) : m = fun z => if z = x then m z else if z = y then m z else m₀ z := by
  funext z
  by_cases h1 : z = x
  · rw [if_pos h1]
  · rw [if_neg h1]
    by_cases h2 : z = y
    · rw [if_pos h2]
    · rw [if_neg h2]; exact h z h1 h2
section
variable {prog : Program} {w : World} {A : Around} {E : Value → Shared → Prop} {s : Shared} {env : Env} {h₀ : Heap} {x y : Str} {body : List Stmt} {Q : Flow → Shared → Prop} {m₀ : Str → Option Value} {news : List (Addr × Obj)}
theorem For_own {px pos : Pos} {iter : Expr} {m : Str → Option Value} {L : Addr} (_F : Fr h₀ L s.heap m) (h : wpAny (model prog w) A (eval iter env) (fun v s₁ => Looped prog w A h₀ env x body Q E v s₁) E s)
    (hx : env.kindOf x = some .local) (hp : (env.scope.kind == .class || (env.scope.kind == .module && env.locals != env.globals)) = false)
    (hs : ∀ x, foldedSetIterable iter env x = pure x) (hE : PassesOwn (model prog w) A env E) :
    wpAny (model prog w) A (exec (.For (.Name x px) iter body [] pos) env) Q E s := For_invV (hE := hE) h₀ hx hp h hs
theorem loop_list {l : Addr} {its : Array Value} {n0 : Nat} (J : Nat → List (Addr × Obj) → Prop) (hh : A.handled = none) (F : Fr h₀ env.locals s.heap m₀) (N : News h₀ env.locals s.heap ((l, listOf its n0) :: news)) (hj : J 0 news)
    (turn : ∀ i v (u : Str → Option Value) nx I oI h tk, its[i]? = some v → J i nx → (∀ p ∈ nx, @Ne Nat p.1 I) → @Ne Nat l I → Fr h₀ env.locals h (fun z => if z = x then some v else if z = y then u z else m₀ z) → News h₀ env.locals h ((I, oI) :: (l, listOf its n0) :: nx) →
      wpAny (model prog w) A (execs body env) (TurnEnd h₀ env.locals x y m₀ I [(I, oI), (l, listOf its n0)] (J (i + 1)) { s with heap := h, toks := tk } Q) E { s with heap := h, toks := tk })
    (done : ∀ (u : Str → Option Value) nx h tk, J its.size nx → Fr h₀ env.locals h (fun z => if z = x then u z else if z = y then u z else m₀ z) → News h₀ env.locals h nx → Q .next { s with heap := h, toks := tk }) :
    Looped prog w A h₀ env x body Q E (.ref l) s := (by exact kept : Kept _ (by
  unfold Looped
  have hl := N _ (.head _)
  have hls : s.heap.IsList l its := ⟨_, hl.1, rfl, n0, rfl⟩
  have hlI : l ≠ s.heap.objs.size := Nat.ne_of_lt (Heap.lt_size hl.1)
  refine wpAny_pyIter_list hls ?_
  have W := Walks.list (prog := prog) (w := w) hh s.heap.objs.size l hlI its
  have fI : h₀.get? s.heap.objs.size = none := by
    cases q : h₀.get? s.heap.objs.size with
    | none => rfl
    | some o => exact absurd (Heap.lt_size (F.keep _ _ q)) (Nat.lt_irrefl _)
  refine ⟨_, _, _, _, _, _, m₀, (l, listOf its n0) :: news, fun i m nx' => (∃ nx, nx' = (l, listOf its n0) :: nx ∧ J i nx) ∧ ∀ z, z ≠ x → z ≠ y → m z = m₀ z, rfl, W, ?_, ?_, ?_, ⟨⟨_, Heap.get?_push_size _ rfl, rfl, rfl⟩, hls.at fun o e => Heap.get?_push_of_some _ e⟩, F.push _,
    (fun p hp => ⟨Heap.get?_push_of_some _ (N p hp).1, (N p hp).2⟩), ⟨⟨_, rfl, hj⟩, fun _ _ _ => rfl⟩, ?_, ?_⟩
  · intro hm
    rcases List.mem_cons.mp hm with e | hm
    · exact absurd F.ns.lt (e ▸ Nat.lt_irrefl _)
    · exact hl.2.1 (List.mem_singleton.mp hm).symm
  · intro b hb; rw [List.mem_singleton.mp hb]; exact fI
  · intro p hp q
    exact absurd (Heap.lt_size (N p hp).1) (by rw [List.mem_singleton.mp q]; exact Nat.lt_irrefl _)
  · rintro i v m₁ nx' s₁ own ⟨hh', tk', rfl⟩ hin hP ⟨⟨nx, rfl, hJ⟩, hm⟩ hoff hown hget hall hst F₁ N₁
    obtain ⟨⟨oI, hoI, -⟩, -⟩ := hst
    have iI := hall s.heap.objs.size (.head _) fI _ hoI
    have gl : hh'.get? l = some (listOf its n0) := (N₁ _ (List.mem_append_right _ (.head _))).1
    rw [two_names hm] at F₁
    have F₂ : Fr h₀ env.locals hh' (fun z => if z = x then some v else if z = y then m₁ z else m₀ z) := by
      have e : (fun z => if z = x then some v else (if z = x then m₁ z else if z = y then m₁ z else m₀ z)) = fun z => if z = x then some v else if z = y then m₁ z else m₀ z := by
        funext z
        by_cases h1 : z = x
        · rw [if_pos h1, if_pos h1]
        · rw [if_neg h1, if_neg h1, if_neg h1]
      rwa [e] at F₁
    refine wpAny_mono (turn i v m₁ nx s.heap.objs.size oI hh' tk' hP hJ (fun p hp e => hoff p (.tail _ hp) (by rw [show p.1 = _ from e]; exact .head _)) hlI F₂ fun p hp => ?_) (fun f s₂ t => ?_) fun _ _ e => e
    · rcases List.mem_cons.mp hp with rfl | hp
      · exact N₁ _ (List.mem_append_left _ iI)
      · exact N₁ _ (List.mem_append_right _ hp)
    · have fin : (∃ h' tk m' nx, s₂ = { s with heap := h', toks := tk } ∧ Fr h₀ env.locals h' m' ∧ (∀ z, z ≠ x → z ≠ y → m' z = m₀ z) ∧ News h₀ env.locals h' ([(s.heap.objs.size, oI), (l, listOf its n0)] ++ nx) ∧ (∀ p ∈ nx, p.1 ≠ s.heap.objs.size) ∧ J (i + 1) nx) →
          LoopStepU h₀ env.locals [s.heap.objs.size] own (fun m nx' => (∃ nx, nx' = (l, listOf its n0) :: nx ∧ J (i + 1) nx) ∧ ∀ z, z ≠ x → z ≠ y → m z = m₀ z) { s with heap := hh', toks := tk' } .next s₂ := by
        rintro ⟨h', tk, m', nx₂, rfl, F', hm', N', hI', hJ'⟩
        refine ⟨rfl, h', tk, m', (l, listOf its n0) :: nx₂, rfl, F', fun p hp => ?_, fun p hp q => ?_, ⟨_, rfl, hJ'⟩, hm'⟩
        · rcases List.mem_append.mp hp with hp | hp
          · have g1 := hget p hp
            rcases List.mem_cons.mp (hown p hp) with e | e
            · have : p = (s.heap.objs.size, oI) := Prod.ext e (by rw [e] at g1; exact Option.some.inj (g1.symm.trans hoI))
              rw [this]; exact N' _ (.head _)
            · have e := List.mem_singleton.mp e
              have : p = (l, listOf its n0) := Prod.ext e (by rw [e] at g1; exact Option.some.inj (g1.symm.trans gl))
              rw [this]; exact N' _ (.tail _ (.head _))
          · exact N' p (.tail _ hp)
        · have q := List.mem_singleton.mp q
          rcases List.mem_cons.mp hp with rfl | hp
          · exact hlI q
          · exact hI' p hp q
      cases f with
      | ret v => exact t
      | brk => exact t
      | next => exact fin t
      | cont => exact fin t
  · rintro h' tk' m' nx' F' N' - ⟨⟨nx, rfl, hJ⟩, hm⟩
    rw [two_names hm] at F'
    exact done m' nx h' tk' hJ F' fun p hp => N' p (.tail _ hp)))
theorem loop_range {r : Addr} {a b : Int} {t1 t2 t3 : Tok} {n : Nat} (J : Nat → List (Addr × Obj) → Prop) (hh : A.handled = none) (F : Fr h₀ env.locals s.heap m₀) (N : News h₀ env.locals s.heap news) (hr : IsRange s.heap r a b 1 t1 t2 t3)
    (hs : Builtin.Range.small a b 1 = true) (hn : Builtin.Range.rangeSize a b 1 = (n : Int)) (hj : J 0 news)
    (turn : ∀ i t (u : Str → Option Value) nx I oI h tk, i < n → J i nx → (∀ p ∈ nx, @Ne Nat p.1 I) → Fr h₀ env.locals h (fun z => if z = x then some (.int (a + i) t) else if z = y then u z else m₀ z) → News h₀ env.locals h ((I, oI) :: nx) →
      wpAny (model prog w) A (execs body env) (TurnEnd h₀ env.locals x y m₀ I [(I, oI)] (J (i + 1)) { s with heap := h, toks := tk } Q) E { s with heap := h, toks := tk })
    (done : ∀ (u : Str → Option Value) nx h tk, J n nx → Fr h₀ env.locals h (fun z => if z = x then u z else if z = y then u z else m₀ z) → News h₀ env.locals h nx → Q .next { s with heap := h, toks := tk }) :
    Looped prog w A h₀ env x body Q E (.ref r) s := (by exact kept : Kept _ (by
  unfold Looped
  refine wpAny_pyIter_range hr hs ?_
  have W := Walks.range (prog := prog) (w := w) hh s.heap.objs.size a 1 n
  have fI : h₀.get? s.heap.objs.size = none := by
    cases q : h₀.get? s.heap.objs.size with
    | none => rfl
    | some o => exact absurd (Heap.lt_size (F.keep _ _ q)) (Nat.lt_irrefl _)
  refine ⟨_, _, _, _, _, _, m₀, news, fun i m nx => J i nx ∧ ∀ z, z ≠ x → z ≠ y → m z = m₀ z, rfl, W, ?_, ?_, ?_, ?_, F.push _,
    (fun p hp => ⟨Heap.get?_push_of_some _ (N p hp).1, (N p hp).2⟩), ⟨hj, fun _ _ _ => rfl⟩, ?_, ?_⟩
  · intro hm
    exact absurd F.ns.lt (List.mem_singleton.mp hm ▸ Nat.lt_irrefl _)
  · intro c hc; rw [List.mem_singleton.mp hc]; exact fI
  · intro p hp q
    exact absurd (Heap.lt_size (N p hp).1) (by rw [List.mem_singleton.mp q]; exact Nat.lt_irrefl _)
  · have := Heap.get?_push_size s.heap (o := { cls := .type "range_iterator", data := .fields #[rawInt a, rawInt (Builtin.Range.rangeSize a b 1), rawInt 1] }) rfl
    rw [hn] at this
    simpa [IsRangeIter, hn] using this
  · rintro i v m₁ nx s₁ own ⟨hh', tk', rfl⟩ hin ⟨t, hP⟩ ⟨hJ, hm⟩ hoff hown hget hall hst F₁ N₁
    obtain ⟨oI, hoI⟩ : ∃ oI, hh'.get? s.heap.objs.size = some oI := ⟨_, hst⟩
    have iI := hall s.heap.objs.size (.head _) fI _ hoI
    rw [Int.mul_one] at hP
    subst hP
    rw [two_names hm] at F₁
    have F₂ : Fr h₀ env.locals hh' (fun z => if z = x then some (.int (a + i) t) else if z = y then m₁ z else m₀ z) := by
      have e : (fun z => if z = x then some (Value.int (a + i) t) else (if z = x then m₁ z else if z = y then m₁ z else m₀ z)) = fun z => if z = x then some (Value.int (a + i) t) else if z = y then m₁ z else m₀ z := by
        funext z
        by_cases h1 : z = x
        · rw [if_pos h1, if_pos h1]
        · rw [if_neg h1, if_neg h1, if_neg h1]
      rwa [e] at F₁
    refine wpAny_mono (turn i t m₁ nx s.heap.objs.size oI hh' tk' hin hJ (fun p hp e => hoff p hp (by rw [show p.1 = _ from e]; exact .head _)) F₂ fun p hp => ?_) (fun f s₂ t => ?_) fun _ _ e => e
    · rcases List.mem_cons.mp hp with rfl | hp
      · exact N₁ _ (List.mem_append_left _ iI)
      · exact N₁ _ (List.mem_append_right _ hp)
    · have fin : (∃ h' tk m' nx, s₂ = { s with heap := h', toks := tk } ∧ Fr h₀ env.locals h' m' ∧ (∀ z, z ≠ x → z ≠ y → m' z = m₀ z) ∧ News h₀ env.locals h' ([(s.heap.objs.size, oI)] ++ nx) ∧ (∀ p ∈ nx, p.1 ≠ s.heap.objs.size) ∧ J (i + 1) nx) →
          LoopStepU h₀ env.locals [s.heap.objs.size] own (fun m nx => J (i + 1) nx ∧ ∀ z, z ≠ x → z ≠ y → m z = m₀ z) { s with heap := hh', toks := tk' } .next s₂ := by
        rintro ⟨h', tk, m', nx₂, rfl, F', hm', N', hI', hJ'⟩
        refine ⟨rfl, h', tk, m', nx₂, rfl, F', fun p hp => ?_, fun p hp q => ?_, hJ', hm'⟩
        · rcases List.mem_append.mp hp with hp | hp
          · have g1 := hget p hp
            have e := List.mem_singleton.mp (hown p hp)
            have : p = (s.heap.objs.size, oI) := Prod.ext e (by rw [e] at g1; exact Option.some.inj (g1.symm.trans hoI))
            rw [this]; exact N' _ (.head _)
          · exact N' p (.tail _ hp)
        · exact hI' p hp (List.mem_singleton.mp q)
      cases f with
      | ret v => exact t
      | brk => exact t
      | next => exact fin t
      | cont => exact fin t
  · rintro h' tk' m' nx F' N' - ⟨hJ, hm⟩
    rw [two_names hm] at F'
    exact done m' nx h' tk' hJ F' N'))
end
end Mine
end
section
open PySem PySem.W PyProof.Rows PySem.Calls
namespace Mine
/-! The objects of the world: files, units. -/
/-- the attributes of a file -/
inductive FileD (o : Obj) (nm : Str) (ra : Addr) : Prop where
  | mk (h0 h1 h2 h3 h4 h5 : Int) (t0 t1 t2 t3 t4 t5 t6 t7 t8 t9 : Tok) (na : Addr) (n : Nat) (e : o = dictOf [⟨h0, .str (Str.ofString "name") t0, .str nm t1⟩, ⟨h1, .str (Str.ofString "access") t2, .str (Str.ofString "SEQUENTIAL") t3⟩,
    ⟨h2, .str (Str.ofString "form") t4, .str (Str.ofString "FORMATTED") t5⟩, ⟨h3, .str (Str.ofString "length") t6, .int 0 t7⟩, ⟨h4, .str (Str.ofString "records") t8, .ref ra⟩, ⟨h5, .str (Str.ofString "numbered") t9, .ref na⟩] n) : FileD o nm ra
/-- the attributes of a unit -/
inductive UnitD (o : Obj) (num : Int) (fa : Addr) (pl : Nat) : Prop where
  | mk (h0 h1 h2 h3 : Int) (t0 t1 t2 t3 t4 t5 t6 : Tok) (n : Nat) (e : o = dictOf [⟨h0, .str (Str.ofString "number") t0, .int num t1⟩, ⟨h1, .str (Str.ofString "file") t2, .ref fa⟩,
    ⟨h2, .str (Str.ofString "blank") t3, .str (Str.ofString "NULL") t4⟩, ⟨h3, .str (Str.ofString "place") t5, .int (pl : Int) t6⟩] n) : UnitD o num fa pl
/-- a unit of that name can be read in the ledger -/
inductive URead (news : List (Addr × Obj)) (v : Value) (num : Int) (nm : Str) : Prop where
  | mk (ua uda : Addr) (od : Obj) (fa : Addr) (pl : Nat) (fda : Addr) (fod : Obj) (ra : Addr) (e : v = .ref ua) (h1 : (ua, instObj 147 uda) ∈ news) (h2 : (uda, od) ∈ news) (h3 : UnitD od num fa pl) (h4 : (fa, instObj 105 fda) ∈ news) (h5 : (fda, fod) ∈ news) (h6 : FileD fod nm ra) : URead news v num nm
theorem valueAt_mem {K : Type} [DecidableEq K] {kvs : List (K × Value)} (hn : (kvs.map (·.1)).Nodup) {k : K} {v : Value} (h : (k, v) ∈ kvs) : valueAt kvs k = some v := by
  obtain ⟨i, hi, e⟩ := List.mem_iff_getElem.mp h
  exact valueAt_of_get hn (i := i) (by rw [← e]; exact List.getElem?_eq_getElem hi)
theorem mem_valueAt {K : Type} [DecidableEq K] {kvs : List (K × Value)} {k : K} {v : Value} (h : valueAt kvs k = some v) : (k, v) ∈ kvs := by
  unfold valueAt at h
  cases q : kvs.find? (fun kv => decide (kv.1 = k)) with
  | none => rw [q] at h; cases h
  | some p =>
    rw [q] at h
    have e : p.1 = k := by have := List.find?_some (p := fun kv : K × Value => decide (kv.1 = k)) q; exact of_decide_eq_true this
    have m := List.mem_of_find?_eq_some q
    obtain ⟨a, b⟩ := p
    obtain rfl : b = v := Option.some.inj h
    obtain rfl : a = k := e
    exact m
theorem valueAt_none {K : Type} [DecidableEq K] {kvs : List (K × Value)} {k : K} : valueAt kvs k = none ↔ ∀ v, (k, v) ∉ kvs := by
  constructor
  · intro h v hm
    unfold valueAt at h
    have := Option.map_eq_none_iff.mp h
    have := List.find?_eq_none.mp this _ hm
    simp at this
  · intro h
    cases q : valueAt kvs k with
    | none => rfl
    | some v => exact absurd (mem_valueAt q) (h v)
theorem ints_at {its : Array Value} {ns : List Int} (h : IntsAre its.toList ns) {i : Nat} {v : Value} (e : its[i]? = some v) : ∃ n t, v = .int n t ∧ ns[i]? = some n := by
  have hi : i < ns.length := by
    have := h.length
    rw [Array.length_toList] at this
    obtain ⟨q, _⟩ := Array.getElem?_eq_some_iff.mp e
    omega
  obtain ⟨t, ht⟩ := h.get i ns[i] (List.getElem?_eq_getElem hi)
  rw [Array.getElem?_toList, e] at ht
  exact ⟨ns[i], t, Option.some.inj ht, List.getElem?_eq_getElem hi⟩
theorem off2 {α : Type} {z x y : Str} {a b c : α} (h1 : z ≠ x) (h2 : z ≠ y) : (if z = x then a else if z = y then b else c) = c := by rw [if_neg h1, if_neg h2]
theorem news_tl {h₀ h : Heap} {L : Addr} {p : Addr × Obj} {l : List (Addr × Obj)} (N : News h₀ L h (p :: l)) : News h₀ L h l := fun q hq => N q (.tail _ hq)
theorem news_add {h₀ h : Heap} {L : Addr} {a : Addr × Obj} {l l' : List (Addr × Obj)} (N : News h₀ L h (a :: l)) (M : News h₀ L h l') : News h₀ L h (a :: l') := fun _ hp => (List.mem_cons.mp hp).elim (fun e => N _ (e ▸ .head _)) (M _)
theorem news_left {h₀ h : Heap} {L : Addr} {A B : List (Addr × Obj)} (N : News h₀ L h (A ++ B)) : News h₀ L h A := fun _ hp => N _ (List.mem_append_left _ hp)
theorem news_right {h₀ h : Heap} {L : Addr} {A B : List (Addr × Obj)} (N : News h₀ L h (A ++ B)) : News h₀ L h B := fun _ hp => N _ (List.mem_append_right _ hp)
theorem news_app {h₀ h : Heap} {L : Addr} {A B : List (Addr × Obj)} (N : News h₀ L h A) (M : News h₀ L h B) : News h₀ L h (A ++ B) := fun _ hp => (List.mem_append.mp hp).elim (N _) (M _)
theorem news_nil {h₀ h : Heap} {L : Addr} : News h₀ L h [] := fun _ hp => nomatch hp
theorem news_sub {h₀ h : Heap} {L : Addr} {l l' : List (Addr × Obj)} (N : News h₀ L h l) (hs : ∀ p ∈ l', p ∈ l) : News h₀ L h l' := fun q hq => N q (hs q hq)
theorem allLt_all {d : Addr} : ∀ {l : List (Addr × Obj)}, AllLt d l → ∀ p ∈ l, p.1 < d
  | [], _, _, hp => nomatch hp
  | _ :: _, h, _, .head _ => h.1
  | _ :: _, h, _, .tail _ hp => allLt_all h.2 _ hp
theorem ne_allLt {d : Addr} {l : List (Addr × Obj)} (h : AllLt d l) : ∀ p ∈ l, p.1 ≠ d := fun p hp => Nat.ne_of_lt (allLt_all h p hp)
theorem ne_cons_of {d : Addr} {p : Addr × Obj} {l : List (Addr × Obj)} {b : Prop} (h : @LT.lt Nat _ p.1 d ∧ b) (hb : b → AllLt d l) : ∀ q ∈ p :: l, q.1 ≠ d := ne_allLt ⟨h.1, hb h.2⟩
section
variable {prog : Program} {w : World} {K : Type} [DecidableEq K] {knd : KeyKind prog w K} {A : Around} {E : Value → Shared → Prop} {s : Shared} {h₀ : Heap} {L d : Addr} {m : Str → Option Value} {news : List (Addr × Obj)} {o : Obj} {kvs : List (K × Value)} {k : K} {key v : Value}
theorem dict_getItem {Q : Value → Shared → Prop} (N : News h₀ L s.heap news) (hp : (d, o) ∈ news) (hd : o.IsDictOf knd kvs) (hkey : knd.is k key = true) (hl : valueAt kvs k = some v) (h : Q v { s with toks := s.toks + 1 }) :
    wpAny (model prog w) A (getItem (.ref d) key) Q E s := wpAny_getItem_of hkey (kda_dict N hp hd).mapOf hl h
end
theorem line64 {n : Nat} (h : n < 64) : n ≤ sizeLine := by rw [sizeLine_eq]; omega
theorem thrown_of {KF : Frag} {h₀ : Heap} {L e t C : Addr} {od : Option Addr} {m : Str → Option Value} {news : List (Addr × Obj)} {E : Value → Shared → Prop} {s : Shared} (F : Fr h₀ L s.heap m) (X₀ : KF.In h₀) (N : News h₀ L s.heap ((e, excObj C t od) :: news)) (hE : E (.ref e) s) : Thrown KF C E (.ref e) s :=
  ⟨e, od, _, t, rfl, X₀.keeps F.keep, (N _ (.head _)).1, hE⟩
theorem valueAt_stored {K : Type} [DecidableEq K] (kvs : List (K × Value)) (k : K) (v : Value) : valueAt (stored kvs k v) k = some v := by
  unfold stored
  by_cases h : kvs.any (fun kv => kv.1 = k) = true
  · rw [if_pos h]
    unfold valueAt
    induction kvs with
    | nil => cases h
    | cons p r ih =>
      by_cases hp : p.1 = k
      · simp [hp]
      · simp only [List.any_cons, hp, decide_false, Bool.false_or] at h
        simp only [List.map_cons, if_neg hp]
        rw [List.find?_cons_of_neg (by simp [hp])]
        exact ih h
  · rw [if_neg h]
    have hn : valueAt kvs k = none := valueAt_none.mpr fun x hx => h (List.any_eq_true.mpr ⟨_, hx, by simp⟩)
    unfold valueAt at hn ⊢
    rw [List.find?_append, Option.map_eq_none_iff.mp hn]
    simp
theorem raise_at {prog : Program} {w : World} {KF : Frag} {C : Addr} {g : Heap} {A : Around} {E : Value → Shared → Prop} {s : Shared} {env : Env} {ex : Expr} {pos : Pos} {Q : Flow → Shared → Prop} (_X : KF.In g) (hh : A.handled = none) (q : ktsIn KF C "BaseException" = true)
    (h : wpAny (model prog w) A (eval ex env) (fun v s₁ => Thrown KF C E v s₁) E s) : wpAny (model prog w) A (exec (.Raise (some ex) none pos) env) Q E s := raise_own hh q h
theorem close_new {h₀ h : Heap} {L fd x dx l : Addr} {fo od oi ol : Obj} {R : List (Addr × Obj)} (N : News h₀ L h ((x, oi) :: (dx, od) :: (l, ol) :: (fd, fo) :: R)) : News h₀ L h ((fd, fo) :: ([(x, oi), (dx, od), (l, ol)] ++ R)) := by
  have t1 := news_tl N; have t2 := news_tl t1; have t3 := news_tl t2
  exact news_add t3 (news_add N (news_add t1 (news_add t2 (news_tl t3))))
theorem beq_ne {a b : Str} (h : (a == b) = false) : a ≠ b := fun e => by rw [e, beq_self_eq_true] at h; cases h
/-- a goal that waits for a line of its own: no rule of the library looks here -/
def Hold (P : Prop) : Prop := P
theorem hold {P : Prop} (h : Hold P) : P := h
theorem held {P : Prop} (h : P) : Hold P := h
theorem URead.mono {l l' : List (Addr × Obj)} {v : Value} {k : Int} {nm : Str} (h : URead l v k nm) (hs : ∀ p ∈ l, p ∈ l') : URead l' v k nm := by
  obtain ⟨ua, uda, od, fa, pl, fda, fod, ra, e, m1, m2, u, m3, m4, f⟩ := h
  exact ⟨ua, uda, od, fa, pl, fda, fod, ra, e, hs _ m1, hs _ m2, u, hs _ m3, hs _ m4, f⟩
theorem raised_sub {base G : Heap} {l : List Env} {e : Addr} {cls : Value} {news news' : List (Addr × Obj)} {h : Heap} (R : RaisedSN base G l e cls news h) (hs : ∀ p ∈ news', p ∈ news) : RaisedSN base G l e cls news' h := by
  obtain ⟨B, a0, h1, h2, h3, h4⟩ := R
  exact ⟨B, a0, h1, h2, fun q hq => h3 q (hs q hq), h4⟩
theorem news_rot3 {h₀ h : Heap} {L : Addr} {a b c : Addr × Obj} {R : List (Addr × Obj)} (N : News h₀ L h (a :: b :: c :: R)) : News h₀ L h (c :: a :: b :: R) := by
  have t1 := news_tl N; have t2 := news_tl t1
  exact news_add t2 (news_add N (news_add t1 (news_tl t2)))
/-- the ledger behind found_file, laid for the walk: the garbage dropped -/
theorem news_found {h₀ h : Heap} {L : Addr} {a b c : Addr × Obj} {Y R : List (Addr × Obj)} (N : News h₀ L h (c :: (Y ++ (a :: b :: R)))) : News h₀ L h (b :: c :: (Y ++ R)) := by
  have t1 := news_tl N; have r1 := news_right t1; have r2 := news_tl r1
  exact news_add r2 (news_add N (news_app (news_left t1) (news_tl r2)))
theorem str_both {a b : Str} (h : (a == b) = true) (h' : (a != b) = true) : False := by
  rw [bne, h] at h'; cases h'
theorem str_neither {a b : Str} (h : (a == b) = false) (h' : (a != b) = false) : False := by
  rw [bne, h] at h'; cases h'
/-- the name of a unit that is opened without one -/
abbrev fort (num : Int) : Str := Str.ofString "FORT." ++ Str.ofString (toString num)
/-! the same rules with the state in five letters; rules of several steps -/
section
variable {M : Model} {A : Around} {E : Value → Shared → Prop} {s : Shared} {env : Env} {h₀ hh : Heap} {gg : Array GenState} {dr : Drawn} {tt : Nat} {os : OsState} {L a : Addr} {m : Str → Option Value} {news : List (Addr × Obj)} {v : Value}
/-- a frame's map with one name set -/
def stp (m : Str → Option Value) (x : Str) (v : Value) : Str → Option Value := fun y => if y = x then some v else m y
theorem fold_A {α : Type} {t : Sem α} {Q : α → Shared → Prop} (h : let A' := A; wpAny M A' t Q E s) : wpAny M A t Q E s := h
/-- a name is given a value, the rest goes on -/
theorem q_assign {x : Str} {p1 p2 : Pos} {e : PySem.Expr} {rest : List Stmt} {Q : Flow → Shared → Prop} (hs : swapsWith e (some (.Name x p1)) p2.line env = pure false)
    (h : wpAny M A (eval e env) (fun v s₁ => wpAny M A (storeName env x v) (fun _ s₂ => wpAny M A (execs rest env) Q E s₂) E s₁) E s) : wpAny M A (execs (.Assign [.Name x p1] e p2 :: rest) env) Q E s :=
  wpAny_execs_cons (wpAny_Assign_Name h hs)
theorem q_return {e : PySem.Expr} {p : Pos} {rest : List Stmt} {Q : Flow → Shared → Prop} (h : wpAny M A (eval e env) (fun v s₁ => Q (.ret v) s₁) E s) : wpAny M A (execs (.Return (some e) p :: rest) env) Q E s :=
  wpAny_execs_cons (wpAny_Return_some h)
theorem q_if {test : PySem.Expr} {body orelse rest : List Stmt} {p : Pos} {Q : Flow → Shared → Prop}
    (h : wpAny M A (isTrue test env (eval test env)) (fun b s₂ => if b then wpAny M A (execs body env) (fun f s' => match f with | .next => wpAny M A (execs rest env) Q E s' | f => Q f s') E s₂ else wpAny M A (execs orelse env) (fun f s' => match f with | .next => wpAny M A (execs rest env) Q E s' | f => Q f s') E s₂) E s) :
    wpAny M A (execs (.If test body orelse p :: rest) env) Q E s :=
  wpAny_execs_cons (wpAny_If h)
variable {cn : Str} {cs : Scope} {ccd : Value} {x y : Str} {pos p2 : Pos} {c : Addr} {k : Nat}
/-- an argument that is a local name -/
theorem q_arg {rest : List PySem.Expr} {Q : List Value → Shared → Prop} (hk : cs.kind = .function) (hd : (x == ("__debug__" : Str)) = false) (hx : ∀ L a, (envOf cn cs L a ccd).kindOf x = some .local)
    (F : Fr h₀ L s.heap m) (hv : m x = some v) (h : wpAny M A (spliced (backTo p2 (starEach rest (envOf cn cs L a ccd)))) (fun vs s₂ => Q (v :: vs) s₂) E s) :
    wpAny M A (spliced (backTo p2 (starEach (.Name x pos :: rest) (envOf cn cs L a ccd)))) Q E s :=
  args_cons (nameX_L (cl := []) F hv h hk (hx L a) hd) rfl
/-- the last one -/
theorem q_arg1 {Q : List Value → Shared → Prop} (hk : cs.kind = .function) (hd : (x == ("__debug__" : Str)) = false) (hx : ∀ L a, (envOf cn cs L a ccd).kindOf x = some .local)
    (F : Fr h₀ L s.heap m) (hv : m x = some v) (h : Q [v] s) :
    wpAny M A (spliced (backTo p2 (starEach [.Name x pos] (envOf cn cs L a ccd)))) Q E s :=
  q_arg hk hd hx F hv (args_nil h)
theorem q_args {e : PySem.Expr} {z : Str} {rest : List PySem.Expr} {Q : List Value → Shared → Prop} (h : wpAny M A (spliced (backTo p2 (starEach rest env))) (fun vs s₂ => Q (.str z tt :: vs) s₂) E ⟨hh, gg, dr, tt + 1, os⟩) :
    wpAny M A (spliced (backTo p2 (starEach (.Constant (.str z) k pos :: rest) env))) Q E ⟨hh, gg, dr, tt, os⟩ :=
  args_cons (Calls.Constant_str h) rfl
theorem q_str {Q : Value → Shared → Prop} (h : Q (.str x tt) ⟨hh, gg, dr, tt + 1, os⟩) : wpAny M A (eval (.Constant (.str x) k pos) env) Q E ⟨hh, gg, dr, tt, os⟩ := Calls.Constant_str h
theorem q_int {i : Int} {Q : Value → Shared → Prop} (h : Q (.int i tt) ⟨hh, gg, dr, tt + 1, os⟩) : wpAny M A (eval (.Constant (.int i) k pos) env) Q E ⟨hh, gg, dr, tt, os⟩ := wpAny_Constant_int h
theorem q_name {Q : Value → Shared → Prop} (hk : cs.kind = .function) (hd : (x == ("__debug__" : Str)) = false) (hx : ∀ L a, (envOf cn cs L a ccd).kindOf x = some .local)
    (F : Fr h₀ L s.heap m) (hv : m x = some v) (h : Q v s) : wpAny M A (eval (.Name x pos) (envOf cn cs L a ccd)) Q E s :=
  nameX_L (cl := []) F hv h hk (hx L a) hd
theorem q_store {Q : Unit → Shared → Prop} (hk : cs.kind = .function) (hx : ∀ L a, (envOf cn cs L a ccd).kindOf x = some .local) (F : Fr h₀ L hh m) (N : News h₀ L hh news)
    (h : ∀ h', let m' := stp m x v; Fr h₀ L h' m' → News h₀ L h' news → Q () ⟨h', gg, dr, tt + 1, os⟩) : wpAny M A (storeName (envOf cn cs L a ccd) x v) Q E ⟨hh, gg, dr, tt, os⟩ :=
  storeX_L (cl := []) F N h hk (hx L a)
end
section
variable {prog : Program} {w : World} {K : Type} [DecidableEq K] {knd : KeyKind prog w K} {A : Around} {E : Value → Shared → Prop} {h₀ hh : Heap} {gg : Array GenState} {dr : Drawn} {tt : Nat} {os : OsState} {L d : Addr} {m : Str → Option Value} {news : List (Addr × Obj)} {o : Obj} {kvs : List (K × Value)} {k : K} {key v dflt : Value} {Q : Value → Shared → Prop}
theorem q_item {value slice : PySem.Expr} (N : News h₀ L hh news) (hp : (d, o) ∈ news) (hd : o.IsDictOf knd kvs) (hkey : knd.is k key = true) (hl : valueAt kvs k = some v) (h : Q v ⟨hh, gg, dr, tt + 1, os⟩)
    (hs : subscripted slice false (.ref d) key = operate [.ref d, key] (getItem (.ref d) key)) (hg : ∀ r, letTemporaryGo value (.ref d) r = pure ()) :
    wpAny (model prog w) A (subscriptTail value slice (.ref d) key) Q E ⟨hh, gg, dr, tt, os⟩ := kda_item (s := ⟨hh, gg, dr, tt, os⟩) N hp hd hkey hl h hs hg
theorem q_in (N : News h₀ L hh news) (hp : (d, o) ∈ news) (hd : o.IsDictOf knd kvs) (lo : (d == sysModules) = false) (hkey : knd.is k key = true) (b : Bool) (hb : (valueAt kvs k).isSome = b) (h : Q (.bool b) ⟨hh, gg, dr, tt + 1, os⟩) :
    wpAny (model prog w) A (compareOp .In key (.ref d)) Q E ⟨hh, gg, dr, tt, os⟩ := kda_in (s := ⟨hh, gg, dr, tt, os⟩) N hp hd lo hkey b hb h
theorem q_notin (N : News h₀ L hh news) (hp : (d, o) ∈ news) (hd : o.IsDictOf knd kvs) (lo : (d == sysModules) = false) (hkey : knd.is k key = true) (b : Bool) (hb : (valueAt kvs k).isSome = b) (h : Q (.bool (!b)) ⟨hh, gg, dr, tt + 1, os⟩) :
    wpAny (model prog w) A (compareOp .NotIn key (.ref d)) Q E ⟨hh, gg, dr, tt, os⟩ := kdg_notin (s := ⟨hh, gg, dr, tt, os⟩) N hp hd lo hkey b hb h
theorem q_get2 (N : News h₀ L hh news) (hp : (d, o) ∈ news) (hd : o.IsDictOf knd kvs) (lo : (d == sysModules) = false) (hkey : knd.is k key = true) (x : Option Value) (hl : valueAt kvs k = x) (h : Q (x.getD dflt) ⟨hh, gg, dr, tt + 1, os⟩) :
    wpAny (model prog w) A (call (.builtin "dict.get") [.ref d, key, dflt]) Q E ⟨hh, gg, dr, tt, os⟩ := kdg_get2 (s := ⟨hh, gg, dr, tt, os⟩) N hp hd lo hkey x hl h
theorem q_get1 (N : News h₀ L hh news) (hp : (d, o) ∈ news) (hd : o.IsDictOf knd kvs) (lo : (d == sysModules) = false) (hkey : knd.is k key = true) (x : Option Value) (hl : valueAt kvs k = x) (h : Q (x.getD .none) ⟨hh, gg, dr, tt + 1, os⟩) :
    wpAny (model prog w) A (call (.builtin "dict.get") [.ref d, key]) Q E ⟨hh, gg, dr, tt, os⟩ := kdg_get1 (s := ⟨hh, gg, dr, tt, os⟩) N hp hd lo hkey x hl h
theorem q_gitem (N : News h₀ L hh news) (hp : (d, o) ∈ news) (hd : o.IsDictOf knd kvs) (hkey : knd.is k key = true) (hl : valueAt kvs k = some v) (h : Q v ⟨hh, gg, dr, tt + 1, os⟩) :
    wpAny (model prog w) A (getItem (.ref d) key) Q E ⟨hh, gg, dr, tt, os⟩ := dict_getItem (s := ⟨hh, gg, dr, tt, os⟩) N hp hd hkey hl h
theorem q_own {KF : Frag} {x C : Addr} {ox : Obj} {es : List DictEntry} {n : Nat} {name : Str} {expr : Bool} {attr : Option Value} (F : Fr h₀ L hh m) (X₀ : KF.In h₀) (I : InstAt hh x ox C (some (dictOf es n))) (hg : plainGet KF C name = true) (hh' : hasDictIn KF C = true)
    (ha : findIn KF (.ref C) name = some attr) (hn : noGet KF attr = true) (hl : getL name es = some (some v)) (hv : handedIn v = true) (h : Q v ⟨hh, gg, dr, tt + 1, os⟩) :
    wpAny (model prog w) A (getAttr (.ref x) name expr) Q E ⟨hh, gg, dr, tt, os⟩ := get_own (s := ⟨hh, gg, dr, tt, os⟩) F X₀ I hg hh' ha hn hl hv h
end
/-! what a def binds, written out -/
section
variable {s : Shared} {fd : FuncData} {args : Args} {n1 n2 n3 n4 n5 n6 : Str} {v1 v2 v3 v4 v5 v6 : Value}
theorem bt0 (h : bindArgs fd args = pure []) : BindsTo s fd args [] := BindsTo.of_eq h
theorem bt1 (h : bindArgs fd args = pure [(n1, v1)]) : BindsTo s fd args [(n1, v1)] := BindsTo.of_eq h
theorem bt2 (h : bindArgs fd args = pure [(n1, v1), (n2, v2)]) : BindsTo s fd args [(n1, v1), (n2, v2)] := BindsTo.of_eq h
theorem bt3 (h : bindArgs fd args = pure [(n1, v1), (n2, v2), (n3, v3)]) : BindsTo s fd args [(n1, v1), (n2, v2), (n3, v3)] := BindsTo.of_eq h
theorem bt4 (h : bindArgs fd args = pure [(n1, v1), (n2, v2), (n3, v3), (n4, v4)]) : BindsTo s fd args [(n1, v1), (n2, v2), (n3, v3), (n4, v4)] := BindsTo.of_eq h
theorem bt5 (h : bindArgs fd args = pure [(n1, v1), (n2, v2), (n3, v3), (n4, v4), (n5, v5)]) : BindsTo s fd args [(n1, v1), (n2, v2), (n3, v3), (n4, v4), (n5, v5)] := BindsTo.of_eq h
theorem bt6 (h : bindArgs fd args = pure [(n1, v1), (n2, v2), (n3, v3), (n4, v4), (n5, v5), (n6, v6)]) : BindsTo s fd args [(n1, v1), (n2, v2), (n3, v3), (n4, v4), (n5, v5), (n6, v6)] := BindsTo.of_eq h
end
/-- the walk into a def: what does not change stands as a let -/
theorem q_def {prog : Program} {w : World} {A₀ A : Around} {s : Shared} {base h₀ : Heap} {L : Addr} {m mg mb : Str → Option Value} {news : List (Addr × Obj)} {K : Frag} {p : Program} {loose : List Str} {mean : ExcName → Option Value}
    {env : Env} {outer : List Env} {R : Result → Shared → Prop} {name qual : Str} {params : Arguments} {body : List Stmt} {scope : Scope} {dV kV doc pm cdv ct oc : Value} {an od : Option Addr} {osl : Array (Option Value)} {f : Addr} {args : Args} {binds : List (Str × Value)}
    (B : Below A₀ base outer h₀) (F : Fr h₀ L s.heap m) (X₀ : K.In h₀) (N : News h₀ L s.heap news) (T : Top p loose mean mg mb h₀) (hA : A.frames = some (env :: outer)) (hf : env.frame = some L) (hke : env.scope.kind = .function)
    (ho : K.lookup f = some ⟨oc, od, .func (fnOf name qual params body scope dV kV doc pm an cdv ct), osl⟩) (hcd : codeIn K cdv qual = true) (hroom : A.depth < recursionLimit)
    (hbind : BindsTo s (fnOf name qual params body scope dV kV doc pm an cdv ct) args binds) (hloc : ∀ y ∈ binds, scope.names.lookup y.1 = some .local)
    (h : ∀ g L' h₁, Fr h₀ L g m → let m' : Str → Option Value := fun y => binds.reverse.lookup y; let e' := envOf qual scope L' f cdv; let A' := A.deeper e'; let gg := s.gens; let dr := s.drawn; let os := s.os
      Fr g L' h₁ m' → News g L' h₁ news → Below A base (env :: outer) g → K.In g → Top p loose mean mg mb g →
      wpAny (model prog w) A' (execs body e')
        (fun fl s' => LeaveK h₀ L m g R (match fl with | .ret v => v | _ => .none) s')
        (fun e s' => wpAny (model prog w) A' (leaving e' e) (fun _ s'' => R (.error e) s'') (fun e' s'' => R (.error e') s'') s')
        ⟨h₁, gg, dr, s.toks + binds.length, os⟩)
    (hco : scope.isCoroutine = false) (hgen : scope.isGenerator = false) (hk : scope.kind = .function)
    (hcell : ∀ x ∈ scope.names, x.2 ≠ .cell) : codeAny (model prog w) A (.call (.ref f) args) R s :=
  code_def B F X₀ N T hA hf hke ho hcd hroom hbind hloc h hco hgen hk hcell
/-! simple expressions: names and constants, several in one step -/
section
open PySem.W
variable {M : Model} {A : Around} {E : Value → Shared → Prop} {h₀ hh : Heap} {gg : Array GenState} {dr : Drawn} {tt t' : Nat} {os : OsState} {L a : Addr} {m mg mb : Str → Option Value} {p : Program} {loose : List Str} {mean : ExcName → Option Value} {K : Frag}
variable {cn : Str} {cs : Scope} {ccd : Value} {pos : Pos} {e : PySem.Expr} {v : Value} {args : List PySem.Expr} {vs : List Value}
/-- a name or a constant -/
def seen1 (e : PySem.Expr) : Option (Str ⊕ Const) := match e with | .Name x _ => some (.inl x) | .Constant c _ _ => some (.inr c) | _ => none
inductive Viewed (e : PySem.Expr) : Str ⊕ Const → Prop where
  | name (x : Str) (p : Pos) (h : e = .Name x p) : Viewed e (.inl x)
  | const (c : Const) (k : Nat) (p : Pos) (h : e = .Constant c k p) : Viewed e (.inr c)
theorem viewed {e : PySem.Expr} {y : Str ⊕ Const} (h : seen1 e = some y) : Viewed e y := by
  cases e <;> cases h
  · exact .const _ _ _ rfl
  · exact .name _ _ rfl
def cval (tt : Nat) (c : Const) : Option (Value × Nat) := match c with | .str z => some (.str z tt, tt + 1) | .int z => some (.int z tt, tt + 1) | .none => some (.none, tt) | _ => none
/-- the values of simple expressions: local names and constants -/
def s1 (m : Str → Option Value) (tt : Nat) (e : PySem.Expr) : Option (Value × Nat) := match seen1 e with
  | some (.inl x) => (m x).map fun v => (v, tt)
  | some (.inr c) => cval tt c
  | none => none
def sargs (m : Str → Option Value) (α : Type) : Nat → List PySem.Expr → (List Value → Nat → Option α) → Option α
  | tt, [], k => k [] tt
  | tt, e :: r, k => match s1 m tt e with
    | some (v, t1) => sargs m α t1 r fun vs t => k (v :: vs) t
    | none => none
abbrev sv (m : Str → Option Value) (tt : Nat) (args : List PySem.Expr) : Option (List Value × Nat) := sargs m (List Value × Nat) tt args fun vs t => some (vs, t)
def simple1 (env : Env) (e : PySem.Expr) : Bool := match seen1 e with
  | some (.inl x) => (match env.kindOf x with | some .local => !(x == ("__debug__" : Str)) | _ => false)
  | some (.inr _) => true
  | none => false
def Simple (cn : Str) (cs : Scope) (ccd : Value) (args : List PySem.Expr) : Prop := ∀ L a, args.all (simple1 (envOf cn cs L a ccd)) = true
theorem local_of {env : Env} {x : Str} (z : (match env.kindOf x with | some .local => !(x == ("__debug__" : Str)) | _ => false) = true) : env.kindOf x = some .local ∧ (x == ("__debug__" : Str)) = false := by
  split at z
  · rename_i q
    exact ⟨q, by rw [Bool.not_eq_true'] at z; exact z⟩
  · cases z
theorem s1_run {Q : Value → Shared → Prop} (hk : cs.kind = .function) (F : Fr h₀ L hh m) (z : simple1 (envOf cn cs L a ccd) e = true) (S : s1 m tt e = some (v, t')) (h : Q v ⟨hh, gg, dr, t', os⟩) :
    wpAny M A (eval e (envOf cn cs L a ccd)) Q E ⟨hh, gg, dr, tt, os⟩ := (by exact kept : Kept _ (by
  unfold s1 at S
  unfold simple1 at z
  cases hv : seen1 e with
  | none => rw [hv] at S; cases S
  | some y =>
    rw [hv] at S z
    cases viewed hv with
    | name x p he =>
      subst he
      obtain ⟨q1, q2⟩ := local_of z
      have S' : (m x).map (fun v => (v, tt)) = some (v, t') := S
      obtain ⟨u, hu, eu⟩ := Option.map_eq_some_iff.mp S'
      cases eu
      exact nameX_L (cl := []) F hu h hk q1 q2
    | const c k p he =>
      subst he
      have S' : cval tt c = some (v, t') := S
      unfold cval at S'
      split at S' <;> cases S'
      · exact Calls.Constant_str h
      · exact wpAny_Constant_int h
      · exact wpAny_Constant_none h))
theorem simple_star {env : Env} (h : simple1 env e = true) (r : List PySem.Expr) : starEach (e :: r) env = (false, PySem.eval e env) :: starEach r env := by
  unfold simple1 at h
  cases hv : seen1 e with
  | none => rw [hv] at h; cases h
  | some y => cases viewed hv with
    | name x p he => subst he; rfl
    | const c k p he => subst he; rfl
theorem simple_plain {env : Env} : ∀ {args : List PySem.Expr}, args.all (simple1 env) = true → (starEach args env).any (·.1) = false
  | [], _ => rfl
  | e :: r, h => by
    rw [List.all_cons, Bool.and_eq_true] at h
    rw [simple_star h.1, List.any_cons, simple_plain h.2]; rfl
theorem backTo_any (pos : Pos) (l : List (Bool × Sem Value)) : (backTo pos l).any (·.1) = l.any (·.1) := by
  unfold backTo
  rw [List.any_map]
  rfl
theorem sargs_run {α : Type} {r : α} (hk : cs.kind = .function) (F : Fr h₀ L hh m) : ∀ {args : List PySem.Expr} {tt : Nat} {k : List Value → Nat → Option α} {Q : List Value → Shared → Prop}, args.all (simple1 (envOf cn cs L a ccd)) = true → sargs m α tt args k = some r →
    (∀ vs t', k vs t' = some r → Q vs ⟨hh, gg, dr, t', os⟩) → wpAny M A (spliced (backTo pos (starEach args (envOf cn cs L a ccd)))) Q E ⟨hh, gg, dr, tt, os⟩
  | [], tt, k, Q, _, S, h => args_nil (h _ _ S)
  | e :: l, tt, k, Q, z, S, h => by
    rw [List.all_cons, Bool.and_eq_true] at z
    unfold sargs at S
    split at S
    · rename_i v t1 hv
      exact args_cons (s1_run hk F z.1 hv (sargs_run hk F z.2 S fun vs t' e => h _ _ e)) (simple_star z.1 _)
    · cases S
theorem q_sargs {Q : List Value → Shared → Prop} (hk : cs.kind = .function) (F : Fr h₀ L hh m) (z : Simple cn cs ccd args) (S : sv m tt args = some (vs, t')) (h : Q vs ⟨hh, gg, dr, t', os⟩) :
    wpAny M A (spliced (backTo pos (starEach args (envOf cn cs L a ccd)))) Q E ⟨hh, gg, dr, tt, os⟩ := sargs_run hk F (z L a) S fun vs' t'' e => by cases e; exact h
/-- a call of a def of the text, its arguments simple -/
theorem q_gcall {x : Str} {xp : Pos} {f : Value} {Q : Value → Shared → Prop} (hk : cs.kind = .function) (F : Fr h₀ L hh m) (X : K.In h₀) (T : Top p loose mean mg mb h₀)
    (hx : ∀ L a, (envOf cn cs L a ccd).kindOf x = some .globalImplicit) (hd : (x == ("__debug__" : Str)) = false) (hv : nsIn K mainGlobals x = some (some f)) (hf : keepIn K f = true) (z : Simple cn cs ccd args) (S : sv m tt args = some (vs, t'))
    (h : wpAny M A (call f vs) Q E ⟨hh, gg, dr, t', os⟩) : wpAny M A (eval (.Call (.Name x xp) args [] pos) (envOf cn cs L a ccd)) Q E ⟨hh, gg, dr, tt, os⟩ := by
  refine Call_ (nameX_K (cl := []) F X (topRead_of T) hv ?_ hk (hx L a) hd)
  cases args with
  | nil => cases S; exact callWith_K0 (X.keeps F.keep) hf h
  | cons e r =>
    have zz := z L a
    rw [List.all_cons, Bool.and_eq_true] at zz
    exact callWith_K X hf (q_sargs hk F z S ⟨X.keeps F.keep, h⟩) (simple_star zz.1 _) (by rw [backTo_any]; exact simple_plain zz.2)
theorem sv2 {l r : PySem.Expr} {x y : Value} {Q : Value → Value → Shared → Prop} (hk : cs.kind = .function) (F : Fr h₀ L hh m) (z : Simple cn cs ccd [l, r]) (S : sv m tt [l, r] = some ([x, y], t')) (h : Q x y ⟨hh, gg, dr, t', os⟩) :
    wpAny M A (eval l (envOf cn cs L a ccd)) (fun u s => wpAny M A (eval r (envOf cn cs L a ccd)) (fun w s => Q u w s) E s) E ⟨hh, gg, dr, tt, os⟩ := by
  have zz := z L a
  simp only [List.all_cons, List.all_nil, Bool.and_true, Bool.and_eq_true] at zz
  unfold sv sargs at S
  split at S
  · rename_i v t1 hv
    unfold sargs at S
    split at S
    · rename_i v2 t2 hv2
      cases S
      exact s1_run hk F zz.1 hv (s1_run hk F zz.2 hv2 h)
    · cases S
  · cases S
theorem q_cmps {l r : PySem.Expr} {x y : Value} {op : CmpOp} {whole : Sem Value} {Q : Bool → Shared → Prop} (hm : behindInMarks op r = false) (hk : cs.kind = .function) (F : Fr h₀ L hh m) (z : Simple cn cs ccd [l, r]) (S : sv m tt [l, r] = some ([x, y], t'))
    (h : wpAny M A (compareOp op x y) (fun c s => wpAny M A (truthy c) Q E s) E ⟨hh, gg, dr, t', os⟩) : wpAny M A (isTrue (.Compare l [op] [r] pos) (envOf cn cs L a ccd) whole) Q E ⟨hh, gg, dr, tt, os⟩ :=
  wpAny_isTrue_Compare1 (sv2 (Q := fun u w s => wpAny M A (compareOp op u w) (fun c s => wpAny M A (truthy c) Q E s) E s) hk F z S h) hm
theorem q_sub {l r : PySem.Expr} {x y : Value} {Q : Value → Shared → Prop} (hk : cs.kind = .function) (F : Fr h₀ L hh m) (z : Simple cn cs ccd [l, r]) (S : sv m tt [l, r] = some ([x, y], t'))
    (h : wpAny M A (subscriptTail l r x y) Q E ⟨hh, gg, dr, t', os⟩) : wpAny M A (eval (.Subscript l r pos) (envOf cn cs L a ccd)) Q E ⟨hh, gg, dr, tt, os⟩ :=
  Subscript_ (sv2 (Q := fun u w s => wpAny M A (subscriptTail l r u w) Q E s) hk F z S h)
theorem sv1 {Q : Value → Shared → Prop} (hk : cs.kind = .function) (F : Fr h₀ L hh m) (z : Simple cn cs ccd [e]) (S : sv m tt [e] = some ([v], t')) (h : Q v ⟨hh, gg, dr, t', os⟩) :
    wpAny M A (eval e (envOf cn cs L a ccd)) Q E ⟨hh, gg, dr, tt, os⟩ := by
  have zz := z L a
  simp only [List.all_cons, List.all_nil, Bool.and_true] at zz
  unfold sv sargs at S
  split at S
  · rename_i v t1 hv
    cases S
    exact s1_run hk F zz hv h
  · cases S
theorem q_rets {rest : List Stmt} {Q : Flow → Shared → Prop} (hk : cs.kind = .function) (F : Fr h₀ L hh m) (z : Simple cn cs ccd [e]) (S : sv m tt [e] = some ([v], t')) (h : Q (.ret v) ⟨hh, gg, dr, t', os⟩) :
    wpAny M A (execs (.Return (some e) pos :: rest) (envOf cn cs L a ccd)) Q E ⟨hh, gg, dr, tt, os⟩ := q_return (sv1 hk F z S h)
theorem q_attr {x attr : Str} {xp : Pos} {Q : Value → Shared → Prop} (hk : cs.kind = .function) (F : Fr h₀ L hh m) (z : Simple cn cs ccd [.Name x xp]) (S : sv m tt [.Name x xp] = some ([v], t'))
    (h : wpAny M A (getAttr v attr true) Q E ⟨hh, gg, dr, t', os⟩) : wpAny M A (eval (.Attribute (.Name x xp) attr pos) (envOf cn cs L a ccd)) Q E ⟨hh, gg, dr, tt, os⟩ := Attribute_Name_ (sv1 hk F z S h)
end
end Mine
end
section
open PySem PySem.W PyProof.Rows PySem.Calls
namespace Mine
theorem fill_all : hd.heap_1 = hd.heap_1 ∧ PySem.Challenge.rw_pf0122_01 = PySem.Challenge.rw_pf0122_01 := by
  w_top off
  k_fill
  exact ⟨rfl, rfl⟩
local macro_rules | `(tactic| walk_at $s:str) => `(tactic| k_extra $s)
local macro_rules | `(tactic| k_enter) => `(tactic| k_extra "k_enter")
local macro_rules | `(tactic| k_all) => `(tactic| k_extra "k_all")
local macro_rules | `(tactic| k_mem) => `(tactic| k_extra "k_mem")
local macro_rules | `(tactic| k_ne) => `(tactic| k_extra "k_ne")
/-- the walk into a def, from any frame -/
-- dicts of the ledger, known by what they hold
theorem words_pre : True := by
  k_with "spliced" => (first | (k_here; k_dflt (first | refine args_cons ?_ | refine args_nil ⟨Fr.keep (by assumption) _ _ (by assumption), ?_⟩ | (refine args_nil ?_; try simp only [List.cons_append, List.nil_append]))) | fail)
  k_with "setItem ref int" => (first | (k_extra "setItem ref") | fail)
  k_with "subscriptTail Name" => (first | (k_extra "subscriptTail") | fail)
  k_with "subscriptTail Subscript" => (first | (first | k_extra "subscriptTail" | (k_here; kda_here; first | ((with_reducible show wpAny _ _ (subscriptTail _ _ (Value.ref _) (Value.str _ _)) _ _ _); k_dflt (refine kdt_tail (knd := PySem.strKind _ _) (by k_asm) (by k_mem) (by k_asm) ?_)) | ((with_reducible show wpAny _ _ (subscriptTail _ _ (Value.ref _) (Value.int _ _)) _ _ _); k_dflt (refine kdt_tail (knd := PySem.intKind _ _) (by k_asm) (by k_mem) (by k_asm) ?_)))) | fail)
  k_with "cj" => (first | (first | assumption | exact And.left (by assumption) | exact And.right (by assumption) | exact And.left (And.right (by assumption)) | exact And.right (And.right (by assumption)) | exact And.left (And.right (And.right (by assumption))) | exact And.right (And.right (And.right (by assumption))) | exact And.left (And.right (And.right (And.right (by assumption)))) | exact And.right (And.right (And.right (And.right (by assumption)))) | exact And.left (And.right (And.right (And.right (And.right (by assumption))))) | exact And.right (And.right (And.right (And.right (And.right (by assumption))))) | exact And.left (And.right (And.right (And.right (And.right (And.right (by assumption)))))) | exact And.right (And.right (And.right (And.right (And.right (And.right (by assumption)))))) | exact And.left (And.right (And.right (And.right (And.right (And.right (And.right (by assumption))))))) | exact And.right (And.right (And.right (And.right (And.right (And.right (And.right (by assumption))))))) | exact And.left (And.right (And.right (And.right (And.right (And.right (And.right (And.right (by assumption)))))))) | exact And.right (And.right (And.right (And.right (And.right (And.right (And.right (And.right (by assumption)))))))) | exact And.left (And.right (And.right (And.right (And.right (And.right (And.right (And.right (And.right (by assumption))))))))) | exact And.right (And.right (And.right (And.right (And.right (And.right (And.right (And.right (And.right (by assumption))))))))) | exact And.left (And.right (And.right (And.right (And.right (And.right (And.right (And.right (And.right (And.right (by assumption)))))))))) | exact And.right (And.right (And.right (And.right (And.right (And.right (And.right (And.right (And.right (And.right (by assumption)))))))))) | exact And.left (And.right (And.right (And.right (And.right (And.right (And.right (And.right (And.right (And.right (And.right (by assumption))))))))))) | exact And.right (And.right (And.right (And.right (And.right (And.right (And.right (And.right (And.right (And.right (And.right (by assumption))))))))))) | exact And.left (And.right (And.right (And.right (And.right (And.right (And.right (And.right (And.right (And.right (And.right (And.right (by assumption)))))))))))) | exact And.right (And.right (And.right (And.right (And.right (And.right (And.right (And.right (And.right (And.right (And.right (And.right (by assumption)))))))))))) | exact And.left (And.right (And.right (And.right (And.right (And.right (And.right (And.right (And.right (And.right (And.right (And.right (And.right (by assumption))))))))))))) | exact And.right (And.right (And.right (And.right (And.right (And.right (And.right (And.right (And.right (And.right (And.right (And.right (And.right (by assumption))))))))))))) | exact And.left (And.right (And.right (And.right (And.right (And.right (And.right (And.right (And.right (And.right (And.right (And.right (And.right (And.right (by assumption)))))))))))))) | exact And.right (And.right (And.right (And.right (And.right (And.right (And.right (And.right (And.right (And.right (And.right (And.right (And.right (And.right (by assumption)))))))))))))) | exact And.left (And.right (And.right (And.right (And.right (And.right (And.right (And.right (And.right (And.right (And.right (And.right (And.right (And.right (And.right (by assumption))))))))))))))) | exact And.right (And.right (And.right (And.right (And.right (And.right (And.right (And.right (And.right (And.right (And.right (And.right (And.right (And.right (And.right (by assumption)))))))))))))))) | fail)
  k_with "om" => (first | (first | ((repeat ((with_reducible rename _ ∧ _ => hz9); clear hz9)); (repeat ((with_reducible rename @Ne _ _ _ => hz9); clear hz9)); omega) | ((repeat ((with_reducible rename @Ne _ _ _ ∧ _ => hz9); clear hz9)); (repeat ((with_reducible rename (_ ∧ _) ∧ _ => hz9); clear hz9)); (repeat ((with_reducible rename @Ne _ _ _ => hz9); clear hz9)); omega) | omega) | fail)
  k_with "k_ne" => (first | (refine neN ?_; (try dsimp only); (first | with_reducible assumption | ((repeat ((with_reducible rename @Ne _ _ _ ∧ _ => hz9); clear hz9)); (repeat ((with_reducible rename (_ ∧ _) ∧ _ => hz9); clear hz9)); (repeat ((with_reducible rename @Ne _ _ _ => hz9); clear hz9)); omega) | with_reducible (first | exact Ne.symm (by assumption) | exact Nat.ne_of_lt (by k_extra "cj") | exact Nat.ne_of_gt (by k_extra "cj") | (k_extra "cj") | exact Ne.symm (by k_extra "cj")) | omega)) | fail)
  k_with "k_enter" => (first | (refine' q_def ?qzk1 ?qzk2 ?qzk3 ?qzk4 ?qzk5 ?qzkA ?qzkF ?qzkK ?qzk6 ?qzk7 ?qzk8 ?qzk9 ?qzkB ?_ ?qzc2 ?qzc3 ?qzc4 ?qzc5; (case qzkA => exact rfl); (case qzkF => first | assumption | exact rfl); (case qzkK => first | assumption | exact rfl); (case qzk1 => k_asm); (case qzk2 => k_asm); (case qzk3 => k_asm); (case qzk4 => k_asm); (case qzk5 => k_asm); (case qzk6 => k_is); (case qzk7 => k_is); (case qzk8 => exact Nat.le_of_ble_eq_true rfl); (case qzk9 => first | ((with_reducible show BindsTo _ _ (Args.mk [_, _] []) _); exact bt2 rfl) | ((with_reducible show BindsTo _ _ (Args.mk [_] []) _); exact bt1 rfl) | ((with_reducible show BindsTo _ _ (Args.mk [_, _, _] []) _); exact bt3 rfl) | ((with_reducible show BindsTo _ _ (Args.mk [_, _, _, _] []) _); exact bt4 rfl) | ((with_reducible show BindsTo _ _ (Args.mk [_, _, _, _, _] []) _); exact bt5 rfl) | ((with_reducible show BindsTo _ _ (Args.mk [_, _, _, _, _, _] []) _); exact bt6 rfl) | ((with_reducible show BindsTo _ _ (Args.mk [] []) _); exact bt0 rfl) | exact BindsTo.of_eq rfl); (case qzc5 => decide); (case qzkB => exact locs rfl); (case qzc2 => exact rfl); (case qzc3 => exact rfl); (case qzc4 => exact rfl); k_whole; intro _ _ _ _ _ _ _ _ _ _ _ _ _ _ _; (try dsimp only); (try k_fold)) | fail)
  k_with "k_all" => (first | ((fail_if_success (with_reducible refine List.forall_mem_cons.mpr ?_)); (first | with_reducible (first | exact ne_allLt (by assumption) | exact ne_allLt (And.right (by assumption)) | exact ne_allLt (And.right (And.right (by assumption))) | exact ne_allLt (And.right (And.right (And.right (by assumption)))) | exact ne_allLt (And.right (And.right (And.right (And.right (by assumption))))) | exact ne_allLt (And.right (And.right (And.right (And.right (And.right (by assumption)))))) | exact ne_allLt (And.right (And.right (And.right (And.right (And.right (And.right (by assumption))))))) | exact ne_allLt (And.right (And.right (And.right (And.right (And.right (And.right (And.right (by assumption)))))))) | exact ne_allLt (And.right (And.right (And.right (And.right (And.right (And.right (And.right (And.right (by assumption))))))))) | exact ne_allLt (And.right (And.right (And.right (And.right (And.right (And.right (And.right (And.right (And.right (by assumption)))))))))) | exact ne_allLt (And.right (And.right (And.right (And.right (And.right (And.right (And.right (And.right (And.right (And.right (by assumption))))))))))) | exact ne_allLt (And.right (And.right (And.right (And.right (And.right (And.right (And.right (And.right (And.right (And.right (And.right (by assumption)))))))))))) | exact ne_allLt (And.right (And.right (And.right (And.right (And.right (And.right (And.right (And.right (And.right (And.right (And.right (And.right (by assumption))))))))))))) | exact ne_allLt (And.right (And.right (And.right (And.right (And.right (And.right (And.right (And.right (And.right (And.right (And.right (And.right (And.right (by assumption)))))))))))))) | exact ne_allLt (And.right (And.right (And.right (And.right (And.right (And.right (And.right (And.right (And.right (And.right (And.right (And.right (And.right (And.right (by assumption)))))))))))))))) | (first | exact ne_allLt (by assumption) | exact ne_allLt (And.right (by assumption)) | exact ne_allLt (And.right (And.right (by assumption))) | exact ne_allLt (And.right (And.right (And.right (by assumption)))) | exact ne_allLt (And.right (And.right (And.right (And.right (by assumption))))) | exact ne_allLt (And.right (And.right (And.right (And.right (And.right (by assumption)))))) | exact ne_allLt (And.right (And.right (And.right (And.right (And.right (And.right (by assumption))))))) | exact ne_allLt (And.right (And.right (And.right (And.right (And.right (And.right (And.right (by assumption)))))))) | exact ne_allLt (And.right (And.right (And.right (And.right (And.right (And.right (And.right (And.right (by assumption))))))))) | exact ne_allLt (And.right (And.right (And.right (And.right (And.right (And.right (And.right (And.right (And.right (by assumption)))))))))) | exact ne_allLt (And.right (And.right (And.right (And.right (And.right (And.right (And.right (And.right (And.right (And.right (by assumption))))))))))) | exact ne_allLt (And.right (And.right (And.right (And.right (And.right (And.right (And.right (And.right (And.right (And.right (And.right (by assumption)))))))))))) | exact ne_allLt (And.right (And.right (And.right (And.right (And.right (And.right (And.right (And.right (And.right (And.right (And.right (And.right (by assumption))))))))))))) | exact ne_allLt (And.right (And.right (And.right (And.right (And.right (And.right (And.right (And.right (And.right (And.right (And.right (And.right (And.right (by assumption)))))))))))))) | exact ne_allLt (And.right (And.right (And.right (And.right (And.right (And.right (And.right (And.right (And.right (And.right (And.right (And.right (And.right (And.right (by assumption)))))))))))))))))) | fail)
  k_with "k_all" => (first | ((fail_if_success (with_reducible refine List.forall_mem_cons.mpr ?_)); (first | with_reducible assumption | assumption)) | fail)
  k_with "k_all" => (first | (refine' ne_cons_of ?qzyh ?qzyg; (case qzyh => with_reducible assumption); (case qzyg => exact id)) | fail)
  k_with "k_mem" => (first | (first | exact List.Mem.head _ | (refine List.mem_cons_of_mem _ ?_; (first | exact List.Mem.head _ | (refine List.mem_cons_of_mem _ ?_; (first | exact List.Mem.head _ | (refine List.mem_cons_of_mem _ ?_; (first | exact List.Mem.head _ | (refine List.mem_cons_of_mem _ ?_; (first | exact List.Mem.head _ | (refine List.mem_cons_of_mem _ ?_; (first | exact List.Mem.head _ | (refine List.mem_cons_of_mem _ ?_; (first | exact List.Mem.head _ | (refine List.mem_cons_of_mem _ ?_; (first | exact List.Mem.head _ | (refine List.mem_cons_of_mem _ ?_; (first | exact List.Mem.head _ | (refine List.mem_cons_of_mem _ ?_; (first | exact List.Mem.head _ | (refine List.mem_cons_of_mem _ ?_; (first | exact List.Mem.head _ | (refine List.mem_cons_of_mem _ ?_; (first | exact List.Mem.head _ | (refine List.mem_cons_of_mem _ ?_; (first | exact List.Mem.head _ | (refine List.mem_cons_of_mem _ ?_; (first | exact List.Mem.head _ | (refine List.mem_cons_of_mem _ ?_; (first | exact List.Mem.head _ | (refine List.mem_cons_of_mem _ ?_; (first | exact List.Mem.head _ | (refine List.mem_cons_of_mem _ ?_; (first | exact List.Mem.head _ | (refine List.mem_cons_of_mem _ ?_; (first | exact List.Mem.head _ | (refine List.mem_cons_of_mem _ ?_; (first | exact List.Mem.head _ | (refine List.mem_cons_of_mem _ ?_; (first | exact List.Mem.head _ | (refine List.mem_cons_of_mem _ ?_; (first | exact List.Mem.head _ | assumption)) | assumption)) | assumption)) | assumption)) | assumption)) | assumption)) | assumption)) | assumption)) | assumption)) | assumption)) | assumption)) | assumption)) | assumption)) | assumption)) | assumption)) | assumption)) | assumption)) | assumption)) | assumption)) | assumption)) | assumption) | fail)
  k_with "eval Name" => (first | (k_here; (with_reducible refine' q_name ?qza ?qzb ?qzc ?qzF ?qzv ?_); k_dflt ((case qzF => k_asm); (case qzc => exact fun _ _ => rfl); (case qzv => rfl); (case qza => rfl); (case qzb => decide); k_whole)) | fail)
  k_with "storeName" => (first | (k_here; (with_reducible refine' q_store ?qza ?qzb ?qzF ?qzN ?_); k_dflt ((case qzF => k_asm); (case qzN => k_asm); (case qzb => exact fun _ _ => rfl); (case qza => rfl); k_whole; intro _ _ _ _; (try k_sweep))) | fail)
  k_with "eval Constant str" => (first | (k_here; with_reducible refine q_str ?_) | fail)
  k_with "eval Constant int" => (first | (k_here; with_reducible refine q_int ?_) | fail)
  k_with "spliced" => (first | (k_here; (with_reducible refine args_nil ?_); (try dsimp only [List.cons_append, List.nil_append])) | fail)
  k_with "spliced" => (first | (k_here; with_reducible refine q_args ?_) | fail)
  k_with "spliced" => (first | (k_here; (with_reducible refine' q_arg ?qza ?qzb ?qzc ?qzF ?qzv ?_); k_dflt ((case qzF => k_asm); (case qzc => exact fun _ _ => rfl); (case qzv => rfl); (case qza => rfl); (case qzb => decide); k_whole)) | fail)
  k_with "spliced" => (first | (k_here; (with_reducible refine' q_arg1 ?qza ?qzb ?qzc ?qzF ?qzv ?_); k_dflt ((case qzF => k_asm); (case qzc => exact fun _ _ => rfl); (case qzv => rfl); (case qza => rfl); (case qzb => decide); k_whole); (try dsimp only [List.cons_append, List.nil_append])) | fail)
  k_with "execs cons" => (first | (k_here; (try k_gentoks); (first | ((with_reducible refine q_assign ?qzhs ?_); (fail_if_success with_reducible show wpAny _ _ (eval (PySem.Expr.ListComp _ _ _ _) _) _ _ _); (case qzhs => with_unfolding_all rfl)) | with_reducible refine q_return ?_ | with_reducible refine q_if ?_); (try dsimp only); (try k_fold)) | fail)
  k_with "getAttr ref" => (first | (k_here; (with_reducible refine' q_own ?qzk1 ?qzk2 ?qzk3 ?qzk4 ?qzk5 ?qzk6 ?qzk7 ?qzk8 ?qzk9 ?_); k_dflt ((case qzk1 => k_asm); (case qzk2 => k_asm); (case qzk3 => k_inst); (case qzk4 => k_is); (case qzk5 => k_is); (case qzk6 => k_is); (case qzk7 => k_is); (case qzk8 => k_get); (case qzk9 => k_handed); k_whole)) | fail)
  k_with "TurnEnd cons ret" => (first | (k_here; dsimp only [TurnEnd]) | fail)
  k_with "spliced" => (first | (k_here; (with_reducible refine' q_sargs ?qzhk ?qzF ?qzz ?qzS ?_); k_dflt ((case qzhk => rfl); (case qzF => k_asm); (case qzz => exact fun _ _ => rfl); (case qzS => exact rfl); k_whole); (try dsimp only [List.cons_append, List.nil_append])) | fail)
  k_with "eval Call" => (first | (k_here; (with_reducible refine' q_gcall ?qzhk ?qzF ?qzX ?qzT ?qzhx ?qzhd ?qzhv ?qzhf ?qzz ?qzS ?_); k_dflt ((case qzhk => rfl); (case qzF => k_asm); (case qzz => exact fun _ _ => rfl); (case qzS => exact rfl); (case qzX => k_asm); (case qzT => assumption); (case qzhx => exact fun _ _ => rfl); (case qzhd => decide); (case qzhv => k_is); (case qzhf => k_is); k_whole)) | fail)
  k_with "isTrue Compare" => (first | (k_here; (with_reducible refine' q_cmps ?qzhm ?qzhk ?qzF ?qzz ?qzS ?_); k_dflt ((case qzhk => rfl); (case qzF => k_asm); (case qzz => exact fun _ _ => rfl); (case qzS => exact rfl); (case qzhm => with_unfolding_all rfl); k_whole)) | fail)
  k_with "eval Subscript" => (first | (k_here; (with_reducible refine' q_sub ?qzhk ?qzF ?qzz ?qzS ?_); k_dflt ((case qzhk => rfl); (case qzF => k_asm); (case qzz => exact fun _ _ => rfl); (case qzS => exact rfl); k_whole)) | fail)
  k_with "execs cons" => (first | (k_here; (try k_gentoks); (with_reducible refine' q_rets ?qzhk ?qzF ?qzz ?qzS ?_); k_dflt ((case qzhk => rfl); (case qzF => k_asm); (case qzz => exact fun _ _ => rfl); (case qzS => exact rfl); k_whole); (try dsimp only); (try k_fold)) | fail)
  k_with "eval Attribute Name" => (first | (k_here; (with_reducible refine' q_attr ?qzhk ?qzF ?qzz ?qzS ?_); k_dflt ((case qzhk => rfl); (case qzF => k_asm); (case qzz => exact fun _ _ => rfl); (case qzS => exact rfl); k_whole)) | fail)
  k_with "getMethod ref" => (first | (k_here; (with_reducible show wpAny _ _ (getMethod (Value.ref _) (Str.ofString "get") _) _ _ _); k_dflt (first | (refine' kdg_method (knd := PySem.strKind _ _) ?qzN ?qzm ?qzd ?_; (case qzN => k_asm); (case qzm => k_mem); (case qzd => k_asm); k_whole) | (refine' kdg_method (knd := PySem.intKind _ _) ?qzN ?qzm ?qzd ?_; (case qzN => k_asm); (case qzm => k_mem); (case qzd => k_asm); k_whole))) | fail)
  k_with "getMethod ref" => (first | (k_here; (with_reducible show wpAny _ _ (getMethod (Value.ref _) (Str.ofString "pop") _) _ _ _); k_dflt (first | (refine' kob_method (knd := PySem.strKind _ _) PySem.F.slot_dict_pop PySem.F.type_dict_pop ?qzN ?qzm ?qzd ?_; (case qzN => k_asm); (case qzm => k_mem); (case qzd => k_asm); k_whole) | (refine' kob_method (knd := PySem.intKind _ _) PySem.F.slot_dict_pop PySem.F.type_dict_pop ?qzN ?qzm ?qzd ?_; (case qzN => k_asm); (case qzm => k_mem); (case qzd => k_asm); k_whole))) | fail)
  k_with "getMethod ref" => (first | (k_here; (with_reducible show wpAny _ _ (getMethod (Value.ref _) (Str.ofString "setdefault") _) _ _ _); k_dflt (first | (refine' kob_method (knd := PySem.strKind _ _) PySem.F.slot_dict_setdefault PySem.F.type_dict_setdefault ?qzN ?qzm ?qzd ?_; (case qzN => k_asm); (case qzm => k_mem); (case qzd => k_asm); k_whole) | (refine' kob_method (knd := PySem.intKind _ _) PySem.F.slot_dict_setdefault PySem.F.type_dict_setdefault ?qzN ?qzm ?qzd ?_; (case qzN => k_asm); (case qzm => k_mem); (case qzd => k_asm); k_whole))) | fail)
  k_with "call builtin:dict.get" => (first | (k_here; (with_reducible show wpAny _ _ (call _ [_, _, _]) _ _ _); k_dflt (first | (refine' q_get2 (knd := PySem.strKind _ _) ?qzN ?qzm ?qzd ?qzlo ?qzk _ ?qzl ?_; (case qzN => k_asm); (case qzm => k_mem); (case qzd => k_asm); (case qzlo => exact lo_of (by k_asm) (by k_asm) (by k_mem)); (case qzk => exact strKind_is _ _ _ _); (case qzl => first | assumption | exact rfl); k_whole) | (refine' q_get2 (knd := PySem.intKind _ _) ?qzN ?qzm ?qzd ?qzlo ?qzk _ ?qzl ?_; (case qzN => k_asm); (case qzm => k_mem); (case qzd => k_asm); (case qzlo => exact lo_of (by k_asm) (by k_asm) (by k_mem)); (case qzk => exact intKind_is _ _ _ _); (case qzl => first | assumption | exact rfl); k_whole)); (try dsimp only [Option.getD])) | fail)
  k_with "call builtin:dict.get" => (first | (k_here; (with_reducible show wpAny _ _ (call _ [_, _]) _ _ _); k_dflt (first | (refine' q_get1 (knd := PySem.strKind _ _) ?qzN ?qzm ?qzd ?qzlo ?qzk _ ?qzl ?_; (case qzN => k_asm); (case qzm => k_mem); (case qzd => k_asm); (case qzlo => exact lo_of (by k_asm) (by k_asm) (by k_mem)); (case qzk => exact strKind_is _ _ _ _); (case qzl => first | assumption | exact rfl); k_whole) | (refine' q_get1 (knd := PySem.intKind _ _) ?qzN ?qzm ?qzd ?qzlo ?qzk _ ?qzl ?_; (case qzN => k_asm); (case qzm => k_mem); (case qzd => k_asm); (case qzlo => exact lo_of (by k_asm) (by k_asm) (by k_mem)); (case qzk => exact intKind_is _ _ _ _); (case qzl => first | assumption | exact rfl); k_whole)); (try dsimp only [Option.getD])) | fail)
  k_with "subscriptTail" => (first | (k_here; (with_reducible first | show wpAny _ _ (subscriptTail _ _ (Value.ref _) (Value.str _ _)) _ _ _ | show wpAny _ _ (subscriptTail _ _ (Value.ref _) (Value.int _ _)) _ _ _); k_dflt (first | (refine' q_item (knd := PySem.strKind _ _) ?qzN ?qzm ?qzd ?qzk ?qzl ?_ ?qza ?qzb; (case qzN => k_asm); (case qzm => k_mem); (case qzd => k_asm); (case qzk => exact strKind_is _ _ _ _); (case qzl => first | assumption | exact valueAt_stored _ _ _ | exact rfl); (case qza => with_unfolding_all rfl); (case qzb => intro _; with_unfolding_all rfl); k_whole) | (refine' q_item (knd := PySem.intKind _ _) ?qzN ?qzm ?qzd ?qzk ?qzl ?_ ?qza ?qzb; (case qzN => k_asm); (case qzm => k_mem); (case qzd => k_asm); (case qzk => exact intKind_is _ _ _ _); (case qzl => first | assumption | exact valueAt_stored _ _ _ | exact rfl); (case qza => with_unfolding_all rfl); (case qzb => intro _; with_unfolding_all rfl); k_whole))) | fail)
  k_with "compareOp In str ref" => (first | (k_here; (with_reducible first | show wpAny _ _ (compareOp _ (Value.str _ _) (Value.ref _)) _ _ _ | show wpAny _ _ (compareOp _ (Value.int _ _) (Value.ref _)) _ _ _); k_dflt (first | (refine' q_in (knd := PySem.strKind _ _) ?qzN ?qzm ?qzd ?qzlo ?qzk _ ?qzl ?_; (case qzN => k_asm); (case qzm => k_mem); (case qzd => k_asm); (case qzlo => exact lo_of (by k_asm) (by k_asm) (by k_mem)); (case qzk => exact strKind_is _ _ _ _); (case qzl => first | (refine' some_is ?qzhs; (case qzhs => assumption)) | (refine' none_is ?qzhs; (case qzhs => assumption)) | exact rfl); k_whole) | (refine' q_in (knd := PySem.intKind _ _) ?qzN ?qzm ?qzd ?qzlo ?qzk _ ?qzl ?_; (case qzN => k_asm); (case qzm => k_mem); (case qzd => k_asm); (case qzlo => exact lo_of (by k_asm) (by k_asm) (by k_mem)); (case qzk => exact intKind_is _ _ _ _); (case qzl => first | (refine' some_is ?qzhs; (case qzhs => assumption)) | (refine' none_is ?qzhs; (case qzhs => assumption)) | exact rfl); k_whole))) | fail)
  k_with "compareOp In int ref" => (first | (k_here; (with_reducible first | show wpAny _ _ (compareOp _ (Value.str _ _) (Value.ref _)) _ _ _ | show wpAny _ _ (compareOp _ (Value.int _ _) (Value.ref _)) _ _ _); k_dflt (first | (refine' q_in (knd := PySem.strKind _ _) ?qzN ?qzm ?qzd ?qzlo ?qzk _ ?qzl ?_; (case qzN => k_asm); (case qzm => k_mem); (case qzd => k_asm); (case qzlo => exact lo_of (by k_asm) (by k_asm) (by k_mem)); (case qzk => exact strKind_is _ _ _ _); (case qzl => first | (refine' some_is ?qzhs; (case qzhs => assumption)) | (refine' none_is ?qzhs; (case qzhs => assumption)) | exact rfl); k_whole) | (refine' q_in (knd := PySem.intKind _ _) ?qzN ?qzm ?qzd ?qzlo ?qzk _ ?qzl ?_; (case qzN => k_asm); (case qzm => k_mem); (case qzd => k_asm); (case qzlo => exact lo_of (by k_asm) (by k_asm) (by k_mem)); (case qzk => exact intKind_is _ _ _ _); (case qzl => first | (refine' some_is ?qzhs; (case qzhs => assumption)) | (refine' none_is ?qzhs; (case qzhs => assumption)) | exact rfl); k_whole))) | fail)
  k_with "compareOp NotIn str ref" => (first | (k_here; (with_reducible first | show wpAny _ _ (compareOp _ (Value.str _ _) (Value.ref _)) _ _ _ | show wpAny _ _ (compareOp _ (Value.int _ _) (Value.ref _)) _ _ _); k_dflt (first | (refine' q_notin (knd := PySem.strKind _ _) ?qzN ?qzm ?qzd ?qzlo ?qzk _ ?qzl ?_; (case qzN => k_asm); (case qzm => k_mem); (case qzd => k_asm); (case qzlo => exact lo_of (by k_asm) (by k_asm) (by k_mem)); (case qzk => exact strKind_is _ _ _ _); (case qzl => first | (refine' some_is ?qzhs; (case qzhs => assumption)) | (refine' none_is ?qzhs; (case qzhs => assumption)) | exact rfl); k_whole) | (refine' q_notin (knd := PySem.intKind _ _) ?qzN ?qzm ?qzd ?qzlo ?qzk _ ?qzl ?_; (case qzN => k_asm); (case qzm => k_mem); (case qzd => k_asm); (case qzlo => exact lo_of (by k_asm) (by k_asm) (by k_mem)); (case qzk => exact intKind_is _ _ _ _); (case qzl => first | (refine' some_is ?qzhs; (case qzhs => assumption)) | (refine' none_is ?qzhs; (case qzhs => assumption)) | exact rfl); k_whole))) | fail)
  k_with "compareOp NotIn int ref" => (first | (k_here; (with_reducible first | show wpAny _ _ (compareOp _ (Value.str _ _) (Value.ref _)) _ _ _ | show wpAny _ _ (compareOp _ (Value.int _ _) (Value.ref _)) _ _ _); k_dflt (first | (refine' q_notin (knd := PySem.strKind _ _) ?qzN ?qzm ?qzd ?qzlo ?qzk _ ?qzl ?_; (case qzN => k_asm); (case qzm => k_mem); (case qzd => k_asm); (case qzlo => exact lo_of (by k_asm) (by k_asm) (by k_mem)); (case qzk => exact strKind_is _ _ _ _); (case qzl => first | (refine' some_is ?qzhs; (case qzhs => assumption)) | (refine' none_is ?qzhs; (case qzhs => assumption)) | exact rfl); k_whole) | (refine' q_notin (knd := PySem.intKind _ _) ?qzN ?qzm ?qzd ?qzlo ?qzk _ ?qzl ?_; (case qzN => k_asm); (case qzm => k_mem); (case qzd => k_asm); (case qzlo => exact lo_of (by k_asm) (by k_asm) (by k_mem)); (case qzk => exact intKind_is _ _ _ _); (case qzl => first | (refine' some_is ?qzhs; (case qzhs => assumption)) | (refine' none_is ?qzhs; (case qzhs => assumption)) | exact rfl); k_whole))) | fail)
  k_with "getItem ref" => (first | (k_here; (with_reducible first | show wpAny _ _ (getItem (Value.ref _) (Value.str _ _)) _ _ _ | show wpAny _ _ (getItem (Value.ref _) (Value.int _ _)) _ _ _); k_dflt (first | (refine' q_gitem (knd := PySem.strKind _ _) ?qzN ?qzm ?qzd ?qzk ?qzl ?_; (case qzN => k_asm); (case qzm => k_mem); (case qzd => k_asm); (case qzk => exact strKind_is _ _ _ _); (case qzl => first | assumption | exact valueAt_stored _ _ _ | exact rfl); k_whole) | (refine' q_gitem (knd := PySem.intKind _ _) ?qzN ?qzm ?qzd ?qzk ?qzl ?_; (case qzN => k_asm); (case qzm => k_mem); (case qzd => k_asm); (case qzk => exact intKind_is _ _ _ _); (case qzl => first | assumption | exact valueAt_stored _ _ _ | exact rfl); k_whole))) | fail)
  k_with "setItem ref" => (first | ((k_here; (with_reducible first | show wpAny _ _ (setItem (Value.ref _) (Value.str _ _) _) _ _ _ | show wpAny _ _ (setItem (Value.ref _) (Value.int _ _) _) _ _ _); k_dflt (first | (refine' kda_set (knd := PySem.strKind _ _) ?qzF ?qzN ?qzU ?qzd ?qzk ?qzz ?_; (case qzF => k_asm); (case qzN => k_asm); (case qzU => k_updF); (case qzd => k_asm); (case qzk => exact strKind_is _ _ _ _); (case qzz => exact line64 (by assumption)); k_whole) | (refine' kda_set (knd := PySem.intKind _ _) ?qzF ?qzN ?qzU ?qzd ?qzk ?qzz ?_; (case qzF => k_asm); (case qzN => k_asm); (case qzU => k_updF); (case qzd => k_asm); (case qzk => exact intKind_is _ _ _ _); (case qzz => exact line64 (by assumption)); k_whole)); intro h' o' F' N' hd'; (try dsimp only at N')); (try revert hd'); (try revert N'); (try revert F'); (try revert o'); (try revert h'); intros) | fail)
  k_with "compareOp In str ref" => (first | (k_here; (with_reducible show wpAny _ _ (compareOp CmpOp.In (Value.str _ _) (Value.ref _)) _ _ _); k_dflt (refine' in_tuple_strs ?qzk1 ?qzk2 ?_; (case qzk1 => exact tupK (Frag.In.keeps (by k_asm) (Fr.keep (by k_asm))) (by k_is)); (case qzk2 => kde_strs); k_whole)) | fail)
  k_with "compareOp NotIn str ref" => (first | (k_here; (with_reducible show wpAny _ _ (compareOp CmpOp.NotIn (Value.str _ _) (Value.ref _)) _ _ _); k_dflt (refine' notin_tuple_strs ?qzk1 ?qzk2 ?_; (case qzk1 => exact tupK (Frag.In.keeps (by k_asm) (Fr.keep (by k_asm))) (by k_is)); (case qzk2 => kde_strs); k_whole)) | fail)
  k_with "call ref" => (first | ((k_here; (with_reducible show wpAny _ _ (call (Value.ref 63) _) _ _ _); k_dflt (refine' wp_up (mk_io (gd := _) ?qzB ?qzF ?qzX ?qzN ?qzT ?qzhf ?qzhk ?_) rfl (Nat.le_of_ble_eq_true rfl) rfl rfl (Nat.le_of_ble_eq_true rfl); (case qzB => k_asm); (case qzF => k_asm); (case qzX => k_asm); (case qzN => k_asm); (case qzT => k_asm); (case qzhf => exact rfl); (case qzhk => exact rfl)); intro h' tk' e' t' od' F' N' l'); (try revert l'); (try revert N'); (try revert F'); (try revert od'); (try revert t'); (try revert e'); (try revert tk'); (try revert h'); intros) | fail)
  k_with "call ref" => (first | ((k_here; (with_reducible show wpAny _ _ (call (Value.ref 82) _) _ _ _); k_dflt (refine' wp_up (mk_end (gd := _) ?qzB ?qzF ?qzX ?qzN ?qzT ?qzhf ?qzhk ?_) rfl (Nat.le_of_ble_eq_true rfl) rfl rfl (Nat.le_of_ble_eq_true rfl); (case qzB => k_asm); (case qzF => k_asm); (case qzX => k_asm); (case qzN => k_asm); (case qzT => k_asm); (case qzhf => exact rfl); (case qzhk => exact rfl)); intro h' tk' e' t' od' F' N' l'); (try revert l'); (try revert N'); (try revert F'); (try revert od'); (try revert t'); (try revert e'); (try revert tk'); (try revert h'); intros) | fail)
  k_with "call ref" => (first | ((k_here; (with_reducible show wpAny _ _ (call (Value.ref 44) _) _ _ _); k_dflt (refine' wp_up (mk_check (gd := _) ?qzB ?qzF ?qzX ?qzN ?qzT ?qzhf ?qzhk ?_) rfl (Nat.le_of_ble_eq_true rfl) rfl rfl (Nat.le_of_ble_eq_true rfl); (case qzB => k_asm); (case qzF => k_asm); (case qzX => k_asm); (case qzN => k_asm); (case qzT => k_asm); (case qzhf => exact rfl); (case qzhk => exact rfl)); intro h' tk' e' t' od' F' N' l'); (try revert l'); (try revert N'); (try revert F'); (try revert od'); (try revert t'); (try revert e'); (try revert tk'); (try revert h'); intros) | fail)
  k_with "call ref" => (first | ((k_here; (with_reducible show wpAny _ _ (call (Value.ref 147) [Value.int _ _, Value.ref _, Value.str _ _]) _ _ _); k_dflt (refine' wp_up (unit_new (gd := _) ?qzB ?qzF ?qzX ?qzN ?qzT ?qzhf ?qzhk ?_) rfl (Nat.le_of_ble_eq_true rfl) rfl rfl (Nat.le_of_ble_eq_true rfl); (case qzB => k_asm); (case qzF => k_asm); (case qzX => k_asm); (case qzN => k_asm); (case qzT => k_asm); (case qzhf => exact rfl); (case qzhk => exact rfl)); intro ua' uda' od' h' tk' hD' l1' l2' F' N'; (try k_lt l1')); (try revert N'); (try revert F'); (try revert l2'); (try revert l1'); (try revert hD'); (try revert tk'); (try revert h'); (try revert od'); (try revert uda'); (try revert ua'); intros) | fail)
  k_with "call ref" => (first | ((k_here; (with_reducible show wpAny _ _ (call (Value.ref 105) [Value.str _ _, Value.str _ _, Value.str _ _, Value.int _ _]) _ _ _); k_dflt (refine' wp_up (file_new (gd := _) ?qzB ?qzF ?qzX ?qzN ?qzT ?qzhf ?qzhk ?_) rfl (Nat.le_of_ble_eq_true rfl) rfl rfl (Nat.le_of_ble_eq_true rfl); (case qzB => k_asm); (case qzF => k_asm); (case qzX => k_asm); (case qzN => k_asm); (case qzT => k_asm); (case qzhf => exact rfl); (case qzhk => exact rfl)); intro fa' fda' od' ra' h' tk' hD' l1' l2' l3' F' N'; (try k_lt l1')); (try revert N'); (try revert F'); (try revert l3'); (try revert l2'); (try revert l1'); (try revert hD'); (try revert tk'); (try revert h'); (try revert ra'); (try revert od'); (try revert fda'); (try revert fa'); intros) | fail)
  k_with "exec Raise some none" => (first | (k_here; (with_reducible show wpAny _ _ (exec (Stmt.Raise (some (Expr.Call (Expr.Name (Str.ofString "IoFault") _) _ _ _)) none _) _) _ _ _); k_dflt (refine' raise_at (C := 63) ?qzX ?qzh ?qzq ?_; (case qzX => k_asm); (case qzh => rfl); (case qzq => with_unfolding_all rfl); k_whole)) | fail)
  k_with "exec Raise some none" => (first | (k_here; (with_reducible show wpAny _ _ (exec (Stmt.Raise (some (Expr.Call (Expr.Name (Str.ofString "EndFault") _) _ _ _)) none _) _) _ _ _); k_dflt (refine' raise_at (C := 82) ?qzX ?qzh ?qzq ?_; (case qzX => k_asm); (case qzh => rfl); (case qzq => with_unfolding_all rfl); k_whole)) | fail)
  k_with "exec Raise some none" => (first | (k_here; (with_reducible show wpAny _ _ (exec (Stmt.Raise (some (Expr.Call (Expr.Name (Str.ofString "CheckFault") _) _ _ _)) none _) _) _ _ _); k_dflt (refine' raise_at (C := 44) ?qzX ?qzh ?qzq ?_; (case qzX => k_asm); (case qzh => rfl); (case qzq => with_unfolding_all rfl); k_whole)) | fail)
  k_with "Thrown" => (first | (k_here; k_dflt (refine' thrown_of ?qzF ?qzX ?qzN ?_; (case qzF => k_asm); (case qzX => k_asm); (case qzN => k_asm))) | fail)
  k_with "leaving ref" => (first | ((k_here; k_dflt (refine' leave_own ?qzK ?qzF ?qzN ?qzl ?_ ?qzh; (case qzh => rfl); (case qzK => assumption); (case qzF => k_asm); (case qzN => k_asm); (case qzl => assumption); k_whole); intro h' R' U'; (try dsimp only at R' U' ⊢)); (try revert U'); (try revert R'); (try revert h'); intros) | fail)
  trivial
section
theorem words_Mk : True := by
  k_with "getMethod type:Exception" => (first | (k_here; refine' method_type ?qzF ?qzX meta_exc stub_exc ?qze ?qzh ?_; (case qzF => k_asm); (case qzX => k_asm); (case qze => k_dflt k_is); (case qzh => k_handed)) | fail)
  k_with "call builtin:Exception.__init__" => (first | ((k_here; k_dflt (refine' ki_init ?qzH ?qzF ?qzX ?qzN ?qzR ?_; (case qzH => assumption); (case qzF => k_asm); (case qzX => k_asm); (case qzN => k_asm); (case qzR => assumption)); intro t2' h' F' N'); (try revert N'); (try revert F'); (try revert h'); (try revert t2'); intros) | fail)
  k_with "setAttr ref" => (first | (k_here; k_dflt (first | (refine' ki_set0 ?qzH ?qzF ?qzX ?qzN ?qzt ?qzR ?_; (case qzH => assumption); (case qzF => k_asm); (case qzX => k_asm); (case qzN => k_asm); (case qzt => assumption); (case qzR => assumption)) | (refine' ki_set1 ?qzH ?qzF ?qzX ?qzN ?qzt ?qzn ?qzd ?qzR ?_; (case qzH => assumption); (case qzF => k_asm); (case qzX => k_asm); (case qzN => k_asm); (case qzt => assumption); (case qzn => rfl); (case qzd => assumption); (case qzR => assumption)))) | fail)
  k_with "call ref" => (first | ((k_here; (with_reducible show wpAny _ _ (call (Value.ref 28) [Value.ref _, Value.str _ _]) _ _ _); k_dflt (refine' wp_up (f77_init (gd := _) ?qzB ?qzF ?qzX ?qzN ?qzT ?qzhf ?qzhk ?qzH ?qzt ?qzR ?_) rfl (Nat.le_of_ble_eq_true rfl) rfl rfl (Nat.le_of_ble_eq_true rfl); (case qzB => k_asm); (case qzF => k_asm); (case qzX => k_asm); (case qzN => k_asm); (case qzT => k_asm); (case qzhf => exact rfl); (case qzhk => exact rfl); (case qzH => assumption); (case qzt => assumption); (case qzR => assumption)); intro d' t2' i0' t0' h' tk' F' N' l1' l2'); (try revert l2'); (try revert l1'); (try revert N'); (try revert F'); (try revert tk'); (try revert h'); (try revert t0'); (try revert i0'); (try revert t2'); (try revert d'); intros) | fail)
  k_with "call ref" => (first | ((k_here; (with_reducible show wpAny _ _ (call (Value.ref 60) [Value.ref _, _, Value.str _ _]) _ _ _); k_dflt (refine' wp_up (io_init (gd := _) ?qzB ?qzF ?qzX ?qzN ?qzT ?qzhf ?qzhk ?qzH ?qzt ?qzc ?qzR ?_) rfl (Nat.le_of_ble_eq_true rfl) rfl rfl (Nat.le_of_ble_eq_true rfl); (case qzB => k_asm); (case qzF => k_asm); (case qzX => k_asm); (case qzN => k_asm); (case qzT => k_asm); (case qzhf => exact rfl); (case qzhk => exact rfl); (case qzH => assumption); (case qzt => assumption); (case qzc => assumption); (case qzR => assumption)); intro d' t2' h' tk' F' N'); (try revert N'); (try revert F'); (try revert tk'); (try revert h'); (try revert t2'); (try revert d'); intros) | fail)
  trivial
section
variable {w : World} {gd : Option (List Code)} {env : Env} {outer : List Env} {A A₀ : Around} {base h₀ : Heap} {L : Addr} {m mg mb : Str → Option Value} {mean : ExcName → Option Value} {s : Shared} {Q E : Value → Shared → Prop}
    {R : List (Addr × Obj)} {C x t dx : Addr} {od : Option Addr} {name txt : Str} {code : Int} {tt tc : Tok} {v : Value}
/-- what is known of an own exception class -/
inductive ExcC (w : World) (C : Addr) : Prop where
  | mk {nm q : Str} {N₁ : Addr} {bs : List Value} {sn : List Str} {sub : List Value} {ab : Bool} {col : Option Bool} {dd : Option Addr} {k0 k1 k2 k3 k5 : Option Value} (as : List Addr)
    (look : (hd.heap_1 w.params).lookup C = some (excClassObj nm q C N₁ bs (as.map Value.ref ++ [.type "Exception", .type "BaseException", .type "object"]) true sn sub ab col dd k0 k1 k2 k3 k5 "Exception.__new__"))
    (set : findIn (hd.heap_1 w.params) (.ref C) "__setattr__" = some (some (.builtin "object.__setattr__"))) (obj : mroIn (hd.heap_1 w.params) C (.type "object") = some true)
    (hB : (Value.ref C :: (as.map Value.ref ++ [.type "Exception", .type "BaseException", .type "object"])).contains (.type "Exception") = true)
    (hA : (Value.ref C :: (as.map Value.ref ++ [.type "Exception", .type "BaseException", .type "object"])).contains (.type "AttributeError") = false)
    (hN : (Value.ref C :: (as.map Value.ref ++ [.type "Exception", .type "BaseException", .type "object"])).contains (.type "NameError") = false)
    (text : takerIn (hd.heap_1 w.params) C "text" = some none) (code : takerIn (hd.heap_1 w.params) C "code" = some none) : ExcC w C
theorem cls_of {K : Frag} {o : Obj} {oc : Value} {odi : Option Addr} {cd : ClassData} {sl : Array (Option Value)} (h : K.lookup C = some o) (e : o = ⟨oc, odi, .cls cd, sl⟩) : clsIn K C = some cd := by
  subst e; unfold clsIn; rw [h]
theorem ki_init (H : ExcC w C) (F : Fr h₀ L s.heap m) (X : (hd.heap_1 w.params).In h₀) (N : News h₀ L s.heap ((x, excObj C t od) :: R)) (hR : ∀ p ∈ R, p.1 ≠ x) (h : ∀ t2 h', Fr h₀ L h' m → News h₀ L h' ((x, excObj C t2 od) :: R) → Q .none { s with heap := h' }) :
    wpAny (model P0 w) A (call (.builtin "Exception.__init__") [.ref x, v]) Q E s := by
  obtain ⟨as, look, set, obj, hB, hA, hN, text, code⟩ := H
  exact wpAny_call (exc_init (pre := []) F N (F.keep _ _ (X _ _ look)) hB (fun _ hp => nomatch hp) hR fun t2 h' F' N' _ => h t2 h' F' (news_tl N'))
theorem ki_set0 (H : ExcC w C) (F : Fr h₀ L s.heap m) (X : (hd.heap_1 w.params).In h₀) (N : News h₀ L s.heap ((x, excObj C t none) :: R)) (ht : takerIn (hd.heap_1 w.params) C name = some none) (hR : ∀ p ∈ R, p.1 ≠ x) {Q : Unit → Shared → Prop}
    (h : ∀ d h', Fr h₀ L h' m → News h₀ L h' ((x, excObj C t (some d)) :: (d, dictOf [⟨PyData.keyHash w.params name, .str name (s.toks + 1), v⟩] 1) :: R) → (∀ p ∈ R, @LT.lt Nat _ p.1 d) → @LT.lt Nat _ x d → Q () { s with heap := h', toks := s.toks + 2 }) :
    wpAny (model P0 w) A (setAttr (.ref x) name v) Q E s := by
  obtain ⟨as, look, set, obj, hB, hA, hN, text, code⟩ := H
  have X' := X.keeps F.keep
  refine set_plain X' (ox := excObj C t none) (od := none) ⟨(N _ (.head _)).1, rfl, rfl, trivial⟩ set ?_
  refine exc_store (s := { s with toks := s.toks + 1 }) (pre := []) F N X' (cls_of look rfl) (as := C :: as) rfl rfl obj ht (fun _ hp => nomatch hp) hR fun d h' F' N' l => ?_
  have t1 := news_tl N'
  exact h d h' F' (news_add t1 (news_add N' (news_tl t1))) (fun p hp => l p (.tail _ hp)) (l _ (.head _))
theorem ki_set1 {n0 : Str} {t0 : Tok} {v0 : Value} {i0 : Int} (H : ExcC w C) (F : Fr h₀ L s.heap m) (X : (hd.heap_1 w.params).In h₀) (N : News h₀ L s.heap ((x, excObj C t (some dx)) :: (dx, dictOf [⟨i0, .str n0 t0, v0⟩] 1) :: R)) (ht : takerIn (hd.heap_1 w.params) C name = some none)
    (hn : (Value.str n0 t0).isStr name = false) (hxd : @LT.lt Nat _ x dx) (hR : ∀ p ∈ R, @LT.lt Nat _ p.1 dx) {Q : Unit → Shared → Prop} (h : ∀ h', Fr h₀ L h' m → News h₀ L h' ((x, excObj C t (some dx)) :: R) → Q () { s with heap := h', toks := s.toks + 2 }) :
    wpAny (model P0 w) A (setAttr (.ref x) name v) Q E s := by
  obtain ⟨as, look, set, obj, hB, hA, hN, text, code⟩ := H
  have X' := X.keeps F.keep
  refine set_plain X' (ox := excObj C t (some dx)) (od := some (dictOf [⟨i0, .str n0 t0, v0⟩] 1)) ⟨(N _ (.head _)).1, rfl, rfl, (N _ (.tail _ (.head _))).1⟩ set ?_
  exact exc_store2 (s := { s with toks := s.toks + 1 }) F N X' (cls_of look rfl) (as := C :: as) rfl rfl obj ht hn (Nat.ne_of_lt hxd) (fun p hp => Nat.ne_of_lt (hR p hp)) fun h' F' N' => h h' F' (news_add N' (news_tl (news_tl N')))
end
theorem meta_exc : typeOf (.type "Exception") = pure (.type "type") := by kernel_rfl
theorem stub_exc : Manifest.isStub "Exception" = false := by decide +kernel
section
variable {w : World} {gd : Option (List Code)} {env : Env} {outer : List Env} {A A₀ : Around} {base h₀ : Heap} {L : Addr} {m mg mb : Str → Option Value} {mean : ExcName → Option Value} {s : Shared} {Q E : Value → Shared → Prop}
    {R : List (Addr × Obj)} {C x t dx : Addr} {od : Option Addr} {name txt : Str} {code : Int} {tt tc : Tok} {v : Value}
theorem f77_init (B : Below A₀ base outer h₀) (F : Fr h₀ L s.heap m) (X : (hd.heap_1 w.params).In h₀) (N : News h₀ L s.heap ((x, excObj C t none) :: R)) (T : Top view (looseW view []) mean mg mb h₀)
    (hf : env.frame = some L) (hk : env.scope.kind = .function) (H : ExcC w C) (ht : takerIn (hd.heap_1 w.params) C "text" = some none) (hR : ∀ p ∈ R, p.1 ≠ x)
    (ret : ∀ d t2 i0 t0 h' tk, Fr h₀ L h' m → News h₀ L h' ((x, excObj C t2 (some d)) :: (d, dictOf [⟨i0, .str (Str.ofString "text") t0, .str txt tt⟩] 1) :: R) → (∀ p ∈ R, @LT.lt Nat _ p.1 d) → @LT.lt Nat _ x d → Q .none { s with heap := h', toks := tk }) :
    wpAny (model P0 w) (At 750 3300 gd env outer) (call (.ref 28) [.ref x, .str txt tt]) Q E s := (by exact kept : Kept _ (by
  refine wpAny_call ?_
  k_dflt k_enter
  k_steps
  exact ret _ _ _ _ _ _ (by k_asm) (by k_asm) (by assumption) (by assumption)))
end
section
variable {w : World} {gd : Option (List Code)} {env : Env} {outer : List Env} {A A₀ : Around} {base h₀ : Heap} {L : Addr} {m mg mb : Str → Option Value} {mean : ExcName → Option Value} {s : Shared} {Q E : Value → Shared → Prop}
    {R : List (Addr × Obj)} {C x t dx : Addr} {od : Option Addr} {name txt : Str} {code : Int} {tt tc : Tok} {v : Value}
theorem io_init (B : Below A₀ base outer h₀) (F : Fr h₀ L s.heap m) (X : (hd.heap_1 w.params).In h₀) (N : News h₀ L s.heap ((x, excObj C t none) :: R)) (T : Top view (looseW view []) mean mg mb h₀)
    (hf : env.frame = some L) (hk : env.scope.kind = .function) (H : ExcC w C) (ht : takerIn (hd.heap_1 w.params) C "text" = some none) (hc : takerIn (hd.heap_1 w.params) C "code" = some none) (hR : ∀ p ∈ R, p.1 ≠ x)
    (ret : ∀ d t2 h' tk, Fr h₀ L h' m → News h₀ L h' ((x, excObj C t2 (some d)) :: R) → Q .none { s with heap := h', toks := tk }) :
    wpAny (model P0 w) (At 730 3200 gd env outer) (call (.ref 60) [.ref x, .int code tc, .str txt tt]) Q E s := (by exact kept : Kept _ (by
  refine wpAny_call ?_
  k_dflt k_enter
  k_steps
  exact ret _ _ _ _ (by k_asm) (by k_asm)))
end
section
variable {w : World} {gd : Option (List Code)} {env : Env} {outer : List Env} {A A₀ : Around} {base h₀ : Heap} {L : Addr} {m mg mb : Str → Option Value} {mean : ExcName → Option Value} {s : Shared} {Q E : Value → Shared → Prop}
    {R : List (Addr × Obj)} {C x t dx fI : Addr} {od : Option Addr} {name txt : Str} {code : Int} {tt tc : Tok} {v : Value} {rest : List Value}
theorem end_init (B : Below A₀ base outer h₀) (F : Fr h₀ L s.heap m) (X : (hd.heap_1 w.params).In h₀) (N : News h₀ L s.heap ((x, excObj C t none) :: R)) (T : Top view (looseW view []) mean mg mb h₀)
    (hf : env.frame = some L) (hk : env.scope.kind = .function) (H : ExcC w C) (ht : takerIn (hd.heap_1 w.params) C "text" = some none) (hc : takerIn (hd.heap_1 w.params) C "code" = some none) (hR : ∀ p ∈ R, p.1 ≠ x)
    (ret : ∀ d t2 h' tk, Fr h₀ L h' m → News h₀ L h' ((x, excObj C t2 (some d)) :: R) → Q .none { s with heap := h', toks := tk }) :
    wpAny (model P0 w) (At 720 3100 gd env outer) (call (.ref 79) [.ref x, .str txt tt]) Q E s := (by exact kept : Kept _ (by
  refine wpAny_call ?_
  k_dflt k_enter
  k_steps
  exact ret _ _ _ _ (by k_asm) (by k_asm)))
theorem mk_any (H : ExcC w C) (F : Fr h₀ L s.heap m) (X : (hd.heap_1 w.params).In h₀) (N : News h₀ L s.heap R) (hi : findIn (hd.heap_1 w.params) (.ref C) "__init__" = some (some (.ref fI))) (hfn : typeIn (hd.heap_1 w.params) (.ref fI) = some (.type "function")) (hr : rest.length ≤ sizeLine)
    (h : ∀ x t h', Fr h₀ L h' m → News h₀ L h' ((x, excObj C t none) :: R) → (∀ p ∈ R, @LT.lt Nat _ p.1 x) →
      wpAny (model P0 w) (A.under (.builtin "type.__call__" ⟨.ref C :: rest, []⟩)) (call (.ref fI) (.ref x :: rest)) (fun r s' => r = .none ∧ Q (.ref x) s') E { s with heap := h' }) :
    wpAny (model P0 w) A (call (.ref C) rest) Q E s := by
  obtain ⟨as, look, set, obj, hB, hA, hN, text, code⟩ := H
  obtain ⟨hp, g, dr, tk, os⟩ := s
  have N2 := (N.push F (tupObj rest)).push (F.push _) (excObj C hp.objs.size none)
  rw [Heap.size_push] at N2
  exact call_exc (X.keeps F.keep) hB hA hN (F.keep _ _ (X _ _ look)) hi hfn (h _ _ _ ((F.push _).push _) (news_add N2 (news_tl (news_tl N2))) fun p hp' => Nat.lt_succ_of_lt (Heap.lt_size (N p hp').1)) hr
theorem exc63 : ExcC w 63 := .mk [31] (by k_is) (by k_is) (by k_is) (by decide +kernel) (by decide +kernel) (by decide +kernel) (by k_is) (by k_is)
theorem exc82 : ExcC w 82 := .mk [63, 31] (by k_is) (by k_is) (by k_is) (by decide +kernel) (by decide +kernel) (by decide +kernel) (by k_is) (by k_is)
theorem exc44 : ExcC w 44 := .mk [31] (by k_is) (by k_is) (by k_is) (by decide +kernel) (by decide +kernel) (by decide +kernel) (by k_is) (by k_is)
theorem mk_io (B : Below A₀ base outer h₀) (F : Fr h₀ L s.heap m) (X : (hd.heap_1 w.params).In h₀) (N : News h₀ L s.heap R) (T : Top view (looseW view []) mean mg mb h₀) (hf : env.frame = some L) (hk : env.scope.kind = .function)
    (ret : ∀ h' tk e t od, Fr h₀ L h' m → News h₀ L h' ((e, excObj 63 t od) :: R) → (∀ p ∈ R, @LT.lt Nat _ p.1 e) → Q (.ref e) { s with heap := h', toks := tk }) :
    wpAny (model P0 w) (At 700 3000 gd env outer) (call (.ref 63) [.int code tc, .str txt tt]) Q E s :=
  mk_any exc63 F X N (by k_is) (by k_is) (Nat.le_of_ble_eq_true rfl) fun x t h' F' N' l =>
    wp_up (io_init (gd := gd) (s := { s with heap := h' }) B F' X N' T hf hk exc63 (by k_is) (by k_is) (fun p hp => Nat.ne_of_lt (l p hp)) fun d t2 h2 tk F2 N2 => ⟨rfl, ret _ _ _ _ _ F2 N2 l⟩) rfl (Nat.le_of_ble_eq_true rfl) rfl rfl (Nat.le_of_ble_eq_true rfl)
theorem mk_end (B : Below A₀ base outer h₀) (F : Fr h₀ L s.heap m) (X : (hd.heap_1 w.params).In h₀) (N : News h₀ L s.heap R) (T : Top view (looseW view []) mean mg mb h₀) (hf : env.frame = some L) (hk : env.scope.kind = .function)
    (ret : ∀ h' tk e t od, Fr h₀ L h' m → News h₀ L h' ((e, excObj 82 t od) :: R) → (∀ p ∈ R, @LT.lt Nat _ p.1 e) → Q (.ref e) { s with heap := h', toks := tk }) :
    wpAny (model P0 w) (At 700 3000 gd env outer) (call (.ref 82) [.str txt tt]) Q E s :=
  mk_any exc82 F X N (by k_is) (by k_is) (Nat.le_of_ble_eq_true rfl) fun x t h' F' N' l =>
    wp_up (end_init (gd := gd) (s := { s with heap := h' }) B F' X N' T hf hk exc82 (by k_is) (by k_is) (fun p hp => Nat.ne_of_lt (l p hp)) fun d t2 h2 tk F2 N2 => ⟨rfl, ret _ _ _ _ _ F2 N2 l⟩) rfl (Nat.le_of_ble_eq_true rfl) rfl rfl (Nat.le_of_ble_eq_true rfl)
theorem mk_check (B : Below A₀ base outer h₀) (F : Fr h₀ L s.heap m) (X : (hd.heap_1 w.params).In h₀) (N : News h₀ L s.heap R) (T : Top view (looseW view []) mean mg mb h₀) (hf : env.frame = some L) (hk : env.scope.kind = .function)
    (ret : ∀ h' tk e t od, Fr h₀ L h' m → News h₀ L h' ((e, excObj 44 t od) :: R) → (∀ p ∈ R, @LT.lt Nat _ p.1 e) → Q (.ref e) { s with heap := h', toks := tk }) :
    wpAny (model P0 w) (At 700 3000 gd env outer) (call (.ref 44) [.str txt tt]) Q E s :=
  mk_any exc44 F X N (by k_is) (by k_is) (Nat.le_of_ble_eq_true rfl) fun x t h' F' N' l =>
    wp_up (f77_init (gd := gd) (s := { s with heap := h' }) B F' X N' T hf hk exc44 (by k_is) (fun p hp => Nat.ne_of_lt (l p hp)) fun d t2 i0 t0 h2 tk F2 N2 _ _ => ⟨rfl, ret _ _ _ _ _ F2 (news_add N2 (news_tl (news_tl N2))) l⟩) rfl (Nat.le_of_ble_eq_true rfl) rfl rfl (Nat.le_of_ble_eq_true rfl)
end
end
section
theorem words_New : True := by
  k_with "eval Dict nil nil" => (first | ((k_here; k_dflt (refine' newDict_D ?qzk1 ?qzk2 (TopRead.nolimit (by k_asm)) ?_; (case qzk1 => k_asm); (case qzk2 => k_asm); k_whole); intro l' h' F' N'; (try k_sweep)); (try revert N'); (try revert F'); (try revert h'); (try revert l'); intros) | fail)
  trivial
/-! made and never looked at again: no cell in the ledger -/
section
variable {M : Model} {prog : Program} {w : World} {A : Around} {E : Value → Shared → Prop} {s : Shared} {h₀ : Heap} {L : Addr} {m : Str → Option Value} {news : List (Addr × Obj)} {Q : Value → Shared → Prop}
theorem newList_D {vs : List Value} (F : Fr h₀ L s.heap m) (N : News h₀ L s.heap news) (h : ∀ l h', Fr h₀ L h' m → News h₀ L h' news → Q (.ref l) { s with heap := h' }) (hsz : vs.length ≤ sizeLine) : wpAny M A (newList vs) Q E s :=
  newList_K F N (fun l h' F' N' _ => h l h' F' (news_tl N')) hsz
theorem newDict_D {env : Env} {pos : Pos} (F : Fr h₀ L s.heap m) (N : News h₀ L s.heap news) (hbig : h₀.NoLimit) (h : ∀ l h', Fr h₀ L h' m → News h₀ L h' news → Q (.ref l) { s with heap := h' }) : wpAny (model prog w) A (eval (.Dict [] [] pos) env) Q E s :=
  newDict_K F N hbig fun l h' _ F' N' _ _ _ _ _ _ => h l h' F' (news_tl N')
end
section
variable {w : World} {gd : Option (List Code)} {env : Env} {outer : List Env} {A₀ : Around} {base h₀ : Heap} {L : Addr} {m mg mb : Str → Option Value} {mean : ExcName → Option Value} {s : Shared} {Q E : Value → Shared → Prop}
    {news : List (Addr × Obj)} {fx : Addr} {num : Int} {nm : Str} {tn tb t1 t2 t3 t4 : Tok}
theorem unit_new (B : Below A₀ base outer h₀) (F : Fr h₀ L s.heap m) (X : (hd.heap_1 w.params).In h₀) (N : News h₀ L s.heap news) (T : Top view (looseW view []) mean mg mb h₀)
    (hf : env.frame = some L) (hk : env.scope.kind = .function)
    (ret : ∀ ua uda od h' tk, UnitD od num fx 0 → (∀ p ∈ news, @LT.lt Nat _ p.1 uda) → @LT.lt Nat _ uda ua → Fr h₀ L h' m → News h₀ L h' ((ua, instObj 147 uda) :: (uda, od) :: news) → Q (.ref ua) { s with heap := h', toks := tk }) :
    wpAny (model P0 w) (At 650 2600 gd env outer) (call (.ref 147) [.int num tn, .ref fx, .str (Str.ofString "NULL") tb]) Q E s := (by exact kept : Kept _ (by
  k_steps
  refine' ret _ _ _ _ _ ⟨_, _, _, _, _, _, _, _, _, _, _, _, rfl⟩ ?d ?x ?F ?N
  (case N => k_asm)
  (case F => k_asm)
  (case d => assumption)
  (case x => assumption)))
theorem file_new (B : Below A₀ base outer h₀) (F : Fr h₀ L s.heap m) (X : (hd.heap_1 w.params).In h₀) (N : News h₀ L s.heap news) (T : Top view (looseW view []) mean mg mb h₀)
    (hf : env.frame = some L) (hk : env.scope.kind = .function)
    (ret : ∀ fa fda od ra h' tk, FileD od nm ra → (∀ p ∈ news, @LT.lt Nat _ p.1 fda) → @LT.lt Nat _ fda fa → @LT.lt Nat _ fa ra → Fr h₀ L h' m → News h₀ L h' ((fa, instObj 105 fda) :: (fda, od) :: (ra, listOf #[] 0) :: news) → Q (.ref fa) { s with heap := h', toks := tk }) :
    wpAny (model P0 w) (At 650 2600 gd env outer) (call (.ref 105) [.str nm t1, .str (Str.ofString "SEQUENTIAL") t2, .str (Str.ofString "FORMATTED") t3, .int 0 t4]) Q E s := (by exact kept : Kept _ (by
  k_steps
  refine' ret _ _ _ _ _ _ ⟨_, _, _, _, _, _, _, _, _, _, _, _, _, _, _, _, _, _, rfl⟩ ?d ?x ?r ?F ?N
  (case N => exact news_rot3 (news_rot3 (by k_asm)))
  (case F => k_asm)
  (case d => assumption)
  (case x => assumption)
  (case r => omega)))
end
end
theorem words_again_Uof : True := by
  k_with_none
  k_with "spliced" => (first | (k_here; k_dflt (first | refine args_cons ?_ | refine args_nil ⟨Fr.keep (by assumption) _ _ (by assumption), ?_⟩ | (refine args_nil ?_; try simp only [List.cons_append, List.nil_append]))) | fail)
  k_with "setItem ref int" => (first | (k_extra "setItem ref") | fail)
  k_with "subscriptTail Name" => (first | (k_extra "subscriptTail") | fail)
  k_with "subscriptTail Subscript" => (first | (first | k_extra "subscriptTail" | (k_here; kda_here; first | ((with_reducible show wpAny _ _ (subscriptTail _ _ (Value.ref _) (Value.str _ _)) _ _ _); k_dflt (refine kdt_tail (knd := PySem.strKind _ _) (by k_asm) (by k_mem) (by k_asm) ?_)) | ((with_reducible show wpAny _ _ (subscriptTail _ _ (Value.ref _) (Value.int _ _)) _ _ _); k_dflt (refine kdt_tail (knd := PySem.intKind _ _) (by k_asm) (by k_mem) (by k_asm) ?_)))) | fail)
  k_with "cj" => (first | (first | assumption | exact And.left (by assumption) | exact And.right (by assumption) | exact And.left (And.right (by assumption)) | exact And.right (And.right (by assumption)) | exact And.left (And.right (And.right (by assumption))) | exact And.right (And.right (And.right (by assumption))) | exact And.left (And.right (And.right (And.right (by assumption)))) | exact And.right (And.right (And.right (And.right (by assumption)))) | exact And.left (And.right (And.right (And.right (And.right (by assumption))))) | exact And.right (And.right (And.right (And.right (And.right (by assumption))))) | exact And.left (And.right (And.right (And.right (And.right (And.right (by assumption)))))) | exact And.right (And.right (And.right (And.right (And.right (And.right (by assumption)))))) | exact And.left (And.right (And.right (And.right (And.right (And.right (And.right (by assumption))))))) | exact And.right (And.right (And.right (And.right (And.right (And.right (And.right (by assumption))))))) | exact And.left (And.right (And.right (And.right (And.right (And.right (And.right (And.right (by assumption)))))))) | exact And.right (And.right (And.right (And.right (And.right (And.right (And.right (And.right (by assumption)))))))) | exact And.left (And.right (And.right (And.right (And.right (And.right (And.right (And.right (And.right (by assumption))))))))) | exact And.right (And.right (And.right (And.right (And.right (And.right (And.right (And.right (And.right (by assumption))))))))) | exact And.left (And.right (And.right (And.right (And.right (And.right (And.right (And.right (And.right (And.right (by assumption)))))))))) | exact And.right (And.right (And.right (And.right (And.right (And.right (And.right (And.right (And.right (And.right (by assumption)))))))))) | exact And.left (And.right (And.right (And.right (And.right (And.right (And.right (And.right (And.right (And.right (And.right (by assumption))))))))))) | exact And.right (And.right (And.right (And.right (And.right (And.right (And.right (And.right (And.right (And.right (And.right (by assumption))))))))))) | exact And.left (And.right (And.right (And.right (And.right (And.right (And.right (And.right (And.right (And.right (And.right (And.right (by assumption)))))))))))) | exact And.right (And.right (And.right (And.right (And.right (And.right (And.right (And.right (And.right (And.right (And.right (And.right (by assumption)))))))))))) | exact And.left (And.right (And.right (And.right (And.right (And.right (And.right (And.right (And.right (And.right (And.right (And.right (And.right (by assumption))))))))))))) | exact And.right (And.right (And.right (And.right (And.right (And.right (And.right (And.right (And.right (And.right (And.right (And.right (And.right (by assumption))))))))))))) | exact And.left (And.right (And.right (And.right (And.right (And.right (And.right (And.right (And.right (And.right (And.right (And.right (And.right (And.right (by assumption)))))))))))))) | exact And.right (And.right (And.right (And.right (And.right (And.right (And.right (And.right (And.right (And.right (And.right (And.right (And.right (And.right (by assumption)))))))))))))) | exact And.left (And.right (And.right (And.right (And.right (And.right (And.right (And.right (And.right (And.right (And.right (And.right (And.right (And.right (And.right (by assumption))))))))))))))) | exact And.right (And.right (And.right (And.right (And.right (And.right (And.right (And.right (And.right (And.right (And.right (And.right (And.right (And.right (And.right (by assumption)))))))))))))))) | fail)
  k_with "om" => (first | (first | ((repeat ((with_reducible rename _ ∧ _ => hz9); clear hz9)); (repeat ((with_reducible rename @Ne _ _ _ => hz9); clear hz9)); omega) | ((repeat ((with_reducible rename @Ne _ _ _ ∧ _ => hz9); clear hz9)); (repeat ((with_reducible rename (_ ∧ _) ∧ _ => hz9); clear hz9)); (repeat ((with_reducible rename @Ne _ _ _ => hz9); clear hz9)); omega) | omega) | fail)
  k_with "k_ne" => (first | (refine neN ?_; (try dsimp only); (first | with_reducible assumption | ((repeat ((with_reducible rename @Ne _ _ _ ∧ _ => hz9); clear hz9)); (repeat ((with_reducible rename (_ ∧ _) ∧ _ => hz9); clear hz9)); (repeat ((with_reducible rename @Ne _ _ _ => hz9); clear hz9)); omega) | with_reducible (first | exact Ne.symm (by assumption) | exact Nat.ne_of_lt (by k_extra "cj") | exact Nat.ne_of_gt (by k_extra "cj") | (k_extra "cj") | exact Ne.symm (by k_extra "cj")) | omega)) | fail)
  k_with "k_enter" => (first | (refine' q_def ?qzk1 ?qzk2 ?qzk3 ?qzk4 ?qzk5 ?qzkA ?qzkF ?qzkK ?qzk6 ?qzk7 ?qzk8 ?qzk9 ?qzkB ?_ ?qzc2 ?qzc3 ?qzc4 ?qzc5; (case qzkA => exact rfl); (case qzkF => first | assumption | exact rfl); (case qzkK => first | assumption | exact rfl); (case qzk1 => k_asm); (case qzk2 => k_asm); (case qzk3 => k_asm); (case qzk4 => k_asm); (case qzk5 => k_asm); (case qzk6 => k_is); (case qzk7 => k_is); (case qzk8 => exact Nat.le_of_ble_eq_true rfl); (case qzk9 => first | ((with_reducible show BindsTo _ _ (Args.mk [_, _] []) _); exact bt2 rfl) | ((with_reducible show BindsTo _ _ (Args.mk [_] []) _); exact bt1 rfl) | ((with_reducible show BindsTo _ _ (Args.mk [_, _, _] []) _); exact bt3 rfl) | ((with_reducible show BindsTo _ _ (Args.mk [_, _, _, _] []) _); exact bt4 rfl) | ((with_reducible show BindsTo _ _ (Args.mk [_, _, _, _, _] []) _); exact bt5 rfl) | ((with_reducible show BindsTo _ _ (Args.mk [_, _, _, _, _, _] []) _); exact bt6 rfl) | ((with_reducible show BindsTo _ _ (Args.mk [] []) _); exact bt0 rfl) | exact BindsTo.of_eq rfl); (case qzc5 => decide); (case qzkB => exact locs rfl); (case qzc2 => exact rfl); (case qzc3 => exact rfl); (case qzc4 => exact rfl); k_whole; intro _ _ _ _ _ _ _ _ _ _ _ _ _ _ _; (try dsimp only); (try k_fold)) | fail)
  k_with "k_all" => (first | ((fail_if_success (with_reducible refine List.forall_mem_cons.mpr ?_)); (first | with_reducible (first | exact ne_allLt (by assumption) | exact ne_allLt (And.right (by assumption)) | exact ne_allLt (And.right (And.right (by assumption))) | exact ne_allLt (And.right (And.right (And.right (by assumption)))) | exact ne_allLt (And.right (And.right (And.right (And.right (by assumption))))) | exact ne_allLt (And.right (And.right (And.right (And.right (And.right (by assumption)))))) | exact ne_allLt (And.right (And.right (And.right (And.right (And.right (And.right (by assumption))))))) | exact ne_allLt (And.right (And.right (And.right (And.right (And.right (And.right (And.right (by assumption)))))))) | exact ne_allLt (And.right (And.right (And.right (And.right (And.right (And.right (And.right (And.right (by assumption))))))))) | exact ne_allLt (And.right (And.right (And.right (And.right (And.right (And.right (And.right (And.right (And.right (by assumption)))))))))) | exact ne_allLt (And.right (And.right (And.right (And.right (And.right (And.right (And.right (And.right (And.right (And.right (by assumption))))))))))) | exact ne_allLt (And.right (And.right (And.right (And.right (And.right (And.right (And.right (And.right (And.right (And.right (And.right (by assumption)))))))))))) | exact ne_allLt (And.right (And.right (And.right (And.right (And.right (And.right (And.right (And.right (And.right (And.right (And.right (And.right (by assumption))))))))))))) | exact ne_allLt (And.right (And.right (And.right (And.right (And.right (And.right (And.right (And.right (And.right (And.right (And.right (And.right (And.right (by assumption)))))))))))))) | exact ne_allLt (And.right (And.right (And.right (And.right (And.right (And.right (And.right (And.right (And.right (And.right (And.right (And.right (And.right (And.right (by assumption)))))))))))))))) | (first | exact ne_allLt (by assumption) | exact ne_allLt (And.right (by assumption)) | exact ne_allLt (And.right (And.right (by assumption))) | exact ne_allLt (And.right (And.right (And.right (by assumption)))) | exact ne_allLt (And.right (And.right (And.right (And.right (by assumption))))) | exact ne_allLt (And.right (And.right (And.right (And.right (And.right (by assumption)))))) | exact ne_allLt (And.right (And.right (And.right (And.right (And.right (And.right (by assumption))))))) | exact ne_allLt (And.right (And.right (And.right (And.right (And.right (And.right (And.right (by assumption)))))))) | exact ne_allLt (And.right (And.right (And.right (And.right (And.right (And.right (And.right (And.right (by assumption))))))))) | exact ne_allLt (And.right (And.right (And.right (And.right (And.right (And.right (And.right (And.right (And.right (by assumption)))))))))) | exact ne_allLt (And.right (And.right (And.right (And.right (And.right (And.right (And.right (And.right (And.right (And.right (by assumption))))))))))) | exact ne_allLt (And.right (And.right (And.right (And.right (And.right (And.right (And.right (And.right (And.right (And.right (And.right (by assumption)))))))))))) | exact ne_allLt (And.right (And.right (And.right (And.right (And.right (And.right (And.right (And.right (And.right (And.right (And.right (And.right (by assumption))))))))))))) | exact ne_allLt (And.right (And.right (And.right (And.right (And.right (And.right (And.right (And.right (And.right (And.right (And.right (And.right (And.right (by assumption)))))))))))))) | exact ne_allLt (And.right (And.right (And.right (And.right (And.right (And.right (And.right (And.right (And.right (And.right (And.right (And.right (And.right (And.right (by assumption)))))))))))))))))) | fail)
  k_with "k_all" => (first | ((fail_if_success (with_reducible refine List.forall_mem_cons.mpr ?_)); (first | with_reducible assumption | assumption)) | fail)
  k_with "k_all" => (first | (refine' ne_cons_of ?qzyh ?qzyg; (case qzyh => with_reducible assumption); (case qzyg => exact id)) | fail)
  k_with "k_mem" => (first | (first | exact List.Mem.head _ | (refine List.mem_cons_of_mem _ ?_; (first | exact List.Mem.head _ | (refine List.mem_cons_of_mem _ ?_; (first | exact List.Mem.head _ | (refine List.mem_cons_of_mem _ ?_; (first | exact List.Mem.head _ | (refine List.mem_cons_of_mem _ ?_; (first | exact List.Mem.head _ | (refine List.mem_cons_of_mem _ ?_; (first | exact List.Mem.head _ | (refine List.mem_cons_of_mem _ ?_; (first | exact List.Mem.head _ | (refine List.mem_cons_of_mem _ ?_; (first | exact List.Mem.head _ | (refine List.mem_cons_of_mem _ ?_; (first | exact List.Mem.head _ | (refine List.mem_cons_of_mem _ ?_; (first | exact List.Mem.head _ | (refine List.mem_cons_of_mem _ ?_; (first | exact List.Mem.head _ | (refine List.mem_cons_of_mem _ ?_; (first | exact List.Mem.head _ | (refine List.mem_cons_of_mem _ ?_; (first | exact List.Mem.head _ | (refine List.mem_cons_of_mem _ ?_; (first | exact List.Mem.head _ | (refine List.mem_cons_of_mem _ ?_; (first | exact List.Mem.head _ | (refine List.mem_cons_of_mem _ ?_; (first | exact List.Mem.head _ | (refine List.mem_cons_of_mem _ ?_; (first | exact List.Mem.head _ | (refine List.mem_cons_of_mem _ ?_; (first | exact List.Mem.head _ | (refine List.mem_cons_of_mem _ ?_; (first | exact List.Mem.head _ | (refine List.mem_cons_of_mem _ ?_; (first | exact List.Mem.head _ | (refine List.mem_cons_of_mem _ ?_; (first | exact List.Mem.head _ | assumption)) | assumption)) | assumption)) | assumption)) | assumption)) | assumption)) | assumption)) | assumption)) | assumption)) | assumption)) | assumption)) | assumption)) | assumption)) | assumption)) | assumption)) | assumption)) | assumption)) | assumption)) | assumption)) | assumption)) | assumption) | fail)
  k_with "eval Name" => (first | (k_here; (with_reducible refine' q_name ?qza ?qzb ?qzc ?qzF ?qzv ?_); k_dflt ((case qzF => k_asm); (case qzc => exact fun _ _ => rfl); (case qzv => rfl); (case qza => rfl); (case qzb => decide); k_whole)) | fail)
  k_with "storeName" => (first | (k_here; (with_reducible refine' q_store ?qza ?qzb ?qzF ?qzN ?_); k_dflt ((case qzF => k_asm); (case qzN => k_asm); (case qzb => exact fun _ _ => rfl); (case qza => rfl); k_whole; intro _ _ _ _; (try k_sweep))) | fail)
  k_with "eval Constant str" => (first | (k_here; with_reducible refine q_str ?_) | fail)
  k_with "eval Constant int" => (first | (k_here; with_reducible refine q_int ?_) | fail)
  k_with "spliced" => (first | (k_here; (with_reducible refine args_nil ?_); (try dsimp only [List.cons_append, List.nil_append])) | fail)
  k_with "spliced" => (first | (k_here; with_reducible refine q_args ?_) | fail)
  k_with "spliced" => (first | (k_here; (with_reducible refine' q_arg ?qza ?qzb ?qzc ?qzF ?qzv ?_); k_dflt ((case qzF => k_asm); (case qzc => exact fun _ _ => rfl); (case qzv => rfl); (case qza => rfl); (case qzb => decide); k_whole)) | fail)
  k_with "spliced" => (first | (k_here; (with_reducible refine' q_arg1 ?qza ?qzb ?qzc ?qzF ?qzv ?_); k_dflt ((case qzF => k_asm); (case qzc => exact fun _ _ => rfl); (case qzv => rfl); (case qza => rfl); (case qzb => decide); k_whole); (try dsimp only [List.cons_append, List.nil_append])) | fail)
  k_with "execs cons" => (first | (k_here; (try k_gentoks); (first | ((with_reducible refine q_assign ?qzhs ?_); (fail_if_success with_reducible show wpAny _ _ (eval (PySem.Expr.ListComp _ _ _ _) _) _ _ _); (case qzhs => with_unfolding_all rfl)) | with_reducible refine q_return ?_ | with_reducible refine q_if ?_); (try dsimp only); (try k_fold)) | fail)
  k_with "getAttr ref" => (first | (k_here; (with_reducible refine' q_own ?qzk1 ?qzk2 ?qzk3 ?qzk4 ?qzk5 ?qzk6 ?qzk7 ?qzk8 ?qzk9 ?_); k_dflt ((case qzk1 => k_asm); (case qzk2 => k_asm); (case qzk3 => k_inst); (case qzk4 => k_is); (case qzk5 => k_is); (case qzk6 => k_is); (case qzk7 => k_is); (case qzk8 => k_get); (case qzk9 => k_handed); k_whole)) | fail)
  k_with "TurnEnd cons ret" => (first | (k_here; dsimp only [TurnEnd]) | fail)
  k_with "spliced" => (first | (k_here; (with_reducible refine' q_sargs ?qzhk ?qzF ?qzz ?qzS ?_); k_dflt ((case qzhk => rfl); (case qzF => k_asm); (case qzz => exact fun _ _ => rfl); (case qzS => exact rfl); k_whole); (try dsimp only [List.cons_append, List.nil_append])) | fail)
  k_with "eval Call" => (first | (k_here; (with_reducible refine' q_gcall ?qzhk ?qzF ?qzX ?qzT ?qzhx ?qzhd ?qzhv ?qzhf ?qzz ?qzS ?_); k_dflt ((case qzhk => rfl); (case qzF => k_asm); (case qzz => exact fun _ _ => rfl); (case qzS => exact rfl); (case qzX => k_asm); (case qzT => assumption); (case qzhx => exact fun _ _ => rfl); (case qzhd => decide); (case qzhv => k_is); (case qzhf => k_is); k_whole)) | fail)
  k_with "isTrue Compare" => (first | (k_here; (with_reducible refine' q_cmps ?qzhm ?qzhk ?qzF ?qzz ?qzS ?_); k_dflt ((case qzhk => rfl); (case qzF => k_asm); (case qzz => exact fun _ _ => rfl); (case qzS => exact rfl); (case qzhm => with_unfolding_all rfl); k_whole)) | fail)
  k_with "eval Subscript" => (first | (k_here; (with_reducible refine' q_sub ?qzhk ?qzF ?qzz ?qzS ?_); k_dflt ((case qzhk => rfl); (case qzF => k_asm); (case qzz => exact fun _ _ => rfl); (case qzS => exact rfl); k_whole)) | fail)
  k_with "execs cons" => (first | (k_here; (try k_gentoks); (with_reducible refine' q_rets ?qzhk ?qzF ?qzz ?qzS ?_); k_dflt ((case qzhk => rfl); (case qzF => k_asm); (case qzz => exact fun _ _ => rfl); (case qzS => exact rfl); k_whole); (try dsimp only); (try k_fold)) | fail)
  k_with "eval Attribute Name" => (first | (k_here; (with_reducible refine' q_attr ?qzhk ?qzF ?qzz ?qzS ?_); k_dflt ((case qzhk => rfl); (case qzF => k_asm); (case qzz => exact fun _ _ => rfl); (case qzS => exact rfl); k_whole)) | fail)
  k_with "getMethod ref" => (first | (k_here; (with_reducible show wpAny _ _ (getMethod (Value.ref _) (Str.ofString "get") _) _ _ _); k_dflt (first | (refine' kdg_method (knd := PySem.strKind _ _) ?qzN ?qzm ?qzd ?_; (case qzN => k_asm); (case qzm => k_mem); (case qzd => k_asm); k_whole) | (refine' kdg_method (knd := PySem.intKind _ _) ?qzN ?qzm ?qzd ?_; (case qzN => k_asm); (case qzm => k_mem); (case qzd => k_asm); k_whole))) | fail)
  k_with "getMethod ref" => (first | (k_here; (with_reducible show wpAny _ _ (getMethod (Value.ref _) (Str.ofString "pop") _) _ _ _); k_dflt (first | (refine' kob_method (knd := PySem.strKind _ _) PySem.F.slot_dict_pop PySem.F.type_dict_pop ?qzN ?qzm ?qzd ?_; (case qzN => k_asm); (case qzm => k_mem); (case qzd => k_asm); k_whole) | (refine' kob_method (knd := PySem.intKind _ _) PySem.F.slot_dict_pop PySem.F.type_dict_pop ?qzN ?qzm ?qzd ?_; (case qzN => k_asm); (case qzm => k_mem); (case qzd => k_asm); k_whole))) | fail)
  k_with "getMethod ref" => (first | (k_here; (with_reducible show wpAny _ _ (getMethod (Value.ref _) (Str.ofString "setdefault") _) _ _ _); k_dflt (first | (refine' kob_method (knd := PySem.strKind _ _) PySem.F.slot_dict_setdefault PySem.F.type_dict_setdefault ?qzN ?qzm ?qzd ?_; (case qzN => k_asm); (case qzm => k_mem); (case qzd => k_asm); k_whole) | (refine' kob_method (knd := PySem.intKind _ _) PySem.F.slot_dict_setdefault PySem.F.type_dict_setdefault ?qzN ?qzm ?qzd ?_; (case qzN => k_asm); (case qzm => k_mem); (case qzd => k_asm); k_whole))) | fail)
  k_with "call builtin:dict.get" => (first | (k_here; (with_reducible show wpAny _ _ (call _ [_, _, _]) _ _ _); k_dflt (first | (refine' q_get2 (knd := PySem.strKind _ _) ?qzN ?qzm ?qzd ?qzlo ?qzk _ ?qzl ?_; (case qzN => k_asm); (case qzm => k_mem); (case qzd => k_asm); (case qzlo => exact lo_of (by k_asm) (by k_asm) (by k_mem)); (case qzk => exact strKind_is _ _ _ _); (case qzl => first | assumption | exact rfl); k_whole) | (refine' q_get2 (knd := PySem.intKind _ _) ?qzN ?qzm ?qzd ?qzlo ?qzk _ ?qzl ?_; (case qzN => k_asm); (case qzm => k_mem); (case qzd => k_asm); (case qzlo => exact lo_of (by k_asm) (by k_asm) (by k_mem)); (case qzk => exact intKind_is _ _ _ _); (case qzl => first | assumption | exact rfl); k_whole)); (try dsimp only [Option.getD])) | fail)
  k_with "call builtin:dict.get" => (first | (k_here; (with_reducible show wpAny _ _ (call _ [_, _]) _ _ _); k_dflt (first | (refine' q_get1 (knd := PySem.strKind _ _) ?qzN ?qzm ?qzd ?qzlo ?qzk _ ?qzl ?_; (case qzN => k_asm); (case qzm => k_mem); (case qzd => k_asm); (case qzlo => exact lo_of (by k_asm) (by k_asm) (by k_mem)); (case qzk => exact strKind_is _ _ _ _); (case qzl => first | assumption | exact rfl); k_whole) | (refine' q_get1 (knd := PySem.intKind _ _) ?qzN ?qzm ?qzd ?qzlo ?qzk _ ?qzl ?_; (case qzN => k_asm); (case qzm => k_mem); (case qzd => k_asm); (case qzlo => exact lo_of (by k_asm) (by k_asm) (by k_mem)); (case qzk => exact intKind_is _ _ _ _); (case qzl => first | assumption | exact rfl); k_whole)); (try dsimp only [Option.getD])) | fail)
  k_with "subscriptTail" => (first | (k_here; (with_reducible first | show wpAny _ _ (subscriptTail _ _ (Value.ref _) (Value.str _ _)) _ _ _ | show wpAny _ _ (subscriptTail _ _ (Value.ref _) (Value.int _ _)) _ _ _); k_dflt (first | (refine' q_item (knd := PySem.strKind _ _) ?qzN ?qzm ?qzd ?qzk ?qzl ?_ ?qza ?qzb; (case qzN => k_asm); (case qzm => k_mem); (case qzd => k_asm); (case qzk => exact strKind_is _ _ _ _); (case qzl => first | assumption | exact valueAt_stored _ _ _ | exact rfl); (case qza => with_unfolding_all rfl); (case qzb => intro _; with_unfolding_all rfl); k_whole) | (refine' q_item (knd := PySem.intKind _ _) ?qzN ?qzm ?qzd ?qzk ?qzl ?_ ?qza ?qzb; (case qzN => k_asm); (case qzm => k_mem); (case qzd => k_asm); (case qzk => exact intKind_is _ _ _ _); (case qzl => first | assumption | exact valueAt_stored _ _ _ | exact rfl); (case qza => with_unfolding_all rfl); (case qzb => intro _; with_unfolding_all rfl); k_whole))) | fail)
  k_with "compareOp In str ref" => (first | (k_here; (with_reducible first | show wpAny _ _ (compareOp _ (Value.str _ _) (Value.ref _)) _ _ _ | show wpAny _ _ (compareOp _ (Value.int _ _) (Value.ref _)) _ _ _); k_dflt (first | (refine' q_in (knd := PySem.strKind _ _) ?qzN ?qzm ?qzd ?qzlo ?qzk _ ?qzl ?_; (case qzN => k_asm); (case qzm => k_mem); (case qzd => k_asm); (case qzlo => exact lo_of (by k_asm) (by k_asm) (by k_mem)); (case qzk => exact strKind_is _ _ _ _); (case qzl => first | (refine' some_is ?qzhs; (case qzhs => assumption)) | (refine' none_is ?qzhs; (case qzhs => assumption)) | exact rfl); k_whole) | (refine' q_in (knd := PySem.intKind _ _) ?qzN ?qzm ?qzd ?qzlo ?qzk _ ?qzl ?_; (case qzN => k_asm); (case qzm => k_mem); (case qzd => k_asm); (case qzlo => exact lo_of (by k_asm) (by k_asm) (by k_mem)); (case qzk => exact intKind_is _ _ _ _); (case qzl => first | (refine' some_is ?qzhs; (case qzhs => assumption)) | (refine' none_is ?qzhs; (case qzhs => assumption)) | exact rfl); k_whole))) | fail)
  k_with "compareOp In int ref" => (first | (k_here; (with_reducible first | show wpAny _ _ (compareOp _ (Value.str _ _) (Value.ref _)) _ _ _ | show wpAny _ _ (compareOp _ (Value.int _ _) (Value.ref _)) _ _ _); k_dflt (first | (refine' q_in (knd := PySem.strKind _ _) ?qzN ?qzm ?qzd ?qzlo ?qzk _ ?qzl ?_; (case qzN => k_asm); (case qzm => k_mem); (case qzd => k_asm); (case qzlo => exact lo_of (by k_asm) (by k_asm) (by k_mem)); (case qzk => exact strKind_is _ _ _ _); (case qzl => first | (refine' some_is ?qzhs; (case qzhs => assumption)) | (refine' none_is ?qzhs; (case qzhs => assumption)) | exact rfl); k_whole) | (refine' q_in (knd := PySem.intKind _ _) ?qzN ?qzm ?qzd ?qzlo ?qzk _ ?qzl ?_; (case qzN => k_asm); (case qzm => k_mem); (case qzd => k_asm); (case qzlo => exact lo_of (by k_asm) (by k_asm) (by k_mem)); (case qzk => exact intKind_is _ _ _ _); (case qzl => first | (refine' some_is ?qzhs; (case qzhs => assumption)) | (refine' none_is ?qzhs; (case qzhs => assumption)) | exact rfl); k_whole))) | fail)
  k_with "compareOp NotIn str ref" => (first | (k_here; (with_reducible first | show wpAny _ _ (compareOp _ (Value.str _ _) (Value.ref _)) _ _ _ | show wpAny _ _ (compareOp _ (Value.int _ _) (Value.ref _)) _ _ _); k_dflt (first | (refine' q_notin (knd := PySem.strKind _ _) ?qzN ?qzm ?qzd ?qzlo ?qzk _ ?qzl ?_; (case qzN => k_asm); (case qzm => k_mem); (case qzd => k_asm); (case qzlo => exact lo_of (by k_asm) (by k_asm) (by k_mem)); (case qzk => exact strKind_is _ _ _ _); (case qzl => first | (refine' some_is ?qzhs; (case qzhs => assumption)) | (refine' none_is ?qzhs; (case qzhs => assumption)) | exact rfl); k_whole) | (refine' q_notin (knd := PySem.intKind _ _) ?qzN ?qzm ?qzd ?qzlo ?qzk _ ?qzl ?_; (case qzN => k_asm); (case qzm => k_mem); (case qzd => k_asm); (case qzlo => exact lo_of (by k_asm) (by k_asm) (by k_mem)); (case qzk => exact intKind_is _ _ _ _); (case qzl => first | (refine' some_is ?qzhs; (case qzhs => assumption)) | (refine' none_is ?qzhs; (case qzhs => assumption)) | exact rfl); k_whole))) | fail)
  k_with "compareOp NotIn int ref" => (first | (k_here; (with_reducible first | show wpAny _ _ (compareOp _ (Value.str _ _) (Value.ref _)) _ _ _ | show wpAny _ _ (compareOp _ (Value.int _ _) (Value.ref _)) _ _ _); k_dflt (first | (refine' q_notin (knd := PySem.strKind _ _) ?qzN ?qzm ?qzd ?qzlo ?qzk _ ?qzl ?_; (case qzN => k_asm); (case qzm => k_mem); (case qzd => k_asm); (case qzlo => exact lo_of (by k_asm) (by k_asm) (by k_mem)); (case qzk => exact strKind_is _ _ _ _); (case qzl => first | (refine' some_is ?qzhs; (case qzhs => assumption)) | (refine' none_is ?qzhs; (case qzhs => assumption)) | exact rfl); k_whole) | (refine' q_notin (knd := PySem.intKind _ _) ?qzN ?qzm ?qzd ?qzlo ?qzk _ ?qzl ?_; (case qzN => k_asm); (case qzm => k_mem); (case qzd => k_asm); (case qzlo => exact lo_of (by k_asm) (by k_asm) (by k_mem)); (case qzk => exact intKind_is _ _ _ _); (case qzl => first | (refine' some_is ?qzhs; (case qzhs => assumption)) | (refine' none_is ?qzhs; (case qzhs => assumption)) | exact rfl); k_whole))) | fail)
  k_with "getItem ref" => (first | (k_here; (with_reducible first | show wpAny _ _ (getItem (Value.ref _) (Value.str _ _)) _ _ _ | show wpAny _ _ (getItem (Value.ref _) (Value.int _ _)) _ _ _); k_dflt (first | (refine' q_gitem (knd := PySem.strKind _ _) ?qzN ?qzm ?qzd ?qzk ?qzl ?_; (case qzN => k_asm); (case qzm => k_mem); (case qzd => k_asm); (case qzk => exact strKind_is _ _ _ _); (case qzl => first | assumption | exact valueAt_stored _ _ _ | exact rfl); k_whole) | (refine' q_gitem (knd := PySem.intKind _ _) ?qzN ?qzm ?qzd ?qzk ?qzl ?_; (case qzN => k_asm); (case qzm => k_mem); (case qzd => k_asm); (case qzk => exact intKind_is _ _ _ _); (case qzl => first | assumption | exact valueAt_stored _ _ _ | exact rfl); k_whole))) | fail)
  k_with "setItem ref" => (first | ((k_here; (with_reducible first | show wpAny _ _ (setItem (Value.ref _) (Value.str _ _) _) _ _ _ | show wpAny _ _ (setItem (Value.ref _) (Value.int _ _) _) _ _ _); k_dflt (first | (refine' kda_set (knd := PySem.strKind _ _) ?qzF ?qzN ?qzU ?qzd ?qzk ?qzz ?_; (case qzF => k_asm); (case qzN => k_asm); (case qzU => k_updF); (case qzd => k_asm); (case qzk => exact strKind_is _ _ _ _); (case qzz => exact line64 (by assumption)); k_whole) | (refine' kda_set (knd := PySem.intKind _ _) ?qzF ?qzN ?qzU ?qzd ?qzk ?qzz ?_; (case qzF => k_asm); (case qzN => k_asm); (case qzU => k_updF); (case qzd => k_asm); (case qzk => exact intKind_is _ _ _ _); (case qzz => exact line64 (by assumption)); k_whole)); intro h' o' F' N' hd'; (try dsimp only at N')); (try revert hd'); (try revert N'); (try revert F'); (try revert o'); (try revert h'); intros) | fail)
  k_with "compareOp In str ref" => (first | (k_here; (with_reducible show wpAny _ _ (compareOp CmpOp.In (Value.str _ _) (Value.ref _)) _ _ _); k_dflt (refine' in_tuple_strs ?qzk1 ?qzk2 ?_; (case qzk1 => exact tupK (Frag.In.keeps (by k_asm) (Fr.keep (by k_asm))) (by k_is)); (case qzk2 => kde_strs); k_whole)) | fail)
  k_with "compareOp NotIn str ref" => (first | (k_here; (with_reducible show wpAny _ _ (compareOp CmpOp.NotIn (Value.str _ _) (Value.ref _)) _ _ _); k_dflt (refine' notin_tuple_strs ?qzk1 ?qzk2 ?_; (case qzk1 => exact tupK (Frag.In.keeps (by k_asm) (Fr.keep (by k_asm))) (by k_is)); (case qzk2 => kde_strs); k_whole)) | fail)
  k_with "call ref" => (first | ((k_here; (with_reducible show wpAny _ _ (call (Value.ref 63) _) _ _ _); k_dflt (refine' wp_up (mk_io (gd := _) ?qzB ?qzF ?qzX ?qzN ?qzT ?qzhf ?qzhk ?_) rfl (Nat.le_of_ble_eq_true rfl) rfl rfl (Nat.le_of_ble_eq_true rfl); (case qzB => k_asm); (case qzF => k_asm); (case qzX => k_asm); (case qzN => k_asm); (case qzT => k_asm); (case qzhf => exact rfl); (case qzhk => exact rfl)); intro h' tk' e' t' od' F' N' l'); (try revert l'); (try revert N'); (try revert F'); (try revert od'); (try revert t'); (try revert e'); (try revert tk'); (try revert h'); intros) | fail)
  k_with "call ref" => (first | ((k_here; (with_reducible show wpAny _ _ (call (Value.ref 82) _) _ _ _); k_dflt (refine' wp_up (mk_end (gd := _) ?qzB ?qzF ?qzX ?qzN ?qzT ?qzhf ?qzhk ?_) rfl (Nat.le_of_ble_eq_true rfl) rfl rfl (Nat.le_of_ble_eq_true rfl); (case qzB => k_asm); (case qzF => k_asm); (case qzX => k_asm); (case qzN => k_asm); (case qzT => k_asm); (case qzhf => exact rfl); (case qzhk => exact rfl)); intro h' tk' e' t' od' F' N' l'); (try revert l'); (try revert N'); (try revert F'); (try revert od'); (try revert t'); (try revert e'); (try revert tk'); (try revert h'); intros) | fail)
  k_with "call ref" => (first | ((k_here; (with_reducible show wpAny _ _ (call (Value.ref 44) _) _ _ _); k_dflt (refine' wp_up (mk_check (gd := _) ?qzB ?qzF ?qzX ?qzN ?qzT ?qzhf ?qzhk ?_) rfl (Nat.le_of_ble_eq_true rfl) rfl rfl (Nat.le_of_ble_eq_true rfl); (case qzB => k_asm); (case qzF => k_asm); (case qzX => k_asm); (case qzN => k_asm); (case qzT => k_asm); (case qzhf => exact rfl); (case qzhk => exact rfl)); intro h' tk' e' t' od' F' N' l'); (try revert l'); (try revert N'); (try revert F'); (try revert od'); (try revert t'); (try revert e'); (try revert tk'); (try revert h'); intros) | fail)
  k_with "call ref" => (first | ((k_here; (with_reducible show wpAny _ _ (call (Value.ref 147) [Value.int _ _, Value.ref _, Value.str _ _]) _ _ _); k_dflt (refine' wp_up (unit_new (gd := _) ?qzB ?qzF ?qzX ?qzN ?qzT ?qzhf ?qzhk ?_) rfl (Nat.le_of_ble_eq_true rfl) rfl rfl (Nat.le_of_ble_eq_true rfl); (case qzB => k_asm); (case qzF => k_asm); (case qzX => k_asm); (case qzN => k_asm); (case qzT => k_asm); (case qzhf => exact rfl); (case qzhk => exact rfl)); intro ua' uda' od' h' tk' hD' l1' l2' F' N'; (try k_lt l1')); (try revert N'); (try revert F'); (try revert l2'); (try revert l1'); (try revert hD'); (try revert tk'); (try revert h'); (try revert od'); (try revert uda'); (try revert ua'); intros) | fail)
  k_with "call ref" => (first | ((k_here; (with_reducible show wpAny _ _ (call (Value.ref 105) [Value.str _ _, Value.str _ _, Value.str _ _, Value.int _ _]) _ _ _); k_dflt (refine' wp_up (file_new (gd := _) ?qzB ?qzF ?qzX ?qzN ?qzT ?qzhf ?qzhk ?_) rfl (Nat.le_of_ble_eq_true rfl) rfl rfl (Nat.le_of_ble_eq_true rfl); (case qzB => k_asm); (case qzF => k_asm); (case qzX => k_asm); (case qzN => k_asm); (case qzT => k_asm); (case qzhf => exact rfl); (case qzhk => exact rfl)); intro fa' fda' od' ra' h' tk' hD' l1' l2' l3' F' N'; (try k_lt l1')); (try revert N'); (try revert F'); (try revert l3'); (try revert l2'); (try revert l1'); (try revert hD'); (try revert tk'); (try revert h'); (try revert ra'); (try revert od'); (try revert fda'); (try revert fa'); intros) | fail)
  k_with "exec Raise some none" => (first | (k_here; (with_reducible show wpAny _ _ (exec (Stmt.Raise (some (Expr.Call (Expr.Name (Str.ofString "IoFault") _) _ _ _)) none _) _) _ _ _); k_dflt (refine' raise_at (C := 63) ?qzX ?qzh ?qzq ?_; (case qzX => k_asm); (case qzh => rfl); (case qzq => with_unfolding_all rfl); k_whole)) | fail)
  k_with "exec Raise some none" => (first | (k_here; (with_reducible show wpAny _ _ (exec (Stmt.Raise (some (Expr.Call (Expr.Name (Str.ofString "EndFault") _) _ _ _)) none _) _) _ _ _); k_dflt (refine' raise_at (C := 82) ?qzX ?qzh ?qzq ?_; (case qzX => k_asm); (case qzh => rfl); (case qzq => with_unfolding_all rfl); k_whole)) | fail)
  k_with "exec Raise some none" => (first | (k_here; (with_reducible show wpAny _ _ (exec (Stmt.Raise (some (Expr.Call (Expr.Name (Str.ofString "CheckFault") _) _ _ _)) none _) _) _ _ _); k_dflt (refine' raise_at (C := 44) ?qzX ?qzh ?qzq ?_; (case qzX => k_asm); (case qzh => rfl); (case qzq => with_unfolding_all rfl); k_whole)) | fail)
  k_with "Thrown" => (first | (k_here; k_dflt (refine' thrown_of ?qzF ?qzX ?qzN ?_; (case qzF => k_asm); (case qzX => k_asm); (case qzN => k_asm))) | fail)
  k_with "leaving ref" => (first | ((k_here; k_dflt (refine' leave_own ?qzK ?qzF ?qzN ?qzl ?_ ?qzh; (case qzh => rfl); (case qzK => assumption); (case qzF => k_asm); (case qzN => k_asm); (case qzl => assumption); k_whole); intro h' R' U'; (try dsimp only at R' U' ⊢)); (try revert U'); (try revert R'); (try revert h'); intros) | fail)
  trivial
section
theorem words_Uof : True := by
  k_with "exec For" => (first | (k_here; k_dflt (refine' For_own ?qzF ?_ ?qzx ?qzp ?qzs ?qze; (case qzF => k_asm); (case qzx => rfl); (case qzp => rfl); (case qzs => intro _; rfl); (case qze => passes_own); k_whole)) | fail)
  k_with "exec For Name Call cons nil" => (first | (k_here; k_dflt (refine' For_own ?qzF ?_ ?qzx ?qzp ?qzs ?qze; (case qzF => k_asm); (case qzx => rfl); (case qzp => rfl); (case qzs => intro _; rfl); (case qze => passes_own); k_whole)) | fail)
  k_with "call builtin:sorted" => (first | ((k_here; k_dflt (refine' sorted_ints ?qzhh ?qzF ?qzN ?qzm ?qzd ?qzlo ?qzn ?_; (case qzhh => rfl); (case qzF => k_asm); (case qzN => k_asm); (case qzm => k_mem); (case qzd => k_asm); (case qzlo => exact lo_of (by k_asm) (by k_asm) (by k_mem)); (case qzn => assumption); k_whole); intro D' h' tk' out' n' ns' F' N' l1 hI' hP' hS'); (try revert hS'); (try revert hP'); (try revert hI'); (try revert l1); (try revert N'); (try revert F'); (try revert ns'); (try revert n'); (try revert out'); (try revert tk'); (try revert h'); (try revert D'); intros) | fail)
  trivial
section
variable {w : World} {gd : Option (List Code)} {env : Env} {outer : List Env} {A₀ : Around} {base h₀ : Heap} {L : Addr} {m mg mb : Str → Option Value} {mean : ExcName → Option Value} {s : Shared} {Q E : Value → Shared → Prop}
    {news : List (Addr × Obj)} {ud : Addr} {uo : Obj} {kvU : List (Int × Value)} {nmOf : Int → Str} {name : Str} {tn : Tok}
theorem uof_any (B : Below A₀ base outer h₀) (F : Fr h₀ L s.heap m) (X : (hd.heap_1 w.params).In h₀) (N : News h₀ L s.heap news) (T : Top view (looseW view []) mean mg mb h₀)
    (hf : env.frame = some L) (hk : env.scope.kind = .function) (hm : (ud, uo) ∈ news) (hd : uo.IsDictOf (PySem.intKind P0 w) kvU) (hl : kvU.length < 64) (hU : ∀ k v, (k, v) ∈ kvU → URead news v k (nmOf k))
    (none_ : (∀ k v, (k, v) ∈ kvU → nmOf k ≠ name) → ∀ h' tk, Fr h₀ L h' m → News h₀ L h' news → Q .none { s with heap := h', toks := tk })
    (some_ : (∃ k v, (k, v) ∈ kvU ∧ nmOf k = name) → ∀ a h' tk, Fr h₀ L h' m → News h₀ L h' news → Q (.ref a) { s with heap := h', toks := tk }) :
    wpAny (model P0 w) (At 600 2000 gd env outer) (call (.ref 186) [.ref ud, .str name tn]) Q E s := (by exact kept : Kept _ (by
  refine wpAny_call ?_
  k_dflt k_enter
  k_steps
  rename IntsAre _ _ => hI
  rename List.Perm _ _ => hP
  rename_i D0 _ _ out0 n0 ns0 _ _ l1 _
  have hnd : (kvU.map (·.1)).Nodup := hd.choose_spec.choose_spec.2.2.2.2
  refine loop_list (y := Str.ofString "number") (fun i nx => nx = news ∧ ∀ j n, j < i → ns0[j]? = some n → nmOf n ≠ name) rfl (by k_asm) (by k_asm) ⟨rfl, fun j n hj => absurd hj (Nat.not_lt_zero _)⟩ (fun i v u nx I oI h9 tk9 hv hJ hI9 hl9 F9 N9 => ?_) (fun u nx h9 tk9 hJ F9 N9 => ?_)
  · obtain ⟨rfl, hJ⟩ := hJ
    obtain ⟨n, t, rfl, hn⟩ := ints_at hI hv
    obtain ⟨⟨k, v⟩, hkv, rfl⟩ := List.mem_map.mp (hP.mem_iff.mp (List.mem_of_getElem? hn))
    dsimp only at hn F9
    have hval := valueAt_mem hnd hkv
    obtain ⟨ua, uda, od, fa, pl, fda, fod, ra, rfl, m1, m2, ⟨a0, a1, a2, a3, b0, b1, b2, b3, b4, b5, b6, b7, rfl⟩, m3, m4, ⟨c0, c1, c2, c3, c4, c5, e0, e1, e2, e3, e4, e5, e6, e7, e8, e9, na, nn, rfl⟩⟩ := hU k v hkv
    k_steps
    · exact some_ ⟨k, _, hkv, beq_iff_eq.mp (by assumption)⟩ _ _ _ (by k_asm) (news_tl (news_tl (by k_asm)))
    · rename (nmOf k == name) = false => hne
      refine ⟨_, _, _, nx, rfl, by k_asm, fun z h1 h2 => off2 h1 h2, by k_asm, hI9, rfl, fun j n' hj hn' => ?_⟩
      by_cases hji : j < i
      · exact hJ j n' hji hn'
      · obtain rfl : j = i := by omega
        rw [hn] at hn'
        obtain rfl := Option.some.inj hn'
        intro e
        rw [e, beq_self_eq_true] at hne
        cases hne
  · obtain ⟨rfl, hJ⟩ := hJ
    k_steps
    refine none_ (fun k v hkv => ?_) _ _ (by k_asm) (by k_asm)
    obtain ⟨j, hj, e⟩ := List.mem_iff_getElem.mp (hP.mem_iff.mpr (List.mem_map_of_mem hkv))
    have hs := hI.length
    rw [Array.length_toList] at hs
    exact hJ j k (by omega) (by rw [List.getElem?_eq_getElem hj, e])))
end
end
section
section
variable {w : World} {gd : Option (List Code)} {env : Env} {outer : List Env} {A₀ : Around} {base h₀ : Heap} {L : Addr} {m mg mb : Str → Option Value} {mean : ExcName → Option Value} {s : Shared} {Q E : Value → Shared → Prop}
    {news : List (Addr × Obj)} {d : Addr} {o : Obj} {kvs : List (Str × Value)} {told : Str} {t t1 t2 : Tok}
theorem status_any (B : Below A₀ base outer h₀) (F : Fr h₀ L s.heap m) (X : (hd.heap_1 w.params).In h₀) (N : News h₀ L s.heap news) (T : Top view (looseW view []) mean mg mb h₀)
    (hf : env.frame = some L) (hk : env.scope.kind = .function) (hm : (d, o) ∈ news) (hd : o.IsDictOf (PySem.strKind P0 w) kvs) (hv : valueAt kvs (Str.ofString "STATUS") = some (.str told t))
    (ht : told = Str.ofString "UNKNOWN" ∨ told = Str.ofString "NEW" ∨ told = Str.ofString "OLD" ∨ told = Str.ofString "SCRATCH")
    (ret : ∀ tv h' tk, Fr h₀ L h' m → News h₀ L h' news → Q (.str told tv) { s with heap := h', toks := tk }) :
    wpAny (model P0 w) (At 600 2000 gd env outer) (call (.ref 158) [.ref d, .str (Str.ofString "STATUS") t1, .str (Str.ofString "UNKNOWN") t2, .ref 85]) Q E s := (by exact kept : Kept _ (by
  refine wpAny_call ?_
  rcases ht with rfl | rfl | rfl | rfl
  all_goals
    k_dflt k_enter
    k_steps
    refine ret _ _ _ ?_ ?_ <;> k_asm))
end
end
section
section
variable {w : World} {gd : Option (List Code)} {env : Env} {outer : List Env} {A₀ : Around} {base h₀ : Heap} {L : Addr} {m mg mb : Str → Option Value} {mean : ExcName → Option Value} {s : Shared} {Q E : Value → Shared → Prop}
    {news : List (Addr × Obj)} {d : Addr} {o : Obj} {kvs : List (Str × Value)}
theorem sort_any (B : Below A₀ base outer h₀) (F : Fr h₀ L s.heap m) (X : (hd.heap_1 w.params).In h₀) (N : News h₀ L s.heap news) (T : Top view (looseW view []) mean mg mb h₀)
    (hf : env.frame = some L) (hk : env.scope.kind = .function) (hm : (d, o) ∈ news) (hd : o.IsDictOf (PySem.strKind P0 w) kvs)
    (h1 : valueAt kvs (Str.ofString "ACCESS") = none) (h2 : valueAt kvs (Str.ofString "FORM") = none) (h3 : valueAt kvs (Str.ofString "RECL") = none) (h4 : valueAt kvs (Str.ofString "BLANK") = none)
    (ret : ∀ tp t0 t1 t2 h' tk, Fr h₀ L h' m → News h₀ L h' ((tp, { cls := .type "tuple", data := .seq [Value.str (Str.ofString "SEQUENTIAL") t0, Value.str (Str.ofString "FORMATTED") t1, Value.int 0 t2].toArray }) :: news) → (∀ p ∈ news, p.1 < tp) → Q (.ref tp) { s with heap := h', toks := tk }) :
    wpAny (model P0 w) (At 600 2000 gd env outer) (call (.ref 172) [.ref d]) Q E s := (by exact kept : Kept _ (by
  refine wpAny_call ?_
  k_dflt k_enter
  k_steps
  refine' ret _ _ _ _ _ _ ?a ?b ?c
  (case a => assumption)
  (case b => assumption)
  (case c => assumption)))
end
end
section
section
variable {w : World} {gd : Option (List Code)} {env : Env} {outer : List Env} {A₀ : Around} {base h₀ : Heap} {L : Addr} {m mg mb : Str → Option Value} {mean : ExcName → Option Value} {s : Shared} {Q E : Value → Shared → Prop}
    {news : List (Addr × Obj)} {d : Addr} {o : Obj} {kvs : List (Str × Value)} {nm : Str} {t : Tok}
theorem name_any (B : Below A₀ base outer h₀) (F : Fr h₀ L s.heap m) (X : (hd.heap_1 w.params).In h₀) (N : News h₀ L s.heap news) (T : Top view (looseW view []) mean mg mb h₀)
    (hf : env.frame = some L) (hk : env.scope.kind = .function) (hm : (d, o) ∈ news) (hd : o.IsDictOf (PySem.strKind P0 w) kvs) (hv : valueAt kvs (Str.ofString "FILE") = some (.str nm t))
    (ht : nm = Str.ofString "A" ∨ nm = Str.ofString "B" ∨ nm = Str.ofString "FORT.1" ∨ nm = Str.ofString "FORT.2" ∨ nm = Str.ofString "FORT.3")
    (ret : ∀ tv h' tk, Fr h₀ L h' m → News h₀ L h' news → Q (.str nm tv) { s with heap := h', toks := tk }) :
    wpAny (model P0 w) (At 600 2000 gd env outer) (call (.ref 165) [.ref d]) Q E s := (by exact kept : Kept _ (by
  refine wpAny_call ?_
  rcases ht with rfl | rfl | rfl | rfl | rfl
  all_goals
    k_dflt k_enter
    k_steps
    refine ret _ _ _ ?_ ?_ <;> k_asm))
end
end
section
theorem words_Found : True := by
  k_with "subscriptTail Name Constant ref int" => (first | (first | k_extra "subscriptTail" | (k_here; k_dflt (refine' item_tupleT ?qzt ?qza ?qzb ?qzc ?qzd ?_; (case qzt => exact News.isTup (by k_asm) (by k_mem)); (case qza => decide); (case qzb => decide); (case qzc => rfl); (case qzd => rfl); k_whole))) | fail)
  trivial
section
variable {w : World} {gd : Option (List Code)} {env : Env} {outer : List Env} {A₀ : Around} {base h₀ : Heap} {L : Addr} {m mg mb : Str → Option Value} {mean : ExcName → Option Value} {s : Shared} {Q E : Value → Shared → Prop}
    {R : List (Addr × Obj)} {fd sa sda tp : Addr} {fo : Obj} {kvF : List (Str × Value)} {name told : Str} {t1 t2 u0 u1 u2 st : Tok} {hh : Int} {sn : Nat}
/-- what found_file gives: the file, the objects it made, the dict of files behind it -/
def FoundW (told name : Str) (Rk : List (Addr × Obj)) (kvF kvF' : List (Str × Value)) (fo fo' : Obj) (fa : Addr) (Y : List (Addr × Obj)) : Prop :=
  (told ≠ Str.ofString "SCRATCH" ∧ valueAt kvF name = some (.ref fa) ∧ told ≠ Str.ofString "NEW" ∧ Y = [] ∧ kvF' = kvF ∧ fo' = fo) ∨
  (∃ fda od ra nm, Y = [(fa, instObj 105 fda), (fda, od), (ra, listOf #[] 0)] ∧ FileD od nm ra ∧ (∀ p ∈ Rk, @LT.lt Nat _ p.1 fda) ∧ @LT.lt Nat _ fda fa ∧ @LT.lt Nat _ fa ra ∧
    ((told = Str.ofString "SCRATCH" ∧ nm = Str.ofString "" ∧ kvF' = kvF ∧ fo' = fo) ∨ (told ≠ Str.ofString "SCRATCH" ∧ nm = name ∧ valueAt kvF name = none ∧ told ≠ Str.ofString "OLD" ∧ kvF' = stored kvF name (.ref fa))))
theorem FoundW.sub {told name : Str} {Rk Rk' : List (Addr × Obj)} {kvF kvF' : List (Str × Value)} {fo fo' : Obj} {fa : Addr} {Y : List (Addr × Obj)} (h : FoundW told name Rk kvF kvF' fo fo' fa Y) (hs : ∀ p ∈ Rk', p ∈ Rk) : FoundW told name Rk' kvF kvF' fo fo' fa Y := by
  rcases h with h | ⟨fda, od, ra, nm, h1, h2, h3, h4⟩
  · exact .inl h
  · exact .inr ⟨fda, od, ra, nm, h1, h2, fun p hp => h3 p (hs p hp), h4⟩
theorem FoundW.above {told name : Str} {Rk : List (Addr × Obj)} {kvF kvF' : List (Str × Value)} {fo fo' : Obj} {fa : Addr} {Y : List (Addr × Obj)} (h : FoundW told name Rk kvF kvF' fo fo' fa Y) : ∀ p ∈ Y, ∀ q ∈ Rk, @LT.lt Nat _ q.1 p.1 := by
  rcases h with ⟨-, -, -, rfl, -⟩ | ⟨fda, od, ra, nm, rfl, -, h3, h4, h5, -⟩
  · exact fun _ hp => nomatch hp
  · intro p hp q hq
    have := h3 q hq
    simp only [List.mem_cons, List.not_mem_nil, or_false] at hp
    rcases hp with rfl | rfl | rfl <;> dsimp only <;> omega
theorem found_any (B : Below A₀ base outer h₀) (F : Fr h₀ L s.heap m) (X : (hd.heap_1 w.params).In h₀) (N : News h₀ L s.heap ((fd, fo) :: R)) (T : Top view (looseW view []) mean mg mb h₀)
    (hf : env.frame = some L) (hk : env.scope.kind = .function) (hfd : fo.IsDictOf (PySem.strKind P0 w) kvF) (hl : kvF.length < 64) (hR : ∀ p ∈ R, p.1 ≠ fd)
    (hsa : (sa, instObj 126 sda) ∈ R) (hsda : (sda, dictOf [⟨hh, .str (Str.ofString "files") st, .ref fd⟩] sn) ∈ R)
    (htp : (tp, ({ cls := .type "tuple", data := .seq [Value.str (Str.ofString "SEQUENTIAL") u0, Value.str (Str.ofString "FORMATTED") u1, Value.int 0 u2].toArray } : Obj)) ∈ R)
    (hF : ∀ v, valueAt kvF name = some v → ∃ fa fda od ra, v = .ref fa ∧ (fa, instObj 105 fda) ∈ R ∧ (fda, od) ∈ R ∧ FileD od name ra)
    (ret : ∀ fa Y fo' kvF' h' tk, FoundW told name ((fd, fo) :: R) kvF kvF' fo fo' fa Y → fo'.IsDictOf (PySem.strKind P0 w) kvF' → Fr h₀ L h' m → News h₀ L h' ((fd, fo') :: (Y ++ R)) → Q (.ref fa) { s with heap := h', toks := tk })
    (raised : ∀ G h' tk e, told ≠ Str.ofString "SCRATCH" → ((∃ v, valueAt kvF name = some v) ∧ told = Str.ofString "NEW") ∨ (valueAt kvF name = none ∧ told = Str.ofString "OLD") → Fr h₀ L G m → RaisedSN base G (env :: outer) e (.ref 63) ((fd, fo) :: R) h' → G.UpToSlots h' → E (.ref e) { s with heap := h', toks := tk }) :
    wpAny (model P0 w) (At 600 2000 gd env outer) (call (.ref 193) [.ref sa, .str name t1, .str told t2, .ref tp]) Q E s := (by exact kept : Kept _ (by
  refine wpAny_call ?_
  cases hv : valueAt kvF name with
  | none =>
    k_dflt k_enter
    k_steps
    · refine' ret _ _ _ _ _ _ (Or.inr ⟨_, _, _, _, rfl, (by assumption), ?l1, ?l3, ?l4, Or.inl ⟨beq_iff_eq.mp (by assumption), rfl, rfl, rfl⟩⟩) hfd ?F (close_new ?N)
      (case N => k_asm)
      (case F => k_asm)
      (case l1 => exact allLt_all (l := (fd, fo) :: R) (by assumption))
      (case l3 => omega)
      (case l4 => omega)
    · exact raised _ _ _ _ (beq_ne (by assumption)) (.inr ⟨hv, beq_iff_eq.mp (by assumption)⟩) (by assumption) (by assumption) (by assumption)
    · refine' ret _ _ _ _ _ _ (Or.inr ⟨_, _, _, _, rfl, (by assumption), ?l1, ?l3, ?l4, Or.inr ⟨beq_ne (by assumption), rfl, hv, beq_ne (by assumption), rfl⟩⟩) ?d ?F (close_new ?N)
      (case N => k_asm)
      (case F => k_asm)
      (case d => assumption)
      (case l1 => exact allLt_all (l := (fd, fo) :: R) (by assumption))
      (case l3 => omega)
      (case l4 => omega)
  | some v =>
    obtain ⟨fa, fda, od, ra, rfl, m1, m2, ⟨c0, c1, c2, c3, c4, c5, e0, e1, e2, e3, e4, e5, e6, e7, e8, e9, na, nn, rfl⟩⟩ := hF v hv
    k_dflt k_enter
    k_steps
    · refine' ret _ _ _ _ _ _ (Or.inr ⟨_, _, _, _, rfl, (by assumption), ?l1, ?l3, ?l4, Or.inl ⟨beq_iff_eq.mp (by assumption), rfl, rfl, rfl⟩⟩) hfd ?F (close_new ?N)
      (case N => k_asm)
      (case F => k_asm)
      (case l1 => exact allLt_all (l := (fd, fo) :: R) (by assumption))
      (case l3 => omega)
      (case l4 => omega)
    · exact raised _ _ _ _ (beq_ne (by assumption)) (.inl ⟨⟨_, hv⟩, beq_iff_eq.mp (by assumption)⟩) (by assumption) (by assumption) (by assumption)
    · refine' ret _ _ _ _ _ _ (Or.inl ⟨beq_ne (by assumption), hv, beq_ne (by assumption), rfl, rfl, rfl⟩) hfd ?F (news_tl ?N)
      (case N => k_asm)
      (case F => k_asm)))
end
end
theorem words_pre2 : True := by
  k_with "call ref" => (first | ((k_here; (with_reducible show wpAny _ _ (call (Value.ref 158) [Value.ref _, Value.str (Str.ofString "STATUS") _, Value.str (Str.ofString "UNKNOWN") _, Value.ref 85]) _ _ _); k_dflt (refine' wp_up (status_any (gd := _) ?qzB ?qzF ?qzX ?qzN ?qzT ?qzhf ?qzhk ?qzhm ?qzhd ?qzhv ?qzht ?_) rfl (Nat.le_of_ble_eq_true rfl) rfl rfl (Nat.le_of_ble_eq_true rfl); (case qzF => k_asm); (case qzX => k_asm); (case qzN => k_asm); (case qzT => k_asm); (case qzB => k_asm); (case qzhf => exact rfl); (case qzhk => exact rfl); (case qzhm => k_mem); (case qzhd => k_asm); (case qzhv => k_asm); (case qzht => k_asm)); intro tv' h' tk' F' N'); (try revert N'); (try revert F'); (try revert tk'); (try revert h'); (try revert tv'); intros) | fail)
  k_with "call ref" => (first | ((k_here; (with_reducible show wpAny _ _ (call (Value.ref 172) [Value.ref _]) _ _ _); k_dflt (refine' wp_up (sort_any (gd := _) ?qzB ?qzF ?qzX ?qzN ?qzT ?qzhf ?qzhk ?qzhm ?qzhd ?qzh1 ?qzh2 ?qzh3 ?qzh4 ?_) rfl (Nat.le_of_ble_eq_true rfl) rfl rfl (Nat.le_of_ble_eq_true rfl); (case qzF => k_asm); (case qzX => k_asm); (case qzN => k_asm); (case qzT => k_asm); (case qzB => k_asm); (case qzhf => exact rfl); (case qzhk => exact rfl); (case qzhm => k_mem); (case qzhd => k_asm); (case qzh1 => k_asm); (case qzh2 => k_asm); (case qzh3 => k_asm); (case qzh4 => k_asm)); intro tp' t0' t1' t2' h' tk' F' N' l1; (try k_lt l1)); (try revert l1); (try revert N'); (try revert F'); (try revert tk'); (try revert h'); (try revert t2'); (try revert t1'); (try revert t0'); (try revert tp'); intros) | fail)
  k_with "call ref" => (first | ((k_here; (with_reducible show wpAny _ _ (call (Value.ref 165) [Value.ref _]) _ _ _); k_dflt (refine' wp_up (name_any (gd := _) ?qzB ?qzF ?qzX ?qzN ?qzT ?qzhf ?qzhk ?qzhm ?qzhd ?qzhv ?qzht ?_) rfl (Nat.le_of_ble_eq_true rfl) rfl rfl (Nat.le_of_ble_eq_true rfl); (case qzF => k_asm); (case qzX => k_asm); (case qzN => k_asm); (case qzT => k_asm); (case qzB => k_asm); (case qzhf => exact rfl); (case qzhk => exact rfl); (case qzhm => k_mem); (case qzhd => k_asm); (case qzhv => k_asm); (case qzht => k_asm)); intro tv' h' tk' F' N'); (try revert N'); (try revert F'); (try revert tk'); (try revert h'); (try revert tv'); intros) | fail)
  k_with "call ref" => (first | (k_here; (with_reducible show wpAny _ _ (call (Value.ref 186) _) _ _ _); refine hold ?_) | fail)
  k_with "call ref" => (first | (k_here; (with_reducible show wpAny _ _ (call (Value.ref 193) _) _ _ _); refine hold ?_) | fail)
  k_with "leaving ref" => (first | ((k_here; k_dflt (refine' leave_onSN ?qzK ?qzF ?qzR ?qzU ?_; (case qzR => assumption); (case qzK => assumption); (case qzF => assumption); (case qzU => assumption); k_whole); intro h' R' _ U'; (try dsimp only at R' U' ⊢)); (try revert U'); (try revert R'); (try revert h'); intros) | fail)
  trivial
section
section
variable {w : World} {gd : Option (List Code)} {env : Env} {outer : List Env} {A₀ : Around} {base h₀ : Heap} {L : Addr} {m mg mb : Str → Option Value} {mean : ExcName → Option Value} {s : Shared} {Q E : Value → Shared → Prop}
    {R : List (Addr × Obj)} {fd ud sa sda wd : Addr} {fo uo wo : Obj} {kvF : List (Str × Value)} {kvU : List (Int × Value)} {kvW : List (Str × Value)} {nmOf : Int → Str} {told : Str} {num : Int} {tn st wt : Tok} {hh : Int} {sn : Nat}
theorem openA_absent (B : Below A₀ base outer h₀) (F : Fr h₀ L s.heap m) (X : (hd.heap_1 w.params).In h₀) (N : News h₀ L s.heap ((ud, uo) :: (fd, fo) :: R)) (T : Top view (looseW view []) mean mg mb h₀)
    (hf : env.frame = some L) (hk : env.scope.kind = .function) (hud : uo.IsDictOf (PySem.intKind P0 w) kvU) (hfd : fo.IsDictOf (PySem.strKind P0 w) kvF) (hwd : wo.IsDictOf (PySem.strKind P0 w) kvW)
    (hlU : kvU.length < 64) (hlF : kvF.length < 64) (hR1 : ∀ p ∈ R, p.1 ≠ ud) (hR2 : ∀ p ∈ R, p.1 ≠ fd) (hne : @Ne Nat ud fd)
    (hsa : (sa, instObj 126 sda) ∈ R) (hsda : (sda, dictOf [⟨hh, .str (Str.ofString "files") st, .ref fd⟩] sn) ∈ R) (hwm : (wd, wo) ∈ R)
    (hv : valueAt kvW (Str.ofString "STATUS") = some (.str told wt)) (h0 : valueAt kvW (Str.ofString "FILE") = none)
    (h1 : valueAt kvW (Str.ofString "ACCESS") = none) (h2 : valueAt kvW (Str.ofString "FORM") = none) (h3 : valueAt kvW (Str.ofString "RECL") = none) (h4 : valueAt kvW (Str.ofString "BLANK") = none)
    (ht : told = Str.ofString "UNKNOWN" ∨ told = Str.ofString "NEW" ∨ told = Str.ofString "OLD" ∨ told = Str.ofString "SCRATCH")
    (hn0 : 0 ≤ num) (hn1 : num < 10) (hU : ∀ k v, (k, v) ∈ kvU → URead R v k (nmOf k))
    (hF : ∀ nm v, valueAt kvF nm = some v → ∃ fa fda od ra, v = .ref fa ∧ (fa, instObj 105 fda) ∈ R ∧ (fda, od) ∈ R ∧ FileD od nm ra)
    (hab : valueAt kvU num = none)
    (ret : ∀ ua uda od fa Y uo' fo' kvF' h' tk, FoundW told (fort num) ((ud, uo) :: (fd, fo) :: R) kvF kvF' fo fo' fa Y → fo'.IsDictOf (PySem.strKind P0 w) kvF' → uo'.IsDictOf (PySem.intKind P0 w) (stored kvU num (.ref ua)) → UnitD od num fa 0 →
      (∀ p ∈ Y ++ R, @LT.lt Nat _ p.1 uda) → @LT.lt Nat _ ud uda → @LT.lt Nat _ fd uda → @LT.lt Nat _ uda ua → (told ≠ Str.ofString "SCRATCH" → ∀ k v, (k, v) ∈ kvU → nmOf k ≠ (fort num)) →
      Fr h₀ L h' m → News h₀ L h' ((ua, instObj 147 uda) :: (uda, od) :: (ud, uo') :: (fd, fo') :: (Y ++ R)) → Q (.ref ua) { s with heap := h', toks := tk })
    (raised : ∀ G h' tk e, told ≠ Str.ofString "SCRATCH" → ((∃ k v, (k, v) ∈ kvU ∧ nmOf k = (fort num)) ∨ ((∀ k v, (k, v) ∈ kvU → nmOf k ≠ (fort num)) ∧ (((∃ v, valueAt kvF (fort num) = some v) ∧ told = Str.ofString "NEW") ∨ (valueAt kvF (fort num) = none ∧ told = Str.ofString "OLD")))) →
      Fr h₀ L G m → RaisedSN base G (env :: outer) e (.ref 63) ((ud, uo) :: (fd, fo) :: R) h' → G.UpToSlots h' → E (.ref e) { s with heap := h', toks := tk }) :
    wpAny (model P0 w) (At 500 1500 gd env outer) (call (.ref 207) [.ref sa, .ref ud, .int num tn, .ref wd]) Q E s := (by exact kept : Kept _ (by
  refine wpAny_call ?_
  k_dflt k_enter
  k_steps
  · exact (str_both (by assumption) (by assumption)).elim
  · rename (told == Str.ofString "SCRATCH") = true => hS
    have hS := beq_iff_eq.mp hS
    refine held (wp_up (found_any (gd := _) (by k_asm) (by k_asm) (by k_asm) (news_rot3 (by k_asm)) (by k_asm) rfl rfl hfd hlF (by first | exact List.forall_mem_cons.mpr ⟨by k_ne, List.forall_mem_cons.mpr ⟨hne, hR2⟩⟩ | k_all) (by k_mem) (by k_mem) (by k_mem) (fun v hv => ?_) (fun fa Y fo' kvF' h9 tk9 W hd9 F9 N9 => ?_) (fun G h9 tk9 e hns => (hns hS).elim)) rfl (Nat.le_of_ble_eq_true rfl) rfl rfl (Nat.le_of_ble_eq_true rfl))
    · obtain ⟨fa, fda, od, ra, e, m1, m2, f⟩ := hF _ v hv
      exact ⟨fa, fda, od, ra, e, .tail _ (.tail _ m1), .tail _ (.tail _ m2), f⟩
    · replace N9 := news_found N9
      replace W := W.sub (Rk' := (ud, uo) :: (fd, fo) :: R) (fun p hp => by rcases List.mem_cons.mp hp with rfl | hp; exact .tail _ (.tail _ (.head _)); rcases List.mem_cons.mp hp with rfl | hp; exact .head _; exact .tail _ (.tail _ (.tail _ hp)))
      have hY := W.above
      obtain ⟨RY, hRY⟩ : ∃ RY, RY = Y ++ R := ⟨_, rfl⟩
      have q1 : ∀ p ∈ RY, p.1 ≠ ud := fun p hp => by rw [hRY] at hp; exact (List.mem_append.mp hp).elim (fun h => Nat.ne_of_gt (hY p h (ud, uo) (.head _))) (hR1 p)
      have q2 : ∀ p ∈ RY, p.1 ≠ fd := fun p hp => by rw [hRY] at hp; exact (List.mem_append.mp hp).elim (fun h => Nat.ne_of_gt (hY p h (fd, fo) (.tail _ (.head _)))) (hR2 p)
      rw [← hRY] at N9
      k_steps
      subst hRY
      refine' ret _ _ _ _ _ _ _ _ _ _ W hd9 ?u (by assumption) (allLt_all (And.right (And.right (by assumption)))) ?a ?b ?c (fun h => (h hS).elim) ?F ?N
      (case N => k_asm)
      (case F => k_asm)
      (case u => assumption)
      (case a => omega)
      (case b => omega)
      (case c => omega)
  · rename (told == Str.ofString "SCRATCH") = false => hns
    have hns := beq_ne hns
    refine held (wp_up (uof_any (gd := _) (kvU := kvU) (nmOf := nmOf) (by k_asm) (by k_asm) (by k_asm) (by k_asm) (by k_asm) rfl rfl (by k_mem) hud hlU (fun k v hkv => (hU k v hkv).mono (fun p hp => by k_mem)) (fun hno h9 tk9 F9 N9 => ?_) (fun hyes a9 h9 tk9 F9 N9 => ?_)) rfl (Nat.le_of_ble_eq_true rfl) rfl rfl (Nat.le_of_ble_eq_true rfl))
    · k_steps
      refine held (wp_up (found_any (gd := _) (by k_asm) (by k_asm) (by k_asm) (news_rot3 (by k_asm)) (by k_asm) rfl rfl hfd hlF (by first | exact List.forall_mem_cons.mpr ⟨by k_ne, List.forall_mem_cons.mpr ⟨hne, hR2⟩⟩ | k_all) (by k_mem) (by k_mem) (by k_mem) (fun v hv => ?_) (fun fa Y fo' kvF' h9 tk9 W hd9 F9 N9 => ?_) (fun G h9 tk9 e hns hc F9 R9 U9 => ?_)) rfl (Nat.le_of_ble_eq_true rfl) rfl rfl (Nat.le_of_ble_eq_true rfl))
      · obtain ⟨fa, fda, od, ra, e, m1, m2, f⟩ := hF _ v hv
        exact ⟨fa, fda, od, ra, e, .tail _ (.tail _ m1), .tail _ (.tail _ m2), f⟩
      · replace N9 := news_found N9
        replace W := W.sub (Rk' := (ud, uo) :: (fd, fo) :: R) (fun p hp => by rcases List.mem_cons.mp hp with rfl | hp; exact .tail _ (.tail _ (.head _)); rcases List.mem_cons.mp hp with rfl | hp; exact .head _; exact .tail _ (.tail _ (.tail _ hp)))
        have hY := W.above
        obtain ⟨RY, hRY⟩ : ∃ RY, RY = Y ++ R := ⟨_, rfl⟩
        have q1 : ∀ p ∈ RY, p.1 ≠ ud := fun p hp => by rw [hRY] at hp; exact (List.mem_append.mp hp).elim (fun h => Nat.ne_of_gt (hY p h (ud, uo) (.head _))) (hR1 p)
        have q2 : ∀ p ∈ RY, p.1 ≠ fd := fun p hp => by rw [hRY] at hp; exact (List.mem_append.mp hp).elim (fun h => Nat.ne_of_gt (hY p h (fd, fo) (.tail _ (.head _)))) (hR2 p)
        rw [← hRY] at N9
        k_steps
        subst hRY
        refine' ret _ _ _ _ _ _ _ _ _ _ W hd9 ?u (by assumption) (allLt_all (And.right (And.right (by assumption)))) ?a ?b ?c (fun _ => hno) ?F ?N
        (case N => k_asm)
        (case F => k_asm)
        (case u => assumption)
        (case a => omega)
        (case b => omega)
        (case c => omega)
      · k_steps
        refine raised _ _ _ _ hns (.inr ⟨hno, hc⟩) (by assumption) (raised_sub (by assumption) (fun p hp => ?_)) (by assumption)
        rcases List.mem_cons.mp hp with rfl | hp
        · k_mem
        rcases List.mem_cons.mp hp with rfl | hp
        · k_mem
        · k_mem
    · k_steps
      refine raised _ _ _ _ hns (.inl hyes) (by assumption) (raised_sub (by assumption) (fun p hp => ?_)) (by assumption)
      rcases List.mem_cons.mp hp with rfl | hp
      · k_mem
      rcases List.mem_cons.mp hp with rfl | hp
      · k_mem
      · k_mem
  · exact (str_neither (by assumption) (by assumption)).elim))
end
end
section
section
variable {w : World} {gd : Option (List Code)} {env : Env} {outer : List Env} {A₀ : Around} {base h₀ : Heap} {L : Addr} {m mg mb : Str → Option Value} {mean : ExcName → Option Value} {s : Shared} {Q E : Value → Shared → Prop}
    {R : List (Addr × Obj)} {fd ud sa sda wd : Addr} {fo uo wo : Obj} {kvF : List (Str × Value)} {kvU : List (Int × Value)} {kvW : List (Str × Value)} {nmOf : Int → Str} {told nm : Str} {nt : Tok} {num : Int} {tn st wt : Tok} {hh : Int} {sn : Nat}
theorem openB_absent (B : Below A₀ base outer h₀) (F : Fr h₀ L s.heap m) (X : (hd.heap_1 w.params).In h₀) (N : News h₀ L s.heap ((ud, uo) :: (fd, fo) :: R)) (T : Top view (looseW view []) mean mg mb h₀)
    (hf : env.frame = some L) (hk : env.scope.kind = .function) (hud : uo.IsDictOf (PySem.intKind P0 w) kvU) (hfd : fo.IsDictOf (PySem.strKind P0 w) kvF) (hwd : wo.IsDictOf (PySem.strKind P0 w) kvW)
    (hlU : kvU.length < 64) (hlF : kvF.length < 64) (hR1 : ∀ p ∈ R, p.1 ≠ ud) (hR2 : ∀ p ∈ R, p.1 ≠ fd) (hne : @Ne Nat ud fd)
    (hsa : (sa, instObj 126 sda) ∈ R) (hsda : (sda, dictOf [⟨hh, .str (Str.ofString "files") st, .ref fd⟩] sn) ∈ R) (hwm : (wd, wo) ∈ R)
    (hv : valueAt kvW (Str.ofString "STATUS") = some (.str told wt)) (h0 : valueAt kvW (Str.ofString "FILE") = some (.str nm nt))
    (h1 : valueAt kvW (Str.ofString "ACCESS") = none) (h2 : valueAt kvW (Str.ofString "FORM") = none) (h3 : valueAt kvW (Str.ofString "RECL") = none) (h4 : valueAt kvW (Str.ofString "BLANK") = none)
    (ht : told = Str.ofString "UNKNOWN" ∨ told = Str.ofString "NEW" ∨ told = Str.ofString "OLD" ∨ told = Str.ofString "SCRATCH")
    (hn0 : 0 ≤ num) (hn1 : num < 10) (hU : ∀ k v, (k, v) ∈ kvU → URead R v k (nmOf k))
    (hF : ∀ nm v, valueAt kvF nm = some v → ∃ fa fda od ra, v = .ref fa ∧ (fa, instObj 105 fda) ∈ R ∧ (fda, od) ∈ R ∧ FileD od nm ra)
    (hab : valueAt kvU num = none)
    (hnm : nm = Str.ofString "A" ∨ nm = Str.ofString "B" ∨ nm = Str.ofString "FORT.1" ∨ nm = Str.ofString "FORT.2" ∨ nm = Str.ofString "FORT.3")
    (ret : ∀ ua uda od fa Y uo' fo' kvF' h' tk, FoundW told nm ((ud, uo) :: (fd, fo) :: R) kvF kvF' fo fo' fa Y → fo'.IsDictOf (PySem.strKind P0 w) kvF' → uo'.IsDictOf (PySem.intKind P0 w) (stored kvU num (.ref ua)) → UnitD od num fa 0 →
      (∀ p ∈ Y ++ R, @LT.lt Nat _ p.1 uda) → @LT.lt Nat _ ud uda → @LT.lt Nat _ fd uda → @LT.lt Nat _ uda ua → (told ≠ Str.ofString "SCRATCH" → ∀ k v, (k, v) ∈ kvU → nmOf k ≠ nm) → told ≠ Str.ofString "SCRATCH" →
      Fr h₀ L h' m → News h₀ L h' ((ua, instObj 147 uda) :: (uda, od) :: (ud, uo') :: (fd, fo') :: (Y ++ R)) → Q (.ref ua) { s with heap := h', toks := tk })
    (raised : ∀ G h' tk e, (told = Str.ofString "SCRATCH" ∨ (∃ k v, (k, v) ∈ kvU ∧ nmOf k = nm) ∨ ((∀ k v, (k, v) ∈ kvU → nmOf k ≠ nm) ∧ (((∃ v, valueAt kvF nm = some v) ∧ told = Str.ofString "NEW") ∨ (valueAt kvF nm = none ∧ told = Str.ofString "OLD")))) →
      Fr h₀ L G m → RaisedSN base G (env :: outer) e (.ref 63) ((ud, uo) :: (fd, fo) :: R) h' → G.UpToSlots h' → E (.ref e) { s with heap := h', toks := tk }) :
    wpAny (model P0 w) (At 500 1500 gd env outer) (call (.ref 207) [.ref sa, .ref ud, .int num tn, .ref wd]) Q E s := (by exact kept : Kept _ (by
  refine wpAny_call ?_
  k_dflt k_enter
  k_steps
  · refine raised _ _ _ _ (.inl (beq_iff_eq.mp (by assumption))) (by assumption) (raised_sub (by assumption) (fun p hp => ?_)) (by assumption)
    rcases List.mem_cons.mp hp with rfl | hp
    · k_mem
    rcases List.mem_cons.mp hp with rfl | hp
    · k_mem
    · k_mem
  · rename (told == Str.ofString "SCRATCH") = false => hns
    have hns := beq_ne hns
    refine held (wp_up (uof_any (gd := _) (kvU := kvU) (nmOf := nmOf) (by k_asm) (by k_asm) (by k_asm) (by k_asm) (by k_asm) rfl rfl (by k_mem) hud hlU (fun k v hkv => (hU k v hkv).mono (fun p hp => by k_mem)) (fun hno h9 tk9 F9 N9 => ?_) (fun hyes a9 h9 tk9 F9 N9 => ?_)) rfl (Nat.le_of_ble_eq_true rfl) rfl rfl (Nat.le_of_ble_eq_true rfl))
    · k_steps
      refine held (wp_up (found_any (gd := _) (by k_asm) (by k_asm) (by k_asm) (news_rot3 (by k_asm)) (by k_asm) rfl rfl hfd hlF (by first | exact List.forall_mem_cons.mpr ⟨by k_ne, List.forall_mem_cons.mpr ⟨hne, hR2⟩⟩ | k_all) (by k_mem) (by k_mem) (by k_mem) (fun v hv => ?_) (fun fa Y fo' kvF' h9 tk9 W hd9 F9 N9 => ?_) (fun G h9 tk9 e hns hc F9 R9 U9 => ?_)) rfl (Nat.le_of_ble_eq_true rfl) rfl rfl (Nat.le_of_ble_eq_true rfl))
      · obtain ⟨fa, fda, od, ra, e, m1, m2, f⟩ := hF _ v hv
        exact ⟨fa, fda, od, ra, e, .tail _ (.tail _ m1), .tail _ (.tail _ m2), f⟩
      · replace N9 := news_found N9
        replace W := W.sub (Rk' := (ud, uo) :: (fd, fo) :: R) (fun p hp => by rcases List.mem_cons.mp hp with rfl | hp; exact .tail _ (.tail _ (.head _)); rcases List.mem_cons.mp hp with rfl | hp; exact .head _; exact .tail _ (.tail _ (.tail _ hp)))
        have hY := W.above
        obtain ⟨RY, hRY⟩ : ∃ RY, RY = Y ++ R := ⟨_, rfl⟩
        have q1 : ∀ p ∈ RY, p.1 ≠ ud := fun p hp => by rw [hRY] at hp; exact (List.mem_append.mp hp).elim (fun h => Nat.ne_of_gt (hY p h (ud, uo) (.head _))) (hR1 p)
        have q2 : ∀ p ∈ RY, p.1 ≠ fd := fun p hp => by rw [hRY] at hp; exact (List.mem_append.mp hp).elim (fun h => Nat.ne_of_gt (hY p h (fd, fo) (.tail _ (.head _)))) (hR2 p)
        rw [← hRY] at N9
        k_steps
        subst hRY
        refine' ret _ _ _ _ _ _ _ _ _ _ W hd9 ?u (by assumption) (allLt_all (And.right (And.right (by assumption)))) ?a ?b ?c (fun _ => hno) hns ?F ?N
        (case N => k_asm)
        (case F => k_asm)
        (case u => assumption)
        (case a => omega)
        (case b => omega)
        (case c => omega)
      · k_steps
        refine raised _ _ _ _ (.inr (.inr ⟨hno, hc⟩)) (by assumption) (raised_sub (by assumption) (fun p hp => ?_)) (by assumption)
        rcases List.mem_cons.mp hp with rfl | hp
        · k_mem
        rcases List.mem_cons.mp hp with rfl | hp
        · k_mem
        · k_mem
    · k_steps
      refine raised _ _ _ _ (.inr (.inl hyes)) (by assumption) (raised_sub (by assumption) (fun p hp => ?_)) (by assumption)
      rcases List.mem_cons.mp hp with rfl | hp
      · k_mem
      rcases List.mem_cons.mp hp with rfl | hp
      · k_mem
      · k_mem
  · exact (str_neither (by assumption) (by assumption)).elim))
end
end
section
section
variable {w : World} {gd : Option (List Code)} {env : Env} {outer : List Env} {A₀ : Around} {base h₀ : Heap} {L : Addr} {m mg mb : Str → Option Value} {mean : ExcName → Option Value} {s : Shared} {Q E : Value → Shared → Prop}
    {R : List (Addr × Obj)} {fd ud sa sda wd : Addr} {fo uo wo : Obj} {kvF : List (Str × Value)} {kvU : List (Int × Value)} {kvW : List (Str × Value)} {nmOf : Int → Str} {told nm : Str} {nt : Tok} {num : Int} {tn st wt : Tok} {hh : Int} {sn : Nat}
theorem openB_other (B : Below A₀ base outer h₀) (F : Fr h₀ L s.heap m) (X : (hd.heap_1 w.params).In h₀) (N : News h₀ L s.heap ((ud, uo) :: (fd, fo) :: R)) (T : Top view (looseW view []) mean mg mb h₀)
    (hf : env.frame = some L) (hk : env.scope.kind = .function) (hud : uo.IsDictOf (PySem.intKind P0 w) kvU) (hfd : fo.IsDictOf (PySem.strKind P0 w) kvF) (hwd : wo.IsDictOf (PySem.strKind P0 w) kvW)
    (hlU : kvU.length < 64) (hlF : kvF.length < 64) (hR1 : ∀ p ∈ R, p.1 ≠ ud) (hR2 : ∀ p ∈ R, p.1 ≠ fd) (hne : @Ne Nat ud fd)
    (hsa : (sa, instObj 126 sda) ∈ R) (hsda : (sda, dictOf [⟨hh, .str (Str.ofString "files") st, .ref fd⟩] sn) ∈ R) (hwm : (wd, wo) ∈ R)
    (hv : valueAt kvW (Str.ofString "STATUS") = some (.str told wt)) (h0 : valueAt kvW (Str.ofString "FILE") = some (.str nm nt))
    (h1 : valueAt kvW (Str.ofString "ACCESS") = none) (h2 : valueAt kvW (Str.ofString "FORM") = none) (h3 : valueAt kvW (Str.ofString "RECL") = none) (h4 : valueAt kvW (Str.ofString "BLANK") = none)
    (ht : told = Str.ofString "UNKNOWN" ∨ told = Str.ofString "NEW" ∨ told = Str.ofString "OLD" ∨ told = Str.ofString "SCRATCH")
    (hn0 : 0 ≤ num) (hn1 : num < 10) (hU : ∀ k v, (k, v) ∈ kvU → URead R v k (nmOf k))
    (hF : ∀ nm v, valueAt kvF nm = some v → ∃ fa fda od ra, v = .ref fa ∧ (fa, instObj 105 fda) ∈ R ∧ (fda, od) ∈ R ∧ FileD od nm ra)
    {v0 : Value} (hab : valueAt kvU num = some v0) (hother : nmOf num ≠ nm)
    (hnm : nm = Str.ofString "A" ∨ nm = Str.ofString "B" ∨ nm = Str.ofString "FORT.1" ∨ nm = Str.ofString "FORT.2" ∨ nm = Str.ofString "FORT.3")
    (ret : ∀ ua uda od fa Y uo' fo' kvF' h' tk, FoundW told nm ((ud, uo) :: (fd, fo) :: R) kvF kvF' fo fo' fa Y → fo'.IsDictOf (PySem.strKind P0 w) kvF' → uo'.IsDictOf (PySem.intKind P0 w) (stored kvU num (.ref ua)) → UnitD od num fa 0 →
      (∀ p ∈ Y ++ R, @LT.lt Nat _ p.1 uda) → @LT.lt Nat _ ud uda → @LT.lt Nat _ fd uda → @LT.lt Nat _ uda ua → (told ≠ Str.ofString "SCRATCH" → ∀ k v, (k, v) ∈ kvU → nmOf k ≠ nm) → told ≠ Str.ofString "SCRATCH" →
      Fr h₀ L h' m → News h₀ L h' ((ua, instObj 147 uda) :: (uda, od) :: (ud, uo') :: (fd, fo') :: (Y ++ R)) → Q (.ref ua) { s with heap := h', toks := tk })
    (raised : ∀ G h' tk e, (told = Str.ofString "SCRATCH" ∨ (∃ k v, (k, v) ∈ kvU ∧ nmOf k = nm) ∨ ((∀ k v, (k, v) ∈ kvU → nmOf k ≠ nm) ∧ (((∃ v, valueAt kvF nm = some v) ∧ told = Str.ofString "NEW") ∨ (valueAt kvF nm = none ∧ told = Str.ofString "OLD")))) →
      Fr h₀ L G m → RaisedSN base G (env :: outer) e (.ref 63) ((ud, uo) :: (fd, fo) :: R) h' → G.UpToSlots h' → E (.ref e) { s with heap := h', toks := tk }) :
    wpAny (model P0 w) (At 500 1500 gd env outer) (call (.ref 207) [.ref sa, .ref ud, .int num tn, .ref wd]) Q E s := (by exact kept : Kept _ (by
  refine wpAny_call ?_
  obtain ⟨xa, xda, xod, xf, xpl, xfda, xfod, xra, rfl, x1, x2, ⟨a0, a1, a2, a3, b0, b1, b2, b3, b4, b5, b6, b7, rfl⟩, x3, x4, ⟨c0, c1, c2, c3, c4, c5, e0, e1, e2, e3, e4, e5, e6, e7, e8, e9, na, nn, rfl⟩⟩ := hU num v0 (mem_valueAt hab)
  have hbe : (nm == nmOf num) = false := beq_false_of_ne fun e => hother e.symm
  k_dflt k_enter
  k_steps
  · refine raised _ _ _ _ (.inl (beq_iff_eq.mp (by assumption))) (by assumption) (raised_sub (by assumption) (fun p hp => ?_)) (by assumption)
    rcases List.mem_cons.mp hp with rfl | hp
    · k_mem
    rcases List.mem_cons.mp hp with rfl | hp
    · k_mem
    · k_mem
  · rename (told == Str.ofString "SCRATCH") = false => hns
    have hns := beq_ne hns
    refine held (wp_up (uof_any (gd := _) (kvU := kvU) (nmOf := nmOf) (by k_asm) (by k_asm) (by k_asm) (by k_asm) (by k_asm) rfl rfl (by k_mem) hud hlU (fun k v hkv => (hU k v hkv).mono (fun p hp => by k_mem)) (fun hno h9 tk9 F9 N9 => ?_) (fun hyes a9 h9 tk9 F9 N9 => ?_)) rfl (Nat.le_of_ble_eq_true rfl) rfl rfl (Nat.le_of_ble_eq_true rfl))
    · k_steps
      refine held (wp_up (found_any (gd := _) (by k_asm) (by k_asm) (by k_asm) (news_rot3 (by k_asm)) (by k_asm) rfl rfl hfd hlF (by first | exact List.forall_mem_cons.mpr ⟨by k_ne, List.forall_mem_cons.mpr ⟨hne, hR2⟩⟩ | k_all) (by k_mem) (by k_mem) (by k_mem) (fun v hv => ?_) (fun fa Y fo' kvF' h9 tk9 W hd9 F9 N9 => ?_) (fun G h9 tk9 e hns hc F9 R9 U9 => ?_)) rfl (Nat.le_of_ble_eq_true rfl) rfl rfl (Nat.le_of_ble_eq_true rfl))
      · obtain ⟨fa, fda, od, ra, e, m1, m2, f⟩ := hF _ v hv
        exact ⟨fa, fda, od, ra, e, .tail _ (.tail _ m1), .tail _ (.tail _ m2), f⟩
      · replace N9 := news_found N9
        replace W := W.sub (Rk' := (ud, uo) :: (fd, fo) :: R) (fun p hp => by rcases List.mem_cons.mp hp with rfl | hp; exact .tail _ (.tail _ (.head _)); rcases List.mem_cons.mp hp with rfl | hp; exact .head _; exact .tail _ (.tail _ (.tail _ hp)))
        have hY := W.above
        obtain ⟨RY, hRY⟩ : ∃ RY, RY = Y ++ R := ⟨_, rfl⟩
        have q1 : ∀ p ∈ RY, p.1 ≠ ud := fun p hp => by rw [hRY] at hp; exact (List.mem_append.mp hp).elim (fun h => Nat.ne_of_gt (hY p h (ud, uo) (.head _))) (hR1 p)
        have q2 : ∀ p ∈ RY, p.1 ≠ fd := fun p hp => by rw [hRY] at hp; exact (List.mem_append.mp hp).elim (fun h => Nat.ne_of_gt (hY p h (fd, fo) (.tail _ (.head _)))) (hR2 p)
        rw [← hRY] at N9
        k_steps
        subst hRY
        refine' ret _ _ _ _ _ _ _ _ _ _ W hd9 ?u (by assumption) (allLt_all (And.right (And.right (by assumption)))) ?a ?b ?c (fun _ => hno) hns ?F ?N
        (case N => k_asm)
        (case F => k_asm)
        (case u => assumption)
        (case a => omega)
        (case b => omega)
        (case c => omega)
      · k_steps
        refine raised _ _ _ _ (.inr (.inr ⟨hno, hc⟩)) (by assumption) (raised_sub (by assumption) (fun p hp => ?_)) (by assumption)
        rcases List.mem_cons.mp hp with rfl | hp
        · k_mem
        rcases List.mem_cons.mp hp with rfl | hp
        · k_mem
        · k_mem
    · k_steps
      refine raised _ _ _ _ (.inr (.inl hyes)) (by assumption) (raised_sub (by assumption) (fun p hp => ?_)) (by assumption)
      rcases List.mem_cons.mp hp with rfl | hp
      · k_mem
      rcases List.mem_cons.mp hp with rfl | hp
      · k_mem
      · k_mem
  · exact (str_neither (by assumption) (by assumption)).elim))
end
end
section
theorem updF_upd {d : Addr} {o : Obj} : ∀ {l : List (Addr × Obj)} {g : Obj → List (Addr × Obj)}, UpdF d o l g → ∀ o', Upd d o o' l (g o')
  | _, _, .head h => fun _ => .head h
  | _, _, .tail a b => fun o' => .tail a (updF_upd b o')
theorem updF_mem {d : Addr} {o : Obj} {l : List (Addr × Obj)} {g : Obj → List (Addr × Obj)} (U : UpdF d o l g) : (d, o) ∈ l := by
  obtain ⟨pre, post, rfl, _⟩ := U.split
  exact List.mem_append_right _ (.head _)
section
variable {w : World} {A : Around} {h₀ : Heap} {L : Addr} {m : Str → Option Value} {s : Shared} {Q : Unit → Shared → Prop} {E : Value → Shared → Prop} {news : List (Addr × Obj)} {g : Obj → List (Addr × Obj)} {ua uda fa fda ra ra' : Addr} {od : Obj} {num i : Int} {nm : Str} {pl q : Nat} {t : Tok}
theorem set_blank (F : Fr h₀ L s.heap m) (X : (hd.heap_1 w.params).In h₀) (N : News h₀ L s.heap news) (hm : (ua, instObj 147 uda) ∈ news) (U : UpdF uda od news g) (hod : UnitD od num fa pl)
    (h : ∀ h' od', Fr h₀ L h' m → News h₀ L h' (g od') → UnitD od' num fa pl → Q () { s with heap := h', toks := s.toks + 2 }) :
    wpAny (model P0 w) A (setAttr (.ref ua) (Str.ofString "blank") (.str (Str.ofString "NULL") t)) Q E s := (by exact kept : Kept _ (by
  have hmd := updF_mem U
  obtain ⟨a0, a1, a2, a3, b0, b1, b2, b3, b4, b5, b6, n, rfl⟩ := hod
  exact set_dict (es' := [⟨a0, .str (Str.ofString "number") b0, .int num b1⟩, ⟨a1, .str (Str.ofString "file") b2, .ref fa⟩, ⟨a2, .str (Str.ofString "blank") b3, .str (Str.ofString "NULL") t⟩, ⟨a3, .str (Str.ofString "place") b5, .int (pl : Int) b6⟩]) (n' := n) F X N (InstAt.of_news N hm hmd) rfl (by k_is) (by k_is) (by k_is) (by k_is) rfl rfl (updF_upd U _) (Nat.le_of_ble_eq_true rfl)
    (fun h' F' N' => h h' _ F' N' ⟨a0, a1, a2, a3, b0, b1, b2, b3, t, b5, b6, n, rfl⟩)))
theorem set_place (F : Fr h₀ L s.heap m) (X : (hd.heap_1 w.params).In h₀) (N : News h₀ L s.heap news) (hm : (ua, instObj 147 uda) ∈ news) (U : UpdF uda od news g) (hod : UnitD od num fa pl) (hi : i = (q : Int))
    (h : ∀ h' od', Fr h₀ L h' m → News h₀ L h' (g od') → UnitD od' num fa q → Q () { s with heap := h', toks := s.toks + 2 }) :
    wpAny (model P0 w) A (setAttr (.ref ua) (Str.ofString "place") (.int i t)) Q E s := (by exact kept : Kept _ (by
  subst hi
  have hmd := updF_mem U
  obtain ⟨a0, a1, a2, a3, b0, b1, b2, b3, b4, b5, b6, n, rfl⟩ := hod
  exact set_dict (es' := [⟨a0, .str (Str.ofString "number") b0, .int num b1⟩, ⟨a1, .str (Str.ofString "file") b2, .ref fa⟩, ⟨a2, .str (Str.ofString "blank") b3, .str (Str.ofString "NULL") b4⟩, ⟨a3, .str (Str.ofString "place") b5, .int (q : Int) t⟩]) (n' := n) F X N (InstAt.of_news N hm hmd) rfl (by k_is) (by k_is) (by k_is) (by k_is) rfl rfl (updF_upd U _) (Nat.le_of_ble_eq_true rfl)
    (fun h' F' N' => h h' _ F' N' ⟨a0, a1, a2, a3, b0, b1, b2, b3, b4, b5, t, n, rfl⟩)))
theorem set_records (F : Fr h₀ L s.heap m) (X : (hd.heap_1 w.params).In h₀) (N : News h₀ L s.heap news) (hm : (fa, instObj 105 fda) ∈ news) (U : UpdF fda od news g) (hod : FileD od nm ra)
    (h : ∀ h' od', Fr h₀ L h' m → News h₀ L h' (g od') → FileD od' nm ra' → Q () { s with heap := h', toks := s.toks + 2 }) :
    wpAny (model P0 w) A (setAttr (.ref fa) (Str.ofString "records") (.ref ra')) Q E s := (by exact kept : Kept _ (by
  have hmd := updF_mem U
  obtain ⟨c0, c1, c2, c3, c4, c5, e0, e1, e2, e3, e4, e5, e6, e7, e8, e9, na, n, rfl⟩ := hod
  exact set_dict (es' := [⟨c0, .str (Str.ofString "name") e0, .str nm e1⟩, ⟨c1, .str (Str.ofString "access") e2, .str (Str.ofString "SEQUENTIAL") e3⟩, ⟨c2, .str (Str.ofString "form") e4, .str (Str.ofString "FORMATTED") e5⟩, ⟨c3, .str (Str.ofString "length") e6, .int 0 e7⟩, ⟨c4, .str (Str.ofString "records") e8, .ref ra'⟩, ⟨c5, .str (Str.ofString "numbered") e9, .ref na⟩]) (n' := n) F X N (InstAt.of_news N hm hmd) rfl (by k_is) (by k_is) (by k_is) (by k_is) rfl rfl (updF_upd U _) (Nat.le_of_ble_eq_true rfl)
    (fun h' F' N' => h h' _ F' N' ⟨c0, c1, c2, c3, c4, c5, e0, e1, e2, e3, e4, e5, e6, e7, e8, e9, na, n, rfl⟩)))
end
end
section
theorem words_Again : True := by
  k_with "setAttr ref" => (first | ((k_here; (with_reducible show wpAny _ _ (setAttr (Value.ref _) (Str.ofString "blank") _) _ _ _); k_dflt (refine' set_blank ?qzF ?qzX ?qzN ?qzhm ?qzU ?qzhod ?_; (case qzF => k_asm); (case qzX => k_asm); (case qzN => k_asm); (case qzhm => k_mem); (case qzU => k_updF); (case qzhod => exact ⟨_, _, _, _, _, _, _, _, _, _, _, _, rfl⟩); k_whole); intro h' od' F' N' hU'; (try dsimp only at N')); (try revert hU'); (try revert N'); (try revert F'); (try revert od'); (try revert h'); intros) | fail)
  trivial
section
variable {w : World} {gd : Option (List Code)} {env : Env} {outer : List Env} {A₀ : Around} {base h₀ : Heap} {L : Addr} {m mg mb : Str → Option Value} {mean : ExcName → Option Value} {s : Shared} {Q E : Value → Shared → Prop}
    {R : List (Addr × Obj)} {ud sa sda wd ua uda fa fda ra : Addr} {uo wo od fod : Obj} {kvU : List (Int × Value)} {kvW : List (Str × Value)} {told nm : Str} {num : Int} {pl : Nat} {tn st wt nt : Tok}
theorem openA_again (B : Below A₀ base outer h₀) (F : Fr h₀ L s.heap m) (X : (hd.heap_1 w.params).In h₀) (N : News h₀ L s.heap ((uda, od) :: R)) (T : Top view (looseW view []) mean mg mb h₀)
    (hf : env.frame = some L) (hk : env.scope.kind = .function) (hud : uo.IsDictOf (PySem.intKind P0 w) kvU) (hwd : wo.IsDictOf (PySem.strKind P0 w) kvW)
    (hR : ∀ p ∈ R, p.1 ≠ uda) (hum : (ud, uo) ∈ R) (hwm : (wd, wo) ∈ R) (hua : (ua, instObj 147 uda) ∈ R) (hod : UnitD od num fa pl) (hfa : (fa, instObj 105 fda) ∈ R) (hfda : (fda, fod) ∈ R) (hfod : FileD fod nm ra)
    (hv : valueAt kvW (Str.ofString "STATUS") = some (.str told wt)) (h0 : valueAt kvW (Str.ofString "FILE") = none)
    (h1 : valueAt kvW (Str.ofString "ACCESS") = none) (h2 : valueAt kvW (Str.ofString "FORM") = none) (h3 : valueAt kvW (Str.ofString "RECL") = none) (h4 : valueAt kvW (Str.ofString "BLANK") = none)
    (ht : told = Str.ofString "UNKNOWN" ∨ told = Str.ofString "NEW" ∨ told = Str.ofString "OLD" ∨ told = Str.ofString "SCRATCH")
    (hn0 : 0 ≤ num) (hn1 : num < 10) (hab : valueAt kvU num = some (.ref ua))
    (ret : told ≠ Str.ofString "NEW" → told ≠ Str.ofString "SCRATCH" → ∀ od' h' tk, UnitD od' num fa pl → Fr h₀ L h' m → News h₀ L h' ((uda, od') :: R) → Q (.ref ua) { s with heap := h', toks := tk })
    (raised : ∀ G h' tk e, told = Str.ofString "NEW" ∨ told = Str.ofString "SCRATCH" → Fr h₀ L G m → RaisedSN base G (env :: outer) e (.ref 63) ((uda, od) :: R) h' → G.UpToSlots h' → E (.ref e) { s with heap := h', toks := tk }) :
    wpAny (model P0 w) (At 500 1500 gd env outer) (call (.ref 207) [.ref sa, .ref ud, .int num tn, .ref wd]) Q E s := (by exact kept : Kept _ (by
  obtain ⟨a0, a1, a2, a3, b0, b1, b2, b3, b4, b5, b6, b7, rfl⟩ := hod
  obtain ⟨c0, c1, c2, c3, c4, c5, e0, e1, e2, e3, e4, e5, e6, e7, e8, e9, na, nn, rfl⟩ := hfod
  refine wpAny_call ?_
  k_dflt k_enter
  k_steps
  all_goals first
    | (refine raised _ _ _ _ (by first | exact .inl (beq_iff_eq.mp (by assumption)) | exact .inr (beq_iff_eq.mp (by assumption))) (by assumption) (raised_sub (by assumption) (fun p hp => ?_)) (by assumption)
       rcases List.mem_cons.mp hp with rfl | hp
       · k_mem
       · k_mem)
    | (refine' ret (beq_ne (by assumption)) (beq_ne (by assumption)) _ _ _ (by assumption) ?F ?N
       (case N => exact news_tl (news_tl (by assumption)))
       (case F => k_asm))))
end
end
section
theorem words_AgainB : True := by
  k_with "setAttr ref" => (first | ((k_here; (with_reducible show wpAny _ _ (setAttr (Value.ref _) (Str.ofString "blank") _) _ _ _); k_dflt (refine' set_blank ?qzF ?qzX ?qzN ?qzhm ?qzU ?qzhod ?_; (case qzF => k_asm); (case qzX => k_asm); (case qzN => k_asm); (case qzhm => k_mem); (case qzU => k_updF); (case qzhod => exact ⟨_, _, _, _, _, _, _, _, _, _, _, _, rfl⟩); k_whole); intro h' od' F' N' hU'; (try dsimp only at N')); (try revert hU'); (try revert N'); (try revert F'); (try revert od'); (try revert h'); intros) | fail)
  trivial
section
variable {w : World} {gd : Option (List Code)} {env : Env} {outer : List Env} {A₀ : Around} {base h₀ : Heap} {L : Addr} {m mg mb : Str → Option Value} {mean : ExcName → Option Value} {s : Shared} {Q E : Value → Shared → Prop}
    {R : List (Addr × Obj)} {ud sa sda wd ua uda fa fda ra : Addr} {uo wo od fod : Obj} {kvU : List (Int × Value)} {kvW : List (Str × Value)} {told nm : Str} {num : Int} {pl : Nat} {tn st wt nt : Tok}
theorem openB_again (B : Below A₀ base outer h₀) (F : Fr h₀ L s.heap m) (X : (hd.heap_1 w.params).In h₀) (N : News h₀ L s.heap ((uda, od) :: R)) (T : Top view (looseW view []) mean mg mb h₀)
    (hf : env.frame = some L) (hk : env.scope.kind = .function) (hud : uo.IsDictOf (PySem.intKind P0 w) kvU) (hwd : wo.IsDictOf (PySem.strKind P0 w) kvW)
    (hR : ∀ p ∈ R, p.1 ≠ uda) (hum : (ud, uo) ∈ R) (hwm : (wd, wo) ∈ R) (hua : (ua, instObj 147 uda) ∈ R) (hod : UnitD od num fa pl) (hfa : (fa, instObj 105 fda) ∈ R) (hfda : (fda, fod) ∈ R) (hfod : FileD fod nm ra)
    (hv : valueAt kvW (Str.ofString "STATUS") = some (.str told wt)) (h0 : valueAt kvW (Str.ofString "FILE") = some (.str nm nt))
    (h1 : valueAt kvW (Str.ofString "ACCESS") = none) (h2 : valueAt kvW (Str.ofString "FORM") = none) (h3 : valueAt kvW (Str.ofString "RECL") = none) (h4 : valueAt kvW (Str.ofString "BLANK") = none)
    (ht : told = Str.ofString "UNKNOWN" ∨ told = Str.ofString "NEW" ∨ told = Str.ofString "OLD" ∨ told = Str.ofString "SCRATCH")
    (hnm : nm = Str.ofString "A" ∨ nm = Str.ofString "B" ∨ nm = Str.ofString "FORT.1" ∨ nm = Str.ofString "FORT.2" ∨ nm = Str.ofString "FORT.3")
    (hn0 : 0 ≤ num) (hn1 : num < 10) (hab : valueAt kvU num = some (.ref ua))
    (ret : told ≠ Str.ofString "NEW" → told ≠ Str.ofString "SCRATCH" → ∀ od' h' tk, UnitD od' num fa pl → Fr h₀ L h' m → News h₀ L h' ((uda, od') :: R) → Q (.ref ua) { s with heap := h', toks := tk })
    (raised : ∀ G h' tk e, told = Str.ofString "NEW" ∨ told = Str.ofString "SCRATCH" → Fr h₀ L G m → RaisedSN base G (env :: outer) e (.ref 63) ((uda, od) :: R) h' → G.UpToSlots h' → E (.ref e) { s with heap := h', toks := tk }) :
    wpAny (model P0 w) (At 500 1500 gd env outer) (call (.ref 207) [.ref sa, .ref ud, .int num tn, .ref wd]) Q E s := (by exact kept : Kept _ (by
  obtain ⟨a0, a1, a2, a3, b0, b1, b2, b3, b4, b5, b6, b7, rfl⟩ := hod
  obtain ⟨c0, c1, c2, c3, c4, c5, e0, e1, e2, e3, e4, e5, e6, e7, e8, e9, na, nn, rfl⟩ := hfod
  have hbe : (nm == nm) = true := beq_self_eq_true _
  refine wpAny_call ?_
  k_dflt k_enter
  k_steps
  all_goals first
    | (refine raised _ _ _ _ (by first | exact .inl (beq_iff_eq.mp (by assumption)) | exact .inr (beq_iff_eq.mp (by assumption))) (by assumption) (raised_sub (by assumption) (fun p hp => ?_)) (by assumption)
       rcases List.mem_cons.mp hp with rfl | hp
       · k_mem
       · k_mem)
    | (refine' ret (beq_ne (by assumption)) (beq_ne (by assumption)) _ _ _ (by assumption) ?F ?N
       (case N => exact news_tl (news_tl (by assumption)))
       (case F => k_asm))))
end
end
section
theorem words_Write : True := by
  k_with "subscriptTail Attribute" => (first | (k_here; k_dflt (refine kba_turn (value' := PySem.Expr.Name (PySem.Str.ofString "_") ⟨0, 0, 0, 0⟩) (fun _ => rfl) ?_)) | fail)
  k_with "call builtin:len" => (first | (k_here; (with_reducible show wpAny _ _ (call (Value.builtin "len") [Value.ref _]) _ _ _); k_dflt (refine' KM.len_K ?qzN ?qzm ?qzs ?qzf ?_; (case qzN => k_asm); (case qzm => k_mem); (case qzs => exact List.size_toArray); (case qzf => omega); k_whole)) | fail)
  k_with "call builtin:list.append" => (first | ((k_here; (with_reducible show wpAny _ _ (call (Value.builtin _) [Value.ref _, _]) _ _ _); k_dflt (refine' append_K ?qzk1 ?qzk2 ?qzk3 ?_ ?qzz; (case qzk1 => k_asm); (case qzk2 => k_asm); (case qzk3 => k_upd); (case qzz => (simp only [List.size_toArray, PySem.sizeLine_eq, List.length_take]; omega)); k_whole); intro h' F' N'); (try revert N'); (try revert F'); (try revert h'); intros) | fail)
  k_with "subscriptTail Name Slice ref ref" => (first | ((k_here; (with_reducible show wpAny _ _ (subscriptTail _ (PySem.Expr.Slice _ _ none _) (Value.ref _) (Value.ref _)) _ _ _); k_dflt (refine' kms_slice_lit ?qzF ?qzN ?qzl ?qzp ?qzq ?qze ?_ ?qzs ?qzt ?qzz; (case qzF => k_asm); (case qzN => k_asm); (case qzl => exact News.isList (by k_asm) (by k_mem)); (case qzp => kmk_part); (case qzq => kmk_part); (case qze => exact pick_takeW (by omega)); (case qzs => with_unfolding_all rfl); (case qzt => kmk_pure); (case qzz => (simp only [List.size_toArray, PySem.sizeLine_eq]; omega)); k_whole); intro D' h' F' N' l1; (try k_lt l1)); (try revert l1); (try revert N'); (try revert F'); (try revert h'); (try revert D'); intros) | fail)
  k_with "setAttr ref" => (first | ((k_here; (with_reducible show wpAny _ _ (setAttr (Value.ref _) (Str.ofString "place") _) _ _ _); k_dflt (refine' set_place ?qzF ?qzX ?qzN ?qzhm ?qzU ?qzhod ?qzhi ?_; (case qzF => k_asm); (case qzX => k_asm); (case qzN => k_asm); (case qzhm => k_mem); (case qzU => k_updF); (case qzhod => exact ⟨_, _, _, _, _, _, _, _, _, _, _, _, rfl⟩); (case qzhi => first | exact (Int.natCast_succ _).symm | exact rfl); k_whole); intro h' od' F' N' hU'; (try dsimp only at N')); (try revert hU'); (try revert N'); (try revert F'); (try revert od'); (try revert h'); intros) | fail)
  k_with "setAttr ref" => (first | ((k_here; (with_reducible show wpAny _ _ (setAttr (Value.ref _) (Str.ofString "records") _) _ _ _); k_dflt (refine' set_records ?qzF ?qzX ?qzN ?qzhm ?qzU ?qzhod ?_; (case qzF => k_asm); (case qzX => k_asm); (case qzN => k_asm); (case qzhm => k_mem); (case qzU => k_updF); (case qzhod => exact ⟨_, _, _, _, _, _, _, _, _, _, _, _, _, _, _, _, _, _, rfl⟩); k_whole); intro h' fod' F' N' hU'; (try dsimp only at N'); obtain ⟨c0, c1, c2, c3, c4, c5, e0, e1, e2, e3, e4, e5, e6, e7, e8, e9, na, nn, hq⟩ := hU'; subst hq); (try revert hU'); (try revert N'); (try revert F'); (try revert fod'); (try revert h'); intros) | fail)
  trivial
theorem pick_takeW {recs : List Value} {pl : Nat} (h : pl ≤ recs.length) : kms_pick recs.toArray.toList none (some (pl : Int)) = recs.take pl := by
  simp only [kms_pick, kms_lo, kms_hi, List.drop_zero]
  rw [if_neg (by omega)]
  congr 1
  simp; omega
section
variable {w : World} {gd : Option (List Code)} {env : Env} {outer : List Env} {A₀ : Around} {base h₀ : Heap} {L : Addr} {m mg mb : Str → Option Value} {mean : ExcName → Option Value} {s : Shared} {Q E : Value → Shared → Prop}
    {R : List (Addr × Obj)} {ua uda fa fda ra : Addr} {od fod : Obj} {nm x : Str} {num : Int} {pl rn : Nat} {recs : List Value} {xt : Tok}
theorem write_any (B : Below A₀ base outer h₀) (F : Fr h₀ L s.heap m) (X : (hd.heap_1 w.params).In h₀) (N : News h₀ L s.heap ((uda, od) :: (fda, fod) :: R)) (T : Top view (looseW view []) mean mg mb h₀)
    (hf : env.frame = some L) (hk : env.scope.kind = .function) (hua : (ua, instObj 147 uda) ∈ R) (hod : UnitD od num fa pl) (hfa : (fa, instObj 105 fda) ∈ R) (hfod : FileD fod nm ra) (hlr : recs.length < 64)
    (hra : (ra, listOf recs.toArray rn) ∈ R)
    (hn1 : @Ne Nat uda fda) (hR1 : ∀ p ∈ R, p.1 ≠ uda) (hR2 : ∀ p ∈ R, p.1 ≠ fda)
    (ret : pl ≤ recs.length → ∀ od' fod' rb h' tk n', UnitD od' num fa (pl + 1) → FileD fod' nm rb → (∀ p ∈ (uda, od) :: (fda, fod) :: R, @LT.lt Nat _ p.1 rb) →
      Fr h₀ L h' m → News h₀ L h' ((rb, listOf (recs.take pl ++ [Value.str x xt]).toArray n') :: (uda, od') :: (fda, fod') :: R) → Q .none { s with heap := h', toks := tk })
    (raised : ∀ G h' tk e, recs.length < pl → Fr h₀ L G m → RaisedSN base G (env :: outer) e (.ref 63) ((uda, od) :: (fda, fod) :: R) h' → G.UpToSlots h' → E (.ref e) { s with heap := h', toks := tk }) :
    wpAny (model P0 w) (At 500 1500 gd env outer) (call (.ref 242) [.ref ua, .str x xt]) Q E s := (by exact kept : Kept _ (by
  refine wpAny_call ?_
  obtain ⟨a0, a1, a2, a3, b0, b1, b2, b3, b4, b5, b6, b7, rfl⟩ := hod
  obtain ⟨c0, c1, c2, c3, c4, c5, e0, e1, e2, e3, e4, e5, e6, e7, e8, e9, na, nn, rfl⟩ := hfod
  k_dflt k_enter
  k_steps
  · refine raised _ _ _ _ ?_ (by assumption) (by assumption) (by assumption)
    omega
  · refine' ret (by omega) _ _ _ _ _ _ (by assumption) ?f ?l ?F ?N
    (case N => rw [← List.push_toArray]; k_asm)
    (case F => k_asm)
    (case f => exact ⟨_, _, _, _, _, _, _, _, _, _, _, _, _, _, _, _, _, _, rfl⟩)
    (case l =>
      (rename _ ∧ _ ∧ AllLt _ _ => l1)
      obtain ⟨l1, l2, l4⟩ := l1
      intro p hp
      rcases List.mem_cons.mp hp with rfl | hp
      · exact l1
      rcases List.mem_cons.mp hp with rfl | hp
      · exact l2
      exact allLt_all l4 p hp)))
end
end
section
theorem words_Read : True := by
  k_with "subscriptTail Name BinOp ref int" => (first | (k_here; refine hold ?_) | fail)
  k_with "call builtin:len" => (first | (k_here; (with_reducible show wpAny _ _ (call (Value.builtin "len") [Value.ref _]) _ _ _); k_dflt (refine' KM.len_K ?qzN ?qzm ?qzs ?qzf ?_; (case qzN => k_asm); (case qzm => k_mem); (case qzs => exact List.size_toArray); (case qzf => omega); k_whole)) | fail)
  k_with "call builtin:list.append" => (first | ((k_here; (with_reducible show wpAny _ _ (call (Value.builtin _) [Value.ref _, _]) _ _ _); k_dflt (refine' append_K ?qzk1 ?qzk2 ?qzk3 ?_ ?qzz; (case qzk1 => k_asm); (case qzk2 => k_asm); (case qzk3 => k_upd); (case qzz => (simp only [List.size_toArray, PySem.sizeLine_eq, List.length_take]; omega)); k_whole); intro h' F' N'); (try revert N'); (try revert F'); (try revert h'); intros) | fail)
  k_with "subscriptTail Name Slice ref ref" => (first | ((k_here; (with_reducible show wpAny _ _ (subscriptTail _ (PySem.Expr.Slice _ _ none _) (Value.ref _) (Value.ref _)) _ _ _); k_dflt (refine' kms_slice_lit ?qzF ?qzN ?qzl ?qzp ?qzq ?qze ?_ ?qzs ?qzt ?qzz; (case qzF => k_asm); (case qzN => k_asm); (case qzl => exact News.isList (by k_asm) (by k_mem)); (case qzp => kmk_part); (case qzq => kmk_part); (case qze => exact pick_take (by omega)); (case qzs => with_unfolding_all rfl); (case qzt => kmk_pure); (case qzz => (simp only [List.size_toArray, PySem.sizeLine_eq]; omega)); k_whole); intro D' h' F' N' l1; (try k_lt l1)); (try revert l1); (try revert N'); (try revert F'); (try revert h'); (try revert D'); intros) | fail)
  k_with "setAttr ref" => (first | ((k_here; (with_reducible show wpAny _ _ (setAttr (Value.ref _) (Str.ofString "place") _) _ _ _); k_dflt (refine' set_place ?qzF ?qzX ?qzN ?qzhm ?qzU ?qzhod ?qzhi ?_; (case qzF => k_asm); (case qzX => k_asm); (case qzN => k_asm); (case qzhm => k_mem); (case qzU => k_updF); (case qzhod => exact ⟨_, _, _, _, _, _, _, _, _, _, _, _, rfl⟩); (case qzhi => first | exact (Int.natCast_succ _).symm | exact rfl); k_whole); intro h' od' F' N' hU'; (try dsimp only at N'); obtain ⟨a0, a1, a2, a3, b0, b1, b2, b3, b4, b5, b6, b7, hq⟩ := hU'; subst hq); (try revert hU'); (try revert N'); (try revert F'); (try revert od'); (try revert h'); intros) | fail)
  k_with "setAttr ref" => (first | ((k_here; (with_reducible show wpAny _ _ (setAttr (Value.ref _) (Str.ofString "records") _) _ _ _); k_dflt (refine' set_records ?qzF ?qzX ?qzN ?qzhm ?qzU ?qzhod ?_; (case qzF => k_asm); (case qzX => k_asm); (case qzN => k_asm); (case qzhm => k_mem); (case qzU => k_updF); (case qzhod => exact ⟨_, _, _, _, _, _, _, _, _, _, _, _, _, _, _, _, _, _, rfl⟩); k_whole); intro h' fod' F' N' hU'; (try dsimp only at N'); obtain ⟨c0, c1, c2, c3, c4, c5, e0, e1, e2, e3, e4, e5, e6, e7, e8, e9, na, nn, hq⟩ := hU'; subst hq); (try revert hU'); (try revert N'); (try revert F'); (try revert fod'); (try revert h'); intros) | fail)
  trivial
theorem pick_take {recs : List Value} {pl : Nat} (h : pl ≤ recs.length) : kms_pick recs.toArray.toList none (some (pl : Int)) = recs.take pl := by
  simp only [kms_pick, kms_lo, kms_hi, List.drop_zero]
  rw [if_neg (by omega)]
  congr 1
  simp; omega
section
variable {w : World} {gd : Option (List Code)} {env : Env} {outer : List Env} {A₀ : Around} {base h₀ : Heap} {L : Addr} {m mg mb : Str → Option Value} {mean : ExcName → Option Value} {s : Shared} {Q E : Value → Shared → Prop}
    {R : List (Addr × Obj)} {ua uda fa fda ra : Addr} {od fod : Obj} {nm x : Str} {num : Int} {pl rn : Nat} {recs : List Value} {xt : Tok}
theorem rewind_any (B : Below A₀ base outer h₀) (F : Fr h₀ L s.heap m) (X : (hd.heap_1 w.params).In h₀) (N : News h₀ L s.heap ((uda, od) :: R)) (T : Top view (looseW view []) mean mg mb h₀)
    (hf : env.frame = some L) (hk : env.scope.kind = .function) (hua : (ua, instObj 147 uda) ∈ R) (hod : UnitD od num fa pl) (hfa : (fa, instObj 105 fda) ∈ R) (hfm : (fda, fod) ∈ R) (hfod : FileD fod nm ra)
    (hR1 : ∀ p ∈ R, p.1 ≠ uda)
    (ret : ∀ od' h' tk, UnitD od' num fa 0 → Fr h₀ L h' m → News h₀ L h' ((uda, od') :: R) → Q .none { s with heap := h', toks := tk }) :
    wpAny (model P0 w) (At 500 1500 gd env outer) (call (.ref 249) [.ref ua]) Q E s := (by exact kept : Kept _ (by
  refine wpAny_call ?_
  obtain ⟨a0, a1, a2, a3, b0, b1, b2, b3, b4, b5, b6, b7, rfl⟩ := hod
  obtain ⟨c0, c1, c2, c3, c4, c5, e0, e1, e2, e3, e4, e5, e6, e7, e8, e9, na, nn, rfl⟩ := hfod
  k_dflt k_enter
  k_steps
  refine' ret _ _ _ ?u ?F ?N
  (case N => k_asm)
  (case F => k_asm)
  (case u => exact ⟨_, _, _, _, _, _, _, _, _, _, _, _, rfl⟩)))
theorem read_any (B : Below A₀ base outer h₀) (F : Fr h₀ L s.heap m) (X : (hd.heap_1 w.params).In h₀) (N : News h₀ L s.heap ((uda, od) :: R)) (T : Top view (looseW view []) mean mg mb h₀)
    (hf : env.frame = some L) (hk : env.scope.kind = .function) (hua : (ua, instObj 147 uda) ∈ R) (hod : UnitD od num fa pl) (hfa : (fa, instObj 105 fda) ∈ R) (hfm : (fda, fod) ∈ R) (hfod : FileD fod nm ra) (hra : (ra, listOf recs.toArray rn) ∈ R)
    (hlr : recs.length < 64) (hR1 : ∀ p ∈ R, p.1 ≠ uda) (hpl : pl ≤ recs.length)
    (ret : ∀ v od' h' tk, recs[pl]? = some v → UnitD od' num fa (pl + 1) → Fr h₀ L h' m → News h₀ L h' ((uda, od') :: R) → Q v { s with heap := h', toks := tk })
    (raised : ∀ G h' tk e od', pl = recs.length → UnitD od' num fa (pl + 1) → Fr h₀ L G m → RaisedSN base G (env :: outer) e (.ref 82) ((uda, od') :: R) h' → G.UpToSlots h' → E (.ref e) { s with heap := h', toks := tk }) :
    wpAny (model P0 w) (At 500 1500 gd env outer) (call (.ref 228) [.ref ua]) Q E s := (by exact kept : Kept _ (by
  refine wpAny_call ?_
  obtain ⟨a0, a1, a2, a3, b0, b1, b2, b3, b4, b5, b6, b7, rfl⟩ := hod
  obtain ⟨c0, c1, c2, c3, c4, c5, e0, e1, e2, e3, e4, e5, e6, e7, e8, e9, na, nn, rfl⟩ := hfod
  k_dflt k_enter
  k_steps
  · refine raised _ _ _ _ _ (by omega) ⟨_, _, _, _, _, _, _, _, _, _, _, _, rfl⟩ (by assumption) (by assumption) (by assumption)
  · have hlt : pl < recs.length := by omega
    have hx : recs[((pl.succ : Int) - 1).toNat]? = some recs[pl] := by
      rw [show ((pl.succ : Int) - 1).toNat = pl by omega]
      exact List.getElem?_eq_getElem hlt
    refine held (item_litK (vs := recs) (News.isList (by k_asm) (by k_mem)) (by omega) (by omega) hx ?_)
    k_steps
    refine' ret _ _ _ _ (List.getElem?_eq_getElem hlt) ?u ?F ?N
    (case N => k_asm)
    (case F => k_asm)
    (case u => exact ⟨_, _, _, _, _, _, _, _, _, _, _, _, rfl⟩)))
end
end
section
theorem words_Cell : True := by
  k_with "call builtin:len" => (first | (k_here; (with_reducible show wpAny _ _ (call (Value.builtin "len") [Value.ref _]) _ _ _); k_dflt (refine' KM.len_K ?qzN ?qzm ?qzs ?qzf ?_; (case qzN => k_asm); (case qzm => k_mem); (case qzs => exact List.size_toArray.trans (IntsAre.length (by assumption))); (case qzf => omega); k_whole)) | fail)
  trivial
section
variable {w : World} {gd : Option (List Code)} {env : Env} {outer : List Env} {A₀ : Around} {base h₀ : Heap} {L : Addr} {m mg mb : Str → Option Value} {mean : ExcName → Option Value} {s : Shared} {Q E : Value → Shared → Prop}
    {R : List (Addr × Obj)} {t c : Addr} {p : Int} {tp tm : Tok} {n k : Nat} {M : Int} {vs : List Value} {ns : List Int}
theorem cell_any
    (B : Below A₀ base outer h₀) (F : Fr h₀ L s.heap m) (X : (hd.heap_1 w.params).In h₀) (N : News h₀ L s.heap ((t, listOf #[.int p tp, .ref c] n) :: R)) (T : Top view (looseW view []) mean mg mb h₀)
    (hf : env.frame = some L) (hk : env.scope.kind = .function) (hc : (c, listOf vs.toArray k) ∈ R) (hR : ∀ q ∈ R, q.1 ≠ t) (hi : IntsAre vs ns) (h0 : 0 ≤ p) (hp : p < 1000) (hlen : ns.length < 1000) (hM : 0 < M) (hM2 : M < 100)
    (ret : ∀ (v : Int) tv tq h' tk, 0 ≤ v → v < M → Fr h₀ L h' m → News h₀ L h' ((t, listOf #[.int (p + 1) tq, .ref c] n) :: R) → Q (.int v tv) { s with heap := h', toks := tk }) :
    wpAny (model P0 w) (At 500 1500 gd env outer) (call (.ref 310) [.ref t, .int M tm]) Q E s := (by exact kept : Kept _ (by
  refine wpAny_call ?_
  k_dflt k_enter
  k_steps
  all_goals
    refine' ret _ _ _ _ _ ?a ?b ?F ?N
    (case a => exact Int.fmod_nonneg_of_pos _ hM)
    (case b => exact Int.fmod_lt_of_pos _ hM)
    (case N => k_asm)
    (case F => k_asm)))
theorem cell_at {news : List (Addr × Obj)} {g : Obj → List (Addr × Obj)}
    (B : Below A₀ base outer h₀) (F : Fr h₀ L s.heap m) (X : (hd.heap_1 w.params).In h₀) (N : News h₀ L s.heap news) (T : Top view (looseW view []) mean mg mb h₀)
    (hf : env.frame = some L) (hk : env.scope.kind = .function) (U : UpdF t (listOf #[.int p tp, .ref c] n) news g) (hc : (c, listOf vs.toArray k) ∈ news) (hct : @Ne Nat c t) (hi : IntsAre vs ns) (h0 : 0 ≤ p) (hp : p < 1000) (hlen : ns.length < 1000) (hM : 0 < M) (hM2 : M < 100)
    (ret : ∀ (v : Int) tv tq h' tk, 0 ≤ v → v < M → Fr h₀ L h' m → News h₀ L h' (g (listOf #[.int (p + 1) tq, .ref c] n)) → Q (.int v tv) { s with heap := h', toks := tk }) :
    wpAny (model P0 w) (At 500 1500 gd env outer) (call (.ref 310) [.ref t, .int M tm]) Q E s := by
  obtain ⟨pre, post, rfl, hg, a, b⟩ := U.split
  refine cell_any (k := k) (n := n) (tp := tp) (c := c) (R := pre ++ post) B F X (news_sub N fun p hp => ?_) T hf hk ?_ (fun q hq => ?_) hi h0 hp hlen hM hM2 fun v tv tq h' tk v0 v1 F' N' => ret v tv tq h' tk v0 v1 F' ?_
  · rcases List.mem_cons.mp hp with rfl | hp
    · exact List.mem_append_right _ (.head _)
    rcases List.mem_append.mp hp with hp | hp
    · exact List.mem_append_left _ hp
    · exact List.mem_append_right _ (.tail _ hp)
  · rcases List.mem_append.mp hc with hp | hp
    · exact List.mem_append_left _ hp
    rcases List.mem_cons.mp hp with e | hp
    · exact absurd (congrArg Prod.fst e) hct
    · exact List.mem_append_right _ hp
  · exact (List.mem_append.mp hq).elim (a q) (b q)
  · rw [hg]
    refine news_sub N' fun p hp => ?_
    rcases List.mem_append.mp hp with hp | hp
    · exact .tail _ (List.mem_append_left _ hp)
    rcases List.mem_cons.mp hp with rfl | hp
    · exact .head _
    · exact .tail _ (List.mem_append_right _ hp)
end
end
section
/-- a told value of close -/
def ToldV (tv : Value) (told : Option Str) : Prop :=
  (tv = .none ∧ told = none) ∨ (∃ t, tv = .str (Str.ofString "KEEP") t ∧ told = some (Str.ofString "KEEP")) ∨ ∃ t, tv = .str (Str.ofString "DELETE") t ∧ told = some (Str.ofString "DELETE")
/-- the five names -/
def Five (x : Str) : Prop := x = Str.ofString "A" ∨ x = Str.ofString "B" ∨ x = Str.ofString "FORT.1" ∨ x = Str.ofString "FORT.2" ∨ x = Str.ofString "FORT.3"
def StatusIn (x : Str) : Prop := x = Str.ofString "UNKNOWN" ∨ x = Str.ofString "NEW" ∨ x = Str.ofString "OLD" ∨ x = Str.ofString "SCRATCH"
def NameV (v : Value) (nm : Option Str) : Prop := (v = .none ∧ nm = none) ∨ ∃ x t, v = .str x t ∧ nm = some x ∧ Five x
inductive Deed where
  | opn (k : Int) (told : Str) (nm : Option Str)
  | cls (k : Int) (told : Option Str)
  | wrt (k : Int) (r : Value)
  | rew (k : Int)
/-- the tuple of a deed -/
def DeedV (o : Obj) : Deed → Prop
  | .opn k told nm => 1 ≤ k ∧ k ≤ 3 ∧ StatusIn told ∧ ∃ wt nt tt v, NameV v nm ∧ o = { cls := Value.type "tuple", data := Data.seq #[Value.str (Str.ofString "open") wt, Value.int k nt, Value.str told tt, v] }
  | .cls k told => 1 ≤ k ∧ k ≤ 3 ∧ ∃ wt nt v, ToldV v told ∧ o = { cls := Value.type "tuple", data := Data.seq #[Value.str (Str.ofString "close") wt, Value.int k nt, v, Value.none] }
  | .wrt k r => 1 ≤ k ∧ k ≤ 3 ∧ ∃ wt nt x t, r = Value.str x t ∧ o = { cls := Value.type "tuple", data := Data.seq #[Value.str (Str.ofString "write") wt, Value.int k nt, r, Value.none] }
  | .rew k => 1 ≤ k ∧ k ≤ 3 ∧ ∃ wt nt x t, o = { cls := Value.type "tuple", data := Data.seq #[Value.str (Str.ofString "rewind") wt, Value.int k nt, Value.str x t, Value.none] }
/-- the attributes of the world -/
inductive WorldD (o : Obj) (sa ud : Addr) : Prop where
  | mk (h0 h1 h2 h3 h4 h5 : Int) (t0 t1 t2 t3 t4 t5 t6 : Tok) (a b c : Addr) (n : Nat) (e : o = dictOf [⟨h0, .str (Str.ofString "input") t0, .ref a⟩, ⟨h1, .str (Str.ofString "at") t1, .int 0 t6⟩, ⟨h2, .str (Str.ofString "out") t2, .ref b⟩,
    ⟨h3, .str (Str.ofString "store") t3, .ref sa⟩, ⟨h4, .str (Str.ofString "units") t4, .ref ud⟩, ⟨h5, .str (Str.ofString "makers") t5, .ref c⟩] n) : WorldD o sa ud
end
section
theorem words_Deed : True := by
  k_with "k_ne" => (first | (refine neN ?_; (try dsimp only); (first | with_reducible (first | assumption | exact Ne.symm (by assumption) | exact Nat.ne_of_lt (by k_extra "cj") | exact Nat.ne_of_gt (by k_extra "cj") | (k_extra "cj") | exact Ne.symm (by k_extra "cj")) | ((repeat ((with_reducible rename @Ne _ _ _ ∧ _ => hz9); clear hz9)); (repeat ((with_reducible rename (_ ∧ _) ∧ _ => hz9); clear hz9)); (repeat ((with_reducible rename @Ne _ _ _ => hz9); clear hz9)); omega) | omega)) | fail)
  k_with "call ref" => (first | ((k_here; (with_reducible show wpAny _ _ (call (Value.ref 310) [Value.ref _, Value.int _ _]) _ _ _); k_dflt (refine' wp_up (cell_at (gd := _) ?qzB ?qzF ?qzX ?qzN ?qzT ?qzhf ?qzhk ?qzU ?qzhc ?qzhct ?qzhi ?qzh0 ?qzhp ?qzhl ?qzhM ?qzhM2 ?_) rfl (Nat.le_of_ble_eq_true rfl) rfl rfl (Nat.le_of_ble_eq_true rfl); (case qzF => k_asm); (case qzX => k_asm); (case qzN => k_asm); (case qzT => k_asm); (case qzB => k_asm); (case qzhf => exact rfl); (case qzhk => exact rfl); (case qzU => k_updF); (case qzhc => k_mem); (case qzhct => assumption); (case qzhi => k_asm); (case qzh0 => omega); (case qzhp => omega); (case qzhl => k_asm); (case qzhM => decide); (case qzhM2 => decide)); intro v' tv' tq' h' tk' v0' v1' F' N'; (try dsimp only at N')); (try revert N'); (try revert F'); (try revert v1'); (try revert v0'); (try revert tk'); (try revert h'); (try revert tq'); (try revert tv'); (try revert v'); intros) | fail)
  k_with "subscriptTail" => (first | ((k_here; (with_reducible show wpAny _ _ (subscriptTail _ _ (Value.ref _) (Value.int _ _)) _ _ _); k_dflt (first | (refine' item_strs ?qzl ?qzh0 ?qzh1 ?qzh2 ?qzx ?_ ?qzs; (case qzl => exact News.isList (by k_asm) (by k_mem)); (case qzx => repeat (first | exact WordsAre.nil | apply WordsAre.cons)); (case qzh0 => omega); (case qzh1 => first | assumption | (simp only [List.length_cons, List.length_nil]; omega)); (case qzh2 => omega); (case qzs => with_unfolding_all rfl); k_whole; intro x' t' hx') | (refine' item_some ?qzl ?qzh0 ?qzh1 ?qzh2 ?_ ?qzs; (case qzl => exact News.isList (by k_asm) (by k_mem)); (case qzh0 => omega); (case qzh1 => first | assumption | (simp only [List.length_cons, List.length_nil]; omega)); (case qzh2 => omega); (case qzs => with_unfolding_all rfl); k_whole; intro v' hx'))); (try revert v'); (try revert hx'); (try revert t'); (try revert x'); intros) | fail)
  trivial
inductive WordsAre : List Value → List Str → Prop
  | nil : WordsAre [] []
  | cons {x : Str} {t : Tok} {r : List Value} {xs : List Str} : WordsAre r xs → WordsAre (.str x t :: r) (x :: xs)
theorem WordsAre.at : ∀ {vs : List Value} {xs : List Str}, WordsAre vs xs → ∀ {i : Nat}, i < vs.length → ∃ x t, vs[i]? = some (.str x t) ∧ x ∈ xs
  | _, _, .cons (x := x) (t := t) h, 0, _ => ⟨x, t, rfl, .head _⟩
  | _, _, .cons h, i + 1, hi => by
    obtain ⟨x', t', e, m⟩ := WordsAre.at h (i := i) (by simpa using hi)
    exact ⟨x', t', by simpa using e, .tail _ m⟩
section
variable {prog : Program} {w : World} {A : Around} {E : Value → Shared → Prop} {s : Shared}
theorem item_strs {value slice : PySem.Expr} {l : Addr} {vs : List Value} {xs : List Str} {k : Int} {u : Tok} {Q : Value → Shared → Prop} (hl : s.heap.IsList l vs.toArray) (h0 : 0 ≤ k) (h1 : k < vs.length) (hhi : k < 2 ^ 63) (hx : WordsAre vs xs) (h : ∀ x t, x ∈ xs → Q (.str x t) s)
    (hs : subscripted slice false (.ref l) (.int k u) = operate [.ref l, .int k u] (getItem (.ref l) (.int k u)) := by with_unfolding_all rfl) :
    wpAny (model prog w) A (subscriptTail value slice (.ref l) (.int k u)) Q E s := by
  obtain ⟨x, t, e, m⟩ := hx.at (i := k.toNat) (by omega)
  exact item_litK hl h0 hhi e (h x t m) hs
theorem item_some {value slice : PySem.Expr} {l : Addr} {vs : List Value} {k : Int} {u : Tok} {Q : Value → Shared → Prop} (hl : s.heap.IsList l vs.toArray) (h0 : 0 ≤ k) (h1 : k < vs.length) (hhi : k < 2 ^ 63) (h : ∀ v, v ∈ vs → Q v s)
    (hs : subscripted slice false (.ref l) (.int k u) = operate [.ref l, .int k u] (getItem (.ref l) (.int k u)) := by with_unfolding_all rfl) :
    wpAny (model prog w) A (subscriptTail value slice (.ref l) (.int k u)) Q E s := by
  have hlt : k.toNat < vs.length := by omega
  exact item_litK hl h0 hhi (List.getElem?_eq_getElem hlt) (h _ (List.getElem_mem hlt)) hs
end
theorem name_of {v : Value} {t1 t2 : Tok} (h : v ∈ [Value.none, .str (Str.ofString "A") t1, .str (Str.ofString "B") t2]) : ∃ nm, NameV v nm := by
  rcases List.mem_cons.mp h with e | h
  · exact ⟨none, .inl ⟨e, rfl⟩⟩
  rcases List.mem_cons.mp h with e | h
  · exact ⟨some _, .inr ⟨_, _, e, rfl, .inl rfl⟩⟩
  rcases List.mem_cons.mp h with e | h
  · exact ⟨some _, .inr ⟨_, _, e, rfl, .inr (.inl rfl)⟩⟩
  · cases h
theorem told_of {v : Value} {t1 t2 : Tok} (h : v ∈ [Value.none, .str (Str.ofString "KEEP") t1, .str (Str.ofString "DELETE") t2]) : ∃ nm, ToldV v nm := by
  rcases List.mem_cons.mp h with e | h
  · exact ⟨none, .inl ⟨e, rfl⟩⟩
  rcases List.mem_cons.mp h with e | h
  · exact ⟨some _, .inr (.inl ⟨_, e, rfl⟩)⟩
  rcases List.mem_cons.mp h with e | h
  · exact ⟨some _, .inr (.inr ⟨_, e, rfl⟩)⟩
  · cases h
theorem status_of {x : Str} (h : x ∈ [Str.ofString "UNKNOWN", Str.ofString "NEW", Str.ofString "OLD", Str.ofString "SCRATCH"]) : StatusIn x := by
  rcases List.mem_cons.mp h with e | h
  · exact .inl e
  rcases List.mem_cons.mp h with e | h
  · exact .inr (.inl e)
  rcases List.mem_cons.mp h with e | h
  · exact .inr (.inr (.inl e))
  rcases List.mem_cons.mp h with e | h
  · exact .inr (.inr (.inr e))
  · cases h
theorem word_of {x : Str} (h : x ∈ [Str.ofString "open", Str.ofString "open", Str.ofString "write", Str.ofString "write", Str.ofString "rewind", Str.ofString "close"]) (h1 : x ≠ Str.ofString "open") (h2 : x ≠ Str.ofString "close") :
    x = Str.ofString "write" ∨ x = Str.ofString "rewind" := by
  rcases List.mem_cons.mp h with e | h
  · exact absurd e h1
  rcases List.mem_cons.mp h with e | h
  · exact absurd e h1
  rcases List.mem_cons.mp h with e | h
  · exact .inl e
  rcases List.mem_cons.mp h with e | h
  · exact .inl e
  rcases List.mem_cons.mp h with e | h
  · exact .inr e
  rcases List.mem_cons.mp h with e | h
  · exact absurd e h2
  · cases h
theorem lts_of {t D : Addr} {o : Obj} {R : List (Addr × Obj)} (h : t < D ∧ AllLt D R) : ∀ q ∈ (t, o) :: R, @LT.lt Nat _ q.1 D := fun q hq => by
  rcases List.mem_cons.mp hq with rfl | hq
  · exact h.1
  · exact allLt_all h.2 q hq
theorem news_skip1 {h₀ h : Heap} {L : Addr} {a b : Addr × Obj} {l : List (Addr × Obj)} (N : News h₀ L h (a :: b :: l)) : News h₀ L h (a :: l) := fun q hq => (List.mem_cons.mp hq).elim (fun e => N q (e ▸ .head _)) fun hq => N q (.tail _ (.tail _ hq))
theorem news_skip2 {h₀ h : Heap} {L : Addr} {a b c : Addr × Obj} {l : List (Addr × Obj)} (N : News h₀ L h (a :: b :: c :: l)) : News h₀ L h (a :: l) := news_skip1 (news_skip1 N)
theorem news_skip3 {h₀ h : Heap} {L : Addr} {a b c d : Addr × Obj} {l : List (Addr × Obj)} (N : News h₀ L h (a :: b :: c :: d :: l)) : News h₀ L h (a :: l) := news_skip1 (news_skip2 N)
section
variable {w : World} {gd : Option (List Code)} {env : Env} {outer : List Env} {A₀ : Around} {base h₀ : Heap} {L : Addr} {m mg mb : Str → Option Value} {mean : ExcName → Option Value} {s : Shared} {Q E : Value → Shared → Prop}
    {R : List (Addr × Obj)} {t c : Addr} {p : Int} {tp tm : Tok} {n k : Nat} {vs : List Value} {ns : List Int}
theorem deed_any
    (B : Below A₀ base outer h₀) (F : Fr h₀ L s.heap m) (X : (hd.heap_1 w.params).In h₀) (N : News h₀ L s.heap ((t, listOf #[.int p tp, .ref c] n) :: R)) (T : Top view (looseW view []) mean mg mb h₀)
    (hf : env.frame = some L) (hk : env.scope.kind = .function) (hc : (c, listOf vs.toArray k) ∈ R) (hct : @Ne Nat c t) (hR : ∀ q ∈ R, q.1 ≠ t) (hi : IntsAre vs ns) (h0 : 0 ≤ p) (hp : p < 900) (hlen : ns.length < 1000)
    (ret : ∀ da o d p' tq h' tk, DeedV o d → p ≤ p' → p' ≤ p + 4 → (∀ q ∈ (t, listOf #[.int p tp, .ref c] n) :: R, @LT.lt Nat _ q.1 da) → Fr h₀ L h' m → News h₀ L h' ((da, o) :: (t, listOf #[.int p' tq, .ref c] n) :: R) → Q (.ref da) { s with heap := h', toks := tk }) :
    wpAny (model P0 w) (At 400 1000 gd env outer) (call (.ref 317) [.ref t]) Q E s := (by exact kept : Kept _ (by
  refine wpAny_call ?_
  k_dflt k_enter
  k_steps
  · have e := beq_iff_eq.mp (by assumption : (_ == Str.ofString "open") = true)
    subst e
    (rename _ ∈ [Value.none, _, _] => hv)
    obtain ⟨nm, hnm⟩ := name_of hv
    refine' ret _ _ (.opn _ _ nm) _ _ _ _ ⟨?a, ?b, ?c, _, _, _, _, hnm, rfl⟩ ?e1 ?e2 ?f ?F ?N
    (case N => exact news_skip3 (by assumption))
    (case F => k_asm)
    (case f => exact lts_of (And.right (And.right (And.right (by assumption)))))
    (case a => omega)
    (case b => omega)
    (case c => exact status_of (by assumption))
    (case e1 => omega)
    (case e2 => omega)
  · have e := beq_iff_eq.mp (by assumption : (_ == Str.ofString "close") = true)
    subst e
    (rename _ ∈ [Value.none, _, _] => hv)
    obtain ⟨told, hnm⟩ := told_of hv
    refine' ret _ _ (.cls _ told) _ _ _ _ ⟨?a, ?b, _, _, _, hnm, rfl⟩ ?e1 ?e2 ?f ?F ?N
    (case N => exact news_skip2 (by assumption))
    (case F => k_asm)
    (case f => exact lts_of (And.right (And.right (by assumption))))
    (case a => omega)
    (case b => omega)
    (case e1 => omega)
    (case e2 => omega)
  · rcases word_of (by assumption) (beq_ne (by assumption : (_ == Str.ofString "open") = false)) (beq_ne (by assumption : (_ == Str.ofString "close") = false)) with e | e
    · subst e
      refine' ret _ _ (.wrt _ _) _ _ _ _ ⟨?a, ?b, _, _, _, _, rfl, rfl⟩ ?e1 ?e2 ?f ?F ?N
      (case N => exact news_skip1 (by assumption))
      (case F => k_asm)
      (case f => exact lts_of (And.right (by assumption)))
      (case a => omega)
      (case b => omega)
      (case e1 => omega)
      (case e2 => omega)
    · subst e
      refine' ret _ _ (.rew _) _ _ _ _ ⟨?a, ?b, _, _, _, _, rfl⟩ ?e1 ?e2 ?f ?F ?N
      (case N => exact news_skip1 (by assumption))
      (case F => k_asm)
      (case f => exact lts_of (And.right (by assumption)))
      (case a => omega)
      (case b => omega)
      (case e1 => omega)
      (case e2 => omega)))
end
end
section
theorem words_Close : True := by
  k_with "k_ne" => (first | (refine neN ?_; (try dsimp only); (first | with_reducible (first | assumption | exact Ne.symm (by assumption) | exact Nat.ne_of_lt (by k_extra "cj") | exact Nat.ne_of_gt (by k_extra "cj") | (k_extra "cj") | exact Ne.symm (by k_extra "cj")) | ((repeat ((with_reducible rename @Ne _ _ _ ∧ _ => hz9); clear hz9)); (repeat ((with_reducible rename (_ ∧ _) ∧ _ => hz9); clear hz9)); (repeat ((with_reducible rename @Ne _ _ _ => hz9); clear hz9)); omega) | omega)) | fail)
  k_with "call builtin:dict.get" => (first | (k_here; (with_reducible show wpAny _ _ (call _ [_, _, _]) _ _ _); k_dflt (refine' kdg_get2 (knd := PySem.strKind _ _) ?qzN ?qzm ?qzd ?qzlo ?qzk _ ?qzl ?_; (case qzN => k_asm); (case qzm => k_mem); (case qzd => k_asm); (case qzlo => exact lo_of (by k_asm) (by k_asm) (by k_mem)); (case qzk => exact strKind_is _ _ _ _); (case qzl => exact valueAt_one _ _ _); k_whole); (try dsimp only [Option.getD])) | fail)
  k_with "call builtin:dict.pop" => (first | ((k_here; k_dflt (first | ((with_reducible show wpAny _ _ (call (Value.builtin "dict.pop") [Value.ref _, Value.str _ _]) _ _ _); refine' kob_pop (knd := PySem.strKind _ _) (more := []) ?qzF ?qzN ?qzU ?qzd (strKind_is _ _ _ _) (.inl rfl) (by rfl) (PySem.F.args_dict_pop_2 _ _) ?qzl ?qzz ?_; (case qzF => k_asm); (case qzN => k_asm); (case qzU => k_updF); (case qzd => k_asm); (case qzl => assumption); (case qzz => exact line64 (by assumption))) | ((with_reducible show wpAny _ _ (call (Value.builtin "dict.pop") [Value.ref _, Value.int _ _]) _ _ _); refine' kob_pop (knd := PySem.intKind _ _) (more := []) ?qzF ?qzN ?qzU ?qzd (intKind_is _ _ _ _) (.inl rfl) (by rfl) (PySem.F.args_dict_pop_2 _ _) ?qzl ?qzz ?_; (case qzF => k_asm); (case qzN => k_asm); (case qzU => k_updF); (case qzd => k_asm); (case qzl => assumption); (case qzz => exact line64 (by assumption)))); intro h' o' F' N' hd'; (try dsimp only at N')); (try revert hd'); (try revert N'); (try revert F'); (try revert o'); (try revert h'); intros) | fail)
  k_with "compareOp NotIn str ref" => (first | (k_here; (with_reducible show wpAny _ _ (compareOp CmpOp.NotIn (Value.str _ _) (Value.ref _)) _ _ _); k_dflt (refine' notin_tuple_strs ?qzk1 ?qzk2 ?_; (case qzk1 => exact ⟨_, (‹News _ _ _ _› _ (by k_mem)).1, rfl, _, rfl⟩); (case qzk2 => kde_strs); k_whole)) | fail)
  k_with "call ref" => (first | ((k_here; (with_reducible show wpAny _ _ (call (Value.ref 158) [Value.ref _, Value.str (Str.ofString "STATUS") _, Value.str (Str.ofString "") _, Value.ref _]) _ _ _); k_dflt (refine' wp_up (word_kd (gd := _) ?qzB ?qzF ?qzX ?qzN ?qzT ?qzhf ?qzhk ?qzhm ?qzhd ?qzhv ?qzhtp ?qzht ?_) rfl (Nat.le_of_ble_eq_true rfl) rfl rfl (Nat.le_of_ble_eq_true rfl); (case qzB => k_asm); (case qzF => k_asm); (case qzX => k_asm); (case qzN => k_asm); (case qzT => k_asm); (case qzhf => exact rfl); (case qzhk => exact rfl); (case qzhm => k_mem); (case qzhd => k_asm); (case qzhv => exact valueAt_one _ _ _); (case qzhtp => k_mem); (case qzht => first | assumption | exact Or.inl rfl | exact Or.inr rfl)); intro tv' h' tk' F' N'); (try revert N'); (try revert F'); (try revert tk'); (try revert h'); (try revert tv'); intros) | fail)
  trivial
theorem valueAt_one (k : Str) (t : Tok) (v : Value) : valueAt (strPairs [(Value.str k t, v)]) k = some v := by
  simp [strPairs, valueAt]
section
variable {w : World} {gd : Option (List Code)} {env : Env} {outer : List Env} {A₀ : Around} {base h₀ : Heap} {L : Addr} {m mg mb : Str → Option Value} {mean : ExcName → Option Value} {s : Shared} {Q E : Value → Shared → Prop}
    {news : List (Addr × Obj)} {d tp : Addr} {o : Obj} {kvs : List (Str × Value)} {told : Str} {t t1 t2 u0 u1 : Tok}
theorem word_kd (B : Below A₀ base outer h₀) (F : Fr h₀ L s.heap m) (X : (hd.heap_1 w.params).In h₀) (N : News h₀ L s.heap news) (T : Top view (looseW view []) mean mg mb h₀)
    (hf : env.frame = some L) (hk : env.scope.kind = .function) (hm : (d, o) ∈ news) (hd : o.IsDictOf (PySem.strKind P0 w) kvs) (hv : valueAt kvs (Str.ofString "STATUS") = some (.str told t))
    (htp : (tp, ({ cls := .type "tuple", data := .seq [Value.str (Str.ofString "KEEP") u0, Value.str (Str.ofString "DELETE") u1].toArray } : Obj)) ∈ news) (ht : told = Str.ofString "KEEP" ∨ told = Str.ofString "DELETE")
    (ret : ∀ tv h' tk, Fr h₀ L h' m → News h₀ L h' news → Q (.str told tv) { s with heap := h', toks := tk }) :
    wpAny (model P0 w) (At 600 2000 gd env outer) (call (.ref 158) [.ref d, .str (Str.ofString "STATUS") t1, .str (Str.ofString "") t2, .ref tp]) Q E s := (by exact kept : Kept _ (by
  refine wpAny_call ?_
  rcases ht with rfl | rfl
  all_goals
    k_dflt k_enter
    k_steps
    refine ret _ _ _ ?_ ?_ <;> k_asm))
end
section
variable {w : World} {gd : Option (List Code)} {env : Env} {outer : List Env} {A₀ : Around} {base h₀ : Heap} {L : Addr} {m mg mb : Str → Option Value} {mean : ExcName → Option Value} {s : Shared} {Q E : Value → Shared → Prop}
    {R : List (Addr × Obj)} {fd ud sa sda : Addr} {fo uo : Obj} {kvF : List (Str × Value)} {kvU : List (Int × Value)} {told : Option Str} {tv : Value} {nm : Str} {num : Int} {tn st : Tok} {hh : Int} {sn : Nat} {ua uda fa fda ra : Addr} {od fod : Obj} {pl : Nat} {v0 : Value}
theorem told_two {tv : Value} {told : Option Str} (h : ToldV tv told) : (tv = .none ∧ told = none) ∨ ∃ x t, tv = .str x t ∧ told = some x ∧ (x = Str.ofString "KEEP" ∨ x = Str.ofString "DELETE") := by
  rcases h with ⟨rfl, rfl⟩ | ⟨t, rfl, rfl⟩ | ⟨t, rfl, rfl⟩
  · exact Or.inl ⟨rfl, rfl⟩
  · exact Or.inr ⟨_, _, rfl, rfl, Or.inl rfl⟩
  · exact Or.inr ⟨_, _, rfl, rfl, Or.inr rfl⟩
theorem close_absent (B : Below A₀ base outer h₀) (F : Fr h₀ L s.heap m) (X : (hd.heap_1 w.params).In h₀) (N : News h₀ L s.heap R) (T : Top view (looseW view []) mean mg mb h₀)
    (hf : env.frame = some L) (hk : env.scope.kind = .function) (hud : uo.IsDictOf (PySem.intKind P0 w) kvU) (hum : (ud, uo) ∈ R)
    (hn0 : 0 ≤ num) (htv : ToldV tv told) (hab : valueAt kvU num = none)
    (ret : ∀ h' tk, Fr h₀ L h' m → News h₀ L h' R → Q .none { s with heap := h', toks := tk }) :
    wpAny (model P0 w) (At 500 1500 gd env outer) (call (.ref 214) [.ref sa, .ref ud, .int num tn, tv]) Q E s := (by exact kept : Kept _ (by
  refine wpAny_call ?_
  rcases told_two htv with ⟨rfl, rfl⟩ | ⟨x, t, rfl, rfl, hx⟩
  all_goals
    k_dflt k_enter
    k_steps
    refine ret _ _ ?_ ?_ <;> (first | k_asm | exact news_tl (by assumption) | exact news_tl (news_tl (by assumption)) | exact news_tl (news_tl (news_tl (by assumption))))))
theorem close_there (B : Below A₀ base outer h₀) (F : Fr h₀ L s.heap m) (X : (hd.heap_1 w.params).In h₀) (N : News h₀ L s.heap ((ud, uo) :: (fd, fo) :: R)) (T : Top view (looseW view []) mean mg mb h₀)
    (hf : env.frame = some L) (hk : env.scope.kind = .function) (hud : uo.IsDictOf (PySem.intKind P0 w) kvU) (hfd : fo.IsDictOf (PySem.strKind P0 w) kvF)
    (hlU : kvU.length < 64) (hlF : kvF.length < 64) (hR1 : ∀ p ∈ R, p.1 ≠ ud) (hR2 : ∀ p ∈ R, p.1 ≠ fd) (hne : @Ne Nat ud fd)
    (hsa : (sa, instObj 126 sda) ∈ R) (hsda : (sda, dictOf [⟨hh, .str (Str.ofString "files") st, .ref fd⟩] sn) ∈ R)
    (hn0 : 0 ≤ num) (htv : ToldV tv told) (hab : valueAt kvU num = some (.ref ua))
    (hua : (ua, instObj 147 uda) ∈ R) (huda : (uda, od) ∈ R) (hod : UnitD od num fa pl) (hfa : (fa, instObj 105 fda) ∈ R) (hfda : (fda, fod) ∈ R) (hfod : FileD fod nm ra)
    (hdel : nm ≠ Str.ofString "" → valueAt kvF nm = some v0)
    (ret : ¬ (nm = Str.ofString "" ∧ told = some (Str.ofString "KEEP")) → ∀ uo' fo' kvF' h' tk, uo'.IsDictOf (PySem.intKind P0 w) (without kvU num) → fo'.IsDictOf (PySem.strKind P0 w) kvF' →
      ((nm ≠ Str.ofString "" ∧ told = some (Str.ofString "DELETE") ∧ kvF' = without kvF nm) ∨ (¬ (nm ≠ Str.ofString "" ∧ told = some (Str.ofString "DELETE")) ∧ kvF' = kvF)) →
      Fr h₀ L h' m → News h₀ L h' ((ud, uo') :: (fd, fo') :: R) → Q .none { s with heap := h', toks := tk })
    (raised : ∀ G h' tk e, nm = Str.ofString "" ∧ told = some (Str.ofString "KEEP") → Fr h₀ L G m → RaisedSN base G (env :: outer) e (.ref 63) ((ud, uo) :: (fd, fo) :: R) h' → G.UpToSlots h' → E (.ref e) { s with heap := h', toks := tk }) :
    wpAny (model P0 w) (At 500 1500 gd env outer) (call (.ref 214) [.ref sa, .ref ud, .int num tn, tv]) Q E s := (by exact kept : Kept _ (by
  refine wpAny_call ?_
  obtain ⟨a0, a1, a2, a3, b0, b1, b2, b3, b4, b5, b6, b7, rfl⟩ := hod
  obtain ⟨c0, c1, c2, c3, c4, c5, e0, e1, e2, e3, e4, e5, e6, e7, e8, e9, na, nn, rfl⟩ := hfod
  rcases Decidable.em (nm = Str.ofString "") with hnm | hnm
  · subst hnm
    rcases told_two htv with ⟨rfl, rfl⟩ | ⟨x, t, rfl, rfl, hx⟩
    all_goals
      k_dflt k_enter
      k_steps
      all_goals first
      | (refine raised _ _ _ _ ⟨rfl, congrArg some (eq_of_beq (by assumption))⟩ (by assumption) (raised_sub (by assumption) (fun p hp => ?_)) (by assumption)
         rcases List.mem_cons.mp hp with rfl | hp
         · k_mem
         rcases List.mem_cons.mp hp with rfl | hp
         · k_mem
         · k_mem)
      | (refine' ret (fun c => by first | exact ne_of_beq_false (by assumption) (Option.some.inj c.2) | exact hnm c.1 | exact (nomatch c.2)) _ _ _ _ _ ?u ?f ?k ?F ?N
         (case N => first | k_asm | exact news_tl (by assumption) | exact news_tl (news_tl (by assumption)) | exact news_tl (news_tl (news_tl (by assumption))))
         (case F => k_asm)
         (case u => assumption)
         (case f => assumption)
         (case k => exact Or.inr ⟨fun c => c.1 rfl, rfl⟩))
  · have hv := hdel hnm
    have hbe : (nm == Str.ofString "") = false := beq_false_of_ne hnm
    have hbe : (nm != Str.ofString "") = true := bne_iff_ne.mpr hnm
    rcases told_two htv with ⟨rfl, rfl⟩ | ⟨x, t, rfl, rfl, hx⟩
    all_goals
      k_dflt k_enter
      k_steps
      all_goals first
      | (refine raised _ _ _ _ ⟨rfl, congrArg some (eq_of_beq (by assumption))⟩ (by assumption) (raised_sub (by assumption) (fun p hp => ?_)) (by assumption)
         rcases List.mem_cons.mp hp with rfl | hp
         · k_mem
         rcases List.mem_cons.mp hp with rfl | hp
         · k_mem
         · k_mem)
      | (refine' ret (fun c => by first | exact ne_of_beq_false (by assumption) (Option.some.inj c.2) | exact hnm c.1 | exact (nomatch c.2)) _ _ _ _ _ ?u ?f ?k ?F ?N
         (case N => first | k_asm | exact news_tl (by assumption) | exact news_tl (news_tl (by assumption)) | exact news_tl (news_tl (news_tl (by assumption))))
         (case F => k_asm)
         (case u => assumption)
         (case f => assumption)
         (case k => first | exact Or.inl ⟨hnm, congrArg some (eq_of_beq (by assumption)), rfl⟩ | exact Or.inr ⟨fun c => by first | exact ne_of_beq_false (by assumption) (Option.some.inj c.2) | exact (nomatch c.2), rfl⟩))))
end
end
section
structure USt where
  nm : Str
  pl : Nat
  own : List Value
structure St where
  ks : List Int
  U : Int → USt
  ns : List Str
  F : Str → List Value
def addK {α : Type} [DecidableEq α] (l : List α) (a : α) : List α := if a ∈ l then l else l ++ [a]
def upd {α β : Type} [DecidableEq α] (f : α → β) (a : α) (b : β) : α → β := fun x => if x = a then b else f x
def recsOf (st : St) (k : Int) : List Value := if (st.U k).nm = Str.ofString "" then (st.U k).own else st.F (st.U k).nm
def wanted (k : Int) (nm : Option Str) : Str := nm.getD (fort k)
abbrev againP (st : St) (k : Int) (nm : Option Str) : Prop := k ∈ st.ks ∧ (nm = none ∨ nm = some (st.U k).nm)
def openOk (st : St) (k : Int) (told : Str) (nm : Option Str) : Bool :=
  if told = Str.ofString "SCRATCH" ∧ nm ≠ none then false
  else if againP st k nm then decide (told = Str.ofString "OLD" ∨ told = Str.ofString "UNKNOWN")
  else if told = Str.ofString "SCRATCH" then true
  else if wanted k nm ∈ st.ks.map (fun k => (st.U k).nm) then false
  else if (wanted k nm ∈ st.ns ∧ told = Str.ofString "NEW") ∨ (wanted k nm ∉ st.ns ∧ told = Str.ofString "OLD") then false else true
def okOf (st : St) : Deed → Bool
  | .opn k told nm => openOk st k told nm
  | .cls k told => !decide (k ∈ st.ks ∧ (st.U k).nm = Str.ofString "" ∧ told = some (Str.ofString "KEEP"))
  | _ => true
/-- a new connection -/
def opened (st : St) (k : Int) (told : Str) (nm : Option Str) : St :=
  if told = Str.ofString "SCRATCH" then { st with ks := addK st.ks k, U := upd st.U k ⟨Str.ofString "", 0, []⟩ }
  else { ks := addK st.ks k, U := upd st.U k ⟨wanted k nm, 0, []⟩, ns := addK st.ns (wanted k nm), F := if wanted k nm ∈ st.ns then st.F else upd st.F (wanted k nm) [] }
def closed (st : St) (k : Int) (told : Option Str) : St :=
  { st with ks := st.ks.filter (fun x => decide (x ≠ k)), ns := if (st.U k).nm ≠ Str.ofString "" ∧ told = some (Str.ofString "DELETE") then st.ns.filter (fun x => decide (x ≠ (st.U k).nm)) else st.ns }
def written (st : St) (k : Int) (r : Value) : St :=
  if (st.U k).nm = Str.ofString "" then { st with U := upd st.U k ⟨Str.ofString "", (st.U k).pl + 1, (st.U k).own.take (st.U k).pl ++ [r]⟩ }
  else { st with U := upd st.U k ⟨(st.U k).nm, (st.U k).pl + 1, (st.U k).own⟩, F := upd st.F (st.U k).nm ((st.F (st.U k).nm).take (st.U k).pl ++ [r]) }
def rewound (st : St) (k : Int) : St := { st with U := upd st.U k ⟨(st.U k).nm, 0, (st.U k).own⟩ }
def step (st : St) : Deed → St
  | .opn k told nm => if openOk st k told nm = true ∧ ¬ againP st k nm then opened st k told nm else st
  | .cls k told => if k ∈ st.ks ∧ okOf st (.cls k told) = true then closed st k told else st
  | .wrt k r => written st k r
  | .rew k => rewound st k
/-- what every state keeps; bd bounds its lists -/
structure SOk (st : St) (bd : Nat) : Prop where
  nk : st.ks.Nodup
  nn : st.ns.Nodup
  rk : ∀ k ∈ st.ks, 1 ≤ k ∧ k ≤ 3
  rn : ∀ x ∈ st.ns, Five x
  inn : ∀ k ∈ st.ks, (st.U k).nm ≠ Str.ofString "" → (st.U k).nm ∈ st.ns
  uniq : ∀ i ∈ st.ks, ∀ j ∈ st.ks, (st.U i).nm = (st.U j).nm → (st.U i).nm ≠ Str.ofString "" → i = j
  pl : ∀ k ∈ st.ks, (st.U k).pl ≤ (recsOf st k).length
  bk : st.ks.length ≤ bd
  bn : st.ns.length ≤ bd
  br : ∀ k ∈ st.ks, (recsOf st k).length ≤ bd
  bf : ∀ x ∈ st.ns, (st.F x).length ≤ bd
  own : ∀ k ∈ st.ks, (st.U k).nm ≠ Str.ofString "" → (st.U k).own = []
/-- the deed's unit is there when it is written or rewound -/
def Fits (st : St) : Deed → Prop
  | .opn k told nm => 1 ≤ k ∧ k ≤ 3 ∧ StatusIn told ∧ ∀ x, nm = some x → Five x
  | .cls k told => 1 ≤ k ∧ k ≤ 3 ∧ (told = none ∨ told = some (Str.ofString "KEEP") ∨ told = some (Str.ofString "DELETE"))
  | .wrt k _ => k ∈ st.ks
  | .rew k => k ∈ st.ks
theorem upd_self {α β : Type} [DecidableEq α] (f : α → β) (a : α) (b : β) : upd f a b a = b := if_pos rfl
theorem upd_ne {α β : Type} [DecidableEq α] (f : α → β) {a x : α} (b : β) (h : x ≠ a) : upd f a b x = f x := if_neg h
theorem mem_addK {α : Type} [DecidableEq α] {l : List α} {a x : α} : x ∈ addK l a ↔ x ∈ l ∨ x = a := by
  unfold addK
  split
  · exact ⟨.inl, fun h => h.elim id fun e => e ▸ (by assumption)⟩
  · rw [List.mem_append, List.mem_singleton]
theorem nodup_addK {α : Type} [DecidableEq α] {l : List α} (h : l.Nodup) (a : α) : (addK l a).Nodup := by
  unfold addK
  split
  · exact h
  · rename_i hn
    rw [List.nodup_append]
    refine ⟨h, by simp, fun x hx y hy e => ?_⟩
    rw [List.mem_singleton] at hy
    subst hy; subst e; exact hn hx
theorem length_addK {α : Type} [DecidableEq α] (l : List α) (a : α) : (addK l a).length ≤ l.length + 1 := by
  unfold addK
  split
  · omega
  · simp
theorem keys_stored {K : Type} [DecidableEq K] (kvs : List (K × Value)) (k : K) (v : Value) : (stored kvs k v).map (·.1) = addK (kvs.map (·.1)) k := by
  unfold stored addK
  by_cases h : k ∈ kvs.map (·.1)
  · rw [if_pos h, if_pos ?_]
    · rw [List.map_map]
      apply List.map_congr_left
      intro p _
      show (if p.1 = k then (p.1, v) else p).1 = p.1
      split <;> rfl
    · obtain ⟨p, hp, e⟩ := List.mem_map.mp h
      exact List.any_eq_true.mpr ⟨p, hp, decide_eq_true e⟩
  · rw [if_neg h, if_neg ?_]
    · simp
    · intro c
      obtain ⟨p, hp, e⟩ := List.any_eq_true.mp c
      exact h (List.mem_map.mpr ⟨p, hp, of_decide_eq_true e⟩)
theorem keys_without {K : Type} [DecidableEq K] (kvs : List (K × Value)) (k : K) : (without kvs k).map (·.1) = (kvs.map (·.1)).filter (fun x => decide (x ≠ k)) := by
  unfold without
  rw [List.filter_map]
  rfl
theorem valueAt_stored_ne {K : Type} [DecidableEq K] (kvs : List (K × Value)) {k x : K} (v : Value) (h : x ≠ k) : valueAt (stored kvs k v) x = valueAt kvs x := by
  unfold stored
  split
  · rename_i hs
    clear hs
    unfold valueAt
    induction kvs with
    | nil => rfl
    | cons p r ih =>
      rw [List.map_cons, List.find?_cons, List.find?_cons]
      by_cases e : p.1 = k
      · have : decide (p.1 = x) = false := decide_eq_false fun c => h (c.symm.trans e)
        rw [if_pos e]
        show Option.map _ (match decide (p.1 = x) with | true => _ | false => _) = _
        rw [this]
        exact ih
      · rw [if_neg e]
        cases decide (p.1 = x) with
        | true => rfl
        | false => exact ih
  · unfold valueAt
    rw [List.find?_append]
    have : List.find? (fun kv : K × Value => decide (kv.1 = x)) [(k, v)] = none := by
      rw [List.find?_cons, decide_eq_false fun c => h c.symm]; rfl
    rw [this, Option.or_none]
theorem valueAt_without_ne {K : Type} [DecidableEq K] (kvs : List (K × Value)) {k x : K} (h : x ≠ k) : valueAt (without kvs k) x = valueAt kvs x := by
  unfold valueAt without
  induction kvs with
  | nil => rfl
  | cons p r ih =>
    rw [List.filter_cons]
    by_cases e : p.1 = k
    · rw [if_neg (by simp [e]), List.find?_cons, decide_eq_false fun c => h (c.symm.trans e)]
      exact ih
    · rw [if_pos (by simp [e]), List.find?_cons, List.find?_cons]
      cases decide (p.1 = x) with
      | true => rfl
      | false => exact ih
theorem valueAt_isSome {K : Type} [DecidableEq K] {kvs : List (K × Value)} {k : K} (h : k ∈ kvs.map (·.1)) : ∃ v, valueAt kvs k = some v := by
  cases e : valueAt kvs k with
  | some v => exact ⟨v, rfl⟩
  | none =>
    obtain ⟨p, hp, rfl⟩ := List.mem_map.mp h
    exact absurd hp (valueAt_none.mp e p.2)
theorem valueAt_key {K : Type} [DecidableEq K] {kvs : List (K × Value)} {k : K} {v : Value} (h : valueAt kvs k = some v) : k ∈ kvs.map (·.1) := List.mem_map.mpr ⟨_, mem_valueAt h, rfl⟩
theorem valueAt_no {K : Type} [DecidableEq K] {kvs : List (K × Value)} {k : K} (h : k ∉ kvs.map (·.1)) : valueAt kvs k = none := by
  cases e : valueAt kvs k with
  | none => rfl
  | some v => exact absurd (valueAt_key e) h
end
section
theorem five_ne {x : Str} (h : Five x) : x ≠ Str.ofString "" := by
  rcases h with rfl | rfl | rfl | rfl | rfl <;> decide +kernel
theorem fort_five {k : Int} (h1 : 1 ≤ k) (h2 : k ≤ 3) : Five (fort k) := by
  have : k = 1 ∨ k = 2 ∨ k = 3 := by omega
  rcases this with rfl | rfl | rfl
  · exact .inr (.inr (.inl (by decide +kernel)))
  · exact .inr (.inr (.inr (.inl (by decide +kernel))))
  · exact .inr (.inr (.inr (.inr (by decide +kernel))))
theorem wanted_five {k : Int} {nm : Option Str} (h1 : 1 ≤ k) (h2 : k ≤ 3) (h : ∀ x, nm = some x → Five x) : Five (wanted k nm) := by
  cases nm with
  | none => exact fort_five h1 h2
  | some x => exact h x rfl
theorem sok_up {st : St} {bd : Nat} (S : SOk st bd) : SOk st (bd + 1) :=
  ⟨S.nk, S.nn, S.rk, S.rn, S.inn, S.uniq, S.pl, Nat.le_succ_of_le S.bk, Nat.le_succ_of_le S.bn, fun k h => Nat.le_succ_of_le (S.br k h), fun k h => Nat.le_succ_of_le (S.bf k h), S.own⟩
theorem recs_named {st : St} {k : Int} (h : (st.U k).nm ≠ Str.ofString "") : recsOf st k = st.F (st.U k).nm := if_neg h
theorem recs_scratch {st : St} {k : Int} (h : (st.U k).nm = Str.ofString "") : recsOf st k = (st.U k).own := if_pos h
theorem recs_eq {st st' : St} {j : Int} (e1 : st'.U j = st.U j) (e2 : (st.U j).nm ≠ Str.ofString "" → st'.F (st.U j).nm = st.F (st.U j).nm) : recsOf st' j = recsOf st j := by
  unfold recsOf
  rw [e1]
  by_cases h : (st.U j).nm = Str.ofString ""
  · rw [if_pos h, if_pos h]
  · rw [if_neg h, if_neg h, e2 h]
theorem sok_opened {st : St} {bd : Nat} {k : Int} {told : Str} {nm : Option Str} (S : SOk st bd) (h1 : 1 ≤ k) (h2 : k ≤ 3) (hx : Five (wanted k nm)) (hf : told ≠ Str.ofString "SCRATCH" → wanted k nm ∉ st.ks.map (fun k => (st.U k).nm)) :
    SOk (opened st k told nm) (bd + 1) := by
  unfold opened
  by_cases ht : told = Str.ofString "SCRATCH"
  · rw [if_pos ht]
    have hr : ∀ j, j ≠ k → recsOf { st with ks := addK st.ks k, U := upd st.U k ⟨Str.ofString "", 0, []⟩ } j = recsOf st j := fun j hj => recs_eq (upd_ne _ _ hj) fun _ => rfl
    have hk : recsOf { st with ks := addK st.ks k, U := upd st.U k ⟨Str.ofString "", 0, []⟩ } k = [] := by
      unfold recsOf
      simp only [upd_self, if_true]
    have cs : ∀ j, j ∈ addK st.ks k → j = k ∨ (j ≠ k ∧ j ∈ st.ks) := fun j hj => by
      by_cases e : j = k
      · exact .inl e
      · exact .inr ⟨e, (mem_addK.mp hj).elim id fun c => absurd c e⟩
    refine ⟨nodup_addK S.nk k, S.nn, fun j hj => ?_, S.rn, fun j hj hn => ?_, fun i hi j hj e hn => ?_, fun j hj => ?_, Nat.le_trans (length_addK _ _) (Nat.succ_le_succ S.bk), Nat.le_succ_of_le S.bn, fun j hj => ?_, fun x hx => Nat.le_succ_of_le (S.bf x hx), fun j hj hn => ?_⟩
    · rcases cs j hj with rfl | ⟨_, hj⟩
      · exact ⟨h1, h2⟩
      · exact S.rk j hj
    · rcases cs j hj with rfl | ⟨e, hj⟩
      · simp only [upd_self] at hn; exact absurd rfl hn
      · simp only [upd_ne _ _ e] at hn ⊢; exact S.inn j hj hn
    · rcases cs i hi with rfl | ⟨ei, hi⟩
      · simp only [upd_self] at hn; exact absurd rfl hn
      · rcases cs j hj with rfl | ⟨ej, hj⟩
        · simp only [upd_self, upd_ne _ _ ei] at e hn; exact absurd e hn
        · simp only [upd_ne _ _ ei, upd_ne _ _ ej] at e hn; exact S.uniq i hi j hj e hn
    · rcases cs j hj with rfl | ⟨e, hj⟩
      · simp only [upd_self]; exact Nat.zero_le _
      · rw [hr j e]; simp only [upd_ne _ _ e]; exact S.pl j hj
    · rcases cs j hj with rfl | ⟨e, hj⟩
      · rw [hk]; exact Nat.zero_le _
      · rw [hr j e]; exact Nat.le_succ_of_le (S.br j hj)
    · rcases cs j hj with rfl | ⟨e, hj⟩
      · simp only [upd_self]
      · simp only [upd_ne _ _ e] at hn ⊢; exact S.own j hj hn
  · rw [if_neg ht]
    have hf := hf ht
    have hF : ∀ x, x ∈ st.ns → (if wanted k nm ∈ st.ns then st.F else upd st.F (wanted k nm) []) x = st.F x := fun x hx => by
      split
      · rfl
      · rename_i c
        exact upd_ne _ _ fun e => c (e ▸ hx)
    have hW : wanted k nm ∉ st.ns → (if wanted k nm ∈ st.ns then st.F else upd st.F (wanted k nm) []) (wanted k nm) = [] := fun c => by rw [if_neg c, upd_self]
    have hnw : ∀ j ∈ st.ks, (st.U j).nm ≠ wanted k nm := fun j hj e => hf (e ▸ List.mem_map.mpr ⟨j, hj, rfl⟩)
    have cs : ∀ j, j ∈ addK st.ks k → j = k ∨ (j ≠ k ∧ j ∈ st.ks) := fun j hj => by
      by_cases e : j = k
      · exact .inl e
      · exact .inr ⟨e, (mem_addK.mp hj).elim id fun c => absurd c e⟩
    generalize hFF : (if wanted k nm ∈ st.ns then st.F else upd st.F (wanted k nm) []) = FF at hF hW
    have hr : ∀ j, j ≠ k → j ∈ st.ks → recsOf ⟨addK st.ks k, upd st.U k ⟨wanted k nm, 0, []⟩, addK st.ns (wanted k nm), FF⟩ j = recsOf st j := fun j hj hm => recs_eq (upd_ne _ _ hj) fun hn => hF _ (S.inn j hm hn)
    have hk : (recsOf ⟨addK st.ks k, upd st.U k ⟨wanted k nm, 0, []⟩, addK st.ns (wanted k nm), FF⟩ k).length ≤ bd := by
      unfold recsOf
      simp only [upd_self]
      rw [if_neg (five_ne hx)]
      by_cases c : wanted k nm ∈ st.ns
      · rw [hF _ c]; exact S.bf _ c
      · rw [hW c]; exact Nat.zero_le _
    refine ⟨nodup_addK S.nk k, nodup_addK S.nn _, fun j hj => ?_, fun x hx' => ?_, fun j hj hn => ?_, fun i hi j hj e hn => ?_, fun j hj => ?_, Nat.le_trans (length_addK _ _) (Nat.succ_le_succ S.bk), Nat.le_trans (length_addK _ _) (Nat.succ_le_succ S.bn), fun j hj => ?_, fun x hx' => ?_, fun j hj hn => ?_⟩
    · rcases cs j hj with rfl | ⟨_, hj⟩
      · exact ⟨h1, h2⟩
      · exact S.rk j hj
    · rcases mem_addK.mp hx' with c | rfl
      · exact S.rn x c
      · exact hx
    · rcases cs j hj with rfl | ⟨e, hj⟩
      · simp only [upd_self]; exact mem_addK.mpr (.inr rfl)
      · simp only [upd_ne _ _ e] at hn ⊢; exact mem_addK.mpr (.inl (S.inn j hj hn))
    · rcases cs i hi with rfl | ⟨ei, hi⟩
      · rcases cs j hj with rfl | ⟨ej, hj⟩
        · rfl
        · simp only [upd_self, upd_ne _ _ ej] at e; exact absurd e.symm (hnw j hj)
      · have hi' := hi
        rcases cs j hj with rfl | ⟨ej, hj⟩
        · simp only [upd_self, upd_ne _ _ ei] at e; exact absurd e (hnw i hi')
        · simp only [upd_ne _ _ ei, upd_ne _ _ ej] at e hn; exact S.uniq i hi j hj e hn
    · rcases cs j hj with rfl | ⟨e, hj⟩
      · simp only [upd_self]; exact Nat.zero_le _
      · rw [hr j e hj]; simp only [upd_ne _ _ e]; exact S.pl j hj
    · rcases cs j hj with rfl | ⟨e, hj⟩
      · exact Nat.le_succ_of_le hk
      · rw [hr j e hj]; exact Nat.le_succ_of_le (S.br j hj)
    · by_cases c : x ∈ st.ns
      · show (FF x).length ≤ _
        rw [hF x c]; exact Nat.le_succ_of_le (S.bf x c)
      · rcases mem_addK.mp hx' with c' | rfl
        · exact absurd c' c
        · show (FF _).length ≤ _
          rw [hW c]; exact Nat.zero_le _
    · rcases cs j hj with rfl | ⟨e, hj⟩
      · simp only [upd_self]
      · simp only [upd_ne _ _ e] at hn ⊢; exact S.own j hj hn
theorem sok_closed {st : St} {bd : Nat} {k : Int} {told : Option Str} (S : SOk st bd) (hk : k ∈ st.ks) : SOk (closed st k told) bd := by
  unfold closed
  have hsub : ∀ j, j ∈ st.ks.filter (fun x => decide (x ≠ k)) → j ∈ st.ks ∧ j ≠ k := fun j hj => ⟨(List.mem_filter.mp hj).1, of_decide_eq_true (List.mem_filter.mp hj).2⟩
  have hr : ∀ (l : List Int) (n : List Str) j, recsOf ⟨l, st.U, n, st.F⟩ j = recsOf st j := fun _ _ _ => rfl
  have hns : ∀ x, x ∈ (if (st.U k).nm ≠ Str.ofString "" ∧ told = some (Str.ofString "DELETE") then st.ns.filter (fun x => decide (x ≠ (st.U k).nm)) else st.ns) → x ∈ st.ns := fun x hx => by
    split at hx
    · exact (List.mem_filter.mp hx).1
    · exact hx
  refine ⟨S.nk.filter _, ?_, fun j hj => S.rk j (hsub j hj).1, fun x hx => S.rn x (hns x hx), fun j hj hn => ?_, fun i hi j hj e hn => S.uniq i (hsub i hi).1 j (hsub j hj).1 e hn, fun j hj => S.pl j (hsub j hj).1,
    Nat.le_trans (List.length_filter_le _ _) S.bk, ?_, fun j hj => S.br j (hsub j hj).1, fun x hx => S.bf x (hns x hx), fun j hj hn => S.own j (hsub j hj).1 hn⟩
  · show (if _ then _ else _ : List Str).Nodup
    split
    · exact S.nn.filter _
    · exact S.nn
  · show _ ∈ (if _ then _ else _ : List Str)
    have q := S.inn j (hsub j hj).1 hn
    split
    · rename_i c
      exact List.mem_filter.mpr ⟨q, decide_eq_true fun e => (hsub j hj).2 (S.uniq j (hsub j hj).1 k hk e hn)⟩
    · exact q
  · show (if _ then _ else _ : List Str).length ≤ _
    split
    · exact Nat.le_trans (List.length_filter_le _ _) S.bn
    · exact S.bn
theorem sok_rewound {st : St} {bd : Nat} {k : Int} (S : SOk st bd) (_ : k ∈ st.ks) : SOk (rewound st k) bd := by
  unfold rewound
  have hnm : ∀ j, (upd st.U k ⟨(st.U k).nm, 0, (st.U k).own⟩ j).nm = (st.U j).nm := fun j => by
    by_cases e : j = k
    · subst e; rw [upd_self]
    · rw [upd_ne _ _ e]
  have hown : ∀ j, (upd st.U k ⟨(st.U k).nm, 0, (st.U k).own⟩ j).own = (st.U j).own := fun j => by
    by_cases e : j = k
    · subst e; rw [upd_self]
    · rw [upd_ne _ _ e]
  have hr : ∀ j, recsOf { st with U := upd st.U k ⟨(st.U k).nm, 0, (st.U k).own⟩ } j = recsOf st j := fun j => by
    unfold recsOf
    simp only [hnm, hown]
  refine ⟨S.nk, S.nn, S.rk, S.rn, fun j hj hn => ?_, fun i hi j hj e hn => ?_, fun j hj => ?_, S.bk, S.bn, fun j hj => by rw [hr]; exact S.br j hj, S.bf, fun j hj hn => ?_⟩
  · simp only [hnm] at hn ⊢; exact S.inn j hj hn
  · simp only [hnm] at e hn; exact S.uniq i hi j hj e hn
  · rw [hr]
    by_cases e : j = k
    · subst e; simp only [upd_self]; exact Nat.zero_le _
    · simp only [upd_ne _ _ e]; exact S.pl j hj
  · simp only [hnm, hown] at hn ⊢; exact S.own j hj hn
theorem written_nm (st : St) (k : Int) (r : Value) (j : Int) : ((written st k r).U j).nm = (st.U j).nm := by
  unfold written
  by_cases h : (st.U k).nm = Str.ofString ""
  · rw [if_pos h]
    by_cases e : j = k
    · subst e; simp only [upd_self]; exact h.symm
    · simp only [upd_ne _ _ e]
  · rw [if_neg h]
    by_cases e : j = k
    · subst e; simp only [upd_self]
    · simp only [upd_ne _ _ e]
theorem written_ks (st : St) (k : Int) (r : Value) : (written st k r).ks = st.ks := by unfold written; split <;> rfl
theorem written_ns (st : St) (k : Int) (r : Value) : (written st k r).ns = st.ns := by unfold written; split <;> rfl
theorem written_pl (st : St) (k : Int) (r : Value) : ((written st k r).U k).pl = (st.U k).pl + 1 := by unfold written; split <;> simp only [upd_self]
theorem written_U (st : St) {k j : Int} (r : Value) (h : j ≠ k) : (written st k r).U j = st.U j := by unfold written; split <;> simp only [upd_ne _ _ h]
theorem written_recs (st : St) (k : Int) (r : Value) : recsOf (written st k r) k = (recsOf st k).take (st.U k).pl ++ [r] := by
  by_cases h : (st.U k).nm = Str.ofString ""
  · rw [recs_scratch ((written_nm st k r k).trans h), recs_scratch h]
    unfold written
    rw [if_pos h]; simp only [upd_self]
  · rw [recs_named (by rw [written_nm]; exact h), recs_named h, written_nm]
    unfold written
    rw [if_neg h]; simp only [upd_self]
theorem written_F (st : St) {k : Int} (r : Value) {x : Str} (h : x ≠ (st.U k).nm ∨ (st.U k).nm = Str.ofString "") : (written st k r).F x = st.F x := by
  unfold written
  split
  · rfl
  · rename_i c
    exact upd_ne _ _ (h.resolve_right c)
theorem written_at (st : St) {k : Int} (r : Value) (h : (st.U k).nm ≠ Str.ofString "") : (written st k r).F (st.U k).nm = (st.F (st.U k).nm).take (st.U k).pl ++ [r] := by
  unfold written
  rw [if_neg h]; simp only [upd_self]
theorem written_other {st : St} {bd : Nat} (S : SOk st bd) {k j : Int} (r : Value) (hk : k ∈ st.ks) (hj : j ∈ st.ks) (e : j ≠ k) : recsOf (written st k r) j = recsOf st j :=
  recs_eq (written_U st r e) fun hn => written_F st r (by
    by_cases c : (st.U k).nm = Str.ofString ""
    · exact .inr c
    · exact .inl fun d => e (S.uniq j hj k hk d hn))
theorem sok_written {st : St} {bd : Nat} {k : Int} (r : Value) (S : SOk st bd) (hk : k ∈ st.ks) : SOk (written st k r) (bd + 1) := by
  have hlen : (recsOf (written st k r) k).length = (st.U k).pl + 1 := by
    rw [written_recs, List.length_append, List.length_take]
    have := S.pl k hk
    simp only [List.length_cons, List.length_nil]
    omega
  have hown : ∀ j, ((written st k r).U j).nm ≠ Str.ofString "" → ((written st k r).U j).own = (st.U j).own := fun j hn => by
    by_cases e : j = k
    · subst e
      rw [written_nm] at hn
      unfold written
      rw [if_neg hn]; simp only [upd_self]
    · rw [written_U st r e]
  refine ⟨by rw [written_ks]; exact S.nk, by rw [written_ns]; exact S.nn, by rw [written_ks]; exact S.rk, by rw [written_ns]; exact S.rn, fun j hj hn => ?_, fun i hi j hj e hn => ?_, fun j hj => ?_, by rw [written_ks]; exact Nat.le_succ_of_le S.bk, by rw [written_ns]; exact Nat.le_succ_of_le S.bn, fun j hj => ?_, fun x hx => ?_, fun j hj hn => ?_⟩ <;> (try rw [written_ks] at hj) <;> (try rw [written_ks] at hi)
  · rw [written_nm, written_ns] at *; exact S.inn j hj hn
  · rw [written_nm] at *; rw [written_nm] at e; exact S.uniq i hi j hj e hn
  · by_cases e : j = k
    · subst e; rw [hlen, written_pl]; exact Nat.le_refl _
    · rw [written_other S r hk hj e, written_U st r e]; exact S.pl j hj
  · by_cases e : j = k
    · subst e; rw [hlen]
      exact Nat.succ_le_succ (Nat.le_trans (S.pl j hj) (S.br j hj))
    · rw [written_other S r hk hj e]; exact Nat.le_succ_of_le (S.br j hj)
  · rw [written_ns] at hx
    by_cases c : x ≠ (st.U k).nm ∨ (st.U k).nm = Str.ofString ""
    · rw [written_F st r c]; exact Nat.le_succ_of_le (S.bf x hx)
    · have c1 : x = (st.U k).nm := Classical.byContradiction fun d => c (.inl d)
      have c2 : (st.U k).nm ≠ Str.ofString "" := fun d => c (.inr d)
      have : recsOf (written st k r) k = (written st k r).F x := by rw [recs_named (by rw [written_nm]; exact c2), written_nm, c1]
      rw [← this, hlen]
      exact Nat.succ_le_succ (Nat.le_trans (S.pl k hk) (S.br k hk))
  · rw [hown j hn]
    rw [written_nm] at hn
    exact S.own j hj hn
theorem openOk_free {st : St} {k : Int} {told : Str} {nm : Option Str} (h : openOk st k told nm = true) (ha : ¬ againP st k nm) (ht : told ≠ Str.ofString "SCRATCH") : wanted k nm ∉ st.ks.map (fun k => (st.U k).nm) := fun c => by
  unfold openOk at h
  rw [if_neg (fun d => ht d.1), if_neg ha, if_neg ht, if_pos c] at h
  cases h
theorem sok_step {st : St} {bd : Nat} {d : Deed} (S : SOk st bd) (hf : Fits st d) : SOk (step st d) (bd + 1) := by
  cases d with
  | opn k told nm =>
    unfold step
    dsimp only
    split
    · rename_i c
      exact sok_opened S hf.1 hf.2.1 (wanted_five hf.1 hf.2.1 hf.2.2.2) fun ht => openOk_free c.1 c.2 ht
    · exact sok_up S
  | cls k told =>
    unfold step
    dsimp only
    split
    · rename_i c
      exact sok_up (sok_closed S c.1)
    · exact sok_up S
  | wrt k r => exact sok_written r S hf
  | rew k => exact sok_up (sok_rewound S hf)
end
section
/-- two members with one address are one -/
def Fn (l : List (Addr × Obj)) : Prop := ∀ a o o', (a, o) ∈ l → (a, o') ∈ l → o = o'
theorem news_fn {h₀ h : Heap} {L : Addr} {l : List (Addr × Obj)} (N : News h₀ L h l) : Fn l := fun a o o' h1 h2 => by
  have e1 := (N _ h1).1
  have e2 := (N _ h2).1
  exact Option.some.inj (e1.symm.trans e2)
/-- no address in common -/
def Dis (A R : List (Addr × Obj)) : Prop := ∀ p ∈ A, ∀ q ∈ R, p.1 ≠ q.1
/-- the ledger with the cell at a changed -/
def put (A : List (Addr × Obj)) (a : Addr) (o : Obj) : List (Addr × Obj) := (a, o) :: A.filter (fun p => decide (p.1 ≠ a))
theorem mem_put {A : List (Addr × Obj)} {a : Addr} {o : Obj} {p : Addr × Obj} (h : p ∈ A) (hn : p.1 ≠ a) : p ∈ put A a o := .tail _ (List.mem_filter.mpr ⟨h, decide_eq_true hn⟩)
theorem mem_put' {A : List (Addr × Obj)} {a b : Addr} {o o' : Obj} (h : (a, o) ∈ A) (hn : a ≠ b) : (a, o) ∈ put A b o' := mem_put h hn
theorem put_self (A : List (Addr × Obj)) (a : Addr) (o : Obj) : (a, o) ∈ put A a o := .head _
theorem of_put {A : List (Addr × Obj)} {a : Addr} {o : Obj} {p : Addr × Obj} (h : p ∈ put A a o) : p = (a, o) ∨ (p ∈ A ∧ p.1 ≠ a) := by
  rcases List.mem_cons.mp h with e | h
  · exact .inl e
  · exact .inr ⟨(List.mem_filter.mp h).1, of_decide_eq_true (List.mem_filter.mp h).2⟩
theorem dis_put {A R : List (Addr × Obj)} {a : Addr} {o o' : Obj} (D : Dis A R) (h : (a, o) ∈ A) : Dis (put A a o') R := fun p hp q hq => by
  rcases of_put hp with rfl | ⟨hp, _⟩
  · exact D _ h q hq
  · exact D p hp q hq
/-- the rest of a ledger without one address -/
def rest (l : List (Addr × Obj)) (a : Addr) : List (Addr × Obj) := l.filter (fun p => decide (p.1 ≠ a))
theorem mem_rest {l : List (Addr × Obj)} {a : Addr} {p : Addr × Obj} : p ∈ rest l a ↔ p ∈ l ∧ p.1 ≠ a := by
  unfold rest
  rw [List.mem_filter]
  exact ⟨fun h => ⟨h.1, of_decide_eq_true h.2⟩, fun h => ⟨h.1, decide_eq_true h.2⟩⟩
theorem news_focus {h₀ h : Heap} {L : Addr} {l : List (Addr × Obj)} {a : Addr} {o : Obj} (N : News h₀ L h l) (h1 : (a, o) ∈ l) : News h₀ L h ((a, o) :: rest l a) := news_sub N fun p hp => by
  rcases List.mem_cons.mp hp with rfl | hp
  · exact h1
  · exact (mem_rest.mp hp).1
theorem rest_ne (l : List (Addr × Obj)) (a : Addr) : ∀ p ∈ rest l a, p.1 ≠ a := fun _ hp => (mem_rest.mp hp).2
theorem news_unfocus {h₀ h : Heap} {L : Addr} {A R : List (Addr × Obj)} {a : Addr} {o o' : Obj} (N : News h₀ L h ((a, o') :: rest (A ++ R) a)) (D : Dis A R) (h1 : (a, o) ∈ A) : News h₀ L h (put A a o' ++ R) := news_sub N fun p hp => by
  rcases List.mem_append.mp hp with hp | hp
  · rcases of_put hp with rfl | ⟨hp, hn⟩
    · exact .head _
    · exact .tail _ (mem_rest.mpr ⟨List.mem_append_left _ hp, hn⟩)
  · exact .tail _ (mem_rest.mpr ⟨List.mem_append_right _ hp, fun e => D _ h1 p hp e.symm⟩)
/-- kinds of objects -/
theorem inst_dict {C d : Addr} {es : List DictEntry} {n : Nat} (h : instObj C d = dictOf es n) : False := by
  have := congrArg Obj.cls h
  cases this
theorem list_dict {its : Array Value} {k n : Nat} {es : List DictEntry} (h : listOf its k = dictOf es n) : False := by
  have := congrArg Obj.cls h
  simp [W.listOf] at this
theorem unit_inst {C d fa : Addr} {o : Obj} {k : Int} {pl : Nat} (h : UnitD o k fa pl) (e : o = instObj C d) : False := by
  obtain ⟨a0, a1, a2, a3, b0, b1, b2, b3, b4, b5, b6, n, rfl⟩ := h
  exact inst_dict e.symm
theorem file_inst {C d ra : Addr} {o : Obj} {nm : Str} (h : FileD o nm ra) (e : o = instObj C d) : False := by
  obtain ⟨c0, c1, c2, c3, c4, c5, e0, e1, e2, e3, e4, e5, e6, e7, e8, e9, na, n, rfl⟩ := h
  exact inst_dict e.symm
theorem unit_list {fa : Addr} {o : Obj} {k : Int} {pl : Nat} {its : Array Value} {q : Nat} (h : UnitD o k fa pl) (e : o = listOf its q) : False := by
  obtain ⟨a0, a1, a2, a3, b0, b1, b2, b3, b4, b5, b6, n, rfl⟩ := h
  exact list_dict e.symm
theorem file_list {ra : Addr} {o : Obj} {nm : Str} {its : Array Value} {q : Nat} (h : FileD o nm ra) (e : o = listOf its q) : False := by
  obtain ⟨c0, c1, c2, c3, c4, c5, e0, e1, e2, e3, e4, e5, e6, e7, e8, e9, na, n, rfl⟩ := h
  exact list_dict e.symm
theorem dict_es {es es' : List DictEntry} {n n' : Nat} (h : dictOf es n = dictOf es' n') : es = es' := by
  have := congrArg Obj.data h
  simp at this
  exact this.1
theorem unit_num {fa fa' : Addr} {o : Obj} {k k' : Int} {pl pl' : Nat} (h : UnitD o k fa pl) (h' : UnitD o k' fa' pl') : k = k' := by
  obtain ⟨a0, a1, a2, a3, b0, b1, b2, b3, b4, b5, b6, n, rfl⟩ := h
  obtain ⟨_, _, _, _, _, _, _, _, _, _, _, _, e⟩ := h'
  have := dict_es e
  simp only [List.cons.injEq, DictEntry.mk.injEq, Value.int.injEq] at this
  exact this.1.2.2.1
theorem file_nm {ra ra' : Addr} {o : Obj} {nm nm' : Str} (h : FileD o nm ra) (h' : FileD o nm' ra') : nm = nm' ∧ ra = ra' := by
  obtain ⟨c0, c1, c2, c3, c4, c5, e0, e1, e2, e3, e4, e5, e6, e7, e8, e9, na, n, rfl⟩ := h
  obtain ⟨_, _, _, _, _, _, _, _, _, _, _, _, _, _, _, _, _, _, e⟩ := h'
  have := dict_es e
  simp only [List.cons.injEq, DictEntry.mk.injEq, Value.str.injEq, Value.ref.injEq] at this
  exact ⟨this.1.2.2.1, this.2.2.2.2.1.2.2⟩
theorem unit_file {fa ra : Addr} {o : Obj} {k : Int} {nm : Str} {pl : Nat} (h : UnitD o k fa pl) (h' : FileD o nm ra) : False := by
  obtain ⟨a0, a1, a2, a3, b0, b1, b2, b3, b4, b5, b6, n, rfl⟩ := h
  obtain ⟨_, _, _, _, _, _, _, _, _, _, _, _, _, _, _, _, _, _, e⟩ := h'
  have := congrArg List.length (dict_es e)
  cases this
theorem inst_inj {C C' d d' : Addr} (h : instObj C d = instObj C' d') : d = d' := by
  have := congrArg Obj.dict h
  exact Option.some.inj this
/-- one connected unit in the ledger -/
structure UnitIn (du df : Addr) (A : List (Addr × Obj)) (st : St) (kvU : List (Int × Value)) (fa fda : Addr) (ga : Str → Addr) (k : Int) (ua uda : Addr) (od fod : Obj) (ra : Addr) (rn : Nat) : Prop where
  at_ : valueAt kvU k = some (.ref ua)
  ui : (ua, instObj 147 uda) ∈ A
  ud : (uda, od) ∈ A
  uD : UnitD od k fa (st.U k).pl
  fi : (fa, instObj 105 fda) ∈ A
  fd : (fda, fod) ∈ A
  fD : FileD fod (st.U k).nm ra
  r : (ra, listOf (recsOf st k).toArray rn) ∈ A
  g : (st.U k).nm ≠ Str.ofString "" → fa = ga (st.U k).nm
  n1 : @Ne Nat uda du
  n2 : @Ne Nat uda df
  n3 : @Ne Nat fda du
  n4 : @Ne Nat fda df
/-- one file of the store in the ledger -/
structure FileIn (du df : Addr) (A : List (Addr × Obj)) (st : St) (kvF : List (Str × Value)) (ga : Addr) (x : Str) (gd : Addr) (fod : Obj) (ra : Addr) (rn : Nat) : Prop where
  at_ : valueAt kvF x = some (.ref ga)
  fi : (ga, instObj 105 gd) ∈ A
  fd : (gd, fod) ∈ A
  fD : FileD fod x ra
  r : (ra, listOf (st.F x).toArray rn) ∈ A
  n3 : @Ne Nat gd du
  n4 : @Ne Nat gd df
inductive UnitEx (du df : Addr) (A : List (Addr × Obj)) (st : St) (kvU : List (Int × Value)) (fa fda : Addr) (ga : Str → Addr) (k : Int) : Prop where
  | mk (ua uda : Addr) (od fod : Obj) (ra : Addr) (rn : Nat) (z : UnitIn du df A st kvU fa fda ga k ua uda od fod ra rn) : UnitEx du df A st kvU fa fda ga k
inductive FileEx (du df : Addr) (A : List (Addr × Obj)) (st : St) (kvF : List (Str × Value)) (ga : Addr) (x : Str) : Prop where
  | mk (gd : Addr) (fod : Obj) (ra : Addr) (rn : Nat) (z : FileIn du df A st kvF ga x gd fod ra rn) : FileEx du df A st kvF ga x
/-- the program's part of the ledger shows the state: its two dicts, units, files -/
structure PIn (w : World) (ud fd : Addr) (A : List (Addr × Obj)) (st : St) (uo fo : Obj) (kvU : List (Int × Value)) (kvF : List (Str × Value)) (fa fda : Int → Addr) (ga : Str → Addr) : Prop where
  u : (ud, uo) ∈ A
  f : (fd, fo) ∈ A
  uD : uo.IsDictOf (PySem.intKind P0 w) kvU
  fD : fo.IsDictOf (PySem.strKind P0 w) kvF
  ku : kvU.map (·.1) = st.ks
  kf : kvF.map (·.1) = st.ns
  units : ∀ k ∈ st.ks, UnitEx ud fd A st kvU (fa k) (fda k) ga k
  files : ∀ x ∈ st.ns, FileEx ud fd A st kvF (ga x) x
  sep : ∀ i ∈ st.ks, ∀ j ∈ st.ks, fda i = fda j → i = j
  ne : @Ne Nat ud fd
inductive PInv (w : World) (ud fd : Addr) (A : List (Addr × Obj)) (st : St) : Prop where
  | mk (uo fo : Obj) (kvU : List (Int × Value)) (kvF : List (Str × Value)) (fa fda : Int → Addr) (ga : Str → Addr) (I : PIn w ud fd A st uo fo kvU kvF fa fda ga) : PInv w ud fd A st
theorem UnitIn.mono {ud fd : Addr} {A A' : List (Addr × Obj)} {st st' : St} {kvU kvU' : List (Int × Value)} {fa fda : Addr} {ga ga' : Str → Addr} {k : Int} {ua uda : Addr} {od fod : Obj} {ra : Addr} {rn : Nat} (I : UnitIn ud fd A st kvU fa fda ga k ua uda od fod ra rn)
    (h1 : (ua, instObj 147 uda) ∈ A') (h2 : (uda, od) ∈ A') (h3 : (fa, instObj 105 fda) ∈ A') (h4 : (fda, fod) ∈ A') (h5 : (ra, listOf (recsOf st k).toArray rn) ∈ A')
    (hv : valueAt kvU' k = valueAt kvU k) (hU : st'.U k = st.U k) (hr : recsOf st' k = recsOf st k) (hg : (st.U k).nm ≠ Str.ofString "" → ga' (st.U k).nm = ga (st.U k).nm) : UnitIn ud fd A' st' kvU' fa fda ga' k ua uda od fod ra rn :=
  ⟨hv.trans I.at_, h1, h2, by rw [hU]; exact I.uD, h3, h4, by rw [hU]; exact I.fD, by rw [hr]; exact h5, by rw [hU]; exact fun hn => (I.g hn).trans (hg hn).symm, I.n1, I.n2, I.n3, I.n4⟩
theorem FileIn.mono {ud fd : Addr} {A A' : List (Addr × Obj)} {st st' : St} {kvF kvF' : List (Str × Value)} {ga : Addr} {x : Str} {gd : Addr} {fod : Obj} {ra : Addr} {rn : Nat} (I : FileIn ud fd A st kvF ga x gd fod ra rn)
    (h3 : (ga, instObj 105 gd) ∈ A') (h4 : (gd, fod) ∈ A') (h5 : (ra, listOf (st.F x).toArray rn) ∈ A') (hv : valueAt kvF' x = valueAt kvF x) (hr : st'.F x = st.F x) : FileIn ud fd A' st' kvF' ga x gd fod ra rn :=
  ⟨hv.trans I.at_, h3, h4, I.fD, by rw [hr]; exact h5, I.n3, I.n4⟩
section
variable {w : World} {ud fd : Addr} {A : List (Addr × Obj)} {st : St} {uo fo : Obj} {kvU : List (Int × Value)} {kvF : List (Str × Value)} {fa fda : Int → Addr} {ga : Str → Addr} {bd : Nat} {k : Int} {ua uda : Addr} {od fod : Obj} {ra : Addr} {rn : Nat}
/-- a change of unit k and its file's dict leaves the other units -/
theorem unit_kept {A' : List (Addr × Obj)} {st' : St} (fn : Fn A) (u : UnitIn ud fd A st kvU (fa k) (fda k) ga k ua uda od fod ra rn) (keep : ∀ a o, (a, o) ∈ A → a ≠ uda → a ≠ fda k → (a, o) ∈ A')
    {j : Int} {ua' uda' : Addr} {od' fod' : Obj} {ra' : Addr} {rn' : Nat} (v : UnitIn ud fd A st kvU (fa j) (fda j) ga j ua' uda' od' fod' ra' rn') (hj : j ≠ k) (sep : fda j ≠ fda k) (hU : st'.U j = st.U j) (hr : recsOf st' j = recsOf st j) :
    UnitIn ud fd A' st' kvU (fa j) (fda j) ga j ua' uda' od' fod' ra' rn' :=
  v.mono (keep _ _ v.ui (fun e => unit_inst u.uD (fn _ _ _ u.ud (e ▸ v.ui))) (fun e => file_inst u.fD (fn _ _ _ u.fd (e ▸ v.ui))))
    (keep _ _ v.ud (fun e => hj (unit_num v.uD (fn _ _ _ u.ud (e ▸ v.ud) ▸ u.uD))) (fun e => unit_file v.uD (fn _ _ _ u.fd (e ▸ v.ud) ▸ u.fD)))
    (keep _ _ v.fi (fun e => unit_inst u.uD (fn _ _ _ u.ud (e ▸ v.fi))) (fun e => file_inst u.fD (fn _ _ _ u.fd (e ▸ v.fi))))
    (keep _ _ v.fd (fun e => unit_file u.uD (fn _ _ _ (e ▸ v.fd) u.ud ▸ v.fD)) sep)
    (keep _ _ v.r (fun e => unit_list u.uD (fn _ _ _ u.ud (e ▸ v.r))) (fun e => file_list u.fD (fn _ _ _ u.fd (e ▸ v.r))))
    rfl hU hr (fun _ => rfl)
/-- and the other files -/
theorem file_kept {A' : List (Addr × Obj)} {st' : St} (fn : Fn A) (u : UnitIn ud fd A st kvU (fa k) (fda k) ga k ua uda od fod ra rn) (keep : ∀ a o, (a, o) ∈ A → a ≠ uda → a ≠ fda k → (a, o) ∈ A')
    {x : Str} {gd : Addr} {fod' : Obj} {ra' : Addr} {rn' : Nat} (v : FileIn ud fd A st kvF (ga x) x gd fod' ra' rn') (hx : x ≠ (st.U k).nm) (hr : st'.F x = st.F x) : FileIn ud fd A' st' kvF (ga x) x gd fod' ra' rn' :=
  v.mono (keep _ _ v.fi (fun e => unit_inst u.uD (fn _ _ _ u.ud (e ▸ v.fi))) (fun e => file_inst u.fD (fn _ _ _ u.fd (e ▸ v.fi))))
    (keep _ _ v.fd (fun e => unit_file u.uD (fn _ _ _ (e ▸ v.fd) u.ud ▸ v.fD)) (fun e => hx (file_nm v.fD (fn _ _ _ u.fd (e ▸ v.fd) ▸ u.fD)).1))
    (keep _ _ v.r (fun e => unit_list u.uD (fn _ _ _ u.ud (e ▸ v.r))) (fun e => file_list u.fD (fn _ _ _ u.fd (e ▸ v.r))))
    rfl hr
theorem pin_write {r : Value} {od' fod' : Obj} {rb : Addr} {n' : Nat} (I : PIn w ud fd A st uo fo kvU kvF fa fda ga) (S : SOk st bd) (fn : Fn A) (hk : k ∈ st.ks) (u : UnitIn ud fd A st kvU (fa k) (fda k) ga k ua uda od fod ra rn)
    (hod' : UnitD od' k (fa k) ((st.U k).pl + 1)) (hfod' : FileD fod' (st.U k).nm rb) :
    PInv w ud fd ((rb, listOf ((recsOf st k).take (st.U k).pl ++ [r]).toArray n') :: put (put A (fda k) fod') uda od') (written st k r) := by
  have n12 : uda ≠ fda k := fun e => unit_file u.uD (fn _ _ _ (e ▸ u.fd) u.ud ▸ u.fD)
  have keep : ∀ a o, (a, o) ∈ A → a ≠ uda → a ≠ fda k → (a, o) ∈ (rb, listOf ((recsOf st k).take (st.U k).pl ++ [r]).toArray n') :: put (put A (fda k) fod') uda od' :=
    fun a o h h1 h2 => .tail _ (mem_put (mem_put h h2) h1)
  have hrec := written_recs st k r
  have unk : UnitIn ud fd ((rb, listOf ((recsOf st k).take (st.U k).pl ++ [r]).toArray n') :: put (put A (fda k) fod') uda od') (written st k r) kvU (fa k) (fda k) ga k ua uda od' fod' rb n' :=
    ⟨u.at_, keep _ _ u.ui (fun e => unit_inst u.uD (fn _ _ _ u.ud (e ▸ u.ui))) (fun e => file_inst u.fD (fn _ _ _ u.fd (e ▸ u.ui))), .tail _ (put_self _ _ _), by rw [written_pl]; exact hod',
      keep _ _ u.fi (fun e => unit_inst u.uD (fn _ _ _ u.ud (e ▸ u.fi))) (fun e => file_inst u.fD (fn _ _ _ u.fd (e ▸ u.fi))), .tail _ (mem_put (put_self _ _ _) (Ne.symm n12)), by rw [written_nm]; exact hfod',
      by rw [hrec]; exact .head _, by rw [written_nm]; exact u.g, u.n1, u.n2, u.n3, u.n4⟩
  refine ⟨uo, fo, kvU, kvF, fa, fda, ga, keep _ _ I.u (Ne.symm u.n1) (Ne.symm u.n3), keep _ _ I.f (Ne.symm u.n2) (Ne.symm u.n4), I.uD, I.fD, by rw [written_ks]; exact I.ku, by rw [written_ns]; exact I.kf, fun j hj => ?_, fun x hx => ?_, by rw [written_ks]; exact I.sep, I.ne⟩
  · rw [written_ks] at hj
    by_cases e : j = k
    · subst e
      exact ⟨_, _, _, _, _, _, unk⟩
    · obtain ⟨ua', uda', od'', fod'', ra', rn', v⟩ := I.units j hj
      exact ⟨_, _, _, _, _, _, unit_kept fn u keep v e (fun c => e (I.sep j hj k hk c)) (written_U st r e) (written_other S r hk hj e)⟩
  · rw [written_ns] at hx
    obtain ⟨gd, fod'', ra', rn', v⟩ := I.files x hx
    by_cases e : x = (st.U k).nm
    · have hne : (st.U k).nm ≠ Str.ofString "" := fun c => five_ne (S.rn x hx) (e.trans c)
      have ega : ga x = fa k := by rw [e]; exact (u.g hne).symm
      have egd : gd = fda k := inst_inj (fn _ _ _ v.fi (ega ▸ u.fi))
      subst egd
      refine ⟨fda k, fod', rb, n', ⟨v.at_, ?_, unk.fd, e ▸ hfod', ?_, u.n3, u.n4⟩⟩
      · rw [ega]; exact unk.fi
      · rw [e, written_at st r hne, ← recs_named hne]; exact .head _
    · exact ⟨gd, fod'', ra', rn', file_kept fn u keep v e (written_F st r (.inl e))⟩
theorem pin_rewind {od' : Obj} (I : PIn w ud fd A st uo fo kvU kvF fa fda ga) (fn : Fn A) (hk : k ∈ st.ks) (u : UnitIn ud fd A st kvU (fa k) (fda k) ga k ua uda od fod ra rn) (hod' : UnitD od' k (fa k) 0) :
    PInv w ud fd (put A uda od') (rewound st k) := by
  have keep : ∀ a o, (a, o) ∈ A → a ≠ uda → a ≠ fda k → (a, o) ∈ put A uda od' := fun a o h h1 _ => mem_put h h1
  have hnm : ∀ j, ((rewound st k).U j).nm = (st.U j).nm := fun j => by
    unfold rewound
    by_cases e : j = k
    · subst e; simp only [upd_self]
    · simp only [upd_ne _ _ e]
  have hr : ∀ j, recsOf (rewound st k) j = recsOf st j := fun j => by
    unfold recsOf
    rw [hnm]
    by_cases h : (st.U j).nm = Str.ofString ""
    · rw [if_pos h, if_pos h]
      unfold rewound
      by_cases e : j = k
      · subst e; simp only [upd_self]
      · simp only [upd_ne _ _ e]
    · rw [if_neg h, if_neg h]; rfl
  have hp : ((rewound st k).U k).pl = 0 := by unfold rewound; simp only [upd_self]
  have n12 : fda k ≠ uda := fun e => unit_file u.uD (fn _ _ _ (e ▸ u.fd) u.ud ▸ u.fD)
  refine ⟨uo, fo, kvU, kvF, fa, fda, ga, mem_put' I.u (Ne.symm u.n1), mem_put' I.f (Ne.symm u.n2), I.uD, I.fD, I.ku, I.kf, fun j hj => ?_, fun x hx => ?_, I.sep, I.ne⟩
  · by_cases e : j = k
    · subst e
      exact ⟨ua, uda, od', fod, ra, rn, u.at_, mem_put' u.ui (fun e => unit_inst u.uD (fn _ _ _ u.ud (e ▸ u.ui))), put_self _ _ _, by rw [hp]; exact hod', mem_put' u.fi (fun e => unit_inst u.uD (fn _ _ _ u.ud (e ▸ u.fi))),
        mem_put' u.fd n12, by rw [hnm]; exact u.fD, by rw [hr]; exact mem_put' u.r (fun e => unit_list u.uD (fn _ _ _ u.ud (e ▸ u.r))), by rw [hnm]; exact u.g, u.n1, u.n2, u.n3, u.n4⟩
    · obtain ⟨ua', uda', od'', fod'', ra', rn', v⟩ := I.units j hj
      exact ⟨_, _, _, _, _, _, unit_kept fn u keep v e (fun c => e (I.sep j hj k hk c)) (by unfold rewound; exact upd_ne _ _ e) (hr j)⟩
  · obtain ⟨gd, fod'', ra', rn', v⟩ := I.files x hx
    refine ⟨gd, fod'', ra', rn', v.mono (mem_put' v.fi (fun e => unit_inst u.uD (fn _ _ _ u.ud (e ▸ v.fi)))) (mem_put' v.fd (fun e => unit_file u.uD (fn _ _ _ (e ▸ v.fd) u.ud ▸ v.fD))) (mem_put' v.r (fun e => unit_list u.uD (fn _ _ _ u.ud (e ▸ v.r)))) rfl rfl⟩
end
end
section
theorem intDict_inst {w : World} {kvs : List (Int × Value)} {o : Obj} {C d : Addr} (h : o.IsDictOf (PySem.intKind P0 w) kvs) (e : o = instObj C d) : False := by
  obtain ⟨es, ep, -, hd, -⟩ := h
  subst e
  cases hd
theorem strDict_inst {w : World} {kvs : List (Str × Value)} {o : Obj} {C d : Addr} (h : o.IsDictOf (PySem.strKind P0 w) kvs) (e : o = instObj C d) : False := by
  obtain ⟨es, ep, -, hd, -⟩ := h
  subst e
  cases hd
theorem intDict_list {w : World} {kvs : List (Int × Value)} {o : Obj} {its : Array Value} {n : Nat} (h : o.IsDictOf (PySem.intKind P0 w) kvs) (e : o = listOf its n) : False := by
  obtain ⟨es, ep, -, hd, -⟩ := h
  subst e
  cases hd
theorem strDict_list {w : World} {kvs : List (Str × Value)} {o : Obj} {its : Array Value} {n : Nat} (h : o.IsDictOf (PySem.strKind P0 w) kvs) (e : o = listOf its n) : False := by
  obtain ⟨es, ep, -, hd, -⟩ := h
  subst e
  cases hd
section
variable {w : World} {ud fd : Addr} {A : List (Addr × Obj)} {st st' : St} {uo fo : Obj} {kvU kvU' : List (Int × Value)} {kvF kvF' : List (Str × Value)} {fa fda : Int → Addr} {ga : Str → Addr} {bd : Nat} {k : Int}
/-- a change of the two dicts leaves the units' and the files' cells -/
theorem unit_dicts (I : PIn w ud fd A st uo fo kvU kvF fa fda ga) (fn : Fn A) {A' : List (Addr × Obj)} (keep : ∀ a o, (a, o) ∈ A → a ≠ ud → a ≠ fd → (a, o) ∈ A') {j : Int} {ga' : Str → Addr} {ua uda fa fda : Addr} {od fod : Obj} {ra : Addr} {rn : Nat}
    (v : UnitIn ud fd A st kvU fa fda ga j ua uda od fod ra rn) (hv : valueAt kvU' j = valueAt kvU j) (hU : st'.U j = st.U j) (hr : recsOf st' j = recsOf st j) (hg : (st.U j).nm ≠ Str.ofString "" → ga' (st.U j).nm = ga (st.U j).nm) :
    UnitIn ud fd A' st' kvU' fa fda ga' j ua uda od fod ra rn :=
  v.mono (keep _ _ v.ui (fun e => intDict_inst I.uD (fn _ _ _ I.u (e ▸ v.ui))) (fun e => strDict_inst I.fD (fn _ _ _ I.f (e ▸ v.ui)))) (keep _ _ v.ud v.n1 v.n2)
    (keep _ _ v.fi (fun e => intDict_inst I.uD (fn _ _ _ I.u (e ▸ v.fi))) (fun e => strDict_inst I.fD (fn _ _ _ I.f (e ▸ v.fi)))) (keep _ _ v.fd v.n3 v.n4)
    (keep _ _ v.r (fun e => intDict_list I.uD (fn _ _ _ I.u (e ▸ v.r))) (fun e => strDict_list I.fD (fn _ _ _ I.f (e ▸ v.r)))) hv hU hr hg
theorem file_dicts (I : PIn w ud fd A st uo fo kvU kvF fa fda ga) (fn : Fn A) {A' : List (Addr × Obj)} (keep : ∀ a o, (a, o) ∈ A → a ≠ ud → a ≠ fd → (a, o) ∈ A') {x : Str} {fx gd : Addr} {fod : Obj} {ra : Addr} {rn : Nat}
    (v : FileIn ud fd A st kvF fx x gd fod ra rn) (hv : valueAt kvF' x = valueAt kvF x) (hr : st'.F x = st.F x) : FileIn ud fd A' st' kvF' fx x gd fod ra rn :=
  v.mono (keep _ _ v.fi (fun e => intDict_inst I.uD (fn _ _ _ I.u (e ▸ v.fi))) (fun e => strDict_inst I.fD (fn _ _ _ I.f (e ▸ v.fi)))) (keep _ _ v.fd v.n3 v.n4)
    (keep _ _ v.r (fun e => intDict_list I.uD (fn _ _ _ I.u (e ▸ v.r))) (fun e => strDict_list I.fD (fn _ _ _ I.f (e ▸ v.r)))) hv hr
/-- what the closing of units asks of a state -/
structure SLo (st : St) (bd : Nat) : Prop where
  bk : st.ks.length ≤ bd
  bn : st.ns.length ≤ bd
  inn : ∀ k ∈ st.ks, (st.U k).nm ≠ Str.ofString "" → (st.U k).nm ∈ st.ns
  rk : ∀ k ∈ st.ks, 1 ≤ k ∧ k ≤ 3
theorem SOk.lo {st : St} {bd : Nat} (S : SOk st bd) : SLo st bd := ⟨S.bk, S.bn, S.inn, S.rk⟩
theorem pin_close {uo' fo' : Obj} {told : Option Str} (I : PIn w ud fd A st uo fo kvU kvF fa fda ga) (fn : Fn A) (hk : k ∈ st.ks) (hu : uo'.IsDictOf (PySem.intKind P0 w) (without kvU k)) (hf : fo'.IsDictOf (PySem.strKind P0 w) kvF')
    (hF : ((st.U k).nm ≠ Str.ofString "" ∧ told = some (Str.ofString "DELETE") ∧ kvF' = without kvF (st.U k).nm) ∨ (¬ ((st.U k).nm ≠ Str.ofString "" ∧ told = some (Str.ofString "DELETE")) ∧ kvF' = kvF)) :
    PInv w ud fd (put (put A fd fo') ud uo') (closed st k told) := by
  have keep : ∀ a o, (a, o) ∈ A → a ≠ ud → a ≠ fd → (a, o) ∈ put (put A fd fo') ud uo' := fun a o h h1 h2 => mem_put (mem_put h h2) h1
  have hns : (closed st k told).ns = if (st.U k).nm ≠ Str.ofString "" ∧ told = some (Str.ofString "DELETE") then st.ns.filter (fun x => decide (x ≠ (st.U k).nm)) else st.ns := rfl
  have hsub : ∀ j, j ∈ st.ks.filter (fun x => decide (x ≠ k)) → j ∈ st.ks ∧ j ≠ k := fun j hj => ⟨(List.mem_filter.mp hj).1, of_decide_eq_true (List.mem_filter.mp hj).2⟩
  have hkf : kvF'.map (·.1) = (closed st k told).ns := by
    rcases hF with ⟨a, b, rfl⟩ | ⟨a, rfl⟩
    · rw [hns, if_pos ⟨a, b⟩, keys_without, I.kf]
    · rw [hns, if_neg a, I.kf]
  have hvf : ∀ x, x ∈ (closed st k told).ns → x ∈ st.ns ∧ valueAt kvF' x = valueAt kvF x := fun x hx => by
    rcases hF with ⟨a, b, rfl⟩ | ⟨a, rfl⟩
    · rw [hns, if_pos ⟨a, b⟩] at hx
      exact ⟨(List.mem_filter.mp hx).1, valueAt_without_ne _ (of_decide_eq_true (List.mem_filter.mp hx).2)⟩
    · rw [hns, if_neg a] at hx
      exact ⟨hx, rfl⟩
  refine ⟨uo', fo', _, kvF', fa, fda, ga, put_self _ _ _, mem_put' (put_self _ _ _) (Ne.symm I.ne), hu, hf, ?_, hkf, fun j hj => ?_, fun x hx => ?_, fun i hi j hj => I.sep i (hsub i hi).1 j (hsub j hj).1, I.ne⟩
  · rw [keys_without, I.ku]; rfl
  · obtain ⟨ua', uda', od'', fod'', ra', rn', v⟩ := I.units j (hsub j hj).1
    exact ⟨_, _, _, _, _, _, unit_dicts I fn keep v (valueAt_without_ne _ (hsub j hj).2) rfl rfl fun _ => rfl⟩
  · obtain ⟨gd, fod'', ra', rn', v⟩ := I.files x (hvf x hx).1
    exact ⟨_, _, _, _, file_dicts I fn keep v (hvf x hx).2 rfl⟩
theorem pin_open {uo' fo' od : Obj} {told : Str} {nm : Option Str} {Rk Y : List (Addr × Obj)} {fx ua uda : Addr} (I : PIn w ud fd A st uo fo kvU kvF fa fda ga) (S : SOk st bd) (fn : Fn A)
    (hx : Five (wanted k nm)) (hfree : told ≠ Str.ofString "SCRATCH" → wanted k nm ∉ st.ks.map (fun k => (st.U k).nm))
    (W : FoundW told (wanted k nm) Rk kvF kvF' fo fo' fx Y) (hRk : ∀ p ∈ A, p ∈ Rk) (hf : fo'.IsDictOf (PySem.strKind P0 w) kvF') (hu : uo'.IsDictOf (PySem.intKind P0 w) (stored kvU k (.ref ua))) (hod : UnitD od k fx 0)
    (hlY : ∀ p ∈ Y, @LT.lt Nat _ p.1 uda) (hlA : ∀ p ∈ A, @LT.lt Nat _ p.1 uda) (hua : @LT.lt Nat _ uda ua) :
    PInv w ud fd ((ua, instObj 147 uda) :: (uda, od) :: (Y ++ put (put A fd fo') ud uo')) (opened st k told nm) := by
  have keep : ∀ a o, (a, o) ∈ A → a ≠ ud → a ≠ fd → (a, o) ∈ (ua, instObj 147 uda) :: (uda, od) :: (Y ++ put (put A fd fo') ud uo') := fun a o h h1 h2 => .tail _ (.tail _ (List.mem_append_right _ (mem_put (mem_put h h2) h1)))
  have hY : ∀ p ∈ Y, p ∈ (ua, instObj 147 uda) :: (uda, od) :: (Y ++ put (put A fd fo') ud uo') := fun p h => .tail _ (.tail _ (List.mem_append_left _ h))
  have cs : ∀ j, j ∈ addK st.ks k → j = k ∨ (j ≠ k ∧ j ∈ st.ks) := fun j hj => by
    by_cases e : j = k
    · exact .inl e
    · exact .inr ⟨e, (mem_addK.mp hj).elim id fun c => absurd c e⟩
  have mu : (ud, uo') ∈ (ua, instObj 147 uda) :: (uda, od) :: (Y ++ put (put A fd fo') ud uo') := .tail _ (.tail _ (List.mem_append_right _ (put_self _ _ _)))
  have mf : (fd, fo') ∈ (ua, instObj 147 uda) :: (uda, od) :: (Y ++ put (put A fd fo') ud uo') := .tail _ (.tail _ (List.mem_append_right _ (mem_put' (put_self _ _ _) (Ne.symm I.ne))))
  have m1 : (ua, instObj 147 uda) ∈ (ua, instObj 147 uda) :: (uda, od) :: (Y ++ put (put A fd fo') ud uo') := .head _
  have m2 : (uda, od) ∈ (ua, instObj 147 uda) :: (uda, od) :: (Y ++ put (put A fd fo') ud uo') := .tail _ (.head _)
  have n1 : @Ne Nat uda ud := Nat.ne_of_gt (hlA _ I.u)
  have n2 : @Ne Nat uda fd := Nat.ne_of_gt (hlA _ I.f)
  generalize (ua, instObj 147 uda) :: (uda, od) :: (Y ++ put (put A fd fo') ud uo') = A' at keep hY mu mf m1 m2
  have hku : (stored kvU k (.ref ua)).map (·.1) = addK st.ks k := by rw [keys_stored, I.ku]
  rcases W with ⟨ht, hv, -, rfl, rfl, rfl⟩ | ⟨fdx, odx, rx, nmx, rfl, hodx, hlt, hl1, hl2, W⟩
  · -- a file that is there
    have hin : wanted k nm ∈ st.ns := I.kf ▸ valueAt_key hv
    have hfree := hfree ht
    obtain ⟨gd, fod, ra, rn, v⟩ := I.files _ hin
    have efx : fx = ga (wanted k nm) := by have := hv.symm.trans v.at_; cases this; rfl
    have v' := file_dicts (kvF' := kvF') (st' := st) I fn keep v rfl rfl
    have hst : opened st k told nm = { st with ks := addK st.ks k, U := upd st.U k ⟨wanted k nm, 0, []⟩ } := by
      unfold opened
      rw [if_neg ht]
      simp only [if_pos hin]
      rw [show addK st.ns (wanted k nm) = st.ns from if_pos hin]
    rw [hst]
    refine ⟨uo', fo', _, kvF', upd fa k fx, upd fda k gd, ga, mu, mf, hu, hf, hku, I.kf, fun j hj => ?_, fun x hx' => ?_, fun i hi j hj e => ?_, I.ne⟩
    · rcases cs j hj with rfl | ⟨e, hj⟩
      · refine ⟨ua, uda, od, fod, ra, rn, valueAt_stored _ _ _, m1, m2, ?_, ?_, ?_, ?_, ?_, ?_, n1, n2, ?_, ?_⟩ <;> (try simp only [upd_self])
        · exact hod
        · rw [efx]; exact v'.fi
        · exact v'.fd
        · exact v.fD
        · have : recsOf { st with ks := addK st.ks j, U := upd st.U j ⟨wanted j nm, 0, []⟩ } j = st.F (wanted j nm) := by
            unfold recsOf
            simp only [upd_self]
            rw [if_neg (five_ne hx)]
          rw [this]; exact v'.r
        · exact fun _ => efx
        · exact v.n3
        · exact v.n4
      · obtain ⟨ua', uda', od'', fod'', ra', rn', z⟩ := I.units j hj
        refine ⟨ua', uda', od'', fod'', ra', rn', ?_⟩
        rw [upd_ne _ _ e, upd_ne _ _ e]
        exact unit_dicts I fn keep z (valueAt_stored_ne _ _ e) (upd_ne _ _ e) (recs_eq (upd_ne _ _ e) fun _ => rfl) fun _ => rfl
    · obtain ⟨gd', fod'', ra', rn', z⟩ := I.files x hx'
      exact ⟨_, _, _, _, file_dicts I fn keep z rfl rfl⟩
    · have other : ∀ j, j ∈ st.ks → fda j ≠ gd := fun j hj c => by
        obtain ⟨ua', uda', od'', fod'', ra', rn', z⟩ := I.units j hj
        have := (file_nm z.fD (fn _ _ _ v.fd (c ▸ z.fd) ▸ v.fD)).1
        exact hfree (List.mem_map.mpr ⟨j, hj, this⟩)
      rcases cs i hi with rfl | ⟨ei, hi'⟩
      · rcases cs j hj with rfl | ⟨ej, hj'⟩
        · rfl
        · rw [upd_self, upd_ne _ _ ej] at e; exact absurd e.symm (other j hj')
      · rcases cs j hj with rfl | ⟨ej, hj'⟩
        · rw [upd_self, upd_ne _ _ ei] at e; exact absurd e (other i hi')
        · rw [upd_ne _ _ ei, upd_ne _ _ ej] at e; exact I.sep i hi' j hj' e
  · -- a new file
    have q1 : (fx, instObj 105 fdx) ∈ A' := hY _ (.head _)
    have q2 : (fdx, odx) ∈ A' := hY _ (.tail _ (.head _))
    have q3 : (rx, listOf #[] 0) ∈ A' := hY _ (.tail _ (.tail _ (.head _)))
    have n3 : @Ne Nat fdx ud := Nat.ne_of_gt (hlt _ (hRk _ I.u))
    have n4 : @Ne Nat fdx fd := Nat.ne_of_gt (hlt _ (hRk _ I.f))
    have other : ∀ j, j ∈ st.ks → fda j ≠ fdx := fun j hj c => by
      obtain ⟨ua', uda', od'', fod'', ra', rn', z⟩ := I.units j hj
      exact Nat.ne_of_lt (hlt _ (hRk _ z.fd)) c
    have sep : ∀ i ∈ addK st.ks k, ∀ j ∈ addK st.ks k, upd fda k fdx i = upd fda k fdx j → i = j := fun i hi j hj e => by
      rcases cs i hi with rfl | ⟨ei, hi'⟩
      · rcases cs j hj with rfl | ⟨ej, hj'⟩
        · rfl
        · rw [upd_self, upd_ne _ _ ej] at e; exact absurd e.symm (other j hj')
      · rcases cs j hj with rfl | ⟨ej, hj'⟩
        · rw [upd_self, upd_ne _ _ ei] at e; exact absurd e (other i hi')
        · rw [upd_ne _ _ ei, upd_ne _ _ ej] at e; exact I.sep i hi' j hj' e
    rcases W with ⟨ht, hnm, rfl, rfl⟩ | ⟨ht, hnm, hv, hto, rfl⟩
    · subst hnm
      have hst : opened st k told nm = { st with ks := addK st.ks k, U := upd st.U k ⟨Str.ofString "", 0, []⟩ } := by
        unfold opened
        rw [if_pos ht]
      rw [hst]
      refine ⟨uo', fo', _, kvF', upd fa k fx, upd fda k fdx, ga, mu, mf, hu, hf, hku, I.kf, fun j hj => ?_, fun x hx' => ?_, sep, I.ne⟩
      · rcases cs j hj with rfl | ⟨e, hj⟩
        · refine ⟨ua, uda, od, odx, rx, 0, valueAt_stored _ _ _, m1, m2, ?_, ?_, ?_, ?_, ?_, ?_, n1, n2, ?_, ?_⟩ <;> (try simp only [upd_self])
          · exact hod
          · exact q1
          · exact q2
          · exact hodx
          · have : recsOf { st with ks := addK st.ks j, U := upd st.U j ⟨Str.ofString "", 0, []⟩ } j = [] := by
              unfold recsOf
              simp only [upd_self, if_true]
            rw [this]; exact q3
          · exact fun c => absurd rfl c
          · exact n3
          · exact n4
        · obtain ⟨ua', uda', od'', fod'', ra', rn', z⟩ := I.units j hj
          refine ⟨ua', uda', od'', fod'', ra', rn', ?_⟩
          rw [upd_ne _ _ e, upd_ne _ _ e]
          exact unit_dicts I fn keep z (valueAt_stored_ne _ _ e) (upd_ne _ _ e) (recs_eq (upd_ne _ _ e) fun _ => rfl) fun _ => rfl
      · obtain ⟨gd', fod'', ra', rn', z⟩ := I.files x hx'
        exact ⟨_, _, _, _, file_dicts I fn keep z rfl rfl⟩
    · subst hnm
      have hnin : wanted k nm ∉ st.ns := fun c => by
        obtain ⟨v, e⟩ := valueAt_isSome (kvs := kvF) (I.kf ▸ c)
        rw [hv] at e; cases e
      have hst : opened st k told nm = ⟨addK st.ks k, upd st.U k ⟨wanted k nm, 0, []⟩, addK st.ns (wanted k nm), upd st.F (wanted k nm) []⟩ := by
        unfold opened
        rw [if_neg ht]
        simp only [if_neg hnin]
      have hkn : ∀ j ∈ st.ks, (st.U j).nm ≠ Str.ofString "" → (st.U j).nm ≠ wanted k nm := fun j hj hn c => hnin (c ▸ S.inn j hj hn)
      rw [hst]
      refine ⟨uo', fo', _, _, upd fa k fx, upd fda k fdx, upd ga (wanted k nm) fx, mu, mf, hu, hf, hku, by rw [keys_stored, I.kf], fun j hj => ?_, fun x hx' => ?_, sep, I.ne⟩
      · rcases cs j hj with rfl | ⟨e, hj⟩
        · refine ⟨ua, uda, od, odx, rx, 0, valueAt_stored _ _ _, m1, m2, ?_, ?_, ?_, ?_, ?_, ?_, n1, n2, ?_, ?_⟩ <;> (try simp only [upd_self])
          · exact hod
          · exact q1
          · exact q2
          · exact hodx
          · have : recsOf ⟨addK st.ks j, upd st.U j ⟨wanted j nm, 0, []⟩, addK st.ns (wanted j nm), upd st.F (wanted j nm) []⟩ j = [] := by
              unfold recsOf
              simp only [upd_self]
              rw [if_neg (five_ne hx)]
            rw [this]; exact q3
          · exact fun _ => trivial
          · exact n3
          · exact n4
        · obtain ⟨ua', uda', od'', fod'', ra', rn', z⟩ := I.units j hj
          refine ⟨ua', uda', od'', fod'', ra', rn', ?_⟩
          rw [upd_ne _ _ e, upd_ne _ _ e]
          exact unit_dicts I fn keep z (valueAt_stored_ne _ _ e) (upd_ne _ _ e) (recs_eq (upd_ne _ _ e) fun hn => upd_ne _ _ (hkn j hj hn)) fun hn => upd_ne _ _ (hkn j hj hn)
      · by_cases e : x = wanted k nm
        · subst e
          refine ⟨fdx, odx, rx, 0, valueAt_stored _ _ _ |>.trans (by rw [upd_self]), by rw [upd_self]; exact q1, q2, hodx, ?_, n3, n4⟩
          show (rx, listOf (upd st.F (wanted k nm) [] (wanted k nm)).toArray 0) ∈ A'
          rw [upd_self]; exact q3
        · obtain ⟨gd', fod'', ra', rn', z⟩ := I.files x ((mem_addK.mp hx').resolve_right e)
          refine ⟨gd', fod'', ra', rn', ?_⟩
          rw [upd_ne _ _ e]
          exact file_dicts I fn keep z (valueAt_stored_ne _ _ e) (upd_ne _ _ e)
end
end
section
section
variable {w : World} {ud fd : Addr} {A R : List (Addr × Obj)} {st : St} {uo fo : Obj} {kvU : List (Int × Value)} {kvF kvF' : List (Str × Value)} {fa fda : Int → Addr} {ga : Str → Addr} {bd : Nat} {k : Int} {told : Str} {nm : Option Str}
theorem pin_touch {ua uda : Addr} {od od' fod : Obj} {ra : Addr} {rn : Nat} (I : PIn w ud fd A st uo fo kvU kvF fa fda ga) (fn : Fn A) (u : UnitIn ud fd A st kvU (fa k) (fda k) ga k ua uda od fod ra rn) (hod' : UnitD od' k (fa k) (st.U k).pl) :
    PInv w ud fd (put A uda od') st := by
  have keep : ∀ a o, (a, o) ∈ A → a ≠ uda → a ≠ fda k → (a, o) ∈ put A uda od' := fun a o h h1 _ => mem_put h h1
  have n12 : fda k ≠ uda := fun e => unit_file u.uD (fn _ _ _ (e ▸ u.fd) u.ud ▸ u.fD)
  refine ⟨uo, fo, kvU, kvF, fa, fda, ga, mem_put' I.u (Ne.symm u.n1), mem_put' I.f (Ne.symm u.n2), I.uD, I.fD, I.ku, I.kf, fun j hj => ?_, fun x hx => ?_, I.sep, I.ne⟩
  · obtain ⟨ua', uda', od'', fod'', ra', rn', v⟩ := I.units j hj
    by_cases e : j = k
    · subst e
      exact ⟨ua, uda, od', fod, ra, rn, u.at_, mem_put' u.ui (fun e => unit_inst u.uD (fn _ _ _ u.ud (e ▸ u.ui))), put_self _ _ _, hod', mem_put' u.fi (fun e => unit_inst u.uD (fn _ _ _ u.ud (e ▸ u.fi))),
        mem_put' u.fd n12, u.fD, mem_put' u.r (fun e => unit_list u.uD (fn _ _ _ u.ud (e ▸ u.r))), u.g, u.n1, u.n2, u.n3, u.n4⟩
    · have n : uda' ≠ uda := fun c => e (unit_num v.uD (fn _ _ _ u.ud (c ▸ v.ud) ▸ u.uD))
      have n' : fda j ≠ uda := fun c => unit_file u.uD (fn _ _ _ (c ▸ v.fd) u.ud ▸ v.fD)
      exact ⟨ua', uda', od'', fod'', ra', rn', v.mono (mem_put' v.ui (fun e => unit_inst u.uD (fn _ _ _ u.ud (e ▸ v.ui)))) (mem_put' v.ud n) (mem_put' v.fi (fun e => unit_inst u.uD (fn _ _ _ u.ud (e ▸ v.fi)))) (mem_put' v.fd n')
        (mem_put' v.r (fun e => unit_list u.uD (fn _ _ _ u.ud (e ▸ v.r)))) rfl rfl rfl fun _ => rfl⟩
  · obtain ⟨gd, fod'', ra', rn', v⟩ := I.files x hx
    refine ⟨gd, fod'', ra', rn', v.mono (mem_put' v.fi (fun e => unit_inst u.uD (fn _ _ _ u.ud (e ▸ v.fi)))) (mem_put' v.fd (fun e => unit_file u.uD (fn _ _ _ (e ▸ v.fd) u.ud ▸ v.fD))) (mem_put' v.r (fun e => unit_list u.uD (fn _ _ _ u.ud (e ▸ v.r)))) rfl rfl⟩
theorem mem_rest' {l : List (Addr × Obj)} {a b : Addr} {o : Obj} (h : (a, o) ∈ l) (n : a ≠ b) : (a, o) ∈ rest l b := mem_rest.mpr ⟨h, n⟩
/-- the rest of the ledger without the two dicts -/
def rest2 (l : List (Addr × Obj)) (ud fd : Addr) : List (Addr × Obj) := rest (rest l ud) fd
theorem mem_rest2 {l : List (Addr × Obj)} {a b : Addr} {p : Addr × Obj} : p ∈ rest2 l a b ↔ p ∈ l ∧ p.1 ≠ a ∧ p.1 ≠ b := by
  unfold rest2
  rw [mem_rest, mem_rest]
  exact ⟨fun h => ⟨h.1.1, h.1.2, h.2⟩, fun h => ⟨⟨h.1, h.2.1⟩, h.2.2⟩⟩
theorem mem_rest2' {l : List (Addr × Obj)} {a b c : Addr} {o : Obj} (h : (c, o) ∈ l) (n : c ≠ a) (n' : c ≠ b) : (c, o) ∈ rest2 l a b := mem_rest2.mpr ⟨h, n, n'⟩
theorem news_rest2 {h₀ h : Heap} {L : Addr} {l : List (Addr × Obj)} {a b : Addr} {o o' : Obj} (N : News h₀ L h l) (h1 : (a, o) ∈ l) (h2 : (b, o') ∈ l) : News h₀ L h ((a, o) :: (b, o') :: rest2 l a b) := news_sub N fun p hp => by
  rcases List.mem_cons.mp hp with rfl | hp
  · exact h1
  rcases List.mem_cons.mp hp with rfl | hp
  · exact h2
  · exact (mem_rest2.mp hp).1
theorem back2 {l : List (Addr × Obj)} {a b : Addr} {o o' : Obj} (fn : Fn l) (h1 : (a, o) ∈ l) (h2 : (b, o') ∈ l) : ∀ p ∈ l, p ∈ (a, o) :: (b, o') :: rest2 l a b := fun p hp => by
  obtain ⟨x, q⟩ := p
  by_cases e : x = a
  · subst e; rw [fn _ _ _ hp h1]; exact .head _
  by_cases e' : x = b
  · subst e'; rw [fn _ _ _ hp h2]; exact .tail _ (.head _)
  · exact .tail _ (.tail _ (mem_rest2.mpr ⟨hp, e, e'⟩))
theorem back1 {l : List (Addr × Obj)} {a : Addr} {o : Obj} (fn : Fn l) (h1 : (a, o) ∈ l) : ∀ p ∈ l, p ∈ (a, o) :: rest l a := fun p hp => by
  obtain ⟨x, q⟩ := p
  by_cases e : x = a
  · subst e; rw [fn _ _ _ hp h1]; exact .head _
  · exact .tail _ (mem_rest.mpr ⟨hp, e⟩)
theorem fn_left (fn : Fn (A ++ R)) : Fn A := fun a o o' h1 h2 => fn a o o' (List.mem_append_left _ h1) (List.mem_append_left _ h2)
theorem in_rest2 (I : PIn w ud fd A st uo fo kvU kvF fa fda ga) (D : Dis A R) : ∀ p ∈ R, p ∈ rest2 (A ++ R) ud fd := fun p hp => mem_rest2.mpr ⟨List.mem_append_right _ hp, fun e => D _ I.u p hp e.symm, fun e => D _ I.f p hp e.symm⟩
theorem key_pair {v : Value} (I : PIn w ud fd A st uo fo kvU kvF fa fda ga) (h : (k, v) ∈ kvU) : k ∈ st.ks := I.ku ▸ List.mem_map.mpr ⟨_, h, rfl⟩
theorem pair_key (I : PIn w ud fd A st uo fo kvU kvF fa fda ga) (h : k ∈ st.ks) : ∃ v, (k, v) ∈ kvU := by
  rw [← I.ku] at h
  obtain ⟨p, hp, rfl⟩ := List.mem_map.mp h
  exact ⟨p.2, hp⟩
theorem nodup_U (I : PIn w ud fd A st uo fo kvU kvF fa fda ga) : (kvU.map (·.1)).Nodup := by
  obtain ⟨_, _, -, -, -, -, h⟩ := I.uD
  exact h
theorem uread_all (I : PIn w ud fd A st uo fo kvU kvF fa fda ga) (fn : Fn A) : ∀ k v, (k, v) ∈ kvU → URead (rest2 (A ++ R) ud fd) v k (st.U k).nm := fun j v hv => by
  have hj := key_pair I hv
  obtain ⟨ua, uda, od, fod, ra, rn, u⟩ := I.units j hj
  have keep : ∀ a o, (a, o) ∈ A → a ≠ ud → a ≠ fd → (a, o) ∈ rest2 (A ++ R) ud fd := fun a o h h1 h2 => mem_rest2.mpr ⟨List.mem_append_left _ h, h1, h2⟩
  have u' := unit_dicts (kvU' := kvU) (st' := st) (ga' := ga) I fn keep u rfl rfl rfl fun _ => rfl
  have : v = .ref ua := by
    have q := (valueAt_mem (nodup_U I) hv).symm.trans u.at_
    exact Option.some.inj q
  exact ⟨ua, uda, od, fa j, (st.U j).pl, fda j, fod, ra, this, u'.ui, u'.ud, u'.uD, u'.fi, u'.fd, u'.fD⟩
theorem fread_all (I : PIn w ud fd A st uo fo kvU kvF fa fda ga) (fn : Fn A) : ∀ x v, valueAt kvF x = some v → ∃ fa fda od ra, v = .ref fa ∧ (fa, instObj 105 fda) ∈ rest2 (A ++ R) ud fd ∧ (fda, od) ∈ rest2 (A ++ R) ud fd ∧ FileD od x ra := fun x v hv => by
  obtain ⟨gd, fod, ra, rn, u⟩ := I.files x (I.kf ▸ valueAt_key hv)
  have keep : ∀ a o, (a, o) ∈ A → a ≠ ud → a ≠ fd → (a, o) ∈ rest2 (A ++ R) ud fd := fun a o h h1 h2 => mem_rest2.mpr ⟨List.mem_append_left _ h, h1, h2⟩
  have u' := file_dicts (kvF' := kvF) (st' := st) I fn keep u rfl rfl
  exact ⟨ga x, gd, fod, ra, Option.some.inj (hv.symm.trans u.at_), u'.fi, u'.fd, u'.fD⟩
/-- the ways of an open that is no second one -/
theorem ok_bad (I : PIn w ud fd A st uo fo kvU kvF fa fda ga) (ha : ¬ againP st k nm) (ht : told ≠ Str.ofString "SCRATCH")
    (h : (∃ j v, (j, v) ∈ kvU ∧ (st.U j).nm = wanted k nm) ∨ ((∀ j v, (j, v) ∈ kvU → (st.U j).nm ≠ wanted k nm) ∧ (((∃ v, valueAt kvF (wanted k nm) = some v) ∧ told = Str.ofString "NEW") ∨ (valueAt kvF (wanted k nm) = none ∧ told = Str.ofString "OLD")))) : openOk st k told nm = false := by
  unfold openOk
  rw [if_neg (fun d => ht d.1), if_neg ha, if_neg ht]
  rcases h with ⟨j, v, h1, h2⟩ | ⟨-, h⟩
  · rw [if_pos (h2 ▸ List.mem_map.mpr ⟨j, key_pair I h1, rfl⟩)]
  · split
    · rfl
    · rw [if_pos]
      rcases h with ⟨⟨v, h1⟩, h2⟩ | ⟨h1, h2⟩
      · exact .inl ⟨I.kf ▸ valueAt_key h1, h2⟩
      · refine .inr ⟨fun c => ?_, h2⟩
        obtain ⟨v, e⟩ := valueAt_isSome (kvs := kvF) (I.kf ▸ c)
        rw [h1] at e; cases e
theorem ok_new {Rk Y : List (Addr × Obj)} {fo' : Obj} {fx : Addr} (I : PIn w ud fd A st uo fo kvU kvF fa fda ga) (ha : ¬ againP st k nm) (hs : told = Str.ofString "SCRATCH" → nm = none)
    (hfree : told ≠ Str.ofString "SCRATCH" → ∀ j v, (j, v) ∈ kvU → (st.U j).nm ≠ wanted k nm) (W : FoundW told (wanted k nm) Rk kvF kvF' fo fo' fx Y) : openOk st k told nm = true := by
  unfold openOk
  rw [if_neg (fun d => d.2 (hs d.1)), if_neg ha]
  split
  · rfl
  · rename_i ht
    rw [if_neg, if_neg]
    · rintro (⟨c1, c2⟩ | ⟨c1, c2⟩)
      · obtain ⟨v, e⟩ := valueAt_isSome (kvs := kvF) (I.kf ▸ c1)
        rcases W with ⟨-, -, h, -⟩ | ⟨_, _, _, _, -, -, -, -, -, ⟨h, -⟩ | ⟨-, -, h, -⟩⟩
        · exact h c2
        · exact ht h
        · rw [h] at e; cases e
      · rcases W with ⟨-, h, -⟩ | ⟨_, _, _, _, -, -, -, -, -, ⟨h, -⟩ | ⟨-, -, -, h, -⟩⟩
        · exact c1 (I.kf ▸ valueAt_key h)
        · exact ht h
        · exact h c2
    · intro c
      obtain ⟨j, hj, e⟩ := List.mem_map.mp c
      obtain ⟨v, hv⟩ := pair_key I hj
      exact hfree ht j v hv e
end
end
section
section
variable {w : World} {gd : Option (List Code)} {env : Env} {outer : List Env} {A₀ : Around} {base h₀ : Heap} {L : Addr} {m mg mb : Str → Option Value} {mean : ExcName → Option Value} {s : Shared} {Q E : Value → Shared → Prop}
    {A R : List (Addr × Obj)} {fd ud sa sda wd : Addr} {wo : Obj} {kvW : List (Str × Value)} {told : Str} {nm : Option Str} {num : Int} {tn sf wt : Tok} {hh : Int} {sn bd : Nat} {st : St}
/-- what is behind a new connection -/
theorem open_after {uo fo uo' fo' od : Obj} {kvU : List (Int × Value)} {kvF kvF' : List (Str × Value)} {fa fda : Int → Addr} {ga : Str → Addr} {Y : List (Addr × Obj)} {fx ua uda : Addr} {h h' : Heap}
    (I : PIn w ud fd A st uo fo kvU kvF fa fda ga) (S : SOk st bd) (N₀ : News h₀ L h (A ++ R)) (D : Dis A R) (hft : Fits st (.opn num told nm)) (ha : ¬ againP st num nm) (hs : told = Str.ofString "SCRATCH" → nm = none)
    (hfree : told ≠ Str.ofString "SCRATCH" → ∀ j v, (j, v) ∈ kvU → (st.U j).nm ≠ wanted num nm)
    (W : FoundW told (wanted num nm) ((ud, uo) :: (fd, fo) :: rest2 (A ++ R) ud fd) kvF kvF' fo fo' fx Y) (hf : fo'.IsDictOf (PySem.strKind P0 w) kvF') (hu : uo'.IsDictOf (PySem.intKind P0 w) (stored kvU num (.ref ua))) (hod : UnitD od num fx 0)
    (hl : ∀ p ∈ Y ++ rest2 (A ++ R) ud fd, @LT.lt Nat _ p.1 uda) (l1 : @LT.lt Nat _ ud uda) (l2 : @LT.lt Nat _ fd uda) (l3 : @LT.lt Nat _ uda ua)
    (N : News h₀ L h' ((ua, instObj 147 uda) :: (uda, od) :: (ud, uo') :: (fd, fo') :: (Y ++ rest2 (A ++ R) ud fd))) :
    openOk st num told nm = true ∧ ∃ A', PInv w ud fd A' (step st (.opn num told nm)) ∧ Dis A' R ∧ News h₀ L h' (A' ++ R) := by
  have fn := fn_left (news_fn N₀)
  have hok := ok_new I ha hs hfree W
  have hstep : step st (.opn num told nm) = opened st num told nm := if_pos ⟨hok, ha⟩
  have hAr : ∀ p ∈ A, p.1 = ud ∨ p.1 = fd ∨ p ∈ rest2 (A ++ R) ud fd := fun p hp => by
    by_cases e : p.1 = ud
    · exact .inl e
    by_cases e' : p.1 = fd
    · exact .inr (.inl e')
    · exact .inr (.inr (mem_rest2.mpr ⟨List.mem_append_left _ hp, e, e'⟩))
  have hlA : ∀ p ∈ A, @LT.lt Nat _ p.1 uda := fun p hp => by
    rcases hAr p hp with e | e | e
    · rw [e]; exact l1
    · rw [e]; exact l2
    · exact hl p (List.mem_append_right _ e)
  have hRr := in_rest2 I D
  have hRk : ∀ p ∈ A ++ R, p ∈ (ud, uo) :: (fd, fo) :: rest2 (A ++ R) ud fd := back2 (news_fn N₀) (List.mem_append_left _ I.u) (List.mem_append_left _ I.f)
  refine ⟨hok, (ua, instObj 147 uda) :: (uda, od) :: (Y ++ put (put A fd fo') ud uo'), ?_, fun p hp q hq => ?_, news_sub N fun p hp => ?_⟩
  · rw [hstep]
    exact pin_open I S fn (wanted_five hft.1 hft.2.1 hft.2.2.2) (fun ht c => by
      obtain ⟨j, hj, e⟩ := List.mem_map.mp c
      obtain ⟨v, hv⟩ := pair_key I hj
      exact hfree ht j v hv e) W (fun p hp => hRk p (List.mem_append_left _ hp)) hf hu hod (fun p hp => hl p (List.mem_append_left _ hp)) hlA l3
  · have hq' := hl q (List.mem_append_right _ (hRr q hq))
    rcases List.mem_cons.mp hp with rfl | hp
    · exact Nat.ne_of_gt (Nat.lt_trans hq' l3)
    rcases List.mem_cons.mp hp with rfl | hp
    · exact Nat.ne_of_gt hq'
    rcases List.mem_append.mp hp with hp | hp
    · exact Nat.ne_of_gt (W.above p hp q (hRk q (List.mem_append_right _ hq)))
    · exact dis_put (o := uo) (dis_put (o := fo) D I.f) (mem_put' I.u I.ne) p hp q hq
  · rcases List.mem_append.mp hp with hp | hp
    · rcases List.mem_cons.mp hp with rfl | hp
      · exact .head _
      rcases List.mem_cons.mp hp with rfl | hp
      · exact .tail _ (.head _)
      rcases List.mem_append.mp hp with hp | hp
      · exact .tail _ (.tail _ (.tail _ (.tail _ (List.mem_append_left _ hp))))
      · rcases of_put hp with rfl | ⟨hp, n1⟩
        · exact .tail _ (.tail _ (.head _))
        rcases of_put hp with rfl | ⟨hp, n2⟩
        · exact .tail _ (.tail _ (.tail _ (.head _)))
        · exact .tail _ (.tail _ (.tail _ (.tail _ (List.mem_append_right _ (mem_rest2.mpr ⟨List.mem_append_left _ hp, n1, n2⟩)))))
    · exact .tail _ (.tail _ (.tail _ (.tail _ (List.mem_append_right _ (hRr p hp)))))
theorem open_any (B : Below A₀ base outer h₀) (F : Fr h₀ L s.heap m) (X : (hd.heap_1 w.params).In h₀) (N : News h₀ L s.heap (A ++ R)) (T : Top view (looseW view []) mean mg mb h₀)
    (hf : env.frame = some L) (hk : env.scope.kind = .function) (I : PInv w ud fd A st) (S : SOk st bd) (hbd : bd < 60) (D : Dis A R)
    (hsa : (sa, instObj 126 sda) ∈ R) (hsda : (sda, dictOf [⟨hh, .str (Str.ofString "files") sf, .ref fd⟩] sn) ∈ R) (hwm : (wd, wo) ∈ R) (hwd : wo.IsDictOf (PySem.strKind P0 w) kvW)
    (hv : valueAt kvW (Str.ofString "STATUS") = some (.str told wt)) (h0 : (nm = none ∧ valueAt kvW (Str.ofString "FILE") = none) ∨ ∃ x nt, nm = some x ∧ valueAt kvW (Str.ofString "FILE") = some (.str x nt))
    (h1 : valueAt kvW (Str.ofString "ACCESS") = none) (h2 : valueAt kvW (Str.ofString "FORM") = none) (h3 : valueAt kvW (Str.ofString "RECL") = none) (h4 : valueAt kvW (Str.ofString "BLANK") = none)
    (hft : Fits st (.opn num told nm))
    (ret : openOk st num told nm = true → ∀ v A' h' tk, PInv w ud fd A' (step st (.opn num told nm)) → Dis A' R → Fr h₀ L h' m → News h₀ L h' (A' ++ R) → Q v { s with heap := h', toks := tk })
    (raised : openOk st num told nm = false → ∀ G h' tk e, Fr h₀ L G m → RaisedSN base G (env :: outer) e (.ref 63) (A ++ R) h' → G.UpToSlots h' → E (.ref e) { s with heap := h', toks := tk }) :
    wpAny (model P0 w) (At 500 1500 gd env outer) (call (.ref 207) [.ref sa, .ref ud, .int num tn, .ref wd]) Q E s := by
  obtain ⟨uo, fo, kvU, kvF, fa, fda, ga, I⟩ := I
  have fn := fn_left (news_fn N)
  have r2 : ∀ p ∈ R, p ∈ rest2 (A ++ R) ud fd := in_rest2 I D
  have ht : told = Str.ofString "UNKNOWN" ∨ told = Str.ofString "NEW" ∨ told = Str.ofString "OLD" ∨ told = Str.ofString "SCRATCH" := hft.2.2.1
  have n0 : 0 ≤ num := by have := hft.1; omega
  have n1 : num < 10 := by have := hft.2.1; omega
  have N2 := news_rest2 N (List.mem_append_left _ I.u) (List.mem_append_left _ I.f)
  have hRk : ∀ p ∈ A ++ R, p ∈ (ud, uo) :: (fd, fo) :: rest2 (A ++ R) ud fd := back2 (news_fn N) (List.mem_append_left _ I.u) (List.mem_append_left _ I.f)
  have lU : kvU.length < 64 := by
    have : kvU.length = st.ks.length := by rw [← I.ku, List.length_map]
    have := S.bk; omega
  have lF : kvF.length < 64 := by
    have : kvF.length = st.ns.length := by rw [← I.kf, List.length_map]
    have := S.bn; omega
  have q1 : ∀ p ∈ rest2 (A ++ R) ud fd, p.1 ≠ ud := fun p hp => (mem_rest2.mp hp).2.1
  have q2 : ∀ p ∈ rest2 (A ++ R) ud fd, p.1 ≠ fd := fun p hp => (mem_rest2.mp hp).2.2
  have hU := uread_all (R := R) I fn
  have hF := fread_all (R := R) I fn
  by_cases ha : againP st num nm
  · -- the unit is there, and no other name is told
    have hkm : num ∈ st.ks := ha.1
    obtain ⟨ua, uda, od, fod, ra, rn, u⟩ := I.units num hkm
    have hstep : step st (.opn num told nm) = st := if_neg fun c => c.2 ha
    have m1 : (ua, instObj 147 uda) ∈ rest (A ++ R) uda := mem_rest' (List.mem_append_left _ u.ui) (fun e => unit_inst u.uD (fn _ _ _ u.ud (e ▸ u.ui)))
    have m2 : (fa num, instObj 105 (fda num)) ∈ rest (A ++ R) uda := mem_rest' (List.mem_append_left _ u.fi) (fun e => unit_inst u.uD (fn _ _ _ u.ud (e ▸ u.fi)))
    have m3 : (fda num, fod) ∈ rest (A ++ R) uda := mem_rest' (List.mem_append_left _ u.fd) (fun e => unit_file u.uD (fn _ _ _ (e ▸ u.fd) u.ud ▸ u.fD))
    have m4 : (ud, uo) ∈ rest (A ++ R) uda := mem_rest' (List.mem_append_left _ I.u) (Ne.symm u.n1)
    have m5 : (wd, wo) ∈ rest (A ++ R) uda := mem_rest' (List.mem_append_right _ hwm) (fun e => D _ u.ud _ hwm e.symm)
    have N1 := news_focus N (List.mem_append_left _ u.ud)
    have bad : told = Str.ofString "NEW" ∨ told = Str.ofString "SCRATCH" → openOk st num told nm = false := fun c => by
      unfold openOk
      by_cases c0 : told = Str.ofString "SCRATCH" ∧ nm ≠ none
      · rw [if_pos c0]
      rw [if_neg c0, if_pos ha]
      rcases c with rfl | rfl <;> decide +kernel
    have good : told ≠ Str.ofString "NEW" → told ≠ Str.ofString "SCRATCH" → openOk st num told nm = true := fun c c' => by
      unfold openOk
      rw [if_neg (fun d => c' d.1), if_pos ha]
      rcases ht with e | e | e | e
      · exact decide_eq_true (.inr e)
      · exact absurd e c
      · exact decide_eq_true (.inl e)
      · exact absurd e c'
    have r : told ≠ Str.ofString "NEW" → told ≠ Str.ofString "SCRATCH" → ∀ od' h' tk, UnitD od' num (fa num) (st.U num).pl → Fr h₀ L h' m → News h₀ L h' ((uda, od') :: rest (A ++ R) uda) → Q (.ref ua) { s with heap := h', toks := tk } := fun c c' od' h' tk hod' F' N' =>
      ret (good c c') _ (put A uda od') h' tk (by rw [hstep]; exact pin_touch I fn u hod') (dis_put D u.ud) F' (news_unfocus N' D u.ud)
    have x : ∀ G h' tk e, told = Str.ofString "NEW" ∨ told = Str.ofString "SCRATCH" → Fr h₀ L G m → RaisedSN base G (env :: outer) e (.ref 63) ((uda, od) :: rest (A ++ R) uda) h' → G.UpToSlots h' → E (.ref e) { s with heap := h', toks := tk } := fun G h' tk e c F' R' U' =>
      raised (bad c) G h' tk e F' (raised_sub R' (back1 (news_fn N) (List.mem_append_left _ u.ud))) U'
    rcases h0 with ⟨rfl, h0⟩ | ⟨y, nt, rfl, h0⟩
    · exact openA_again B F X N1 T hf hk I.uD hwd (rest_ne _ _) m4 m5 m1 u.uD m2 m3 u.fD hv h0 h1 h2 h3 h4 ht n0 n1 u.at_ r x
    · have e : y = (st.U num).nm := ha.2.elim (fun c => nomatch c) fun c => Option.some.inj c
      exact openB_again B F X N1 T hf hk I.uD hwd (rest_ne _ _) m4 m5 m1 u.uD m2 m3 (e ▸ u.fD) hv h0 h1 h2 h3 h4 ht (hft.2.2.2 y rfl) n0 n1 u.at_ r x
  · rcases h0 with ⟨rfl, h0⟩ | ⟨y, nt, rfl, h0⟩
    · have hab : valueAt kvU num = none := valueAt_no fun c => ha ⟨I.ku ▸ c, .inl rfl⟩
      refine openA_absent (nmOf := fun k => (st.U k).nm) B F X N2 T hf hk I.uD I.fD hwd lU lF q1 q2 I.ne (r2 _ hsa) (r2 _ hsda) (r2 _ hwm) hv h0 h1 h2 h3 h4 ht n0 n1 hU hF hab ?_ ?_
      · intro ua uda od fx Y uo' fo' kvF' h' tk W hf' hu' hod l0 l1 l2 l3 hfree F' N'
        obtain ⟨hok, A', I', D', N''⟩ := open_after (nm := none) I S N D hft ha (fun _ => rfl) hfree W hf' hu' hod l0 l1 l2 l3 N'
        exact ret hok _ A' h' tk I' D' F' N''
      · intro G h' tk e hns c F' R' U'
        exact raised (ok_bad I ha hns c) G h' tk e F' (raised_sub R' hRk) U'
    · have rr : ∀ ua uda od fx Y uo' fo' kvF' h' tk, FoundW told y ((ud, uo) :: (fd, fo) :: rest2 (A ++ R) ud fd) kvF kvF' fo fo' fx Y → fo'.IsDictOf (PySem.strKind P0 w) kvF' → uo'.IsDictOf (PySem.intKind P0 w) (stored kvU num (.ref ua)) → UnitD od num fx 0 →
          (∀ p ∈ Y ++ rest2 (A ++ R) ud fd, @LT.lt Nat _ p.1 uda) → @LT.lt Nat _ ud uda → @LT.lt Nat _ fd uda → @LT.lt Nat _ uda ua → (told ≠ Str.ofString "SCRATCH" → ∀ k v, (k, v) ∈ kvU → (st.U k).nm ≠ y) →
          told ≠ Str.ofString "SCRATCH" → Fr h₀ L h' m → News h₀ L h' ((ua, instObj 147 uda) :: (uda, od) :: (ud, uo') :: (fd, fo') :: (Y ++ rest2 (A ++ R) ud fd)) → Q (.ref ua) { s with heap := h', toks := tk } := by
        intro ua uda od fx Y uo' fo' kvF' h' tk W hf' hu' hod l0 l1 l2 l3 hfree hns F' N'
        obtain ⟨hok, A', I', D', N''⟩ := open_after (nm := some y) I S N D hft ha (fun c => absurd c hns) hfree W hf' hu' hod l0 l1 l2 l3 N'
        exact ret hok _ A' h' tk I' D' F' N''
      have xx : ∀ G h' tk e, (told = Str.ofString "SCRATCH" ∨ (∃ k v, (k, v) ∈ kvU ∧ (st.U k).nm = y) ∨ ((∀ k v, (k, v) ∈ kvU → (st.U k).nm ≠ y) ∧ (((∃ v, valueAt kvF y = some v) ∧ told = Str.ofString "NEW") ∨ (valueAt kvF y = none ∧ told = Str.ofString "OLD")))) →
          Fr h₀ L G m → RaisedSN base G (env :: outer) e (.ref 63) ((ud, uo) :: (fd, fo) :: rest2 (A ++ R) ud fd) h' → G.UpToSlots h' → E (.ref e) { s with heap := h', toks := tk } := by
        intro G h' tk e c F' R' U'
        refine raised ?_ G h' tk e F' (raised_sub R' hRk) U'
        by_cases hns : told = Str.ofString "SCRATCH"
        · unfold openOk
          rw [if_pos ⟨hns, fun c => nomatch c⟩]
        · exact ok_bad I ha hns (c.resolve_left hns)
      rcases Decidable.em (num ∈ st.ks) with hin | hin
      · have e1 : y ≠ (st.U num).nm := fun c => ha ⟨hin, .inr (congrArg some c)⟩
        obtain ⟨v, hab⟩ := valueAt_isSome (kvs := kvU) (I.ku ▸ hin)
        exact openB_other (nmOf := fun k => (st.U k).nm) B F X N2 T hf hk I.uD I.fD hwd lU lF q1 q2 I.ne (r2 _ hsa) (r2 _ hsda) (r2 _ hwm) hv h0 h1 h2 h3 h4 ht n0 n1 hU hF hab (fun c => e1 c.symm) (hft.2.2.2 y rfl) rr xx
      · exact openB_absent (nmOf := fun k => (st.U k).nm) B F X N2 T hf hk I.uD I.fD hwd lU lF q1 q2 I.ne (r2 _ hsa) (r2 _ hsda) (r2 _ hwm) hv h0 h1 h2 h3 h4 ht n0 n1 hU hF (valueAt_no fun c => hin (I.ku ▸ c)) (hft.2.2.2 y rfl) rr xx
end
end
section
section
variable {w : World} {gd : Option (List Code)} {env : Env} {outer : List Env} {A₀ : Around} {base h₀ : Heap} {L : Addr} {m mg mb : Str → Option Value} {mean : ExcName → Option Value} {s : Shared} {Q E : Value → Shared → Prop}
    {A R : List (Addr × Obj)} {fd ud sa sda : Addr} {told : Option Str} {tv : Value} {num : Int} {tn sf : Tok} {hh : Int} {sn bd : Nat} {st : St}
theorem close_any (B : Below A₀ base outer h₀) (F : Fr h₀ L s.heap m) (X : (hd.heap_1 w.params).In h₀) (N : News h₀ L s.heap (A ++ R)) (T : Top view (looseW view []) mean mg mb h₀)
    (hf : env.frame = some L) (hk : env.scope.kind = .function) (I : PInv w ud fd A st) (S : SLo st bd) (hbd : bd < 60) (D : Dis A R)
    (hsa : (sa, instObj 126 sda) ∈ R) (hsda : (sda, dictOf [⟨hh, .str (Str.ofString "files") sf, .ref fd⟩] sn) ∈ R) (hn0 : 0 ≤ num) (htv : ToldV tv told)
    (ret : okOf st (.cls num told) = true → ∀ A' h' tk, PInv w ud fd A' (step st (.cls num told)) → Dis A' R → Fr h₀ L h' m → News h₀ L h' (A' ++ R) → Q .none { s with heap := h', toks := tk })
    (raised : okOf st (.cls num told) = false → ∀ G h' tk e, Fr h₀ L G m → RaisedSN base G (env :: outer) e (.ref 63) (A ++ R) h' → G.UpToSlots h' → E (.ref e) { s with heap := h', toks := tk }) :
    wpAny (model P0 w) (At 500 1500 gd env outer) (call (.ref 214) [.ref sa, .ref ud, .int num tn, tv]) Q E s := by
  have I₀ := I
  obtain ⟨uo, fo, kvU, kvF, fa, fda, ga, I⟩ := I
  have fn := fn_left (news_fn N)
  have r2 : ∀ p ∈ R, p ∈ rest2 (A ++ R) ud fd := in_rest2 I D
  have N2 := news_rest2 N (List.mem_append_left _ I.u) (List.mem_append_left _ I.f)
  have hRk : ∀ p ∈ A ++ R, p ∈ (ud, uo) :: (fd, fo) :: rest2 (A ++ R) ud fd := back2 (news_fn N) (List.mem_append_left _ I.u) (List.mem_append_left _ I.f)
  have lU : kvU.length < 64 := by
    have : kvU.length = st.ks.length := by rw [← I.ku, List.length_map]
    have := S.bk; omega
  have lF : kvF.length < 64 := by
    have : kvF.length = st.ns.length := by rw [← I.kf, List.length_map]
    have := S.bn; omega
  have q1 : ∀ p ∈ rest2 (A ++ R) ud fd, p.1 ≠ ud := fun p hp => (mem_rest2.mp hp).2.1
  have q2 : ∀ p ∈ rest2 (A ++ R) ud fd, p.1 ≠ fd := fun p hp => (mem_rest2.mp hp).2.2
  by_cases hin : num ∈ st.ks
  · obtain ⟨ua, uda, od, fod, ra, rn, u⟩ := I.units num hin
    have keep : ∀ a o, (a, o) ∈ A → a ≠ ud → a ≠ fd → (a, o) ∈ rest2 (A ++ R) ud fd := fun a o h h1 h2 => mem_rest2.mpr ⟨List.mem_append_left _ h, h1, h2⟩
    have u' := unit_dicts (kvU' := kvU) (st' := st) (ga' := ga) I fn keep u rfl rfl rfl fun _ => rfl
    have hdel : ∃ v0, (st.U num).nm ≠ Str.ofString "" → valueAt kvF (st.U num).nm = some v0 := by
      by_cases c : (st.U num).nm = Str.ofString ""
      · exact ⟨.none, fun d => absurd c d⟩
      · obtain ⟨v, e⟩ := valueAt_isSome (kvs := kvF) (I.kf ▸ S.inn num hin c)
        exact ⟨v, fun _ => e⟩
    obtain ⟨v0, hdel⟩ := hdel
    refine close_there B F X N2 T hf hk I.uD I.fD lU lF q1 q2 I.ne (r2 _ hsa) (r2 _ hsda) hn0 htv u.at_ u'.ui u'.ud u'.uD u'.fi u'.fd u'.fD hdel ?_ ?_
    · intro hc uo' fo' kvF' h' tk hu' hf' hF F' N'
      have hok : okOf st (.cls num told) = true := by
        unfold okOf
        dsimp only
        rw [decide_eq_false fun c => hc c.2]; rfl
      refine ret hok (put (put A fd fo') ud uo') h' tk ?_ (dis_put (o := uo) (dis_put (o := fo) D I.f) (mem_put' I.u I.ne)) F' (news_sub N' fun p hp => ?_)
      · rw [show step st (.cls num told) = closed st num told from if_pos ⟨hin, hok⟩]
        exact pin_close I fn hin hu' hf' hF
      · rcases List.mem_append.mp hp with hp | hp
        · rcases of_put hp with rfl | ⟨hp, n1⟩
          · exact .head _
          rcases of_put hp with rfl | ⟨hp, n2⟩
          · exact .tail _ (.head _)
          · exact .tail _ (.tail _ (mem_rest2.mpr ⟨List.mem_append_left _ hp, n1, n2⟩))
        · exact .tail _ (.tail _ (r2 p hp))
    · intro G h' tk e hc F' R' U'
      refine raised ?_ G h' tk e F' (raised_sub R' hRk) U'
      unfold okOf
      dsimp only
      rw [decide_eq_true ⟨hin, hc⟩]; rfl
  · have hok : okOf st (.cls num told) = true := by
      unfold okOf
      dsimp only
      rw [decide_eq_false fun c => hin c.1]; rfl
    refine close_absent B F X N T hf hk I.uD (List.mem_append_left _ I.u) hn0 htv (valueAt_no fun c => hin (I.ku ▸ c)) fun h' tk F' N' => ?_
    exact ret hok A h' tk (by rw [show step st (.cls num told) = st from if_neg fun c => hin c.1]; exact I₀) D F' N'
end
end
section
theorem words_Done : True := by
  k_with "subscriptTail Attribute" => (first | (k_here; k_dflt (refine kba_turn (value' := PySem.Expr.Name (PySem.Str.ofString "_") ⟨0, 0, 0, 0⟩) (fun _ => rfl) ?_)) | fail)
  k_with "k_enter" => (first | ((refine' code_defT ?qzB ?qzF ?qzX ?qzN ?qzT ?qzhA ?qzhf ?qzhke ?qzho ?qzhcd ?qzhroom ?qzhbind ?qzhloc ?_ ?qzc2 ?qzc3 ?qzc4 ?qzc5; (case qzB => k_asm); (case qzF => k_asm); (case qzX => k_asm); (case qzN => k_asm); (case qzT => k_asm); (case qzhA => exact rfl); (case qzhf => assumption); (case qzhke => assumption); (case qzho => k_is); (case qzhcd => k_is); (case qzhroom => exact Nat.le_of_ble_eq_true rfl); (case qzhbind => exact BindsTo.of_eq rfl); (case qzhloc => exact locs rfl); (case qzc2 => exact rfl); (case qzc3 => exact rfl); (case qzc4 => exact rfl); (case qzc5 => decide); k_whole; intro g' L' h' FG' F' N' B' X' T'; (try dsimp only)); (try revert T'); (try revert X'); (try revert B'); (try revert N'); (try revert F'); (try revert FG'); (try revert h'); (try revert L'); (try revert g'); intros) | fail)
  k_with "call ref" => (first | (k_here; (with_reducible show wpAny _ _ (call (Value.ref 207) _) _ _ _); refine hold ?_) | fail)
  k_with "call ref" => (first | (k_here; (with_reducible show wpAny _ _ (call (Value.ref 214) _) _ _ _); refine hold ?_) | fail)
  k_with "call ref" => (first | (k_here; (with_reducible show wpAny _ _ (call (Value.ref 242) _) _ _ _); refine hold ?_) | fail)
  k_with "call ref" => (first | (k_here; (with_reducible show wpAny _ _ (call (Value.ref 249) _) _ _ _); refine hold ?_) | fail)
  trivial
section
variable {w : World} {gd : Option (List Code)} {env : Env} {A₀ : Around} {base h₀ : Heap} {L : Addr} {m mg mb : Str → Option Value} {mean : ExcName → Option Value} {s : Shared} {Q E : Value → Shared → Prop}
    {A R : List (Addr × Obj)} {fd ud wa wda sa sda da : Addr} {wo o : Obj} {sf : Tok} {hh num : Int} {sn bd : Nat} {st : St} {r : Value}
theorem done_write (B : Below A₀ base [] h₀) (F : Fr h₀ L s.heap m) (X : (hd.heap_1 w.params).In h₀) (N : News h₀ L s.heap (A ++ R)) (T : Top view (looseW view []) mean mg mb h₀)
    (hf : env.frame = some L) (hk : env.scope.kind = .function) (I : PInv w ud fd A st) (S : SOk st bd) (hbd : bd < 60) (D : Dis A R)
    (hwa : (wa, instObj 299 wda) ∈ R) (hwda : (wda, wo) ∈ R) (hwo : WorldD wo sa ud) (hda : (da, o) ∈ R) (hd : DeedV o (.wrt num r)) (hft : Fits st (.wrt num r))
    (ret : ∀ A' h' tk, PInv w ud fd A' (step st (.wrt num r)) → Dis A' R → Fr h₀ L h' m → News h₀ L h' (A' ++ R) → Q (.bool true) { s with heap := h', toks := tk }) :
    wpAny (model P0 w) (At 400 1000 gd env []) (call (.ref 324) [.ref wa, .ref da]) Q E s := (by exact kept : Kept _ (by
  obtain ⟨k1, k3, w0, n0, x, xt, rfl, rfl⟩ := hd
  obtain ⟨uo, fo, kvU, kvF, fa, fda, ga, I⟩ := I
  obtain ⟨ua, uda, od, fod, ra, rn, u⟩ := I.units num hft
  have fn := fn_left (news_fn N)
  have n12 : uda ≠ fda num := fun e => unit_file u.uD (fn _ _ _ (e ▸ u.fd) u.ud ▸ u.fD)
  obtain ⟨g0, g1, g2, g3, g4, g5, p0, p1, p2, p3, p4, p5, p6, wi, wj, wk, wn, rfl⟩ := hwo
  have N1 := news_rest2 N (List.mem_append_left _ u.ud) (List.mem_append_left _ u.fd)
  have r2 : ∀ p ∈ R, p ∈ rest2 (A ++ R) uda (fda num) := fun p hp => mem_rest2.mpr ⟨List.mem_append_right _ hp, fun e => D _ u.ud p hp e.symm, fun e => D _ u.fd p hp e.symm⟩
  have m1 : (wa, instObj 299 wda) ∈ rest2 (A ++ R) uda (fda num) := r2 _ hwa
  have m2 := r2 _ hwda
  have m3 := r2 _ hda
  have m4 : (ud, uo) ∈ rest2 (A ++ R) uda (fda num) := mem_rest2.mpr ⟨List.mem_append_left _ I.u, Ne.symm u.n1, Ne.symm u.n3⟩
  have hud := I.uD
  have hat := u.at_
  have m5 : (ua, instObj 147 uda) ∈ rest2 (A ++ R) uda (fda num) := mem_rest2' (List.mem_append_left _ u.ui) (fun e => unit_inst u.uD (fn _ _ _ u.ud (e ▸ u.ui))) (fun e => file_inst u.fD (fn _ _ _ u.fd (e ▸ u.ui)))
  have m6 : (fa num, instObj 105 (fda num)) ∈ rest2 (A ++ R) uda (fda num) := mem_rest2' (List.mem_append_left _ u.fi) (fun e => unit_inst u.uD (fn _ _ _ u.ud (e ▸ u.fi))) (fun e => file_inst u.fD (fn _ _ _ u.fd (e ▸ u.fi)))
  have m7 : (ra, listOf (recsOf st num).toArray rn) ∈ rest2 (A ++ R) uda (fda num) := mem_rest2' (List.mem_append_left _ u.r) (fun e => unit_list u.uD (fn _ _ _ u.ud (e ▸ u.r))) (fun e => file_list u.fD (fn _ _ _ u.fd (e ▸ u.r)))
  have hlr : (recsOf st num).length < 64 := by have := S.br num hft; omega
  have q1 : ∀ p ∈ rest2 (A ++ R) uda (fda num), p.1 ≠ uda := fun p hp => (mem_rest2.mp hp).2.1
  have q2 : ∀ p ∈ rest2 (A ++ R) uda (fda num), p.1 ≠ fda num := fun p hp => (mem_rest2.mp hp).2.2
  clear N
  refine wpAny_call ?_
  k_dflt k_enter
  k_steps
  refine held (wp_up (write_any (gd := _) (by k_asm) (by k_asm) (by k_asm) (by k_asm) (by k_asm) rfl rfl m5 u.uD m6 u.fD hlr m7 n12 q1 q2 ?_ ?_) rfl (Nat.le_of_ble_eq_true rfl) rfl rfl (Nat.le_of_ble_eq_true rfl))
  · intro _ od' fod' rb h' tk n' hod' hfod' hlt F' N'
    k_steps
    refine ret ((rb, listOf ((recsOf st num).take (st.U num).pl ++ [Value.str x xt]).toArray n') :: put (put A (fda num) fod') uda od') _ _ (pin_write I S fn hft u hod' hfod') (fun p hp q hq => ?_) (by k_asm) (news_sub (by k_asm) fun p hp => ?_)
    · rcases List.mem_cons.mp hp with rfl | hp
      · exact Nat.ne_of_gt (hlt q (.tail _ (.tail _ (r2 q hq))))
      · exact dis_put (dis_put D u.fd) (mem_put' u.ud n12) p hp q hq
    · rcases List.mem_append.mp hp with hp | hp
      · rcases List.mem_cons.mp hp with rfl | hp
        · exact .head _
        rcases of_put hp with rfl | ⟨hp, e1⟩
        · exact .tail _ (.head _)
        rcases of_put hp with rfl | ⟨hp, e2⟩
        · exact .tail _ (.tail _ (.head _))
        · exact .tail _ (.tail _ (.tail _ (mem_rest2.mpr ⟨List.mem_append_left _ hp, e1, e2⟩)))
      · exact .tail _ (.tail _ (.tail _ (r2 p hp)))
  · intro _ _ _ _ hbad
    exact absurd hbad (Nat.not_lt_of_le (S.pl num hft))))
theorem done_rewind (B : Below A₀ base [] h₀) (F : Fr h₀ L s.heap m) (X : (hd.heap_1 w.params).In h₀) (N : News h₀ L s.heap (A ++ R)) (T : Top view (looseW view []) mean mg mb h₀)
    (hf : env.frame = some L) (hk : env.scope.kind = .function) (I : PInv w ud fd A st) (D : Dis A R)
    (hwa : (wa, instObj 299 wda) ∈ R) (hwda : (wda, wo) ∈ R) (hwo : WorldD wo sa ud) (hda : (da, o) ∈ R) (hd : DeedV o (.rew num)) (hft : Fits st (.rew num))
    (ret : ∀ A' h' tk, PInv w ud fd A' (step st (.rew num)) → Dis A' R → Fr h₀ L h' m → News h₀ L h' (A' ++ R) → Q (.bool true) { s with heap := h', toks := tk }) :
    wpAny (model P0 w) (At 400 1000 gd env []) (call (.ref 324) [.ref wa, .ref da]) Q E s := (by exact kept : Kept _ (by
  obtain ⟨k1, k3, w0, n0, x, xt, rfl⟩ := hd
  obtain ⟨uo, fo, kvU, kvF, fa, fda, ga, I⟩ := I
  obtain ⟨ua, uda, od, fod, ra, rn, u⟩ := I.units num hft
  have fn := fn_left (news_fn N)
  obtain ⟨g0, g1, g2, g3, g4, g5, p0, p1, p2, p3, p4, p5, p6, wi, wj, wk, wn, rfl⟩ := hwo
  have N1 := news_focus N (List.mem_append_left _ u.ud)
  have r2 : ∀ p ∈ R, p ∈ rest (A ++ R) uda := fun p hp => mem_rest.mpr ⟨List.mem_append_right _ hp, fun e => D _ u.ud p hp e.symm⟩
  have m1 : (wa, instObj 299 wda) ∈ rest (A ++ R) uda := r2 _ hwa
  have m2 := r2 _ hwda
  have m3 := r2 _ hda
  have m4 : (ud, uo) ∈ rest (A ++ R) uda := mem_rest' (List.mem_append_left _ I.u) (Ne.symm u.n1)
  have hud := I.uD
  have hat := u.at_
  have m5 : (ua, instObj 147 uda) ∈ rest (A ++ R) uda := mem_rest' (List.mem_append_left _ u.ui) (fun e => unit_inst u.uD (fn _ _ _ u.ud (e ▸ u.ui)))
  have m6 : (fa num, instObj 105 (fda num)) ∈ rest (A ++ R) uda := mem_rest' (List.mem_append_left _ u.fi) (fun e => unit_inst u.uD (fn _ _ _ u.ud (e ▸ u.fi)))
  have m7 : (fda num, fod) ∈ rest (A ++ R) uda := mem_rest' (List.mem_append_left _ u.fd) (fun e => unit_file u.uD (fn _ _ _ (e ▸ u.fd) u.ud ▸ u.fD))
  have q1 : ∀ p ∈ rest (A ++ R) uda, p.1 ≠ uda := rest_ne _ _
  clear N
  refine wpAny_call ?_
  k_dflt k_enter
  k_steps
  refine held (wp_up (rewind_any (gd := _) (by k_asm) (by k_asm) (by k_asm) (by k_asm) (by k_asm) rfl rfl m5 u.uD m6 m7 u.fD q1 ?_) rfl (Nat.le_of_ble_eq_true rfl) rfl rfl (Nat.le_of_ble_eq_true rfl))
  intro od' h' tk hod' F' N'
  k_steps
  exact ret (put A uda od') _ _ (pin_rewind I fn hft u hod') (dis_put D u.ud) (by k_asm) (news_unfocus (by k_asm) D u.ud)))
end
end
section
theorem words_DoneC : True := by
  k_with "k_enter" => (first | ((refine' code_defT ?qzB ?qzF ?qzX ?qzN ?qzT ?qzhA ?qzhf ?qzhke ?qzho ?qzhcd ?qzhroom ?qzhbind ?qzhloc ?_ ?qzc2 ?qzc3 ?qzc4 ?qzc5; (case qzB => k_asm); (case qzF => k_asm); (case qzX => k_asm); (case qzN => k_asm); (case qzT => k_asm); (case qzhA => exact rfl); (case qzhf => assumption); (case qzhke => assumption); (case qzho => k_is); (case qzhcd => k_is); (case qzhroom => exact Nat.le_of_ble_eq_true rfl); (case qzhbind => exact BindsTo.of_eq rfl); (case qzhloc => exact locs rfl); (case qzc2 => exact rfl); (case qzc3 => exact rfl); (case qzc4 => exact rfl); (case qzc5 => decide); k_whole; intro g' L' h' FG' F' N' B' X' T'; (try dsimp only)); (try revert T'); (try revert X'); (try revert B'); (try revert N'); (try revert F'); (try revert FG'); (try revert h'); (try revert L'); (try revert g'); intros) | fail)
  k_with "call ref" => (first | (k_here; (with_reducible show wpAny _ _ (call (Value.ref 207) _) _ _ _); refine hold ?_) | fail)
  k_with "call ref" => (first | (k_here; (with_reducible show wpAny _ _ (call (Value.ref 214) _) _ _ _); refine hold ?_) | fail)
  k_with "call ref" => (first | (k_here; (with_reducible show wpAny _ _ (call (Value.ref 242) _) _ _ _); refine hold ?_) | fail)
  k_with "call ref" => (first | (k_here; (with_reducible show wpAny _ _ (call (Value.ref 249) _) _ _ _); refine hold ?_) | fail)
  trivial
section
variable {w : World} {gd : Option (List Code)} {env : Env} {A₀ : Around} {base h₀ : Heap} {L : Addr} {m mg mb : Str → Option Value} {mean : ExcName → Option Value} {s : Shared} {Q E : Value → Shared → Prop}
    {A R : List (Addr × Obj)} {fd ud wa wda sa sda da : Addr} {wo o : Obj} {sf : Tok} {hh num : Int} {sn bd : Nat} {st : St} {r : Value}
theorem done_close {told : Option Str} (B : Below A₀ base [] h₀) (F : Fr h₀ L s.heap m) (X : (hd.heap_1 w.params).In h₀) (N : News h₀ L s.heap (A ++ R)) (T : Top view (looseW view []) mean mg mb h₀) (XB : (hd.heap_1 w.params).In base) (TB : Top view (looseW view []) mean mg mb base)
    (hf : env.frame = some L) (hk : env.scope.kind = .function) (I : PInv w ud fd A st) (S : SOk st bd) (hbd : bd < 60) (D : Dis A R)
    (hwa : (wa, instObj 299 wda) ∈ R) (hwda : (wda, wo) ∈ R) (hwo : WorldD wo sa ud) (hsa : (sa, instObj 126 sda) ∈ R) (hsda : (sda, dictOf [⟨hh, .str (Str.ofString "files") sf, .ref fd⟩] sn) ∈ R) (hda : (da, o) ∈ R) (hd : DeedV o (.cls num told))
    (ret : ∀ A' h' tk, PInv w ud fd A' (step st (.cls num told)) → Dis A' R → Fr h₀ L h' m → News h₀ L h' (A' ++ R) → Q (.bool (okOf st (.cls num told))) { s with heap := h', toks := tk }) :
    wpAny (model P0 w) (At 400 1000 gd env []) (call (.ref 324) [.ref wa, .ref da]) Q E s := (by exact kept : Kept _ (by
  obtain ⟨k1, k3, w0, n0, v, hv, rfl⟩ := hd
  obtain ⟨g0, g1, g2, g3, g4, g5, p0, p1, p2, p3, p4, p5, p6, wi, wj, wk, wn, rfl⟩ := hwo
  obtain ⟨l, hl⟩ : ∃ l, l = A ++ R := ⟨_, rfl⟩
  rw [← hl] at N
  have r2 : ∀ p ∈ R, p ∈ l := fun p hp => hl ▸ List.mem_append_right _ hp
  have m1 : (wa, instObj 299 wda) ∈ l := r2 _ hwa
  have m2 := r2 _ hwda
  have m3 := r2 _ hda
  refine wpAny_call ?_
  k_dflt k_enter
  k_steps
  subst hl
  refine held (wp_up (close_any (gd := _) (by k_asm) (by k_asm) (by k_asm) (by k_asm) (by k_asm) rfl rfl I S.lo hbd D hsa hsda (by omega) hv ?_ ?_) rfl (Nat.le_of_ble_eq_true rfl) rfl rfl (Nat.le_of_ble_eq_true rfl))
  · intro hok A' h' tk I' D' F' N'
    obtain ⟨l', hl'⟩ : ∃ l', l' = A' ++ R := ⟨_, rfl⟩
    rw [← hl'] at N'
    k_steps
    rw [hok] at ret
    subst hl'
    exact ret A' _ _ I' D' (by k_asm) (by k_asm)
  · intro hbad G h' tk e F' R' U'
    obtain ⟨l', hl'⟩ : ∃ l', l' = A ++ R := ⟨_, rfl⟩
    rw [← hl'] at R'
    (rename Below _ _ [env] _ => Bn)
    refine caught_own (KF := hd.heap_1 w.params) (C := 63) R' F' Bn U' XB TB (by k_is) (by with_unfolding_all rfl) ?_
    intro h'' g'' Tn F'' N'' B'' X'' T''
    simp only [List.filterMap_cons, List.filterMap_nil, hf] at Tn
    k_steps
    rw [hbad] at ret
    subst hl'
    refine' ret A _ _ ?a D ?F ?N
    (case N => k_asm)
    (case F => k_asm)
    (case a => rw [show step st (.cls num told) = st from if_neg fun c => by rw [hbad] at c; cases c.2]; exact I)))
end
end
section
theorem words_DoneO : True := by
  k_with "k_enter" => (first | ((refine' code_defT ?qzB ?qzF ?qzX ?qzN ?qzT ?qzhA ?qzhf ?qzhke ?qzho ?qzhcd ?qzhroom ?qzhbind ?qzhloc ?_ ?qzc2 ?qzc3 ?qzc4 ?qzc5; (case qzB => k_asm); (case qzF => k_asm); (case qzX => k_asm); (case qzN => k_asm); (case qzT => k_asm); (case qzhA => exact rfl); (case qzhf => assumption); (case qzhke => assumption); (case qzho => k_is); (case qzhcd => k_is); (case qzhroom => exact Nat.le_of_ble_eq_true rfl); (case qzhbind => exact BindsTo.of_eq rfl); (case qzhloc => exact locs rfl); (case qzc2 => exact rfl); (case qzc3 => exact rfl); (case qzc4 => exact rfl); (case qzc5 => decide); k_whole; intro g' L' h' FG' F' N' B' X' T'; (try dsimp only)); (try revert T'); (try revert X'); (try revert B'); (try revert N'); (try revert F'); (try revert FG'); (try revert h'); (try revert L'); (try revert g'); intros) | fail)
  k_with "call ref" => (first | (k_here; (with_reducible show wpAny _ _ (call (Value.ref 207) _) _ _ _); refine hold ?_) | fail)
  k_with "call ref" => (first | (k_here; (with_reducible show wpAny _ _ (call (Value.ref 214) _) _ _ _); refine hold ?_) | fail)
  k_with "call ref" => (first | (k_here; (with_reducible show wpAny _ _ (call (Value.ref 242) _) _ _ _); refine hold ?_) | fail)
  k_with "call ref" => (first | (k_here; (with_reducible show wpAny _ _ (call (Value.ref 249) _) _ _ _); refine hold ?_) | fail)
  k_with "eval IfExp" => (first | (k_here; (fail_if_success (have : Once := by with_reducible assumption)); refine hold ?_) | fail)
  k_with "compareOp Is none" => (first | (k_here; (with_reducible show wpAny _ _ (compareOp CmpOp.Is _ Value.none) _ _ _); first | refine is_none_of (by with_reducible assumption) ?_ | refine is_str_of (by with_reducible assumption) ?_) | fail)
  trivial
theorem words1 (t : Tok) (v : Value) : valueAt (strPairs [(Value.str (Str.ofString "STATUS") t, v)]) (Str.ofString "STATUS") = some v ∧ valueAt (strPairs [(Value.str (Str.ofString "STATUS") t, v)]) (Str.ofString "FILE") = none ∧ valueAt (strPairs [(Value.str (Str.ofString "STATUS") t, v)]) (Str.ofString "ACCESS") = none ∧
    valueAt (strPairs [(Value.str (Str.ofString "STATUS") t, v)]) (Str.ofString "FORM") = none ∧ valueAt (strPairs [(Value.str (Str.ofString "STATUS") t, v)]) (Str.ofString "RECL") = none ∧ valueAt (strPairs [(Value.str (Str.ofString "STATUS") t, v)]) (Str.ofString "BLANK") = none := by
  have a1 : Str.ofString "STATUS" ≠ Str.ofString "FILE" := by decide +kernel
  have a2 : Str.ofString "STATUS" ≠ Str.ofString "ACCESS" := by decide +kernel
  have a3 : Str.ofString "STATUS" ≠ Str.ofString "FORM" := by decide +kernel
  have a4 : Str.ofString "STATUS" ≠ Str.ofString "RECL" := by decide +kernel
  have a5 : Str.ofString "STATUS" ≠ Str.ofString "BLANK" := by decide +kernel
  simp only [strPairs, valueAt, List.find?_cons, List.find?_nil, a1, a2, a3, a4, a5, decide_false, decide_true, Option.map_none, Option.map_some, and_self]
theorem words2 (t t' : Tok) (v v' : Value) : valueAt (strPairs [(Value.str (Str.ofString "STATUS") t, v), (Value.str (Str.ofString "FILE") t', v')]) (Str.ofString "STATUS") = some v ∧ valueAt (strPairs [(Value.str (Str.ofString "STATUS") t, v), (Value.str (Str.ofString "FILE") t', v')]) (Str.ofString "FILE") = some v' ∧
    valueAt (strPairs [(Value.str (Str.ofString "STATUS") t, v), (Value.str (Str.ofString "FILE") t', v')]) (Str.ofString "ACCESS") = none ∧ valueAt (strPairs [(Value.str (Str.ofString "STATUS") t, v), (Value.str (Str.ofString "FILE") t', v')]) (Str.ofString "FORM") = none ∧
    valueAt (strPairs [(Value.str (Str.ofString "STATUS") t, v), (Value.str (Str.ofString "FILE") t', v')]) (Str.ofString "RECL") = none ∧ valueAt (strPairs [(Value.str (Str.ofString "STATUS") t, v), (Value.str (Str.ofString "FILE") t', v')]) (Str.ofString "BLANK") = none := by
  have a1 : Str.ofString "STATUS" ≠ Str.ofString "FILE" := by decide +kernel
  have a2 : Str.ofString "STATUS" ≠ Str.ofString "ACCESS" := by decide +kernel
  have a3 : Str.ofString "STATUS" ≠ Str.ofString "FORM" := by decide +kernel
  have a4 : Str.ofString "STATUS" ≠ Str.ofString "RECL" := by decide +kernel
  have a5 : Str.ofString "STATUS" ≠ Str.ofString "BLANK" := by decide +kernel
  have b2 : Str.ofString "FILE" ≠ Str.ofString "ACCESS" := by decide +kernel
  have b3 : Str.ofString "FILE" ≠ Str.ofString "FORM" := by decide +kernel
  have b4 : Str.ofString "FILE" ≠ Str.ofString "RECL" := by decide +kernel
  have b5 : Str.ofString "FILE" ≠ Str.ofString "BLANK" := by decide +kernel
  simp only [strPairs, valueAt, List.find?_cons, List.find?_nil, a1, a2, a3, a4, a5, b2, b3, b4, b5, decide_false, decide_true, Option.map_none, Option.map_some, and_self]
theorem news_mid {h₀ h : Heap} {L : Addr} {p : Addr × Obj} {A R : List (Addr × Obj)} (N : News h₀ L h (p :: (A ++ R))) : News h₀ L h (A ++ (p :: R)) := news_sub N fun q hq => by
  rcases List.mem_append.mp hq with hq | hq
  · exact .tail _ (List.mem_append_left _ hq)
  rcases List.mem_cons.mp hq with rfl | hq
  · exact .head _
  · exact .tail _ (List.mem_append_right _ hq)
theorem news_out {h₀ h : Heap} {L : Addr} {p : Addr × Obj} {A R : List (Addr × Obj)} (N : News h₀ L h (A ++ (p :: R))) : News h₀ L h (A ++ R) := news_sub N fun q hq => (List.mem_append.mp hq).elim (fun h => List.mem_append_left _ h) fun h => List.mem_append_right _ (.tail _ h)
theorem dis_cons {A R : List (Addr × Obj)} {a : Addr} {o : Obj} (D : Dis A R) (h : ∀ p ∈ A ++ R, p.1 ≠ a) : Dis A ((a, o) :: R) := fun p hp q hq => by
  rcases List.mem_cons.mp hq with rfl | hq
  · exact h p (List.mem_append_left _ hp)
  · exact D p hp q hq
theorem dis_tail {A R : List (Addr × Obj)} {q : Addr × Obj} (D : Dis A (q :: R)) : Dis A R := fun p hp r hr => D p hp r (.tail _ hr)
/-- a mark: the held place is entered -/
def Once : Prop := True
theorem is_none_of {prog : Program} {w : World} {A : Around} {v : Value} {Q E : Value → Shared → Prop} {s : Shared} (h : v = .none) (r : Q (.bool true) s) : wpAny (model prog w) A (compareOp .Is v .none) Q E s := by
  subst h; exact is_none_none r
theorem is_str_of {prog : Program} {w : World} {A : Around} {v : Value} {x : Str} {t : Tok} {Q E : Value → Shared → Prop} {s : Shared} (h : v = .str x t) (r : Q (.bool false) s) : wpAny (model prog w) A (compareOp .Is v .none) Q E s := by
  subst h; exact is_str_none r
/-- a made dict, whichever way it was made -/
theorem dict_step {prog : Program} {w : World} {A : Around} {Q E : Value → Shared → Prop} {s : Shared} {e : PySem.Expr} {env : Env} {g : Heap} {L : Addr} {m : Str → Option Value} {l : List (Addr × Obj)} {D : Obj → Prop} (_ : Fr g L s.heap m)
    (h1 : wpAny (model prog w) A (eval e env) (fun v s' => Hold (∃ d o h' tk, v = .ref d ∧ s' = { s with heap := h', toks := tk } ∧ Fr g L h' m ∧ News g L h' ((d, o) :: l) ∧ (∀ p ∈ l, p.1 ≠ d) ∧ D o)) E s)
    (h2 : ∀ d o h' tk, Fr g L h' m → News g L h' ((d, o) :: l) → (∀ p ∈ l, p.1 ≠ d) → D o → Q (.ref d) { s with heap := h', toks := tk }) : wpAny (model prog w) A (eval e env) Q E s :=
  wpAny_mono h1 (fun f s' ⟨d, o, h', tk, e1, e2, F', N', n, k⟩ => by subst e1; subst e2; exact h2 d o h' tk F' N' n k) fun _ _ e => e
section
variable {w : World} {gd : Option (List Code)} {env : Env} {A₀ : Around} {base h₀ : Heap} {L : Addr} {m mg mb : Str → Option Value} {mean : ExcName → Option Value} {s : Shared} {Q E : Value → Shared → Prop}
    {A R : List (Addr × Obj)} {fd ud wa wda sa sda da : Addr} {wo o : Obj} {sf : Tok} {hh num : Int} {sn bd : Nat} {st : St} {r : Value}
theorem done_open {told : Str} {nm : Option Str} (B : Below A₀ base [] h₀) (F : Fr h₀ L s.heap m) (X : (hd.heap_1 w.params).In h₀) (N : News h₀ L s.heap (A ++ R)) (T : Top view (looseW view []) mean mg mb h₀) (XB : (hd.heap_1 w.params).In base) (TB : Top view (looseW view []) mean mg mb base)
    (hf : env.frame = some L) (hk : env.scope.kind = .function) (I : PInv w ud fd A st) (S : SOk st bd) (hbd : bd < 60) (D : Dis A R)
    (hwa : (wa, instObj 299 wda) ∈ R) (hwda : (wda, wo) ∈ R) (hwo : WorldD wo sa ud) (hsa : (sa, instObj 126 sda) ∈ R) (hsda : (sda, dictOf [⟨hh, .str (Str.ofString "files") sf, .ref fd⟩] sn) ∈ R) (hda : (da, o) ∈ R) (hft : Fits st (.opn num told nm)) (hd : DeedV o (.opn num told nm))
    (ret : ∀ A' h' tk, PInv w ud fd A' (step st (.opn num told nm)) → Dis A' R → Fr h₀ L h' m → News h₀ L h' (A' ++ R) → Q (.bool (okOf st (.opn num told nm))) { s with heap := h', toks := tk }) :
    wpAny (model P0 w) (At 400 1000 gd env []) (call (.ref 324) [.ref wa, .ref da]) Q E s := (by exact kept : Kept _ (by
  obtain ⟨k1, k3, hst, w0, n0, tt, v, hv, rfl⟩ := hd
  obtain ⟨g0, g1, g2, g3, g4, g5, p0, p1, p2, p3, p4, p5, p6, wi, wj, wk, wn, rfl⟩ := hwo
  obtain ⟨l, hl⟩ : ∃ l, l = A ++ R := ⟨_, rfl⟩
  rw [← hl] at N
  have r2 : ∀ p ∈ R, p ∈ l := fun p hp => hl ▸ List.mem_append_right _ hp
  have m1 : (wa, instObj 299 wda) ∈ l := r2 _ hwa
  have m2 := r2 _ hwda
  have m3 := r2 _ hda
  refine wpAny_call ?_
  k_dflt k_enter
  k_steps
  refine held (dict_step (D := fun wo' => ∃ kvs, wo'.IsDictOf (PySem.strKind P0 w) kvs ∧ valueAt kvs (Str.ofString "STATUS") = some (.str told tt) ∧ ((nm = none ∧ valueAt kvs (Str.ofString "FILE") = none) ∨ ∃ x nt, nm = some x ∧ valueAt kvs (Str.ofString "FILE") = some (.str x nt)) ∧
    valueAt kvs (Str.ofString "ACCESS") = none ∧ valueAt kvs (Str.ofString "FORM") = none ∧ valueAt kvs (Str.ofString "RECL") = none ∧ valueAt kvs (Str.ofString "BLANK") = none) (l := l) (by k_asm) ?_ ?_)
  · have once : Once := trivial
    rcases hv with ⟨hv, hn⟩ | ⟨x, xt, hv, hn, h5⟩
    · k_steps
      refine held ⟨_, _, _, _, rfl, rfl, by k_asm, by k_asm, by assumption, _, by assumption, (words1 _ _).1, .inl ⟨hn, (words1 _ _).2.1⟩, (words1 _ _).2.2⟩
    · subst hv
      k_steps
      refine held ⟨_, _, _, _, rfl, rfl, by k_asm, by k_asm, by assumption, _, by assumption, (words2 _ _ _ _).1, .inr ⟨x, xt, hn, (words2 _ _ _ _).2.1⟩, (words2 _ _ _ _).2.2⟩
  intro d wo' h' tk Fd Nd hdn ⟨kvs, hkv, q0, q1, q2, q3, q4, q5⟩
  k_steps
  subst hl
  refine held (wp_up (open_any (gd := _) (by k_asm) (by k_asm) (by k_asm) (news_mid (by k_asm)) (by k_asm) rfl rfl I S hbd (dis_cons D (by assumption)) (.tail _ hsa) (.tail _ hsda) (.head _) hkv q0 q1 q2 q3 q4 q5 hft ?_ ?_) rfl (Nat.le_of_ble_eq_true rfl) rfl rfl (Nat.le_of_ble_eq_true rfl))
  · intro hok v A' h' tk I' D' F' N'
    have N'' := news_out N'
    clear N'
    obtain ⟨l', hl'⟩ : ∃ l', l' = A' ++ R := ⟨_, rfl⟩
    rw [← hl'] at N''
    k_steps
    rw [show okOf st (.opn num told _) = true from hok] at ret
    subst hl'
    refine' ret A' _ _ I' (dis_tail D') ?F ?N
    (case N => k_asm)
    (case F => k_asm)
  · intro hbad G h' tk e F' R' U'
    have R'' := raised_sub R' (news' := A ++ R) (fun p hp => (List.mem_append.mp hp).elim (fun h => List.mem_append_left _ h) fun h => List.mem_append_right _ (.tail _ h))
    clear R'
    obtain ⟨l', hl'⟩ : ∃ l', l' = A ++ R := ⟨_, rfl⟩
    rw [← hl'] at R''
    (rename Below _ _ [env] _ => Bn)
    refine caught_own (KF := hd.heap_1 w.params) (C := 63) R'' F' Bn U' XB TB (by k_is) (by with_unfolding_all rfl) ?_
    intro h'' g'' Tn F'' N'' B'' X'' T''
    simp only [List.filterMap_cons, List.filterMap_nil, hf] at Tn
    k_steps
    rw [show okOf st (.opn num told _) = false from hbad] at ret
    subst hl'
    refine' ret A _ _ ?a D ?F ?N
    (case N => k_asm)
    (case F => k_asm)
    (case a => rw [show step st (.opn num told _) = st from if_neg fun c => by rw [hbad] at c; cases c.1]; exact I)))
end
end
section
section
variable {w : World} {gd : Option (List Code)} {env : Env} {A₀ : Around} {base h₀ : Heap} {L : Addr} {m mg mb : Str → Option Value} {mean : ExcName → Option Value} {s : Shared} {Q E : Value → Shared → Prop}
    {A R : List (Addr × Obj)} {fd ud wa wda sa sda da : Addr} {wo o : Obj} {sf : Tok} {hh : Int} {sn bd : Nat} {st : St} {d : Deed}
theorem done_any (B : Below A₀ base [] h₀) (F : Fr h₀ L s.heap m) (X : (hd.heap_1 w.params).In h₀) (N : News h₀ L s.heap (A ++ R)) (T : Top view (looseW view []) mean mg mb h₀) (XB : (hd.heap_1 w.params).In base) (TB : Top view (looseW view []) mean mg mb base)
    (hf : env.frame = some L) (hk : env.scope.kind = .function) (I : PInv w ud fd A st) (S : SOk st bd) (hbd : bd < 60) (D : Dis A R)
    (hwa : (wa, instObj 299 wda) ∈ R) (hwda : (wda, wo) ∈ R) (hwo : WorldD wo sa ud) (hsa : (sa, instObj 126 sda) ∈ R) (hsda : (sda, dictOf [⟨hh, .str (Str.ofString "files") sf, .ref fd⟩] sn) ∈ R) (hda : (da, o) ∈ R) (hd : DeedV o d) (hft : Fits st d)
    (ret : ∀ A' h' tk, PInv w ud fd A' (step st d) → Dis A' R → Fr h₀ L h' m → News h₀ L h' (A' ++ R) → Q (.bool (okOf st d)) { s with heap := h', toks := tk }) :
    wpAny (model P0 w) (At 400 1000 gd env []) (call (.ref 324) [.ref wa, .ref da]) Q E s := by
  cases d with
  | opn k told nm => exact done_open B F X N T XB TB hf hk I S hbd D hwa hwda hwo hsa hsda hda hft hd ret
  | cls k told => exact done_close B F X N T XB TB hf hk I S hbd D hwa hwda hwo hsa hsda hda hd ret
  | wrt k r => exact done_write B F X N T hf hk I S hbd D hwa hwda hwo hda hd hft ret
  | rew k => exact done_rewind B F X N T hf hk I D hwa hwda hwo hda hd hft ret
end
end
theorem words_again_Slice : True := by
  k_with_none
  k_with "spliced" => (first | (k_here; k_dflt (first | refine args_cons ?_ | refine args_nil ⟨Fr.keep (by assumption) _ _ (by assumption), ?_⟩ | (refine args_nil ?_; try simp only [List.cons_append, List.nil_append]))) | fail)
  k_with "setItem ref int" => (first | (k_extra "setItem ref") | fail)
  k_with "subscriptTail Name" => (first | (k_extra "subscriptTail") | fail)
  k_with "subscriptTail Subscript" => (first | (first | k_extra "subscriptTail" | (k_here; kda_here; first | ((with_reducible show wpAny _ _ (subscriptTail _ _ (Value.ref _) (Value.str _ _)) _ _ _); k_dflt (refine kdt_tail (knd := PySem.strKind _ _) (by k_asm) (by k_mem) (by k_asm) ?_)) | ((with_reducible show wpAny _ _ (subscriptTail _ _ (Value.ref _) (Value.int _ _)) _ _ _); k_dflt (refine kdt_tail (knd := PySem.intKind _ _) (by k_asm) (by k_mem) (by k_asm) ?_)))) | fail)
  k_with "cj" => (first | (first | assumption | exact And.left (by assumption) | exact And.right (by assumption) | exact And.left (And.right (by assumption)) | exact And.right (And.right (by assumption)) | exact And.left (And.right (And.right (by assumption))) | exact And.right (And.right (And.right (by assumption))) | exact And.left (And.right (And.right (And.right (by assumption)))) | exact And.right (And.right (And.right (And.right (by assumption)))) | exact And.left (And.right (And.right (And.right (And.right (by assumption))))) | exact And.right (And.right (And.right (And.right (And.right (by assumption))))) | exact And.left (And.right (And.right (And.right (And.right (And.right (by assumption)))))) | exact And.right (And.right (And.right (And.right (And.right (And.right (by assumption)))))) | exact And.left (And.right (And.right (And.right (And.right (And.right (And.right (by assumption))))))) | exact And.right (And.right (And.right (And.right (And.right (And.right (And.right (by assumption))))))) | exact And.left (And.right (And.right (And.right (And.right (And.right (And.right (And.right (by assumption)))))))) | exact And.right (And.right (And.right (And.right (And.right (And.right (And.right (And.right (by assumption)))))))) | exact And.left (And.right (And.right (And.right (And.right (And.right (And.right (And.right (And.right (by assumption))))))))) | exact And.right (And.right (And.right (And.right (And.right (And.right (And.right (And.right (And.right (by assumption))))))))) | exact And.left (And.right (And.right (And.right (And.right (And.right (And.right (And.right (And.right (And.right (by assumption)))))))))) | exact And.right (And.right (And.right (And.right (And.right (And.right (And.right (And.right (And.right (And.right (by assumption)))))))))) | exact And.left (And.right (And.right (And.right (And.right (And.right (And.right (And.right (And.right (And.right (And.right (by assumption))))))))))) | exact And.right (And.right (And.right (And.right (And.right (And.right (And.right (And.right (And.right (And.right (And.right (by assumption))))))))))) | exact And.left (And.right (And.right (And.right (And.right (And.right (And.right (And.right (And.right (And.right (And.right (And.right (by assumption)))))))))))) | exact And.right (And.right (And.right (And.right (And.right (And.right (And.right (And.right (And.right (And.right (And.right (And.right (by assumption)))))))))))) | exact And.left (And.right (And.right (And.right (And.right (And.right (And.right (And.right (And.right (And.right (And.right (And.right (And.right (by assumption))))))))))))) | exact And.right (And.right (And.right (And.right (And.right (And.right (And.right (And.right (And.right (And.right (And.right (And.right (And.right (by assumption))))))))))))) | exact And.left (And.right (And.right (And.right (And.right (And.right (And.right (And.right (And.right (And.right (And.right (And.right (And.right (And.right (by assumption)))))))))))))) | exact And.right (And.right (And.right (And.right (And.right (And.right (And.right (And.right (And.right (And.right (And.right (And.right (And.right (And.right (by assumption)))))))))))))) | exact And.left (And.right (And.right (And.right (And.right (And.right (And.right (And.right (And.right (And.right (And.right (And.right (And.right (And.right (And.right (by assumption))))))))))))))) | exact And.right (And.right (And.right (And.right (And.right (And.right (And.right (And.right (And.right (And.right (And.right (And.right (And.right (And.right (And.right (by assumption)))))))))))))))) | fail)
  k_with "om" => (first | (first | ((repeat ((with_reducible rename _ ∧ _ => hz9); clear hz9)); (repeat ((with_reducible rename @Ne _ _ _ => hz9); clear hz9)); omega) | ((repeat ((with_reducible rename @Ne _ _ _ ∧ _ => hz9); clear hz9)); (repeat ((with_reducible rename (_ ∧ _) ∧ _ => hz9); clear hz9)); (repeat ((with_reducible rename @Ne _ _ _ => hz9); clear hz9)); omega) | omega) | fail)
  k_with "k_ne" => (first | (refine neN ?_; (try dsimp only); (first | with_reducible assumption | ((repeat ((with_reducible rename @Ne _ _ _ ∧ _ => hz9); clear hz9)); (repeat ((with_reducible rename (_ ∧ _) ∧ _ => hz9); clear hz9)); (repeat ((with_reducible rename @Ne _ _ _ => hz9); clear hz9)); omega) | with_reducible (first | exact Ne.symm (by assumption) | exact Nat.ne_of_lt (by k_extra "cj") | exact Nat.ne_of_gt (by k_extra "cj") | (k_extra "cj") | exact Ne.symm (by k_extra "cj")) | omega)) | fail)
  k_with "k_enter" => (first | (refine' q_def ?qzk1 ?qzk2 ?qzk3 ?qzk4 ?qzk5 ?qzkA ?qzkF ?qzkK ?qzk6 ?qzk7 ?qzk8 ?qzk9 ?qzkB ?_ ?qzc2 ?qzc3 ?qzc4 ?qzc5; (case qzkA => exact rfl); (case qzkF => first | assumption | exact rfl); (case qzkK => first | assumption | exact rfl); (case qzk1 => k_asm); (case qzk2 => k_asm); (case qzk3 => k_asm); (case qzk4 => k_asm); (case qzk5 => k_asm); (case qzk6 => k_is); (case qzk7 => k_is); (case qzk8 => exact Nat.le_of_ble_eq_true rfl); (case qzk9 => first | ((with_reducible show BindsTo _ _ (Args.mk [_, _] []) _); exact bt2 rfl) | ((with_reducible show BindsTo _ _ (Args.mk [_] []) _); exact bt1 rfl) | ((with_reducible show BindsTo _ _ (Args.mk [_, _, _] []) _); exact bt3 rfl) | ((with_reducible show BindsTo _ _ (Args.mk [_, _, _, _] []) _); exact bt4 rfl) | ((with_reducible show BindsTo _ _ (Args.mk [_, _, _, _, _] []) _); exact bt5 rfl) | ((with_reducible show BindsTo _ _ (Args.mk [_, _, _, _, _, _] []) _); exact bt6 rfl) | ((with_reducible show BindsTo _ _ (Args.mk [] []) _); exact bt0 rfl) | exact BindsTo.of_eq rfl); (case qzc5 => decide); (case qzkB => exact locs rfl); (case qzc2 => exact rfl); (case qzc3 => exact rfl); (case qzc4 => exact rfl); k_whole; intro _ _ _ _ _ _ _ _ _ _ _ _ _ _ _; (try dsimp only); (try k_fold)) | fail)
  k_with "k_all" => (first | ((fail_if_success (with_reducible refine List.forall_mem_cons.mpr ?_)); (first | with_reducible (first | exact ne_allLt (by assumption) | exact ne_allLt (And.right (by assumption)) | exact ne_allLt (And.right (And.right (by assumption))) | exact ne_allLt (And.right (And.right (And.right (by assumption)))) | exact ne_allLt (And.right (And.right (And.right (And.right (by assumption))))) | exact ne_allLt (And.right (And.right (And.right (And.right (And.right (by assumption)))))) | exact ne_allLt (And.right (And.right (And.right (And.right (And.right (And.right (by assumption))))))) | exact ne_allLt (And.right (And.right (And.right (And.right (And.right (And.right (And.right (by assumption)))))))) | exact ne_allLt (And.right (And.right (And.right (And.right (And.right (And.right (And.right (And.right (by assumption))))))))) | exact ne_allLt (And.right (And.right (And.right (And.right (And.right (And.right (And.right (And.right (And.right (by assumption)))))))))) | exact ne_allLt (And.right (And.right (And.right (And.right (And.right (And.right (And.right (And.right (And.right (And.right (by assumption))))))))))) | exact ne_allLt (And.right (And.right (And.right (And.right (And.right (And.right (And.right (And.right (And.right (And.right (And.right (by assumption)))))))))))) | exact ne_allLt (And.right (And.right (And.right (And.right (And.right (And.right (And.right (And.right (And.right (And.right (And.right (And.right (by assumption))))))))))))) | exact ne_allLt (And.right (And.right (And.right (And.right (And.right (And.right (And.right (And.right (And.right (And.right (And.right (And.right (And.right (by assumption)))))))))))))) | exact ne_allLt (And.right (And.right (And.right (And.right (And.right (And.right (And.right (And.right (And.right (And.right (And.right (And.right (And.right (And.right (by assumption)))))))))))))))) | (first | exact ne_allLt (by assumption) | exact ne_allLt (And.right (by assumption)) | exact ne_allLt (And.right (And.right (by assumption))) | exact ne_allLt (And.right (And.right (And.right (by assumption)))) | exact ne_allLt (And.right (And.right (And.right (And.right (by assumption))))) | exact ne_allLt (And.right (And.right (And.right (And.right (And.right (by assumption)))))) | exact ne_allLt (And.right (And.right (And.right (And.right (And.right (And.right (by assumption))))))) | exact ne_allLt (And.right (And.right (And.right (And.right (And.right (And.right (And.right (by assumption)))))))) | exact ne_allLt (And.right (And.right (And.right (And.right (And.right (And.right (And.right (And.right (by assumption))))))))) | exact ne_allLt (And.right (And.right (And.right (And.right (And.right (And.right (And.right (And.right (And.right (by assumption)))))))))) | exact ne_allLt (And.right (And.right (And.right (And.right (And.right (And.right (And.right (And.right (And.right (And.right (by assumption))))))))))) | exact ne_allLt (And.right (And.right (And.right (And.right (And.right (And.right (And.right (And.right (And.right (And.right (And.right (by assumption)))))))))))) | exact ne_allLt (And.right (And.right (And.right (And.right (And.right (And.right (And.right (And.right (And.right (And.right (And.right (And.right (by assumption))))))))))))) | exact ne_allLt (And.right (And.right (And.right (And.right (And.right (And.right (And.right (And.right (And.right (And.right (And.right (And.right (And.right (by assumption)))))))))))))) | exact ne_allLt (And.right (And.right (And.right (And.right (And.right (And.right (And.right (And.right (And.right (And.right (And.right (And.right (And.right (And.right (by assumption)))))))))))))))))) | fail)
  k_with "k_all" => (first | ((fail_if_success (with_reducible refine List.forall_mem_cons.mpr ?_)); (first | with_reducible assumption | assumption)) | fail)
  k_with "k_all" => (first | (refine' ne_cons_of ?qzyh ?qzyg; (case qzyh => with_reducible assumption); (case qzyg => exact id)) | fail)
  k_with "k_mem" => (first | (first | exact List.Mem.head _ | (refine List.mem_cons_of_mem _ ?_; (first | exact List.Mem.head _ | (refine List.mem_cons_of_mem _ ?_; (first | exact List.Mem.head _ | (refine List.mem_cons_of_mem _ ?_; (first | exact List.Mem.head _ | (refine List.mem_cons_of_mem _ ?_; (first | exact List.Mem.head _ | (refine List.mem_cons_of_mem _ ?_; (first | exact List.Mem.head _ | (refine List.mem_cons_of_mem _ ?_; (first | exact List.Mem.head _ | (refine List.mem_cons_of_mem _ ?_; (first | exact List.Mem.head _ | (refine List.mem_cons_of_mem _ ?_; (first | exact List.Mem.head _ | (refine List.mem_cons_of_mem _ ?_; (first | exact List.Mem.head _ | (refine List.mem_cons_of_mem _ ?_; (first | exact List.Mem.head _ | (refine List.mem_cons_of_mem _ ?_; (first | exact List.Mem.head _ | (refine List.mem_cons_of_mem _ ?_; (first | exact List.Mem.head _ | (refine List.mem_cons_of_mem _ ?_; (first | exact List.Mem.head _ | (refine List.mem_cons_of_mem _ ?_; (first | exact List.Mem.head _ | (refine List.mem_cons_of_mem _ ?_; (first | exact List.Mem.head _ | (refine List.mem_cons_of_mem _ ?_; (first | exact List.Mem.head _ | (refine List.mem_cons_of_mem _ ?_; (first | exact List.Mem.head _ | (refine List.mem_cons_of_mem _ ?_; (first | exact List.Mem.head _ | (refine List.mem_cons_of_mem _ ?_; (first | exact List.Mem.head _ | (refine List.mem_cons_of_mem _ ?_; (first | exact List.Mem.head _ | assumption)) | assumption)) | assumption)) | assumption)) | assumption)) | assumption)) | assumption)) | assumption)) | assumption)) | assumption)) | assumption)) | assumption)) | assumption)) | assumption)) | assumption)) | assumption)) | assumption)) | assumption)) | assumption)) | assumption)) | assumption) | fail)
  k_with "eval Name" => (first | (k_here; (with_reducible refine' q_name ?qza ?qzb ?qzc ?qzF ?qzv ?_); k_dflt ((case qzF => k_asm); (case qzc => exact fun _ _ => rfl); (case qzv => rfl); (case qza => rfl); (case qzb => decide); k_whole)) | fail)
  k_with "storeName" => (first | (k_here; (with_reducible refine' q_store ?qza ?qzb ?qzF ?qzN ?_); k_dflt ((case qzF => k_asm); (case qzN => k_asm); (case qzb => exact fun _ _ => rfl); (case qza => rfl); k_whole; intro _ _ _ _; (try k_sweep))) | fail)
  k_with "eval Constant str" => (first | (k_here; with_reducible refine q_str ?_) | fail)
  k_with "eval Constant int" => (first | (k_here; with_reducible refine q_int ?_) | fail)
  k_with "spliced" => (first | (k_here; (with_reducible refine args_nil ?_); (try dsimp only [List.cons_append, List.nil_append])) | fail)
  k_with "spliced" => (first | (k_here; with_reducible refine q_args ?_) | fail)
  k_with "spliced" => (first | (k_here; (with_reducible refine' q_arg ?qza ?qzb ?qzc ?qzF ?qzv ?_); k_dflt ((case qzF => k_asm); (case qzc => exact fun _ _ => rfl); (case qzv => rfl); (case qza => rfl); (case qzb => decide); k_whole)) | fail)
  k_with "spliced" => (first | (k_here; (with_reducible refine' q_arg1 ?qza ?qzb ?qzc ?qzF ?qzv ?_); k_dflt ((case qzF => k_asm); (case qzc => exact fun _ _ => rfl); (case qzv => rfl); (case qza => rfl); (case qzb => decide); k_whole); (try dsimp only [List.cons_append, List.nil_append])) | fail)
  k_with "execs cons" => (first | (k_here; (try k_gentoks); (first | ((with_reducible refine q_assign ?qzhs ?_); (fail_if_success with_reducible show wpAny _ _ (eval (PySem.Expr.ListComp _ _ _ _) _) _ _ _); (case qzhs => with_unfolding_all rfl)) | with_reducible refine q_return ?_ | with_reducible refine q_if ?_); (try dsimp only); (try k_fold)) | fail)
  k_with "getAttr ref" => (first | (k_here; (with_reducible refine' q_own ?qzk1 ?qzk2 ?qzk3 ?qzk4 ?qzk5 ?qzk6 ?qzk7 ?qzk8 ?qzk9 ?_); k_dflt ((case qzk1 => k_asm); (case qzk2 => k_asm); (case qzk3 => k_inst); (case qzk4 => k_is); (case qzk5 => k_is); (case qzk6 => k_is); (case qzk7 => k_is); (case qzk8 => k_get); (case qzk9 => k_handed); k_whole)) | fail)
  k_with "TurnEnd cons ret" => (first | (k_here; dsimp only [TurnEnd]) | fail)
  k_with "spliced" => (first | (k_here; (with_reducible refine' q_sargs ?qzhk ?qzF ?qzz ?qzS ?_); k_dflt ((case qzhk => rfl); (case qzF => k_asm); (case qzz => exact fun _ _ => rfl); (case qzS => exact rfl); k_whole); (try dsimp only [List.cons_append, List.nil_append])) | fail)
  k_with "eval Call" => (first | (k_here; (with_reducible refine' q_gcall ?qzhk ?qzF ?qzX ?qzT ?qzhx ?qzhd ?qzhv ?qzhf ?qzz ?qzS ?_); k_dflt ((case qzhk => rfl); (case qzF => k_asm); (case qzz => exact fun _ _ => rfl); (case qzS => exact rfl); (case qzX => k_asm); (case qzT => assumption); (case qzhx => exact fun _ _ => rfl); (case qzhd => decide); (case qzhv => k_is); (case qzhf => k_is); k_whole)) | fail)
  k_with "isTrue Compare" => (first | (k_here; (with_reducible refine' q_cmps ?qzhm ?qzhk ?qzF ?qzz ?qzS ?_); k_dflt ((case qzhk => rfl); (case qzF => k_asm); (case qzz => exact fun _ _ => rfl); (case qzS => exact rfl); (case qzhm => with_unfolding_all rfl); k_whole)) | fail)
  k_with "eval Subscript" => (first | (k_here; (with_reducible refine' q_sub ?qzhk ?qzF ?qzz ?qzS ?_); k_dflt ((case qzhk => rfl); (case qzF => k_asm); (case qzz => exact fun _ _ => rfl); (case qzS => exact rfl); k_whole)) | fail)
  k_with "execs cons" => (first | (k_here; (try k_gentoks); (with_reducible refine' q_rets ?qzhk ?qzF ?qzz ?qzS ?_); k_dflt ((case qzhk => rfl); (case qzF => k_asm); (case qzz => exact fun _ _ => rfl); (case qzS => exact rfl); k_whole); (try dsimp only); (try k_fold)) | fail)
  k_with "eval Attribute Name" => (first | (k_here; (with_reducible refine' q_attr ?qzhk ?qzF ?qzz ?qzS ?_); k_dflt ((case qzhk => rfl); (case qzF => k_asm); (case qzz => exact fun _ _ => rfl); (case qzS => exact rfl); k_whole)) | fail)
  k_with "getMethod ref" => (first | (k_here; (with_reducible show wpAny _ _ (getMethod (Value.ref _) (Str.ofString "get") _) _ _ _); k_dflt (first | (refine' kdg_method (knd := PySem.strKind _ _) ?qzN ?qzm ?qzd ?_; (case qzN => k_asm); (case qzm => k_mem); (case qzd => k_asm); k_whole) | (refine' kdg_method (knd := PySem.intKind _ _) ?qzN ?qzm ?qzd ?_; (case qzN => k_asm); (case qzm => k_mem); (case qzd => k_asm); k_whole))) | fail)
  k_with "getMethod ref" => (first | (k_here; (with_reducible show wpAny _ _ (getMethod (Value.ref _) (Str.ofString "pop") _) _ _ _); k_dflt (first | (refine' kob_method (knd := PySem.strKind _ _) PySem.F.slot_dict_pop PySem.F.type_dict_pop ?qzN ?qzm ?qzd ?_; (case qzN => k_asm); (case qzm => k_mem); (case qzd => k_asm); k_whole) | (refine' kob_method (knd := PySem.intKind _ _) PySem.F.slot_dict_pop PySem.F.type_dict_pop ?qzN ?qzm ?qzd ?_; (case qzN => k_asm); (case qzm => k_mem); (case qzd => k_asm); k_whole))) | fail)
  k_with "getMethod ref" => (first | (k_here; (with_reducible show wpAny _ _ (getMethod (Value.ref _) (Str.ofString "setdefault") _) _ _ _); k_dflt (first | (refine' kob_method (knd := PySem.strKind _ _) PySem.F.slot_dict_setdefault PySem.F.type_dict_setdefault ?qzN ?qzm ?qzd ?_; (case qzN => k_asm); (case qzm => k_mem); (case qzd => k_asm); k_whole) | (refine' kob_method (knd := PySem.intKind _ _) PySem.F.slot_dict_setdefault PySem.F.type_dict_setdefault ?qzN ?qzm ?qzd ?_; (case qzN => k_asm); (case qzm => k_mem); (case qzd => k_asm); k_whole))) | fail)
  k_with "call builtin:dict.get" => (first | (k_here; (with_reducible show wpAny _ _ (call _ [_, _, _]) _ _ _); k_dflt (first | (refine' q_get2 (knd := PySem.strKind _ _) ?qzN ?qzm ?qzd ?qzlo ?qzk _ ?qzl ?_; (case qzN => k_asm); (case qzm => k_mem); (case qzd => k_asm); (case qzlo => exact lo_of (by k_asm) (by k_asm) (by k_mem)); (case qzk => exact strKind_is _ _ _ _); (case qzl => first | assumption | exact rfl); k_whole) | (refine' q_get2 (knd := PySem.intKind _ _) ?qzN ?qzm ?qzd ?qzlo ?qzk _ ?qzl ?_; (case qzN => k_asm); (case qzm => k_mem); (case qzd => k_asm); (case qzlo => exact lo_of (by k_asm) (by k_asm) (by k_mem)); (case qzk => exact intKind_is _ _ _ _); (case qzl => first | assumption | exact rfl); k_whole)); (try dsimp only [Option.getD])) | fail)
  k_with "call builtin:dict.get" => (first | (k_here; (with_reducible show wpAny _ _ (call _ [_, _]) _ _ _); k_dflt (first | (refine' q_get1 (knd := PySem.strKind _ _) ?qzN ?qzm ?qzd ?qzlo ?qzk _ ?qzl ?_; (case qzN => k_asm); (case qzm => k_mem); (case qzd => k_asm); (case qzlo => exact lo_of (by k_asm) (by k_asm) (by k_mem)); (case qzk => exact strKind_is _ _ _ _); (case qzl => first | assumption | exact rfl); k_whole) | (refine' q_get1 (knd := PySem.intKind _ _) ?qzN ?qzm ?qzd ?qzlo ?qzk _ ?qzl ?_; (case qzN => k_asm); (case qzm => k_mem); (case qzd => k_asm); (case qzlo => exact lo_of (by k_asm) (by k_asm) (by k_mem)); (case qzk => exact intKind_is _ _ _ _); (case qzl => first | assumption | exact rfl); k_whole)); (try dsimp only [Option.getD])) | fail)
  k_with "subscriptTail" => (first | (k_here; (with_reducible first | show wpAny _ _ (subscriptTail _ _ (Value.ref _) (Value.str _ _)) _ _ _ | show wpAny _ _ (subscriptTail _ _ (Value.ref _) (Value.int _ _)) _ _ _); k_dflt (first | (refine' q_item (knd := PySem.strKind _ _) ?qzN ?qzm ?qzd ?qzk ?qzl ?_ ?qza ?qzb; (case qzN => k_asm); (case qzm => k_mem); (case qzd => k_asm); (case qzk => exact strKind_is _ _ _ _); (case qzl => first | assumption | exact valueAt_stored _ _ _ | exact rfl); (case qza => with_unfolding_all rfl); (case qzb => intro _; with_unfolding_all rfl); k_whole) | (refine' q_item (knd := PySem.intKind _ _) ?qzN ?qzm ?qzd ?qzk ?qzl ?_ ?qza ?qzb; (case qzN => k_asm); (case qzm => k_mem); (case qzd => k_asm); (case qzk => exact intKind_is _ _ _ _); (case qzl => first | assumption | exact valueAt_stored _ _ _ | exact rfl); (case qza => with_unfolding_all rfl); (case qzb => intro _; with_unfolding_all rfl); k_whole))) | fail)
  k_with "compareOp In str ref" => (first | (k_here; (with_reducible first | show wpAny _ _ (compareOp _ (Value.str _ _) (Value.ref _)) _ _ _ | show wpAny _ _ (compareOp _ (Value.int _ _) (Value.ref _)) _ _ _); k_dflt (first | (refine' q_in (knd := PySem.strKind _ _) ?qzN ?qzm ?qzd ?qzlo ?qzk _ ?qzl ?_; (case qzN => k_asm); (case qzm => k_mem); (case qzd => k_asm); (case qzlo => exact lo_of (by k_asm) (by k_asm) (by k_mem)); (case qzk => exact strKind_is _ _ _ _); (case qzl => first | (refine' some_is ?qzhs; (case qzhs => assumption)) | (refine' none_is ?qzhs; (case qzhs => assumption)) | exact rfl); k_whole) | (refine' q_in (knd := PySem.intKind _ _) ?qzN ?qzm ?qzd ?qzlo ?qzk _ ?qzl ?_; (case qzN => k_asm); (case qzm => k_mem); (case qzd => k_asm); (case qzlo => exact lo_of (by k_asm) (by k_asm) (by k_mem)); (case qzk => exact intKind_is _ _ _ _); (case qzl => first | (refine' some_is ?qzhs; (case qzhs => assumption)) | (refine' none_is ?qzhs; (case qzhs => assumption)) | exact rfl); k_whole))) | fail)
  k_with "compareOp In int ref" => (first | (k_here; (with_reducible first | show wpAny _ _ (compareOp _ (Value.str _ _) (Value.ref _)) _ _ _ | show wpAny _ _ (compareOp _ (Value.int _ _) (Value.ref _)) _ _ _); k_dflt (first | (refine' q_in (knd := PySem.strKind _ _) ?qzN ?qzm ?qzd ?qzlo ?qzk _ ?qzl ?_; (case qzN => k_asm); (case qzm => k_mem); (case qzd => k_asm); (case qzlo => exact lo_of (by k_asm) (by k_asm) (by k_mem)); (case qzk => exact strKind_is _ _ _ _); (case qzl => first | (refine' some_is ?qzhs; (case qzhs => assumption)) | (refine' none_is ?qzhs; (case qzhs => assumption)) | exact rfl); k_whole) | (refine' q_in (knd := PySem.intKind _ _) ?qzN ?qzm ?qzd ?qzlo ?qzk _ ?qzl ?_; (case qzN => k_asm); (case qzm => k_mem); (case qzd => k_asm); (case qzlo => exact lo_of (by k_asm) (by k_asm) (by k_mem)); (case qzk => exact intKind_is _ _ _ _); (case qzl => first | (refine' some_is ?qzhs; (case qzhs => assumption)) | (refine' none_is ?qzhs; (case qzhs => assumption)) | exact rfl); k_whole))) | fail)
  k_with "compareOp NotIn str ref" => (first | (k_here; (with_reducible first | show wpAny _ _ (compareOp _ (Value.str _ _) (Value.ref _)) _ _ _ | show wpAny _ _ (compareOp _ (Value.int _ _) (Value.ref _)) _ _ _); k_dflt (first | (refine' q_notin (knd := PySem.strKind _ _) ?qzN ?qzm ?qzd ?qzlo ?qzk _ ?qzl ?_; (case qzN => k_asm); (case qzm => k_mem); (case qzd => k_asm); (case qzlo => exact lo_of (by k_asm) (by k_asm) (by k_mem)); (case qzk => exact strKind_is _ _ _ _); (case qzl => first | (refine' some_is ?qzhs; (case qzhs => assumption)) | (refine' none_is ?qzhs; (case qzhs => assumption)) | exact rfl); k_whole) | (refine' q_notin (knd := PySem.intKind _ _) ?qzN ?qzm ?qzd ?qzlo ?qzk _ ?qzl ?_; (case qzN => k_asm); (case qzm => k_mem); (case qzd => k_asm); (case qzlo => exact lo_of (by k_asm) (by k_asm) (by k_mem)); (case qzk => exact intKind_is _ _ _ _); (case qzl => first | (refine' some_is ?qzhs; (case qzhs => assumption)) | (refine' none_is ?qzhs; (case qzhs => assumption)) | exact rfl); k_whole))) | fail)
  k_with "compareOp NotIn int ref" => (first | (k_here; (with_reducible first | show wpAny _ _ (compareOp _ (Value.str _ _) (Value.ref _)) _ _ _ | show wpAny _ _ (compareOp _ (Value.int _ _) (Value.ref _)) _ _ _); k_dflt (first | (refine' q_notin (knd := PySem.strKind _ _) ?qzN ?qzm ?qzd ?qzlo ?qzk _ ?qzl ?_; (case qzN => k_asm); (case qzm => k_mem); (case qzd => k_asm); (case qzlo => exact lo_of (by k_asm) (by k_asm) (by k_mem)); (case qzk => exact strKind_is _ _ _ _); (case qzl => first | (refine' some_is ?qzhs; (case qzhs => assumption)) | (refine' none_is ?qzhs; (case qzhs => assumption)) | exact rfl); k_whole) | (refine' q_notin (knd := PySem.intKind _ _) ?qzN ?qzm ?qzd ?qzlo ?qzk _ ?qzl ?_; (case qzN => k_asm); (case qzm => k_mem); (case qzd => k_asm); (case qzlo => exact lo_of (by k_asm) (by k_asm) (by k_mem)); (case qzk => exact intKind_is _ _ _ _); (case qzl => first | (refine' some_is ?qzhs; (case qzhs => assumption)) | (refine' none_is ?qzhs; (case qzhs => assumption)) | exact rfl); k_whole))) | fail)
  k_with "getItem ref" => (first | (k_here; (with_reducible first | show wpAny _ _ (getItem (Value.ref _) (Value.str _ _)) _ _ _ | show wpAny _ _ (getItem (Value.ref _) (Value.int _ _)) _ _ _); k_dflt (first | (refine' q_gitem (knd := PySem.strKind _ _) ?qzN ?qzm ?qzd ?qzk ?qzl ?_; (case qzN => k_asm); (case qzm => k_mem); (case qzd => k_asm); (case qzk => exact strKind_is _ _ _ _); (case qzl => first | assumption | exact valueAt_stored _ _ _ | exact rfl); k_whole) | (refine' q_gitem (knd := PySem.intKind _ _) ?qzN ?qzm ?qzd ?qzk ?qzl ?_; (case qzN => k_asm); (case qzm => k_mem); (case qzd => k_asm); (case qzk => exact intKind_is _ _ _ _); (case qzl => first | assumption | exact valueAt_stored _ _ _ | exact rfl); k_whole))) | fail)
  k_with "setItem ref" => (first | ((k_here; (with_reducible first | show wpAny _ _ (setItem (Value.ref _) (Value.str _ _) _) _ _ _ | show wpAny _ _ (setItem (Value.ref _) (Value.int _ _) _) _ _ _); k_dflt (first | (refine' kda_set (knd := PySem.strKind _ _) ?qzF ?qzN ?qzU ?qzd ?qzk ?qzz ?_; (case qzF => k_asm); (case qzN => k_asm); (case qzU => k_updF); (case qzd => k_asm); (case qzk => exact strKind_is _ _ _ _); (case qzz => exact line64 (by assumption)); k_whole) | (refine' kda_set (knd := PySem.intKind _ _) ?qzF ?qzN ?qzU ?qzd ?qzk ?qzz ?_; (case qzF => k_asm); (case qzN => k_asm); (case qzU => k_updF); (case qzd => k_asm); (case qzk => exact intKind_is _ _ _ _); (case qzz => exact line64 (by assumption)); k_whole)); intro h' o' F' N' hd'; (try dsimp only at N')); (try revert hd'); (try revert N'); (try revert F'); (try revert o'); (try revert h'); intros) | fail)
  k_with "compareOp In str ref" => (first | (k_here; (with_reducible show wpAny _ _ (compareOp CmpOp.In (Value.str _ _) (Value.ref _)) _ _ _); k_dflt (refine' in_tuple_strs ?qzk1 ?qzk2 ?_; (case qzk1 => exact tupK (Frag.In.keeps (by k_asm) (Fr.keep (by k_asm))) (by k_is)); (case qzk2 => kde_strs); k_whole)) | fail)
  k_with "compareOp NotIn str ref" => (first | (k_here; (with_reducible show wpAny _ _ (compareOp CmpOp.NotIn (Value.str _ _) (Value.ref _)) _ _ _); k_dflt (refine' notin_tuple_strs ?qzk1 ?qzk2 ?_; (case qzk1 => exact tupK (Frag.In.keeps (by k_asm) (Fr.keep (by k_asm))) (by k_is)); (case qzk2 => kde_strs); k_whole)) | fail)
  k_with "call ref" => (first | ((k_here; (with_reducible show wpAny _ _ (call (Value.ref 63) _) _ _ _); k_dflt (refine' wp_up (mk_io (gd := _) ?qzB ?qzF ?qzX ?qzN ?qzT ?qzhf ?qzhk ?_) rfl (Nat.le_of_ble_eq_true rfl) rfl rfl (Nat.le_of_ble_eq_true rfl); (case qzB => k_asm); (case qzF => k_asm); (case qzX => k_asm); (case qzN => k_asm); (case qzT => k_asm); (case qzhf => exact rfl); (case qzhk => exact rfl)); intro h' tk' e' t' od' F' N' l'); (try revert l'); (try revert N'); (try revert F'); (try revert od'); (try revert t'); (try revert e'); (try revert tk'); (try revert h'); intros) | fail)
  k_with "call ref" => (first | ((k_here; (with_reducible show wpAny _ _ (call (Value.ref 82) _) _ _ _); k_dflt (refine' wp_up (mk_end (gd := _) ?qzB ?qzF ?qzX ?qzN ?qzT ?qzhf ?qzhk ?_) rfl (Nat.le_of_ble_eq_true rfl) rfl rfl (Nat.le_of_ble_eq_true rfl); (case qzB => k_asm); (case qzF => k_asm); (case qzX => k_asm); (case qzN => k_asm); (case qzT => k_asm); (case qzhf => exact rfl); (case qzhk => exact rfl)); intro h' tk' e' t' od' F' N' l'); (try revert l'); (try revert N'); (try revert F'); (try revert od'); (try revert t'); (try revert e'); (try revert tk'); (try revert h'); intros) | fail)
  k_with "call ref" => (first | ((k_here; (with_reducible show wpAny _ _ (call (Value.ref 44) _) _ _ _); k_dflt (refine' wp_up (mk_check (gd := _) ?qzB ?qzF ?qzX ?qzN ?qzT ?qzhf ?qzhk ?_) rfl (Nat.le_of_ble_eq_true rfl) rfl rfl (Nat.le_of_ble_eq_true rfl); (case qzB => k_asm); (case qzF => k_asm); (case qzX => k_asm); (case qzN => k_asm); (case qzT => k_asm); (case qzhf => exact rfl); (case qzhk => exact rfl)); intro h' tk' e' t' od' F' N' l'); (try revert l'); (try revert N'); (try revert F'); (try revert od'); (try revert t'); (try revert e'); (try revert tk'); (try revert h'); intros) | fail)
  k_with "call ref" => (first | ((k_here; (with_reducible show wpAny _ _ (call (Value.ref 147) [Value.int _ _, Value.ref _, Value.str _ _]) _ _ _); k_dflt (refine' wp_up (unit_new (gd := _) ?qzB ?qzF ?qzX ?qzN ?qzT ?qzhf ?qzhk ?_) rfl (Nat.le_of_ble_eq_true rfl) rfl rfl (Nat.le_of_ble_eq_true rfl); (case qzB => k_asm); (case qzF => k_asm); (case qzX => k_asm); (case qzN => k_asm); (case qzT => k_asm); (case qzhf => exact rfl); (case qzhk => exact rfl)); intro ua' uda' od' h' tk' hD' l1' l2' F' N'; (try k_lt l1')); (try revert N'); (try revert F'); (try revert l2'); (try revert l1'); (try revert hD'); (try revert tk'); (try revert h'); (try revert od'); (try revert uda'); (try revert ua'); intros) | fail)
  k_with "call ref" => (first | ((k_here; (with_reducible show wpAny _ _ (call (Value.ref 105) [Value.str _ _, Value.str _ _, Value.str _ _, Value.int _ _]) _ _ _); k_dflt (refine' wp_up (file_new (gd := _) ?qzB ?qzF ?qzX ?qzN ?qzT ?qzhf ?qzhk ?_) rfl (Nat.le_of_ble_eq_true rfl) rfl rfl (Nat.le_of_ble_eq_true rfl); (case qzB => k_asm); (case qzF => k_asm); (case qzX => k_asm); (case qzN => k_asm); (case qzT => k_asm); (case qzhf => exact rfl); (case qzhk => exact rfl)); intro fa' fda' od' ra' h' tk' hD' l1' l2' l3' F' N'; (try k_lt l1')); (try revert N'); (try revert F'); (try revert l3'); (try revert l2'); (try revert l1'); (try revert hD'); (try revert tk'); (try revert h'); (try revert ra'); (try revert od'); (try revert fda'); (try revert fa'); intros) | fail)
  k_with "exec Raise some none" => (first | (k_here; (with_reducible show wpAny _ _ (exec (Stmt.Raise (some (Expr.Call (Expr.Name (Str.ofString "IoFault") _) _ _ _)) none _) _) _ _ _); k_dflt (refine' raise_at (C := 63) ?qzX ?qzh ?qzq ?_; (case qzX => k_asm); (case qzh => rfl); (case qzq => with_unfolding_all rfl); k_whole)) | fail)
  k_with "exec Raise some none" => (first | (k_here; (with_reducible show wpAny _ _ (exec (Stmt.Raise (some (Expr.Call (Expr.Name (Str.ofString "EndFault") _) _ _ _)) none _) _) _ _ _); k_dflt (refine' raise_at (C := 82) ?qzX ?qzh ?qzq ?_; (case qzX => k_asm); (case qzh => rfl); (case qzq => with_unfolding_all rfl); k_whole)) | fail)
  k_with "exec Raise some none" => (first | (k_here; (with_reducible show wpAny _ _ (exec (Stmt.Raise (some (Expr.Call (Expr.Name (Str.ofString "CheckFault") _) _ _ _)) none _) _) _ _ _); k_dflt (refine' raise_at (C := 44) ?qzX ?qzh ?qzq ?_; (case qzX => k_asm); (case qzh => rfl); (case qzq => with_unfolding_all rfl); k_whole)) | fail)
  k_with "Thrown" => (first | (k_here; k_dflt (refine' thrown_of ?qzF ?qzX ?qzN ?_; (case qzF => k_asm); (case qzX => k_asm); (case qzN => k_asm))) | fail)
  k_with "leaving ref" => (first | ((k_here; k_dflt (refine' leave_own ?qzK ?qzF ?qzN ?qzl ?_ ?qzh; (case qzh => rfl); (case qzK => assumption); (case qzF => k_asm); (case qzN => k_asm); (case qzl => assumption); k_whole); intro h' R' U'; (try dsimp only at R' U' ⊢)); (try revert U'); (try revert R'); (try revert h'); intros) | fail)
  k_with "call ref" => (first | ((k_here; (with_reducible show wpAny _ _ (call (Value.ref 158) [Value.ref _, Value.str (Str.ofString "STATUS") _, Value.str (Str.ofString "UNKNOWN") _, Value.ref 85]) _ _ _); k_dflt (refine' wp_up (status_any (gd := _) ?qzB ?qzF ?qzX ?qzN ?qzT ?qzhf ?qzhk ?qzhm ?qzhd ?qzhv ?qzht ?_) rfl (Nat.le_of_ble_eq_true rfl) rfl rfl (Nat.le_of_ble_eq_true rfl); (case qzF => k_asm); (case qzX => k_asm); (case qzN => k_asm); (case qzT => k_asm); (case qzB => k_asm); (case qzhf => exact rfl); (case qzhk => exact rfl); (case qzhm => k_mem); (case qzhd => k_asm); (case qzhv => k_asm); (case qzht => k_asm)); intro tv' h' tk' F' N'); (try revert N'); (try revert F'); (try revert tk'); (try revert h'); (try revert tv'); intros) | fail)
  k_with "call ref" => (first | ((k_here; (with_reducible show wpAny _ _ (call (Value.ref 172) [Value.ref _]) _ _ _); k_dflt (refine' wp_up (sort_any (gd := _) ?qzB ?qzF ?qzX ?qzN ?qzT ?qzhf ?qzhk ?qzhm ?qzhd ?qzh1 ?qzh2 ?qzh3 ?qzh4 ?_) rfl (Nat.le_of_ble_eq_true rfl) rfl rfl (Nat.le_of_ble_eq_true rfl); (case qzF => k_asm); (case qzX => k_asm); (case qzN => k_asm); (case qzT => k_asm); (case qzB => k_asm); (case qzhf => exact rfl); (case qzhk => exact rfl); (case qzhm => k_mem); (case qzhd => k_asm); (case qzh1 => k_asm); (case qzh2 => k_asm); (case qzh3 => k_asm); (case qzh4 => k_asm)); intro tp' t0' t1' t2' h' tk' F' N' l1; (try k_lt l1)); (try revert l1); (try revert N'); (try revert F'); (try revert tk'); (try revert h'); (try revert t2'); (try revert t1'); (try revert t0'); (try revert tp'); intros) | fail)
  k_with "call ref" => (first | ((k_here; (with_reducible show wpAny _ _ (call (Value.ref 165) [Value.ref _]) _ _ _); k_dflt (refine' wp_up (name_any (gd := _) ?qzB ?qzF ?qzX ?qzN ?qzT ?qzhf ?qzhk ?qzhm ?qzhd ?qzhv ?qzht ?_) rfl (Nat.le_of_ble_eq_true rfl) rfl rfl (Nat.le_of_ble_eq_true rfl); (case qzF => k_asm); (case qzX => k_asm); (case qzN => k_asm); (case qzT => k_asm); (case qzB => k_asm); (case qzhf => exact rfl); (case qzhk => exact rfl); (case qzhm => k_mem); (case qzhd => k_asm); (case qzhv => k_asm); (case qzht => k_asm)); intro tv' h' tk' F' N'); (try revert N'); (try revert F'); (try revert tk'); (try revert h'); (try revert tv'); intros) | fail)
  k_with "call ref" => (first | (k_here; (with_reducible show wpAny _ _ (call (Value.ref 186) _) _ _ _); refine hold ?_) | fail)
  k_with "call ref" => (first | (k_here; (with_reducible show wpAny _ _ (call (Value.ref 193) _) _ _ _); refine hold ?_) | fail)
  k_with "leaving ref" => (first | ((k_here; k_dflt (refine' leave_onSN ?qzK ?qzF ?qzR ?qzU ?_; (case qzR => assumption); (case qzK => assumption); (case qzF => assumption); (case qzU => assumption); k_whole); intro h' R' _ U'; (try dsimp only at R' U' ⊢)); (try revert U'); (try revert R'); (try revert h'); intros) | fail)
  trivial
section
section
variable {prog : Program} {w : World} {A : Around} {E : Value → Shared → Prop} {s : Shared}
theorem ar_slice {x y n : Nat} (m : Nat) (h : x ≤ y) : min x n - 0 + m + (min n n - y) ≤ n + m := by omega
theorem at_items {a : Addr} {o : Obj} {xs : Array Value} {n : Nat} {Q : Array Value → Shared → Prop} (ho : s.heap.get? a = some o) (hd : o.data = .seq xs n) (h : Q xs s) : wpAny (model prog w) A (Builtin.List.listItems (.ref a)) Q E s := by
  unfold Builtin.List.listItems
  exact wpAny_bind (wpAny_seqItems ho hd (wpAny_pure h))
open PySem.Builtin.List in
theorem set_slice {l sl v : Addr} {items new : Array Value} {n : Nat} {vl vu : Value} {lo hi : Option Int} {a b : Int} {Q : Unit → Shared → Prop} (ho : s.heap.get? l = some (listOf items n)) (hs : s.heap.IsSliceOf sl vl vu .none) (pl : IsPart vl lo) (pu : IsPart vu hi)
    (hv : s.heap.IsList v new) (hne : (l == v) = false) (hb : sliceBounds lo hi none items.size = (a, b, 1)) (hsz : items.size + new.size ≤ sizeLine)
    (h : Q () { s with heap := s.heap.update l (Obj.mapSeq (fun xs => xs.extract 0 a.toNat ++ new ++ xs.extract (max a b).toNat xs.size)) }) : wpAny (model prog w) A (setItem (.ref l) (.ref sl) (.ref v)) Q E s := (by exact kept : Kept _ (by
  have hl : s.heap.IsList l items := PySem.IsL.isList (n := n) ho
  obtain ⟨os, hos, hcs, hds⟩ := id hs
  obtain ⟨ov, hov, hcv, nv, hdv⟩ := id hv
  have hTs : s.TypeIs (.ref sl) "slice" := ⟨os, hos, hcs⟩
  unfold setItem
  try with_reducible refine wpAny_holding ?_
  first | refine wpAny_bind (wpAny_pure ?_) | skip
  refine wpAny_bind (wpAny_sequenceKey hl.typeIs (by decide) ?_)
  refine wpAny_bind (wpAny_callSpecial?_slot (name := Str.ofString "__setitem__") hl.typeIs slot_list_setitem
    (wpAny_call_entry slot_list_setitem hl.typeIs entry_list_setitem ?_ (args_list_setitem _ _ _)))
  show wpAny _ _ (Builtin.List.listSubscript? (.ref sl) >>= _) _ _ s
  refine wpAny_bind ?_
  unfold Builtin.List.listSubscript?
  refine wpAny_bind (wpAny_specialOf hTs slice_no_index ?_)
  simp only [Option.isNone_none, if_true]
  refine wpAny_pure ?_
  show wpAny _ _ (typeOf (.ref sl) >>= _) _ _ s
  refine wpAny_bind (wpAny_typeOf hTs ?_)
  rw [if_neg (by decide)]
  rw [listSliceParts_eq]
  have hstep : ¬ ((rawPart none == rawInt 0) = true) := Bool.false_ne_true
  refine wpAny_bind (wpAny_bind (wpAny_field hos hds (x := .none) rfl (wpAny_bind (wpAny_listPart .none ?_))))
  rw [if_neg hstep]
  refine wpAny_bind (wpAny_field hos hds (x := vl) rfl (wpAny_bind (wpAny_listPart pl ?_)))
  refine wpAny_bind (wpAny_field hos hds (x := vu) rfl (wpAny_bind (wpAny_listPart pu (wpAny_pure ?_))))
  rw [if_neg (show ¬ (listSameRef (.ref l) (.ref v) = true) from by show ¬ ((l == v) = true); rw [hne]; exact Bool.false_ne_true)]
  refine wpAny_bind ?_
  unfold listAllItems
  refine wpAny_bind (wpAny_typeOf hv.typeIs ?_)
  rw [if_pos (by decide)]
  refine at_items hov hdv ?_
  dsimp only
  refine wpAny_bind (at_items ho rfl ?_)
  refine wpAny_bind (wpAny_of_eq (sliceIndices_raw lo hi none items.size (by simp)) ?_)
  rw [hb]
  dsimp only
  rw [if_pos (show ((1 : Int) == 1) = true from rfl)]
  refine wpAny_bind (wpAny_rule ?_)
  rw [if_neg (show ¬ (listTooLong (items.size + new.size) = true) from by unfold listTooLong; rw [decide_eq_true_eq]; omega)]
  refine wpAny_bind (wpAny_updateSeq ho rfl ?_ (by omega) ?_)
  · refine wpAny_bind (wpAny_letGo ?_)
    exact wpAny_pure ⟨.none, rfl, wpAny_pure h⟩
  · simp only [Array.size_append, Array.size_extract]
    exact Nat.le_trans (ar_slice _ (Int.toNat_le_toNat (Int.le_max_left a b))) (Nat.le_succ_of_le hsz)))
theorem mapSeq_list (f : Array Value → Array Value) (its : Array Value) (n : Nat) : ∃ n', Obj.mapSeq f (listOf its n) = listOf (f its) n' := ⟨_, rfl⟩
theorem kslice {h₀ : Heap} {L D v : Addr} {m : Str → Option Value} {news : List (Addr × Obj)} {g : Obj → List (Addr × Obj)} {its new : Array Value} {n k : Nat} {vl vu : Value} {lo hi : Option Int} {a b : Int} {Q : Unit → Shared → Prop} (F : Fr h₀ L s.heap m) (N : News h₀ L s.heap news) (U : UpdF D (listOf its n) news g) (hv : (v, listOf new k) ∈ news) (hne : (D == v) = false) (pl : IsPart vl lo) (pu : IsPart vu hi)
    (hb : sliceBounds lo hi none its.size = (a, b, 1)) (hsz : its.size + new.size ≤ sizeLine)
    (h : ∀ h' n', Fr h₀ L h' m → News h₀ L h' (g (listOf (its.extract 0 a.toNat ++ new ++ its.extract (max a b).toNat its.size) n')) → Q () { s with heap := h' }) :
    wpAny (model prog w) A (setItem (.ref D) (.ref s.heap.objs.size) (.ref v)) Q E { s with heap := s.heap.push { cls := .type "slice", data := .fields #[vl, vu, .none] } } := by
  obtain ⟨pre, post, rfl, hg, e1, e2⟩ := U.split
  have z := N (D, listOf its n) (List.mem_append_right _ (.head _))
  have F1 := F.push { cls := .type "slice", data := .fields #[vl, vu, .none] }
  have N1 : News h₀ L (s.heap.push { cls := .type "slice", data := .fields #[vl, vu, .none] }) (pre ++ (D, listOf its n) :: post) := N.grown fun _ _ e => Heap.get?_push_of_some _ e
  have z1 := N1 (D, listOf its n) (List.mem_append_right _ (.head _))
  obtain ⟨n', hm⟩ := mapSeq_list (fun xs => xs.extract 0 a.toNat ++ new ++ xs.extract (max a b).toNat xs.size) its n
  refine set_slice (s := { s with heap := s.heap.push { cls := .type "slice", data := .fields #[vl, vu, .none] } }) z1.1 (Heap.IsSliceOf.new ..) pl pu (News.isList N1 hv) hne hb hsz ?_
  refine h _ n' (F1.change (Heap.SameBut.update ..) z1.2.1 z1.2.2) ?_
  rw [hg]
  refine news_set N1 e1 e2 (Heap.SameBut.update ..) ?_
  rw [Heap.get?_update_self _ z1.1 (by rw [hm]; rfl), hm]
end
theorem slice_take {recs : List Value} {pl : Nat} {v : Value} (h : pl ≤ recs.length) :
    recs.toArray.extract 0 (((kms_lo (some (pl : Int)) recs.toArray.size : Nat) : Int)).toNat ++ #[v] ++ recs.toArray.extract (max ((kms_lo (some (pl : Int)) recs.toArray.size : Nat) : Int) ((kms_hi none recs.toArray.size : Nat) : Int)).toNat recs.toArray.size = (recs.take pl ++ [v]).toArray := by
  have e1 : kms_lo (some (pl : Int)) recs.toArray.size = pl := by
    unfold kms_lo
    dsimp only
    rw [if_neg (by omega), List.size_toArray]
    omega
  have e2 : kms_hi none recs.toArray.size = recs.length := by unfold kms_hi; exact List.size_toArray
  rw [e1, e2, List.size_toArray]
  have e3 : (max (pl : Int) (recs.length : Int)).toNat = recs.length := by omega
  rw [e3]
  simp
end
section
theorem words_LetW : True := by
  k_with "subscriptTail Subscript" => (first | (first | k_extra "subscriptTail" | (k_here; kda_here; first | ((with_reducible show wpAny _ _ (subscriptTail _ _ (Value.ref _) (Value.str _ _)) _ _ _); k_dflt (refine kdt_tail (knd := PySem.strKind _ _) (by k_asm) (by k_mem) (by k_asm) ?_)) | ((with_reducible show wpAny _ _ (subscriptTail _ _ (Value.ref _) (Value.int _ _)) _ _ _); k_dflt (refine kdt_tail (knd := PySem.intKind _ _) (by k_asm) (by k_mem) (by k_asm) ?_))) | (k_here; k_dflt (refine kba_turn (value' := PySem.Expr.Name (PySem.Str.ofString "_") ⟨0, 0, 0, 0⟩) (fun _ => rfl) ?_))) | fail)
  k_with "subscriptTail Name Constant ref int" => (first | (first | k_extra "subscriptTail" | (k_here; (with_unfolding_all refine' item_litK ?qzk1 ?qzk2 ?qzk3 ?qzk4 ?_ ?qzk6; (case qzk1 => is_list); (case qzk2 => decide); (case qzk3 => decide); (case qzk4 => rfl); (case qzk6 => with_unfolding_all rfl); k_whole))) | fail)
  k_with "call ref" => (first | (k_here; (with_reducible show wpAny _ _ (call (Value.ref 329) _) _ _ _); refine hold ?_) | fail)
  k_with "setItem ref" => (first | ((k_here; (with_reducible show wpAny _ _ (setItem (Value.ref _) (Value.ref _) (Value.ref _)) _ _ _); k_dflt (refine' kslice ?qzF ?qzN ?qzU ?qzv ?qzne ?qzp ?qzq ?qzb ?qzz ?_; (case qzF => k_asm); (case qzN => k_asm); (case qzU => k_updF); (case qzv => k_mem); (case qzne => exact beq_false_of_ne (by k_ne)); (case qzp => kmk_part); (case qzq => kmk_part); (case qzb => exact kms_bounds _ _ _); (case qzz => (simp only [List.size_toArray, List.length_cons, List.length_nil, PySem.sizeLine_eq]; omega)); k_whole); intro h' n' F' N'; (try dsimp only at N')); (try revert N'); (try revert F'); (try revert n'); (try revert h'); intros) | fail)
  trivial
section
variable {w : World} {gd : Option (List Code)} {env : Env} {outer : List Env} {A₀ : Around} {base h₀ : Heap} {L : Addr} {m mg mb : Str → Option Value} {mean : ExcName → Option Value} {s : Shared} {Q E : Value → Shared → Prop}
    {R : List (Addr × Obj)} {bk da bud bfd rw ow hl : Addr} {bo o buo bfo : Obj} {nm x : Str} {num : Int} {pl n n' : Nat} {own recs : List Value} {w0 n0 xt t t' : Tok} {kvB : List (Int × Value)} {kvBF : List (Str × Value)}
theorem let_named (B : Below A₀ base outer h₀) (F : Fr h₀ L s.heap m) (X : (hd.heap_1 w.params).In h₀) (N : News h₀ L s.heap ((rw, listOf #[.str nm t, .int (pl : Int) t', .ref ow] n) :: (hl, listOf recs.toArray n') :: R)) (T : Top view (looseW view []) mean mg mb h₀)
    (hf : env.frame = some L) (hk : env.scope.kind = .function) (hbk : (bk, bo) ∈ R) (hbo : bo.IsDictOf (PySem.strKind P0 w) [(Str.ofString "files", .ref bfd), (Str.ofString "units", .ref bud)])
    (hbu : (bud, buo) ∈ R) (hbuD : buo.IsDictOf (PySem.intKind P0 w) kvB) (hbf : (bfd, bfo) ∈ R) (hbfD : bfo.IsDictOf (PySem.strKind P0 w) kvBF)
    (hda : (da, { cls := Value.type "tuple", data := Data.seq #[Value.str (Str.ofString "write") w0, Value.int num n0, Value.str x xt, Value.none] }) ∈ R)
    (hat : valueAt kvB num = some (.ref rw)) (hat' : valueAt kvBF nm = some (.ref hl)) (hnm : (nm == Str.ofString "") = false) (hpl : pl ≤ recs.length) (hlr : recs.length < 64)
    (hn : @Ne Nat rw hl) (hR1 : ∀ p ∈ R, p.1 ≠ rw) (hR2 : ∀ p ∈ R, p.1 ≠ hl)
    (ret : ∀ h' tk tq n'', Fr h₀ L h' m → News h₀ L h' ((rw, listOf #[.str nm t, .int ((pl : Int) + 1) tq, .ref ow] n) :: (hl, listOf (recs.take pl ++ [Value.str x xt]).toArray n'') :: R) → Q (.bool true) { s with heap := h', toks := tk }) :
    wpAny (model P0 w) (At 400 1000 gd env outer) (call (.ref 336) [.ref bk, .ref da]) Q E s := (by exact kept : Kept _ (by
  have hfb : valueAt [(Str.ofString "files", Value.ref bfd), (Str.ofString "units", Value.ref bud)] (Str.ofString "units") = some (.ref bud) := by
    have : Str.ofString "files" ≠ Str.ofString "units" := by decide +kernel
    simp [valueAt, this]
  have hff : valueAt [(Str.ofString "files", Value.ref bfd), (Str.ofString "units", Value.ref bud)] (Str.ofString "files") = some (.ref bfd) := by
    simp [valueAt]
  refine wpAny_call ?_
  k_dflt k_enter
  k_steps
  (rename News h₀ L _ (_ :: (rw, _) :: _) => Nz)
  rw [slice_take hpl] at Nz
  exact ret _ _ _ _ (by k_asm) (news_tl Nz)))
theorem let_scratch (B : Below A₀ base outer h₀) (F : Fr h₀ L s.heap m) (X : (hd.heap_1 w.params).In h₀) (N : News h₀ L s.heap ((rw, listOf #[.str nm t, .int (pl : Int) t', .ref hl] n) :: (hl, listOf recs.toArray n') :: R)) (T : Top view (looseW view []) mean mg mb h₀)
    (hf : env.frame = some L) (hk : env.scope.kind = .function) (hbk : (bk, bo) ∈ R) (hbo : bo.IsDictOf (PySem.strKind P0 w) [(Str.ofString "files", .ref bfd), (Str.ofString "units", .ref bud)])
    (hbu : (bud, buo) ∈ R) (hbuD : buo.IsDictOf (PySem.intKind P0 w) kvB) (hbf : (bfd, bfo) ∈ R) (hbfD : bfo.IsDictOf (PySem.strKind P0 w) kvBF)
    (hda : (da, { cls := Value.type "tuple", data := Data.seq #[Value.str (Str.ofString "write") w0, Value.int num n0, Value.str x xt, Value.none] }) ∈ R)
    (hat : valueAt kvB num = some (.ref rw)) (hnm : (nm == Str.ofString "") = true) (hpl : pl ≤ recs.length) (hlr : recs.length < 64)
    (hn : @Ne Nat rw hl) (hR1 : ∀ p ∈ R, p.1 ≠ rw) (hR2 : ∀ p ∈ R, p.1 ≠ hl)
    (ret : ∀ h' tk tq n'', Fr h₀ L h' m → News h₀ L h' ((rw, listOf #[.str nm t, .int ((pl : Int) + 1) tq, .ref hl] n) :: (hl, listOf (recs.take pl ++ [Value.str x xt]).toArray n'') :: R) → Q (.bool true) { s with heap := h', toks := tk }) :
    wpAny (model P0 w) (At 400 1000 gd env outer) (call (.ref 336) [.ref bk, .ref da]) Q E s := (by exact kept : Kept _ (by
  have hfb : valueAt [(Str.ofString "files", Value.ref bfd), (Str.ofString "units", Value.ref bud)] (Str.ofString "units") = some (.ref bud) := by
    have : Str.ofString "files" ≠ Str.ofString "units" := by decide +kernel
    simp [valueAt, this]
  have hff : valueAt [(Str.ofString "files", Value.ref bfd), (Str.ofString "units", Value.ref bud)] (Str.ofString "files") = some (.ref bfd) := by
    simp [valueAt]
  refine wpAny_call ?_
  k_dflt k_enter
  k_steps
  (rename News h₀ L _ (_ :: (rw, _) :: _) => Nz)
  rw [slice_take hpl] at Nz
  exact ret _ _ _ _ (by k_asm) (news_tl Nz)))
end
end
section
theorem words_LetR : True := by
  k_with "call ref" => (first | (k_here; (with_reducible show wpAny _ _ (call (Value.ref 329) _) _ _ _); refine hold ?_) | fail)
  k_with "setItem ref" => (first | ((k_here; (with_reducible show wpAny _ _ (setItem (Value.ref _) (Value.ref _) (Value.ref _)) _ _ _); k_dflt (refine' kslice ?qzF ?qzN ?qzU ?qzv ?qzne ?qzp ?qzq ?qzb ?qzz ?_; (case qzF => k_asm); (case qzN => k_asm); (case qzU => k_updF); (case qzv => k_mem); (case qzne => exact beq_false_of_ne (by k_ne)); (case qzp => kmk_part); (case qzq => kmk_part); (case qzb => exact kms_bounds _ _ _); (case qzz => (simp only [List.size_toArray, List.length_cons, List.length_nil, PySem.sizeLine_eq]; omega)); k_whole); intro h' n' F' N'; (try dsimp only at N')); (try revert N'); (try revert F'); (try revert n'); (try revert h'); intros) | fail)
  k_with "call builtin:dict.pop" => (first | ((k_here; k_dflt (first | ((with_reducible show wpAny _ _ (call (Value.builtin "dict.pop") [Value.ref _, Value.str _ _]) _ _ _); refine' kob_pop (knd := PySem.strKind _ _) (more := []) ?qzF ?qzN ?qzU ?qzd (strKind_is _ _ _ _) (.inl rfl) (by rfl) (PySem.F.args_dict_pop_2 _ _) ?qzl ?qzz ?_; (case qzF => k_asm); (case qzN => k_asm); (case qzU => k_updF); (case qzd => k_asm); (case qzl => assumption); (case qzz => exact line64 (by assumption))) | ((with_reducible show wpAny _ _ (call (Value.builtin "dict.pop") [Value.ref _, Value.int _ _]) _ _ _); refine' kob_pop (knd := PySem.intKind _ _) (more := []) ?qzF ?qzN ?qzU ?qzd (intKind_is _ _ _ _) (.inl rfl) (by rfl) (PySem.F.args_dict_pop_2 _ _) ?qzl ?qzz ?_; (case qzF => k_asm); (case qzN => k_asm); (case qzU => k_updF); (case qzd => k_asm); (case qzl => assumption); (case qzz => exact line64 (by assumption)))); intro h' o' F' N' hd'; (try dsimp only at N')); (try revert hd'); (try revert N'); (try revert F'); (try revert o'); (try revert h'); intros) | fail)
  k_with "subscriptTail" => (first | (k_here; (with_reducible show wpAny _ _ (subscriptTail _ _ (Value.ref _) (Value.int _ _)) _ _ _); k_dflt (refine' item_litK ?qzl ?qzh0 ?qzh1 ?qzx ?_ ?qzs; (case qzl => exact News.isList (by k_asm) (by k_mem)); (case qzh0 => decide); (case qzh1 => decide); (case qzx => exact rfl); (case qzs => with_unfolding_all rfl); k_whole)) | fail)
  k_with "compareOp Eq str" => (first | (k_here; (with_reducible show wpAny _ _ (compareOp CmpOp.Eq _ (Value.str _ _)) _ _ _); refine told_eq (by assumption) ?_) | fail)
  trivial
theorem told_eq {prog : Program} {w : World} {A : Around} {v : Value} {told : Option Str} {k : Str} {t : Tok} {Q E : Value → Shared → Prop} {s : Shared} (h : ToldV v told) (r : Q (.bool (decide (told = some k))) s) : wpAny (model prog w) A (compareOp .Eq v (.str k t)) Q E s := by
  rcases h with ⟨rfl, rfl⟩ | ⟨u, rfl, rfl⟩ | ⟨u, rfl, rfl⟩
  · exact EqNone.eq_none_str r
  all_goals
    refine eq_str ?_
    rw [show ∀ a : Str, (a == k) = decide (some a = some k) from fun a => by rw [Bool.eq_iff_iff, beq_iff_eq, decide_eq_true_iff, Option.some.injEq]]
    exact r
section
variable {w : World} {gd : Option (List Code)} {env : Env} {outer : List Env} {A₀ : Around} {base h₀ : Heap} {L : Addr} {m mg mb : Str → Option Value} {mean : ExcName → Option Value} {s : Shared} {Q E : Value → Shared → Prop}
    {R : List (Addr × Obj)} {bk da bud bfd rw ow hl : Addr} {bo o buo bfo : Obj} {nm x : Str} {num : Int} {pl n n' : Nat} {own recs : List Value} {w0 n0 xt t t' : Tok} {kvB : List (Int × Value)} {kvBF : List (Str × Value)}
theorem let_rewind (B : Below A₀ base outer h₀) (F : Fr h₀ L s.heap m) (X : (hd.heap_1 w.params).In h₀) (N : News h₀ L s.heap ((rw, listOf #[.str nm t, .int (pl : Int) t', .ref ow] n) :: R)) (T : Top view (looseW view []) mean mg mb h₀)
    (hf : env.frame = some L) (hk : env.scope.kind = .function) (hbk : (bk, bo) ∈ R) (hbo : bo.IsDictOf (PySem.strKind P0 w) [(Str.ofString "files", .ref bfd), (Str.ofString "units", .ref bud)])
    (hbu : (bud, buo) ∈ R) (hbuD : buo.IsDictOf (PySem.intKind P0 w) kvB)
    (hda : (da, { cls := Value.type "tuple", data := Data.seq #[Value.str (Str.ofString "rewind") w0, Value.int num n0, Value.str x xt, Value.none] }) ∈ R)
    (hat : valueAt kvB num = some (.ref rw)) (hR1 : ∀ p ∈ R, p.1 ≠ rw)
    (ret : ∀ h' tk tq, Fr h₀ L h' m → News h₀ L h' ((rw, listOf #[.str nm t, .int 0 tq, .ref ow] n) :: R) → Q (.bool true) { s with heap := h', toks := tk }) :
    wpAny (model P0 w) (At 400 1000 gd env outer) (call (.ref 336) [.ref bk, .ref da]) Q E s := (by exact kept : Kept _ (by
  have hfb : valueAt [(Str.ofString "files", Value.ref bfd), (Str.ofString "units", Value.ref bud)] (Str.ofString "units") = some (.ref bud) := by
    have : Str.ofString "files" ≠ Str.ofString "units" := by decide +kernel
    simp [valueAt, this]
  have hff : valueAt [(Str.ofString "files", Value.ref bfd), (Str.ofString "units", Value.ref bud)] (Str.ofString "files") = some (.ref bfd) := by
    simp [valueAt]
  refine wpAny_call ?_
  k_dflt k_enter
  k_steps
  (rename News h₀ L _ ((rw, _) :: _) => Nz)
  exact ret _ _ _ (by k_asm) Nz))
theorem let_absent {v : Value} (B : Below A₀ base outer h₀) (F : Fr h₀ L s.heap m) (X : (hd.heap_1 w.params).In h₀) (N : News h₀ L s.heap R) (T : Top view (looseW view []) mean mg mb h₀)
    (hf : env.frame = some L) (hk : env.scope.kind = .function) (hbk : (bk, bo) ∈ R) (hbo : bo.IsDictOf (PySem.strKind P0 w) [(Str.ofString "files", .ref bfd), (Str.ofString "units", .ref bud)])
    (hbu : (bud, buo) ∈ R) (hbuD : buo.IsDictOf (PySem.intKind P0 w) kvB)
    (hda : (da, { cls := Value.type "tuple", data := Data.seq #[Value.str (Str.ofString "close") w0, Value.int num n0, v, Value.none] }) ∈ R) (hat : valueAt kvB num = none)
    (ret : ∀ h' tk, Fr h₀ L h' m → News h₀ L h' R → Q (.bool true) { s with heap := h', toks := tk }) :
    wpAny (model P0 w) (At 400 1000 gd env outer) (call (.ref 336) [.ref bk, .ref da]) Q E s := (by exact kept : Kept _ (by
  have hfb : valueAt [(Str.ofString "files", Value.ref bfd), (Str.ofString "units", Value.ref bud)] (Str.ofString "units") = some (.ref bud) := by
    have : Str.ofString "files" ≠ Str.ofString "units" := by decide +kernel
    simp [valueAt, this]
  have hff : valueAt [(Str.ofString "files", Value.ref bfd), (Str.ofString "units", Value.ref bud)] (Str.ofString "files") = some (.ref bfd) := by
    simp [valueAt]
  refine wpAny_call ?_
  k_dflt k_enter
  k_steps
  exact ret _ _ (by k_asm) (by k_asm)))
theorem let_close {told : Option Str} {v v0 : Value} (B : Below A₀ base outer h₀) (F : Fr h₀ L s.heap m) (X : (hd.heap_1 w.params).In h₀) (N : News h₀ L s.heap ((bud, buo) :: (bfd, bfo) :: R)) (T : Top view (looseW view []) mean mg mb h₀)
    (hf : env.frame = some L) (hk : env.scope.kind = .function) (hbk : (bk, bo) ∈ R) (hbo : bo.IsDictOf (PySem.strKind P0 w) [(Str.ofString "files", .ref bfd), (Str.ofString "units", .ref bud)])
    (hbuD : buo.IsDictOf (PySem.intKind P0 w) kvB) (hbfD : bfo.IsDictOf (PySem.strKind P0 w) kvBF) (hrw : (rw, listOf #[.str nm t, .int (pl : Int) t', .ref ow] n) ∈ R)
    (hda : (da, { cls := Value.type "tuple", data := Data.seq #[Value.str (Str.ofString "close") w0, Value.int num n0, v, Value.none] }) ∈ R) (hv : ToldV v told) (hat : valueAt kvB num = some (.ref rw))
    (hdel : nm ≠ Str.ofString "" → valueAt kvBF nm = some v0) (hlU : kvB.length < 64) (hlF : kvBF.length < 64) (hR1 : ∀ p ∈ R, p.1 ≠ bud) (hR2 : ∀ p ∈ R, p.1 ≠ bfd) (hne : @Ne Nat bud bfd)
    (ret : ¬ (nm = Str.ofString "" ∧ told = some (Str.ofString "KEEP")) → ∀ uo' fo' kvF' h' tk, uo'.IsDictOf (PySem.intKind P0 w) (without kvB num) → fo'.IsDictOf (PySem.strKind P0 w) kvF' →
      ((nm ≠ Str.ofString "" ∧ told = some (Str.ofString "DELETE") ∧ kvF' = without kvBF nm) ∨ (¬ (nm ≠ Str.ofString "" ∧ told = some (Str.ofString "DELETE")) ∧ kvF' = kvBF)) →
      Fr h₀ L h' m → News h₀ L h' ((bud, uo') :: (bfd, fo') :: R) → Q (.bool true) { s with heap := h', toks := tk })
    (bad : nm = Str.ofString "" ∧ told = some (Str.ofString "KEEP") → ∀ h' tk, Fr h₀ L h' m → News h₀ L h' ((bud, buo) :: (bfd, bfo) :: R) → Q (.bool false) { s with heap := h', toks := tk }) :
    wpAny (model P0 w) (At 400 1000 gd env outer) (call (.ref 336) [.ref bk, .ref da]) Q E s := (by exact kept : Kept _ (by
  have hfb : valueAt [(Str.ofString "files", Value.ref bfd), (Str.ofString "units", Value.ref bud)] (Str.ofString "units") = some (.ref bud) := by
    have : Str.ofString "files" ≠ Str.ofString "units" := by decide +kernel
    simp [valueAt, this]
  have hff : valueAt [(Str.ofString "files", Value.ref bfd), (Str.ofString "units", Value.ref bud)] (Str.ofString "files") = some (.ref bfd) := by
    simp [valueAt]
  refine wpAny_call ?_
  rcases Decidable.em (nm = Str.ofString "") with hnm | hnm
  · subst hnm
    k_dflt k_enter
    k_steps
    · exact bad ⟨rfl, by assumption⟩ _ _ (by k_asm) (by k_asm)
    · refine' ret (fun c => absurd c.2 (by assumption)) _ _ _ _ _ ?u ?f ?k ?F ?N
      (case N => k_asm)
      (case F => k_asm)
      (case u => assumption)
      (case f => assumption)
      (case k => exact Or.inr ⟨fun c => c.1 rfl, rfl⟩)
  · have hv' := hdel hnm
    have hbe : (nm == Str.ofString "") = false := beq_false_of_ne hnm
    have hbe : (nm != Str.ofString "") = true := bne_iff_ne.mpr hnm
    k_dflt k_enter
    k_steps
    all_goals
      (refine' ret (fun c => hnm c.1) _ _ _ _ _ ?u ?f ?k ?F ?N
       (case N => k_asm)
       (case F => k_asm)
       (case u => assumption)
       (case f => assumption)
       (case k => first | exact Or.inl ⟨hnm, by assumption, rfl⟩ | exact Or.inr ⟨fun c => absurd c.2 (by assumption), rfl⟩))))
end
end
section
section
open LCg
variable {prog : Program} {w : World} {A : Around} {E : Value → Shared → Prop} {s : Shared} {h₀ : Heap} {L : Addr} {m : Str → Option Value} {env : Env} {K : Type} [DecidableEq K] {knd : PySem.KeyKind prog w K}
/-- a comprehension over the values of a dict, by turns -/
theorem ListComp_V {elt iter : Expr} {x : Str} {px : Pos} {scope : Scope} {cl : List (Str × Addr)} {pos : Pos} {Q : Value → Shared → Prop} (F₀ : Fr h₀ L s.heap m)
    (hclos : closureFor scope env = pure cl) (hcell : ∀ y ∈ scope.names, y.2 ≠ .cell) (hkind : scope.kind = .function)
    (hnames : ∀ y ∈ scope.names, y.2 = .local → scope.names.lookup y.1 = some .local) (hx : scope.names.lookup x = some .local)
    (h : wpAny (model prog w) A (eval iter env) (fun xv s₁ => Hold (∃ (vw d : Addr) (od : Obj) (kvs : List (K × Value)) (news : List (Addr × Obj)), xv = .ref vw ∧ A.handled = none ∧ Fr h₀ L s₁.heap m ∧ News h₀ L s₁.heap news ∧ s₁.heap.IsValuesView vw d ∧ (d, od) ∈ news ∧ od.IsDictOf knd kvs ∧ kvs.length ≤ sizeLine ∧
      ∀ s₂ : Shared, (∃ h, s₂ = { s₁ with heap := h }) → CompRest prog w A h₀ L m env elt x scope cl s₂ (fun nw => (d, od) ∈ nw) (fun i v => ∃ k, kvs[i]? = some (k, v)) (FinE h₀ L m s₂ Q) kvs.length 0 [] news)) E s)
    (hs : ∀ x, foldedSetIterable iter env x = pure x := by intro _; rfl) :
    wpAny (model prog w) A (eval (.ListComp elt [⟨.Name x px, iter, [], 0⟩] scope pos) env) Q E s := (by exact kept : Kept _ (by
  rw [eval_ListComp]
  refine wpAny_comprehension_free (use := none) rfl hs hclos hkind hnames (wpAny_mono h (fun xv s₁ h₁ => ?_) fun _ _ e => e)
  obtain ⟨vw, d, od, kvs, news, rfl, hh, F, N, hv, hm, hd, hsz, R⟩ := h₁
  obtain ⟨es, ep, x1, x2, x3, x4, x5⟩ := hd
  have hat : s₁.heap.DictAt knd d kvs ep := ⟨od, es, (N _ hm).1, x1, x2, x3, x4, x5⟩
  have hlt : d < s₁.heap.objs.size := Heap.lt_size (N _ hm).1
  have hne : d ≠ s₁.heap.objs.size := Nat.ne_of_lt hlt
  refine wpAny_pyIter_values hv hat ?_
  have up : ∀ b o, s₁.heap.get? b = some o → (s₁.heap.push { cls := .type "dict_valueiterator", data := .fields #[.ref d, .int 0 0, .int kvs.length 0, .int ep 0] }).get? b = some o := fun b o e => Heap.get?_push_of_some _ e
  refine block_U (S := fun nw => (d, od) ∈ nw) (Walks.dictValues (knd := knd) hh s₁.heap.objs.size d hne kvs ep) hsz (fun i h st => by obtain ⟨o, e, _⟩ := st.1; exact ⟨o, e⟩) (fun i h h' o nw st e e' _ N' hS => ?_) hcell hkind hx ⟨⟨_, Heap.get?_push_size _ rfl, rfl, rfl⟩, hat.keep up⟩ (fun b hb => ?_)
    (F.keeps up) (N.grown up) (Nat.ne_of_lt F.ns.lt) (next_is_new F) (fun p hp => Nat.ne_of_lt (Heap.lt_size (N p hp).1)) hm (R _ ⟨_, rfl⟩) ?_
  · obtain ⟨oi, g1, g2⟩ := st.1
    rw [e] at g1
    cases g1
    exact ⟨⟨_, e', g2⟩, ⟨od, es, (N' _ hS).1, x1, x2, x3, x4, x5⟩⟩
  · show b < (s₁.heap.push _).objs.size
    rw [Heap.size_push]
    rcases List.mem_cons.mp hb with rfl | hb
    · exact Nat.lt_succ_self _
    · rw [List.mem_singleton.mp hb]; exact Nat.lt_succ_of_lt hlt
  · intro D C h tk m' ys news' F' N' o1 hn hC₀ hD₀ hCL hDL hCD offC fin
    refine ⟨m', hn, fun h'' hs'' => fin D h'' tk (F'.change hs'' hCL hC₀) (fun p hp => ?_) o1⟩
    refine ⟨hs''.extBut _ _ ?_ (N' p hp).1, (N' p hp).2⟩
    rcases List.mem_cons.mp hp with rfl | hp
    · exact Ne.symm hCD
    · exact offC p hp))
/-- the turns of a comprehension by an invariant of the list made so far; the ledger stays -/
theorem compRest_all {elt : Expr} {x : Str} {scope : Scope} {cl : List (Str × Addr)} {s : Shared} {S : List (Addr × Obj) → Prop} {P : Nat → Value → Prop} {Fin : List Value → List (Addr × Obj) → Prop} {news : List (Addr × Obj)} (Inv : Nat → List Value → Prop)
    (step : ∀ i ys v I oI C oC D m₂ h tk (E' : Value → Shared → Prop), P i v → Inv i ys → NsObj oC m₂ → m₂ x = some v → Fr h₀ L h m → News h₀ L h ((I, oI) :: (C, oC) :: (D, lst ys) :: news) → Off3 I C D news → ((@Ne Nat I C) ∧ (@Ne Nat I D) ∧ (@Ne Nat C D)) →
      wpAny (model prog w) A (eval elt (compEnvC scope cl C env)) (CompEnd h₀ L m { s with heap := h, toks := tk } I oI C oC D (lst ys) S (fun y news' => news' = news ∧ Inv (i + 1) (ys ++ [y]))) E' { s with heap := h, toks := tk }) :
    ∀ k i ys, Inv i ys → (∀ zs, Inv (i + k) zs → Fin zs news) → CompRest prog w A h₀ L m env elt x scope cl s S P Fin k i ys news
  | 0, _, ys, h, fin => fin ys h
  | k + 1, i, ys, h, fin => fun v I oI C oC D m₂ hp tk E' hP hN hx F N off ne =>
    wpAny_mono (step i ys v I oI C oC D m₂ hp tk E' hP h hN hx F N off ne) (fun y s₂ ⟨h', tk', news', e, F', N', off', hS, hn, hI⟩ =>
      ⟨h', tk', news', e, F', N', off', hS, hn ▸ compRest_all Inv step k (i + 1) _ hI (fun zs hz => fin zs (by rwa [show i + (k + 1) = i + 1 + k by omega]))⟩) fun _ _ e => e
end
end
section
theorem words_LetO : True := by
  k_with "subscriptTail" => (first | (k_here; (with_reducible show wpAny _ _ (subscriptTail _ _ (Value.ref _) (Value.int _ _)) _ _ _); k_dflt (refine' item_litK ?qzl ?qzh0 ?qzh1 ?qzx ?_ ?qzs; (case qzl => exact News.isList (by k_asm) (by k_mem)); (case qzh0 => decide); (case qzh1 => decide); (case qzx => exact rfl); (case qzs => with_unfolding_all rfl); k_whole)) | fail)
  k_with "CompEnd" => (first | (k_here; refine hold ?_) | fail)
  k_with "eval ListComp" => (first | (k_here; refine hold ?_) | fail)
  k_with "call builtin:dict.values" => (first | ((k_here; k_dflt (refine' kta_callValues (knd := PySem.intKind _ _) ?qzF ?qzN ?qzm ?qzd ?qzlo ?_; (case qzF => k_asm); (case qzN => k_asm); (case qzm => k_mem); (case qzd => k_asm); (case qzlo => exact lo_of (by k_asm) (by k_asm) (by k_mem)); k_whole); intro h' hvw' F' N'); (try revert N'); (try revert F'); (try revert hvw'); (try revert h'); intros) | fail)
  k_with "call builtin:dict.setdefault" => (first | ((k_here; k_dflt (first | (refine' kob_setdef_there (knd := PySem.strKind _ _) ?qzN ?qzm ?qzd ?qzlo (strKind_is _ _ _ _) (PySem.F.args_dict_setdefault_3 _ _ _) ?qzl ?qzz ?_; (case qzN => k_asm); (case qzm => k_mem); (case qzd => k_asm); (case qzlo => exact lo_of (by k_asm) (by k_asm) (by k_mem)); (case qzl => assumption); (case qzz => exact line64 (by assumption)); k_whole) | (refine' kob_setdef_new (knd := PySem.strKind _ _) ?qzF ?qzN ?qzU ?qzd ?qzlo (strKind_is _ _ _ _) (PySem.F.args_dict_setdefault_3 _ _ _) ?qzl ?qzz ?_; (case qzF => k_asm); (case qzN => k_asm); (case qzU => k_updF); (case qzd => k_asm); (case qzlo => exact lo_of (by k_asm) (by k_asm) (by k_mem)); (case qzl => assumption); (case qzz => exact line64 (by assumption)); k_whole; intro h' o' F' N' hd'; (try dsimp only at N')))); (try revert hd'); (try revert N'); (try revert F'); (try revert o'); (try revert h'); intros) | fail)
  k_with "compareOp In str ref" => (first | (k_here; (with_reducible show wpAny _ _ (compareOp CmpOp.In (Value.str _ _) (Value.ref _)) _ _ _); k_dflt (refine' in_list_strs ?qzk1 ?qzk2 ?_; (case qzk1 => exact News.isList (by k_asm) (by k_mem)); (case qzk2 => assumption); k_whole)) | fail)
  k_with "compareOp In str ref" => (first | (k_here; (with_reducible show wpAny _ _ (compareOp CmpOp.In (Value.str _ _) (Value.ref _)) _ _ _); k_dflt (refine' in_pair ?qzk1 ?_; (case qzk1 => exact news_tuple (its := [_, _]) (by k_asm) (by k_mem)); k_whole)) | fail)
  k_with "compareOp In none ref" => (first | (k_here; (with_reducible show wpAny _ _ (compareOp CmpOp.In Value.none (Value.ref _)) _ _ _); k_dflt (refine' in_pair_none ?qzk1 ?_; (case qzk1 => exact news_tuple (its := [_, _]) (by k_asm) (by k_mem)); k_whole)) | fail)
  trivial
theorem strs_snoc {x : Str} {t : Tok} {ys : List Value} {xs : List Str} (h : PyProof.Rows.StrsAre ys xs) : PyProof.Rows.StrsAre (ys ++ [.str x t]) (xs ++ [x]) := PyProof.Rows.StrsAre.append' h (.cons _ _ .nil)
open PySem.SeqAt in
theorem in_pair {prog : Program} {w : World} {A : Around} {E : Value → Shared → Prop} {s : Shared} {D : Addr} {x nm : Str} {xt t : Tok} {Q : Value → Shared → Prop} (hl : s.heap.IsTuple D #[.none, .str nm t]) (h : Q (.bool (nm == x)) s) : wpAny (model prog w) A (compareOp .In (.str x xt) (.ref D)) Q E s :=
  in_tupleAt (e := fun y => match y with | .str a _ => a == x | _ => false) hl (fun y hy => by
    simp only [List.mem_toArray, List.mem_cons, List.not_mem_nil, or_false] at hy
    rcases hy with rfl | rfl
    · exact EqAt.none_str _ _
    · exact EqAt.str_str _ _ _ _) (by simpa using h)
open PySem.SeqAt in
theorem in_pair_none {prog : Program} {w : World} {A : Around} {E : Value → Shared → Prop} {s : Shared} {D : Addr} {nm : Str} {t : Tok} {Q : Value → Shared → Prop} (hl : s.heap.IsTuple D #[.none, .str nm t]) (h : Q (.bool true) s) : wpAny (model prog w) A (compareOp .In .none (.ref D)) Q E s :=
  in_tupleAt (e := fun y => match y with | .none => true | _ => false) hl (fun y hy => by
    simp only [List.mem_toArray, List.mem_cons, List.not_mem_nil, or_false] at hy
    rcases hy with rfl | rfl
    · exact EqAt.same _
    · exact EqAt.str_none _ _) (by simpa using h)
theorem news_tuple {h₀ h : Heap} {L D : Addr} {news : List (Addr × Obj)} {its : List Value} (N : News h₀ L h news) (hm : (D, ({ cls := .type "tuple", data := .seq its.toArray } : Obj)) ∈ news) : h.IsTuple D its.toArray := ⟨_, (N _ hm).1, rfl, _, rfl⟩
theorem again_told (told : Str) : decide (told = Str.ofString "OLD" ∨ told = Str.ofString "UNKNOWN") = [Str.ofString "OLD", Str.ofString "UNKNOWN"].any (· == told) := by
  rw [List.any_cons, List.any_cons, List.any_nil, Bool.or_false, Bool.decide_or]
  congr 1 <;> (rw [Bool.eq_iff_iff, decide_eq_true_iff, beq_iff_eq]; exact eq_comm)
/-- the bad ends of an open, by the book -/
def LetBad (told want : Str) (named : Prop) (kvB : List (Int × Value)) (nmOf : Int → Str) (kvBF : List (Str × Value)) : Prop :=
  (told = Str.ofString "SCRATCH" ∧ named) ∨ (told ≠ Str.ofString "SCRATCH" ∧ ((∃ k v, (k, v) ∈ kvB ∧ nmOf k = want) ∨ ((∀ k v, (k, v) ∈ kvB → nmOf k ≠ want) ∧ (((∃ v, valueAt kvBF want = some v) ∧ told = Str.ofString "NEW") ∨ (valueAt kvBF want = none ∧ told = Str.ofString "OLD")))))
/-- what a good open makes in the book -/
def LetGood (told want nm' : Str) (kvB : List (Int × Value)) (nmOf : Int → Str) (kvBF kvBF' : List (Str × Value)) (Rk : List (Addr × Obj)) (ow' : Addr) (Y : List (Addr × Obj)) : Prop :=
  (told = Str.ofString "SCRATCH" ∧ nm' = Str.ofString "" ∧ kvBF' = kvBF ∧ Y = []) ∨ (told ≠ Str.ofString "SCRATCH" ∧ nm' = want ∧ (∀ k v, (k, v) ∈ kvB → nmOf k ≠ want) ∧
    (((∃ v, valueAt kvBF want = some v) ∧ told ≠ Str.ofString "NEW" ∧ kvBF' = kvBF ∧ Y = []) ∨ (valueAt kvBF want = none ∧ told ≠ Str.ofString "OLD" ∧ ∃ ha', kvBF' = stored kvBF want (.ref ha') ∧ Y = [(ha', listOf #[] 0)] ∧ @LT.lt Nat _ ha' ow' ∧ ∀ p ∈ Rk, @LT.lt Nat _ p.1 ha')))
theorem names_any {kvB : List (Int × Value)} {nmOf : Int → Str} {want : Str} (h : ((kvB.map fun p => nmOf p.1).any fun x => x == want) = true) : ∃ k v, (k, v) ∈ kvB ∧ nmOf k = want := by
  obtain ⟨x, hx, e⟩ := List.any_eq_true.mp h
  obtain ⟨⟨k, v⟩, hp, rfl⟩ := List.mem_map.mp hx
  exact ⟨k, v, hp, beq_iff_eq.mp e⟩
theorem names_none {kvB : List (Int × Value)} {nmOf : Int → Str} {want : Str} (h : ((kvB.map fun p => nmOf p.1).any fun x => x == want) = false) : ∀ k v, (k, v) ∈ kvB → nmOf k ≠ want := fun k v hp e => by
  have : ((kvB.map fun p => nmOf p.1).any fun x => x == want) = true := List.any_eq_true.mpr ⟨nmOf k, List.mem_map.mpr ⟨_, hp, rfl⟩, beq_iff_eq.mpr e⟩
  rw [h] at this; cases this
theorem fort_item {num : Int} (h1 : 1 ≤ num) (h2 : num ≤ 3) : Str.ofString "FORT." ++ Txt.item (Str.ofString "0123") num = fort num := by
  have : num = 1 ∨ num = 2 ∨ num = 3 := by omega
  rcases this with rfl | rfl | rfl <;> decide +kernel
theorem let_newsN {h : Heap} {L : Addr} {h₀ : Heap} {a b c d u f : Addr × Obj} {R : List (Addr × Obj)} (N : News h₀ L h (a :: b :: c :: d :: u :: f :: R)) : News h₀ L h (a :: b :: ([c] ++ (u :: f :: R))) := by
  have t1 := news_tl N; have t2 := news_tl t1
  exact news_add N (news_add t1 (news_add t2 (news_tl (news_tl t2))))
theorem let_newsT {h : Heap} {L : Addr} {h₀ : Heap} {a b c d u f : Addr × Obj} {R : List (Addr × Obj)} (N : News h₀ L h (a :: b :: c :: d :: u :: f :: R)) : News h₀ L h (a :: b :: ([] ++ (u :: f :: R))) := by
  have t1 := news_tl N; have t2 := news_tl t1
  exact news_add N (news_add t1 (news_tl (news_tl t2)))
theorem let_newsN5 {h : Heap} {L : Addr} {h₀ : Heap} {a b c d e u f : Addr × Obj} {R : List (Addr × Obj)} (N : News h₀ L h (a :: b :: c :: d :: e :: u :: f :: R)) : News h₀ L h (a :: b :: ([c] ++ (u :: f :: R))) := by
  have t1 := news_tl N; have t2 := news_tl t1
  exact news_add N (news_add t1 (news_add t2 (news_tl (news_tl (news_tl t2)))))
theorem let_newsT5 {h : Heap} {L : Addr} {h₀ : Heap} {a b c d e u f : Addr × Obj} {R : List (Addr × Obj)} (N : News h₀ L h (a :: b :: c :: d :: e :: u :: f :: R)) : News h₀ L h (a :: b :: ([] ++ (u :: f :: R))) := by
  have t1 := news_tl N; have t2 := news_tl t1
  exact news_add N (news_add t1 (news_tl (news_tl (news_tl t2))))
theorem let_newsS {h : Heap} {L : Addr} {h₀ : Heap} {a b u f : Addr × Obj} {R : List (Addr × Obj)} (N : News h₀ L h (a :: b :: u :: f :: R)) : News h₀ L h (a :: b :: ([] ++ (u :: f :: R))) := N
theorem lt_in {ow : Addr} {bud bfd : Addr} {buo bfo : Obj} {R : List (Addr × Obj)} (h1 : @LT.lt Nat _ bud ow) (h2 : @LT.lt Nat _ bfd ow) (h3 : ∀ p ∈ R, @LT.lt Nat _ p.1 ow) : ∀ p ∈ (bud, buo) :: (bfd, bfo) :: R, @LT.lt Nat _ p.1 ow := fun p hp => by
  rcases List.mem_cons.mp hp with rfl | hp
  · exact h1
  rcases List.mem_cons.mp hp with rfl | hp
  · exact h2
  · exact h3 p hp
section
variable {w : World} {gd : Option (List Code)} {env : Env} {outer : List Env} {A₀ : Around} {base h₀ : Heap} {L : Addr} {m mg mb : Str → Option Value} {mean : ExcName → Option Value} {s : Shared} {Q E : Value → Shared → Prop}
    {R : List (Addr × Obj)} {bk da bud bfd rw ow hl : Addr} {bo o buo bfo : Obj} {nm x : Str} {num : Int} {pl n n' : Nat} {own recs : List Value} {w0 n0 xt t t' : Tok} {kvB : List (Int × Value)} {kvBF : List (Str × Value)}
theorem let_opA {nmOf : Int → Str} {told : Str} {tt xt : Tok}
    (B : Below A₀ base outer h₀) (F : Fr h₀ L s.heap m) (X : (hd.heap_1 w.params).In h₀) (N : News h₀ L s.heap ((bud, buo) :: (bfd, bfo) :: R)) (T : Top view (looseW view []) mean mg mb h₀)
    (hf : env.frame = some L) (hk : env.scope.kind = .function) (hbk : (bk, bo) ∈ R) (hbo : bo.IsDictOf (PySem.strKind P0 w) [(Str.ofString "files", .ref bfd), (Str.ofString "units", .ref bud)])
    (hbuD : buo.IsDictOf (PySem.intKind P0 w) kvB) (hbfD : bfo.IsDictOf (PySem.strKind P0 w) kvBF)
    (hlU : kvB.length < 64) (hlF : kvBF.length < 64) (hR1 : ∀ p ∈ R, p.1 ≠ bud) (hR2 : ∀ p ∈ R, p.1 ≠ bfd) (hne : @Ne Nat bud bfd) (hrows : ∀ k v, (k, v) ∈ kvB → ∃ rw t t' ow n pl, v = .ref rw ∧ (rw, listOf #[.str (nmOf k) t, .int pl t', .ref ow] n) ∈ R) (n1 : 1 ≤ num) (n3 : num ≤ 3)
    (hat : valueAt kvB num = none)
    (bad : LetBad told (Str.ofString "FORT." ++ Txt.item (Str.ofString "0123") num) False kvB nmOf kvBF → ∀ h' tk, Fr h₀ L h' m → News h₀ L h' ((bud, buo) :: (bfd, bfo) :: R) → Q (.bool false) { s with heap := h', toks := tk })
    (good : ∀ nm' kvBF' ow' rw' t1 t2 Y buo' bfo' h' tk, LetGood told (Str.ofString "FORT." ++ Txt.item (Str.ofString "0123") num) nm' kvB nmOf kvBF kvBF' ((bud, buo) :: (bfd, bfo) :: R) ow' Y → (False → told ≠ Str.ofString "SCRATCH") → buo'.IsDictOf (PySem.intKind P0 w) (stored kvB num (.ref rw')) → bfo'.IsDictOf (PySem.strKind P0 w) kvBF' →
      (∀ p ∈ (bud, buo) :: (bfd, bfo) :: R, @LT.lt Nat _ p.1 ow') → @LT.lt Nat _ ow' rw' → Fr h₀ L h' m → News h₀ L h' ((rw', listOf #[.str nm' t1, .int ((0 : Nat) : Int) t2, .ref ow'] 0) :: (ow', listOf #[] 0) :: (Y ++ ((bud, buo') :: (bfd, bfo') :: R))) → Q (.bool true) { s with heap := h', toks := tk }) :
    wpAny (model P0 w) (At 500 1500 gd env outer) (call (.ref 329) [.ref bk, .int num n0, .str told tt, .none]) Q E s := (by exact kept : Kept _ (by
  have hfb : valueAt [(Str.ofString "files", Value.ref bfd), (Str.ofString "units", Value.ref bud)] (Str.ofString "units") = some (.ref bud) := by
    have : Str.ofString "files" ≠ Str.ofString "units" := by decide +kernel
    simp [valueAt, this]
  have hff : valueAt [(Str.ofString "files", Value.ref bfd), (Str.ofString "units", Value.ref bud)] (Str.ofString "files") = some (.ref bfd) := by
    simp [valueAt]
  refine wpAny_call ?_
  k_dflt k_enter
  k_steps
  · refine' good _ _ _ _ _ _ [] _ _ _ _ (.inl ⟨beq_iff_eq.mp (by assumption), rfl, rfl, rfl⟩) (fun h => False.elim h) ?u ?f ?ow ?rw ?F ?N
    (case N => exact let_newsS (by k_asm))
    (case F => k_asm)
    (case u => assumption)
    (case f => assumption)
    (case rw => omega)
    (case ow => exact lt_in (by omega) (by omega) (by first | exact allLt_all (And.right (And.right (by assumption))) | exact allLt_all (And.right (And.right (And.right (by assumption)))) | exact allLt_all (And.right (And.right (And.right (And.right (by assumption))))) | exact allLt_all (And.right (And.right (And.right (And.right (And.right (by assumption)))))) | exact allLt_all (And.right (And.right (And.right (And.right (And.right (And.right (by assumption)))))))))
  · refine held (ListComp_V (knd := PySem.intKind P0 w) (F₀ := by k_asm) (by with_unfolding_all rfl) (by decide) (by rfl) (by decide) (by rfl) ?_)
    k_steps
    refine' held ⟨_, _, _, _, _, rfl, rfl, ?F, ?N, ?v, ?m, ?d, ?l, ?R⟩
    (case F => k_asm)
    (case N => k_asm)
    (case v => k_asm)
    (case m => k_mem)
    (case d => k_asm)
    (case l => exact line64 (by assumption))
    (case R =>
      rintro s₂ ⟨hs, rfl⟩
      refine compRest_all (fun i ys => PyProof.Rows.StrsAre ys ((kvB.take i).map fun p => nmOf p.1)) ?_ _ 0 [] .nil ?_
      · intro i ys v I oI C oC D m₂ hp tk' E' hP hI hN hx F N off ne
        obtain ⟨k, hk⟩ := hP
        obtain ⟨rw, t, t', ow, n, pl, rfl, hrw⟩ := hrows k v (List.mem_of_getElem? hk)
        k_steps
        refine held (LCg.CompEnd.intro (by k_asm) (by k_asm) _ (fun p hp => hp) off (by k_mem) ⟨rfl, ?_⟩)
        rw [List.take_add_one, hk, List.map_append]
        exact strs_snoc hI
      · intro zs hz
        rw [Nat.zero_add, List.take_length] at hz
        cases hcv : valueAt kvBF ((Str.ofString "FORT." ++ Txt.item (Str.ofString "0123") num))
        · k_steps
          · refine bad (.inr ⟨beq_ne (by assumption), .inl (names_any (by assumption))⟩) _ _ (by k_asm) (news_sub (by k_asm) fun p hp => by k_mem)
          · refine bad (.inr ⟨beq_ne (by assumption), .inr ⟨names_none (by assumption), .inr ⟨hcv, beq_iff_eq.mp (by assumption)⟩⟩⟩) _ _ (by k_asm) (news_sub (by k_asm) fun p hp => by k_mem)
          · refine' good _ _ _ _ _ _ [(_, _)] _ _ _ _ (.inr ⟨beq_ne (by assumption), rfl, names_none (by assumption), .inr ⟨hcv, beq_ne (by assumption), _, rfl, rfl, ?lt, ?ha⟩⟩) (fun h => False.elim h) ?u ?f ?ow ?rw ?F ?N
            (case N => exact let_newsN (by k_asm))
            (case F => k_asm)
            (case u => assumption)
            (case f => assumption)
            (case lt => omega)
            (case rw => omega)
            (case ow => exact lt_in (by omega) (by omega) (by first | exact allLt_all (And.right (And.right (by assumption))) | exact allLt_all (And.right (And.right (And.right (by assumption)))) | exact allLt_all (And.right (And.right (And.right (And.right (by assumption))))) | exact allLt_all (And.right (And.right (And.right (And.right (And.right (by assumption)))))) | exact allLt_all (And.right (And.right (And.right (And.right (And.right (And.right (by assumption)))))))))
            (case ha => exact lt_in (by omega) (by omega) (by first | exact allLt_all (And.right (And.right (by assumption))) | exact allLt_all (And.right (And.right (And.right (by assumption)))) | exact allLt_all (And.right (And.right (And.right (And.right (by assumption))))) | exact allLt_all (And.right (And.right (And.right (And.right (And.right (by assumption)))))) | exact allLt_all (And.right (And.right (And.right (And.right (And.right (And.right (by assumption)))))))))
        · k_steps
          · refine bad (.inr ⟨beq_ne (by assumption), .inl (names_any (by assumption))⟩) _ _ (by k_asm) (news_sub (by k_asm) fun p hp => by k_mem)
          · refine bad (.inr ⟨beq_ne (by assumption), .inr ⟨names_none (by assumption), .inl ⟨⟨_, hcv⟩, beq_iff_eq.mp (by assumption)⟩⟩⟩) _ _ (by k_asm) (news_sub (by k_asm) fun p hp => by k_mem)
          · refine' good _ _ _ _ _ _ [] _ _ _ _ (.inr ⟨beq_ne (by assumption), rfl, names_none (by assumption), .inl ⟨⟨_, hcv⟩, beq_ne (by assumption), rfl, rfl⟩⟩) (fun h => False.elim h) ?u ?f ?ow ?rw ?F ?N
            (case N => exact let_newsT (by k_asm))
            (case F => k_asm)
            (case u => assumption)
            (case f => assumption)
            (case rw => omega)
            (case ow => exact lt_in (by omega) (by omega) (by first | exact allLt_all (And.right (And.right (by assumption))) | exact allLt_all (And.right (And.right (And.right (by assumption)))) | exact allLt_all (And.right (And.right (And.right (And.right (by assumption))))) | exact allLt_all (And.right (And.right (And.right (And.right (And.right (by assumption)))))) | exact allLt_all (And.right (And.right (And.right (And.right (And.right (And.right (by assumption))))))))))))
theorem let_opB {nmOf : Int → Str} {told : Str} {tt xt : Tok}
    (B : Below A₀ base outer h₀) (F : Fr h₀ L s.heap m) (X : (hd.heap_1 w.params).In h₀) (N : News h₀ L s.heap ((bud, buo) :: (bfd, bfo) :: R)) (T : Top view (looseW view []) mean mg mb h₀)
    (hf : env.frame = some L) (hk : env.scope.kind = .function) (hbk : (bk, bo) ∈ R) (hbo : bo.IsDictOf (PySem.strKind P0 w) [(Str.ofString "files", .ref bfd), (Str.ofString "units", .ref bud)])
    (hbuD : buo.IsDictOf (PySem.intKind P0 w) kvB) (hbfD : bfo.IsDictOf (PySem.strKind P0 w) kvBF)
    (hlU : kvB.length < 64) (hlF : kvBF.length < 64) (hR1 : ∀ p ∈ R, p.1 ≠ bud) (hR2 : ∀ p ∈ R, p.1 ≠ bfd) (hne : @Ne Nat bud bfd) (hrows : ∀ k v, (k, v) ∈ kvB → ∃ rw t t' ow n pl, v = .ref rw ∧ (rw, listOf #[.str (nmOf k) t, .int pl t', .ref ow] n) ∈ R) (n1 : 1 ≤ num) (n3 : num ≤ 3)
    (hat : valueAt kvB num = none)
    (bad : LetBad told x True kvB nmOf kvBF → ∀ h' tk, Fr h₀ L h' m → News h₀ L h' ((bud, buo) :: (bfd, bfo) :: R) → Q (.bool false) { s with heap := h', toks := tk })
    (good : ∀ nm' kvBF' ow' rw' t1 t2 Y buo' bfo' h' tk, LetGood told x nm' kvB nmOf kvBF kvBF' ((bud, buo) :: (bfd, bfo) :: R) ow' Y → (True → told ≠ Str.ofString "SCRATCH") → buo'.IsDictOf (PySem.intKind P0 w) (stored kvB num (.ref rw')) → bfo'.IsDictOf (PySem.strKind P0 w) kvBF' →
      (∀ p ∈ (bud, buo) :: (bfd, bfo) :: R, @LT.lt Nat _ p.1 ow') → @LT.lt Nat _ ow' rw' → Fr h₀ L h' m → News h₀ L h' ((rw', listOf #[.str nm' t1, .int ((0 : Nat) : Int) t2, .ref ow'] 0) :: (ow', listOf #[] 0) :: (Y ++ ((bud, buo') :: (bfd, bfo') :: R))) → Q (.bool true) { s with heap := h', toks := tk }) :
    wpAny (model P0 w) (At 500 1500 gd env outer) (call (.ref 329) [.ref bk, .int num n0, .str told tt, .str x xt]) Q E s := (by exact kept : Kept _ (by
  have hfb : valueAt [(Str.ofString "files", Value.ref bfd), (Str.ofString "units", Value.ref bud)] (Str.ofString "units") = some (.ref bud) := by
    have : Str.ofString "files" ≠ Str.ofString "units" := by decide +kernel
    simp [valueAt, this]
  have hff : valueAt [(Str.ofString "files", Value.ref bfd), (Str.ofString "units", Value.ref bud)] (Str.ofString "files") = some (.ref bfd) := by
    simp [valueAt]
  refine wpAny_call ?_
  k_dflt k_enter
  k_steps
  · exact bad (.inl ⟨beq_iff_eq.mp (by assumption), trivial⟩) _ _ (by k_asm) (by k_asm)
  · refine held (ListComp_V (knd := PySem.intKind P0 w) (F₀ := by k_asm) (by with_unfolding_all rfl) (by decide) (by rfl) (by decide) (by rfl) ?_)
    k_steps
    refine' held ⟨_, _, _, _, _, rfl, rfl, ?F, ?N, ?v, ?m, ?d, ?l, ?R⟩
    (case F => k_asm)
    (case N => k_asm)
    (case v => k_asm)
    (case m => k_mem)
    (case d => k_asm)
    (case l => exact line64 (by assumption))
    (case R =>
      rintro s₂ ⟨hs, rfl⟩
      refine compRest_all (fun i ys => PyProof.Rows.StrsAre ys ((kvB.take i).map fun p => nmOf p.1)) ?_ _ 0 [] .nil ?_
      · intro i ys v I oI C oC D m₂ hp tk' E' hP hI hN hx F N off ne
        obtain ⟨k, hk⟩ := hP
        obtain ⟨rw, t, t', ow, n, pl, rfl, hrw⟩ := hrows k v (List.mem_of_getElem? hk)
        k_steps
        refine held (LCg.CompEnd.intro (by k_asm) (by k_asm) _ (fun p hp => hp) off (by k_mem) ⟨rfl, ?_⟩)
        rw [List.take_add_one, hk, List.map_append]
        exact strs_snoc hI
      · intro zs hz
        rw [Nat.zero_add, List.take_length] at hz
        cases hcv : valueAt kvBF (x)
        · k_steps
          · refine bad (.inr ⟨beq_ne (by assumption), .inl (names_any (by assumption))⟩) _ _ (by k_asm) (news_sub (by k_asm) fun p hp => by k_mem)
          · refine bad (.inr ⟨beq_ne (by assumption), .inr ⟨names_none (by assumption), .inr ⟨hcv, beq_iff_eq.mp (by assumption)⟩⟩⟩) _ _ (by k_asm) (news_sub (by k_asm) fun p hp => by k_mem)
          · refine' good _ _ _ _ _ _ [(_, _)] _ _ _ _ (.inr ⟨beq_ne (by assumption), rfl, names_none (by assumption), .inr ⟨hcv, beq_ne (by assumption), _, rfl, rfl, ?lt, ?ha⟩⟩) (fun _ => beq_ne (by assumption)) ?u ?f ?ow ?rw ?F ?N
            (case N => exact let_newsN (by k_asm))
            (case F => k_asm)
            (case u => assumption)
            (case f => assumption)
            (case lt => omega)
            (case rw => omega)
            (case ow => exact lt_in (by omega) (by omega) (by first | exact allLt_all (And.right (And.right (by assumption))) | exact allLt_all (And.right (And.right (And.right (by assumption)))) | exact allLt_all (And.right (And.right (And.right (And.right (by assumption))))) | exact allLt_all (And.right (And.right (And.right (And.right (And.right (by assumption)))))) | exact allLt_all (And.right (And.right (And.right (And.right (And.right (And.right (by assumption)))))))))
            (case ha => exact lt_in (by omega) (by omega) (by first | exact allLt_all (And.right (And.right (by assumption))) | exact allLt_all (And.right (And.right (And.right (by assumption)))) | exact allLt_all (And.right (And.right (And.right (And.right (by assumption))))) | exact allLt_all (And.right (And.right (And.right (And.right (And.right (by assumption)))))) | exact allLt_all (And.right (And.right (And.right (And.right (And.right (And.right (by assumption)))))))))
        · k_steps
          · refine bad (.inr ⟨beq_ne (by assumption), .inl (names_any (by assumption))⟩) _ _ (by k_asm) (news_sub (by k_asm) fun p hp => by k_mem)
          · refine bad (.inr ⟨beq_ne (by assumption), .inr ⟨names_none (by assumption), .inl ⟨⟨_, hcv⟩, beq_iff_eq.mp (by assumption)⟩⟩⟩) _ _ (by k_asm) (news_sub (by k_asm) fun p hp => by k_mem)
          · refine' good _ _ _ _ _ _ [] _ _ _ _ (.inr ⟨beq_ne (by assumption), rfl, names_none (by assumption), .inl ⟨⟨_, hcv⟩, beq_ne (by assumption), rfl, rfl⟩⟩) (fun _ => beq_ne (by assumption)) ?u ?f ?ow ?rw ?F ?N
            (case N => exact let_newsT (by k_asm))
            (case F => k_asm)
            (case u => assumption)
            (case f => assumption)
            (case rw => omega)
            (case ow => exact lt_in (by omega) (by omega) (by first | exact allLt_all (And.right (And.right (by assumption))) | exact allLt_all (And.right (And.right (And.right (by assumption)))) | exact allLt_all (And.right (And.right (And.right (And.right (by assumption))))) | exact allLt_all (And.right (And.right (And.right (And.right (And.right (by assumption)))))) | exact allLt_all (And.right (And.right (And.right (And.right (And.right (And.right (by assumption))))))))))))
theorem let_opC {nmOf : Int → Str} {told : Str} {tt xt : Tok}
    (B : Below A₀ base outer h₀) (F : Fr h₀ L s.heap m) (X : (hd.heap_1 w.params).In h₀) (N : News h₀ L s.heap ((bud, buo) :: (bfd, bfo) :: R)) (T : Top view (looseW view []) mean mg mb h₀)
    (hf : env.frame = some L) (hk : env.scope.kind = .function) (hbk : (bk, bo) ∈ R) (hbo : bo.IsDictOf (PySem.strKind P0 w) [(Str.ofString "files", .ref bfd), (Str.ofString "units", .ref bud)])
    (hbuD : buo.IsDictOf (PySem.intKind P0 w) kvB) (hbfD : bfo.IsDictOf (PySem.strKind P0 w) kvBF)
    (hlU : kvB.length < 64) (hlF : kvBF.length < 64) (hR1 : ∀ p ∈ R, p.1 ≠ bud) (hR2 : ∀ p ∈ R, p.1 ≠ bfd) (hne : @Ne Nat bud bfd) (hrows : ∀ k v, (k, v) ∈ kvB → ∃ rw t t' ow n pl, v = .ref rw ∧ (rw, listOf #[.str (nmOf k) t, .int pl t', .ref ow] n) ∈ R) (n1 : 1 ≤ num) (n3 : num ≤ 3)
    (hat : valueAt kvB num = some (.ref rw)) (hrw : (rw, listOf #[.str nm t, .int (pl : Int) t', .ref ow] n) ∈ R) (hx : (nm == x) = false) (hx' : x ≠ nm)
    (bad : LetBad told x True kvB nmOf kvBF → ∀ h' tk, Fr h₀ L h' m → News h₀ L h' ((bud, buo) :: (bfd, bfo) :: R) → Q (.bool false) { s with heap := h', toks := tk })
    (good : ∀ nm' kvBF' ow' rw' t1 t2 Y buo' bfo' h' tk, LetGood told x nm' kvB nmOf kvBF kvBF' ((bud, buo) :: (bfd, bfo) :: R) ow' Y → (True → told ≠ Str.ofString "SCRATCH") → buo'.IsDictOf (PySem.intKind P0 w) (stored kvB num (.ref rw')) → bfo'.IsDictOf (PySem.strKind P0 w) kvBF' →
      (∀ p ∈ (bud, buo) :: (bfd, bfo) :: R, @LT.lt Nat _ p.1 ow') → @LT.lt Nat _ ow' rw' → Fr h₀ L h' m → News h₀ L h' ((rw', listOf #[.str nm' t1, .int ((0 : Nat) : Int) t2, .ref ow'] 0) :: (ow', listOf #[] 0) :: (Y ++ ((bud, buo') :: (bfd, bfo') :: R))) → Q (.bool true) { s with heap := h', toks := tk }) :
    wpAny (model P0 w) (At 500 1500 gd env outer) (call (.ref 329) [.ref bk, .int num n0, .str told tt, .str x xt]) Q E s := (by exact kept : Kept _ (by
  have hfb : valueAt [(Str.ofString "files", Value.ref bfd), (Str.ofString "units", Value.ref bud)] (Str.ofString "units") = some (.ref bud) := by
    have : Str.ofString "files" ≠ Str.ofString "units" := by decide +kernel
    simp [valueAt, this]
  have hff : valueAt [(Str.ofString "files", Value.ref bfd), (Str.ofString "units", Value.ref bud)] (Str.ofString "files") = some (.ref bfd) := by
    simp [valueAt]
  refine wpAny_call ?_
  k_dflt k_enter
  k_steps
  · exact bad (.inl ⟨beq_iff_eq.mp (by assumption), trivial⟩) _ _ (by k_asm) (by k_asm)
  · refine held (ListComp_V (knd := PySem.intKind P0 w) (F₀ := by k_asm) (by with_unfolding_all rfl) (by decide) (by rfl) (by decide) (by rfl) ?_)
    k_steps
    refine' held ⟨_, _, _, _, _, rfl, rfl, ?F, ?N, ?v, ?m, ?d, ?l, ?R⟩
    (case F => k_asm)
    (case N => k_asm)
    (case v => k_asm)
    (case m => k_mem)
    (case d => k_asm)
    (case l => exact line64 (by assumption))
    (case R =>
      rintro s₂ ⟨hs, rfl⟩
      refine compRest_all (fun i ys => PyProof.Rows.StrsAre ys ((kvB.take i).map fun p => nmOf p.1)) ?_ _ 0 [] .nil ?_
      · intro i ys v I oI C oC D m₂ hp tk' E' hP hI hN hx F N off ne
        obtain ⟨k, hk⟩ := hP
        obtain ⟨rw, t, t', ow, n, pl, rfl, hrw⟩ := hrows k v (List.mem_of_getElem? hk)
        k_steps
        refine held (LCg.CompEnd.intro (by k_asm) (by k_asm) _ (fun p hp => hp) off (by k_mem) ⟨rfl, ?_⟩)
        rw [List.take_add_one, hk, List.map_append]
        exact strs_snoc hI
      · intro zs hz
        rw [Nat.zero_add, List.take_length] at hz
        cases hcv : valueAt kvBF (x)
        · k_steps
          · refine bad (.inr ⟨beq_ne (by assumption), .inl (names_any (by assumption))⟩) _ _ (by k_asm) (news_sub (by k_asm) fun p hp => by k_mem)
          · refine bad (.inr ⟨beq_ne (by assumption), .inr ⟨names_none (by assumption), .inr ⟨hcv, beq_iff_eq.mp (by assumption)⟩⟩⟩) _ _ (by k_asm) (news_sub (by k_asm) fun p hp => by k_mem)
          · refine' good _ _ _ _ _ _ [(_, _)] _ _ _ _ (.inr ⟨beq_ne (by assumption), rfl, names_none (by assumption), .inr ⟨hcv, beq_ne (by assumption), _, rfl, rfl, ?lt, ?ha⟩⟩) (fun _ => beq_ne (by assumption)) ?u ?f ?ow ?rw ?F ?N
            (case N => exact let_newsN5 (by k_asm))
            (case F => k_asm)
            (case u => assumption)
            (case f => assumption)
            (case lt => omega)
            (case rw => omega)
            (case ow => exact lt_in (by omega) (by omega) (by first | exact allLt_all (And.right (And.right (by assumption))) | exact allLt_all (And.right (And.right (And.right (by assumption)))) | exact allLt_all (And.right (And.right (And.right (And.right (by assumption))))) | exact allLt_all (And.right (And.right (And.right (And.right (And.right (by assumption)))))) | exact allLt_all (And.right (And.right (And.right (And.right (And.right (And.right (by assumption)))))))))
            (case ha => exact lt_in (by omega) (by omega) (by first | exact allLt_all (And.right (And.right (by assumption))) | exact allLt_all (And.right (And.right (And.right (by assumption)))) | exact allLt_all (And.right (And.right (And.right (And.right (by assumption))))) | exact allLt_all (And.right (And.right (And.right (And.right (And.right (by assumption)))))) | exact allLt_all (And.right (And.right (And.right (And.right (And.right (And.right (by assumption)))))))))
        · k_steps
          · refine bad (.inr ⟨beq_ne (by assumption), .inl (names_any (by assumption))⟩) _ _ (by k_asm) (news_sub (by k_asm) fun p hp => by k_mem)
          · refine bad (.inr ⟨beq_ne (by assumption), .inr ⟨names_none (by assumption), .inl ⟨⟨_, hcv⟩, beq_iff_eq.mp (by assumption)⟩⟩⟩) _ _ (by k_asm) (news_sub (by k_asm) fun p hp => by k_mem)
          · refine' good _ _ _ _ _ _ [] _ _ _ _ (.inr ⟨beq_ne (by assumption), rfl, names_none (by assumption), .inl ⟨⟨_, hcv⟩, beq_ne (by assumption), rfl, rfl⟩⟩) (fun _ => beq_ne (by assumption)) ?u ?f ?ow ?rw ?F ?N
            (case N => exact let_newsT5 (by k_asm))
            (case F => k_asm)
            (case u => assumption)
            (case f => assumption)
            (case rw => omega)
            (case ow => exact lt_in (by omega) (by omega) (by first | exact allLt_all (And.right (And.right (by assumption))) | exact allLt_all (And.right (And.right (And.right (by assumption)))) | exact allLt_all (And.right (And.right (And.right (And.right (by assumption))))) | exact allLt_all (And.right (And.right (And.right (And.right (And.right (by assumption)))))) | exact allLt_all (And.right (And.right (And.right (And.right (And.right (And.right (by assumption))))))))))))
theorem let_opD {nmOf : Int → Str} {told : Str} {tt xt : Tok}
    (B : Below A₀ base outer h₀) (F : Fr h₀ L s.heap m) (X : (hd.heap_1 w.params).In h₀) (N : News h₀ L s.heap ((bud, buo) :: (bfd, bfo) :: R)) (T : Top view (looseW view []) mean mg mb h₀)
    (hf : env.frame = some L) (hk : env.scope.kind = .function) (hbk : (bk, bo) ∈ R) (hbo : bo.IsDictOf (PySem.strKind P0 w) [(Str.ofString "files", .ref bfd), (Str.ofString "units", .ref bud)])
    (hbuD : buo.IsDictOf (PySem.intKind P0 w) kvB) (hbfD : bfo.IsDictOf (PySem.strKind P0 w) kvBF)
    (hlU : kvB.length < 64) (hlF : kvBF.length < 64) (hR1 : ∀ p ∈ R, p.1 ≠ bud) (hR2 : ∀ p ∈ R, p.1 ≠ bfd) (hne : @Ne Nat bud bfd) (hrows : ∀ k v, (k, v) ∈ kvB → ∃ rw t t' ow n pl, v = .ref rw ∧ (rw, listOf #[.str (nmOf k) t, .int pl t', .ref ow] n) ∈ R) (n1 : 1 ≤ num) (n3 : num ≤ 3)
    (hat : valueAt kvB num = some (.ref rw)) (hrw : (rw, listOf #[.str nm t, .int (pl : Int) t', .ref ow] n) ∈ R)
    (ret : ∀ h' tk, Fr h₀ L h' m → News h₀ L h' ((bud, buo) :: (bfd, bfo) :: R) → Q (.bool (decide (told = Str.ofString "OLD" ∨ told = Str.ofString "UNKNOWN"))) { s with heap := h', toks := tk }) :
    wpAny (model P0 w) (At 500 1500 gd env outer) (call (.ref 329) [.ref bk, .int num n0, .str told tt, .none]) Q E s := (by exact kept : Kept _ (by
  have hfb : valueAt [(Str.ofString "files", Value.ref bfd), (Str.ofString "units", Value.ref bud)] (Str.ofString "units") = some (.ref bud) := by
    have : Str.ofString "files" ≠ Str.ofString "units" := by decide +kernel
    simp [valueAt, this]
  have hff : valueAt [(Str.ofString "files", Value.ref bfd), (Str.ofString "units", Value.ref bud)] (Str.ofString "files") = some (.ref bfd) := by
    simp [valueAt]
  have hnn : (nm == nm) = true := beq_self_eq_true nm
  refine wpAny_call ?_
  k_dflt k_enter
  k_steps
  all_goals first
  | (rename (told == Str.ofString "SCRATCH") = true => hS
     have hS := beq_iff_eq.mp hS
     subst hS
     rw [show decide (Str.ofString "SCRATCH" = Str.ofString "OLD" ∨ Str.ofString "SCRATCH" = Str.ofString "UNKNOWN") = false from by decide +kernel] at ret
     exact ret _ _ (by k_asm) (news_sub (by k_asm) fun p hp => by k_mem))
  | (rw [show decide (told = Str.ofString "OLD" ∨ told = Str.ofString "UNKNOWN") = [Str.ofString "OLD", Str.ofString "UNKNOWN"].any (· == told) from again_told told] at ret
     exact ret _ _ (by k_asm) (news_sub (by k_asm) fun p hp => by k_mem))))
theorem let_opE {nmOf : Int → Str} {told : Str} {tt xt : Tok}
    (B : Below A₀ base outer h₀) (F : Fr h₀ L s.heap m) (X : (hd.heap_1 w.params).In h₀) (N : News h₀ L s.heap ((bud, buo) :: (bfd, bfo) :: R)) (T : Top view (looseW view []) mean mg mb h₀)
    (hf : env.frame = some L) (hk : env.scope.kind = .function) (hbk : (bk, bo) ∈ R) (hbo : bo.IsDictOf (PySem.strKind P0 w) [(Str.ofString "files", .ref bfd), (Str.ofString "units", .ref bud)])
    (hbuD : buo.IsDictOf (PySem.intKind P0 w) kvB) (hbfD : bfo.IsDictOf (PySem.strKind P0 w) kvBF)
    (hlU : kvB.length < 64) (hlF : kvBF.length < 64) (hR1 : ∀ p ∈ R, p.1 ≠ bud) (hR2 : ∀ p ∈ R, p.1 ≠ bfd) (hne : @Ne Nat bud bfd) (hrows : ∀ k v, (k, v) ∈ kvB → ∃ rw t t' ow n pl, v = .ref rw ∧ (rw, listOf #[.str (nmOf k) t, .int pl t', .ref ow] n) ∈ R) (n1 : 1 ≤ num) (n3 : num ≤ 3)
    (hat : valueAt kvB num = some (.ref rw)) (hrw : (rw, listOf #[.str nm t, .int (pl : Int) t', .ref ow] n) ∈ R)
    (ret : ∀ h' tk, Fr h₀ L h' m → News h₀ L h' ((bud, buo) :: (bfd, bfo) :: R) → Q (.bool (decide (told = Str.ofString "OLD" ∨ told = Str.ofString "UNKNOWN"))) { s with heap := h', toks := tk }) :
    wpAny (model P0 w) (At 500 1500 gd env outer) (call (.ref 329) [.ref bk, .int num n0, .str told tt, .str nm xt]) Q E s := (by exact kept : Kept _ (by
  have hfb : valueAt [(Str.ofString "files", Value.ref bfd), (Str.ofString "units", Value.ref bud)] (Str.ofString "units") = some (.ref bud) := by
    have : Str.ofString "files" ≠ Str.ofString "units" := by decide +kernel
    simp [valueAt, this]
  have hff : valueAt [(Str.ofString "files", Value.ref bfd), (Str.ofString "units", Value.ref bud)] (Str.ofString "files") = some (.ref bfd) := by
    simp [valueAt]
  have hnn : (nm == nm) = true := beq_self_eq_true nm
  refine wpAny_call ?_
  k_dflt k_enter
  k_steps
  all_goals first
  | (rename (told == Str.ofString "SCRATCH") = true => hS
     have hS := beq_iff_eq.mp hS
     subst hS
     rw [show decide (Str.ofString "SCRATCH" = Str.ofString "OLD" ∨ Str.ofString "SCRATCH" = Str.ofString "UNKNOWN") = false from by decide +kernel] at ret
     exact ret _ _ (by k_asm) (news_sub (by k_asm) fun p hp => by k_mem))
  | (rw [show decide (told = Str.ofString "OLD" ∨ told = Str.ofString "UNKNOWN") = [Str.ofString "OLD", Str.ofString "UNKNOWN"].any (· == told) from again_told told] at ret
     exact ret _ _ (by k_asm) (news_sub (by k_asm) fun p hp => by k_mem))))
end
end
section
/-! The book: what its part of the ledger shows. -/
inductive Slot where
  | r (k : Int)
  | o (k : Int)
  | h (x : Str)
def Live (st : St) : Slot → Prop
  | .r k => k ∈ st.ks
  | .o k => k ∈ st.ks
  | .h x => x ∈ st.ns
/-- a unit's row in the book -/
structure RowIn (B : List (Addr × Obj)) (st : St) (kvB : List (Int × Value)) (rw ow : Addr) (k : Int) (t t' : Tok) (n no : Nat) : Prop where
  at_ : valueAt kvB k = some (.ref rw)
  r : (rw, listOf #[.str (st.U k).nm t, .int ((st.U k).pl : Int) t', .ref ow] n) ∈ B
  o : (ow, listOf (st.U k).own.toArray no) ∈ B
inductive RowEx (B : List (Addr × Obj)) (st : St) (kvB : List (Int × Value)) (rw ow : Addr) (k : Int) : Prop where
  | mk (t t' : Tok) (n no : Nat) (v : RowIn B st kvB rw ow k t t' n no) : RowEx B st kvB rw ow k
structure BIn (w : World) (bud bfd : Addr) (B : List (Addr × Obj)) (st : St) (buo bfo : Obj) (kvB : List (Int × Value)) (kvBF : List (Str × Value)) (ad : Slot → Addr) : Prop where
  u : (bud, buo) ∈ B
  f : (bfd, bfo) ∈ B
  uD : buo.IsDictOf (PySem.intKind P0 w) kvB
  fD : bfo.IsDictOf (PySem.strKind P0 w) kvBF
  ku : kvB.map (·.1) = st.ks
  kf : kvBF.map (·.1) = st.ns
  rows : ∀ k ∈ st.ks, RowEx B st kvB (ad (.r k)) (ad (.o k)) k
  files : ∀ x ∈ st.ns, valueAt kvBF x = some (.ref (ad (.h x))) ∧ ∃ n, (ad (.h x), listOf (st.F x).toArray n) ∈ B
  sep : ∀ a b, Live st a → Live st b → ad a = ad b → a = b
  ne : @Ne Nat bud bfd
inductive BInv (w : World) (bud bfd : Addr) (B : List (Addr × Obj)) (st : St) : Prop where
  | mk (buo bfo : Obj) (kvB : List (Int × Value)) (kvBF : List (Str × Value)) (ad : Slot → Addr) (I : BIn w bud bfd B st buo bfo kvB kvBF ad) : BInv w bud bfd B st
section
variable {w : World} {bud bfd : Addr} {B R : List (Addr × Obj)} {st st' : St} {buo bfo buo' bfo' : Obj} {kvB kvB' : List (Int × Value)} {kvBF kvBF' : List (Str × Value)} {ad : Slot → Addr} {bd : Nat} {k : Int} {told : Str} {nm : Option Str}
theorem RowIn.mono {B' : List (Addr × Obj)} {rw ow : Addr} {t t' : Tok} {n no : Nat} (v : RowIn B st kvB rw ow k t t' n no) (h1 : ∀ o, (rw, o) ∈ B → (rw, o) ∈ B') (h2 : ∀ o, (ow, o) ∈ B → (ow, o) ∈ B') (hv : valueAt kvB' k = valueAt kvB k) (hU : st'.U k = st.U k) :
    RowIn B' st' kvB' rw ow k t t' n no := ⟨hv.trans v.at_, by rw [hU]; exact h1 _ v.r, by rw [hU]; exact h2 _ v.o⟩
/-- every slot is a list of the ledger -/
theorem live_list (I : BIn w bud bfd B st buo bfo kvB kvBF ad) : ∀ a, Live st a → ∃ its n, (ad a, listOf its n) ∈ B
  | .r k, h => by obtain ⟨t, t', n, no, v⟩ := I.rows k h; exact ⟨_, _, v.r⟩
  | .o k, h => by obtain ⟨t, t', n, no, v⟩ := I.rows k h; exact ⟨_, _, v.o⟩
  | .h x, h => by obtain ⟨_, n, v⟩ := I.files x h; exact ⟨_, _, v⟩
theorem live_u (I : BIn w bud bfd B st buo bfo kvB kvBF ad) (fn : Fn B) {a : Slot} (h : Live st a) : ad a ≠ bud := fun e => by
  obtain ⟨its, n, hm⟩ := live_list I a h
  exact intDict_list I.uD (fn _ _ _ I.u (e ▸ hm))
theorem live_f (I : BIn w bud bfd B st buo bfo kvB kvBF ad) (fn : Fn B) {a : Slot} (h : Live st a) : ad a ≠ bfd := fun e => by
  obtain ⟨its, n, hm⟩ := live_list I a h
  exact strDict_list I.fD (fn _ _ _ I.f (e ▸ hm))
theorem live_ne (I : BIn w bud bfd B st buo bfo kvB kvBF ad) {a b : Slot} (h : Live st a) (h' : Live st b) (n : a ≠ b) : ad a ≠ ad b := fun e => n (I.sep a b h h' e)
theorem written_own_named (st : St) {k : Int} (r : Value) (h : (st.U k).nm ≠ Str.ofString "") : ((written st k r).U k).own = (st.U k).own := by
  unfold written; rw [if_neg h]; simp only [upd_self]
theorem written_own_scratch (st : St) {k : Int} (r : Value) (h : (st.U k).nm = Str.ofString "") : ((written st k r).U k).own = (st.U k).own.take (st.U k).pl ++ [r] := by
  unfold written; rw [if_pos h]; simp only [upd_self]
theorem live_written {r : Value} {a : Slot} (h : Live (written st k r) a) : Live st a := by
  cases a with
  | r j => have h' : j ∈ (written st k r).ks := h; rw [written_ks] at h'; exact h'
  | o j => have h' : j ∈ (written st k r).ks := h; rw [written_ks] at h'; exact h'
  | h x => have h' : x ∈ (written st k r).ns := h; rw [written_ns] at h'; exact h'
theorem bin_write_named {r : Value} {t t' : Tok} {n n' : Nat} (I : BIn w bud bfd B st buo bfo kvB kvBF ad) (S : SOk st bd) (fn : Fn B) (hk : k ∈ st.ks) (hnm : (st.U k).nm ≠ Str.ofString "") :
    BInv w bud bfd (put (put B (ad (.h (st.U k).nm)) (listOf ((st.F (st.U k).nm).take (st.U k).pl ++ [r]).toArray n')) (ad (.r k)) (listOf #[.str (st.U k).nm t, .int (((st.U k).pl : Int) + 1) t', .ref (ad (.o k))] n)) (written st k r) := by
  have hin : (st.U k).nm ∈ st.ns := S.inn k hk hnm
  have lr : Live st (.r k) := hk
  have lh : Live st (.h (st.U k).nm) := hin
  have keep : ∀ a o, (a, o) ∈ B → a ≠ ad (.r k) → a ≠ ad (.h (st.U k).nm) → (a, o) ∈ put (put B (ad (.h (st.U k).nm)) (listOf ((st.F (st.U k).nm).take (st.U k).pl ++ [r]).toArray n')) (ad (.r k)) (listOf #[.str (st.U k).nm t, .int (((st.U k).pl : Int) + 1) t', .ref (ad (.o k))] n) :=
    fun a o h h1 h2 => mem_put (mem_put h h2) h1
  refine ⟨buo, bfo, kvB, kvBF, ad, keep _ _ I.u (Ne.symm (live_u I fn lr)) (Ne.symm (live_u I fn lh)), keep _ _ I.f (Ne.symm (live_f I fn lr)) (Ne.symm (live_f I fn lh)), I.uD, I.fD, by rw [written_ks]; exact I.ku, by rw [written_ns]; exact I.kf, fun j hj => ?_, fun x hx => ?_, fun a b ha hb => I.sep a b (live_written ha) (live_written hb), I.ne⟩
  · rw [written_ks] at hj
    obtain ⟨t2, t2', n2, no2, v⟩ := I.rows j hj
    by_cases e : j = k
    · subst e
      refine ⟨t, t', n, no2, v.at_, ?_, ?_⟩
      · rw [written_nm, written_pl, Int.natCast_succ]; exact put_self _ _ _
      · rw [written_own_named st r hnm]; exact keep _ _ v.o (live_ne I (a := .o j) (b := .r j) hj hj (fun c => nomatch c)) (live_ne I (a := .o j) (b := .h _) hj hin (fun c => nomatch c))
    · exact ⟨t2, t2', n2, no2, v.mono (fun o ho => keep _ _ ho (live_ne I (a := .r j) (b := .r k) hj hk (fun c => e (Slot.r.inj c))) (live_ne I (a := .r j) (b := .h _) hj hin (fun c => nomatch c)))
        (fun o ho => keep _ _ ho (live_ne I (a := .o j) (b := .r k) hj hk (fun c => nomatch c)) (live_ne I (a := .o j) (b := .h _) hj hin (fun c => nomatch c))) rfl (written_U st r e)⟩
  · rw [written_ns] at hx
    obtain ⟨h1, n2, h2⟩ := I.files x hx
    refine ⟨h1, ?_⟩
    by_cases e : x = (st.U k).nm
    · subst e
      exact ⟨n', by rw [written_at st r hnm]; exact mem_put (put_self _ _ _) (live_ne I (a := .h _) (b := .r k) hin hk (fun c => nomatch c))⟩
    · exact ⟨n2, by rw [written_F st r (.inl e)]; exact keep _ _ h2 (live_ne I (a := .h x) (b := .r k) hx hk (fun c => nomatch c)) (live_ne I (a := .h x) (b := .h _) hx hin (fun c => e (Slot.h.inj c)))⟩
theorem bin_write_scratch {r : Value} {t t' : Tok} {n n' : Nat} (I : BIn w bud bfd B st buo bfo kvB kvBF ad) (fn : Fn B) (hk : k ∈ st.ks) (hnm : (st.U k).nm = Str.ofString "") :
    BInv w bud bfd (put (put B (ad (.o k)) (listOf ((st.U k).own.take (st.U k).pl ++ [r]).toArray n')) (ad (.r k)) (listOf #[.str (st.U k).nm t, .int (((st.U k).pl : Int) + 1) t', .ref (ad (.o k))] n)) (written st k r) := by
  have lr : Live st (.r k) := hk
  have lh : Live st (.o k) := hk
  have keep : ∀ a o, (a, o) ∈ B → a ≠ ad (.r k) → a ≠ ad (.o k) → (a, o) ∈ put (put B (ad (.o k)) (listOf ((st.U k).own.take (st.U k).pl ++ [r]).toArray n')) (ad (.r k)) (listOf #[.str (st.U k).nm t, .int (((st.U k).pl : Int) + 1) t', .ref (ad (.o k))] n) :=
    fun a o h h1 h2 => mem_put (mem_put h h2) h1
  refine ⟨buo, bfo, kvB, kvBF, ad, keep _ _ I.u (Ne.symm (live_u I fn lr)) (Ne.symm (live_u I fn lh)), keep _ _ I.f (Ne.symm (live_f I fn lr)) (Ne.symm (live_f I fn lh)), I.uD, I.fD, by rw [written_ks]; exact I.ku, by rw [written_ns]; exact I.kf, fun j hj => ?_, fun x hx => ?_, fun a b ha hb => I.sep a b (live_written ha) (live_written hb), I.ne⟩
  · rw [written_ks] at hj
    obtain ⟨t2, t2', n2, no2, v⟩ := I.rows j hj
    by_cases e : j = k
    · subst e
      refine ⟨t, t', n, n', v.at_, ?_, ?_⟩
      · rw [written_nm, written_pl, Int.natCast_succ]; exact put_self _ _ _
      · rw [written_own_scratch st r hnm]; exact mem_put (put_self _ _ _) (live_ne I (a := .o j) (b := .r j) hj hj (fun c => nomatch c))
    · exact ⟨t2, t2', n2, no2, v.mono (fun o ho => keep _ _ ho (live_ne I (a := .r j) (b := .r k) hj hk (fun c => e (Slot.r.inj c))) (live_ne I (a := .r j) (b := .o k) hj hk (fun c => nomatch c)))
        (fun o ho => keep _ _ ho (live_ne I (a := .o j) (b := .r k) hj hk (fun c => nomatch c)) (live_ne I (a := .o j) (b := .o k) hj hk (fun c => e (Slot.o.inj c)))) rfl (written_U st r e)⟩
  · rw [written_ns] at hx
    obtain ⟨h1, n2, h2⟩ := I.files x hx
    exact ⟨h1, n2, by rw [written_F st r (.inr hnm)]; exact keep _ _ h2 (live_ne I (a := .h x) (b := .r k) hx hk (fun c => nomatch c)) (live_ne I (a := .h x) (b := .o k) hx hk (fun c => nomatch c))⟩
theorem bin_rewind {t t' : Tok} {n : Nat} (I : BIn w bud bfd B st buo bfo kvB kvBF ad) (fn : Fn B) (hk : k ∈ st.ks) :
    BInv w bud bfd (put B (ad (.r k)) (listOf #[.str (st.U k).nm t, .int 0 t', .ref (ad (.o k))] n)) (rewound st k) := by
  have lr : Live st (.r k) := hk
  refine ⟨buo, bfo, kvB, kvBF, ad, mem_put' I.u (Ne.symm (live_u I fn lr)), mem_put' I.f (Ne.symm (live_f I fn lr)), I.uD, I.fD, I.ku, I.kf, fun j hj => ?_, fun x hx => ?_, fun a b ha hb => I.sep a b (by cases a <;> exact ha) (by cases b <;> exact hb), I.ne⟩
  · obtain ⟨t2, t2', n2, no2, v⟩ := I.rows j hj
    by_cases e : j = k
    · subst e
      refine ⟨t, t', n, no2, v.at_, ?_, ?_⟩
      · unfold rewound; simp only [upd_self]; exact put_self _ _ _
      · unfold rewound; simp only [upd_self]; exact mem_put' v.o (live_ne I (a := .o j) (b := .r j) hj hj (fun c => nomatch c))
    · exact ⟨t2, t2', n2, no2, v.mono (fun o ho => mem_put' ho (live_ne I (a := .r j) (b := .r k) hj hk (fun c => e (Slot.r.inj c)))) (fun o ho => mem_put' ho (live_ne I (a := .o j) (b := .r k) hj hk (fun c => nomatch c))) rfl (by unfold rewound; exact upd_ne _ _ e)⟩
  · obtain ⟨h1, n2, h2⟩ := I.files x hx
    exact ⟨h1, n2, mem_put' h2 (live_ne I (a := .h x) (b := .r k) hx hk (fun c => nomatch c))⟩
theorem bin_close {told : Option Str} (I : BIn w bud bfd B st buo bfo kvB kvBF ad) (fn : Fn B) (hu : buo'.IsDictOf (PySem.intKind P0 w) (without kvB k)) (hf : bfo'.IsDictOf (PySem.strKind P0 w) kvBF')
    (hF : ((st.U k).nm ≠ Str.ofString "" ∧ told = some (Str.ofString "DELETE") ∧ kvBF' = without kvBF (st.U k).nm) ∨ (¬ ((st.U k).nm ≠ Str.ofString "" ∧ told = some (Str.ofString "DELETE")) ∧ kvBF' = kvBF)) :
    BInv w bud bfd (put (put B bfd bfo') bud buo') (closed st k told) := by
  have hns : (closed st k told).ns = if (st.U k).nm ≠ Str.ofString "" ∧ told = some (Str.ofString "DELETE") then st.ns.filter (fun x => decide (x ≠ (st.U k).nm)) else st.ns := rfl
  have hsub : ∀ j, j ∈ st.ks.filter (fun x => decide (x ≠ k)) → j ∈ st.ks ∧ j ≠ k := fun j hj => ⟨(List.mem_filter.mp hj).1, of_decide_eq_true (List.mem_filter.mp hj).2⟩
  have hkf : kvBF'.map (·.1) = (closed st k told).ns := by
    rcases hF with ⟨a, b, rfl⟩ | ⟨a, rfl⟩
    · rw [hns, if_pos ⟨a, b⟩, keys_without, I.kf]
    · rw [hns, if_neg a, I.kf]
  have hvf : ∀ x, x ∈ (closed st k told).ns → x ∈ st.ns ∧ valueAt kvBF' x = valueAt kvBF x := fun x hx => by
    rcases hF with ⟨a, b, rfl⟩ | ⟨a, rfl⟩
    · rw [hns, if_pos ⟨a, b⟩] at hx
      exact ⟨(List.mem_filter.mp hx).1, valueAt_without_ne _ (of_decide_eq_true (List.mem_filter.mp hx).2)⟩
    · rw [hns, if_neg a] at hx
      exact ⟨hx, rfl⟩
  have lv : ∀ a, Live (closed st k told) a → Live st a := fun a h => by
    cases a with
    | r j => exact (hsub j h).1
    | o j => exact (hsub j h).1
    | h x => exact (hvf x h).1
  have keep : ∀ a, Live st a → ∀ o, (ad a, o) ∈ B → (ad a, o) ∈ put (put B bfd bfo') bud buo' := fun a h o ho => mem_put (mem_put ho (live_f I fn h)) (live_u I fn h)
  refine ⟨buo', bfo', _, kvBF', ad, put_self _ _ _, mem_put' (put_self _ _ _) (Ne.symm I.ne), hu, hf, by rw [keys_without, I.ku]; rfl, hkf, fun j hj => ?_, fun x hx => ?_, fun a b ha hb => I.sep a b (lv a ha) (lv b hb), I.ne⟩
  · obtain ⟨t2, t2', n2, no2, v⟩ := I.rows j (hsub j hj).1
    exact ⟨t2, t2', n2, no2, v.mono (keep (.r j) (hsub j hj).1) (keep (.o j) (hsub j hj).1) (valueAt_without_ne _ (hsub j hj).2) rfl⟩
  · obtain ⟨h1, n2, h2⟩ := I.files x (hvf x hx).1
    exact ⟨(hvf x hx).2.trans h1, n2, keep (.h x) (hvf x hx).1 _ h2⟩
theorem bkey_pair {v : Value} (I : BIn w bud bfd B st buo bfo kvB kvBF ad) (h : (k, v) ∈ kvB) : k ∈ st.ks := I.ku ▸ List.mem_map.mpr ⟨_, h, rfl⟩
theorem bpair_key (I : BIn w bud bfd B st buo bfo kvB kvBF ad) (h : k ∈ st.ks) : ∃ v, (k, v) ∈ kvB := by
  obtain ⟨t, t', n, no, v⟩ := I.rows k h
  exact ⟨_, mem_valueAt v.at_⟩
theorem bnodup (I : BIn w bud bfd B st buo bfo kvB kvBF ad) : (kvB.map (·.1)).Nodup := by
  obtain ⟨_, _, _, _, _, h⟩ := I.uD; exact h.2
theorem let_bad {named : Prop} (I : BIn w bud bfd B st buo bfo kvB kvBF ad) (ha : ¬ againP st k nm) (hn : named → nm ≠ none) (h : LetBad told (wanted k nm) named kvB (fun k => (st.U k).nm) kvBF) : openOk st k told nm = false := by
  unfold openOk
  rcases h with ⟨h1, h2⟩ | ⟨ht, h⟩
  · rw [if_pos ⟨h1, hn h2⟩]
  rw [if_neg (fun d => ht d.1), if_neg ha, if_neg ht]
  rcases h with ⟨j, v, h1, h2⟩ | ⟨-, h⟩
  · rw [if_pos (h2 ▸ List.mem_map.mpr ⟨j, bkey_pair I h1, rfl⟩)]
  · split
    · rfl
    · rw [if_pos]
      rcases h with ⟨⟨v, h1⟩, h2⟩ | ⟨h1, h2⟩
      · exact .inl ⟨I.kf ▸ valueAt_key h1, h2⟩
      · refine .inr ⟨fun c => ?_, h2⟩
        obtain ⟨v, e⟩ := valueAt_isSome (kvs := kvBF) (I.kf ▸ c)
        rw [h1] at e; cases e
theorem let_good {nm' : Str} {Rk Y : List (Addr × Obj)} {ow' : Addr} (I : BIn w bud bfd B st buo bfo kvB kvBF ad) (ha : ¬ againP st k nm) (hs : told = Str.ofString "SCRATCH" → nm = none)
    (W : LetGood told (wanted k nm) nm' kvB (fun k => (st.U k).nm) kvBF kvBF' Rk ow' Y) : openOk st k told nm = true := by
  unfold openOk
  rw [if_neg (fun d => d.2 (hs d.1)), if_neg ha]
  split
  · rfl
  · rename_i ht
    rcases W with ⟨h, -⟩ | ⟨-, -, hfree, W⟩
    · exact absurd h ht
    rw [if_neg, if_neg]
    · rintro (⟨c1, c2⟩ | ⟨c1, c2⟩)
      · obtain ⟨v, e⟩ := valueAt_isSome (kvs := kvBF) (I.kf ▸ c1)
        rcases W with ⟨-, h, -⟩ | ⟨h, -⟩
        · exact h c2
        · rw [h] at e; cases e
      · rcases W with ⟨⟨v, h⟩, -⟩ | ⟨-, h, -⟩
        · exact c1 (I.kf ▸ valueAt_key h)
        · exact h c2
    · intro c
      obtain ⟨j, hj, e⟩ := List.mem_map.mp c
      obtain ⟨v, hv⟩ := bpair_key I hj
      exact hfree j v hv e
theorem bin_open {nm' : Str} {Rk Y : List (Addr × Obj)} {ow' rw' : Addr} {t1 t2 : Tok} (I : BIn w bud bfd B st buo bfo kvB kvBF ad) (fn : Fn B)
    (W : LetGood told (wanted k nm) nm' kvB (fun k => (st.U k).nm) kvBF kvBF' Rk ow' Y) (hRk : ∀ p ∈ B, p ∈ Rk) (hu : buo'.IsDictOf (PySem.intKind P0 w) (stored kvB k (.ref rw'))) (hf : bfo'.IsDictOf (PySem.strKind P0 w) kvBF')
    (hlt : ∀ p ∈ Rk, @LT.lt Nat _ p.1 ow') (hrw : @LT.lt Nat _ ow' rw') :
    BInv w bud bfd ((rw', listOf #[.str nm' t1, .int ((0 : Nat) : Int) t2, .ref ow'] 0) :: (ow', listOf #[] 0) :: (Y ++ put (put B bfd bfo') bud buo')) (opened st k told nm) := by
  have keep : ∀ a, Live st a → ∀ o, (ad a, o) ∈ B → (ad a, o) ∈ (rw', listOf #[.str nm' t1, .int ((0 : Nat) : Int) t2, .ref ow'] 0) :: (ow', listOf #[] 0) :: (Y ++ put (put B bfd bfo') bud buo') := fun a h o ho => .tail _ (.tail _ (List.mem_append_right _ (mem_put (mem_put ho (live_f I fn h)) (live_u I fn h))))
  have hY : ∀ p ∈ Y, p ∈ (rw', listOf #[.str nm' t1, .int ((0 : Nat) : Int) t2, .ref ow'] 0) :: (ow', listOf #[] 0) :: (Y ++ put (put B bfd bfo') bud buo') := fun p h => .tail _ (.tail _ (List.mem_append_left _ h))
  have mu : (bud, buo') ∈ (rw', listOf #[.str nm' t1, .int ((0 : Nat) : Int) t2, .ref ow'] 0) :: (ow', listOf #[] 0) :: (Y ++ put (put B bfd bfo') bud buo') := .tail _ (.tail _ (List.mem_append_right _ (put_self _ _ _)))
  have mf : (bfd, bfo') ∈ (rw', listOf #[.str nm' t1, .int ((0 : Nat) : Int) t2, .ref ow'] 0) :: (ow', listOf #[] 0) :: (Y ++ put (put B bfd bfo') bud buo') := .tail _ (.tail _ (List.mem_append_right _ (mem_put' (put_self _ _ _) (Ne.symm I.ne))))
  have m1 : (rw', listOf #[.str nm' t1, .int ((0 : Nat) : Int) t2, .ref ow'] 0) ∈ (rw', listOf #[.str nm' t1, .int ((0 : Nat) : Int) t2, .ref ow'] 0) :: (ow', listOf #[] 0) :: (Y ++ put (put B bfd bfo') bud buo') := .head _
  have m2 : (ow', listOf #[] 0) ∈ (rw', listOf #[.str nm' t1, .int ((0 : Nat) : Int) t2, .ref ow'] 0) :: (ow', listOf #[] 0) :: (Y ++ put (put B bfd bfo') bud buo') := .tail _ (.head _)
  generalize (rw', listOf #[.str nm' t1, .int ((0 : Nat) : Int) t2, .ref ow'] 0) :: (ow', listOf #[] 0) :: (Y ++ put (put B bfd bfo') bud buo') = B' at keep hY mu mf m1 m2
  have old : ∀ a, Live st a → ∀ x, (∀ p ∈ Rk, @LT.lt Nat _ p.1 x) → @LT.lt Nat _ (ad a) x := fun a h x hx => by
    obtain ⟨its, n, hm⟩ := live_list I a h
    exact hx _ (hRk _ hm)
  have cs : ∀ j, j ∈ addK st.ks k → j = k ∨ (j ≠ k ∧ j ∈ st.ks) := fun j hj => by
    by_cases e : j = k
    · exact .inl e
    · exact .inr ⟨e, (mem_addK.mp hj).elim id fun c => absurd c e⟩
  have hku : (stored kvB k (.ref rw')).map (·.1) = addK st.ks k := by rw [keys_stored, I.ku]
  -- the rows, for any state that has them so
  have rows : ∀ (stn : St) (ad' : Slot → Addr), stn.U = upd st.U k ⟨nm', 0, []⟩ → ad' (.r k) = rw' → ad' (.o k) = ow' → (∀ j, j ≠ k → ad' (.r j) = ad (.r j)) → (∀ j, j ≠ k → ad' (.o j) = ad (.o j)) → ∀ j ∈ addK st.ks k, RowEx B' stn (stored kvB k (.ref rw')) (ad' (.r j)) (ad' (.o j)) j := fun stn ad' hU e1 e2 e3 e4 j hj => by
    rcases cs j hj with rfl | ⟨e, hj⟩
    · exact ⟨t1, t2, 0, 0, e1 ▸ valueAt_stored _ _ _, by rw [hU, upd_self, e1, e2]; exact m1, by rw [hU, upd_self, e2]; exact m2⟩
    · obtain ⟨a1, a2, a3, a4, v⟩ := I.rows j hj
      exact ⟨a1, a2, a3, a4, by rw [e3 j e, e4 j e]; exact v.mono (keep (.r j) hj) (keep (.o j) hj) (valueAt_stored_ne _ _ e) (by rw [hU, upd_ne _ _ e])⟩
  let ad0 : Slot → Addr := fun a => match a with | .r j => if j = k then rw' else ad (.r j) | .o j => if j = k then ow' else ad (.o j) | .h x => ad (.h x)
  have s0 : ∀ a b, (∀ j, a = .r j → j ∈ addK st.ks k) → (∀ j, a = .o j → j ∈ addK st.ks k) → (∀ x, a = .h x → x ∈ st.ns) → (∀ j, b = .r j → j ∈ addK st.ks k) → (∀ j, b = .o j → j ∈ addK st.ks k) → (∀ x, b = .h x → x ∈ st.ns) → ad0 a = ad0 b → a = b := by
    have cl : ∀ a, (∀ j, a = .r j → j ∈ addK st.ks k) → (∀ j, a = .o j → j ∈ addK st.ks k) → (∀ x, a = .h x → x ∈ st.ns) → (a = .r k ∧ ad0 a = rw') ∨ (a = .o k ∧ ad0 a = ow') ∨ (Live st a ∧ ad0 a = ad a) := fun a h1 h2 h3 => by
      cases a with
      | r j =>
        rcases cs j (h1 j rfl) with rfl | ⟨e, hj⟩
        · exact .inl ⟨rfl, if_pos rfl⟩
        · exact .inr (.inr ⟨hj, if_neg e⟩)
      | o j =>
        rcases cs j (h2 j rfl) with rfl | ⟨e, hj⟩
        · exact .inr (.inl ⟨rfl, if_pos rfl⟩)
        · exact .inr (.inr ⟨hj, if_neg e⟩)
      | h x => exact .inr (.inr ⟨h3 x rfl, rfl⟩)
    intro a b a1 a2 a3 b1 b2 b3 e
    rcases cl a a1 a2 a3 with ⟨ea, fa⟩ | ⟨ea, fa⟩ | ⟨la, fa⟩ <;> rcases cl b b1 b2 b3 with ⟨eb, fb⟩ | ⟨eb, fb⟩ | ⟨lb, fb⟩ <;> rw [fa, fb] at e
    · rw [ea, eb]
    · exact absurd e (Nat.ne_of_gt hrw)
    · exact absurd e (Nat.ne_of_gt (Nat.lt_trans (old b lb ow' hlt) hrw))
    · exact absurd e (Nat.ne_of_lt hrw)
    · rw [ea, eb]
    · exact absurd e (Nat.ne_of_gt (old b lb ow' hlt))
    · exact absurd e (Nat.ne_of_lt (Nat.lt_trans (old a la ow' hlt) hrw))
    · exact absurd e (Nat.ne_of_lt (old a la ow' hlt))
    · exact I.sep a b la lb e
  rcases W with ⟨ht, rfl, rfl, rfl⟩ | ⟨ht, rfl, hfree, W⟩
  · have hst : opened st k told nm = { st with ks := addK st.ks k, U := upd st.U k ⟨Str.ofString "", 0, []⟩ } := by
      unfold opened
      rw [if_pos ht]
    rw [hst]
    refine ⟨buo', bfo', _, kvBF', ad0, mu, mf, hu, hf, hku, I.kf, rows _ ad0 rfl (if_pos rfl) (if_pos rfl) (fun j e => if_neg e) (fun j e => if_neg e), fun x hx => ?_, fun a b ha hb => s0 a b ?_ ?_ ?_ ?_ ?_ ?_, I.ne⟩
    · obtain ⟨h1, n2, h2⟩ := I.files x hx
      exact ⟨h1, n2, keep (.h x) hx _ h2⟩
    all_goals (intro x e; subst e; assumption)
  rcases W with ⟨⟨v, hv⟩, -, rfl, rfl⟩ | ⟨hv, -, ha', rfl, rfl, hl1, hl2⟩
  · have hin : wanted k nm ∈ st.ns := I.kf ▸ valueAt_key hv
    have hst : opened st k told nm = { st with ks := addK st.ks k, U := upd st.U k ⟨wanted k nm, 0, []⟩ } := by
      unfold opened
      rw [if_neg ht]
      simp only [if_pos hin]
      rw [show addK st.ns (wanted k nm) = st.ns from if_pos hin]
    rw [hst]
    refine ⟨buo', bfo', _, kvBF', ad0, mu, mf, hu, hf, hku, I.kf, rows _ ad0 rfl (if_pos rfl) (if_pos rfl) (fun j e => if_neg e) (fun j e => if_neg e), fun x hx => ?_, fun a b ha hb => s0 a b ?_ ?_ ?_ ?_ ?_ ?_, I.ne⟩
    · obtain ⟨h1, n2, h2⟩ := I.files x hx
      exact ⟨h1, n2, keep (.h x) hx _ h2⟩
    all_goals (intro x e; subst e; assumption)
  · have hnin : wanted k nm ∉ st.ns := fun c => by
      obtain ⟨v, e⟩ := valueAt_isSome (kvs := kvBF) (I.kf ▸ c)
      rw [hv] at e; cases e
    have hst : opened st k told nm = ⟨addK st.ks k, upd st.U k ⟨wanted k nm, 0, []⟩, addK st.ns (wanted k nm), upd st.F (wanted k nm) []⟩ := by
      unfold opened
      rw [if_neg ht]
      simp only [if_neg hnin]
    rw [hst]
    let ad1 : Slot → Addr := fun a => match a with | .r j => ad0 (.r j) | .o j => ad0 (.o j) | .h x => if x = wanted k nm then ha' else ad (.h x)
    have hoi : ∀ x, x ∈ st.ns → x ≠ wanted k nm := fun x hx c => hnin (c ▸ hx)
    refine ⟨buo', bfo', _, _, ad1, mu, mf, hu, hf, hku, by rw [keys_stored, I.kf], rows _ ad1 rfl (if_pos rfl) (if_pos rfl) (fun j e => if_neg e) (fun j e => if_neg e), fun x hx => ?_, ?_, I.ne⟩
    · by_cases e : x = wanted k nm
      · subst e
        have e1 : ad1 (.h (wanted k nm)) = ha' := if_pos rfl
        refine ⟨e1 ▸ valueAt_stored _ _ _, 0, ?_⟩
        rw [e1]
        show (ha', listOf (upd st.F (wanted k nm) [] (wanted k nm)).toArray 0) ∈ B'
        rw [upd_self]; exact hY _ (.head _)
      · have hx' := (mem_addK.mp hx).resolve_right e
        obtain ⟨h1, n2, h2⟩ := I.files x hx'
        have e1 : ad1 (.h x) = ad (.h x) := if_neg e
        rw [e1]
        refine ⟨(valueAt_stored_ne _ _ e).trans h1, n2, ?_⟩
        show (ad (.h x), listOf (upd st.F (wanted k nm) [] x).toArray n2) ∈ B'
        rw [upd_ne _ _ e]; exact keep (.h x) hx' _ h2
    · have cl : ∀ a, Live ⟨addK st.ks k, upd st.U k ⟨wanted k nm, 0, []⟩, addK st.ns (wanted k nm), upd st.F (wanted k nm) []⟩ a → (a = .h (wanted k nm) ∧ ad1 a = ha') ∨ (ad1 a = ad0 a ∧ @Ne Nat (ad0 a) ha' ∧ (∀ j, a = .r j → j ∈ addK st.ks k) ∧ (∀ j, a = .o j → j ∈ addK st.ks k) ∧ (∀ x, a = .h x → x ∈ st.ns)) := fun a h => by
        cases a with
        | r j =>
          refine .inr ⟨rfl, ?_, (fun i e => by cases e; exact h), (fun i e => by cases e), (fun i e => by cases e)⟩
          rcases cs j h with rfl | ⟨e, hj⟩
          · have : ad0 (.r j) = rw' := if_pos rfl
            rw [this]; exact Nat.ne_of_gt (Nat.lt_trans hl1 hrw)
          · have : ad0 (.r j) = ad (.r j) := if_neg e
            rw [this]; exact Nat.ne_of_lt (old (.r j) hj ha' hl2)
        | o j =>
          refine .inr ⟨rfl, ?_, (fun i e => by cases e), (fun i e => by cases e; exact h), (fun i e => by cases e)⟩
          rcases cs j h with rfl | ⟨e, hj⟩
          · have : ad0 (.o j) = ow' := if_pos rfl
            rw [this]; exact Nat.ne_of_gt hl1
          · have : ad0 (.o j) = ad (.o j) := if_neg e
            rw [this]; exact Nat.ne_of_lt (old (.o j) hj ha' hl2)
        | h x =>
          by_cases e : x = wanted k nm
          · subst e; exact .inl ⟨rfl, if_pos rfl⟩
          · have hx' := (mem_addK.mp h).resolve_right e
            exact .inr ⟨if_neg e, Nat.ne_of_lt (old (.h x) hx' ha' hl2), (fun i e => by cases e), (fun i e => by cases e), (fun i e => by cases e; exact hx')⟩
      intro a b ha hb e
      rcases cl a ha with ⟨ea, fa⟩ | ⟨fa, na, a1, a2, a3⟩ <;> rcases cl b hb with ⟨eb, fb⟩ | ⟨fb, nb, b1, b2, b3⟩ <;> rw [fa, fb] at e
      · rw [ea, eb]
      · exact absurd e.symm nb
      · exact absurd e na
      · exact s0 a b a1 a2 a3 b1 b2 b3 e
end
end
theorem words_again_LetAll : True := by
  k_with_none
  k_with "spliced" => (first | (k_here; k_dflt (first | refine args_cons ?_ | refine args_nil ⟨Fr.keep (by assumption) _ _ (by assumption), ?_⟩ | (refine args_nil ?_; try simp only [List.cons_append, List.nil_append]))) | fail)
  k_with "setItem ref int" => (first | (k_extra "setItem ref") | fail)
  k_with "subscriptTail Name" => (first | (k_extra "subscriptTail") | fail)
  k_with "subscriptTail Subscript" => (first | (first | k_extra "subscriptTail" | (k_here; kda_here; first | ((with_reducible show wpAny _ _ (subscriptTail _ _ (Value.ref _) (Value.str _ _)) _ _ _); k_dflt (refine kdt_tail (knd := PySem.strKind _ _) (by k_asm) (by k_mem) (by k_asm) ?_)) | ((with_reducible show wpAny _ _ (subscriptTail _ _ (Value.ref _) (Value.int _ _)) _ _ _); k_dflt (refine kdt_tail (knd := PySem.intKind _ _) (by k_asm) (by k_mem) (by k_asm) ?_)))) | fail)
  k_with "cj" => (first | (first | assumption | exact And.left (by assumption) | exact And.right (by assumption) | exact And.left (And.right (by assumption)) | exact And.right (And.right (by assumption)) | exact And.left (And.right (And.right (by assumption))) | exact And.right (And.right (And.right (by assumption))) | exact And.left (And.right (And.right (And.right (by assumption)))) | exact And.right (And.right (And.right (And.right (by assumption)))) | exact And.left (And.right (And.right (And.right (And.right (by assumption))))) | exact And.right (And.right (And.right (And.right (And.right (by assumption))))) | exact And.left (And.right (And.right (And.right (And.right (And.right (by assumption)))))) | exact And.right (And.right (And.right (And.right (And.right (And.right (by assumption)))))) | exact And.left (And.right (And.right (And.right (And.right (And.right (And.right (by assumption))))))) | exact And.right (And.right (And.right (And.right (And.right (And.right (And.right (by assumption))))))) | exact And.left (And.right (And.right (And.right (And.right (And.right (And.right (And.right (by assumption)))))))) | exact And.right (And.right (And.right (And.right (And.right (And.right (And.right (And.right (by assumption)))))))) | exact And.left (And.right (And.right (And.right (And.right (And.right (And.right (And.right (And.right (by assumption))))))))) | exact And.right (And.right (And.right (And.right (And.right (And.right (And.right (And.right (And.right (by assumption))))))))) | exact And.left (And.right (And.right (And.right (And.right (And.right (And.right (And.right (And.right (And.right (by assumption)))))))))) | exact And.right (And.right (And.right (And.right (And.right (And.right (And.right (And.right (And.right (And.right (by assumption)))))))))) | exact And.left (And.right (And.right (And.right (And.right (And.right (And.right (And.right (And.right (And.right (And.right (by assumption))))))))))) | exact And.right (And.right (And.right (And.right (And.right (And.right (And.right (And.right (And.right (And.right (And.right (by assumption))))))))))) | exact And.left (And.right (And.right (And.right (And.right (And.right (And.right (And.right (And.right (And.right (And.right (And.right (by assumption)))))))))))) | exact And.right (And.right (And.right (And.right (And.right (And.right (And.right (And.right (And.right (And.right (And.right (And.right (by assumption)))))))))))) | exact And.left (And.right (And.right (And.right (And.right (And.right (And.right (And.right (And.right (And.right (And.right (And.right (And.right (by assumption))))))))))))) | exact And.right (And.right (And.right (And.right (And.right (And.right (And.right (And.right (And.right (And.right (And.right (And.right (And.right (by assumption))))))))))))) | exact And.left (And.right (And.right (And.right (And.right (And.right (And.right (And.right (And.right (And.right (And.right (And.right (And.right (And.right (by assumption)))))))))))))) | exact And.right (And.right (And.right (And.right (And.right (And.right (And.right (And.right (And.right (And.right (And.right (And.right (And.right (And.right (by assumption)))))))))))))) | exact And.left (And.right (And.right (And.right (And.right (And.right (And.right (And.right (And.right (And.right (And.right (And.right (And.right (And.right (And.right (by assumption))))))))))))))) | exact And.right (And.right (And.right (And.right (And.right (And.right (And.right (And.right (And.right (And.right (And.right (And.right (And.right (And.right (And.right (by assumption)))))))))))))))) | fail)
  k_with "om" => (first | (first | ((repeat ((with_reducible rename _ ∧ _ => hz9); clear hz9)); (repeat ((with_reducible rename @Ne _ _ _ => hz9); clear hz9)); omega) | ((repeat ((with_reducible rename @Ne _ _ _ ∧ _ => hz9); clear hz9)); (repeat ((with_reducible rename (_ ∧ _) ∧ _ => hz9); clear hz9)); (repeat ((with_reducible rename @Ne _ _ _ => hz9); clear hz9)); omega) | omega) | fail)
  k_with "k_ne" => (first | (refine neN ?_; (try dsimp only); (first | with_reducible assumption | ((repeat ((with_reducible rename @Ne _ _ _ ∧ _ => hz9); clear hz9)); (repeat ((with_reducible rename (_ ∧ _) ∧ _ => hz9); clear hz9)); (repeat ((with_reducible rename @Ne _ _ _ => hz9); clear hz9)); omega) | with_reducible (first | exact Ne.symm (by assumption) | exact Nat.ne_of_lt (by k_extra "cj") | exact Nat.ne_of_gt (by k_extra "cj") | (k_extra "cj") | exact Ne.symm (by k_extra "cj")) | omega)) | fail)
  k_with "k_enter" => (first | (refine' q_def ?qzk1 ?qzk2 ?qzk3 ?qzk4 ?qzk5 ?qzkA ?qzkF ?qzkK ?qzk6 ?qzk7 ?qzk8 ?qzk9 ?qzkB ?_ ?qzc2 ?qzc3 ?qzc4 ?qzc5; (case qzkA => exact rfl); (case qzkF => first | assumption | exact rfl); (case qzkK => first | assumption | exact rfl); (case qzk1 => k_asm); (case qzk2 => k_asm); (case qzk3 => k_asm); (case qzk4 => k_asm); (case qzk5 => k_asm); (case qzk6 => k_is); (case qzk7 => k_is); (case qzk8 => exact Nat.le_of_ble_eq_true rfl); (case qzk9 => first | ((with_reducible show BindsTo _ _ (Args.mk [_, _] []) _); exact bt2 rfl) | ((with_reducible show BindsTo _ _ (Args.mk [_] []) _); exact bt1 rfl) | ((with_reducible show BindsTo _ _ (Args.mk [_, _, _] []) _); exact bt3 rfl) | ((with_reducible show BindsTo _ _ (Args.mk [_, _, _, _] []) _); exact bt4 rfl) | ((with_reducible show BindsTo _ _ (Args.mk [_, _, _, _, _] []) _); exact bt5 rfl) | ((with_reducible show BindsTo _ _ (Args.mk [_, _, _, _, _, _] []) _); exact bt6 rfl) | ((with_reducible show BindsTo _ _ (Args.mk [] []) _); exact bt0 rfl) | exact BindsTo.of_eq rfl); (case qzc5 => decide); (case qzkB => exact locs rfl); (case qzc2 => exact rfl); (case qzc3 => exact rfl); (case qzc4 => exact rfl); k_whole; intro _ _ _ _ _ _ _ _ _ _ _ _ _ _ _; (try dsimp only); (try k_fold)) | fail)
  k_with "k_all" => (first | ((fail_if_success (with_reducible refine List.forall_mem_cons.mpr ?_)); (first | with_reducible (first | exact ne_allLt (by assumption) | exact ne_allLt (And.right (by assumption)) | exact ne_allLt (And.right (And.right (by assumption))) | exact ne_allLt (And.right (And.right (And.right (by assumption)))) | exact ne_allLt (And.right (And.right (And.right (And.right (by assumption))))) | exact ne_allLt (And.right (And.right (And.right (And.right (And.right (by assumption)))))) | exact ne_allLt (And.right (And.right (And.right (And.right (And.right (And.right (by assumption))))))) | exact ne_allLt (And.right (And.right (And.right (And.right (And.right (And.right (And.right (by assumption)))))))) | exact ne_allLt (And.right (And.right (And.right (And.right (And.right (And.right (And.right (And.right (by assumption))))))))) | exact ne_allLt (And.right (And.right (And.right (And.right (And.right (And.right (And.right (And.right (And.right (by assumption)))))))))) | exact ne_allLt (And.right (And.right (And.right (And.right (And.right (And.right (And.right (And.right (And.right (And.right (by assumption))))))))))) | exact ne_allLt (And.right (And.right (And.right (And.right (And.right (And.right (And.right (And.right (And.right (And.right (And.right (by assumption)))))))))))) | exact ne_allLt (And.right (And.right (And.right (And.right (And.right (And.right (And.right (And.right (And.right (And.right (And.right (And.right (by assumption))))))))))))) | exact ne_allLt (And.right (And.right (And.right (And.right (And.right (And.right (And.right (And.right (And.right (And.right (And.right (And.right (And.right (by assumption)))))))))))))) | exact ne_allLt (And.right (And.right (And.right (And.right (And.right (And.right (And.right (And.right (And.right (And.right (And.right (And.right (And.right (And.right (by assumption)))))))))))))))) | (first | exact ne_allLt (by assumption) | exact ne_allLt (And.right (by assumption)) | exact ne_allLt (And.right (And.right (by assumption))) | exact ne_allLt (And.right (And.right (And.right (by assumption)))) | exact ne_allLt (And.right (And.right (And.right (And.right (by assumption))))) | exact ne_allLt (And.right (And.right (And.right (And.right (And.right (by assumption)))))) | exact ne_allLt (And.right (And.right (And.right (And.right (And.right (And.right (by assumption))))))) | exact ne_allLt (And.right (And.right (And.right (And.right (And.right (And.right (And.right (by assumption)))))))) | exact ne_allLt (And.right (And.right (And.right (And.right (And.right (And.right (And.right (And.right (by assumption))))))))) | exact ne_allLt (And.right (And.right (And.right (And.right (And.right (And.right (And.right (And.right (And.right (by assumption)))))))))) | exact ne_allLt (And.right (And.right (And.right (And.right (And.right (And.right (And.right (And.right (And.right (And.right (by assumption))))))))))) | exact ne_allLt (And.right (And.right (And.right (And.right (And.right (And.right (And.right (And.right (And.right (And.right (And.right (by assumption)))))))))))) | exact ne_allLt (And.right (And.right (And.right (And.right (And.right (And.right (And.right (And.right (And.right (And.right (And.right (And.right (by assumption))))))))))))) | exact ne_allLt (And.right (And.right (And.right (And.right (And.right (And.right (And.right (And.right (And.right (And.right (And.right (And.right (And.right (by assumption)))))))))))))) | exact ne_allLt (And.right (And.right (And.right (And.right (And.right (And.right (And.right (And.right (And.right (And.right (And.right (And.right (And.right (And.right (by assumption)))))))))))))))))) | fail)
  k_with "k_all" => (first | ((fail_if_success (with_reducible refine List.forall_mem_cons.mpr ?_)); (first | with_reducible assumption | assumption)) | fail)
  k_with "k_all" => (first | (refine' ne_cons_of ?qzyh ?qzyg; (case qzyh => with_reducible assumption); (case qzyg => exact id)) | fail)
  k_with "k_mem" => (first | (first | exact List.Mem.head _ | (refine List.mem_cons_of_mem _ ?_; (first | exact List.Mem.head _ | (refine List.mem_cons_of_mem _ ?_; (first | exact List.Mem.head _ | (refine List.mem_cons_of_mem _ ?_; (first | exact List.Mem.head _ | (refine List.mem_cons_of_mem _ ?_; (first | exact List.Mem.head _ | (refine List.mem_cons_of_mem _ ?_; (first | exact List.Mem.head _ | (refine List.mem_cons_of_mem _ ?_; (first | exact List.Mem.head _ | (refine List.mem_cons_of_mem _ ?_; (first | exact List.Mem.head _ | (refine List.mem_cons_of_mem _ ?_; (first | exact List.Mem.head _ | (refine List.mem_cons_of_mem _ ?_; (first | exact List.Mem.head _ | (refine List.mem_cons_of_mem _ ?_; (first | exact List.Mem.head _ | (refine List.mem_cons_of_mem _ ?_; (first | exact List.Mem.head _ | (refine List.mem_cons_of_mem _ ?_; (first | exact List.Mem.head _ | (refine List.mem_cons_of_mem _ ?_; (first | exact List.Mem.head _ | (refine List.mem_cons_of_mem _ ?_; (first | exact List.Mem.head _ | (refine List.mem_cons_of_mem _ ?_; (first | exact List.Mem.head _ | (refine List.mem_cons_of_mem _ ?_; (first | exact List.Mem.head _ | (refine List.mem_cons_of_mem _ ?_; (first | exact List.Mem.head _ | (refine List.mem_cons_of_mem _ ?_; (first | exact List.Mem.head _ | (refine List.mem_cons_of_mem _ ?_; (first | exact List.Mem.head _ | (refine List.mem_cons_of_mem _ ?_; (first | exact List.Mem.head _ | assumption)) | assumption)) | assumption)) | assumption)) | assumption)) | assumption)) | assumption)) | assumption)) | assumption)) | assumption)) | assumption)) | assumption)) | assumption)) | assumption)) | assumption)) | assumption)) | assumption)) | assumption)) | assumption)) | assumption)) | assumption) | fail)
  k_with "eval Name" => (first | (k_here; (with_reducible refine' q_name ?qza ?qzb ?qzc ?qzF ?qzv ?_); k_dflt ((case qzF => k_asm); (case qzc => exact fun _ _ => rfl); (case qzv => rfl); (case qza => rfl); (case qzb => decide); k_whole)) | fail)
  k_with "storeName" => (first | (k_here; (with_reducible refine' q_store ?qza ?qzb ?qzF ?qzN ?_); k_dflt ((case qzF => k_asm); (case qzN => k_asm); (case qzb => exact fun _ _ => rfl); (case qza => rfl); k_whole; intro _ _ _ _; (try k_sweep))) | fail)
  k_with "eval Constant str" => (first | (k_here; with_reducible refine q_str ?_) | fail)
  k_with "eval Constant int" => (first | (k_here; with_reducible refine q_int ?_) | fail)
  k_with "spliced" => (first | (k_here; (with_reducible refine args_nil ?_); (try dsimp only [List.cons_append, List.nil_append])) | fail)
  k_with "spliced" => (first | (k_here; with_reducible refine q_args ?_) | fail)
  k_with "spliced" => (first | (k_here; (with_reducible refine' q_arg ?qza ?qzb ?qzc ?qzF ?qzv ?_); k_dflt ((case qzF => k_asm); (case qzc => exact fun _ _ => rfl); (case qzv => rfl); (case qza => rfl); (case qzb => decide); k_whole)) | fail)
  k_with "spliced" => (first | (k_here; (with_reducible refine' q_arg1 ?qza ?qzb ?qzc ?qzF ?qzv ?_); k_dflt ((case qzF => k_asm); (case qzc => exact fun _ _ => rfl); (case qzv => rfl); (case qza => rfl); (case qzb => decide); k_whole); (try dsimp only [List.cons_append, List.nil_append])) | fail)
  k_with "execs cons" => (first | (k_here; (try k_gentoks); (first | ((with_reducible refine q_assign ?qzhs ?_); (fail_if_success with_reducible show wpAny _ _ (eval (PySem.Expr.ListComp _ _ _ _) _) _ _ _); (case qzhs => with_unfolding_all rfl)) | with_reducible refine q_return ?_ | with_reducible refine q_if ?_); (try dsimp only); (try k_fold)) | fail)
  k_with "getAttr ref" => (first | (k_here; (with_reducible refine' q_own ?qzk1 ?qzk2 ?qzk3 ?qzk4 ?qzk5 ?qzk6 ?qzk7 ?qzk8 ?qzk9 ?_); k_dflt ((case qzk1 => k_asm); (case qzk2 => k_asm); (case qzk3 => k_inst); (case qzk4 => k_is); (case qzk5 => k_is); (case qzk6 => k_is); (case qzk7 => k_is); (case qzk8 => k_get); (case qzk9 => k_handed); k_whole)) | fail)
  k_with "TurnEnd cons ret" => (first | (k_here; dsimp only [TurnEnd]) | fail)
  k_with "spliced" => (first | (k_here; (with_reducible refine' q_sargs ?qzhk ?qzF ?qzz ?qzS ?_); k_dflt ((case qzhk => rfl); (case qzF => k_asm); (case qzz => exact fun _ _ => rfl); (case qzS => exact rfl); k_whole); (try dsimp only [List.cons_append, List.nil_append])) | fail)
  k_with "eval Call" => (first | (k_here; (with_reducible refine' q_gcall ?qzhk ?qzF ?qzX ?qzT ?qzhx ?qzhd ?qzhv ?qzhf ?qzz ?qzS ?_); k_dflt ((case qzhk => rfl); (case qzF => k_asm); (case qzz => exact fun _ _ => rfl); (case qzS => exact rfl); (case qzX => k_asm); (case qzT => assumption); (case qzhx => exact fun _ _ => rfl); (case qzhd => decide); (case qzhv => k_is); (case qzhf => k_is); k_whole)) | fail)
  k_with "isTrue Compare" => (first | (k_here; (with_reducible refine' q_cmps ?qzhm ?qzhk ?qzF ?qzz ?qzS ?_); k_dflt ((case qzhk => rfl); (case qzF => k_asm); (case qzz => exact fun _ _ => rfl); (case qzS => exact rfl); (case qzhm => with_unfolding_all rfl); k_whole)) | fail)
  k_with "eval Subscript" => (first | (k_here; (with_reducible refine' q_sub ?qzhk ?qzF ?qzz ?qzS ?_); k_dflt ((case qzhk => rfl); (case qzF => k_asm); (case qzz => exact fun _ _ => rfl); (case qzS => exact rfl); k_whole)) | fail)
  k_with "execs cons" => (first | (k_here; (try k_gentoks); (with_reducible refine' q_rets ?qzhk ?qzF ?qzz ?qzS ?_); k_dflt ((case qzhk => rfl); (case qzF => k_asm); (case qzz => exact fun _ _ => rfl); (case qzS => exact rfl); k_whole); (try dsimp only); (try k_fold)) | fail)
  k_with "eval Attribute Name" => (first | (k_here; (with_reducible refine' q_attr ?qzhk ?qzF ?qzz ?qzS ?_); k_dflt ((case qzhk => rfl); (case qzF => k_asm); (case qzz => exact fun _ _ => rfl); (case qzS => exact rfl); k_whole)) | fail)
  k_with "getMethod ref" => (first | (k_here; (with_reducible show wpAny _ _ (getMethod (Value.ref _) (Str.ofString "get") _) _ _ _); k_dflt (first | (refine' kdg_method (knd := PySem.strKind _ _) ?qzN ?qzm ?qzd ?_; (case qzN => k_asm); (case qzm => k_mem); (case qzd => k_asm); k_whole) | (refine' kdg_method (knd := PySem.intKind _ _) ?qzN ?qzm ?qzd ?_; (case qzN => k_asm); (case qzm => k_mem); (case qzd => k_asm); k_whole))) | fail)
  k_with "getMethod ref" => (first | (k_here; (with_reducible show wpAny _ _ (getMethod (Value.ref _) (Str.ofString "pop") _) _ _ _); k_dflt (first | (refine' kob_method (knd := PySem.strKind _ _) PySem.F.slot_dict_pop PySem.F.type_dict_pop ?qzN ?qzm ?qzd ?_; (case qzN => k_asm); (case qzm => k_mem); (case qzd => k_asm); k_whole) | (refine' kob_method (knd := PySem.intKind _ _) PySem.F.slot_dict_pop PySem.F.type_dict_pop ?qzN ?qzm ?qzd ?_; (case qzN => k_asm); (case qzm => k_mem); (case qzd => k_asm); k_whole))) | fail)
  k_with "getMethod ref" => (first | (k_here; (with_reducible show wpAny _ _ (getMethod (Value.ref _) (Str.ofString "setdefault") _) _ _ _); k_dflt (first | (refine' kob_method (knd := PySem.strKind _ _) PySem.F.slot_dict_setdefault PySem.F.type_dict_setdefault ?qzN ?qzm ?qzd ?_; (case qzN => k_asm); (case qzm => k_mem); (case qzd => k_asm); k_whole) | (refine' kob_method (knd := PySem.intKind _ _) PySem.F.slot_dict_setdefault PySem.F.type_dict_setdefault ?qzN ?qzm ?qzd ?_; (case qzN => k_asm); (case qzm => k_mem); (case qzd => k_asm); k_whole))) | fail)
  k_with "call builtin:dict.get" => (first | (k_here; (with_reducible show wpAny _ _ (call _ [_, _, _]) _ _ _); k_dflt (first | (refine' q_get2 (knd := PySem.strKind _ _) ?qzN ?qzm ?qzd ?qzlo ?qzk _ ?qzl ?_; (case qzN => k_asm); (case qzm => k_mem); (case qzd => k_asm); (case qzlo => exact lo_of (by k_asm) (by k_asm) (by k_mem)); (case qzk => exact strKind_is _ _ _ _); (case qzl => first | assumption | exact rfl); k_whole) | (refine' q_get2 (knd := PySem.intKind _ _) ?qzN ?qzm ?qzd ?qzlo ?qzk _ ?qzl ?_; (case qzN => k_asm); (case qzm => k_mem); (case qzd => k_asm); (case qzlo => exact lo_of (by k_asm) (by k_asm) (by k_mem)); (case qzk => exact intKind_is _ _ _ _); (case qzl => first | assumption | exact rfl); k_whole)); (try dsimp only [Option.getD])) | fail)
  k_with "call builtin:dict.get" => (first | (k_here; (with_reducible show wpAny _ _ (call _ [_, _]) _ _ _); k_dflt (first | (refine' q_get1 (knd := PySem.strKind _ _) ?qzN ?qzm ?qzd ?qzlo ?qzk _ ?qzl ?_; (case qzN => k_asm); (case qzm => k_mem); (case qzd => k_asm); (case qzlo => exact lo_of (by k_asm) (by k_asm) (by k_mem)); (case qzk => exact strKind_is _ _ _ _); (case qzl => first | assumption | exact rfl); k_whole) | (refine' q_get1 (knd := PySem.intKind _ _) ?qzN ?qzm ?qzd ?qzlo ?qzk _ ?qzl ?_; (case qzN => k_asm); (case qzm => k_mem); (case qzd => k_asm); (case qzlo => exact lo_of (by k_asm) (by k_asm) (by k_mem)); (case qzk => exact intKind_is _ _ _ _); (case qzl => first | assumption | exact rfl); k_whole)); (try dsimp only [Option.getD])) | fail)
  k_with "subscriptTail" => (first | (k_here; (with_reducible first | show wpAny _ _ (subscriptTail _ _ (Value.ref _) (Value.str _ _)) _ _ _ | show wpAny _ _ (subscriptTail _ _ (Value.ref _) (Value.int _ _)) _ _ _); k_dflt (first | (refine' q_item (knd := PySem.strKind _ _) ?qzN ?qzm ?qzd ?qzk ?qzl ?_ ?qza ?qzb; (case qzN => k_asm); (case qzm => k_mem); (case qzd => k_asm); (case qzk => exact strKind_is _ _ _ _); (case qzl => first | assumption | exact valueAt_stored _ _ _ | exact rfl); (case qza => with_unfolding_all rfl); (case qzb => intro _; with_unfolding_all rfl); k_whole) | (refine' q_item (knd := PySem.intKind _ _) ?qzN ?qzm ?qzd ?qzk ?qzl ?_ ?qza ?qzb; (case qzN => k_asm); (case qzm => k_mem); (case qzd => k_asm); (case qzk => exact intKind_is _ _ _ _); (case qzl => first | assumption | exact valueAt_stored _ _ _ | exact rfl); (case qza => with_unfolding_all rfl); (case qzb => intro _; with_unfolding_all rfl); k_whole))) | fail)
  k_with "compareOp In str ref" => (first | (k_here; (with_reducible first | show wpAny _ _ (compareOp _ (Value.str _ _) (Value.ref _)) _ _ _ | show wpAny _ _ (compareOp _ (Value.int _ _) (Value.ref _)) _ _ _); k_dflt (first | (refine' q_in (knd := PySem.strKind _ _) ?qzN ?qzm ?qzd ?qzlo ?qzk _ ?qzl ?_; (case qzN => k_asm); (case qzm => k_mem); (case qzd => k_asm); (case qzlo => exact lo_of (by k_asm) (by k_asm) (by k_mem)); (case qzk => exact strKind_is _ _ _ _); (case qzl => first | (refine' some_is ?qzhs; (case qzhs => assumption)) | (refine' none_is ?qzhs; (case qzhs => assumption)) | exact rfl); k_whole) | (refine' q_in (knd := PySem.intKind _ _) ?qzN ?qzm ?qzd ?qzlo ?qzk _ ?qzl ?_; (case qzN => k_asm); (case qzm => k_mem); (case qzd => k_asm); (case qzlo => exact lo_of (by k_asm) (by k_asm) (by k_mem)); (case qzk => exact intKind_is _ _ _ _); (case qzl => first | (refine' some_is ?qzhs; (case qzhs => assumption)) | (refine' none_is ?qzhs; (case qzhs => assumption)) | exact rfl); k_whole))) | fail)
  k_with "compareOp In int ref" => (first | (k_here; (with_reducible first | show wpAny _ _ (compareOp _ (Value.str _ _) (Value.ref _)) _ _ _ | show wpAny _ _ (compareOp _ (Value.int _ _) (Value.ref _)) _ _ _); k_dflt (first | (refine' q_in (knd := PySem.strKind _ _) ?qzN ?qzm ?qzd ?qzlo ?qzk _ ?qzl ?_; (case qzN => k_asm); (case qzm => k_mem); (case qzd => k_asm); (case qzlo => exact lo_of (by k_asm) (by k_asm) (by k_mem)); (case qzk => exact strKind_is _ _ _ _); (case qzl => first | (refine' some_is ?qzhs; (case qzhs => assumption)) | (refine' none_is ?qzhs; (case qzhs => assumption)) | exact rfl); k_whole) | (refine' q_in (knd := PySem.intKind _ _) ?qzN ?qzm ?qzd ?qzlo ?qzk _ ?qzl ?_; (case qzN => k_asm); (case qzm => k_mem); (case qzd => k_asm); (case qzlo => exact lo_of (by k_asm) (by k_asm) (by k_mem)); (case qzk => exact intKind_is _ _ _ _); (case qzl => first | (refine' some_is ?qzhs; (case qzhs => assumption)) | (refine' none_is ?qzhs; (case qzhs => assumption)) | exact rfl); k_whole))) | fail)
  k_with "compareOp NotIn str ref" => (first | (k_here; (with_reducible first | show wpAny _ _ (compareOp _ (Value.str _ _) (Value.ref _)) _ _ _ | show wpAny _ _ (compareOp _ (Value.int _ _) (Value.ref _)) _ _ _); k_dflt (first | (refine' q_notin (knd := PySem.strKind _ _) ?qzN ?qzm ?qzd ?qzlo ?qzk _ ?qzl ?_; (case qzN => k_asm); (case qzm => k_mem); (case qzd => k_asm); (case qzlo => exact lo_of (by k_asm) (by k_asm) (by k_mem)); (case qzk => exact strKind_is _ _ _ _); (case qzl => first | (refine' some_is ?qzhs; (case qzhs => assumption)) | (refine' none_is ?qzhs; (case qzhs => assumption)) | exact rfl); k_whole) | (refine' q_notin (knd := PySem.intKind _ _) ?qzN ?qzm ?qzd ?qzlo ?qzk _ ?qzl ?_; (case qzN => k_asm); (case qzm => k_mem); (case qzd => k_asm); (case qzlo => exact lo_of (by k_asm) (by k_asm) (by k_mem)); (case qzk => exact intKind_is _ _ _ _); (case qzl => first | (refine' some_is ?qzhs; (case qzhs => assumption)) | (refine' none_is ?qzhs; (case qzhs => assumption)) | exact rfl); k_whole))) | fail)
  k_with "compareOp NotIn int ref" => (first | (k_here; (with_reducible first | show wpAny _ _ (compareOp _ (Value.str _ _) (Value.ref _)) _ _ _ | show wpAny _ _ (compareOp _ (Value.int _ _) (Value.ref _)) _ _ _); k_dflt (first | (refine' q_notin (knd := PySem.strKind _ _) ?qzN ?qzm ?qzd ?qzlo ?qzk _ ?qzl ?_; (case qzN => k_asm); (case qzm => k_mem); (case qzd => k_asm); (case qzlo => exact lo_of (by k_asm) (by k_asm) (by k_mem)); (case qzk => exact strKind_is _ _ _ _); (case qzl => first | (refine' some_is ?qzhs; (case qzhs => assumption)) | (refine' none_is ?qzhs; (case qzhs => assumption)) | exact rfl); k_whole) | (refine' q_notin (knd := PySem.intKind _ _) ?qzN ?qzm ?qzd ?qzlo ?qzk _ ?qzl ?_; (case qzN => k_asm); (case qzm => k_mem); (case qzd => k_asm); (case qzlo => exact lo_of (by k_asm) (by k_asm) (by k_mem)); (case qzk => exact intKind_is _ _ _ _); (case qzl => first | (refine' some_is ?qzhs; (case qzhs => assumption)) | (refine' none_is ?qzhs; (case qzhs => assumption)) | exact rfl); k_whole))) | fail)
  k_with "getItem ref" => (first | (k_here; (with_reducible first | show wpAny _ _ (getItem (Value.ref _) (Value.str _ _)) _ _ _ | show wpAny _ _ (getItem (Value.ref _) (Value.int _ _)) _ _ _); k_dflt (first | (refine' q_gitem (knd := PySem.strKind _ _) ?qzN ?qzm ?qzd ?qzk ?qzl ?_; (case qzN => k_asm); (case qzm => k_mem); (case qzd => k_asm); (case qzk => exact strKind_is _ _ _ _); (case qzl => first | assumption | exact valueAt_stored _ _ _ | exact rfl); k_whole) | (refine' q_gitem (knd := PySem.intKind _ _) ?qzN ?qzm ?qzd ?qzk ?qzl ?_; (case qzN => k_asm); (case qzm => k_mem); (case qzd => k_asm); (case qzk => exact intKind_is _ _ _ _); (case qzl => first | assumption | exact valueAt_stored _ _ _ | exact rfl); k_whole))) | fail)
  k_with "setItem ref" => (first | ((k_here; (with_reducible first | show wpAny _ _ (setItem (Value.ref _) (Value.str _ _) _) _ _ _ | show wpAny _ _ (setItem (Value.ref _) (Value.int _ _) _) _ _ _); k_dflt (first | (refine' kda_set (knd := PySem.strKind _ _) ?qzF ?qzN ?qzU ?qzd ?qzk ?qzz ?_; (case qzF => k_asm); (case qzN => k_asm); (case qzU => k_updF); (case qzd => k_asm); (case qzk => exact strKind_is _ _ _ _); (case qzz => exact line64 (by assumption)); k_whole) | (refine' kda_set (knd := PySem.intKind _ _) ?qzF ?qzN ?qzU ?qzd ?qzk ?qzz ?_; (case qzF => k_asm); (case qzN => k_asm); (case qzU => k_updF); (case qzd => k_asm); (case qzk => exact intKind_is _ _ _ _); (case qzz => exact line64 (by assumption)); k_whole)); intro h' o' F' N' hd'; (try dsimp only at N')); (try revert hd'); (try revert N'); (try revert F'); (try revert o'); (try revert h'); intros) | fail)
  k_with "compareOp In str ref" => (first | (k_here; (with_reducible show wpAny _ _ (compareOp CmpOp.In (Value.str _ _) (Value.ref _)) _ _ _); k_dflt (refine' in_tuple_strs ?qzk1 ?qzk2 ?_; (case qzk1 => exact tupK (Frag.In.keeps (by k_asm) (Fr.keep (by k_asm))) (by k_is)); (case qzk2 => kde_strs); k_whole)) | fail)
  k_with "compareOp NotIn str ref" => (first | (k_here; (with_reducible show wpAny _ _ (compareOp CmpOp.NotIn (Value.str _ _) (Value.ref _)) _ _ _); k_dflt (refine' notin_tuple_strs ?qzk1 ?qzk2 ?_; (case qzk1 => exact tupK (Frag.In.keeps (by k_asm) (Fr.keep (by k_asm))) (by k_is)); (case qzk2 => kde_strs); k_whole)) | fail)
  k_with "call ref" => (first | ((k_here; (with_reducible show wpAny _ _ (call (Value.ref 63) _) _ _ _); k_dflt (refine' wp_up (mk_io (gd := _) ?qzB ?qzF ?qzX ?qzN ?qzT ?qzhf ?qzhk ?_) rfl (Nat.le_of_ble_eq_true rfl) rfl rfl (Nat.le_of_ble_eq_true rfl); (case qzB => k_asm); (case qzF => k_asm); (case qzX => k_asm); (case qzN => k_asm); (case qzT => k_asm); (case qzhf => exact rfl); (case qzhk => exact rfl)); intro h' tk' e' t' od' F' N' l'); (try revert l'); (try revert N'); (try revert F'); (try revert od'); (try revert t'); (try revert e'); (try revert tk'); (try revert h'); intros) | fail)
  k_with "call ref" => (first | ((k_here; (with_reducible show wpAny _ _ (call (Value.ref 82) _) _ _ _); k_dflt (refine' wp_up (mk_end (gd := _) ?qzB ?qzF ?qzX ?qzN ?qzT ?qzhf ?qzhk ?_) rfl (Nat.le_of_ble_eq_true rfl) rfl rfl (Nat.le_of_ble_eq_true rfl); (case qzB => k_asm); (case qzF => k_asm); (case qzX => k_asm); (case qzN => k_asm); (case qzT => k_asm); (case qzhf => exact rfl); (case qzhk => exact rfl)); intro h' tk' e' t' od' F' N' l'); (try revert l'); (try revert N'); (try revert F'); (try revert od'); (try revert t'); (try revert e'); (try revert tk'); (try revert h'); intros) | fail)
  k_with "call ref" => (first | ((k_here; (with_reducible show wpAny _ _ (call (Value.ref 44) _) _ _ _); k_dflt (refine' wp_up (mk_check (gd := _) ?qzB ?qzF ?qzX ?qzN ?qzT ?qzhf ?qzhk ?_) rfl (Nat.le_of_ble_eq_true rfl) rfl rfl (Nat.le_of_ble_eq_true rfl); (case qzB => k_asm); (case qzF => k_asm); (case qzX => k_asm); (case qzN => k_asm); (case qzT => k_asm); (case qzhf => exact rfl); (case qzhk => exact rfl)); intro h' tk' e' t' od' F' N' l'); (try revert l'); (try revert N'); (try revert F'); (try revert od'); (try revert t'); (try revert e'); (try revert tk'); (try revert h'); intros) | fail)
  k_with "call ref" => (first | ((k_here; (with_reducible show wpAny _ _ (call (Value.ref 147) [Value.int _ _, Value.ref _, Value.str _ _]) _ _ _); k_dflt (refine' wp_up (unit_new (gd := _) ?qzB ?qzF ?qzX ?qzN ?qzT ?qzhf ?qzhk ?_) rfl (Nat.le_of_ble_eq_true rfl) rfl rfl (Nat.le_of_ble_eq_true rfl); (case qzB => k_asm); (case qzF => k_asm); (case qzX => k_asm); (case qzN => k_asm); (case qzT => k_asm); (case qzhf => exact rfl); (case qzhk => exact rfl)); intro ua' uda' od' h' tk' hD' l1' l2' F' N'; (try k_lt l1')); (try revert N'); (try revert F'); (try revert l2'); (try revert l1'); (try revert hD'); (try revert tk'); (try revert h'); (try revert od'); (try revert uda'); (try revert ua'); intros) | fail)
  k_with "call ref" => (first | ((k_here; (with_reducible show wpAny _ _ (call (Value.ref 105) [Value.str _ _, Value.str _ _, Value.str _ _, Value.int _ _]) _ _ _); k_dflt (refine' wp_up (file_new (gd := _) ?qzB ?qzF ?qzX ?qzN ?qzT ?qzhf ?qzhk ?_) rfl (Nat.le_of_ble_eq_true rfl) rfl rfl (Nat.le_of_ble_eq_true rfl); (case qzB => k_asm); (case qzF => k_asm); (case qzX => k_asm); (case qzN => k_asm); (case qzT => k_asm); (case qzhf => exact rfl); (case qzhk => exact rfl)); intro fa' fda' od' ra' h' tk' hD' l1' l2' l3' F' N'; (try k_lt l1')); (try revert N'); (try revert F'); (try revert l3'); (try revert l2'); (try revert l1'); (try revert hD'); (try revert tk'); (try revert h'); (try revert ra'); (try revert od'); (try revert fda'); (try revert fa'); intros) | fail)
  k_with "exec Raise some none" => (first | (k_here; (with_reducible show wpAny _ _ (exec (Stmt.Raise (some (Expr.Call (Expr.Name (Str.ofString "IoFault") _) _ _ _)) none _) _) _ _ _); k_dflt (refine' raise_at (C := 63) ?qzX ?qzh ?qzq ?_; (case qzX => k_asm); (case qzh => rfl); (case qzq => with_unfolding_all rfl); k_whole)) | fail)
  k_with "exec Raise some none" => (first | (k_here; (with_reducible show wpAny _ _ (exec (Stmt.Raise (some (Expr.Call (Expr.Name (Str.ofString "EndFault") _) _ _ _)) none _) _) _ _ _); k_dflt (refine' raise_at (C := 82) ?qzX ?qzh ?qzq ?_; (case qzX => k_asm); (case qzh => rfl); (case qzq => with_unfolding_all rfl); k_whole)) | fail)
  k_with "exec Raise some none" => (first | (k_here; (with_reducible show wpAny _ _ (exec (Stmt.Raise (some (Expr.Call (Expr.Name (Str.ofString "CheckFault") _) _ _ _)) none _) _) _ _ _); k_dflt (refine' raise_at (C := 44) ?qzX ?qzh ?qzq ?_; (case qzX => k_asm); (case qzh => rfl); (case qzq => with_unfolding_all rfl); k_whole)) | fail)
  k_with "Thrown" => (first | (k_here; k_dflt (refine' thrown_of ?qzF ?qzX ?qzN ?_; (case qzF => k_asm); (case qzX => k_asm); (case qzN => k_asm))) | fail)
  k_with "leaving ref" => (first | ((k_here; k_dflt (refine' leave_own ?qzK ?qzF ?qzN ?qzl ?_ ?qzh; (case qzh => rfl); (case qzK => assumption); (case qzF => k_asm); (case qzN => k_asm); (case qzl => assumption); k_whole); intro h' R' U'; (try dsimp only at R' U' ⊢)); (try revert U'); (try revert R'); (try revert h'); intros) | fail)
  k_with "call ref" => (first | ((k_here; (with_reducible show wpAny _ _ (call (Value.ref 158) [Value.ref _, Value.str (Str.ofString "STATUS") _, Value.str (Str.ofString "UNKNOWN") _, Value.ref 85]) _ _ _); k_dflt (refine' wp_up (status_any (gd := _) ?qzB ?qzF ?qzX ?qzN ?qzT ?qzhf ?qzhk ?qzhm ?qzhd ?qzhv ?qzht ?_) rfl (Nat.le_of_ble_eq_true rfl) rfl rfl (Nat.le_of_ble_eq_true rfl); (case qzF => k_asm); (case qzX => k_asm); (case qzN => k_asm); (case qzT => k_asm); (case qzB => k_asm); (case qzhf => exact rfl); (case qzhk => exact rfl); (case qzhm => k_mem); (case qzhd => k_asm); (case qzhv => k_asm); (case qzht => k_asm)); intro tv' h' tk' F' N'); (try revert N'); (try revert F'); (try revert tk'); (try revert h'); (try revert tv'); intros) | fail)
  k_with "call ref" => (first | ((k_here; (with_reducible show wpAny _ _ (call (Value.ref 172) [Value.ref _]) _ _ _); k_dflt (refine' wp_up (sort_any (gd := _) ?qzB ?qzF ?qzX ?qzN ?qzT ?qzhf ?qzhk ?qzhm ?qzhd ?qzh1 ?qzh2 ?qzh3 ?qzh4 ?_) rfl (Nat.le_of_ble_eq_true rfl) rfl rfl (Nat.le_of_ble_eq_true rfl); (case qzF => k_asm); (case qzX => k_asm); (case qzN => k_asm); (case qzT => k_asm); (case qzB => k_asm); (case qzhf => exact rfl); (case qzhk => exact rfl); (case qzhm => k_mem); (case qzhd => k_asm); (case qzh1 => k_asm); (case qzh2 => k_asm); (case qzh3 => k_asm); (case qzh4 => k_asm)); intro tp' t0' t1' t2' h' tk' F' N' l1; (try k_lt l1)); (try revert l1); (try revert N'); (try revert F'); (try revert tk'); (try revert h'); (try revert t2'); (try revert t1'); (try revert t0'); (try revert tp'); intros) | fail)
  k_with "call ref" => (first | ((k_here; (with_reducible show wpAny _ _ (call (Value.ref 165) [Value.ref _]) _ _ _); k_dflt (refine' wp_up (name_any (gd := _) ?qzB ?qzF ?qzX ?qzN ?qzT ?qzhf ?qzhk ?qzhm ?qzhd ?qzhv ?qzht ?_) rfl (Nat.le_of_ble_eq_true rfl) rfl rfl (Nat.le_of_ble_eq_true rfl); (case qzF => k_asm); (case qzX => k_asm); (case qzN => k_asm); (case qzT => k_asm); (case qzB => k_asm); (case qzhf => exact rfl); (case qzhk => exact rfl); (case qzhm => k_mem); (case qzhd => k_asm); (case qzhv => k_asm); (case qzht => k_asm)); intro tv' h' tk' F' N'); (try revert N'); (try revert F'); (try revert tk'); (try revert h'); (try revert tv'); intros) | fail)
  k_with "call ref" => (first | (k_here; (with_reducible show wpAny _ _ (call (Value.ref 186) _) _ _ _); refine hold ?_) | fail)
  k_with "call ref" => (first | (k_here; (with_reducible show wpAny _ _ (call (Value.ref 193) _) _ _ _); refine hold ?_) | fail)
  k_with "leaving ref" => (first | ((k_here; k_dflt (refine' leave_onSN ?qzK ?qzF ?qzR ?qzU ?_; (case qzR => assumption); (case qzK => assumption); (case qzF => assumption); (case qzU => assumption); k_whole); intro h' R' _ U'; (try dsimp only at R' U' ⊢)); (try revert U'); (try revert R'); (try revert h'); intros) | fail)
  trivial
section
theorem words_LetAll : True := by
  k_with "call ref" => (first | (k_here; (with_reducible show wpAny _ _ (call (Value.ref 329) _) _ _ _); refine hold ?_) | fail)
  trivial
theorem dis_news {A R : List (Addr × Obj)} {x : Addr} {o : Obj} (D : Dis A R) (h : ∀ p ∈ R, @LT.lt Nat _ p.1 x) : Dis ((x, o) :: A) R := fun p hp q hq => by
  rcases List.mem_cons.mp hp with rfl | hp
  · exact Nat.ne_of_gt (h q hq)
  · exact D p hp q hq
section
variable {w : World} {gd : Option (List Code)} {env : Env} {outer : List Env} {A₀ : Around} {base h₀ : Heap} {L : Addr} {m mg mb : Str → Option Value} {mean : ExcName → Option Value} {s : Shared} {Q E : Value → Shared → Prop}
    {Bk R : List (Addr × Obj)} {bk da bud bfd : Addr} {bo o : Obj} {num : Int} {n0 tt : Tok} {bd : Nat} {st : St} {told : Str} {nm : Option Str} {v : Value} {d : Deed}
theorem opened_any (B : Below A₀ base outer h₀) (F : Fr h₀ L s.heap m) (X : (hd.heap_1 w.params).In h₀) (N : News h₀ L s.heap (Bk ++ R)) (T : Top view (looseW view []) mean mg mb h₀)
    (hf : env.frame = some L) (hk : env.scope.kind = .function) (I : BInv w bud bfd Bk st) (S : SOk st bd) (hbd : bd < 60) (D : Dis Bk R) (hbk : (bk, bo) ∈ R) (hbo : bo.IsDictOf (PySem.strKind P0 w) [(Str.ofString "files", .ref bfd), (Str.ofString "units", .ref bud)])
    (n1 : 1 ≤ num) (n3 : num ≤ 3) (hv : NameV v nm)
    (ret : ∀ B' h' tk, BInv w bud bfd B' (step st (.opn num told nm)) → Dis B' R → Fr h₀ L h' m → News h₀ L h' (B' ++ R) → Q (.bool (okOf st (.opn num told nm))) { s with heap := h', toks := tk }) :
    wpAny (model P0 w) (At 500 1500 gd env outer) (call (.ref 329) [.ref bk, .int num n0, .str told tt, v]) Q E s := by
  have I₀ := I
  obtain ⟨buo, bfo, kvB, kvBF, ad, I⟩ := I
  have fn := fn_left (news_fn N)
  have r2 : ∀ p ∈ R, p ∈ rest2 (Bk ++ R) bud bfd := fun p hp => mem_rest2.mpr ⟨List.mem_append_right _ hp, fun e => D _ I.u p hp e.symm, fun e => D _ I.f p hp e.symm⟩
  have N2 := news_rest2 N (List.mem_append_left _ I.u) (List.mem_append_left _ I.f)
  have hRk : ∀ p ∈ Bk ++ R, p ∈ (bud, buo) :: (bfd, bfo) :: rest2 (Bk ++ R) bud bfd := back2 (news_fn N) (List.mem_append_left _ I.u) (List.mem_append_left _ I.f)
  have lU : kvB.length < 64 := by
    have : kvB.length = st.ks.length := by rw [← I.ku, List.length_map]
    have := S.bk; omega
  have lF : kvBF.length < 64 := by
    have : kvBF.length = st.ns.length := by rw [← I.kf, List.length_map]
    have := S.bn; omega
  have q1 : ∀ p ∈ rest2 (Bk ++ R) bud bfd, p.1 ≠ bud := fun p hp => (mem_rest2.mp hp).2.1
  have q2 : ∀ p ∈ rest2 (Bk ++ R) bud bfd, p.1 ≠ bfd := fun p hp => (mem_rest2.mp hp).2.2
  have rowAt : ∀ j ∈ st.ks, ∃ t t' n no, RowIn Bk st kvB (ad (.r j)) (ad (.o j)) j t t' n no ∧ (ad (.r j), listOf #[.str (st.U j).nm t, .int ((st.U j).pl : Int) t', .ref (ad (.o j))] n) ∈ rest2 (Bk ++ R) bud bfd := fun j hj => by
    obtain ⟨t, t', n, no, u⟩ := I.rows j hj
    exact ⟨t, t', n, no, u, mem_rest2.mpr ⟨List.mem_append_left _ u.r, live_u I fn (a := .r j) hj, live_f I fn (a := .r j) hj⟩⟩
  have hrows : ∀ k v, (k, v) ∈ kvB → ∃ rw t t' ow n pl, v = .ref rw ∧ (rw, listOf #[.str (st.U k).nm t, .int pl t', .ref ow] n) ∈ rest2 (Bk ++ R) bud bfd := fun j v hv => by
    obtain ⟨t, t', n, no, u, hu⟩ := rowAt j (bkey_pair I hv)
    have := (valueAt_mem (bnodup I) hv).symm.trans u.at_
    exact ⟨_, _, _, _, _, _, Option.some.inj this, hu⟩
  have bad' : ∀ named : Prop, (named → nm ≠ none) → ¬ againP st num nm → LetBad told (wanted num nm) named kvB (fun k => (st.U k).nm) kvBF → ∀ h' tk, Fr h₀ L h' m → News h₀ L h' ((bud, buo) :: (bfd, bfo) :: rest2 (Bk ++ R) bud bfd) → Q (.bool false) { s with heap := h', toks := tk } := fun named hn ha hb h' tk F' N' => by
    have e : okOf st (.opn num told nm) = false := let_bad I ha hn hb
    have e2 : step st (.opn num told nm) = st := if_neg fun c => by rw [show openOk st num told nm = false from e] at c; exact Bool.false_ne_true c.1
    rw [e, e2] at ret
    exact ret Bk h' tk I₀ D F' (news_sub N' hRk)
  have good' : ∀ named : Prop, (nm ≠ none → named) → ¬ againP st num nm → ∀ nm' kvBF' ow' rw' t1 t2 Y buo' bfo' h' tk, LetGood told (wanted num nm) nm' kvB (fun k => (st.U k).nm) kvBF kvBF' ((bud, buo) :: (bfd, bfo) :: rest2 (Bk ++ R) bud bfd) ow' Y → (named → told ≠ Str.ofString "SCRATCH") → buo'.IsDictOf (PySem.intKind P0 w) (stored kvB num (.ref rw')) → bfo'.IsDictOf (PySem.strKind P0 w) kvBF' →
      (∀ p ∈ (bud, buo) :: (bfd, bfo) :: rest2 (Bk ++ R) bud bfd, @LT.lt Nat _ p.1 ow') → @LT.lt Nat _ ow' rw' → Fr h₀ L h' m → News h₀ L h' ((rw', listOf #[.str nm' t1, .int ((0 : Nat) : Int) t2, .ref ow'] 0) :: (ow', listOf #[] 0) :: (Y ++ ((bud, buo') :: (bfd, bfo') :: rest2 (Bk ++ R) bud bfd))) → Q (.bool true) { s with heap := h', toks := tk } := by
    intro named hn ha nm' kvBF' ow' rw' t1 t2 Y buo' bfo' h' tk W hns hu hf' hlt hrw F' N'
    have hs : told = Str.ofString "SCRATCH" → nm = none := fun e => by
      cases hnm : nm with
      | none => rfl
      | some x => exact absurd e (hns (hn (by rw [hnm]; exact fun c => nomatch c)))
    have e : okOf st (.opn num told nm) = true := let_good I ha hs W
    have e2 : step st (.opn num told nm) = opened st num told nm := if_pos ⟨e, ha⟩
    rw [e, e2] at ret
    have ltR : ∀ p ∈ R, @LT.lt Nat _ p.1 ow' := fun p hp => hlt p (.tail _ (.tail _ (r2 p hp)))
    refine ret _ h' tk (bin_open (t1 := t1) (t2 := t2) I fn W (fun p hp => hRk p (List.mem_append_left _ hp)) hu hf' hlt hrw) (dis_news (dis_news (fun p hp q hq => ?_) ltR) fun p hp => Nat.lt_trans (ltR p hp) hrw) F' (news_sub N' fun p hp => ?_)
    · rcases List.mem_append.mp hp with hp | hp
      · rcases W with ⟨-, -, -, rfl⟩ | ⟨-, -, -, ⟨-, -, -, rfl⟩ | ⟨-, -, ha', -, rfl, -, h2⟩⟩
        · nomatch hp
        · nomatch hp
        · rw [List.mem_singleton.mp hp]
          exact Nat.ne_of_gt (h2 q (.tail _ (.tail _ (r2 q hq))))
      · exact dis_put (dis_put D I.f) (mem_put' I.u I.ne) p hp q hq
    · rcases List.mem_cons.mp hp with rfl | hp
      · exact .head _
      rcases List.mem_cons.mp hp with rfl | hp
      · exact .tail _ (.head _)
      refine .tail _ (.tail _ ?_)
      rcases List.mem_append.mp hp with hp | hp
      · rcases List.mem_append.mp hp with hp | hp
        · exact List.mem_append_left _ hp
        rcases of_put hp with rfl | ⟨hp, n1⟩
        · exact List.mem_append_right _ (.head _)
        rcases of_put hp with rfl | ⟨hp, n2⟩
        · exact List.mem_append_right _ (.tail _ (.head _))
        · exact List.mem_append_right _ (.tail _ (.tail _ (mem_rest2.mpr ⟨List.mem_append_left _ hp, n1, n2⟩)))
      · exact List.mem_append_right _ (.tail _ (.tail _ (r2 p hp)))
  by_cases hin : num ∈ st.ks
  · obtain ⟨t, t', n, no, u, hu⟩ := rowAt num hin
    by_cases ha : againP st num nm
    · have e2 : step st (.opn num told nm) = st := if_neg fun c => c.2 ha
      have e : okOf st (.opn num told nm) = decide (told = Str.ofString "OLD" ∨ told = Str.ofString "UNKNOWN") := by
        show openOk st num told nm = _
        unfold openOk
        by_cases c : told = Str.ofString "SCRATCH" ∧ nm ≠ none
        · rw [if_pos c, c.1]; decide +kernel
        · rw [if_neg c, if_pos ha]
      rw [e, e2] at ret
      rcases hv with ⟨rfl, rfl⟩ | ⟨x, xt, rfl, rfl, h5⟩
      · exact let_opD (xt := tt) B F X N2 T hf hk (r2 _ hbk) hbo I.uD I.fD lU lF q1 q2 I.ne hrows n1 n3 u.at_ hu fun h' tk F' N' => ret Bk h' tk I₀ D F' (news_sub N' hRk)
      · rcases ha with ⟨-, c | c⟩
        · cases c
        · obtain rfl := Option.some.inj c
          exact let_opE B F X N2 T hf hk (r2 _ hbk) hbo I.uD I.fD lU lF q1 q2 I.ne hrows n1 n3 u.at_ hu fun h' tk F' N' => ret Bk h' tk I₀ D F' (news_sub N' hRk)
    · rcases hv with ⟨rfl, rfl⟩ | ⟨x, xt, rfl, rfl, h5⟩
      · exact absurd ⟨hin, .inl rfl⟩ ha
      · have hx : x ≠ (st.U num).nm := fun c => ha ⟨hin, .inr (congrArg some c)⟩
        exact let_opC B F X N2 T hf hk (r2 _ hbk) hbo I.uD I.fD lU lF q1 q2 I.ne hrows n1 n3 u.at_ hu (beq_false_of_ne (Ne.symm hx)) hx (bad' True (fun _ c => nomatch c) ha) (good' True (fun _ => trivial) ha)
  · have ha : ¬ againP st num nm := fun c => hin c.1
    have hat : valueAt kvB num = none := valueAt_no fun c => hin (I.ku ▸ c)
    rcases hv with ⟨rfl, rfl⟩ | ⟨x, xt, rfl, rfl, h5⟩
    · have b := bad' False (fun c => c.elim) ha
      have g := good' False (fun c => absurd rfl c) ha
      rw [show wanted num none = Str.ofString "FORT." ++ Txt.item (Str.ofString "0123") num from (fort_item n1 n3).symm] at b g
      exact let_opA (xt := tt) B F X N2 T hf hk (r2 _ hbk) hbo I.uD I.fD lU lF q1 q2 I.ne hrows n1 n3 hat b g
    · exact let_opB B F X N2 T hf hk (r2 _ hbk) hbo I.uD I.fD lU lF q1 q2 I.ne hrows n1 n3 hat (bad' True (fun _ c => nomatch c) ha) (good' True (fun _ => trivial) ha)
theorem let_open (B : Below A₀ base outer h₀) (F : Fr h₀ L s.heap m) (X : (hd.heap_1 w.params).In h₀) (N : News h₀ L s.heap (Bk ++ R)) (T : Top view (looseW view []) mean mg mb h₀)
    (hf : env.frame = some L) (hk : env.scope.kind = .function) (I : BInv w bud bfd Bk st) (S : SOk st bd) (hbd : bd < 60) (D : Dis Bk R) (hbk : (bk, bo) ∈ R) (hbo : bo.IsDictOf (PySem.strKind P0 w) [(Str.ofString "files", .ref bfd), (Str.ofString "units", .ref bud)])
    (hda : (da, o) ∈ R) (hd : DeedV o (.opn num told nm))
    (ret : ∀ B' h' tk, BInv w bud bfd B' (step st (.opn num told nm)) → Dis B' R → Fr h₀ L h' m → News h₀ L h' (B' ++ R) → Q (.bool (okOf st (.opn num told nm))) { s with heap := h', toks := tk }) :
    wpAny (model P0 w) (At 400 1000 gd env outer) (call (.ref 336) [.ref bk, .ref da]) Q E s := (by exact kept : Kept _ (by
  obtain ⟨k1, k3, hst, w0, n0, tt, v, hv, rfl⟩ := hd
  obtain ⟨l, hl⟩ : ∃ l, l = Bk ++ R := ⟨_, rfl⟩
  rw [← hl] at N
  have m3 : (da, _) ∈ l := hl ▸ List.mem_append_right _ hda
  refine wpAny_call ?_
  k_dflt k_enter
  k_steps
  subst hl
  refine held (wp_up (opened_any (gd := _) (by k_asm) (by k_asm) (by k_asm) (by k_asm) (by k_asm) rfl rfl I S hbd D hbk hbo k1 k3 hv ?_) rfl (Nat.le_of_ble_eq_true rfl) rfl rfl (Nat.le_of_ble_eq_true rfl))
  intro B' h' tk I' D' F' N'
  obtain ⟨l', hl'⟩ : ∃ l', l' = B' ++ R := ⟨_, rfl⟩
  rw [← hl'] at N'
  k_steps
  subst hl'
  exact ret B' _ _ I' D' (by k_asm) (by k_asm)))
end
end
section
section
variable {w : World} {gd : Option (List Code)} {env : Env} {outer : List Env} {A₀ : Around} {base h₀ : Heap} {L : Addr} {m mg mb : Str → Option Value} {mean : ExcName → Option Value} {s : Shared} {Q E : Value → Shared → Prop}
    {Bk R : List (Addr × Obj)} {bk da bud bfd : Addr} {bo o : Obj} {num : Int} {n0 tt : Tok} {bd : Nat} {st : St} {d : Deed}
theorem let_any (B : Below A₀ base outer h₀) (F : Fr h₀ L s.heap m) (X : (hd.heap_1 w.params).In h₀) (N : News h₀ L s.heap (Bk ++ R)) (T : Top view (looseW view []) mean mg mb h₀)
    (hf : env.frame = some L) (hk : env.scope.kind = .function) (I : BInv w bud bfd Bk st) (S : SOk st bd) (hbd : bd < 60) (D : Dis Bk R) (hbk : (bk, bo) ∈ R) (hbo : bo.IsDictOf (PySem.strKind P0 w) [(Str.ofString "files", .ref bfd), (Str.ofString "units", .ref bud)])
    (hda : (da, o) ∈ R) (hd : DeedV o d) (hft : Fits st d)
    (ret : ∀ B' h' tk, BInv w bud bfd B' (step st d) → Dis B' R → Fr h₀ L h' m → News h₀ L h' (B' ++ R) → Q (.bool (okOf st d)) { s with heap := h', toks := tk }) :
    wpAny (model P0 w) (At 400 1000 gd env outer) (call (.ref 336) [.ref bk, .ref da]) Q E s := by
  cases d with
  | opn k told nm => exact let_open B F X N T hf hk I S hbd D hbk hbo hda hd ret
  | cls k told =>
    have I₀ := I
    obtain ⟨buo, bfo, kvB, kvBF, ad, I⟩ := I
    have fn := fn_left (news_fn N)
    have r2 : ∀ p ∈ R, p ∈ rest2 (Bk ++ R) bud bfd := fun p hp => mem_rest2.mpr ⟨List.mem_append_right _ hp, fun e => D _ I.u p hp e.symm, fun e => D _ I.f p hp e.symm⟩
    have N2 := news_rest2 N (List.mem_append_left _ I.u) (List.mem_append_left _ I.f)
    have hRk : ∀ p ∈ Bk ++ R, p ∈ (bud, buo) :: (bfd, bfo) :: rest2 (Bk ++ R) bud bfd := back2 (news_fn N) (List.mem_append_left _ I.u) (List.mem_append_left _ I.f)
    have lU : kvB.length < 64 := by
      have : kvB.length = st.ks.length := by rw [← I.ku, List.length_map]
      have := S.bk; omega
    have lF : kvBF.length < 64 := by
      have : kvBF.length = st.ns.length := by rw [← I.kf, List.length_map]
      have := S.bn; omega
    obtain ⟨k1, k3, w0, n0, v, hv, rfl⟩ := hd
    by_cases hin : k ∈ st.ks
    · obtain ⟨t, t', n, no, u⟩ := I.rows k hin
      have hdel : ∃ v0, (st.U k).nm ≠ Str.ofString "" → valueAt kvBF (st.U k).nm = some v0 := by
        by_cases c : (st.U k).nm = Str.ofString ""
        · exact ⟨.none, fun d => absurd c d⟩
        · obtain ⟨v, e⟩ := valueAt_isSome (kvs := kvBF) (I.kf ▸ S.inn k hin c)
          exact ⟨v, fun _ => e⟩
      obtain ⟨v0, hdel⟩ := hdel
      refine let_close B F X N2 T hf hk (r2 _ hbk) hbo I.uD I.fD (mem_rest2.mpr ⟨List.mem_append_left _ u.r, live_u I fn (a := .r k) hin, live_f I fn (a := .r k) hin⟩) (r2 _ hda) hv u.at_ hdel lU lF (fun p hp => (mem_rest2.mp hp).2.1) (fun p hp => (mem_rest2.mp hp).2.2) I.ne ?_ ?_
      · intro hc uo' fo' kvF' h' tk hu' hf' hF F' N'
        have hok : okOf st (.cls k told) = true := by
          unfold okOf
          dsimp only
          rw [decide_eq_false fun c => hc c.2]; rfl
        rw [hok, show step st (.cls k told) = closed st k told from if_pos ⟨hin, hok⟩] at ret
        refine ret (put (put Bk bfd fo') bud uo') h' tk (bin_close I fn hu' hf' hF) (dis_put (o := buo) (dis_put (o := bfo) D I.f) (mem_put' I.u I.ne)) F' (news_sub N' fun p hp => ?_)
        rcases List.mem_append.mp hp with hp | hp
        · rcases of_put hp with rfl | ⟨hp, n1⟩
          · exact .head _
          rcases of_put hp with rfl | ⟨hp, n2⟩
          · exact .tail _ (.head _)
          · exact .tail _ (.tail _ (mem_rest2.mpr ⟨List.mem_append_left _ hp, n1, n2⟩))
        · exact .tail _ (.tail _ (r2 p hp))
      · intro hc h' tk F' N'
        have hok : okOf st (.cls k told) = false := by
          unfold okOf
          dsimp only
          rw [decide_eq_true ⟨hin, hc⟩]; rfl
        rw [hok, show step st (.cls k told) = st from if_neg fun c => by rw [hok] at c; exact Bool.false_ne_true c.2] at ret
        exact ret Bk h' tk I₀ D F' (news_sub N' hRk)
    · have hok : okOf st (.cls k told) = true := by
        unfold okOf
        dsimp only
        rw [decide_eq_false fun c => hin c.1]; rfl
      rw [hok, show step st (.cls k told) = st from if_neg fun c => hin c.1] at ret
      exact let_absent B F X N T hf hk (List.mem_append_right _ hbk) hbo (List.mem_append_left _ I.u) I.uD (List.mem_append_right _ hda) (valueAt_no fun c => hin (I.ku ▸ c)) fun h' tk F' N' => ret Bk h' tk I₀ D F' N'
  | wrt k r =>
    obtain ⟨buo, bfo, kvB, kvBF, ad, I⟩ := I
    have fn := fn_left (news_fn N)
    obtain ⟨k1, k3, w0, n0, x, xt, rfl, rfl⟩ := hd
    have hin : k ∈ st.ks := hft
    obtain ⟨t, t', n, no, u⟩ := I.rows k hin
    have hpl := S.pl k hin
    have hbr := S.br k hin
    by_cases hnm : (st.U k).nm = Str.ofString ""
    · rw [recs_scratch hnm] at hpl hbr
      have nro : ad (.r k) ≠ ad (.o k) := live_ne I (a := .r k) (b := .o k) hin hin (fun c => nomatch c)
      have r2 : ∀ p ∈ R, p ∈ rest2 (Bk ++ R) (ad (.r k)) (ad (.o k)) := fun p hp => mem_rest2.mpr ⟨List.mem_append_right _ hp, fun e => D _ u.r p hp e.symm, fun e => D _ u.o p hp e.symm⟩
      have N2 := news_rest2 N (List.mem_append_left _ u.r) (List.mem_append_left _ u.o)
      have b2 : ∀ a o, (a, o) ∈ Bk → a ≠ ad (.r k) → a ≠ ad (.o k) → (a, o) ∈ rest2 (Bk ++ R) (ad (.r k)) (ad (.o k)) := fun a o h h1 h2 => mem_rest2.mpr ⟨List.mem_append_left _ h, h1, h2⟩
      refine let_scratch B F X N2 T hf hk (r2 _ hbk) hbo (b2 _ _ I.u (Ne.symm (live_u I fn (a := .r k) hin)) (Ne.symm (live_u I fn (a := .o k) hin))) I.uD (b2 _ _ I.f (Ne.symm (live_f I fn (a := .r k) hin)) (Ne.symm (live_f I fn (a := .o k) hin))) I.fD (r2 _ hda) u.at_ (beq_iff_eq.mpr hnm) hpl (by omega) nro (fun p hp => (mem_rest2.mp hp).2.1) (fun p hp => (mem_rest2.mp hp).2.2) ?_
      intro h' tk tq n'' F' N'
      refine ret _ h' tk (bin_write_scratch (t := t) (t' := tq) (n := n) (n' := n'') I fn hin hnm) (dis_put (o := listOf #[.str (st.U k).nm t, .int ((st.U k).pl : Int) t', .ref (ad (.o k))] n) (dis_put D u.o) (mem_put' u.r nro)) F' (news_sub N' fun p hp => ?_)
      rcases List.mem_append.mp hp with hp | hp
      · rcases of_put hp with rfl | ⟨hp, n1⟩
        · exact .head _
        rcases of_put hp with rfl | ⟨hp, n2⟩
        · exact .tail _ (.head _)
        · exact .tail _ (.tail _ (mem_rest2.mpr ⟨List.mem_append_left _ hp, n1, n2⟩))
      · exact .tail _ (.tail _ (r2 p hp))
    · rw [recs_named hnm] at hpl hbr
      have hns := S.inn k hin hnm
      obtain ⟨f1, fn', f2⟩ := I.files _ hns
      have nro : ad (.r k) ≠ ad (.h (st.U k).nm) := live_ne I (a := .r k) (b := .h _) hin hns (fun c => nomatch c)
      have r2 : ∀ p ∈ R, p ∈ rest2 (Bk ++ R) (ad (.r k)) (ad (.h (st.U k).nm)) := fun p hp => mem_rest2.mpr ⟨List.mem_append_right _ hp, fun e => D _ u.r p hp e.symm, fun e => D _ f2 p hp e.symm⟩
      have N2 := news_rest2 N (List.mem_append_left _ u.r) (List.mem_append_left _ f2)
      have b2 : ∀ a o, (a, o) ∈ Bk → a ≠ ad (.r k) → a ≠ ad (.h (st.U k).nm) → (a, o) ∈ rest2 (Bk ++ R) (ad (.r k)) (ad (.h (st.U k).nm)) := fun a o h h1 h2 => mem_rest2.mpr ⟨List.mem_append_left _ h, h1, h2⟩
      refine let_named B F X N2 T hf hk (r2 _ hbk) hbo (b2 _ _ I.u (Ne.symm (live_u I fn (a := .r k) hin)) (Ne.symm (live_u I fn (a := .h _) hns))) I.uD (b2 _ _ I.f (Ne.symm (live_f I fn (a := .r k) hin)) (Ne.symm (live_f I fn (a := .h _) hns))) I.fD (r2 _ hda) u.at_ f1 (beq_false_of_ne hnm) hpl (by omega) nro (fun p hp => (mem_rest2.mp hp).2.1) (fun p hp => (mem_rest2.mp hp).2.2) ?_
      intro h' tk tq n'' F' N'
      refine ret _ h' tk (bin_write_named (t := t) (t' := tq) (n := n) (n' := n'') I S fn hin hnm) (dis_put (o := listOf #[.str (st.U k).nm t, .int ((st.U k).pl : Int) t', .ref (ad (.o k))] n) (dis_put D f2) (mem_put' u.r nro)) F' (news_sub N' fun p hp => ?_)
      rcases List.mem_append.mp hp with hp | hp
      · rcases of_put hp with rfl | ⟨hp, n1⟩
        · exact .head _
        rcases of_put hp with rfl | ⟨hp, n2⟩
        · exact .tail _ (.head _)
        · exact .tail _ (.tail _ (mem_rest2.mpr ⟨List.mem_append_left _ hp, n1, n2⟩))
      · exact .tail _ (.tail _ (r2 p hp))
  | rew k =>
    obtain ⟨buo, bfo, kvB, kvBF, ad, I⟩ := I
    have fn := fn_left (news_fn N)
    obtain ⟨k1, k3, w0, n0, x, xt, rfl⟩ := hd
    have hin : k ∈ st.ks := hft
    obtain ⟨t, t', n, no, u⟩ := I.rows k hin
    have r2 : ∀ p ∈ R, p ∈ rest (Bk ++ R) (ad (.r k)) := fun p hp => mem_rest.mpr ⟨List.mem_append_right _ hp, fun e => D _ u.r p hp e.symm⟩
    refine let_rewind B F X (news_focus N (List.mem_append_left _ u.r)) T hf hk (r2 _ hbk) hbo (mem_rest.mpr ⟨List.mem_append_left _ I.u, Ne.symm (live_u I fn (a := .r k) hin)⟩) I.uD (r2 _ hda) u.at_ (rest_ne _ _) ?_
    intro h' tk tq F' N'
    exact ret _ h' tk (bin_rewind (t := t) (t' := tq) (n := n) I fn hin) (dis_put D u.r) F' (news_unfocus N' D u.r)
end
end
section
theorem words_ClosAll : True := by
  k_with "exec For" => (first | (k_here; k_dflt (refine' For_own ?qzF ?_ ?qzx ?qzp ?qzs ?qze; (case qzF => k_asm); (case qzx => rfl); (case qzp => rfl); (case qzs => intro _; rfl); (case qze => passes_own); k_whole)) | fail)
  k_with "exec For Name Call cons nil" => (first | (k_here; k_dflt (refine' For_own ?qzF ?_ ?qzx ?qzp ?qzs ?qze; (case qzF => k_asm); (case qzx => rfl); (case qzp => rfl); (case qzs => intro _; rfl); (case qze => passes_own); k_whole)) | fail)
  k_with "call builtin:sorted" => (first | ((k_here; k_dflt (refine' sorted_ints ?qzhh ?qzF ?qzN ?qzm ?qzd ?qzlo ?qzn ?_; (case qzhh => rfl); (case qzF => k_asm); (case qzN => k_asm); (case qzm => k_mem); (case qzd => k_asm); (case qzlo => exact lo_of (by k_asm) (by k_asm) (by k_mem)); (case qzn => assumption); k_whole); intro D' h' tk' out' n' ns' F' N' l1 hI' hP' hS'); (try revert hS'); (try revert hP'); (try revert hI'); (try revert l1); (try revert N'); (try revert F'); (try revert ns'); (try revert n'); (try revert out'); (try revert tk'); (try revert h'); (try revert D'); intros) | fail)
  k_with "call ref" => (first | (k_here; (with_reducible show wpAny _ _ (call (Value.ref 214) _) _ _ _); refine hold ?_) | fail)
  trivial
/-- the state without some units -/
def cut (st : St) (l : List Int) : St := { st with ks := st.ks.filter fun k => decide (k ∉ l) }
theorem cut_nil (st : St) : cut st [] = st := by
  unfold cut
  have : (st.ks.filter fun k => decide (k ∉ ([] : List Int))) = st.ks := List.filter_eq_self.mpr fun k _ => by simp
  rw [this]
theorem cut_all {st : St} {l : List Int} (h : ∀ k ∈ st.ks, k ∈ l) : cut st l = { st with ks := [] } := by
  unfold cut
  have : (st.ks.filter fun k => decide (k ∉ l)) = [] := List.filter_eq_nil_iff.mpr fun k hk => by simp [h k hk]
  rw [this]
theorem cut_ok (st : St) (l : List Int) (k : Int) : okOf (cut st l) (.cls k none) = true := by
  unfold okOf
  dsimp only
  rw [decide_eq_false fun c => nomatch c.2.2]; rfl
theorem cut_step (st : St) (l : List Int) (k : Int) : step (cut st l) (.cls k none) = cut st (l ++ [k]) := by
  have e : ((cut st l).ks.filter fun x => decide (x ≠ k)) = st.ks.filter fun x => decide (x ∉ l ++ [k]) := by
    unfold cut
    rw [List.filter_filter]
    refine List.filter_congr fun x _ => ?_
    rw [Bool.eq_iff_iff, Bool.and_eq_true, decide_eq_true_iff, decide_eq_true_iff, decide_eq_true_iff, List.mem_append, List.mem_singleton, not_or]
    exact ⟨fun h => ⟨h.2, h.1⟩, fun h => ⟨h.2, h.1⟩⟩
  by_cases hk : k ∈ (cut st l).ks
  · rw [show step (cut st l) (.cls k none) = closed (cut st l) k none from if_pos ⟨hk, cut_ok st l k⟩]
    unfold closed
    rw [if_neg fun c => nomatch c.2]
    show ({ ks := (cut st l).ks.filter fun x => decide (x ≠ k), U := st.U, ns := st.ns, F := st.F } : St) = _
    rw [e]; rfl
  · rw [show step (cut st l) (.cls k none) = cut st l from if_neg fun c => hk c.1]
    have : ((cut st l).ks.filter fun x => decide (x ≠ k)) = (cut st l).ks := List.filter_eq_self.mpr fun x hx => decide_eq_true fun (c : x = k) => hk (c ▸ hx)
    rw [e] at this
    show ({ ks := (cut st l).ks, U := st.U, ns := st.ns, F := st.F } : St) = _
    rw [← this]; rfl
theorem slo_cut {st : St} {bd : Nat} (S : SLo st bd) (l : List Int) : SLo (cut st l) bd := by
  have sub : ∀ k, k ∈ (cut st l).ks → k ∈ st.ks := fun k h => (List.mem_filter.mp h).1
  exact ⟨Nat.le_trans (List.length_filter_le _ _) S.bk, S.bn, fun k h => S.inn k (sub k h), fun k h => S.rk k (sub k h)⟩
section
variable {w : World} {gd : Option (List Code)} {env : Env} {outer : List Env} {A₀ : Around} {base h₀ : Heap} {L : Addr} {m mg mb : Str → Option Value} {mean : ExcName → Option Value} {s : Shared} {Q E : Value → Shared → Prop}
    {A R : List (Addr × Obj)} {fd ud wa wda sa sda : Addr} {wo o : Obj} {sf : Tok} {hh : Int} {sn bd : Nat} {st : St}
theorem close_all_any (B : Below A₀ base outer h₀) (F : Fr h₀ L s.heap m) (X : (hd.heap_1 w.params).In h₀) (N : News h₀ L s.heap (A ++ R)) (T : Top view (looseW view []) mean mg mb h₀)
    (hf : env.frame = some L) (hk : env.scope.kind = .function) (I : PInv w ud fd A st) (S : SLo st bd) (hbd : bd < 60) (D : Dis A R)
    (hwa : (wa, instObj 299 wda) ∈ R) (hwda : (wda, wo) ∈ R) (hwo : WorldD wo sa ud) (hsa : (sa, instObj 126 sda) ∈ R) (hsda : (sda, dictOf [⟨hh, .str (Str.ofString "files") sf, .ref fd⟩] sn) ∈ R)
    (ret : ∀ A' h' tk, PInv w ud fd A' { st with ks := [] } → Dis A' R → Fr h₀ L h' m → News h₀ L h' (A' ++ R) → Q .none { s with heap := h', toks := tk }) :
    wpAny (model P0 w) (At 400 1000 gd env outer) (call (.ref 261) [.ref wa]) Q E s := (by exact kept : Kept _ (by
  have I₀ := I
  obtain ⟨uo, fo, kvU, kvF, fa, fda, ga, I⟩ := I
  have lU : kvU.length < 64 := by
    have : kvU.length = st.ks.length := by rw [← I.ku, List.length_map]
    have := S.bk; omega
  have huD := I.uD
  have hku := I.ku
  obtain ⟨g0, g1, g2, g3, g4, g5, p0, p1, p2, p3, p4, p5, p6, wi, wj, wk, wn, rfl⟩ := hwo
  obtain ⟨l, hl⟩ : ∃ l, l = A ++ R := ⟨_, rfl⟩
  have r2 : ∀ p ∈ R, p ∈ l := fun p hp => hl ▸ List.mem_append_right _ hp
  have m0 : (ud, uo) ∈ l := hl ▸ List.mem_append_left _ I.u
  rw [← hl] at N
  have m1 : (wa, instObj 299 wda) ∈ l := r2 _ hwa
  have m2 := r2 _ hwda
  refine wpAny_call ?_
  k_dflt k_enter
  k_steps
  rename IntsAre _ _ => hI
  rename List.Perm _ _ => hP
  rename_i D0 _ _ out0 n0 ns0 _ _ l1 _
  refine loop_list (y := Str.ofString "number") (fun i nx => ∃ A', nx = A' ++ R ∧ PInv w ud fd A' (cut st (ns0.take i)) ∧ Dis A' R ∧ ∀ p ∈ nx, @Ne Nat p.1 D0) rfl (by k_asm) (by k_asm)
    ⟨A, hl, by rw [List.take_zero, cut_nil]; exact I₀, D, fun p hp => Nat.ne_of_lt (l1 p hp)⟩ (fun i v u nx I oI h9 tk9 hv hJ hI9 hl9 F9 N9 => ?_) (fun u nx h9 tk9 hJ F9 N9 => ?_)
  · obtain ⟨A', rfl, I', D', hD0⟩ := hJ
    obtain ⟨n, t, rfl, hn⟩ := ints_at hI hv
    have hn0 : 0 ≤ n := by
      have : n ∈ st.ks := hku ▸ hP.mem_iff.mp (List.mem_of_getElem? hn)
      have := (S.rk n this).1; omega
    obtain ⟨l', hl'⟩ : ∃ l', l' = A' ++ R := ⟨_, rfl⟩
    have r2' : ∀ p ∈ R, p ∈ l' := fun p hp => hl' ▸ List.mem_append_right _ hp
    have m1' : (wa, instObj 299 wda) ∈ l' := r2' _ hwa
    have m2' := r2' _ hwda
    rw [← hl'] at N9
    (try dsimp only at F9)
    k_steps
    subst hl'
    refine held (wp_up (close_any (R := (I, oI) :: (D0, listOf out0 n0) :: R) (A := A') (st := cut st (ns0.take i)) (bd := bd) (told := none) (gd := _) (by k_asm) (by k_asm) (by k_asm) (news_sub (by k_asm) fun p hp => ?_) (by k_asm) rfl rfl I' (slo_cut S _) hbd (fun p hp q hq => ?_) (.tail _ (.tail _ hsa)) (.tail _ (.tail _ hsda)) hn0 (.inl ⟨rfl, rfl⟩) ?_ ?_) rfl (Nat.le_of_ble_eq_true rfl) rfl rfl (Nat.le_of_ble_eq_true rfl))
    · simp only [List.mem_append, List.mem_cons] at hp ⊢
      rcases hp with h | h | h | h <;> simp [h]
    · rcases List.mem_cons.mp hq with rfl | hq
      · exact hI9 p (List.mem_append_left _ hp)
      rcases List.mem_cons.mp hq with rfl | hq
      · exact hD0 p (List.mem_append_left _ hp)
      · exact D' p hp q hq
    · intro _ A'' h' tk I'' D'' F' N'
      rw [cut_step] at I''
      obtain ⟨l'', hl''⟩ : ∃ l'', l'' = A'' ++ (I, oI) :: (D0, listOf out0 n0) :: R := ⟨_, rfl⟩
      rw [← hl''] at N'
      k_steps
      subst hl''
      refine ⟨_, _, _, A'' ++ R, rfl, by k_asm, fun z h1 h2 => off2 h1 h2, news_sub (by k_asm) fun p hp => ?_, fun p hp => ?_, A'', rfl, ?_, fun p hp q hq => D'' p hp q (.tail _ (.tail _ hq)), fun p hp => ?_⟩
      · simp only [List.cons_append, List.nil_append, List.mem_append, List.mem_cons] at hp ⊢
        rcases hp with h | h | h | h <;> simp [h]
      · rcases List.mem_append.mp hp with hp | hp
        · exact D'' p hp _ (.head _)
        · exact hI9 p (List.mem_append_right _ hp)
      · rw [List.take_add_one, hn]; exact I''
      · rcases List.mem_append.mp hp with hp | hp
        · exact D'' p hp _ (.tail _ (.head _))
        · exact hD0 p (List.mem_append_right _ hp)
    · intro hc
      rw [cut_ok] at hc; cases hc
  · obtain ⟨A', rfl, I', D', hD0⟩ := hJ
    have hs := hI.length
    rw [Array.length_toList] at hs
    rw [cut_all (fun k hk => ?_)] at I'
    · obtain ⟨l', hl'⟩ : ∃ l', l' = A' ++ R := ⟨_, rfl⟩
      rw [← hl'] at N9
      k_steps
      subst hl'
      exact ret A' _ _ I' D' (by k_asm) (by k_asm)
    · rw [hs, List.take_length]
      exact hP.mem_iff.mpr (hku ▸ hk)))
end
end
section
theorem words_LawRead : True := by
  k_with "subscriptTail Attribute" => (first | (k_here; k_dflt (refine kba_turn (value' := PySem.Expr.Name (PySem.Str.ofString "_") ⟨0, 0, 0, 0⟩) (fun _ => rfl) ?_)) | fail)
  k_with "k_enter" => (first | ((refine' code_defT ?qzB ?qzF ?qzX ?qzN ?qzT ?qzhA ?qzhf ?qzhke ?qzho ?qzhcd ?qzhroom ?qzhbind ?qzhloc ?_ ?qzc2 ?qzc3 ?qzc4 ?qzc5; (case qzB => k_asm); (case qzF => k_asm); (case qzX => k_asm); (case qzN => k_asm); (case qzT => k_asm); (case qzhA => exact rfl); (case qzhf => assumption); (case qzhke => assumption); (case qzho => k_is); (case qzhcd => k_is); (case qzhroom => exact Nat.le_of_ble_eq_true rfl); (case qzhbind => exact BindsTo.of_eq rfl); (case qzhloc => exact locs rfl); (case qzc2 => exact rfl); (case qzc3 => exact rfl); (case qzc4 => exact rfl); (case qzc5 => decide); k_whole; intro g' L' h' FG' F' N' B' X' T'; (try dsimp only)); (try revert T'); (try revert X'); (try revert B'); (try revert N'); (try revert F'); (try revert FG'); (try revert h'); (try revert L'); (try revert g'); intros) | fail)
  k_with "exec For" => (first | (k_here; k_dflt (refine' For_own ?qzF ?_ ?qzx ?qzp ?qzs ?qze; (case qzF => k_asm); (case qzx => rfl); (case qzp => rfl); (case qzs => intro _; rfl); (case qze => passes_own); k_whole)) | fail)
  k_with "exec For Name Call cons nil" => (first | (k_here; k_dflt (refine' For_own ?qzF ?_ ?qzx ?qzp ?qzs ?qze; (case qzF => k_asm); (case qzx => rfl); (case qzp => rfl); (case qzs => intro _; rfl); (case qze => passes_own); k_whole)) | fail)
  k_with "call ref" => (first | (k_here; (with_reducible show wpAny _ _ (call (Value.ref 228) _) _ _ _); refine hold ?_) | fail)
  k_with "call builtin:list.append" => (first | ((k_here; (with_reducible show wpAny _ _ (call (Value.builtin _) [Value.ref _, _]) _ _ _); k_dflt (refine' append_K ?qzk1 ?qzk2 ?qzk3 ?_ ?qzz; (case qzk1 => k_asm); (case qzk2 => k_asm); (case qzk3 => k_updF); (case qzz => (simp only [List.size_toArray, PySem.sizeLine_eq, List.length_take]; omega)); k_whole); intro h' F' N'; (try dsimp only at N')); (try revert N'); (try revert F'); (try revert h'); intros) | fail)
  trivial
theorem news_swap {h₀ h : Heap} {L : Addr} {a b : Addr × Obj} {R : List (Addr × Obj)} (N : News h₀ L h (a :: b :: R)) : News h₀ L h (b :: a :: R) := news_add (news_tl N) (news_add N (news_tl (news_tl N)))
section
variable {w : World} {ud fd : Addr} {A : List (Addr × Obj)} {st : St} {uo fo : Obj} {kvU : List (Int × Value)} {kvF : List (Str × Value)} {fa fda : Int → Addr} {ga : Str → Addr} {k : Int} {ua uda : Addr} {od fod : Obj} {ra : Addr} {rn pl : Nat}
theorem pin_place {od' : Obj} (I : PIn w ud fd A st uo fo kvU kvF fa fda ga) (fn : Fn A) (hk : k ∈ st.ks) (u : UnitIn ud fd A st kvU (fa k) (fda k) ga k ua uda od fod ra rn) (hod' : UnitD od' k (fa k) pl) :
    PInv w ud fd (put A uda od') { st with U := upd st.U k ⟨(st.U k).nm, pl, (st.U k).own⟩ } := by
  obtain ⟨st', hst⟩ : ∃ st', st' = { st with U := upd st.U k ⟨(st.U k).nm, pl, (st.U k).own⟩ } := ⟨_, rfl⟩
  have keep : ∀ a o, (a, o) ∈ A → a ≠ uda → a ≠ fda k → (a, o) ∈ put A uda od' := fun a o h h1 _ => mem_put h h1
  have hnm : ∀ j, (st'.U j).nm = (st.U j).nm := fun j => by
    rw [hst]
    by_cases e : j = k
    · subst e; simp only [upd_self]
    · simp only [upd_ne _ _ e]
  have hr : ∀ j, recsOf st' j = recsOf st j := fun j => by
    unfold recsOf
    rw [hnm]
    by_cases h : (st.U j).nm = Str.ofString ""
    · rw [if_pos h, if_pos h, hst]
      by_cases e : j = k
      · subst e; simp only [upd_self]
      · simp only [upd_ne _ _ e]
    · rw [if_neg h, if_neg h, hst]
  have hp : (st'.U k).pl = pl := by rw [hst]; simp only [upd_self]
  have hks : st'.ks = st.ks := by rw [hst]
  have hns : st'.ns = st.ns := by rw [hst]
  have hU : ∀ j, j ≠ k → st'.U j = st.U j := fun j e => by rw [hst]; exact upd_ne _ _ e
  have hF : ∀ x, st'.F x = st.F x := fun x => by rw [hst]
  rw [← hst]
  have n12 : fda k ≠ uda := fun e => unit_file u.uD (fn _ _ _ (e ▸ u.fd) u.ud ▸ u.fD)
  refine ⟨uo, fo, kvU, kvF, fa, fda, ga, mem_put' I.u (Ne.symm u.n1), mem_put' I.f (Ne.symm u.n2), I.uD, I.fD, hks ▸ I.ku, hns ▸ I.kf, fun j hj => ?_, fun x hx => ?_, hks ▸ I.sep, I.ne⟩
  · rw [hks] at hj
    by_cases e : j = k
    · subst e
      exact ⟨ua, uda, od', fod, ra, rn, u.at_, mem_put' u.ui (fun e => unit_inst u.uD (fn _ _ _ u.ud (e ▸ u.ui))), put_self _ _ _, by rw [hp]; exact hod', mem_put' u.fi (fun e => unit_inst u.uD (fn _ _ _ u.ud (e ▸ u.fi))),
        mem_put' u.fd n12, by rw [hnm]; exact u.fD, by rw [hr]; exact mem_put' u.r (fun e => unit_list u.uD (fn _ _ _ u.ud (e ▸ u.r))), by rw [hnm]; exact u.g, u.n1, u.n2, u.n3, u.n4⟩
    · obtain ⟨ua', uda', od'', fod'', ra', rn', v⟩ := I.units j hj
      exact ⟨_, _, _, _, _, _, unit_kept fn u keep v e (fun c => e (I.sep j hj k hk c)) (hU j e) (hr j)⟩
  · rw [hns] at hx
    obtain ⟨gd, fod'', ra', rn', v⟩ := I.files x hx
    refine ⟨gd, fod'', ra', rn', v.mono (mem_put' v.fi (fun e => unit_inst u.uD (fn _ _ _ u.ud (e ▸ v.fi)))) (mem_put' v.fd (fun e => unit_file u.uD (fn _ _ _ (e ▸ v.fd) u.ud ▸ v.fD))) (mem_put' v.r (fun e => unit_list u.uD (fn _ _ _ u.ud (e ▸ v.r)))) rfl (hF x)⟩
end
section
variable {w : World} {gd : Option (List Code)} {env : Env} {A₀ : Around} {base h₀ : Heap} {L : Addr} {m mg mb : Str → Option Value} {mean : ExcName → Option Value} {s : Shared} {Q E : Value → Shared → Prop}
    {A R : List (Addr × Obj)} {fd ud wa wda sa sda : Addr} {wo o : Obj} {tn : Tok} {num : Int} {bd : Nat} {st : St}
theorem law_read_any (B : Below A₀ base [] h₀) (F : Fr h₀ L s.heap m) (X : (hd.heap_1 w.params).In h₀) (N : News h₀ L s.heap (A ++ R)) (T : Top view (looseW view []) mean mg mb h₀) (XB : (hd.heap_1 w.params).In base) (TB : Top view (looseW view []) mean mg mb base)
    (hf : env.frame = some L) (hk : env.scope.kind = .function) (I : PInv w ud fd A st) (S : SOk st bd) (hbd : bd < 20) (D : Dis A R)
    (hwa : (wa, instObj 299 wda) ∈ R) (hwda : (wda, wo) ∈ R) (hwo : WorldD wo sa ud) (hin : num ∈ st.ks) (hp0 : (st.U num).pl = 0)
    (ret : ∀ A' DD n h' tk, PInv w ud fd A' { st with U := upd st.U num ⟨(st.U num).nm, (recsOf st num).length + 1, (st.U num).own⟩ } → Dis A' R → Fr h₀ L h' m → News h₀ L h' ((DD, listOf (recsOf st num).toArray n) :: (A' ++ R)) → (∀ p ∈ A' ++ R, @Ne Nat p.1 DD) → Q (.ref DD) { s with heap := h', toks := tk }) :
    wpAny (model P0 w) (At 400 1000 gd env []) (call (.ref 350) [.ref wa, .int num tn]) Q E s := (by exact kept : Kept _ (by
  have I₀ := I
  obtain ⟨uo, fo, kvU, kvF, fa, fda, ga, I⟩ := I
  have fn := fn_left (news_fn N)
  obtain ⟨ua, uda, od, fod, ra, rn, u⟩ := I.units num hin
  have u₀ := u
  have Ip := I
  have hlr := S.br num hin
  have hat := u.at_
  have huD := I.uD
  obtain ⟨g0, g1, g2, g3, g4, g5, p0, p1, p2, p3, p4, p5, p6, wi, wj, wk, wn, rfl⟩ := hwo
  have hod := u.uD
  rw [hp0] at hod
  have N2 := news_focus N (List.mem_append_left _ u.ud)
  have r2 : ∀ p ∈ R, p ∈ rest (A ++ R) uda := fun p hp => mem_rest.mpr ⟨List.mem_append_right _ hp, fun e => D _ u.ud p hp e.symm⟩
  have b2 : ∀ a o, (a, o) ∈ A → a ≠ uda → (a, o) ∈ rest (A ++ R) uda := fun a o h n => mem_rest.mpr ⟨List.mem_append_left _ h, n⟩
  have c1 : (ua, instObj 147 uda) ∈ rest (A ++ R) uda := b2 _ _ u.ui fun e => unit_inst u.uD (fn _ _ _ u.ud (e ▸ u.ui))
  have c2 : (fa num, instObj 105 (fda num)) ∈ rest (A ++ R) uda := b2 _ _ u.fi fun e => unit_inst u.uD (fn _ _ _ u.ud (e ▸ u.fi))
  have c3 : (fda num, fod) ∈ rest (A ++ R) uda := b2 _ _ u.fd fun e => unit_file u.uD (fn _ _ _ u.ud (e ▸ u.fd) ▸ u.fD)
  have c4 : (ra, listOf (recsOf st num).toArray rn) ∈ rest (A ++ R) uda := b2 _ _ u.r fun e => unit_list u.uD (fn _ _ _ u.ud (e ▸ u.r))
  have c5 : (ud, uo) ∈ rest (A ++ R) uda := b2 _ _ I.u (Ne.symm u.n1)
  have c6 : (wa, instObj 299 wda) ∈ rest (A ++ R) uda := r2 _ hwa
  have c7 := r2 _ hwda
  have hne := rest_ne (A ++ R) uda
  obtain ⟨l, hl⟩ : ∃ l, l = rest (A ++ R) uda := ⟨_, rfl⟩
  rw [← hl] at N2 c1 c2 c3 c4 c5 c6 c7 hne
  clear N
  refine wpAny_call ?_
  k_dflt k_enter
  k_steps
  rename_i FL hA l1 hB _ FB NB hC tkC t1 t2 t3 hr Fz Nz hkp
  have nFu : @Ne Nat uda FL := Nat.ne_of_lt l1.1
  have nFl : ∀ p ∈ l, @Ne Nat p.1 FL := ne_allLt l1.2
  have hFlt : ∀ p ∈ l, @LT.lt Nat _ p.1 FL := allLt_all l1.2
  clear l1 hA FB NB
  refine loop_range (y := Str.ofString "turn") (n := 20) (fun i nx => i ≤ (recsOf st num).length ∧ ∃ od' n', UnitD od' num (fa num) i ∧ nx = (uda, od') :: (FL, listOf ((recsOf st num).take i).toArray n') :: l) rfl (by k_asm) (news_swap (by k_asm)) hr rfl rfl ⟨Nat.zero_le _, od, 0, hod, rfl⟩
    (fun i t u nx I oI h9 tk9 hi hJ hI9 F9 N9 => ?_) (fun u nx h9 tk9 hJ F9 N9 => ?_)
  · obtain ⟨hi2, od', n', hod', rfl⟩ := hJ
    have e1 : @Ne Nat uda I := hI9 _ (.head _)
    have e2 : @Ne Nat FL I := hI9 _ (.tail _ (.head _))
    have e3 : ∀ p ∈ l, @Ne Nat p.1 I := fun p hp => hI9 _ (.tail _ (.tail _ hp))
    (try dsimp only at F9)
    k_steps
    refine held (wp_up (read_any (R := (I, oI) :: (FL, listOf ((recsOf st num).take i).toArray n') :: l) (gd := _) (by k_asm) (by k_asm) (by k_asm) (news_swap (by k_asm)) (by k_asm) rfl rfl (.tail _ (.tail _ c1)) hod' (.tail _ (.tail _ c2)) (.tail _ (.tail _ c3)) u₀.fD (.tail _ (.tail _ c4)) (by omega) (fun p hp => ?_) hi2 ?_ ?_) rfl (Nat.le_of_ble_eq_true rfl) rfl rfl (Nat.le_of_ble_eq_true rfl))
    · rcases List.mem_cons.mp hp with rfl | hp
      · exact Ne.symm e1
      rcases List.mem_cons.mp hp with rfl | hp
      · exact Ne.symm nFu
      · exact hne p hp
    · intro v od'' h' tk hv hod'' F' N'
      k_steps
      (rename News _ _ _ ((uda, _) :: _) => Nq)
      rw [show ((recsOf st num).take i).toArray.push v = ((recsOf st num).take (i + 1)).toArray from by rw [List.take_add_one, hv, List.push_toArray]; rfl] at Nq
      have hlt : i < (recsOf st num).length := (List.getElem?_eq_some_iff.mp hv).1
      refine ⟨_, _, _, (uda, od'') :: (FL, listOf ((recsOf st num).take (i + 1)).toArray (n' + 1)) :: l, rfl, by k_asm, fun z h1 h2 => off2 h1 h2, news_swap Nq, fun p hp => ?_, hlt, _, _, hod'', rfl⟩
      rcases List.mem_cons.mp hp with rfl | hp
      · exact e1
      rcases List.mem_cons.mp hp with rfl | hp
      · exact e2
      · exact e3 p hp
    · intro G h' tk e od'' hlen hod'' F' R' U'
      (rename Below _ _ [env] _ => Bn)
      refine caught_own (KF := hd.heap_1 w.params) (C := 82) R' F' Bn U' XB TB (by k_is) (by with_unfolding_all rfl) ?_
      intro h'' g'' Tn F'' N'' B'' X'' T''
      simp only [List.filterMap_cons, List.filterMap_nil, hf] at Tn
      k_steps
      have htk : (recsOf st num).take i = recsOf st num := List.take_of_length_le (by omega)
      (rename News h₀ L _ ((uda, _) :: _) => Nq)
      rw [htk] at Nq
      refine ret (put A uda od'') FL n' _ _ (pin_place Ip fn hin u₀ (hlen ▸ hod'')) (dis_put D u₀.ud) (by k_asm) (news_sub Nq fun p hp => ?_) fun p hp => ?_
      · rcases List.mem_cons.mp hp with rfl | hp
        · exact .tail _ (.tail _ (.head _))
        rcases List.mem_append.mp hp with hp | hp
        · rcases of_put hp with rfl | ⟨hp, n1⟩
          · exact .head _
          · exact .tail _ (.tail _ (.tail _ (hl ▸ mem_rest.mpr ⟨List.mem_append_left _ hp, n1⟩)))
        · exact .tail _ (.tail _ (.tail _ (hl ▸ r2 p hp)))
      · rcases List.mem_append.mp hp with hp | hp
        · rcases of_put hp with rfl | ⟨hp, n1⟩
          · exact nFu
          · exact nFl p (hl ▸ mem_rest.mpr ⟨List.mem_append_left _ hp, n1⟩)
        · exact nFl p (hl ▸ r2 p hp)
  · obtain ⟨hi2, -⟩ := hJ
    omega))
end
end
section
theorem words_MainOf : True := by
  k_with "exec Assign cons ListComp" => (first | (k_here; refine hold ?_) | fail)
  k_with "CompSrcT" => (first | (k_here; refine hold ?_) | fail)
  k_with "CompEnd" => (first | (k_here; refine hold ?_) | fail)
  k_with "call builtin:len" => (first | (k_here; (with_reducible show wpAny _ _ (call (Value.builtin "len") [Value.ref _]) _ _ _); k_dflt (refine' KM.len_K ?qzN ?qzm ?qzs ?qzf ?_; (case qzN => k_asm); (case qzm => k_mem); (case qzs => exact List.size_toArray); (case qzf => omega); k_whole)) | fail)
  trivial
/-- the attributes of a program unit's tree -/
inductive TreeD (o : Obj) (kd nm : Str) : Prop where
  | mk (h0 h1 h2 h3 h4 h5 h6 h7 h8 h9 h10 h11 h12 h13 : Int) (t0 t1 t2 t3 t4 t5 t6 t7 t8 t9 t10 t11 t12 t13 u0 u1 : Tok) (a2 a3 a4 a5 a6 a7 a9 a10 a11 a12 a13 : Addr) (n : Nat) (e : o = dictOf [⟨h0, .str (Str.ofString "kind") t0, .str kd u0⟩, ⟨h1, .str (Str.ofString "name") t1, .str nm u1⟩, ⟨h2, .str (Str.ofString "dummies") t2, .ref a2⟩, ⟨h3, .str (Str.ofString "entries") t3, .ref a3⟩, ⟨h4, .str (Str.ofString "symbols") t4, .ref a4⟩,
      ⟨h5, .str (Str.ofString "statements") t5, .ref a5⟩, ⟨h6, .str (Str.ofString "formats") t6, .ref a6⟩, ⟨h7, .str (Str.ofString "labels") t7, .ref a7⟩, ⟨h8, .str (Str.ofString "result") t8, .none⟩, ⟨h9, .str (Str.ofString "commons") t9, .ref a9⟩,
      ⟨h10, .str (Str.ofString "equivs") t10, .ref a10⟩, ⟨h11, .str (Str.ofString "datas") t11, .ref a11⟩, ⟨h12, .str (Str.ofString "saves") t12, .ref a12⟩, ⟨h13, .str (Str.ofString "constants") t13, .ref a13⟩] n) : TreeD o kd nm
/-- the units of a program in the ledger -/
def TreesIn (news : List (Addr × Obj)) (vs : List Value) (kd nm : Nat → Str) : Prop :=
  ∀ i v, vs[i]? = some v → ∃ ua uda od, v = .ref ua ∧ (ua, instObj 278 uda) ∈ news ∧ (uda, od) ∈ news ∧ TreeD od (kd i) (nm i)
/-- the places of the main programs among the first -/
def mains (kd : Nat → Str) (n : Nat) : List Nat := (List.range n).filter fun i => kd i == Str.ofString "program"
section
open LCg LCt
variable {prog : Program} {w : World} {A : Around} {E : Value → Shared → Prop} {s : Shared} {h₀ : Heap} {L : Addr} {m : Str → Option Value} {env : Env}
theorem compRestT_all {ct elt : Expr} {x : Str} {scope : Scope} {cl : List (Str × Addr)} {s : Shared} {S : List (Addr × Obj) → Prop} {P : Nat → Value → Prop} {Fin : List Value → List (Addr × Obj) → Prop} {news : List (Addr × Obj)} (Inv : Nat → List Value → Prop)
    (step : ∀ i ys v I oI C oC D m₂ h tk (E' : Value → Shared → Prop), P i v → Inv i ys → NsObj oC m₂ → m₂ x = some v → Fr h₀ L h m → News h₀ L h ((I, oI) :: (C, oC) :: (D, lst ys) :: news) → Off3 I C D news → ((@Ne Nat I C) ∧ (@Ne Nat I D) ∧ (@Ne Nat C D)) →
      wpAny (model prog w) A (isTrue ct (compEnvC scope cl C env) (eval ct (compEnvC scope cl C env))) (fun ok s' => if ok = true then
        wpAny (model prog w) A (eval elt (compEnvC scope cl C env)) (CompEnd h₀ L m { s with heap := h, toks := tk } I oI C oC D (lst ys) S (fun y news' => news' = news ∧ Inv (i + 1) (ys ++ [y]))) E' s'
        else CompEnd h₀ L m { s with heap := h, toks := tk } I oI C oC D (lst ys) S (fun _ news' => news' = news ∧ Inv (i + 1) ys) Value.none s') E' { s with heap := h, toks := tk }) :
    ∀ k i ys, Inv i ys → (∀ zs, Inv (i + k) zs → Fin zs news) → CompRestT prog w A h₀ L m env ct elt x scope cl s S P Fin k i ys news
  | 0, _, ys, h, fin => fin ys h
  | k + 1, i, ys, h, fin => fun v I oI C oC D m₂ hp tk E' hP hN hx F N off ne =>
    wpAny_mono (step i ys v I oI C oC D m₂ hp tk E' hP h hN hx F N off ne) (fun ok s₂ q => by
      have up : ∀ zs, Inv (i + 1) zs → CompRestT prog w A h₀ L m env ct elt x scope cl s S P Fin k (i + 1) zs news := fun zs hz => compRestT_all Inv step k (i + 1) zs hz fun zs' h' => fin zs' (by rwa [show i + (k + 1) = i + 1 + k by omega])
      cases ok with
      | true =>
        rw [if_pos rfl] at q ⊢
        exact wpAny_mono q (fun y s₃ ⟨h', tk', news', e, F', N', off', hS, hn, hI⟩ => ⟨h', tk', news', e, F', N', off', hS, hn ▸ up _ hI⟩) fun _ _ e => e
      | false =>
        rw [if_neg Bool.false_ne_true] at q ⊢
        obtain ⟨h', tk', news', e, F', N', off', hS, hn, hI⟩ := q
        exact ⟨h', tk', news', e, F', N', off', hS, hn ▸ up _ hI⟩) fun _ _ e => e
end
section
variable {w : World} {gd : Option (List Code)} {env : Env} {outer : List Env} {A₀ : Around} {base h₀ : Heap} {L : Addr} {m mg mb : Str → Option Value} {mean : ExcName → Option Value} {s : Shared} {Q E : Value → Shared → Prop}
    {news : List (Addr × Obj)} {ul : Addr} {vs : List Value} {un : Nat} {kd nm : Nat → Str}
theorem main_of_any (B : Below A₀ base outer h₀) (F : Fr h₀ L s.heap m) (X : (hd.heap_1 w.params).In h₀) (N : News h₀ L s.heap news) (T : Top view (looseW view []) mean mg mb h₀)
    (hf : env.frame = some L) (hk : env.scope.kind = .function) (hul : (ul, listOf vs.toArray un) ∈ news) (hl : vs.length < 60) (hT : TreesIn news vs kd nm)
    (ret : ∀ j v, mains kd vs.length = [j] → vs[j]? = some v → ∀ h' tk, Fr h₀ L h' m → News h₀ L h' news → Q v { s with heap := h', toks := tk })
    (raised : (mains kd vs.length).length ≠ 1 → ∀ G h' tk e, Fr h₀ L G m → RaisedSN base G (env :: outer) e (.ref 44) news h' → G.UpToSlots h' → E (.ref e) { s with heap := h', toks := tk }) :
    wpAny (model P0 w) (At 500 1500 gd env outer) (call (.ref 254) [.ref ul]) Q E s := (by exact kept : Kept _ (by
  refine wpAny_call ?_
  k_dflt k_enter
  k_steps
  refine held (LCt.Assign_ListComp_T (F₀ := by k_asm) (by rfl) (by with_unfolding_all rfl) (by with_unfolding_all rfl) (by decide) (by rfl) (by decide) (by rfl) (by rfl) (by rfl) ?_)
  k_steps
  refine held (LCt.CompSrcT.ledger (by rfl) (by k_asm) (by k_asm) hul (by rw [List.size_toArray, PySem.sizeLine_eq]; omega) ?_)
  intro g'
  refine compRestT_all (fun i ys => ys = (mains kd i).map fun j => vs.getD j .none) ?_ _ 0 [] rfl ?_
  · intro i ys v I oI C oC D m₂ hp tk' E' hP hI hN hx F N off ne
    rw [List.getElem?_toArray] at hP
    obtain ⟨ua, uda, od, rfl, q1, q2, ⟨h0, h1, h2, h3, h4, h5, h6, h7, h8, h9, h10, h11, h12, h13, t0, t1, t2, t3, t4, t5, t6, t7, t8, t9, t10, t11, t12, t13, u0, u1, a2, a3, a4, a5, a6, a7, a9, a10, a11, a12, a13, n, rfl⟩⟩ := hT i v hP
    have hm : mains kd (i + 1) = mains kd i ++ (if kd i == Str.ofString "program" then [i] else []) := by
      unfold mains
      rw [List.range_succ, List.filter_append]
      congr 1
      simp only [List.filter_cons, List.filter_nil]
    have hg : vs.getD i .none = .ref ua := by rw [List.getD_eq_getElem?_getD, hP]; rfl
    cases hkd : kd i == Str.ofString "program"
    all_goals
      rw [hkd] at hm
      k_steps
      refine held (LCg.CompEnd.intro (by k_asm) (by k_asm) _ (fun p hp => hp) off (.inr ⟨_, hul, rfl, _, rfl⟩) ⟨rfl, ?_⟩)
      rw [hI, hm]
      first
      | (rw [if_pos rfl, List.map_append, List.map_singleton, hg]; done)
      | (rw [if_neg Bool.false_ne_true, List.append_nil]; done)
  · intro zs hz
    rw [Nat.zero_add, List.size_toArray] at hz
    have hzl : zs.length = (mains kd vs.length).length := by rw [hz, List.length_map]
    have hzb : (mains kd vs.length).length ≤ vs.length := by
      unfold mains
      exact Nat.le_trans (List.length_filter_le _ _) (Nat.le_of_eq List.length_range)
    have hzc : zs.length < 60 := by omega
    by_cases h1 : (mains kd vs.length).length = 1
    · obtain ⟨j, hj⟩ := List.length_eq_one_iff.mp h1
      have hjl : j < vs.length := by
        have : j ∈ mains kd vs.length := by rw [hj]; exact .head _
        exact List.mem_range.mp (List.mem_filter.mp this).1
      rw [hj] at hz
      subst hz
      have hv : vs[j]? = some (vs.getD j .none) := by
        rw [List.getD_eq_getElem?_getD, List.getElem?_eq_getElem hjl]; rfl
      k_steps
      · exact absurd (show (((List.map (fun j => vs.getD j Value.none) [j]).length : Nat) : Int) = 1 from rfl) (by assumption)
      · exact ret j _ hj hv _ _ (by k_asm) (news_tl (by k_asm))
    · have hz1 : zs.length ≠ 1 := fun c => h1 (hzl ▸ c)
      k_steps
      · exact raised h1 _ _ _ _ (by assumption) (raised_sub (by assumption) fun p hp => .tail _ hp) (by assumption)
      · exfalso; omega))
end
end
theorem words_again_LawMain : True := by
  k_with_none
  k_with "spliced" => (first | (k_here; k_dflt (first | refine args_cons ?_ | refine args_nil ⟨Fr.keep (by assumption) _ _ (by assumption), ?_⟩ | (refine args_nil ?_; try simp only [List.cons_append, List.nil_append]))) | fail)
  k_with "setItem ref int" => (first | (k_extra "setItem ref") | fail)
  k_with "subscriptTail Name" => (first | (k_extra "subscriptTail") | fail)
  k_with "subscriptTail Subscript" => (first | (first | k_extra "subscriptTail" | (k_here; kda_here; first | ((with_reducible show wpAny _ _ (subscriptTail _ _ (Value.ref _) (Value.str _ _)) _ _ _); k_dflt (refine kdt_tail (knd := PySem.strKind _ _) (by k_asm) (by k_mem) (by k_asm) ?_)) | ((with_reducible show wpAny _ _ (subscriptTail _ _ (Value.ref _) (Value.int _ _)) _ _ _); k_dflt (refine kdt_tail (knd := PySem.intKind _ _) (by k_asm) (by k_mem) (by k_asm) ?_)))) | fail)
  k_with "cj" => (first | (first | assumption | exact And.left (by assumption) | exact And.right (by assumption) | exact And.left (And.right (by assumption)) | exact And.right (And.right (by assumption)) | exact And.left (And.right (And.right (by assumption))) | exact And.right (And.right (And.right (by assumption))) | exact And.left (And.right (And.right (And.right (by assumption)))) | exact And.right (And.right (And.right (And.right (by assumption)))) | exact And.left (And.right (And.right (And.right (And.right (by assumption))))) | exact And.right (And.right (And.right (And.right (And.right (by assumption))))) | exact And.left (And.right (And.right (And.right (And.right (And.right (by assumption)))))) | exact And.right (And.right (And.right (And.right (And.right (And.right (by assumption)))))) | exact And.left (And.right (And.right (And.right (And.right (And.right (And.right (by assumption))))))) | exact And.right (And.right (And.right (And.right (And.right (And.right (And.right (by assumption))))))) | exact And.left (And.right (And.right (And.right (And.right (And.right (And.right (And.right (by assumption)))))))) | exact And.right (And.right (And.right (And.right (And.right (And.right (And.right (And.right (by assumption)))))))) | exact And.left (And.right (And.right (And.right (And.right (And.right (And.right (And.right (And.right (by assumption))))))))) | exact And.right (And.right (And.right (And.right (And.right (And.right (And.right (And.right (And.right (by assumption))))))))) | exact And.left (And.right (And.right (And.right (And.right (And.right (And.right (And.right (And.right (And.right (by assumption)))))))))) | exact And.right (And.right (And.right (And.right (And.right (And.right (And.right (And.right (And.right (And.right (by assumption)))))))))) | exact And.left (And.right (And.right (And.right (And.right (And.right (And.right (And.right (And.right (And.right (And.right (by assumption))))))))))) | exact And.right (And.right (And.right (And.right (And.right (And.right (And.right (And.right (And.right (And.right (And.right (by assumption))))))))))) | exact And.left (And.right (And.right (And.right (And.right (And.right (And.right (And.right (And.right (And.right (And.right (And.right (by assumption)))))))))))) | exact And.right (And.right (And.right (And.right (And.right (And.right (And.right (And.right (And.right (And.right (And.right (And.right (by assumption)))))))))))) | exact And.left (And.right (And.right (And.right (And.right (And.right (And.right (And.right (And.right (And.right (And.right (And.right (And.right (by assumption))))))))))))) | exact And.right (And.right (And.right (And.right (And.right (And.right (And.right (And.right (And.right (And.right (And.right (And.right (And.right (by assumption))))))))))))) | exact And.left (And.right (And.right (And.right (And.right (And.right (And.right (And.right (And.right (And.right (And.right (And.right (And.right (And.right (by assumption)))))))))))))) | exact And.right (And.right (And.right (And.right (And.right (And.right (And.right (And.right (And.right (And.right (And.right (And.right (And.right (And.right (by assumption)))))))))))))) | exact And.left (And.right (And.right (And.right (And.right (And.right (And.right (And.right (And.right (And.right (And.right (And.right (And.right (And.right (And.right (by assumption))))))))))))))) | exact And.right (And.right (And.right (And.right (And.right (And.right (And.right (And.right (And.right (And.right (And.right (And.right (And.right (And.right (And.right (by assumption)))))))))))))))) | fail)
  k_with "om" => (first | (first | ((repeat ((with_reducible rename _ ∧ _ => hz9); clear hz9)); (repeat ((with_reducible rename @Ne _ _ _ => hz9); clear hz9)); omega) | ((repeat ((with_reducible rename @Ne _ _ _ ∧ _ => hz9); clear hz9)); (repeat ((with_reducible rename (_ ∧ _) ∧ _ => hz9); clear hz9)); (repeat ((with_reducible rename @Ne _ _ _ => hz9); clear hz9)); omega) | omega) | fail)
  k_with "k_ne" => (first | (refine neN ?_; (try dsimp only); (first | with_reducible assumption | ((repeat ((with_reducible rename @Ne _ _ _ ∧ _ => hz9); clear hz9)); (repeat ((with_reducible rename (_ ∧ _) ∧ _ => hz9); clear hz9)); (repeat ((with_reducible rename @Ne _ _ _ => hz9); clear hz9)); omega) | with_reducible (first | exact Ne.symm (by assumption) | exact Nat.ne_of_lt (by k_extra "cj") | exact Nat.ne_of_gt (by k_extra "cj") | (k_extra "cj") | exact Ne.symm (by k_extra "cj")) | omega)) | fail)
  k_with "k_enter" => (first | (refine' q_def ?qzk1 ?qzk2 ?qzk3 ?qzk4 ?qzk5 ?qzkA ?qzkF ?qzkK ?qzk6 ?qzk7 ?qzk8 ?qzk9 ?qzkB ?_ ?qzc2 ?qzc3 ?qzc4 ?qzc5; (case qzkA => exact rfl); (case qzkF => first | assumption | exact rfl); (case qzkK => first | assumption | exact rfl); (case qzk1 => k_asm); (case qzk2 => k_asm); (case qzk3 => k_asm); (case qzk4 => k_asm); (case qzk5 => k_asm); (case qzk6 => k_is); (case qzk7 => k_is); (case qzk8 => exact Nat.le_of_ble_eq_true rfl); (case qzk9 => first | ((with_reducible show BindsTo _ _ (Args.mk [_, _] []) _); exact bt2 rfl) | ((with_reducible show BindsTo _ _ (Args.mk [_] []) _); exact bt1 rfl) | ((with_reducible show BindsTo _ _ (Args.mk [_, _, _] []) _); exact bt3 rfl) | ((with_reducible show BindsTo _ _ (Args.mk [_, _, _, _] []) _); exact bt4 rfl) | ((with_reducible show BindsTo _ _ (Args.mk [_, _, _, _, _] []) _); exact bt5 rfl) | ((with_reducible show BindsTo _ _ (Args.mk [_, _, _, _, _, _] []) _); exact bt6 rfl) | ((with_reducible show BindsTo _ _ (Args.mk [] []) _); exact bt0 rfl) | exact BindsTo.of_eq rfl); (case qzc5 => decide); (case qzkB => exact locs rfl); (case qzc2 => exact rfl); (case qzc3 => exact rfl); (case qzc4 => exact rfl); k_whole; intro _ _ _ _ _ _ _ _ _ _ _ _ _ _ _; (try dsimp only); (try k_fold)) | fail)
  k_with "k_all" => (first | ((fail_if_success (with_reducible refine List.forall_mem_cons.mpr ?_)); (first | with_reducible (first | exact ne_allLt (by assumption) | exact ne_allLt (And.right (by assumption)) | exact ne_allLt (And.right (And.right (by assumption))) | exact ne_allLt (And.right (And.right (And.right (by assumption)))) | exact ne_allLt (And.right (And.right (And.right (And.right (by assumption))))) | exact ne_allLt (And.right (And.right (And.right (And.right (And.right (by assumption)))))) | exact ne_allLt (And.right (And.right (And.right (And.right (And.right (And.right (by assumption))))))) | exact ne_allLt (And.right (And.right (And.right (And.right (And.right (And.right (And.right (by assumption)))))))) | exact ne_allLt (And.right (And.right (And.right (And.right (And.right (And.right (And.right (And.right (by assumption))))))))) | exact ne_allLt (And.right (And.right (And.right (And.right (And.right (And.right (And.right (And.right (And.right (by assumption)))))))))) | exact ne_allLt (And.right (And.right (And.right (And.right (And.right (And.right (And.right (And.right (And.right (And.right (by assumption))))))))))) | exact ne_allLt (And.right (And.right (And.right (And.right (And.right (And.right (And.right (And.right (And.right (And.right (And.right (by assumption)))))))))))) | exact ne_allLt (And.right (And.right (And.right (And.right (And.right (And.right (And.right (And.right (And.right (And.right (And.right (And.right (by assumption))))))))))))) | exact ne_allLt (And.right (And.right (And.right (And.right (And.right (And.right (And.right (And.right (And.right (And.right (And.right (And.right (And.right (by assumption)))))))))))))) | exact ne_allLt (And.right (And.right (And.right (And.right (And.right (And.right (And.right (And.right (And.right (And.right (And.right (And.right (And.right (And.right (by assumption)))))))))))))))) | (first | exact ne_allLt (by assumption) | exact ne_allLt (And.right (by assumption)) | exact ne_allLt (And.right (And.right (by assumption))) | exact ne_allLt (And.right (And.right (And.right (by assumption)))) | exact ne_allLt (And.right (And.right (And.right (And.right (by assumption))))) | exact ne_allLt (And.right (And.right (And.right (And.right (And.right (by assumption)))))) | exact ne_allLt (And.right (And.right (And.right (And.right (And.right (And.right (by assumption))))))) | exact ne_allLt (And.right (And.right (And.right (And.right (And.right (And.right (And.right (by assumption)))))))) | exact ne_allLt (And.right (And.right (And.right (And.right (And.right (And.right (And.right (And.right (by assumption))))))))) | exact ne_allLt (And.right (And.right (And.right (And.right (And.right (And.right (And.right (And.right (And.right (by assumption)))))))))) | exact ne_allLt (And.right (And.right (And.right (And.right (And.right (And.right (And.right (And.right (And.right (And.right (by assumption))))))))))) | exact ne_allLt (And.right (And.right (And.right (And.right (And.right (And.right (And.right (And.right (And.right (And.right (And.right (by assumption)))))))))))) | exact ne_allLt (And.right (And.right (And.right (And.right (And.right (And.right (And.right (And.right (And.right (And.right (And.right (And.right (by assumption))))))))))))) | exact ne_allLt (And.right (And.right (And.right (And.right (And.right (And.right (And.right (And.right (And.right (And.right (And.right (And.right (And.right (by assumption)))))))))))))) | exact ne_allLt (And.right (And.right (And.right (And.right (And.right (And.right (And.right (And.right (And.right (And.right (And.right (And.right (And.right (And.right (by assumption)))))))))))))))))) | fail)
  k_with "k_all" => (first | ((fail_if_success (with_reducible refine List.forall_mem_cons.mpr ?_)); (first | with_reducible assumption | assumption)) | fail)
  k_with "k_all" => (first | (refine' ne_cons_of ?qzyh ?qzyg; (case qzyh => with_reducible assumption); (case qzyg => exact id)) | fail)
  k_with "k_mem" => (first | (first | exact List.Mem.head _ | (refine List.mem_cons_of_mem _ ?_; (first | exact List.Mem.head _ | (refine List.mem_cons_of_mem _ ?_; (first | exact List.Mem.head _ | (refine List.mem_cons_of_mem _ ?_; (first | exact List.Mem.head _ | (refine List.mem_cons_of_mem _ ?_; (first | exact List.Mem.head _ | (refine List.mem_cons_of_mem _ ?_; (first | exact List.Mem.head _ | (refine List.mem_cons_of_mem _ ?_; (first | exact List.Mem.head _ | (refine List.mem_cons_of_mem _ ?_; (first | exact List.Mem.head _ | (refine List.mem_cons_of_mem _ ?_; (first | exact List.Mem.head _ | (refine List.mem_cons_of_mem _ ?_; (first | exact List.Mem.head _ | (refine List.mem_cons_of_mem _ ?_; (first | exact List.Mem.head _ | (refine List.mem_cons_of_mem _ ?_; (first | exact List.Mem.head _ | (refine List.mem_cons_of_mem _ ?_; (first | exact List.Mem.head _ | (refine List.mem_cons_of_mem _ ?_; (first | exact List.Mem.head _ | (refine List.mem_cons_of_mem _ ?_; (first | exact List.Mem.head _ | (refine List.mem_cons_of_mem _ ?_; (first | exact List.Mem.head _ | (refine List.mem_cons_of_mem _ ?_; (first | exact List.Mem.head _ | (refine List.mem_cons_of_mem _ ?_; (first | exact List.Mem.head _ | (refine List.mem_cons_of_mem _ ?_; (first | exact List.Mem.head _ | (refine List.mem_cons_of_mem _ ?_; (first | exact List.Mem.head _ | (refine List.mem_cons_of_mem _ ?_; (first | exact List.Mem.head _ | assumption)) | assumption)) | assumption)) | assumption)) | assumption)) | assumption)) | assumption)) | assumption)) | assumption)) | assumption)) | assumption)) | assumption)) | assumption)) | assumption)) | assumption)) | assumption)) | assumption)) | assumption)) | assumption)) | assumption)) | assumption) | fail)
  k_with "eval Name" => (first | (k_here; (with_reducible refine' q_name ?qza ?qzb ?qzc ?qzF ?qzv ?_); k_dflt ((case qzF => k_asm); (case qzc => exact fun _ _ => rfl); (case qzv => rfl); (case qza => rfl); (case qzb => decide); k_whole)) | fail)
  k_with "storeName" => (first | (k_here; (with_reducible refine' q_store ?qza ?qzb ?qzF ?qzN ?_); k_dflt ((case qzF => k_asm); (case qzN => k_asm); (case qzb => exact fun _ _ => rfl); (case qza => rfl); k_whole; intro _ _ _ _; (try k_sweep))) | fail)
  k_with "eval Constant str" => (first | (k_here; with_reducible refine q_str ?_) | fail)
  k_with "eval Constant int" => (first | (k_here; with_reducible refine q_int ?_) | fail)
  k_with "spliced" => (first | (k_here; (with_reducible refine args_nil ?_); (try dsimp only [List.cons_append, List.nil_append])) | fail)
  k_with "spliced" => (first | (k_here; with_reducible refine q_args ?_) | fail)
  k_with "spliced" => (first | (k_here; (with_reducible refine' q_arg ?qza ?qzb ?qzc ?qzF ?qzv ?_); k_dflt ((case qzF => k_asm); (case qzc => exact fun _ _ => rfl); (case qzv => rfl); (case qza => rfl); (case qzb => decide); k_whole)) | fail)
  k_with "spliced" => (first | (k_here; (with_reducible refine' q_arg1 ?qza ?qzb ?qzc ?qzF ?qzv ?_); k_dflt ((case qzF => k_asm); (case qzc => exact fun _ _ => rfl); (case qzv => rfl); (case qza => rfl); (case qzb => decide); k_whole); (try dsimp only [List.cons_append, List.nil_append])) | fail)
  k_with "execs cons" => (first | (k_here; (try k_gentoks); (first | ((with_reducible refine q_assign ?qzhs ?_); (fail_if_success with_reducible show wpAny _ _ (eval (PySem.Expr.ListComp _ _ _ _) _) _ _ _); (case qzhs => with_unfolding_all rfl)) | with_reducible refine q_return ?_ | with_reducible refine q_if ?_); (try dsimp only); (try k_fold)) | fail)
  k_with "getAttr ref" => (first | (k_here; (with_reducible refine' q_own ?qzk1 ?qzk2 ?qzk3 ?qzk4 ?qzk5 ?qzk6 ?qzk7 ?qzk8 ?qzk9 ?_); k_dflt ((case qzk1 => k_asm); (case qzk2 => k_asm); (case qzk3 => k_inst); (case qzk4 => k_is); (case qzk5 => k_is); (case qzk6 => k_is); (case qzk7 => k_is); (case qzk8 => k_get); (case qzk9 => k_handed); k_whole)) | fail)
  k_with "TurnEnd cons ret" => (first | (k_here; dsimp only [TurnEnd]) | fail)
  k_with "spliced" => (first | (k_here; (with_reducible refine' q_sargs ?qzhk ?qzF ?qzz ?qzS ?_); k_dflt ((case qzhk => rfl); (case qzF => k_asm); (case qzz => exact fun _ _ => rfl); (case qzS => exact rfl); k_whole); (try dsimp only [List.cons_append, List.nil_append])) | fail)
  k_with "eval Call" => (first | (k_here; (with_reducible refine' q_gcall ?qzhk ?qzF ?qzX ?qzT ?qzhx ?qzhd ?qzhv ?qzhf ?qzz ?qzS ?_); k_dflt ((case qzhk => rfl); (case qzF => k_asm); (case qzz => exact fun _ _ => rfl); (case qzS => exact rfl); (case qzX => k_asm); (case qzT => assumption); (case qzhx => exact fun _ _ => rfl); (case qzhd => decide); (case qzhv => k_is); (case qzhf => k_is); k_whole)) | fail)
  k_with "isTrue Compare" => (first | (k_here; (with_reducible refine' q_cmps ?qzhm ?qzhk ?qzF ?qzz ?qzS ?_); k_dflt ((case qzhk => rfl); (case qzF => k_asm); (case qzz => exact fun _ _ => rfl); (case qzS => exact rfl); (case qzhm => with_unfolding_all rfl); k_whole)) | fail)
  k_with "eval Subscript" => (first | (k_here; (with_reducible refine' q_sub ?qzhk ?qzF ?qzz ?qzS ?_); k_dflt ((case qzhk => rfl); (case qzF => k_asm); (case qzz => exact fun _ _ => rfl); (case qzS => exact rfl); k_whole)) | fail)
  k_with "execs cons" => (first | (k_here; (try k_gentoks); (with_reducible refine' q_rets ?qzhk ?qzF ?qzz ?qzS ?_); k_dflt ((case qzhk => rfl); (case qzF => k_asm); (case qzz => exact fun _ _ => rfl); (case qzS => exact rfl); k_whole); (try dsimp only); (try k_fold)) | fail)
  k_with "eval Attribute Name" => (first | (k_here; (with_reducible refine' q_attr ?qzhk ?qzF ?qzz ?qzS ?_); k_dflt ((case qzhk => rfl); (case qzF => k_asm); (case qzz => exact fun _ _ => rfl); (case qzS => exact rfl); k_whole)) | fail)
  k_with "getMethod ref" => (first | (k_here; (with_reducible show wpAny _ _ (getMethod (Value.ref _) (Str.ofString "get") _) _ _ _); k_dflt (first | (refine' kdg_method (knd := PySem.strKind _ _) ?qzN ?qzm ?qzd ?_; (case qzN => k_asm); (case qzm => k_mem); (case qzd => k_asm); k_whole) | (refine' kdg_method (knd := PySem.intKind _ _) ?qzN ?qzm ?qzd ?_; (case qzN => k_asm); (case qzm => k_mem); (case qzd => k_asm); k_whole))) | fail)
  k_with "getMethod ref" => (first | (k_here; (with_reducible show wpAny _ _ (getMethod (Value.ref _) (Str.ofString "pop") _) _ _ _); k_dflt (first | (refine' kob_method (knd := PySem.strKind _ _) PySem.F.slot_dict_pop PySem.F.type_dict_pop ?qzN ?qzm ?qzd ?_; (case qzN => k_asm); (case qzm => k_mem); (case qzd => k_asm); k_whole) | (refine' kob_method (knd := PySem.intKind _ _) PySem.F.slot_dict_pop PySem.F.type_dict_pop ?qzN ?qzm ?qzd ?_; (case qzN => k_asm); (case qzm => k_mem); (case qzd => k_asm); k_whole))) | fail)
  k_with "getMethod ref" => (first | (k_here; (with_reducible show wpAny _ _ (getMethod (Value.ref _) (Str.ofString "setdefault") _) _ _ _); k_dflt (first | (refine' kob_method (knd := PySem.strKind _ _) PySem.F.slot_dict_setdefault PySem.F.type_dict_setdefault ?qzN ?qzm ?qzd ?_; (case qzN => k_asm); (case qzm => k_mem); (case qzd => k_asm); k_whole) | (refine' kob_method (knd := PySem.intKind _ _) PySem.F.slot_dict_setdefault PySem.F.type_dict_setdefault ?qzN ?qzm ?qzd ?_; (case qzN => k_asm); (case qzm => k_mem); (case qzd => k_asm); k_whole))) | fail)
  k_with "call builtin:dict.get" => (first | (k_here; (with_reducible show wpAny _ _ (call _ [_, _, _]) _ _ _); k_dflt (first | (refine' q_get2 (knd := PySem.strKind _ _) ?qzN ?qzm ?qzd ?qzlo ?qzk _ ?qzl ?_; (case qzN => k_asm); (case qzm => k_mem); (case qzd => k_asm); (case qzlo => exact lo_of (by k_asm) (by k_asm) (by k_mem)); (case qzk => exact strKind_is _ _ _ _); (case qzl => first | assumption | exact rfl); k_whole) | (refine' q_get2 (knd := PySem.intKind _ _) ?qzN ?qzm ?qzd ?qzlo ?qzk _ ?qzl ?_; (case qzN => k_asm); (case qzm => k_mem); (case qzd => k_asm); (case qzlo => exact lo_of (by k_asm) (by k_asm) (by k_mem)); (case qzk => exact intKind_is _ _ _ _); (case qzl => first | assumption | exact rfl); k_whole)); (try dsimp only [Option.getD])) | fail)
  k_with "call builtin:dict.get" => (first | (k_here; (with_reducible show wpAny _ _ (call _ [_, _]) _ _ _); k_dflt (first | (refine' q_get1 (knd := PySem.strKind _ _) ?qzN ?qzm ?qzd ?qzlo ?qzk _ ?qzl ?_; (case qzN => k_asm); (case qzm => k_mem); (case qzd => k_asm); (case qzlo => exact lo_of (by k_asm) (by k_asm) (by k_mem)); (case qzk => exact strKind_is _ _ _ _); (case qzl => first | assumption | exact rfl); k_whole) | (refine' q_get1 (knd := PySem.intKind _ _) ?qzN ?qzm ?qzd ?qzlo ?qzk _ ?qzl ?_; (case qzN => k_asm); (case qzm => k_mem); (case qzd => k_asm); (case qzlo => exact lo_of (by k_asm) (by k_asm) (by k_mem)); (case qzk => exact intKind_is _ _ _ _); (case qzl => first | assumption | exact rfl); k_whole)); (try dsimp only [Option.getD])) | fail)
  k_with "subscriptTail" => (first | (k_here; (with_reducible first | show wpAny _ _ (subscriptTail _ _ (Value.ref _) (Value.str _ _)) _ _ _ | show wpAny _ _ (subscriptTail _ _ (Value.ref _) (Value.int _ _)) _ _ _); k_dflt (first | (refine' q_item (knd := PySem.strKind _ _) ?qzN ?qzm ?qzd ?qzk ?qzl ?_ ?qza ?qzb; (case qzN => k_asm); (case qzm => k_mem); (case qzd => k_asm); (case qzk => exact strKind_is _ _ _ _); (case qzl => first | assumption | exact valueAt_stored _ _ _ | exact rfl); (case qza => with_unfolding_all rfl); (case qzb => intro _; with_unfolding_all rfl); k_whole) | (refine' q_item (knd := PySem.intKind _ _) ?qzN ?qzm ?qzd ?qzk ?qzl ?_ ?qza ?qzb; (case qzN => k_asm); (case qzm => k_mem); (case qzd => k_asm); (case qzk => exact intKind_is _ _ _ _); (case qzl => first | assumption | exact valueAt_stored _ _ _ | exact rfl); (case qza => with_unfolding_all rfl); (case qzb => intro _; with_unfolding_all rfl); k_whole))) | fail)
  k_with "compareOp In str ref" => (first | (k_here; (with_reducible first | show wpAny _ _ (compareOp _ (Value.str _ _) (Value.ref _)) _ _ _ | show wpAny _ _ (compareOp _ (Value.int _ _) (Value.ref _)) _ _ _); k_dflt (first | (refine' q_in (knd := PySem.strKind _ _) ?qzN ?qzm ?qzd ?qzlo ?qzk _ ?qzl ?_; (case qzN => k_asm); (case qzm => k_mem); (case qzd => k_asm); (case qzlo => exact lo_of (by k_asm) (by k_asm) (by k_mem)); (case qzk => exact strKind_is _ _ _ _); (case qzl => first | (refine' some_is ?qzhs; (case qzhs => assumption)) | (refine' none_is ?qzhs; (case qzhs => assumption)) | exact rfl); k_whole) | (refine' q_in (knd := PySem.intKind _ _) ?qzN ?qzm ?qzd ?qzlo ?qzk _ ?qzl ?_; (case qzN => k_asm); (case qzm => k_mem); (case qzd => k_asm); (case qzlo => exact lo_of (by k_asm) (by k_asm) (by k_mem)); (case qzk => exact intKind_is _ _ _ _); (case qzl => first | (refine' some_is ?qzhs; (case qzhs => assumption)) | (refine' none_is ?qzhs; (case qzhs => assumption)) | exact rfl); k_whole))) | fail)
  k_with "compareOp In int ref" => (first | (k_here; (with_reducible first | show wpAny _ _ (compareOp _ (Value.str _ _) (Value.ref _)) _ _ _ | show wpAny _ _ (compareOp _ (Value.int _ _) (Value.ref _)) _ _ _); k_dflt (first | (refine' q_in (knd := PySem.strKind _ _) ?qzN ?qzm ?qzd ?qzlo ?qzk _ ?qzl ?_; (case qzN => k_asm); (case qzm => k_mem); (case qzd => k_asm); (case qzlo => exact lo_of (by k_asm) (by k_asm) (by k_mem)); (case qzk => exact strKind_is _ _ _ _); (case qzl => first | (refine' some_is ?qzhs; (case qzhs => assumption)) | (refine' none_is ?qzhs; (case qzhs => assumption)) | exact rfl); k_whole) | (refine' q_in (knd := PySem.intKind _ _) ?qzN ?qzm ?qzd ?qzlo ?qzk _ ?qzl ?_; (case qzN => k_asm); (case qzm => k_mem); (case qzd => k_asm); (case qzlo => exact lo_of (by k_asm) (by k_asm) (by k_mem)); (case qzk => exact intKind_is _ _ _ _); (case qzl => first | (refine' some_is ?qzhs; (case qzhs => assumption)) | (refine' none_is ?qzhs; (case qzhs => assumption)) | exact rfl); k_whole))) | fail)
  k_with "compareOp NotIn str ref" => (first | (k_here; (with_reducible first | show wpAny _ _ (compareOp _ (Value.str _ _) (Value.ref _)) _ _ _ | show wpAny _ _ (compareOp _ (Value.int _ _) (Value.ref _)) _ _ _); k_dflt (first | (refine' q_notin (knd := PySem.strKind _ _) ?qzN ?qzm ?qzd ?qzlo ?qzk _ ?qzl ?_; (case qzN => k_asm); (case qzm => k_mem); (case qzd => k_asm); (case qzlo => exact lo_of (by k_asm) (by k_asm) (by k_mem)); (case qzk => exact strKind_is _ _ _ _); (case qzl => first | (refine' some_is ?qzhs; (case qzhs => assumption)) | (refine' none_is ?qzhs; (case qzhs => assumption)) | exact rfl); k_whole) | (refine' q_notin (knd := PySem.intKind _ _) ?qzN ?qzm ?qzd ?qzlo ?qzk _ ?qzl ?_; (case qzN => k_asm); (case qzm => k_mem); (case qzd => k_asm); (case qzlo => exact lo_of (by k_asm) (by k_asm) (by k_mem)); (case qzk => exact intKind_is _ _ _ _); (case qzl => first | (refine' some_is ?qzhs; (case qzhs => assumption)) | (refine' none_is ?qzhs; (case qzhs => assumption)) | exact rfl); k_whole))) | fail)
  k_with "compareOp NotIn int ref" => (first | (k_here; (with_reducible first | show wpAny _ _ (compareOp _ (Value.str _ _) (Value.ref _)) _ _ _ | show wpAny _ _ (compareOp _ (Value.int _ _) (Value.ref _)) _ _ _); k_dflt (first | (refine' q_notin (knd := PySem.strKind _ _) ?qzN ?qzm ?qzd ?qzlo ?qzk _ ?qzl ?_; (case qzN => k_asm); (case qzm => k_mem); (case qzd => k_asm); (case qzlo => exact lo_of (by k_asm) (by k_asm) (by k_mem)); (case qzk => exact strKind_is _ _ _ _); (case qzl => first | (refine' some_is ?qzhs; (case qzhs => assumption)) | (refine' none_is ?qzhs; (case qzhs => assumption)) | exact rfl); k_whole) | (refine' q_notin (knd := PySem.intKind _ _) ?qzN ?qzm ?qzd ?qzlo ?qzk _ ?qzl ?_; (case qzN => k_asm); (case qzm => k_mem); (case qzd => k_asm); (case qzlo => exact lo_of (by k_asm) (by k_asm) (by k_mem)); (case qzk => exact intKind_is _ _ _ _); (case qzl => first | (refine' some_is ?qzhs; (case qzhs => assumption)) | (refine' none_is ?qzhs; (case qzhs => assumption)) | exact rfl); k_whole))) | fail)
  k_with "getItem ref" => (first | (k_here; (with_reducible first | show wpAny _ _ (getItem (Value.ref _) (Value.str _ _)) _ _ _ | show wpAny _ _ (getItem (Value.ref _) (Value.int _ _)) _ _ _); k_dflt (first | (refine' q_gitem (knd := PySem.strKind _ _) ?qzN ?qzm ?qzd ?qzk ?qzl ?_; (case qzN => k_asm); (case qzm => k_mem); (case qzd => k_asm); (case qzk => exact strKind_is _ _ _ _); (case qzl => first | assumption | exact valueAt_stored _ _ _ | exact rfl); k_whole) | (refine' q_gitem (knd := PySem.intKind _ _) ?qzN ?qzm ?qzd ?qzk ?qzl ?_; (case qzN => k_asm); (case qzm => k_mem); (case qzd => k_asm); (case qzk => exact intKind_is _ _ _ _); (case qzl => first | assumption | exact valueAt_stored _ _ _ | exact rfl); k_whole))) | fail)
  k_with "setItem ref" => (first | ((k_here; (with_reducible first | show wpAny _ _ (setItem (Value.ref _) (Value.str _ _) _) _ _ _ | show wpAny _ _ (setItem (Value.ref _) (Value.int _ _) _) _ _ _); k_dflt (first | (refine' kda_set (knd := PySem.strKind _ _) ?qzF ?qzN ?qzU ?qzd ?qzk ?qzz ?_; (case qzF => k_asm); (case qzN => k_asm); (case qzU => k_updF); (case qzd => k_asm); (case qzk => exact strKind_is _ _ _ _); (case qzz => exact line64 (by assumption)); k_whole) | (refine' kda_set (knd := PySem.intKind _ _) ?qzF ?qzN ?qzU ?qzd ?qzk ?qzz ?_; (case qzF => k_asm); (case qzN => k_asm); (case qzU => k_updF); (case qzd => k_asm); (case qzk => exact intKind_is _ _ _ _); (case qzz => exact line64 (by assumption)); k_whole)); intro h' o' F' N' hd'; (try dsimp only at N')); (try revert hd'); (try revert N'); (try revert F'); (try revert o'); (try revert h'); intros) | fail)
  k_with "compareOp In str ref" => (first | (k_here; (with_reducible show wpAny _ _ (compareOp CmpOp.In (Value.str _ _) (Value.ref _)) _ _ _); k_dflt (refine' in_tuple_strs ?qzk1 ?qzk2 ?_; (case qzk1 => exact tupK (Frag.In.keeps (by k_asm) (Fr.keep (by k_asm))) (by k_is)); (case qzk2 => kde_strs); k_whole)) | fail)
  k_with "compareOp NotIn str ref" => (first | (k_here; (with_reducible show wpAny _ _ (compareOp CmpOp.NotIn (Value.str _ _) (Value.ref _)) _ _ _); k_dflt (refine' notin_tuple_strs ?qzk1 ?qzk2 ?_; (case qzk1 => exact tupK (Frag.In.keeps (by k_asm) (Fr.keep (by k_asm))) (by k_is)); (case qzk2 => kde_strs); k_whole)) | fail)
  k_with "call ref" => (first | ((k_here; (with_reducible show wpAny _ _ (call (Value.ref 63) _) _ _ _); k_dflt (refine' wp_up (mk_io (gd := _) ?qzB ?qzF ?qzX ?qzN ?qzT ?qzhf ?qzhk ?_) rfl (Nat.le_of_ble_eq_true rfl) rfl rfl (Nat.le_of_ble_eq_true rfl); (case qzB => k_asm); (case qzF => k_asm); (case qzX => k_asm); (case qzN => k_asm); (case qzT => k_asm); (case qzhf => exact rfl); (case qzhk => exact rfl)); intro h' tk' e' t' od' F' N' l'); (try revert l'); (try revert N'); (try revert F'); (try revert od'); (try revert t'); (try revert e'); (try revert tk'); (try revert h'); intros) | fail)
  k_with "call ref" => (first | ((k_here; (with_reducible show wpAny _ _ (call (Value.ref 82) _) _ _ _); k_dflt (refine' wp_up (mk_end (gd := _) ?qzB ?qzF ?qzX ?qzN ?qzT ?qzhf ?qzhk ?_) rfl (Nat.le_of_ble_eq_true rfl) rfl rfl (Nat.le_of_ble_eq_true rfl); (case qzB => k_asm); (case qzF => k_asm); (case qzX => k_asm); (case qzN => k_asm); (case qzT => k_asm); (case qzhf => exact rfl); (case qzhk => exact rfl)); intro h' tk' e' t' od' F' N' l'); (try revert l'); (try revert N'); (try revert F'); (try revert od'); (try revert t'); (try revert e'); (try revert tk'); (try revert h'); intros) | fail)
  k_with "call ref" => (first | ((k_here; (with_reducible show wpAny _ _ (call (Value.ref 44) _) _ _ _); k_dflt (refine' wp_up (mk_check (gd := _) ?qzB ?qzF ?qzX ?qzN ?qzT ?qzhf ?qzhk ?_) rfl (Nat.le_of_ble_eq_true rfl) rfl rfl (Nat.le_of_ble_eq_true rfl); (case qzB => k_asm); (case qzF => k_asm); (case qzX => k_asm); (case qzN => k_asm); (case qzT => k_asm); (case qzhf => exact rfl); (case qzhk => exact rfl)); intro h' tk' e' t' od' F' N' l'); (try revert l'); (try revert N'); (try revert F'); (try revert od'); (try revert t'); (try revert e'); (try revert tk'); (try revert h'); intros) | fail)
  k_with "call ref" => (first | ((k_here; (with_reducible show wpAny _ _ (call (Value.ref 147) [Value.int _ _, Value.ref _, Value.str _ _]) _ _ _); k_dflt (refine' wp_up (unit_new (gd := _) ?qzB ?qzF ?qzX ?qzN ?qzT ?qzhf ?qzhk ?_) rfl (Nat.le_of_ble_eq_true rfl) rfl rfl (Nat.le_of_ble_eq_true rfl); (case qzB => k_asm); (case qzF => k_asm); (case qzX => k_asm); (case qzN => k_asm); (case qzT => k_asm); (case qzhf => exact rfl); (case qzhk => exact rfl)); intro ua' uda' od' h' tk' hD' l1' l2' F' N'; (try k_lt l1')); (try revert N'); (try revert F'); (try revert l2'); (try revert l1'); (try revert hD'); (try revert tk'); (try revert h'); (try revert od'); (try revert uda'); (try revert ua'); intros) | fail)
  k_with "call ref" => (first | ((k_here; (with_reducible show wpAny _ _ (call (Value.ref 105) [Value.str _ _, Value.str _ _, Value.str _ _, Value.int _ _]) _ _ _); k_dflt (refine' wp_up (file_new (gd := _) ?qzB ?qzF ?qzX ?qzN ?qzT ?qzhf ?qzhk ?_) rfl (Nat.le_of_ble_eq_true rfl) rfl rfl (Nat.le_of_ble_eq_true rfl); (case qzB => k_asm); (case qzF => k_asm); (case qzX => k_asm); (case qzN => k_asm); (case qzT => k_asm); (case qzhf => exact rfl); (case qzhk => exact rfl)); intro fa' fda' od' ra' h' tk' hD' l1' l2' l3' F' N'; (try k_lt l1')); (try revert N'); (try revert F'); (try revert l3'); (try revert l2'); (try revert l1'); (try revert hD'); (try revert tk'); (try revert h'); (try revert ra'); (try revert od'); (try revert fda'); (try revert fa'); intros) | fail)
  k_with "exec Raise some none" => (first | (k_here; (with_reducible show wpAny _ _ (exec (Stmt.Raise (some (Expr.Call (Expr.Name (Str.ofString "IoFault") _) _ _ _)) none _) _) _ _ _); k_dflt (refine' raise_at (C := 63) ?qzX ?qzh ?qzq ?_; (case qzX => k_asm); (case qzh => rfl); (case qzq => with_unfolding_all rfl); k_whole)) | fail)
  k_with "exec Raise some none" => (first | (k_here; (with_reducible show wpAny _ _ (exec (Stmt.Raise (some (Expr.Call (Expr.Name (Str.ofString "EndFault") _) _ _ _)) none _) _) _ _ _); k_dflt (refine' raise_at (C := 82) ?qzX ?qzh ?qzq ?_; (case qzX => k_asm); (case qzh => rfl); (case qzq => with_unfolding_all rfl); k_whole)) | fail)
  k_with "exec Raise some none" => (first | (k_here; (with_reducible show wpAny _ _ (exec (Stmt.Raise (some (Expr.Call (Expr.Name (Str.ofString "CheckFault") _) _ _ _)) none _) _) _ _ _); k_dflt (refine' raise_at (C := 44) ?qzX ?qzh ?qzq ?_; (case qzX => k_asm); (case qzh => rfl); (case qzq => with_unfolding_all rfl); k_whole)) | fail)
  k_with "Thrown" => (first | (k_here; k_dflt (refine' thrown_of ?qzF ?qzX ?qzN ?_; (case qzF => k_asm); (case qzX => k_asm); (case qzN => k_asm))) | fail)
  k_with "leaving ref" => (first | ((k_here; k_dflt (refine' leave_own ?qzK ?qzF ?qzN ?qzl ?_ ?qzh; (case qzh => rfl); (case qzK => assumption); (case qzF => k_asm); (case qzN => k_asm); (case qzl => assumption); k_whole); intro h' R' U'; (try dsimp only at R' U' ⊢)); (try revert U'); (try revert R'); (try revert h'); intros) | fail)
  k_with "call ref" => (first | ((k_here; (with_reducible show wpAny _ _ (call (Value.ref 158) [Value.ref _, Value.str (Str.ofString "STATUS") _, Value.str (Str.ofString "UNKNOWN") _, Value.ref 85]) _ _ _); k_dflt (refine' wp_up (status_any (gd := _) ?qzB ?qzF ?qzX ?qzN ?qzT ?qzhf ?qzhk ?qzhm ?qzhd ?qzhv ?qzht ?_) rfl (Nat.le_of_ble_eq_true rfl) rfl rfl (Nat.le_of_ble_eq_true rfl); (case qzF => k_asm); (case qzX => k_asm); (case qzN => k_asm); (case qzT => k_asm); (case qzB => k_asm); (case qzhf => exact rfl); (case qzhk => exact rfl); (case qzhm => k_mem); (case qzhd => k_asm); (case qzhv => k_asm); (case qzht => k_asm)); intro tv' h' tk' F' N'); (try revert N'); (try revert F'); (try revert tk'); (try revert h'); (try revert tv'); intros) | fail)
  k_with "call ref" => (first | ((k_here; (with_reducible show wpAny _ _ (call (Value.ref 172) [Value.ref _]) _ _ _); k_dflt (refine' wp_up (sort_any (gd := _) ?qzB ?qzF ?qzX ?qzN ?qzT ?qzhf ?qzhk ?qzhm ?qzhd ?qzh1 ?qzh2 ?qzh3 ?qzh4 ?_) rfl (Nat.le_of_ble_eq_true rfl) rfl rfl (Nat.le_of_ble_eq_true rfl); (case qzF => k_asm); (case qzX => k_asm); (case qzN => k_asm); (case qzT => k_asm); (case qzB => k_asm); (case qzhf => exact rfl); (case qzhk => exact rfl); (case qzhm => k_mem); (case qzhd => k_asm); (case qzh1 => k_asm); (case qzh2 => k_asm); (case qzh3 => k_asm); (case qzh4 => k_asm)); intro tp' t0' t1' t2' h' tk' F' N' l1; (try k_lt l1)); (try revert l1); (try revert N'); (try revert F'); (try revert tk'); (try revert h'); (try revert t2'); (try revert t1'); (try revert t0'); (try revert tp'); intros) | fail)
  k_with "call ref" => (first | ((k_here; (with_reducible show wpAny _ _ (call (Value.ref 165) [Value.ref _]) _ _ _); k_dflt (refine' wp_up (name_any (gd := _) ?qzB ?qzF ?qzX ?qzN ?qzT ?qzhf ?qzhk ?qzhm ?qzhd ?qzhv ?qzht ?_) rfl (Nat.le_of_ble_eq_true rfl) rfl rfl (Nat.le_of_ble_eq_true rfl); (case qzF => k_asm); (case qzX => k_asm); (case qzN => k_asm); (case qzT => k_asm); (case qzB => k_asm); (case qzhf => exact rfl); (case qzhk => exact rfl); (case qzhm => k_mem); (case qzhd => k_asm); (case qzhv => k_asm); (case qzht => k_asm)); intro tv' h' tk' F' N'); (try revert N'); (try revert F'); (try revert tk'); (try revert h'); (try revert tv'); intros) | fail)
  k_with "call ref" => (first | (k_here; (with_reducible show wpAny _ _ (call (Value.ref 186) _) _ _ _); refine hold ?_) | fail)
  k_with "call ref" => (first | (k_here; (with_reducible show wpAny _ _ (call (Value.ref 193) _) _ _ _); refine hold ?_) | fail)
  k_with "leaving ref" => (first | ((k_here; k_dflt (refine' leave_onSN ?qzK ?qzF ?qzR ?qzU ?_; (case qzR => assumption); (case qzK => assumption); (case qzF => assumption); (case qzU => assumption); k_whole); intro h' R' _ U'; (try dsimp only at R' U' ⊢)); (try revert U'); (try revert R'); (try revert h'); intros) | fail)
  trivial
section
theorem words_LawMain : True := by
  k_with "k_enter" => (first | ((refine' code_defT ?qzB ?qzF ?qzX ?qzN ?qzT ?qzhA ?qzhf ?qzhke ?qzho ?qzhcd ?qzhroom ?qzhbind ?qzhloc ?_ ?qzc2 ?qzc3 ?qzc4 ?qzc5; (case qzB => k_asm); (case qzF => k_asm); (case qzX => k_asm); (case qzN => k_asm); (case qzT => k_asm); (case qzhA => exact rfl); (case qzhf => assumption); (case qzhke => assumption); (case qzho => k_is); (case qzhcd => k_is); (case qzhroom => exact Nat.le_of_ble_eq_true rfl); (case qzhbind => exact BindsTo.of_eq rfl); (case qzhloc => exact locs rfl); (case qzc2 => exact rfl); (case qzc3 => exact rfl); (case qzc4 => exact rfl); (case qzc5 => decide); k_whole; intro g' L' h' FG' F' N' B' X' T'; (try dsimp only)); (try revert T'); (try revert X'); (try revert B'); (try revert N'); (try revert F'); (try revert FG'); (try revert h'); (try revert L'); (try revert g'); intros) | fail)
  k_with "call ref" => (first | (k_here; (with_reducible show wpAny _ _ (call (Value.ref 254) _) _ _ _); refine hold ?_) | fail)
  trivial
section
variable {w : World} {gd : Option (List Code)} {env : Env} {A₀ : Around} {base h₀ : Heap} {L : Addr} {m mg mb : Str → Option Value} {mean : ExcName → Option Value} {s : Shared} {Q E : Value → Shared → Prop}
    {news : List (Addr × Obj)} {ul : Addr} {vs : List Value} {un : Nat} {kd nm : Nat → Str}
theorem law_main_any (B : Below A₀ base [] h₀) (F : Fr h₀ L s.heap m) (X : (hd.heap_1 w.params).In h₀) (N : News h₀ L s.heap news) (T : Top view (looseW view []) mean mg mb h₀) (XB : (hd.heap_1 w.params).In base) (TB : Top view (looseW view []) mean mg mb base)
    (hf : env.frame = some L) (hk : env.scope.kind = .function) (hul : (ul, listOf vs.toArray un) ∈ news) (hl : vs.length < 60) (hT : TreesIn news vs kd nm)
    (one : ∀ j t, mains kd vs.length = [j] → ∀ h' tk, Fr h₀ L h' m → News h₀ L h' news → Q (.str (nm j) t) { s with heap := h', toks := tk })
    (other : (mains kd vs.length).length ≠ 1 → ∀ h' tk, Fr h₀ L h' m → News h₀ L h' news → Q .none { s with heap := h', toks := tk }) :
    wpAny (model P0 w) (At 400 1000 gd env []) (call (.ref 343) [.ref ul]) Q E s := (by exact kept : Kept _ (by
  refine wpAny_call ?_
  k_dflt k_enter
  k_steps
  refine held (wp_up (main_of_any (kd := kd) (nm := nm) (gd := _) (by k_asm) (by k_asm) (by k_asm) (by k_asm) (by k_asm) rfl rfl hul hl hT ?_ ?_) rfl (Nat.le_of_ble_eq_true rfl) rfl rfl (Nat.le_of_ble_eq_true rfl))
  · intro j v hj hv h' tk F' N'
    obtain ⟨ua, uda, od, rfl, q1, q2, ⟨h0, h1, h2, h3, h4, h5, h6, h7, h8, h9, h10, h11, h12, h13, t0, t1, t2, t3, t4, t5, t6, t7, t8, t9, t10, t11, t12, t13, u0, u1, a2, a3, a4, a5, a6, a7, a9, a10, a11, a12, a13, n, rfl⟩⟩ := hT j v hv
    k_steps
    exact one j _ hj _ _ (by k_asm) (by k_asm)
  · intro hne G h' tk e F' R' U'
    (rename Below _ _ [env] _ => Bn)
    refine caught_own (KF := hd.heap_1 w.params) (C := 44) R' F' Bn U' XB TB (by k_is) (by with_unfolding_all rfl) ?_
    intro h'' g'' Tn F'' N'' B'' X'' T''
    simp only [List.filterMap_cons, List.filterMap_nil, hf] at Tn
    k_steps
    exact other hne _ _ (by k_asm) (by k_asm)))
end
end
section
theorem words_Tree : True := by
  k_with "eval Dict nil nil" => (first | ((k_here; k_dflt (refine' newDict_D ?qzk1 ?qzk2 (TopRead.nolimit (by k_asm)) ?_; (case qzk1 => k_asm); (case qzk2 => k_asm); k_whole); intro l' h' F' N'; (try k_sweep)); (try revert N'); (try revert F'); (try revert h'); (try revert l'); intros) | fail)
  k_with "newList" => (first | ((k_here; k_dflt (refine' newList_D ?qzk1 ?qzk2 ?_ ?qzz; (case qzk1 => k_asm); (case qzk2 => k_asm); (case qzz => size_fits); k_whole); intro l' h' F' N'; (try k_sweep)); (try revert N'); (try revert F'); (try revert h'); (try revert l'); intros) | fail)
  trivial
section
variable {w : World} {gd : Option (List Code)} {env : Env} {outer : List Env} {A₀ : Around} {base h₀ : Heap} {L : Addr} {m mg mb : Str → Option Value} {mean : ExcName → Option Value} {s : Shared} {Q E : Value → Shared → Prop}
    {news : List (Addr × Obj)} {kd nm : Str} {t1 t2 : Tok}
theorem tree_any (B : Below A₀ base outer h₀) (F : Fr h₀ L s.heap m) (X : (hd.heap_1 w.params).In h₀) (N : News h₀ L s.heap news) (T : Top view (looseW view []) mean mg mb h₀)
    (hf : env.frame = some L) (hk : env.scope.kind = .function)
    (ret : ∀ x d o h' tk, TreeD o kd nm → (∀ p ∈ news, @LT.lt Nat _ p.1 d) → @LT.lt Nat _ d x → Fr h₀ L h' m → News h₀ L h' ((x, instObj 278 d) :: (d, o) :: news) → Q (.ref x) { s with heap := h', toks := tk }) :
    wpAny (model P0 w) (At 500 1500 gd env outer) (call (.ref 278) [.str kd t1, .str nm t2]) Q E s := (by exact kept : Kept _ (by
  k_steps
  refine' ret _ _ _ _ _ ⟨_, _, _, _, _, _, _, _, _, _, _, _, _, _, _, _, _, _, _, _, _, _, _, _, _, _, _, _, _, _, _, _, _, _, _, _, _, _, _, _, _, _, rfl⟩ ?x ?d ?F ?N
  (case N => k_asm)
  (case F => k_asm)
  (case x => assumption)
  (case d => assumption)))
end
end
section
/-! Comparisons of what is the same. -/
theorem risingS_pairwise : ∀ (l : List Str) (p : Str), risingS p l = true → (p :: l).Pairwise fun a b => ¬ b.cps.toList < a.cps.toList
  | [], p, _ => List.pairwise_singleton _ _
  | x :: r, p, h => by
    have h' : (!PySem.Spec.ltCps x.cps.toList p.cps.toList && risingS x r) = true := h
    rw [Bool.and_eq_true, Bool.not_eq_true', ltCps_eq, decide_eq_false_iff_not] at h'
    have ih := risingS_pairwise r x h'.2
    refine List.pairwise_cons.mpr ⟨fun y hy => ?_, ih⟩
    rcases List.mem_cons.mp hy with rfl | hy
    · exact h'.1
    · exact List.le_trans (show p.cps.toList ≤ x.cps.toList from h'.1) ((List.pairwise_cons.mp ih).1 y hy)
theorem sortedS_pairwise : ∀ (l : List Str), sortedS l = true → l.Pairwise fun a b => ¬ b.cps.toList < a.cps.toList
  | [], _ => List.Pairwise.nil
  | x :: r, h => risingS_pairwise r x h
theorem str_anti {a b : Str} (h : ¬ b.cps.toList < a.cps.toList) (h' : ¬ a.cps.toList < b.cps.toList) : a = b := by
  have e : a.cps.toList = b.cps.toList := List.le_antisymm (show a.cps.toList ≤ b.cps.toList from h) h'
  cases a; cases b
  exact congrArg Str.mk (Array.toList_inj.mp e)
theorem sorted_strs_eq {xs ys : List Str} (h : xs.Perm ys) (hx : sortedS xs = true) (hy : sortedS ys = true) : xs = ys :=
  List.Perm.eq_of_pairwise (fun _ _ _ _ h1 h2 => str_anti h1 h2) (sortedS_pairwise xs hx) (sortedS_pairwise ys hy) h
theorem sorted_ints_eq {xs ys : List Int} (h : xs.Perm ys) (hx : xs.Pairwise (· ≤ ·)) (hy : ys.Pairwise (· ≤ ·)) : xs = ys :=
  List.Perm.eq_of_pairwise (fun _ _ _ _ h1 h2 => Int.le_antisymm h1 h2) hx hy h
section
open PySem.SeqAt
variable {prog : Program} {w : World} {A : Around} {E : Value → Shared → Prop} {s : Shared} {Q : Value → Shared → Prop} {a b : Addr} {vs us : List Value}
theorem ne_all_same (hl : s.heap.IsList a vs.toArray) (hl' : s.heap.IsList b us.toArray) (hlen : vs.length = us.length) (he : ∀ (j : Nat) (v u : Value), vs[j]? = some v → us[j]? = some u → EqAt A.in1 s v u true) (hu : A.units < cLine)
    (h : Q (.bool false) s) : wpAny (model prog w) A (compareOp .NotEq (.ref a) (.ref b)) Q E s := by
  refine RcNeAt.lists (e := fun _ => true) hl hl' (by simp [hlen]) hu (fun j h1 h2 => ?_) prog w E Q ?_
  · refine he j _ _ ?_ ?_
    · simp at h1 ⊢
    · simp at h2 ⊢
  · have : ((List.range vs.toArray.size).all fun _ => true) = true := by simp
    rw [this]; exact h
theorem ne_same_same (hl : s.heap.IsList a vs.toArray) (hl' : s.heap.IsList b vs.toArray) (hu : A.units < cLine)
    (h : Q (.bool false) s) : wpAny (model prog w) A (compareOp .NotEq (.ref a) (.ref b)) Q E s :=
  ne_all_same hl hl' rfl (fun j v u h1 h2 => by rw [h1] at h2; cases h2; exact EqAt.same v) hu h
theorem eqAt_lists {x y : Addr} {ws : List Value} (hl : s.heap.IsList x ws.toArray) (hl' : s.heap.IsList y ws.toArray) (hu : A.in1.units < cLine) : EqAt A.in1 s (.ref x) (.ref y) true := by
  by_cases e : x = y
  · subst e; exact EqAt.same _
  · refine EqAt.of_refs e fun prog w E Q h => RcAt.lists (e := fun _ => true) hl hl' rfl hu (fun j h1 h2 => EqAt.same _) prog w E Q ?_
    have : ((List.range ws.toArray.size).all fun _ => true) = true := by simp
    rw [this]; exact h
theorem ne_strs_same {xs ys : List Str} (hl : s.heap.IsList a vs.toArray) (hi : PyProof.Rows.StrsAre vs xs) (hl' : s.heap.IsList b us.toArray) (hi' : PyProof.Rows.StrsAre us ys) (e : xs = ys) (hu : A.units < cLine)
    (h : Q (.bool false) s) : wpAny (model prog w) A (compareOp .NotEq (.ref a) (.ref b)) Q E s := by
  subst e
  have len : ∀ {vs : List Value} {xs : List Str}, PyProof.Rows.StrsAre vs xs → vs.length = xs.length := fun h => by
    induction h with
    | nil => rfl
    | cons _ _ _ ih => rw [List.length_cons, List.length_cons, ih]
  have at_ : ∀ {vs us : List Value} {xs : List Str}, PyProof.Rows.StrsAre vs xs → PyProof.Rows.StrsAre us xs → ∀ (j : Nat) (v u : Value), vs[j]? = some v → us[j]? = some u → EqAt A.in1 s v u true := @fun vs us xs h => by
    induction h generalizing us with
    | nil => intro _ j v u h1; cases h1
    | cons x t _ ih =>
      intro h'
      cases h' with
      | cons _ t' r' =>
        intro j v u h1 h2
        cases j with
        | zero =>
          cases h1; cases h2
          have := EqAt.str_str (A := A.in1) (s := s) x t x t'
          rwa [beq_self_eq_true] at this
        | succ j => exact ih _ r' j v u h1 h2
  exact ne_all_same hl hl' ((len hi).trans (len hi').symm) (at_ hi hi') hu h
end
section
variable {prog : Program} {w : World} {A : Around} {E : Value → Shared → Prop} {s : Shared} {Q : Value → Shared → Prop} {a b : Addr} {vs us : List Value}
theorem ne_ints_same {ns ms : List Int} (hl : s.heap.IsList a vs.toArray) (hi : IntsAre vs ns) (hl' : s.heap.IsList b us.toArray) (hi' : IntsAre us ms) (e : ns = ms) (hu : A.units + 64 < cLine)
    (h : Q (.bool false) s) : wpAny (model prog w) A (compareOp .NotEq (.ref a) (.ref b)) Q E s := by
  subst e
  refine ne_intsK hl hi hl' hi' hu ?_
  rw [decide_eq_true rfl]; exact h
end
section
open LCg
variable {prog : Program} {w : World} {A : Around} {h₀ : Heap} {L : Addr} {m : Str → Option Value} {env : Env}
/-- a mark for the walk -/
def Mark (P : Prop) : Prop := P
/-- the turns of a comprehension by an invariant of the list made so far and of the ledger -/
theorem compRest_inv {elt : Expr} {x : Str} {scope : Scope} {cl : List (Str × Addr)} {s : Shared} {S : List (Addr × Obj) → Prop} {P : Nat → Value → Prop} {Fin : List Value → List (Addr × Obj) → Prop} (J : Nat → List Value → List (Addr × Obj) → Prop) :
    ∀ k i ys news, (∀ i' ys news v I oI C oC D m₂ h tk (E' : Value → Shared → Prop), i' < i + k → P i' v → J i' ys news → NsObj oC m₂ → m₂ x = some v → Fr h₀ L h m → News h₀ L h ((I, oI) :: (C, oC) :: (D, lst ys) :: news) → Off3 I C D news → ((@Ne Nat I C) ∧ (@Ne Nat I D) ∧ (@Ne Nat C D)) →
      wpAny (model prog w) A (eval elt (compEnvC scope cl C env)) (CompEnd h₀ L m { s with heap := h, toks := tk } I oI C oC D (lst ys) S (fun y news' => Mark (J (i' + 1) (ys ++ [y]) news'))) E' { s with heap := h, toks := tk }) →
    J i ys news → (∀ zs news', J (i + k) zs news' → Fin zs news') → CompRest prog w A h₀ L m env elt x scope cl s S P Fin k i ys news
  | 0, _, ys, news, _, h, fin => fin ys news h
  | k + 1, i, ys, news, step, h, fin => fun v I oI C oC D m₂ hp tk E' hP hN hx F N off ne =>
    wpAny_mono (step i ys news v I oI C oC D m₂ hp tk E' (by omega) hP h hN hx F N off ne) (fun y s₂ ⟨h', tk', news', e, F', N', off', hS, hI⟩ =>
      ⟨h', tk', news', e, F', N', off', hS, compRest_inv J k (i + 1) _ _ (fun i' ys news v I oI C oC D m₂ h tk E' hi => step i' ys news v I oI C oC D m₂ h tk E' (by omega)) hI (fun zs nz hz => fin zs nz (by rwa [show i + (k + 1) = i + 1 + k by omega]))⟩) fun _ _ e => e
end
end
section
theorem range_size {v : Int} (h0 : 0 ≤ v) (_ : v < 1000) : Builtin.Range.rangeSize 0 v 1 = (v.toNat : Int) := by
  unfold Builtin.Range.rangeSize
  rw [if_pos (by decide)]
  split
  · rw [Int.ediv_one]; omega
  · omega
theorem range_small {v : Int} (_ : 0 ≤ v) (_ : v < 1000) : Builtin.Range.small 0 v 1 = true := small_one (by decide) (by decide) (by omega) (by omega)
theorem news_shape {h₀ h : Heap} {L : Addr} {a : Addr × Obj} {R : List (Addr × Obj)} (_ : News h₀ L h (a :: R)) : ∃ R', R' = R := ⟨R, rfl⟩
theorem strs_len : ∀ {vs : List Value} {xs : List Str}, PyProof.Rows.StrsAre vs xs → vs.length = xs.length
  | _, _, .nil => rfl
  | _, _, .cons _ _ h => congrArg (· + 1) (strs_len h)
theorem mark {P : Prop} (h : P) : Mark P := h
theorem off3_head {I C D a : Addr} {o o' : Obj} {R : List (Addr × Obj)} (h : LCg.Off3 I C D ((a, o) :: R)) : LCg.Off3 I C D ((a, o') :: R) := h
theorem item_strsAt {prog : Program} {w : World} {A : Around} {E : Value → Shared → Prop} {s : Shared} {value slice : PySem.Expr} {l : Addr} {vs : List Value} {xs : List Str} {k : Int} {u : Tok} {Q : Value → Shared → Prop} (hl : s.heap.IsList l vs.toArray) (h0 : 0 ≤ k) (h1 : k.toNat < xs.length) (hhi : k < 2 ^ 63) (hx : PyProof.Rows.StrsAre vs xs) (h : ∀ t, Q (.str (xs.getD k.toNat default) t) s)
    (hs : subscripted slice false (.ref l) (.int k u) = operate [.ref l, .int k u] (getItem (.ref l) (.int k u)) := by with_unfolding_all rfl) :
    wpAny (model prog w) A (subscriptTail value slice (.ref l) (.int k u)) Q E s := by
  have at_ : ∀ {vs : List Value} {xs : List Str}, PyProof.Rows.StrsAre vs xs → ∀ i, i < xs.length → ∃ t, vs[i]? = some (.str (xs.getD i default) t) := @fun vs xs h => by
    induction h with
    | nil => intro i hi; cases hi
    | cons x t _ ih =>
      intro i hi
      cases i with
      | zero => exact ⟨t, rfl⟩
      | succ i => exact ih i (Nat.lt_of_succ_lt_succ hi)
  obtain ⟨t, e⟩ := at_ hx k.toNat h1
  exact item_litK hl h0 hhi e (h t) hs
theorem range_map (xs : List Str) : (List.range xs.length).map (fun i => xs.getD i default) = xs := by
  apply List.ext_getElem
  · simp
  · intro i h1 h2
    simp at h1 ⊢
    rw [List.getElem?_eq_getElem h2]; rfl
theorem mains_count (xs : List Str) : (mains (fun i => xs.getD i default) xs.length).length = xs.countP (· == Str.ofString "program") := by
  conv => rhs; rw [← range_map xs]
  rw [List.countP_map, List.countP_eq_length_filter]
  rfl
theorem isStr_count (k : Str) : ∀ {vs : List Value} {xs : List Str}, PyProof.Rows.StrsAre vs xs → vs.countP (isStrOf k) = xs.countP (· == k)
  | _, _, .nil => rfl
  | _, _, .cons x t h => by
    rw [List.countP_cons, List.countP_cons, isStr_count k h]
    rfl
theorem count_strs {prog : Program} {w : World} {A : Around} {E : Value → Shared → Prop} {s : Shared} {l : Addr} {vs : List Value} {xs : List Str} {k : Str} {t : Tok} {Q : Value → Shared → Prop} (hl : s.heap.IsList l vs.toArray) (hi : PyProof.Rows.StrsAre vs xs)
    (h : Q (.int ((xs.countP (· == k) : Nat) : Int) s.toks) { s with toks := s.toks + 1 }) : wpAny (model prog w) A (call (.builtin "list.count") [.ref l, .str k t]) Q E s := by
  obtain ⟨⟨cls, dd, data, sl⟩, ho, hc, n, hd⟩ := id hl
  simp only at hc hd
  subst hc hd
  refine _root_.PySem.call_meets PySem.F.slot_list_count ⟨_, ho, rfl⟩ PySem.F.entry_list_count (PySem.F.args_list_count_2 _ _) (SeqAt.list_countAt l vs.toArray n dd sl (.str k t) (isStrOf k)) ⟨ho, fun y hy => (eq_isStrOf k t hi y (by simpa using hy)).at _ _, ?_⟩
  rw [show vs.toArray.toList = vs from rfl, isStr_count k hi]
  exact h
theorem isStr_at (k : Str) : ∀ {vs : List Value} {xs : List Str}, PyProof.Rows.StrsAre vs xs → ∀ i (h : i < vs.length), isStrOf k vs[i] = (xs.getD i default == k)
  | _, _, .cons x t h, 0, _ => rfl
  | _, _, .cons x t h, i + 1, hi => isStr_at k h i (Nat.lt_of_succ_lt_succ hi)
theorem index_strs {prog : Program} {w : World} {A : Around} {E : Value → Shared → Prop} {s : Shared} {l : Addr} {vs : List Value} {xs : List Str} {k : Str} {t : Tok} {j : Nat} {Q : Value → Shared → Prop} (hl : s.heap.IsList l vs.toArray) (hi : PyProof.Rows.StrsAre vs xs) (hj : j < xs.length) (hb : xs.length < 1000)
    (hit : (xs.getD j default == k) = true) (hno : ∀ m, m < j → (xs.getD m default == k) = false)
    (h : Q (.int (j : Int) s.toks) { s with toks := s.toks + 1 }) : wpAny (model prog w) A (call (.builtin "list.index") [.ref l, .str k t]) Q E s := by
  obtain ⟨⟨cls, dd, data, sl⟩, ho, hc, n, hd⟩ := id hl
  simp only at hc hd
  subst hc hd
  have hlen := strs_len hi
  refine _root_.PySem.call_meets PySem.F.slot_list_index ⟨_, ho, rfl⟩ PySem.F.entry_list_index (PySem.F.args_list_index_2 _ _) (SeqAt.list_indexAt l vs.toArray n dd sl (.str k t) (isStrOf k) j (by simp; omega) (by omega) ?_ fun m hm hmj => ?_) ⟨ho, fun y hy => (eq_isStrOf k t hi y (by simpa using hy)).at _ _, ?_⟩
  · have := isStr_at k hi j (by omega)
    simp only [List.getElem_toArray]
    rw [this]; exact hit
  · have := isStr_at k hi m (by simpa using hm)
    simp only [List.getElem_toArray]
    rw [this]; exact hno m hmj
  · exact h
theorem mains_one {xs : List Str} {j : Nat} (h : mains (fun i => xs.getD i default) xs.length = [j]) : j < xs.length ∧ (xs.getD j default == Str.ofString "program") = true ∧ ∀ m, m < j → (xs.getD m default == Str.ofString "program") = false := by
  have hj : j ∈ mains (fun i => xs.getD i default) xs.length := by rw [h]; exact .head _
  have h1 := List.mem_filter.mp hj
  refine ⟨List.mem_range.mp h1.1, h1.2, fun m hm => ?_⟩
  cases e : xs.getD m default == Str.ofString "program" with
  | false => rfl
  | true =>
    have : m ∈ mains (fun i => xs.getD i default) xs.length := List.mem_filter.mpr ⟨List.mem_range.mpr (Nat.lt_trans hm (List.mem_range.mp h1.1)), e⟩
    rw [h] at this
    exact absurd (List.mem_singleton.mp this) (Nat.ne_of_lt hm)
theorem trees_snoc {Y : List (Addr × Obj)} {ys : List Value} {kd nm : Nat → Str} {x d : Addr} {o : Obj} (h : TreesIn Y ys kd nm) (hT : TreeD o (kd ys.length) (nm ys.length)) : TreesIn ((x, instObj 278 d) :: (d, o) :: Y) (ys ++ [.ref x]) kd nm := fun i v hv => by
  rw [List.getElem?_append] at hv
  split at hv
  · obtain ⟨ua, uda, od, e, m1, m2, t⟩ := h i v hv
    exact ⟨ua, uda, od, e, .tail _ (.tail _ m1), .tail _ (.tail _ m2), t⟩
  · rename_i hn
    have hi : i = ys.length := by
      have : i - ys.length < 1 := by
        have := (List.getElem?_eq_some_iff.mp hv).1
        simpa using this
      omega
    subst hi
    rw [Nat.sub_self] at hv
    exact ⟨x, d, o, (Option.some.inj hv).symm, .head _, .tail _ (.head _), hT⟩
theorem off3_two {I C D x d : Addr} {o o' : Obj} {R : List (Addr × Obj)} (h : LCg.Off3 I C D R) (h1 : @LT.lt Nat _ I d) (h2 : @LT.lt Nat _ C d) (h3 : @LT.lt Nat _ D d) (h4 : @LT.lt Nat _ d x) : LCg.Off3 I C D ((x, o) :: (d, o') :: R) :=
  ⟨⟨Nat.ne_of_gt (Nat.lt_trans h1 h4), Nat.ne_of_gt (Nat.lt_trans h2 h4), Nat.ne_of_gt (Nat.lt_trans h3 h4)⟩, ⟨Nat.ne_of_gt h1, Nat.ne_of_gt h2, Nat.ne_of_gt h3⟩, h⟩
theorem news_whole {h₀ h : Heap} {L : Addr} {R : List (Addr × Obj)} (_ : News h₀ L h R) : ∃ R', R' = R := ⟨R, rfl⟩
theorem trees_nil (Y : List (Addr × Obj)) (kd nm : Nat → Str) : TreesIn Y [] kd nm := fun i v h => by cases h
theorem comp_sub {a b c x d : Addr × Obj} {R Y : List (Addr × Obj)} : ∀ p ∈ a :: b :: c :: (R ++ x :: d :: Y), p ∈ x :: d :: a :: b :: c :: (R ++ Y) := fun p hp => by
  have up : p ∈ R ++ Y → p ∈ x :: d :: a :: b :: c :: (R ++ Y) := fun h => .tail _ (.tail _ (.tail _ (.tail _ (.tail _ h))))
  cases hp with
  | head => exact .tail _ (.tail _ (.head _))
  | tail _ hp => cases hp with
    | head => exact .tail _ (.tail _ (.tail _ (.head _)))
    | tail _ hp => cases hp with
      | head => exact .tail _ (.tail _ (.tail _ (.tail _ (.head _))))
      | tail _ hp => rcases List.mem_append.mp hp with hp | hp
                     · exact up (List.mem_append_left _ hp)
                     · cases hp with
                       | head => exact .head _
                       | tail _ hp => cases hp with
                         | head => exact .tail _ (.head _)
                         | tail _ hp => exact up (List.mem_append_right _ hp)
theorem off3_mid {I C D x d : Addr} {oI oC oD o o' : Obj} {R Y : List (Addr × Obj)} (h : LCg.Off3 I C D (R ++ Y)) (h1 : ∀ p ∈ (I, oI) :: (C, oC) :: (D, oD) :: (R ++ Y), @LT.lt Nat _ p.1 d) (h4 : @LT.lt Nat _ d x) : LCg.Off3 I C D (R ++ (x, o) :: (d, o') :: Y) :=
  LCg.Off3.of fun p hp => by
    have i1 := h1 _ (.head _)
    have i2 := h1 _ (.tail _ (.head _))
    have i3 := h1 _ (.tail _ (.tail _ (.head _)))
    rcases List.mem_append.mp hp with hp | hp
    · exact h.mem p (List.mem_append_left _ hp)
    rcases List.mem_cons.mp hp with rfl | hp
    · exact ⟨Nat.ne_of_gt (Nat.lt_trans i1 h4), Nat.ne_of_gt (Nat.lt_trans i2 h4), Nat.ne_of_gt (Nat.lt_trans i3 h4)⟩
    rcases List.mem_cons.mp hp with rfl | hp
    · exact ⟨Nat.ne_of_gt i1, Nat.ne_of_gt i2, Nat.ne_of_gt i3⟩
    · exact h.mem p (List.mem_append_right _ hp)
section
variable {prog : Program} {w : World} {A : Around} {E : Value → Shared → Prop} {s : Shared} {h₀ : Heap} {L : Addr} {m : Str → Option Value} {env : Env} {st : Stmt} {Q : Flow → Shared → Prop} {news : List (Addr × Obj)}
theorem put_step (x : Str) (D : Value → Prop) (_F : Fr h₀ L s.heap m) (_N : News h₀ L s.heap news)
    (h1 : wpAny (model prog w) A (exec st env) (fun f s' => Hold (∃ v h' tk, f = .next ∧ s' = { s with heap := h', toks := tk } ∧ Fr h₀ L h' (fun z => if z = x then some v else m z) ∧ News h₀ L h' news ∧ D v)) E s)
    (h2 : ∀ v h' tk, Fr h₀ L h' (fun z => if z = x then some v else m z) → News h₀ L h' news → D v → Q .next { s with heap := h', toks := tk }) : wpAny (model prog w) A (exec st env) Q E s :=
  wpAny_mono h1 (fun f s' ⟨v, h', tk, e1, e2, F', N', d⟩ => by subst e1; subst e2; exact h2 v h' tk F' N' d) fun _ _ e => e
theorem pass_step (_F : Fr h₀ L s.heap m) (_N : News h₀ L s.heap news)
    (h1 : wpAny (model prog w) A (exec st env) (fun f s' => Hold (∃ h' tk, f = .next ∧ s' = { s with heap := h', toks := tk } ∧ Fr h₀ L h' m ∧ News h₀ L h' news)) E s)
    (h2 : ∀ h' tk, Fr h₀ L h' m → News h₀ L h' news → Q .next { s with heap := h', toks := tk }) : wpAny (model prog w) A (exec st env) Q E s :=
  wpAny_mono h1 (fun f s' ⟨h', tk, e1, e2, F', N'⟩ => by subst e1; subst e2; exact h2 h' tk F' N') fun _ _ e => e
end
/-- what due holds -/
def DueIs (xs : List Str) (v : Value) : Prop :=
  (∃ j t, mains (fun i => xs.getD i default) xs.length = [j] ∧ v = .str (Str.ofString "P" ++ Txt.item (Str.ofString "0123") (j : Int)) t) ∨ ((mains (fun i => xs.getD i default) xs.length).length ≠ 1 ∧ v = .none)
theorem news_keep {h₀ h : Heap} {L : Addr} {a b c d e f g i j : Addr × Obj} {Y : List (Addr × Obj)} (N : News h₀ L h (a :: b :: c :: d :: e :: f :: g :: i :: j :: Y)) : News h₀ L h [c, d, f, g, i, j] := by
  have t1 := news_tl N; have t2 := news_tl t1; have t3 := news_tl t2; have t4 := news_tl t3; have t5 := news_tl t4; have t6 := news_tl t5; have t7 := news_tl t6; have t8 := news_tl t7
  exact news_add t2 (news_add t3 (news_add t5 (news_add t6 (news_add t7 (news_add t8 news_nil)))))
theorem below_as {A : Around} {b h₀ h : Heap} {L : Addr} {m : Str → Option Value} (_ : Fr h₀ L h m) (B : Below A b [] b) (e : b = h₀) : Below A h₀ [] h₀ := e ▸ B
end
theorem words_again_WorldT : True := by
  k_with_none
  k_with "spliced" => (first | (k_here; k_dflt (first | refine args_cons ?_ | refine args_nil ⟨Fr.keep (by assumption) _ _ (by assumption), ?_⟩ | (refine args_nil ?_; try simp only [List.cons_append, List.nil_append]))) | fail)
  k_with "setItem ref int" => (first | (k_extra "setItem ref") | fail)
  k_with "subscriptTail Name" => (first | (k_extra "subscriptTail") | fail)
  k_with "subscriptTail Subscript" => (first | (first | k_extra "subscriptTail" | (k_here; kda_here; first | ((with_reducible show wpAny _ _ (subscriptTail _ _ (Value.ref _) (Value.str _ _)) _ _ _); k_dflt (refine kdt_tail (knd := PySem.strKind _ _) (by k_asm) (by k_mem) (by k_asm) ?_)) | ((with_reducible show wpAny _ _ (subscriptTail _ _ (Value.ref _) (Value.int _ _)) _ _ _); k_dflt (refine kdt_tail (knd := PySem.intKind _ _) (by k_asm) (by k_mem) (by k_asm) ?_)))) | fail)
  k_with "cj" => (first | (first | assumption | exact And.left (by assumption) | exact And.right (by assumption) | exact And.left (And.right (by assumption)) | exact And.right (And.right (by assumption)) | exact And.left (And.right (And.right (by assumption))) | exact And.right (And.right (And.right (by assumption))) | exact And.left (And.right (And.right (And.right (by assumption)))) | exact And.right (And.right (And.right (And.right (by assumption)))) | exact And.left (And.right (And.right (And.right (And.right (by assumption))))) | exact And.right (And.right (And.right (And.right (And.right (by assumption))))) | exact And.left (And.right (And.right (And.right (And.right (And.right (by assumption)))))) | exact And.right (And.right (And.right (And.right (And.right (And.right (by assumption)))))) | exact And.left (And.right (And.right (And.right (And.right (And.right (And.right (by assumption))))))) | exact And.right (And.right (And.right (And.right (And.right (And.right (And.right (by assumption))))))) | exact And.left (And.right (And.right (And.right (And.right (And.right (And.right (And.right (by assumption)))))))) | exact And.right (And.right (And.right (And.right (And.right (And.right (And.right (And.right (by assumption)))))))) | exact And.left (And.right (And.right (And.right (And.right (And.right (And.right (And.right (And.right (by assumption))))))))) | exact And.right (And.right (And.right (And.right (And.right (And.right (And.right (And.right (And.right (by assumption))))))))) | exact And.left (And.right (And.right (And.right (And.right (And.right (And.right (And.right (And.right (And.right (by assumption)))))))))) | exact And.right (And.right (And.right (And.right (And.right (And.right (And.right (And.right (And.right (And.right (by assumption)))))))))) | exact And.left (And.right (And.right (And.right (And.right (And.right (And.right (And.right (And.right (And.right (And.right (by assumption))))))))))) | exact And.right (And.right (And.right (And.right (And.right (And.right (And.right (And.right (And.right (And.right (And.right (by assumption))))))))))) | exact And.left (And.right (And.right (And.right (And.right (And.right (And.right (And.right (And.right (And.right (And.right (And.right (by assumption)))))))))))) | exact And.right (And.right (And.right (And.right (And.right (And.right (And.right (And.right (And.right (And.right (And.right (And.right (by assumption)))))))))))) | exact And.left (And.right (And.right (And.right (And.right (And.right (And.right (And.right (And.right (And.right (And.right (And.right (And.right (by assumption))))))))))))) | exact And.right (And.right (And.right (And.right (And.right (And.right (And.right (And.right (And.right (And.right (And.right (And.right (And.right (by assumption))))))))))))) | exact And.left (And.right (And.right (And.right (And.right (And.right (And.right (And.right (And.right (And.right (And.right (And.right (And.right (And.right (by assumption)))))))))))))) | exact And.right (And.right (And.right (And.right (And.right (And.right (And.right (And.right (And.right (And.right (And.right (And.right (And.right (And.right (by assumption)))))))))))))) | exact And.left (And.right (And.right (And.right (And.right (And.right (And.right (And.right (And.right (And.right (And.right (And.right (And.right (And.right (And.right (by assumption))))))))))))))) | exact And.right (And.right (And.right (And.right (And.right (And.right (And.right (And.right (And.right (And.right (And.right (And.right (And.right (And.right (And.right (by assumption)))))))))))))))) | fail)
  k_with "om" => (first | (first | ((repeat ((with_reducible rename _ ∧ _ => hz9); clear hz9)); (repeat ((with_reducible rename @Ne _ _ _ => hz9); clear hz9)); omega) | ((repeat ((with_reducible rename @Ne _ _ _ ∧ _ => hz9); clear hz9)); (repeat ((with_reducible rename (_ ∧ _) ∧ _ => hz9); clear hz9)); (repeat ((with_reducible rename @Ne _ _ _ => hz9); clear hz9)); omega) | omega) | fail)
  k_with "k_ne" => (first | (refine neN ?_; (try dsimp only); (first | with_reducible assumption | ((repeat ((with_reducible rename @Ne _ _ _ ∧ _ => hz9); clear hz9)); (repeat ((with_reducible rename (_ ∧ _) ∧ _ => hz9); clear hz9)); (repeat ((with_reducible rename @Ne _ _ _ => hz9); clear hz9)); omega) | with_reducible (first | exact Ne.symm (by assumption) | exact Nat.ne_of_lt (by k_extra "cj") | exact Nat.ne_of_gt (by k_extra "cj") | (k_extra "cj") | exact Ne.symm (by k_extra "cj")) | omega)) | fail)
  k_with "k_enter" => (first | (refine' q_def ?qzk1 ?qzk2 ?qzk3 ?qzk4 ?qzk5 ?qzkA ?qzkF ?qzkK ?qzk6 ?qzk7 ?qzk8 ?qzk9 ?qzkB ?_ ?qzc2 ?qzc3 ?qzc4 ?qzc5; (case qzkA => exact rfl); (case qzkF => first | assumption | exact rfl); (case qzkK => first | assumption | exact rfl); (case qzk1 => k_asm); (case qzk2 => k_asm); (case qzk3 => k_asm); (case qzk4 => k_asm); (case qzk5 => k_asm); (case qzk6 => k_is); (case qzk7 => k_is); (case qzk8 => exact Nat.le_of_ble_eq_true rfl); (case qzk9 => first | ((with_reducible show BindsTo _ _ (Args.mk [_, _] []) _); exact bt2 rfl) | ((with_reducible show BindsTo _ _ (Args.mk [_] []) _); exact bt1 rfl) | ((with_reducible show BindsTo _ _ (Args.mk [_, _, _] []) _); exact bt3 rfl) | ((with_reducible show BindsTo _ _ (Args.mk [_, _, _, _] []) _); exact bt4 rfl) | ((with_reducible show BindsTo _ _ (Args.mk [_, _, _, _, _] []) _); exact bt5 rfl) | ((with_reducible show BindsTo _ _ (Args.mk [_, _, _, _, _, _] []) _); exact bt6 rfl) | ((with_reducible show BindsTo _ _ (Args.mk [] []) _); exact bt0 rfl) | exact BindsTo.of_eq rfl); (case qzc5 => decide); (case qzkB => exact locs rfl); (case qzc2 => exact rfl); (case qzc3 => exact rfl); (case qzc4 => exact rfl); k_whole; intro _ _ _ _ _ _ _ _ _ _ _ _ _ _ _; (try dsimp only); (try k_fold)) | fail)
  k_with "k_all" => (first | ((fail_if_success (with_reducible refine List.forall_mem_cons.mpr ?_)); (first | with_reducible (first | exact ne_allLt (by assumption) | exact ne_allLt (And.right (by assumption)) | exact ne_allLt (And.right (And.right (by assumption))) | exact ne_allLt (And.right (And.right (And.right (by assumption)))) | exact ne_allLt (And.right (And.right (And.right (And.right (by assumption))))) | exact ne_allLt (And.right (And.right (And.right (And.right (And.right (by assumption)))))) | exact ne_allLt (And.right (And.right (And.right (And.right (And.right (And.right (by assumption))))))) | exact ne_allLt (And.right (And.right (And.right (And.right (And.right (And.right (And.right (by assumption)))))))) | exact ne_allLt (And.right (And.right (And.right (And.right (And.right (And.right (And.right (And.right (by assumption))))))))) | exact ne_allLt (And.right (And.right (And.right (And.right (And.right (And.right (And.right (And.right (And.right (by assumption)))))))))) | exact ne_allLt (And.right (And.right (And.right (And.right (And.right (And.right (And.right (And.right (And.right (And.right (by assumption))))))))))) | exact ne_allLt (And.right (And.right (And.right (And.right (And.right (And.right (And.right (And.right (And.right (And.right (And.right (by assumption)))))))))))) | exact ne_allLt (And.right (And.right (And.right (And.right (And.right (And.right (And.right (And.right (And.right (And.right (And.right (And.right (by assumption))))))))))))) | exact ne_allLt (And.right (And.right (And.right (And.right (And.right (And.right (And.right (And.right (And.right (And.right (And.right (And.right (And.right (by assumption)))))))))))))) | exact ne_allLt (And.right (And.right (And.right (And.right (And.right (And.right (And.right (And.right (And.right (And.right (And.right (And.right (And.right (And.right (by assumption)))))))))))))))) | (first | exact ne_allLt (by assumption) | exact ne_allLt (And.right (by assumption)) | exact ne_allLt (And.right (And.right (by assumption))) | exact ne_allLt (And.right (And.right (And.right (by assumption)))) | exact ne_allLt (And.right (And.right (And.right (And.right (by assumption))))) | exact ne_allLt (And.right (And.right (And.right (And.right (And.right (by assumption)))))) | exact ne_allLt (And.right (And.right (And.right (And.right (And.right (And.right (by assumption))))))) | exact ne_allLt (And.right (And.right (And.right (And.right (And.right (And.right (And.right (by assumption)))))))) | exact ne_allLt (And.right (And.right (And.right (And.right (And.right (And.right (And.right (And.right (by assumption))))))))) | exact ne_allLt (And.right (And.right (And.right (And.right (And.right (And.right (And.right (And.right (And.right (by assumption)))))))))) | exact ne_allLt (And.right (And.right (And.right (And.right (And.right (And.right (And.right (And.right (And.right (And.right (by assumption))))))))))) | exact ne_allLt (And.right (And.right (And.right (And.right (And.right (And.right (And.right (And.right (And.right (And.right (And.right (by assumption)))))))))))) | exact ne_allLt (And.right (And.right (And.right (And.right (And.right (And.right (And.right (And.right (And.right (And.right (And.right (And.right (by assumption))))))))))))) | exact ne_allLt (And.right (And.right (And.right (And.right (And.right (And.right (And.right (And.right (And.right (And.right (And.right (And.right (And.right (by assumption)))))))))))))) | exact ne_allLt (And.right (And.right (And.right (And.right (And.right (And.right (And.right (And.right (And.right (And.right (And.right (And.right (And.right (And.right (by assumption)))))))))))))))))) | fail)
  k_with "k_all" => (first | ((fail_if_success (with_reducible refine List.forall_mem_cons.mpr ?_)); (first | with_reducible assumption | assumption)) | fail)
  k_with "k_all" => (first | (refine' ne_cons_of ?qzyh ?qzyg; (case qzyh => with_reducible assumption); (case qzyg => exact id)) | fail)
  k_with "k_mem" => (first | (first | exact List.Mem.head _ | (refine List.mem_cons_of_mem _ ?_; (first | exact List.Mem.head _ | (refine List.mem_cons_of_mem _ ?_; (first | exact List.Mem.head _ | (refine List.mem_cons_of_mem _ ?_; (first | exact List.Mem.head _ | (refine List.mem_cons_of_mem _ ?_; (first | exact List.Mem.head _ | (refine List.mem_cons_of_mem _ ?_; (first | exact List.Mem.head _ | (refine List.mem_cons_of_mem _ ?_; (first | exact List.Mem.head _ | (refine List.mem_cons_of_mem _ ?_; (first | exact List.Mem.head _ | (refine List.mem_cons_of_mem _ ?_; (first | exact List.Mem.head _ | (refine List.mem_cons_of_mem _ ?_; (first | exact List.Mem.head _ | (refine List.mem_cons_of_mem _ ?_; (first | exact List.Mem.head _ | (refine List.mem_cons_of_mem _ ?_; (first | exact List.Mem.head _ | (refine List.mem_cons_of_mem _ ?_; (first | exact List.Mem.head _ | (refine List.mem_cons_of_mem _ ?_; (first | exact List.Mem.head _ | (refine List.mem_cons_of_mem _ ?_; (first | exact List.Mem.head _ | (refine List.mem_cons_of_mem _ ?_; (first | exact List.Mem.head _ | (refine List.mem_cons_of_mem _ ?_; (first | exact List.Mem.head _ | (refine List.mem_cons_of_mem _ ?_; (first | exact List.Mem.head _ | (refine List.mem_cons_of_mem _ ?_; (first | exact List.Mem.head _ | (refine List.mem_cons_of_mem _ ?_; (first | exact List.Mem.head _ | (refine List.mem_cons_of_mem _ ?_; (first | exact List.Mem.head _ | assumption)) | assumption)) | assumption)) | assumption)) | assumption)) | assumption)) | assumption)) | assumption)) | assumption)) | assumption)) | assumption)) | assumption)) | assumption)) | assumption)) | assumption)) | assumption)) | assumption)) | assumption)) | assumption)) | assumption)) | assumption) | fail)
  k_with "eval Name" => (first | (k_here; (with_reducible refine' q_name ?qza ?qzb ?qzc ?qzF ?qzv ?_); k_dflt ((case qzF => k_asm); (case qzc => exact fun _ _ => rfl); (case qzv => rfl); (case qza => rfl); (case qzb => decide); k_whole)) | fail)
  k_with "storeName" => (first | (k_here; (with_reducible refine' q_store ?qza ?qzb ?qzF ?qzN ?_); k_dflt ((case qzF => k_asm); (case qzN => k_asm); (case qzb => exact fun _ _ => rfl); (case qza => rfl); k_whole; intro _ _ _ _; (try k_sweep))) | fail)
  k_with "eval Constant str" => (first | (k_here; with_reducible refine q_str ?_) | fail)
  k_with "eval Constant int" => (first | (k_here; with_reducible refine q_int ?_) | fail)
  k_with "spliced" => (first | (k_here; (with_reducible refine args_nil ?_); (try dsimp only [List.cons_append, List.nil_append])) | fail)
  k_with "spliced" => (first | (k_here; with_reducible refine q_args ?_) | fail)
  k_with "spliced" => (first | (k_here; (with_reducible refine' q_arg ?qza ?qzb ?qzc ?qzF ?qzv ?_); k_dflt ((case qzF => k_asm); (case qzc => exact fun _ _ => rfl); (case qzv => rfl); (case qza => rfl); (case qzb => decide); k_whole)) | fail)
  k_with "spliced" => (first | (k_here; (with_reducible refine' q_arg1 ?qza ?qzb ?qzc ?qzF ?qzv ?_); k_dflt ((case qzF => k_asm); (case qzc => exact fun _ _ => rfl); (case qzv => rfl); (case qza => rfl); (case qzb => decide); k_whole); (try dsimp only [List.cons_append, List.nil_append])) | fail)
  k_with "execs cons" => (first | (k_here; (try k_gentoks); (first | ((with_reducible refine q_assign ?qzhs ?_); (fail_if_success with_reducible show wpAny _ _ (eval (PySem.Expr.ListComp _ _ _ _) _) _ _ _); (case qzhs => with_unfolding_all rfl)) | with_reducible refine q_return ?_ | with_reducible refine q_if ?_); (try dsimp only); (try k_fold)) | fail)
  k_with "getAttr ref" => (first | (k_here; (with_reducible refine' q_own ?qzk1 ?qzk2 ?qzk3 ?qzk4 ?qzk5 ?qzk6 ?qzk7 ?qzk8 ?qzk9 ?_); k_dflt ((case qzk1 => k_asm); (case qzk2 => k_asm); (case qzk3 => k_inst); (case qzk4 => k_is); (case qzk5 => k_is); (case qzk6 => k_is); (case qzk7 => k_is); (case qzk8 => k_get); (case qzk9 => k_handed); k_whole)) | fail)
  k_with "TurnEnd cons ret" => (first | (k_here; dsimp only [TurnEnd]) | fail)
  k_with "spliced" => (first | (k_here; (with_reducible refine' q_sargs ?qzhk ?qzF ?qzz ?qzS ?_); k_dflt ((case qzhk => rfl); (case qzF => k_asm); (case qzz => exact fun _ _ => rfl); (case qzS => exact rfl); k_whole); (try dsimp only [List.cons_append, List.nil_append])) | fail)
  k_with "eval Call" => (first | (k_here; (with_reducible refine' q_gcall ?qzhk ?qzF ?qzX ?qzT ?qzhx ?qzhd ?qzhv ?qzhf ?qzz ?qzS ?_); k_dflt ((case qzhk => rfl); (case qzF => k_asm); (case qzz => exact fun _ _ => rfl); (case qzS => exact rfl); (case qzX => k_asm); (case qzT => assumption); (case qzhx => exact fun _ _ => rfl); (case qzhd => decide); (case qzhv => k_is); (case qzhf => k_is); k_whole)) | fail)
  k_with "isTrue Compare" => (first | (k_here; (with_reducible refine' q_cmps ?qzhm ?qzhk ?qzF ?qzz ?qzS ?_); k_dflt ((case qzhk => rfl); (case qzF => k_asm); (case qzz => exact fun _ _ => rfl); (case qzS => exact rfl); (case qzhm => with_unfolding_all rfl); k_whole)) | fail)
  k_with "eval Subscript" => (first | (k_here; (with_reducible refine' q_sub ?qzhk ?qzF ?qzz ?qzS ?_); k_dflt ((case qzhk => rfl); (case qzF => k_asm); (case qzz => exact fun _ _ => rfl); (case qzS => exact rfl); k_whole)) | fail)
  k_with "execs cons" => (first | (k_here; (try k_gentoks); (with_reducible refine' q_rets ?qzhk ?qzF ?qzz ?qzS ?_); k_dflt ((case qzhk => rfl); (case qzF => k_asm); (case qzz => exact fun _ _ => rfl); (case qzS => exact rfl); k_whole); (try dsimp only); (try k_fold)) | fail)
  k_with "eval Attribute Name" => (first | (k_here; (with_reducible refine' q_attr ?qzhk ?qzF ?qzz ?qzS ?_); k_dflt ((case qzhk => rfl); (case qzF => k_asm); (case qzz => exact fun _ _ => rfl); (case qzS => exact rfl); k_whole)) | fail)
  k_with "getMethod ref" => (first | (k_here; (with_reducible show wpAny _ _ (getMethod (Value.ref _) (Str.ofString "get") _) _ _ _); k_dflt (first | (refine' kdg_method (knd := PySem.strKind _ _) ?qzN ?qzm ?qzd ?_; (case qzN => k_asm); (case qzm => k_mem); (case qzd => k_asm); k_whole) | (refine' kdg_method (knd := PySem.intKind _ _) ?qzN ?qzm ?qzd ?_; (case qzN => k_asm); (case qzm => k_mem); (case qzd => k_asm); k_whole))) | fail)
  k_with "getMethod ref" => (first | (k_here; (with_reducible show wpAny _ _ (getMethod (Value.ref _) (Str.ofString "pop") _) _ _ _); k_dflt (first | (refine' kob_method (knd := PySem.strKind _ _) PySem.F.slot_dict_pop PySem.F.type_dict_pop ?qzN ?qzm ?qzd ?_; (case qzN => k_asm); (case qzm => k_mem); (case qzd => k_asm); k_whole) | (refine' kob_method (knd := PySem.intKind _ _) PySem.F.slot_dict_pop PySem.F.type_dict_pop ?qzN ?qzm ?qzd ?_; (case qzN => k_asm); (case qzm => k_mem); (case qzd => k_asm); k_whole))) | fail)
  k_with "getMethod ref" => (first | (k_here; (with_reducible show wpAny _ _ (getMethod (Value.ref _) (Str.ofString "setdefault") _) _ _ _); k_dflt (first | (refine' kob_method (knd := PySem.strKind _ _) PySem.F.slot_dict_setdefault PySem.F.type_dict_setdefault ?qzN ?qzm ?qzd ?_; (case qzN => k_asm); (case qzm => k_mem); (case qzd => k_asm); k_whole) | (refine' kob_method (knd := PySem.intKind _ _) PySem.F.slot_dict_setdefault PySem.F.type_dict_setdefault ?qzN ?qzm ?qzd ?_; (case qzN => k_asm); (case qzm => k_mem); (case qzd => k_asm); k_whole))) | fail)
  k_with "call builtin:dict.get" => (first | (k_here; (with_reducible show wpAny _ _ (call _ [_, _, _]) _ _ _); k_dflt (first | (refine' q_get2 (knd := PySem.strKind _ _) ?qzN ?qzm ?qzd ?qzlo ?qzk _ ?qzl ?_; (case qzN => k_asm); (case qzm => k_mem); (case qzd => k_asm); (case qzlo => exact lo_of (by k_asm) (by k_asm) (by k_mem)); (case qzk => exact strKind_is _ _ _ _); (case qzl => first | assumption | exact rfl); k_whole) | (refine' q_get2 (knd := PySem.intKind _ _) ?qzN ?qzm ?qzd ?qzlo ?qzk _ ?qzl ?_; (case qzN => k_asm); (case qzm => k_mem); (case qzd => k_asm); (case qzlo => exact lo_of (by k_asm) (by k_asm) (by k_mem)); (case qzk => exact intKind_is _ _ _ _); (case qzl => first | assumption | exact rfl); k_whole)); (try dsimp only [Option.getD])) | fail)
  k_with "call builtin:dict.get" => (first | (k_here; (with_reducible show wpAny _ _ (call _ [_, _]) _ _ _); k_dflt (first | (refine' q_get1 (knd := PySem.strKind _ _) ?qzN ?qzm ?qzd ?qzlo ?qzk _ ?qzl ?_; (case qzN => k_asm); (case qzm => k_mem); (case qzd => k_asm); (case qzlo => exact lo_of (by k_asm) (by k_asm) (by k_mem)); (case qzk => exact strKind_is _ _ _ _); (case qzl => first | assumption | exact rfl); k_whole) | (refine' q_get1 (knd := PySem.intKind _ _) ?qzN ?qzm ?qzd ?qzlo ?qzk _ ?qzl ?_; (case qzN => k_asm); (case qzm => k_mem); (case qzd => k_asm); (case qzlo => exact lo_of (by k_asm) (by k_asm) (by k_mem)); (case qzk => exact intKind_is _ _ _ _); (case qzl => first | assumption | exact rfl); k_whole)); (try dsimp only [Option.getD])) | fail)
  k_with "subscriptTail" => (first | (k_here; (with_reducible first | show wpAny _ _ (subscriptTail _ _ (Value.ref _) (Value.str _ _)) _ _ _ | show wpAny _ _ (subscriptTail _ _ (Value.ref _) (Value.int _ _)) _ _ _); k_dflt (first | (refine' q_item (knd := PySem.strKind _ _) ?qzN ?qzm ?qzd ?qzk ?qzl ?_ ?qza ?qzb; (case qzN => k_asm); (case qzm => k_mem); (case qzd => k_asm); (case qzk => exact strKind_is _ _ _ _); (case qzl => first | assumption | exact valueAt_stored _ _ _ | exact rfl); (case qza => with_unfolding_all rfl); (case qzb => intro _; with_unfolding_all rfl); k_whole) | (refine' q_item (knd := PySem.intKind _ _) ?qzN ?qzm ?qzd ?qzk ?qzl ?_ ?qza ?qzb; (case qzN => k_asm); (case qzm => k_mem); (case qzd => k_asm); (case qzk => exact intKind_is _ _ _ _); (case qzl => first | assumption | exact valueAt_stored _ _ _ | exact rfl); (case qza => with_unfolding_all rfl); (case qzb => intro _; with_unfolding_all rfl); k_whole))) | fail)
  k_with "compareOp In str ref" => (first | (k_here; (with_reducible first | show wpAny _ _ (compareOp _ (Value.str _ _) (Value.ref _)) _ _ _ | show wpAny _ _ (compareOp _ (Value.int _ _) (Value.ref _)) _ _ _); k_dflt (first | (refine' q_in (knd := PySem.strKind _ _) ?qzN ?qzm ?qzd ?qzlo ?qzk _ ?qzl ?_; (case qzN => k_asm); (case qzm => k_mem); (case qzd => k_asm); (case qzlo => exact lo_of (by k_asm) (by k_asm) (by k_mem)); (case qzk => exact strKind_is _ _ _ _); (case qzl => first | (refine' some_is ?qzhs; (case qzhs => assumption)) | (refine' none_is ?qzhs; (case qzhs => assumption)) | exact rfl); k_whole) | (refine' q_in (knd := PySem.intKind _ _) ?qzN ?qzm ?qzd ?qzlo ?qzk _ ?qzl ?_; (case qzN => k_asm); (case qzm => k_mem); (case qzd => k_asm); (case qzlo => exact lo_of (by k_asm) (by k_asm) (by k_mem)); (case qzk => exact intKind_is _ _ _ _); (case qzl => first | (refine' some_is ?qzhs; (case qzhs => assumption)) | (refine' none_is ?qzhs; (case qzhs => assumption)) | exact rfl); k_whole))) | fail)
  k_with "compareOp In int ref" => (first | (k_here; (with_reducible first | show wpAny _ _ (compareOp _ (Value.str _ _) (Value.ref _)) _ _ _ | show wpAny _ _ (compareOp _ (Value.int _ _) (Value.ref _)) _ _ _); k_dflt (first | (refine' q_in (knd := PySem.strKind _ _) ?qzN ?qzm ?qzd ?qzlo ?qzk _ ?qzl ?_; (case qzN => k_asm); (case qzm => k_mem); (case qzd => k_asm); (case qzlo => exact lo_of (by k_asm) (by k_asm) (by k_mem)); (case qzk => exact strKind_is _ _ _ _); (case qzl => first | (refine' some_is ?qzhs; (case qzhs => assumption)) | (refine' none_is ?qzhs; (case qzhs => assumption)) | exact rfl); k_whole) | (refine' q_in (knd := PySem.intKind _ _) ?qzN ?qzm ?qzd ?qzlo ?qzk _ ?qzl ?_; (case qzN => k_asm); (case qzm => k_mem); (case qzd => k_asm); (case qzlo => exact lo_of (by k_asm) (by k_asm) (by k_mem)); (case qzk => exact intKind_is _ _ _ _); (case qzl => first | (refine' some_is ?qzhs; (case qzhs => assumption)) | (refine' none_is ?qzhs; (case qzhs => assumption)) | exact rfl); k_whole))) | fail)
  k_with "compareOp NotIn str ref" => (first | (k_here; (with_reducible first | show wpAny _ _ (compareOp _ (Value.str _ _) (Value.ref _)) _ _ _ | show wpAny _ _ (compareOp _ (Value.int _ _) (Value.ref _)) _ _ _); k_dflt (first | (refine' q_notin (knd := PySem.strKind _ _) ?qzN ?qzm ?qzd ?qzlo ?qzk _ ?qzl ?_; (case qzN => k_asm); (case qzm => k_mem); (case qzd => k_asm); (case qzlo => exact lo_of (by k_asm) (by k_asm) (by k_mem)); (case qzk => exact strKind_is _ _ _ _); (case qzl => first | (refine' some_is ?qzhs; (case qzhs => assumption)) | (refine' none_is ?qzhs; (case qzhs => assumption)) | exact rfl); k_whole) | (refine' q_notin (knd := PySem.intKind _ _) ?qzN ?qzm ?qzd ?qzlo ?qzk _ ?qzl ?_; (case qzN => k_asm); (case qzm => k_mem); (case qzd => k_asm); (case qzlo => exact lo_of (by k_asm) (by k_asm) (by k_mem)); (case qzk => exact intKind_is _ _ _ _); (case qzl => first | (refine' some_is ?qzhs; (case qzhs => assumption)) | (refine' none_is ?qzhs; (case qzhs => assumption)) | exact rfl); k_whole))) | fail)
  k_with "compareOp NotIn int ref" => (first | (k_here; (with_reducible first | show wpAny _ _ (compareOp _ (Value.str _ _) (Value.ref _)) _ _ _ | show wpAny _ _ (compareOp _ (Value.int _ _) (Value.ref _)) _ _ _); k_dflt (first | (refine' q_notin (knd := PySem.strKind _ _) ?qzN ?qzm ?qzd ?qzlo ?qzk _ ?qzl ?_; (case qzN => k_asm); (case qzm => k_mem); (case qzd => k_asm); (case qzlo => exact lo_of (by k_asm) (by k_asm) (by k_mem)); (case qzk => exact strKind_is _ _ _ _); (case qzl => first | (refine' some_is ?qzhs; (case qzhs => assumption)) | (refine' none_is ?qzhs; (case qzhs => assumption)) | exact rfl); k_whole) | (refine' q_notin (knd := PySem.intKind _ _) ?qzN ?qzm ?qzd ?qzlo ?qzk _ ?qzl ?_; (case qzN => k_asm); (case qzm => k_mem); (case qzd => k_asm); (case qzlo => exact lo_of (by k_asm) (by k_asm) (by k_mem)); (case qzk => exact intKind_is _ _ _ _); (case qzl => first | (refine' some_is ?qzhs; (case qzhs => assumption)) | (refine' none_is ?qzhs; (case qzhs => assumption)) | exact rfl); k_whole))) | fail)
  k_with "getItem ref" => (first | (k_here; (with_reducible first | show wpAny _ _ (getItem (Value.ref _) (Value.str _ _)) _ _ _ | show wpAny _ _ (getItem (Value.ref _) (Value.int _ _)) _ _ _); k_dflt (first | (refine' q_gitem (knd := PySem.strKind _ _) ?qzN ?qzm ?qzd ?qzk ?qzl ?_; (case qzN => k_asm); (case qzm => k_mem); (case qzd => k_asm); (case qzk => exact strKind_is _ _ _ _); (case qzl => first | assumption | exact valueAt_stored _ _ _ | exact rfl); k_whole) | (refine' q_gitem (knd := PySem.intKind _ _) ?qzN ?qzm ?qzd ?qzk ?qzl ?_; (case qzN => k_asm); (case qzm => k_mem); (case qzd => k_asm); (case qzk => exact intKind_is _ _ _ _); (case qzl => first | assumption | exact valueAt_stored _ _ _ | exact rfl); k_whole))) | fail)
  k_with "setItem ref" => (first | ((k_here; (with_reducible first | show wpAny _ _ (setItem (Value.ref _) (Value.str _ _) _) _ _ _ | show wpAny _ _ (setItem (Value.ref _) (Value.int _ _) _) _ _ _); k_dflt (first | (refine' kda_set (knd := PySem.strKind _ _) ?qzF ?qzN ?qzU ?qzd ?qzk ?qzz ?_; (case qzF => k_asm); (case qzN => k_asm); (case qzU => k_updF); (case qzd => k_asm); (case qzk => exact strKind_is _ _ _ _); (case qzz => exact line64 (by assumption)); k_whole) | (refine' kda_set (knd := PySem.intKind _ _) ?qzF ?qzN ?qzU ?qzd ?qzk ?qzz ?_; (case qzF => k_asm); (case qzN => k_asm); (case qzU => k_updF); (case qzd => k_asm); (case qzk => exact intKind_is _ _ _ _); (case qzz => exact line64 (by assumption)); k_whole)); intro h' o' F' N' hd'; (try dsimp only at N')); (try revert hd'); (try revert N'); (try revert F'); (try revert o'); (try revert h'); intros) | fail)
  k_with "compareOp In str ref" => (first | (k_here; (with_reducible show wpAny _ _ (compareOp CmpOp.In (Value.str _ _) (Value.ref _)) _ _ _); k_dflt (refine' in_tuple_strs ?qzk1 ?qzk2 ?_; (case qzk1 => exact tupK (Frag.In.keeps (by k_asm) (Fr.keep (by k_asm))) (by k_is)); (case qzk2 => kde_strs); k_whole)) | fail)
  k_with "compareOp NotIn str ref" => (first | (k_here; (with_reducible show wpAny _ _ (compareOp CmpOp.NotIn (Value.str _ _) (Value.ref _)) _ _ _); k_dflt (refine' notin_tuple_strs ?qzk1 ?qzk2 ?_; (case qzk1 => exact tupK (Frag.In.keeps (by k_asm) (Fr.keep (by k_asm))) (by k_is)); (case qzk2 => kde_strs); k_whole)) | fail)
  k_with "call ref" => (first | ((k_here; (with_reducible show wpAny _ _ (call (Value.ref 63) _) _ _ _); k_dflt (refine' wp_up (mk_io (gd := _) ?qzB ?qzF ?qzX ?qzN ?qzT ?qzhf ?qzhk ?_) rfl (Nat.le_of_ble_eq_true rfl) rfl rfl (Nat.le_of_ble_eq_true rfl); (case qzB => k_asm); (case qzF => k_asm); (case qzX => k_asm); (case qzN => k_asm); (case qzT => k_asm); (case qzhf => exact rfl); (case qzhk => exact rfl)); intro h' tk' e' t' od' F' N' l'); (try revert l'); (try revert N'); (try revert F'); (try revert od'); (try revert t'); (try revert e'); (try revert tk'); (try revert h'); intros) | fail)
  k_with "call ref" => (first | ((k_here; (with_reducible show wpAny _ _ (call (Value.ref 82) _) _ _ _); k_dflt (refine' wp_up (mk_end (gd := _) ?qzB ?qzF ?qzX ?qzN ?qzT ?qzhf ?qzhk ?_) rfl (Nat.le_of_ble_eq_true rfl) rfl rfl (Nat.le_of_ble_eq_true rfl); (case qzB => k_asm); (case qzF => k_asm); (case qzX => k_asm); (case qzN => k_asm); (case qzT => k_asm); (case qzhf => exact rfl); (case qzhk => exact rfl)); intro h' tk' e' t' od' F' N' l'); (try revert l'); (try revert N'); (try revert F'); (try revert od'); (try revert t'); (try revert e'); (try revert tk'); (try revert h'); intros) | fail)
  k_with "call ref" => (first | ((k_here; (with_reducible show wpAny _ _ (call (Value.ref 44) _) _ _ _); k_dflt (refine' wp_up (mk_check (gd := _) ?qzB ?qzF ?qzX ?qzN ?qzT ?qzhf ?qzhk ?_) rfl (Nat.le_of_ble_eq_true rfl) rfl rfl (Nat.le_of_ble_eq_true rfl); (case qzB => k_asm); (case qzF => k_asm); (case qzX => k_asm); (case qzN => k_asm); (case qzT => k_asm); (case qzhf => exact rfl); (case qzhk => exact rfl)); intro h' tk' e' t' od' F' N' l'); (try revert l'); (try revert N'); (try revert F'); (try revert od'); (try revert t'); (try revert e'); (try revert tk'); (try revert h'); intros) | fail)
  k_with "call ref" => (first | ((k_here; (with_reducible show wpAny _ _ (call (Value.ref 147) [Value.int _ _, Value.ref _, Value.str _ _]) _ _ _); k_dflt (refine' wp_up (unit_new (gd := _) ?qzB ?qzF ?qzX ?qzN ?qzT ?qzhf ?qzhk ?_) rfl (Nat.le_of_ble_eq_true rfl) rfl rfl (Nat.le_of_ble_eq_true rfl); (case qzB => k_asm); (case qzF => k_asm); (case qzX => k_asm); (case qzN => k_asm); (case qzT => k_asm); (case qzhf => exact rfl); (case qzhk => exact rfl)); intro ua' uda' od' h' tk' hD' l1' l2' F' N'; (try k_lt l1')); (try revert N'); (try revert F'); (try revert l2'); (try revert l1'); (try revert hD'); (try revert tk'); (try revert h'); (try revert od'); (try revert uda'); (try revert ua'); intros) | fail)
  k_with "call ref" => (first | ((k_here; (with_reducible show wpAny _ _ (call (Value.ref 105) [Value.str _ _, Value.str _ _, Value.str _ _, Value.int _ _]) _ _ _); k_dflt (refine' wp_up (file_new (gd := _) ?qzB ?qzF ?qzX ?qzN ?qzT ?qzhf ?qzhk ?_) rfl (Nat.le_of_ble_eq_true rfl) rfl rfl (Nat.le_of_ble_eq_true rfl); (case qzB => k_asm); (case qzF => k_asm); (case qzX => k_asm); (case qzN => k_asm); (case qzT => k_asm); (case qzhf => exact rfl); (case qzhk => exact rfl)); intro fa' fda' od' ra' h' tk' hD' l1' l2' l3' F' N'; (try k_lt l1')); (try revert N'); (try revert F'); (try revert l3'); (try revert l2'); (try revert l1'); (try revert hD'); (try revert tk'); (try revert h'); (try revert ra'); (try revert od'); (try revert fda'); (try revert fa'); intros) | fail)
  k_with "exec Raise some none" => (first | (k_here; (with_reducible show wpAny _ _ (exec (Stmt.Raise (some (Expr.Call (Expr.Name (Str.ofString "IoFault") _) _ _ _)) none _) _) _ _ _); k_dflt (refine' raise_at (C := 63) ?qzX ?qzh ?qzq ?_; (case qzX => k_asm); (case qzh => rfl); (case qzq => with_unfolding_all rfl); k_whole)) | fail)
  k_with "exec Raise some none" => (first | (k_here; (with_reducible show wpAny _ _ (exec (Stmt.Raise (some (Expr.Call (Expr.Name (Str.ofString "EndFault") _) _ _ _)) none _) _) _ _ _); k_dflt (refine' raise_at (C := 82) ?qzX ?qzh ?qzq ?_; (case qzX => k_asm); (case qzh => rfl); (case qzq => with_unfolding_all rfl); k_whole)) | fail)
  k_with "exec Raise some none" => (first | (k_here; (with_reducible show wpAny _ _ (exec (Stmt.Raise (some (Expr.Call (Expr.Name (Str.ofString "CheckFault") _) _ _ _)) none _) _) _ _ _); k_dflt (refine' raise_at (C := 44) ?qzX ?qzh ?qzq ?_; (case qzX => k_asm); (case qzh => rfl); (case qzq => with_unfolding_all rfl); k_whole)) | fail)
  k_with "Thrown" => (first | (k_here; k_dflt (refine' thrown_of ?qzF ?qzX ?qzN ?_; (case qzF => k_asm); (case qzX => k_asm); (case qzN => k_asm))) | fail)
  k_with "leaving ref" => (first | ((k_here; k_dflt (refine' leave_own ?qzK ?qzF ?qzN ?qzl ?_ ?qzh; (case qzh => rfl); (case qzK => assumption); (case qzF => k_asm); (case qzN => k_asm); (case qzl => assumption); k_whole); intro h' R' U'; (try dsimp only at R' U' ⊢)); (try revert U'); (try revert R'); (try revert h'); intros) | fail)
  k_with "call ref" => (first | ((k_here; (with_reducible show wpAny _ _ (call (Value.ref 158) [Value.ref _, Value.str (Str.ofString "STATUS") _, Value.str (Str.ofString "UNKNOWN") _, Value.ref 85]) _ _ _); k_dflt (refine' wp_up (status_any (gd := _) ?qzB ?qzF ?qzX ?qzN ?qzT ?qzhf ?qzhk ?qzhm ?qzhd ?qzhv ?qzht ?_) rfl (Nat.le_of_ble_eq_true rfl) rfl rfl (Nat.le_of_ble_eq_true rfl); (case qzF => k_asm); (case qzX => k_asm); (case qzN => k_asm); (case qzT => k_asm); (case qzB => k_asm); (case qzhf => exact rfl); (case qzhk => exact rfl); (case qzhm => k_mem); (case qzhd => k_asm); (case qzhv => k_asm); (case qzht => k_asm)); intro tv' h' tk' F' N'); (try revert N'); (try revert F'); (try revert tk'); (try revert h'); (try revert tv'); intros) | fail)
  k_with "call ref" => (first | ((k_here; (with_reducible show wpAny _ _ (call (Value.ref 172) [Value.ref _]) _ _ _); k_dflt (refine' wp_up (sort_any (gd := _) ?qzB ?qzF ?qzX ?qzN ?qzT ?qzhf ?qzhk ?qzhm ?qzhd ?qzh1 ?qzh2 ?qzh3 ?qzh4 ?_) rfl (Nat.le_of_ble_eq_true rfl) rfl rfl (Nat.le_of_ble_eq_true rfl); (case qzF => k_asm); (case qzX => k_asm); (case qzN => k_asm); (case qzT => k_asm); (case qzB => k_asm); (case qzhf => exact rfl); (case qzhk => exact rfl); (case qzhm => k_mem); (case qzhd => k_asm); (case qzh1 => k_asm); (case qzh2 => k_asm); (case qzh3 => k_asm); (case qzh4 => k_asm)); intro tp' t0' t1' t2' h' tk' F' N' l1; (try k_lt l1)); (try revert l1); (try revert N'); (try revert F'); (try revert tk'); (try revert h'); (try revert t2'); (try revert t1'); (try revert t0'); (try revert tp'); intros) | fail)
  k_with "call ref" => (first | ((k_here; (with_reducible show wpAny _ _ (call (Value.ref 165) [Value.ref _]) _ _ _); k_dflt (refine' wp_up (name_any (gd := _) ?qzB ?qzF ?qzX ?qzN ?qzT ?qzhf ?qzhk ?qzhm ?qzhd ?qzhv ?qzht ?_) rfl (Nat.le_of_ble_eq_true rfl) rfl rfl (Nat.le_of_ble_eq_true rfl); (case qzF => k_asm); (case qzX => k_asm); (case qzN => k_asm); (case qzT => k_asm); (case qzB => k_asm); (case qzhf => exact rfl); (case qzhk => exact rfl); (case qzhm => k_mem); (case qzhd => k_asm); (case qzhv => k_asm); (case qzht => k_asm)); intro tv' h' tk' F' N'); (try revert N'); (try revert F'); (try revert tk'); (try revert h'); (try revert tv'); intros) | fail)
  k_with "call ref" => (first | (k_here; (with_reducible show wpAny _ _ (call (Value.ref 186) _) _ _ _); refine hold ?_) | fail)
  k_with "call ref" => (first | (k_here; (with_reducible show wpAny _ _ (call (Value.ref 193) _) _ _ _); refine hold ?_) | fail)
  k_with "leaving ref" => (first | ((k_here; k_dflt (refine' leave_onSN ?qzK ?qzF ?qzR ?qzU ?_; (case qzR => assumption); (case qzK => assumption); (case qzF => assumption); (case qzU => assumption); k_whole); intro h' R' _ U'; (try dsimp only at R' U' ⊢)); (try revert U'); (try revert R'); (try revert h'); intros) | fail)
  trivial
section
theorem news_skip_w {h₀ h : Heap} {L : Addr} {a b c d e : Addr × Obj} {l : List (Addr × Obj)} (N : News h₀ L h (a :: b :: c :: d :: e :: l)) : News h₀ L h (b :: d :: e :: l) := by
  have t1 := news_tl N; have t2 := news_tl t1; have t3 := news_tl t2
  exact news_add t1 (news_add t3 (news_tl t3))
section
variable {w : World} {gd : Option (List Code)} {env : Env} {outer : List Env} {A₀ : Around} {base h₀ : Heap} {L : Addr} {m mg mb : Str → Option Value} {mean : ExcName → Option Value} {s : Shared} {Q E : Value → Shared → Prop}
    {news : List (Addr × Obj)} {inp sa : Addr}
theorem store_any (B : Below A₀ base outer h₀) (F : Fr h₀ L s.heap m) (X : (hd.heap_1 w.params).In h₀) (N : News h₀ L s.heap news) (T : Top view (looseW view []) mean mg mb h₀)
    (hf : env.frame = some L) (hk : env.scope.kind = .function)
    (ret : ∀ x d fd fo hh t n h' tk, fo.IsDictOf (PySem.strKind P0 w) [] → (∀ p ∈ news, @LT.lt Nat _ p.1 d) → @LT.lt Nat _ d x → @LT.lt Nat _ x fd → Fr h₀ L h' m → News h₀ L h' ((fd, fo) :: (x, instObj 126 d) :: (d, dictOf [⟨hh, .str (Str.ofString "files") t, .ref fd⟩] n) :: news) → Q (.ref x) { s with heap := h', toks := tk }) :
    wpAny (model P0 w) (At 500 1500 gd env outer) (call (.ref 126) []) Q E s := (by exact kept : Kept _ (by
  k_steps
  refine' ret _ _ _ _ _ _ _ _ _ ?o ?d ?x ?fd ?F ?N
  (case N => k_asm)
  (case F => k_asm)
  (case o => assumption)
  (case d => assumption)
  (case x => assumption)
  (case fd => omega)))
theorem world_any (B : Below A₀ base outer h₀) (F : Fr h₀ L s.heap m) (X : (hd.heap_1 w.params).In h₀) (N : News h₀ L s.heap news) (T : Top view (looseW view []) mean mg mb h₀)
    (hf : env.frame = some L) (hk : env.scope.kind = .function)
    (ret : ∀ x d ud uo wo h' tk, uo.IsDictOf (PySem.intKind P0 w) [] → WorldD wo sa ud → (∀ p ∈ news, @LT.lt Nat _ p.1 d) → @LT.lt Nat _ d x → @LT.lt Nat _ x ud → Fr h₀ L h' m → News h₀ L h' ((ud, uo) :: (x, instObj 299 d) :: (d, wo) :: news) → Q (.ref x) { s with heap := h', toks := tk }) :
    wpAny (model P0 w) (At 500 1500 gd env outer) (call (.ref 299) [.ref inp, .ref sa]) Q E s := (by exact kept : Kept _ (by
  k_steps
  refine' ret _ _ _ _ _ _ _ ?o ⟨_, _, _, _, _, _, _, _, _, _, _, _, _, _, _, _, _, rfl⟩ ?d ?x ?ud ?F ?N
  (case N => exact news_skip_w (by k_asm))
  (case F => k_asm)
  (case o => assumption)
  (case d => assumption)
  (case x => assumption)
  (case ud => omega)))
end
end
section
/-! The states of the law's loops. -/
def st0 : St := ⟨[], fun _ => ⟨Str.ofString "", 0, []⟩, [], fun _ => []⟩
theorem sok0 : SOk st0 0 :=
  ⟨List.nodup_nil, List.nodup_nil, fun _ h => absurd h List.not_mem_nil, fun _ h => absurd h List.not_mem_nil, fun _ h => absurd h List.not_mem_nil, fun _ h => absurd h List.not_mem_nil, fun _ h => absurd h List.not_mem_nil, Nat.le_refl _, Nat.le_refl _, fun _ h => absurd h List.not_mem_nil, fun _ h => absurd h List.not_mem_nil, fun _ h => absurd h List.not_mem_nil⟩
theorem pinv0 {w : World} {ud fd : Addr} {uo fo : Obj} (hu : uo.IsDictOf (PySem.intKind P0 w) []) (hf : fo.IsDictOf (PySem.strKind P0 w) []) (ne : @Ne Nat ud fd) : PInv w ud fd [(ud, uo), (fd, fo)] st0 :=
  ⟨uo, fo, [], [], fun _ => ud, fun _ => ud, fun _ => ud, .head _, .tail _ (.head _), hu, hf, rfl, rfl, fun _ h => absurd h List.not_mem_nil, fun _ h => absurd h List.not_mem_nil, fun _ h => absurd h List.not_mem_nil, ne⟩
theorem binv0 {w : World} {ud fd : Addr} {uo fo : Obj} (hu : uo.IsDictOf (PySem.intKind P0 w) []) (hf : fo.IsDictOf (PySem.strKind P0 w) []) (ne : @Ne Nat ud fd) : BInv w ud fd [(ud, uo), (fd, fo)] st0 :=
  ⟨uo, fo, [], [], fun _ => ud, .head _, .tail _ (.head _), hu, hf, rfl, rfl, fun _ h => absurd h List.not_mem_nil, fun _ h => absurd h List.not_mem_nil, fun a b h => by cases a <;> exact absurd h List.not_mem_nil, ne⟩
/-- what stands between the deeds -/
inductive LoopJ (w : World) (ud fd bud bfd tr ci : Addr) (R : List (Addr × Obj)) (i : Nat) (nx : List (Addr × Obj)) : Prop where
  | mk (p : Int) (tq : Tok) (A B : List (Addr × Obj)) (st : St) (e : nx = (tr, listOf #[.int p tq, .ref ci] 0) :: (A ++ (B ++ R))) (IA : PInv w ud fd A st) (IB : BInv w bud bfd B st) (SL : SOk st i) (DA : Dis A (B ++ R)) (DB : Dis B R)
    (h1 : ∀ q ∈ A ++ (B ++ R), @Ne Nat q.1 tr) (h2 : 0 ≤ p) (h3 : p ≤ 20 + 4 * (i : Int)) : LoopJ w ud fd bud bfd tr ci R i nx
theorem all_nil {P : Addr × Obj → Prop} : ∀ p ∈ ([] : List (Addr × Obj)), P p := fun _ h => nomatch h
theorem all_cons {P : Addr × Obj → Prop} {a : Addr × Obj} {l : List (Addr × Obj)} (h : P a) (t : ∀ p ∈ l, P p) : ∀ p ∈ a :: l, P p := fun _ hp => (List.mem_cons.mp hp).elim (fun e => e ▸ h) (t _)
theorem law_news {h₀ h : Heap} {L bu bf bk uw xw dw fs xs ds tr ci c4 c3 c2 c1 : Addr} {obu obf obk ouw oxw odw ofs oxs ods otr oci o4 o3 o2 o1 : Obj} {g : Addr × Obj}
    (N : News h₀ L h [(bu, obu), (bf, obf), (bk, obk), (uw, ouw), (xw, oxw), (dw, odw), (fs, ofs), (xs, oxs), (ds, ods), g, (tr, otr), (ci, oci), (c4, o4), (c3, o3), (c2, o2), (c1, o1)])
    (e1 : @LT.lt Nat _ ci tr) (e2 : @LT.lt Nat _ c4 tr) (e3 : @LT.lt Nat _ c3 tr) (e4 : @LT.lt Nat _ c2 tr) (e5 : @LT.lt Nat _ c1 tr) (e6 : @LT.lt Nat _ tr ds) (e7 : @LT.lt Nat _ ds xs) (e8 : @LT.lt Nat _ xs fs) (e9 : @LT.lt Nat _ fs dw) (e10 : @LT.lt Nat _ dw xw) (e11 : @LT.lt Nat _ xw uw) (e12 : @LT.lt Nat _ uw bk) (e13 : @LT.lt Nat _ bk bf) (e14 : @LT.lt Nat _ bf bu) :
    ∃ R, R = [(bk, obk), (xw, oxw), (dw, odw), (xs, oxs), (ds, ods), (ci, oci), (c4, o4), (c3, o3), (c2, o2), (c1, o1)] ∧ News h₀ L h ((tr, otr) :: ([(uw, ouw), (fs, ofs)] ++ ([(bu, obu), (bf, obf)] ++ R))) ∧
      Dis [(uw, ouw), (fs, ofs)] ([(bu, obu), (bf, obf)] ++ R) ∧ Dis [(bu, obu), (bf, obf)] R ∧ ∀ q ∈ [(uw, ouw), (fs, ofs)] ++ ([(bu, obu), (bf, obf)] ++ R), @Ne Nat q.1 tr := by
  have z_uw_bf : @LT.lt Nat _ uw bf := Nat.lt_trans e12 e13
  have z_uw_bu : @LT.lt Nat _ uw bu := Nat.lt_trans z_uw_bf e14
  have z_dw_uw : @LT.lt Nat _ dw uw := Nat.lt_trans e10 e11
  have z_xs_dw : @LT.lt Nat _ xs dw := Nat.lt_trans e8 e9
  have z_xs_xw : @LT.lt Nat _ xs xw := Nat.lt_trans z_xs_dw e10
  have z_xs_uw : @LT.lt Nat _ xs uw := Nat.lt_trans z_xs_xw e11
  have z_ds_fs : @LT.lt Nat _ ds fs := Nat.lt_trans e7 e8
  have z_ds_dw : @LT.lt Nat _ ds dw := Nat.lt_trans z_ds_fs e9
  have z_ds_xw : @LT.lt Nat _ ds xw := Nat.lt_trans z_ds_dw e10
  have z_ds_uw : @LT.lt Nat _ ds uw := Nat.lt_trans z_ds_xw e11
  have z_ci_ds : @LT.lt Nat _ ci ds := Nat.lt_trans e1 e6
  have z_ci_xs : @LT.lt Nat _ ci xs := Nat.lt_trans z_ci_ds e7
  have z_ci_fs : @LT.lt Nat _ ci fs := Nat.lt_trans z_ci_xs e8
  have z_ci_dw : @LT.lt Nat _ ci dw := Nat.lt_trans z_ci_fs e9
  have z_ci_xw : @LT.lt Nat _ ci xw := Nat.lt_trans z_ci_dw e10
  have z_ci_uw : @LT.lt Nat _ ci uw := Nat.lt_trans z_ci_xw e11
  have z_c4_ds : @LT.lt Nat _ c4 ds := Nat.lt_trans e2 e6
  have z_c4_xs : @LT.lt Nat _ c4 xs := Nat.lt_trans z_c4_ds e7
  have z_c4_fs : @LT.lt Nat _ c4 fs := Nat.lt_trans z_c4_xs e8
  have z_c4_dw : @LT.lt Nat _ c4 dw := Nat.lt_trans z_c4_fs e9
  have z_c4_xw : @LT.lt Nat _ c4 xw := Nat.lt_trans z_c4_dw e10
  have z_c4_uw : @LT.lt Nat _ c4 uw := Nat.lt_trans z_c4_xw e11
  have z_c3_ds : @LT.lt Nat _ c3 ds := Nat.lt_trans e3 e6
  have z_c3_xs : @LT.lt Nat _ c3 xs := Nat.lt_trans z_c3_ds e7
  have z_c3_fs : @LT.lt Nat _ c3 fs := Nat.lt_trans z_c3_xs e8
  have z_c3_dw : @LT.lt Nat _ c3 dw := Nat.lt_trans z_c3_fs e9
  have z_c3_xw : @LT.lt Nat _ c3 xw := Nat.lt_trans z_c3_dw e10
  have z_c3_uw : @LT.lt Nat _ c3 uw := Nat.lt_trans z_c3_xw e11
  have z_c2_ds : @LT.lt Nat _ c2 ds := Nat.lt_trans e4 e6
  have z_c2_xs : @LT.lt Nat _ c2 xs := Nat.lt_trans z_c2_ds e7
  have z_c2_fs : @LT.lt Nat _ c2 fs := Nat.lt_trans z_c2_xs e8
  have z_c2_dw : @LT.lt Nat _ c2 dw := Nat.lt_trans z_c2_fs e9
  have z_c2_xw : @LT.lt Nat _ c2 xw := Nat.lt_trans z_c2_dw e10
  have z_c2_uw : @LT.lt Nat _ c2 uw := Nat.lt_trans z_c2_xw e11
  have z_c1_ds : @LT.lt Nat _ c1 ds := Nat.lt_trans e5 e6
  have z_c1_xs : @LT.lt Nat _ c1 xs := Nat.lt_trans z_c1_ds e7
  have z_c1_fs : @LT.lt Nat _ c1 fs := Nat.lt_trans z_c1_xs e8
  have z_c1_dw : @LT.lt Nat _ c1 dw := Nat.lt_trans z_c1_fs e9
  have z_c1_xw : @LT.lt Nat _ c1 xw := Nat.lt_trans z_c1_dw e10
  have z_c1_uw : @LT.lt Nat _ c1 uw := Nat.lt_trans z_c1_xw e11
  have z_fs_xw : @LT.lt Nat _ fs xw := Nat.lt_trans e9 e10
  have z_fs_uw : @LT.lt Nat _ fs uw := Nat.lt_trans z_fs_xw e11
  have z_fs_bk : @LT.lt Nat _ fs bk := Nat.lt_trans z_fs_uw e12
  have z_fs_bf : @LT.lt Nat _ fs bf := Nat.lt_trans z_fs_bk e13
  have z_fs_bu : @LT.lt Nat _ fs bu := Nat.lt_trans z_fs_bf e14
  have z_bk_bu : @LT.lt Nat _ bk bu := Nat.lt_trans e13 e14
  have z_xw_bk : @LT.lt Nat _ xw bk := Nat.lt_trans e11 e12
  have z_xw_bf : @LT.lt Nat _ xw bf := Nat.lt_trans z_xw_bk e13
  have z_xw_bu : @LT.lt Nat _ xw bu := Nat.lt_trans z_xw_bf e14
  have z_dw_bk : @LT.lt Nat _ dw bk := Nat.lt_trans z_dw_uw e12
  have z_dw_bf : @LT.lt Nat _ dw bf := Nat.lt_trans z_dw_bk e13
  have z_dw_bu : @LT.lt Nat _ dw bu := Nat.lt_trans z_dw_bf e14
  have z_xs_bk : @LT.lt Nat _ xs bk := Nat.lt_trans z_xs_uw e12
  have z_xs_bf : @LT.lt Nat _ xs bf := Nat.lt_trans z_xs_bk e13
  have z_xs_bu : @LT.lt Nat _ xs bu := Nat.lt_trans z_xs_bf e14
  have z_ds_bk : @LT.lt Nat _ ds bk := Nat.lt_trans z_ds_uw e12
  have z_ds_bf : @LT.lt Nat _ ds bf := Nat.lt_trans z_ds_bk e13
  have z_ds_bu : @LT.lt Nat _ ds bu := Nat.lt_trans z_ds_bf e14
  have z_ci_bk : @LT.lt Nat _ ci bk := Nat.lt_trans z_ci_uw e12
  have z_ci_bf : @LT.lt Nat _ ci bf := Nat.lt_trans z_ci_bk e13
  have z_ci_bu : @LT.lt Nat _ ci bu := Nat.lt_trans z_ci_bf e14
  have z_c4_bk : @LT.lt Nat _ c4 bk := Nat.lt_trans z_c4_uw e12
  have z_c4_bf : @LT.lt Nat _ c4 bf := Nat.lt_trans z_c4_bk e13
  have z_c4_bu : @LT.lt Nat _ c4 bu := Nat.lt_trans z_c4_bf e14
  have z_c3_bk : @LT.lt Nat _ c3 bk := Nat.lt_trans z_c3_uw e12
  have z_c3_bf : @LT.lt Nat _ c3 bf := Nat.lt_trans z_c3_bk e13
  have z_c3_bu : @LT.lt Nat _ c3 bu := Nat.lt_trans z_c3_bf e14
  have z_c2_bk : @LT.lt Nat _ c2 bk := Nat.lt_trans z_c2_uw e12
  have z_c2_bf : @LT.lt Nat _ c2 bf := Nat.lt_trans z_c2_bk e13
  have z_c2_bu : @LT.lt Nat _ c2 bu := Nat.lt_trans z_c2_bf e14
  have z_c1_bk : @LT.lt Nat _ c1 bk := Nat.lt_trans z_c1_uw e12
  have z_c1_bf : @LT.lt Nat _ c1 bf := Nat.lt_trans z_c1_bk e13
  have z_c1_bu : @LT.lt Nat _ c1 bu := Nat.lt_trans z_c1_bf e14
  have z_tr_xs : @LT.lt Nat _ tr xs := Nat.lt_trans e6 e7
  have z_tr_fs : @LT.lt Nat _ tr fs := Nat.lt_trans z_tr_xs e8
  have z_tr_dw : @LT.lt Nat _ tr dw := Nat.lt_trans z_tr_fs e9
  have z_tr_xw : @LT.lt Nat _ tr xw := Nat.lt_trans z_tr_dw e10
  have z_tr_uw : @LT.lt Nat _ tr uw := Nat.lt_trans z_tr_xw e11
  have z_tr_bk : @LT.lt Nat _ tr bk := Nat.lt_trans z_tr_uw e12
  have z_tr_bf : @LT.lt Nat _ tr bf := Nat.lt_trans z_tr_bk e13
  have z_tr_bu : @LT.lt Nat _ tr bu := Nat.lt_trans z_tr_bf e14
  have t1 := news_tl N
  have t2 := news_tl t1
  have t3 := news_tl t2
  have t4 := news_tl t3
  have t5 := news_tl t4
  have t6 := news_tl t5
  have t7 := news_tl t6
  have t8 := news_tl t7
  have t9 := news_tl t8
  have t10 := news_tl t9
  have t11 := news_tl t10
  have t12 := news_tl t11
  have t13 := news_tl t12
  have t14 := news_tl t13
  have t15 := news_tl t14
  exact ⟨_, rfl, news_add t10 (news_add t3 (news_add t6 (news_add N (news_add t1 (news_add t2 (news_add t4 (news_add t5 (news_add t7 (news_add t8 (news_add t11 (news_add t12 (news_add t13 (news_add t14 (news_add t15 (news_nil))))))))))))))), all_cons (all_cons (Nat.ne_of_lt z_uw_bu) (all_cons (Nat.ne_of_lt z_uw_bf) (all_cons (Nat.ne_of_lt e12) (all_cons (Nat.ne_of_gt e11) (all_cons (Nat.ne_of_gt z_dw_uw) (all_cons (Nat.ne_of_gt z_xs_uw) (all_cons (Nat.ne_of_gt z_ds_uw) (all_cons (Nat.ne_of_gt z_ci_uw) (all_cons (Nat.ne_of_gt z_c4_uw) (all_cons (Nat.ne_of_gt z_c3_uw) (all_cons (Nat.ne_of_gt z_c2_uw) (all_cons (Nat.ne_of_gt z_c1_uw) (all_nil))))))))))))) (all_cons (all_cons (Nat.ne_of_lt z_fs_bu) (all_cons (Nat.ne_of_lt z_fs_bf) (all_cons (Nat.ne_of_lt z_fs_bk) (all_cons (Nat.ne_of_lt z_fs_xw) (all_cons (Nat.ne_of_lt e9) (all_cons (Nat.ne_of_gt e8) (all_cons (Nat.ne_of_gt z_ds_fs) (all_cons (Nat.ne_of_gt z_ci_fs) (all_cons (Nat.ne_of_gt z_c4_fs) (all_cons (Nat.ne_of_gt z_c3_fs) (all_cons (Nat.ne_of_gt z_c2_fs) (all_cons (Nat.ne_of_gt z_c1_fs) (all_nil))))))))))))) (all_nil)), all_cons (all_cons (Nat.ne_of_gt z_bk_bu) (all_cons (Nat.ne_of_gt z_xw_bu) (all_cons (Nat.ne_of_gt z_dw_bu) (all_cons (Nat.ne_of_gt z_xs_bu) (all_cons (Nat.ne_of_gt z_ds_bu) (all_cons (Nat.ne_of_gt z_ci_bu) (all_cons (Nat.ne_of_gt z_c4_bu) (all_cons (Nat.ne_of_gt z_c3_bu) (all_cons (Nat.ne_of_gt z_c2_bu) (all_cons (Nat.ne_of_gt z_c1_bu) (all_nil))))))))))) (all_cons (all_cons (Nat.ne_of_gt e13) (all_cons (Nat.ne_of_gt z_xw_bf) (all_cons (Nat.ne_of_gt z_dw_bf) (all_cons (Nat.ne_of_gt z_xs_bf) (all_cons (Nat.ne_of_gt z_ds_bf) (all_cons (Nat.ne_of_gt z_ci_bf) (all_cons (Nat.ne_of_gt z_c4_bf) (all_cons (Nat.ne_of_gt z_c3_bf) (all_cons (Nat.ne_of_gt z_c2_bf) (all_cons (Nat.ne_of_gt z_c1_bf) (all_nil))))))))))) (all_nil)), all_cons (Nat.ne_of_gt z_tr_uw) (all_cons (Nat.ne_of_gt z_tr_fs) (all_cons (Nat.ne_of_gt z_tr_bu) (all_cons (Nat.ne_of_gt z_tr_bf) (all_cons (Nat.ne_of_gt z_tr_bk) (all_cons (Nat.ne_of_gt z_tr_xw) (all_cons (Nat.ne_of_gt z_tr_dw) (all_cons (Nat.ne_of_gt z_tr_xs) (all_cons (Nat.ne_of_gt e6) (all_cons (Nat.ne_of_lt e1) (all_cons (Nat.ne_of_lt e2) (all_cons (Nat.ne_of_lt e3) (all_cons (Nat.ne_of_lt e4) (all_cons (Nat.ne_of_lt e5) (all_nil))))))))))))))⟩
/-- the ledger as the program's defs want it -/
theorem news_prog {h₀ h : Heap} {L : Addr} {d i t : Addr × Obj} {A B R : List (Addr × Obj)} (N : News h₀ L h (d :: t :: i :: (A ++ (B ++ R)))) : News h₀ L h (A ++ (d :: t :: i :: (B ++ R))) := by
  have t1 := news_tl N; have t2 := news_tl t1; have t3 := news_tl t2
  exact news_app (news_left t3) (news_add N (news_add t1 (news_add t2 (news_right t3))))
theorem news_book {h₀ h : Heap} {L : Addr} {d i t : Addr × Obj} {A B R : List (Addr × Obj)} (N : News h₀ L h (A ++ (d :: t :: i :: (B ++ R)))) : News h₀ L h (B ++ (d :: t :: i :: (A ++ R))) := by
  have r := news_right N; have t1 := news_tl r; have t2 := news_tl t1; have t3 := news_tl t2
  exact news_app (news_left t3) (news_add r (news_add t1 (news_add t2 (news_app (news_left N) (news_right t3)))))
theorem news_both {h₀ h : Heap} {L : Addr} {d i t : Addr × Obj} {A B R : List (Addr × Obj)} (N : News h₀ L h (B ++ (d :: t :: i :: (A ++ R)))) : News h₀ L h (i :: t :: (A ++ (B ++ R))) := by
  have r := news_right N; have t1 := news_tl r; have t2 := news_tl t1; have t3 := news_tl t2
  exact news_add t2 (news_add t1 (news_app (news_left t3) (news_app (news_left N) (news_right t3))))
theorem dis3 {A R : List (Addr × Obj)} {d t i : Addr × Obj} (D : Dis A R) (h1 : ∀ p ∈ A, @Ne Nat p.1 d.1) (h2 : ∀ p ∈ A, @Ne Nat p.1 t.1) (h3 : ∀ p ∈ A, @Ne Nat p.1 i.1) : Dis A (d :: t :: i :: R) := fun p hp q hq => by
  rcases List.mem_cons.mp hq with rfl | hq
  · exact h1 p hp
  rcases List.mem_cons.mp hq with rfl | hq
  · exact h2 p hp
  rcases List.mem_cons.mp hq with rfl | hq
  · exact h3 p hp
  · exact D p hp q hq
theorem dis3_out {A R : List (Addr × Obj)} {d t i : Addr × Obj} (D : Dis A (d :: t :: i :: R)) : Dis A R ∧ (∀ p ∈ A, @Ne Nat p.1 d.1) ∧ (∀ p ∈ A, @Ne Nat p.1 t.1) ∧ ∀ p ∈ A, @Ne Nat p.1 i.1 :=
  ⟨fun p hp q hq => D p hp q (.tail _ (.tail _ (.tail _ hq))), fun p hp => D p hp _ (.head _), fun p hp => D p hp _ (.tail _ (.head _)), fun p hp => D p hp _ (.tail _ (.tail _ (.head _)))⟩
theorem dis_split {A B R : List (Addr × Obj)} (D : Dis A (B ++ R)) : Dis A B ∧ Dis A R := ⟨fun p hp q hq => D p hp q (List.mem_append_left _ hq), fun p hp q hq => D p hp q (List.mem_append_right _ hq)⟩
theorem dis_join {A B R : List (Addr × Obj)} (D1 : Dis A B) (D2 : Dis A R) : Dis A (B ++ R) := fun p hp q hq => (List.mem_append.mp hq).elim (D1 p hp q) (D2 p hp q)
theorem dis_symm {A B : List (Addr × Obj)} (D : Dis A B) : Dis B A := fun p hp q hq e => D q hq p hp e.symm
theorem mem_at {α : Type} {R l : List α} {p : α} (h : R = l) (i : Nat) (hp : l[i]? = some p) : p ∈ R := h ▸ List.mem_of_getElem? hp
section
variable {prog : Program} {w : World} {A : Around} {E : Value → Shared → Prop} {s : Shared} {h₀ : Heap} {L : Addr} {m : Str → Option Value} {env : Env} {st : Stmt} {Q : Flow → Shared → Prop} {news : List (Addr × Obj)}
theorem test_step (D : Prop) (_F : Fr h₀ L s.heap m) (_N : News h₀ L s.heap news)
    (h1 : wpAny (model prog w) A (exec st env) (fun f s' => Hold (∃ h' tk, (f = .cont ∨ (f = .next ∧ D)) ∧ s' = { s with heap := h', toks := tk } ∧ Fr h₀ L h' m ∧ News h₀ L h' news)) E s)
    (h2 : ∀ h' tk, D → Fr h₀ L h' m → News h₀ L h' news → Q .next { s with heap := h', toks := tk })
    (h3 : ∀ h' tk, Fr h₀ L h' m → News h₀ L h' news → Q .cont { s with heap := h', toks := tk }) : wpAny (model prog w) A (exec st env) Q E s :=
  wpAny_mono h1 (fun f s' ⟨h', tk, e1, e2, F', N'⟩ => by
    subst e2
    rcases e1 with rfl | ⟨rfl, d⟩
    · exact h3 h' tk F' N'
    · exact h2 h' tk d F' N') fun _ _ e => e
end
section
variable {prog : Program} {w : World} {A : Around} {E : Value → Shared → Prop} {s : Shared} {Q : Value → Shared → Prop} {a b : Addr} {o1 o2 : Array Value}
theorem ne_sorted_ints {ns1 ns2 ks1 ks2 : List Int} (hl1 : s.heap.IsList a o1) (hi1 : IntsAre o1.toList ns1) (hp1 : ns1.Perm ks1) (hs1 : ns1.Pairwise (· ≤ ·)) (hl2 : s.heap.IsList b o2) (hi2 : IntsAre o2.toList ns2) (hp2 : ns2.Perm ks2) (hs2 : ns2.Pairwise (· ≤ ·)) (e : ks1 = ks2) (hu : A.units + 64 < cLine)
    (h : Q (.bool false) s) : wpAny (model prog w) A (compareOp .NotEq (.ref a) (.ref b)) Q E s :=
  ne_ints_same (vs := o1.toList) (us := o2.toList) hl1 hi1 hl2 hi2 (sorted_ints_eq (hp1.trans (e ▸ hp2.symm)) hs1 hs2) hu h
theorem ne_sorted_strs {ns1 ns2 ks1 ks2 : List Str} (hl1 : s.heap.IsList a o1) (hi1 : PyProof.Rows.StrsAre o1.toList ns1) (hp1 : ns1.Perm ks1) (hs1 : sortedS ns1 = true) (hl2 : s.heap.IsList b o2) (hi2 : PyProof.Rows.StrsAre o2.toList ns2) (hp2 : ns2.Perm ks2) (hs2 : sortedS ns2 = true) (e : ks1 = ks2) (hu : A.units < cLine)
    (h : Q (.bool false) s) : wpAny (model prog w) A (compareOp .NotEq (.ref a) (.ref b)) Q E s :=
  ne_strs_same (vs := o1.toList) (us := o2.toList) hl1 hi1 hl2 hi2 (sorted_strs_eq (hp1.trans (e ▸ hp2.symm)) hs1 hs2) hu h
end
theorem name_five {v : Value} {nm : Option Str} (h : NameV v nm) : ∀ x, nm = some x → Five x := fun x e => by
  rcases h with ⟨-, rfl⟩ | ⟨y, t, -, rfl, f⟩
  · cases e
  · cases e; exact f
/-- what the turn of a comparison wants of the two parts -/
theorem prog_facts {w : World} {ud fd : Addr} {A : List (Addr × Obj)} {st : St} {bd : Nat} (I : PInv w ud fd A st) (S : SLo st bd) (hbd : bd < 60) :
    ∃ uo fo kvU kvF, (ud, uo) ∈ A ∧ (fd, fo) ∈ A ∧ uo.IsDictOf (PySem.intKind P0 w) kvU ∧ fo.IsDictOf (PySem.strKind P0 w) kvF ∧ kvU.map (·.1) = st.ks ∧ kvF.map (·.1) = st.ns ∧ kvU.length < 64 ∧ kvF.length < 64 ∧
      (∀ k ∈ st.ks, ∃ ua uda od fa fda fod ra rn, valueAt kvU k = some (.ref ua) ∧ (ua, instObj 147 uda) ∈ A ∧ (uda, od) ∈ A ∧ UnitD od k fa (st.U k).pl ∧ (fa, instObj 105 fda) ∈ A ∧ (fda, fod) ∈ A ∧ FileD fod (st.U k).nm ra ∧ (ra, listOf (recsOf st k).toArray rn) ∈ A) ∧
      (∀ x ∈ st.ns, ∃ ga gd fod ra rn, valueAt kvF x = some (.ref ga) ∧ (ga, instObj 105 gd) ∈ A ∧ (gd, fod) ∈ A ∧ FileD fod x ra ∧ (ra, listOf (st.F x).toArray rn) ∈ A) := by
  obtain ⟨uo, fo, kvU, kvF, fa, fda, ga, I⟩ := I
  refine ⟨uo, fo, kvU, kvF, I.u, I.f, I.uD, I.fD, I.ku, I.kf, ?_, ?_, fun k hk => ?_, fun x hx => ?_⟩
  · have : kvU.length = st.ks.length := by rw [← I.ku, List.length_map]
    have := S.bk; omega
  · have : kvF.length = st.ns.length := by rw [← I.kf, List.length_map]
    have := S.bn; omega
  · obtain ⟨ua, uda, od, fod, ra, rn, u⟩ := I.units k hk
    exact ⟨ua, uda, od, _, _, fod, ra, rn, u.at_, u.ui, u.ud, u.uD, u.fi, u.fd, u.fD, u.r⟩
  · obtain ⟨gd, fod, ra, rn, v⟩ := I.files x hx
    exact ⟨_, gd, fod, ra, rn, v.at_, v.fi, v.fd, v.fD, v.r⟩
theorem book_facts {w : World} {ud fd : Addr} {A : List (Addr × Obj)} {st : St} {bd : Nat} (I : BInv w ud fd A st) (S : SLo st bd) (hbd : bd < 60) :
    ∃ uo fo kvU kvF, (ud, uo) ∈ A ∧ (fd, fo) ∈ A ∧ uo.IsDictOf (PySem.intKind P0 w) kvU ∧ fo.IsDictOf (PySem.strKind P0 w) kvF ∧ kvU.map (·.1) = st.ks ∧ kvF.map (·.1) = st.ns ∧ kvU.length < 64 ∧ kvF.length < 64 ∧
      (∀ k ∈ st.ks, ∃ rw ow t t' n, valueAt kvU k = some (.ref rw) ∧ (rw, listOf #[.str (st.U k).nm t, .int ((st.U k).pl : Int) t', .ref ow] n) ∈ A) ∧
      (∀ x ∈ st.ns, ∃ ha n, valueAt kvF x = some (.ref ha) ∧ (ha, listOf (st.F x).toArray n) ∈ A) := by
  obtain ⟨uo, fo, kvU, kvF, ad, I⟩ := I
  refine ⟨uo, fo, kvU, kvF, I.u, I.f, I.uD, I.fD, I.ku, I.kf, ?_, ?_, fun k hk => ?_, fun x hx => ?_⟩
  · have : kvU.length = st.ks.length := by rw [← I.ku, List.length_map]
    have := S.bk; omega
  · have : kvF.length = st.ns.length := by rw [← I.kf, List.length_map]
    have := S.bn; omega
  · obtain ⟨t, t', n, no, u⟩ := I.rows k hk
    exact ⟨_, _, t, t', n, u.at_, u.r⟩
  · obtain ⟨h1, n, h2⟩ := I.files x hx
    exact ⟨_, n, h1, h2⟩
theorem news_tl4 {h₀ h : Heap} {L : Addr} {a b c d : Addr × Obj} {l : List (Addr × Obj)} (N : News h₀ L h (a :: b :: c :: d :: l)) : News h₀ L h l := news_tl (news_tl (news_tl (news_tl N)))
end
section
section
variable {prog : Program} {w : World} {A : Around} {E : Value → Shared → Prop} {s : Shared} {h₀ : Heap} {L : Addr} {m : Str → Option Value} {env : Env} {st : Stmt} {Q : Flow → Shared → Prop} {news : List (Addr × Obj)}
theorem move_step (J : List (Addr × Obj) → Prop) (_F : Fr h₀ L s.heap m)
    (h1 : wpAny (model prog w) A (exec st env) (fun f s' => Hold (∃ h' tk nx, f = .next ∧ s' = { s with heap := h', toks := tk } ∧ Fr h₀ L h' m ∧ News h₀ L h' nx ∧ J nx)) E s)
    (h2 : ∀ h' tk nx, Fr h₀ L h' m → News h₀ L h' nx → J nx → Q .next { s with heap := h', toks := tk }) : wpAny (model prog w) A (exec st env) Q E s :=
  wpAny_mono h1 (fun f s' ⟨h', tk, nx, e1, e2, F', N', j⟩ => by subst e1; subst e2; exact h2 h' tk nx F' N' j) fun _ _ e => e
end
theorem sok_nil {st st' : St} {bd : Nat} (S : SOk st bd) (h1 : st'.ks = []) (h2 : st'.ns = st.ns) (h3 : st'.F = st.F) : SOk st' bd := by
  have no : ∀ k, k ∈ st'.ks → False := fun k hk => by rw [h1] at hk; exact absurd hk List.not_mem_nil
  exact ⟨by rw [h1]; exact List.nodup_nil, h2 ▸ S.nn, fun k hk => (no k hk).elim, fun x hx => S.rn x (h2 ▸ hx), fun k hk => (no k hk).elim, fun k hk => (no k hk).elim, fun k hk => (no k hk).elim, by rw [h1]; exact Nat.zero_le _, h2 ▸ S.bn, fun k hk => (no k hk).elim, fun x hx => by rw [h3]; exact S.bf x (h2 ▸ hx), fun k hk => (no k hk).elim⟩
theorem sok_le {st : St} {a b : Nat} (S : SOk st a) (h : a ≤ b) : SOk st b := by
  obtain ⟨c, rfl⟩ := Nat.le.dest h
  clear h
  induction c with
  | zero => exact S
  | succ c ih => exact sok_up ih
/-- the lists of records of the first names -/
def RecsAt (l : List (Addr × Obj)) (F : Str → List Value) (ns : List Str) (i : Nat) (ys : List Value) : Prop :=
  ys.length = i ∧ ∀ (j : Nat) (v : Value), ys[j]? = some v → ∃ x a n, ns[j]? = some x ∧ v = .ref a ∧ (a, listOf (F x).toArray n) ∈ l
theorem recs_zero (l : List (Addr × Obj)) (F : Str → List Value) (ns : List Str) : RecsAt l F ns 0 [] := ⟨rfl, fun j v h => by cases h⟩
theorem recs_snoc {l : List (Addr × Obj)} {F : Str → List Value} {ns : List Str} {i : Nat} {ys : List Value} {x : Str} {a : Addr} {n : Nat} (h : RecsAt l F ns i ys) (hx : ns[i]? = some x) (hm : (a, listOf (F x).toArray n) ∈ l) : RecsAt l F ns (i + 1) (ys ++ [.ref a]) := by
  refine ⟨by rw [List.length_append, h.1]; rfl, fun j v hv => ?_⟩
  rw [List.getElem?_append] at hv
  split at hv
  · exact h.2 j v hv
  · rename_i hn
    have hj : j = ys.length := by
      have : j - ys.length < 1 := by
        have := (List.getElem?_eq_some_iff.mp hv).1
        simpa using this
      omega
    subst hj
    rw [Nat.sub_self] at hv
    exact ⟨x, a, n, h.1.symm ▸ hx, (Option.some.inj hv).symm, hm⟩
theorem ne_recs {prog : Program} {w : World} {A : Around} {E : Value → Shared → Prop} {s : Shared} {h₀ : Heap} {L a b : Addr} {news l : List (Addr × Obj)} {F : Str → List Value} {ns : List Str} {n : Nat} {ys us : List Value} {Q : Value → Shared → Prop} (N : News h₀ L s.heap news) (hl : s.heap.IsList a ys.toArray) (hl' : s.heap.IsList b us.toArray) (h1 : RecsAt l F ns n ys) (h2 : RecsAt l F ns n us) (sub : ∀ p ∈ l, p ∈ news)
    (hu : A.units < cLine) (hu' : A.in1.units < cLine) (h : Q (.bool false) s) : wpAny (model prog w) A (compareOp .NotEq (.ref a) (.ref b)) Q E s := by
  refine ne_all_same hl hl' (h1.1.trans h2.1.symm) (fun j v u hv hu => ?_) hu h
  obtain ⟨x, c, k, e1, rfl, m1⟩ := h1.2 j v hv
  obtain ⟨y, d, k', e2, rfl, m2⟩ := h2.2 j u hu
  rw [e1] at e2
  obtain rfl := Option.some.inj e2
  exact eqAt_lists (News.isList N (sub _ m1)) (News.isList N (sub _ m2)) hu'
theorem strs_at : ∀ {vs : List Value} {xs : List Str}, PyProof.Rows.StrsAre vs xs → ∀ {i : Nat} {v : Value}, vs[i]? = some v → ∃ x t, v = .str x t ∧ xs[i]? = some x
  | _, _, .cons x t h, 0, v, e => ⟨x, t, (Option.some.inj e).symm, rfl⟩
  | _, _, .cons x t h, i + 1, v, e => strs_at h (i := i) e
theorem strs_at' {its : Array Value} {xs : List Str} (h : PyProof.Rows.StrsAre its.toList xs) {i : Nat} {v : Value} (e : its[i]? = some v) : ∃ x t, v = .str x t ∧ xs[i]? = some x :=
  strs_at h (by rw [Array.getElem?_toList]; exact e)
/-- what stands between the two closings -/
inductive CloseJ (w : World) (ud fd : Addr) (RB : List (Addr × Obj)) (st₀ : St) (b : Bool) (nx : List (Addr × Obj)) : Prop where
  | mk (A : List (Addr × Obj)) (st : St) (e : nx = A ++ RB) (I : PInv w ud fd A st) (D : Dis A RB) (S : SLo st 9) (h1 : st.ns = st₀.ns) (h2 : st.F = st₀.F) (h3 : b = true → st.ks = []) : CloseJ w ud fd RB st₀ b nx
theorem dis1 {A R : List (Addr × Obj)} {i : Addr × Obj} (D : Dis A R) (h : ∀ p ∈ A, @Ne Nat p.1 i.1) : Dis A (i :: R) := fun p hp q hq => by
  rcases List.mem_cons.mp hq with rfl | hq
  · exact h p hp
  · exact D p hp q hq
theorem news_in1 {h₀ h : Heap} {L : Addr} {i : Addr × Obj} {A R : List (Addr × Obj)} (N : News h₀ L h (i :: (A ++ R))) : News h₀ L h (A ++ (i :: R)) := news_app (news_left (news_tl N)) (news_add N (news_right (news_tl N)))
theorem news_out1 {h₀ h : Heap} {L : Addr} {i : Addr × Obj} {A R : List (Addr × Obj)} (N : News h₀ L h (A ++ (i :: R))) : News h₀ L h (i :: (A ++ R)) := news_add (news_right N) (news_app (news_left N) (news_tl (news_right N)))
theorem nil_of_keys {K : Type} {kvs : List (K × Value)} {ks : List K} (h : kvs.map (·.1) = ks) (e : ks = []) : kvs = [] := List.map_eq_nil_iff.mp (h.trans e)
theorem five_of {t0 t1 t2 t3 t4 : Tok} {i : Nat} {v : Value} (h : (#[Value.str (Str.ofString "A") t0, Value.str (Str.ofString "B") t1, Value.str (Str.ofString "FORT.1") t2, Value.str (Str.ofString "FORT.2") t3, Value.str (Str.ofString "FORT.3") t4] : Array Value)[i]? = some v) : ∃ x t, v = .str x t ∧ Five x := by
  rcases i with _ | _ | _ | _ | _ | i
  · exact ⟨_, _, (Option.some.inj h).symm, .inl rfl⟩
  · exact ⟨_, _, (Option.some.inj h).symm, .inr (.inl rfl)⟩
  · exact ⟨_, _, (Option.some.inj h).symm, .inr (.inr (.inl rfl))⟩
  · exact ⟨_, _, (Option.some.inj h).symm, .inr (.inr (.inr (.inl rfl)))⟩
  · exact ⟨_, _, (Option.some.inj h).symm, .inr (.inr (.inr (.inr rfl)))⟩
  · have := (Array.getElem?_eq_some_iff.mp h).1
    simp at this
    omega
theorem news_in3 {h₀ h : Heap} {L : Addr} {d i t : Addr × Obj} {A R : List (Addr × Obj)} (N : News h₀ L h (d :: t :: i :: (A ++ R))) : News h₀ L h (A ++ (d :: t :: i :: R)) := by
  have t1 := news_tl N; have t2 := news_tl t1; have t3 := news_tl t2
  exact news_app (news_left t3) (news_add N (news_add t1 (news_add t2 (news_right t3))))
theorem news_out3 {h₀ h : Heap} {L : Addr} {d i t : Addr × Obj} {A R : List (Addr × Obj)} (N : News h₀ L h (A ++ (d :: t :: i :: R))) : News h₀ L h (d :: t :: i :: (A ++ R)) := by
  have r := news_right N; have t1 := news_tl r; have t2 := news_tl t1
  exact news_add r (news_add t1 (news_add t2 (news_app (news_left N) (news_tl t2))))
theorem news_in2 {h₀ h : Heap} {L : Addr} {i t : Addr × Obj} {A R : List (Addr × Obj)} (N : News h₀ L h (t :: i :: (A ++ R))) : News h₀ L h (A ++ (t :: i :: R)) := by
  have t1 := news_tl N; have t2 := news_tl t1
  exact news_app (news_left t2) (news_add N (news_add t1 (news_right t2)))
theorem news_out2 {h₀ h : Heap} {L : Addr} {i t : Addr × Obj} {A R : List (Addr × Obj)} (N : News h₀ L h (A ++ (t :: i :: R))) : News h₀ L h (t :: i :: (A ++ R)) := by
  have r := news_right N; have t1 := news_tl r
  exact news_add r (news_add t1 (news_app (news_left N) (news_tl t1)))
theorem dis2 {A R : List (Addr × Obj)} {t i : Addr × Obj} (D : Dis A R) (h2 : ∀ p ∈ A, @Ne Nat p.1 t.1) (h3 : ∀ p ∈ A, @Ne Nat p.1 i.1) : Dis A (t :: i :: R) := dis1 (dis1 D h3) h2
theorem dis_tl {A R : List (Addr × Obj)} {i : Addr × Obj} (D : Dis A (i :: R)) : Dis A R := fun p hp q hq => D p hp q (.tail _ hq)
theorem old_ok {st : St} {x : Str} (h1 : st.ks = []) : okOf st (.opn 1 (Str.ofString "OLD") (some x)) = decide (x ∈ st.ns) := by
  show openOk st 1 (Str.ofString "OLD") (some x) = _
  have n1 : Str.ofString "OLD" ≠ Str.ofString "SCRATCH" := by decide +kernel
  have n2 : Str.ofString "OLD" ≠ Str.ofString "NEW" := by decide +kernel
  have na : ¬ againP st 1 (some x) := fun c => by have := c.1; rw [h1] at this; exact absurd this List.not_mem_nil
  unfold openOk
  rw [if_neg fun c => n1 c.1, if_neg na, if_neg n1, if_neg fun c => by rw [h1] at c; exact absurd c List.not_mem_nil]
  show (if (x ∈ st.ns ∧ Str.ofString "OLD" = Str.ofString "NEW") ∨ (x ∉ st.ns ∧ Str.ofString "OLD" = Str.ofString "OLD") then false else true) = decide (x ∈ st.ns)
  by_cases hx : x ∈ st.ns
  · rw [if_neg (fun c => c.elim (fun c => n2 c.2) fun c => c.1 hx), decide_eq_true hx]
  · rw [if_pos (.inr ⟨hx, rfl⟩), decide_eq_false hx]
theorem old_step {st : St} {x : Str} (h1 : st.ks = []) (hx : x ∈ st.ns) : step st (.opn 1 (Str.ofString "OLD") (some x)) = { st with ks := [1], U := upd st.U 1 ⟨x, 0, []⟩ } := by
  have hok : openOk st 1 (Str.ofString "OLD") (some x) = true := (old_ok h1).trans (decide_eq_true hx)
  have na : ¬ againP st 1 (some x) := fun c => by have := c.1; rw [h1] at this; exact absurd this List.not_mem_nil
  rw [show step st (.opn 1 (Str.ofString "OLD") (some x)) = opened st 1 (Str.ofString "OLD") (some x) from if_pos ⟨hok, na⟩]
  have n1 : Str.ofString "OLD" ≠ Str.ofString "SCRATCH" := by decide +kernel
  unfold opened
  rw [if_neg n1]
  have hw : wanted 1 (some x) = x := rfl
  rw [hw, if_pos hx, h1]
  show ({ ks := addK [] 1, U := _, ns := addK st.ns x, F := st.F } : St) = _
  rw [show addK st.ns x = st.ns from if_pos hx]
  rfl
theorem old_step' {st : St} {x : Str} (h1 : st.ks = []) (hx : x ∉ st.ns) : step st (.opn 1 (Str.ofString "OLD") (some x)) = st :=
  if_neg fun c => by
    have := c.1
    rw [show openOk st 1 (Str.ofString "OLD") (some x) = decide (x ∈ st.ns) from old_ok h1, decide_eq_false hx] at this
    exact Bool.false_ne_true this
/-- behind a file opened by its name, and read -/
inductive NameJ (w : World) (ud fd : Addr) (RB : List (Addr × Obj)) (st₀ : St) (t i : Addr × Obj) (nx : List (Addr × Obj)) : Prop where
  | mk (A : List (Addr × Obj)) (st : St) (e : nx = t :: i :: (A ++ RB)) (I : PInv w ud fd A st) (D : Dis A (t :: i :: RB)) (S : SLo st 10) (h1 : st.ns = st₀.ns) (h2 : st.F = st₀.F) : NameJ w ud fd RB st₀ t i nx
theorem news_rd {h₀ h : Heap} {L : Addr} {g d t i : Addr × Obj} {A R : List (Addr × Obj)} (N : News h₀ L h (g :: (A ++ (d :: t :: i :: R)))) : News h₀ L h (t :: i :: (A ++ R)) := by
  have g1 := news_tl N; have r := news_tl (news_right g1); have t1 := news_tl r
  exact news_add r (news_add t1 (news_app (news_left g1) (news_tl t1)))
abbrev NameJI {w : World} {ud fd : Addr} {A : List (Addr × Obj)} {st : St} (_ : PInv w ud fd A st) (RB : List (Addr × Obj)) (st₀ : St) (t i : Addr × Obj) (nx : List (Addr × Obj)) : Prop := NameJ w ud fd RB st₀ t i nx
theorem news_third {h₀ h : Heap} {L a : Addr} {o : Obj} {d t : Addr × Obj} {R : List (Addr × Obj)} (_ : News h₀ L h (d :: t :: (a, o) :: R)) : ∃ o', o' = o := ⟨o, rfl⟩
end
local macro_rules | `(tactic| k_qdec) => `(tactic| decide +kernel)
theorem words_again_law : True := by
  k_with_none
  k_with "spliced" => (first | (k_here; k_dflt (first | refine args_cons ?_ | refine args_nil ⟨Fr.keep (by assumption) _ _ (by assumption), ?_⟩ | (refine args_nil ?_; try simp only [List.cons_append, List.nil_append]))) | fail)
  k_with "setItem ref int" => (first | (k_extra "setItem ref") | fail)
  k_with "subscriptTail Name" => (first | (k_extra "subscriptTail") | fail)
  k_with "subscriptTail Subscript" => (first | (first | k_extra "subscriptTail" | (k_here; kda_here; first | ((with_reducible show wpAny _ _ (subscriptTail _ _ (Value.ref _) (Value.str _ _)) _ _ _); k_dflt (refine kdt_tail (knd := PySem.strKind _ _) (by k_asm) (by k_mem) (by k_asm) ?_)) | ((with_reducible show wpAny _ _ (subscriptTail _ _ (Value.ref _) (Value.int _ _)) _ _ _); k_dflt (refine kdt_tail (knd := PySem.intKind _ _) (by k_asm) (by k_mem) (by k_asm) ?_)))) | fail)
  k_with "cj" => (first | (first | assumption | exact And.left (by assumption) | exact And.right (by assumption) | exact And.left (And.right (by assumption)) | exact And.right (And.right (by assumption)) | exact And.left (And.right (And.right (by assumption))) | exact And.right (And.right (And.right (by assumption))) | exact And.left (And.right (And.right (And.right (by assumption)))) | exact And.right (And.right (And.right (And.right (by assumption)))) | exact And.left (And.right (And.right (And.right (And.right (by assumption))))) | exact And.right (And.right (And.right (And.right (And.right (by assumption))))) | exact And.left (And.right (And.right (And.right (And.right (And.right (by assumption)))))) | exact And.right (And.right (And.right (And.right (And.right (And.right (by assumption)))))) | exact And.left (And.right (And.right (And.right (And.right (And.right (And.right (by assumption))))))) | exact And.right (And.right (And.right (And.right (And.right (And.right (And.right (by assumption))))))) | exact And.left (And.right (And.right (And.right (And.right (And.right (And.right (And.right (by assumption)))))))) | exact And.right (And.right (And.right (And.right (And.right (And.right (And.right (And.right (by assumption)))))))) | exact And.left (And.right (And.right (And.right (And.right (And.right (And.right (And.right (And.right (by assumption))))))))) | exact And.right (And.right (And.right (And.right (And.right (And.right (And.right (And.right (And.right (by assumption))))))))) | exact And.left (And.right (And.right (And.right (And.right (And.right (And.right (And.right (And.right (And.right (by assumption)))))))))) | exact And.right (And.right (And.right (And.right (And.right (And.right (And.right (And.right (And.right (And.right (by assumption)))))))))) | exact And.left (And.right (And.right (And.right (And.right (And.right (And.right (And.right (And.right (And.right (And.right (by assumption))))))))))) | exact And.right (And.right (And.right (And.right (And.right (And.right (And.right (And.right (And.right (And.right (And.right (by assumption))))))))))) | exact And.left (And.right (And.right (And.right (And.right (And.right (And.right (And.right (And.right (And.right (And.right (And.right (by assumption)))))))))))) | exact And.right (And.right (And.right (And.right (And.right (And.right (And.right (And.right (And.right (And.right (And.right (And.right (by assumption)))))))))))) | exact And.left (And.right (And.right (And.right (And.right (And.right (And.right (And.right (And.right (And.right (And.right (And.right (And.right (by assumption))))))))))))) | exact And.right (And.right (And.right (And.right (And.right (And.right (And.right (And.right (And.right (And.right (And.right (And.right (And.right (by assumption))))))))))))) | exact And.left (And.right (And.right (And.right (And.right (And.right (And.right (And.right (And.right (And.right (And.right (And.right (And.right (And.right (by assumption)))))))))))))) | exact And.right (And.right (And.right (And.right (And.right (And.right (And.right (And.right (And.right (And.right (And.right (And.right (And.right (And.right (by assumption)))))))))))))) | exact And.left (And.right (And.right (And.right (And.right (And.right (And.right (And.right (And.right (And.right (And.right (And.right (And.right (And.right (And.right (by assumption))))))))))))))) | exact And.right (And.right (And.right (And.right (And.right (And.right (And.right (And.right (And.right (And.right (And.right (And.right (And.right (And.right (And.right (by assumption)))))))))))))))) | fail)
  k_with "om" => (first | (first | ((repeat ((with_reducible rename _ ∧ _ => hz9); clear hz9)); (repeat ((with_reducible rename @Ne _ _ _ => hz9); clear hz9)); omega) | ((repeat ((with_reducible rename @Ne _ _ _ ∧ _ => hz9); clear hz9)); (repeat ((with_reducible rename (_ ∧ _) ∧ _ => hz9); clear hz9)); (repeat ((with_reducible rename @Ne _ _ _ => hz9); clear hz9)); omega) | omega) | fail)
  k_with "k_ne" => (first | (refine neN ?_; (try dsimp only); (first | with_reducible assumption | ((repeat ((with_reducible rename @Ne _ _ _ ∧ _ => hz9); clear hz9)); (repeat ((with_reducible rename (_ ∧ _) ∧ _ => hz9); clear hz9)); (repeat ((with_reducible rename @Ne _ _ _ => hz9); clear hz9)); omega) | with_reducible (first | exact Ne.symm (by assumption) | exact Nat.ne_of_lt (by k_extra "cj") | exact Nat.ne_of_gt (by k_extra "cj") | (k_extra "cj") | exact Ne.symm (by k_extra "cj")) | omega)) | fail)
  k_with "k_enter" => (first | (refine' q_def ?qzk1 ?qzk2 ?qzk3 ?qzk4 ?qzk5 ?qzkA ?qzkF ?qzkK ?qzk6 ?qzk7 ?qzk8 ?qzk9 ?qzkB ?_ ?qzc2 ?qzc3 ?qzc4 ?qzc5; (case qzkA => exact rfl); (case qzkF => first | assumption | exact rfl); (case qzkK => first | assumption | exact rfl); (case qzk1 => k_asm); (case qzk2 => k_asm); (case qzk3 => k_asm); (case qzk4 => k_asm); (case qzk5 => k_asm); (case qzk6 => k_is); (case qzk7 => k_is); (case qzk8 => exact Nat.le_of_ble_eq_true rfl); (case qzk9 => first | ((with_reducible show BindsTo _ _ (Args.mk [_, _] []) _); exact bt2 rfl) | ((with_reducible show BindsTo _ _ (Args.mk [_] []) _); exact bt1 rfl) | ((with_reducible show BindsTo _ _ (Args.mk [_, _, _] []) _); exact bt3 rfl) | ((with_reducible show BindsTo _ _ (Args.mk [_, _, _, _] []) _); exact bt4 rfl) | ((with_reducible show BindsTo _ _ (Args.mk [_, _, _, _, _] []) _); exact bt5 rfl) | ((with_reducible show BindsTo _ _ (Args.mk [_, _, _, _, _, _] []) _); exact bt6 rfl) | ((with_reducible show BindsTo _ _ (Args.mk [] []) _); exact bt0 rfl) | exact BindsTo.of_eq rfl); (case qzc5 => decide); (case qzkB => exact locs rfl); (case qzc2 => exact rfl); (case qzc3 => exact rfl); (case qzc4 => exact rfl); k_whole; intro _ _ _ _ _ _ _ _ _ _ _ _ _ _ _; (try dsimp only); (try k_fold)) | fail)
  k_with "k_all" => (first | ((fail_if_success (with_reducible refine List.forall_mem_cons.mpr ?_)); (first | with_reducible (first | exact ne_allLt (by assumption) | exact ne_allLt (And.right (by assumption)) | exact ne_allLt (And.right (And.right (by assumption))) | exact ne_allLt (And.right (And.right (And.right (by assumption)))) | exact ne_allLt (And.right (And.right (And.right (And.right (by assumption))))) | exact ne_allLt (And.right (And.right (And.right (And.right (And.right (by assumption)))))) | exact ne_allLt (And.right (And.right (And.right (And.right (And.right (And.right (by assumption))))))) | exact ne_allLt (And.right (And.right (And.right (And.right (And.right (And.right (And.right (by assumption)))))))) | exact ne_allLt (And.right (And.right (And.right (And.right (And.right (And.right (And.right (And.right (by assumption))))))))) | exact ne_allLt (And.right (And.right (And.right (And.right (And.right (And.right (And.right (And.right (And.right (by assumption)))))))))) | exact ne_allLt (And.right (And.right (And.right (And.right (And.right (And.right (And.right (And.right (And.right (And.right (by assumption))))))))))) | exact ne_allLt (And.right (And.right (And.right (And.right (And.right (And.right (And.right (And.right (And.right (And.right (And.right (by assumption)))))))))))) | exact ne_allLt (And.right (And.right (And.right (And.right (And.right (And.right (And.right (And.right (And.right (And.right (And.right (And.right (by assumption))))))))))))) | exact ne_allLt (And.right (And.right (And.right (And.right (And.right (And.right (And.right (And.right (And.right (And.right (And.right (And.right (And.right (by assumption)))))))))))))) | exact ne_allLt (And.right (And.right (And.right (And.right (And.right (And.right (And.right (And.right (And.right (And.right (And.right (And.right (And.right (And.right (by assumption)))))))))))))))) | (first | exact ne_allLt (by assumption) | exact ne_allLt (And.right (by assumption)) | exact ne_allLt (And.right (And.right (by assumption))) | exact ne_allLt (And.right (And.right (And.right (by assumption)))) | exact ne_allLt (And.right (And.right (And.right (And.right (by assumption))))) | exact ne_allLt (And.right (And.right (And.right (And.right (And.right (by assumption)))))) | exact ne_allLt (And.right (And.right (And.right (And.right (And.right (And.right (by assumption))))))) | exact ne_allLt (And.right (And.right (And.right (And.right (And.right (And.right (And.right (by assumption)))))))) | exact ne_allLt (And.right (And.right (And.right (And.right (And.right (And.right (And.right (And.right (by assumption))))))))) | exact ne_allLt (And.right (And.right (And.right (And.right (And.right (And.right (And.right (And.right (And.right (by assumption)))))))))) | exact ne_allLt (And.right (And.right (And.right (And.right (And.right (And.right (And.right (And.right (And.right (And.right (by assumption))))))))))) | exact ne_allLt (And.right (And.right (And.right (And.right (And.right (And.right (And.right (And.right (And.right (And.right (And.right (by assumption)))))))))))) | exact ne_allLt (And.right (And.right (And.right (And.right (And.right (And.right (And.right (And.right (And.right (And.right (And.right (And.right (by assumption))))))))))))) | exact ne_allLt (And.right (And.right (And.right (And.right (And.right (And.right (And.right (And.right (And.right (And.right (And.right (And.right (And.right (by assumption)))))))))))))) | exact ne_allLt (And.right (And.right (And.right (And.right (And.right (And.right (And.right (And.right (And.right (And.right (And.right (And.right (And.right (And.right (by assumption)))))))))))))))))) | fail)
  k_with "k_all" => (first | ((fail_if_success (with_reducible refine List.forall_mem_cons.mpr ?_)); (first | with_reducible assumption | assumption)) | fail)
  k_with "k_all" => (first | (refine' ne_cons_of ?qzyh ?qzyg; (case qzyh => with_reducible assumption); (case qzyg => exact id)) | fail)
  k_with "k_mem" => (first | (first | exact List.Mem.head _ | (refine List.mem_cons_of_mem _ ?_; (first | exact List.Mem.head _ | (refine List.mem_cons_of_mem _ ?_; (first | exact List.Mem.head _ | (refine List.mem_cons_of_mem _ ?_; (first | exact List.Mem.head _ | (refine List.mem_cons_of_mem _ ?_; (first | exact List.Mem.head _ | (refine List.mem_cons_of_mem _ ?_; (first | exact List.Mem.head _ | (refine List.mem_cons_of_mem _ ?_; (first | exact List.Mem.head _ | (refine List.mem_cons_of_mem _ ?_; (first | exact List.Mem.head _ | (refine List.mem_cons_of_mem _ ?_; (first | exact List.Mem.head _ | (refine List.mem_cons_of_mem _ ?_; (first | exact List.Mem.head _ | (refine List.mem_cons_of_mem _ ?_; (first | exact List.Mem.head _ | (refine List.mem_cons_of_mem _ ?_; (first | exact List.Mem.head _ | (refine List.mem_cons_of_mem _ ?_; (first | exact List.Mem.head _ | (refine List.mem_cons_of_mem _ ?_; (first | exact List.Mem.head _ | (refine List.mem_cons_of_mem _ ?_; (first | exact List.Mem.head _ | (refine List.mem_cons_of_mem _ ?_; (first | exact List.Mem.head _ | (refine List.mem_cons_of_mem _ ?_; (first | exact List.Mem.head _ | (refine List.mem_cons_of_mem _ ?_; (first | exact List.Mem.head _ | (refine List.mem_cons_of_mem _ ?_; (first | exact List.Mem.head _ | (refine List.mem_cons_of_mem _ ?_; (first | exact List.Mem.head _ | (refine List.mem_cons_of_mem _ ?_; (first | exact List.Mem.head _ | assumption)) | assumption)) | assumption)) | assumption)) | assumption)) | assumption)) | assumption)) | assumption)) | assumption)) | assumption)) | assumption)) | assumption)) | assumption)) | assumption)) | assumption)) | assumption)) | assumption)) | assumption)) | assumption)) | assumption)) | assumption) | fail)
  k_with "eval Name" => (first | (k_here; (with_reducible refine' q_name ?qza ?qzb ?qzc ?qzF ?qzv ?_); k_dflt ((case qzF => k_asm); (case qzc => exact fun _ _ => rfl); (case qzv => rfl); (case qza => rfl); (case qzb => decide); k_whole)) | fail)
  k_with "storeName" => (first | (k_here; (with_reducible refine' q_store ?qza ?qzb ?qzF ?qzN ?_); k_dflt ((case qzF => k_asm); (case qzN => k_asm); (case qzb => exact fun _ _ => rfl); (case qza => rfl); k_whole; intro _ _ _ _; (try k_sweep))) | fail)
  k_with "eval Constant str" => (first | (k_here; with_reducible refine q_str ?_) | fail)
  k_with "eval Constant int" => (first | (k_here; with_reducible refine q_int ?_) | fail)
  k_with "spliced" => (first | (k_here; (with_reducible refine args_nil ?_); (try dsimp only [List.cons_append, List.nil_append])) | fail)
  k_with "spliced" => (first | (k_here; with_reducible refine q_args ?_) | fail)
  k_with "spliced" => (first | (k_here; (with_reducible refine' q_arg ?qza ?qzb ?qzc ?qzF ?qzv ?_); k_dflt ((case qzF => k_asm); (case qzc => exact fun _ _ => rfl); (case qzv => rfl); (case qza => rfl); (case qzb => decide); k_whole)) | fail)
  k_with "spliced" => (first | (k_here; (with_reducible refine' q_arg1 ?qza ?qzb ?qzc ?qzF ?qzv ?_); k_dflt ((case qzF => k_asm); (case qzc => exact fun _ _ => rfl); (case qzv => rfl); (case qza => rfl); (case qzb => decide); k_whole); (try dsimp only [List.cons_append, List.nil_append])) | fail)
  k_with "execs cons" => (first | (k_here; (try k_gentoks); (first | ((with_reducible refine q_assign ?qzhs ?_); (fail_if_success with_reducible show wpAny _ _ (eval (PySem.Expr.ListComp _ _ _ _) _) _ _ _); (case qzhs => with_unfolding_all rfl)) | with_reducible refine q_return ?_ | with_reducible refine q_if ?_); (try dsimp only); (try k_fold)) | fail)
  k_with "getAttr ref" => (first | (k_here; (with_reducible refine' q_own ?qzk1 ?qzk2 ?qzk3 ?qzk4 ?qzk5 ?qzk6 ?qzk7 ?qzk8 ?qzk9 ?_); k_dflt ((case qzk1 => k_asm); (case qzk2 => k_asm); (case qzk3 => k_inst); (case qzk4 => k_is); (case qzk5 => k_is); (case qzk6 => k_is); (case qzk7 => k_is); (case qzk8 => k_get); (case qzk9 => k_handed); k_whole)) | fail)
  k_with "TurnEnd cons ret" => (first | (k_here; dsimp only [TurnEnd]) | fail)
  k_with "spliced" => (first | (k_here; (with_reducible refine' q_sargs ?qzhk ?qzF ?qzz ?qzS ?_); k_dflt ((case qzhk => rfl); (case qzF => k_asm); (case qzz => exact fun _ _ => rfl); (case qzS => exact rfl); k_whole); (try dsimp only [List.cons_append, List.nil_append])) | fail)
  k_with "eval Call" => (first | (k_here; (with_reducible refine' q_gcall ?qzhk ?qzF ?qzX ?qzT ?qzhx ?qzhd ?qzhv ?qzhf ?qzz ?qzS ?_); k_dflt ((case qzhk => rfl); (case qzF => k_asm); (case qzz => exact fun _ _ => rfl); (case qzS => exact rfl); (case qzX => k_asm); (case qzT => assumption); (case qzhx => exact fun _ _ => rfl); (case qzhd => decide); (case qzhv => k_is); (case qzhf => k_is); k_whole)) | fail)
  k_with "isTrue Compare" => (first | (k_here; (with_reducible refine' q_cmps ?qzhm ?qzhk ?qzF ?qzz ?qzS ?_); k_dflt ((case qzhk => rfl); (case qzF => k_asm); (case qzz => exact fun _ _ => rfl); (case qzS => exact rfl); (case qzhm => with_unfolding_all rfl); k_whole)) | fail)
  k_with "eval Subscript" => (first | (k_here; (with_reducible refine' q_sub ?qzhk ?qzF ?qzz ?qzS ?_); k_dflt ((case qzhk => rfl); (case qzF => k_asm); (case qzz => exact fun _ _ => rfl); (case qzS => exact rfl); k_whole)) | fail)
  k_with "execs cons" => (first | (k_here; (try k_gentoks); (with_reducible refine' q_rets ?qzhk ?qzF ?qzz ?qzS ?_); k_dflt ((case qzhk => rfl); (case qzF => k_asm); (case qzz => exact fun _ _ => rfl); (case qzS => exact rfl); k_whole); (try dsimp only); (try k_fold)) | fail)
  k_with "eval Attribute Name" => (first | (k_here; (with_reducible refine' q_attr ?qzhk ?qzF ?qzz ?qzS ?_); k_dflt ((case qzhk => rfl); (case qzF => k_asm); (case qzz => exact fun _ _ => rfl); (case qzS => exact rfl); k_whole)) | fail)
  k_with "getMethod ref" => (first | (k_here; (with_reducible show wpAny _ _ (getMethod (Value.ref _) (Str.ofString "get") _) _ _ _); k_dflt (first | (refine' kdg_method (knd := PySem.strKind _ _) ?qzN ?qzm ?qzd ?_; (case qzN => k_asm); (case qzm => k_mem); (case qzd => k_asm); k_whole) | (refine' kdg_method (knd := PySem.intKind _ _) ?qzN ?qzm ?qzd ?_; (case qzN => k_asm); (case qzm => k_mem); (case qzd => k_asm); k_whole))) | fail)
  k_with "getMethod ref" => (first | (k_here; (with_reducible show wpAny _ _ (getMethod (Value.ref _) (Str.ofString "pop") _) _ _ _); k_dflt (first | (refine' kob_method (knd := PySem.strKind _ _) PySem.F.slot_dict_pop PySem.F.type_dict_pop ?qzN ?qzm ?qzd ?_; (case qzN => k_asm); (case qzm => k_mem); (case qzd => k_asm); k_whole) | (refine' kob_method (knd := PySem.intKind _ _) PySem.F.slot_dict_pop PySem.F.type_dict_pop ?qzN ?qzm ?qzd ?_; (case qzN => k_asm); (case qzm => k_mem); (case qzd => k_asm); k_whole))) | fail)
  k_with "getMethod ref" => (first | (k_here; (with_reducible show wpAny _ _ (getMethod (Value.ref _) (Str.ofString "setdefault") _) _ _ _); k_dflt (first | (refine' kob_method (knd := PySem.strKind _ _) PySem.F.slot_dict_setdefault PySem.F.type_dict_setdefault ?qzN ?qzm ?qzd ?_; (case qzN => k_asm); (case qzm => k_mem); (case qzd => k_asm); k_whole) | (refine' kob_method (knd := PySem.intKind _ _) PySem.F.slot_dict_setdefault PySem.F.type_dict_setdefault ?qzN ?qzm ?qzd ?_; (case qzN => k_asm); (case qzm => k_mem); (case qzd => k_asm); k_whole))) | fail)
  k_with "call builtin:dict.get" => (first | (k_here; (with_reducible show wpAny _ _ (call _ [_, _, _]) _ _ _); k_dflt (first | (refine' q_get2 (knd := PySem.strKind _ _) ?qzN ?qzm ?qzd ?qzlo ?qzk _ ?qzl ?_; (case qzN => k_asm); (case qzm => k_mem); (case qzd => k_asm); (case qzlo => exact lo_of (by k_asm) (by k_asm) (by k_mem)); (case qzk => exact strKind_is _ _ _ _); (case qzl => first | assumption | exact rfl); k_whole) | (refine' q_get2 (knd := PySem.intKind _ _) ?qzN ?qzm ?qzd ?qzlo ?qzk _ ?qzl ?_; (case qzN => k_asm); (case qzm => k_mem); (case qzd => k_asm); (case qzlo => exact lo_of (by k_asm) (by k_asm) (by k_mem)); (case qzk => exact intKind_is _ _ _ _); (case qzl => first | assumption | exact rfl); k_whole)); (try dsimp only [Option.getD])) | fail)
  k_with "call builtin:dict.get" => (first | (k_here; (with_reducible show wpAny _ _ (call _ [_, _]) _ _ _); k_dflt (first | (refine' q_get1 (knd := PySem.strKind _ _) ?qzN ?qzm ?qzd ?qzlo ?qzk _ ?qzl ?_; (case qzN => k_asm); (case qzm => k_mem); (case qzd => k_asm); (case qzlo => exact lo_of (by k_asm) (by k_asm) (by k_mem)); (case qzk => exact strKind_is _ _ _ _); (case qzl => first | assumption | exact rfl); k_whole) | (refine' q_get1 (knd := PySem.intKind _ _) ?qzN ?qzm ?qzd ?qzlo ?qzk _ ?qzl ?_; (case qzN => k_asm); (case qzm => k_mem); (case qzd => k_asm); (case qzlo => exact lo_of (by k_asm) (by k_asm) (by k_mem)); (case qzk => exact intKind_is _ _ _ _); (case qzl => first | assumption | exact rfl); k_whole)); (try dsimp only [Option.getD])) | fail)
  k_with "subscriptTail" => (first | (k_here; (with_reducible first | show wpAny _ _ (subscriptTail _ _ (Value.ref _) (Value.str _ _)) _ _ _ | show wpAny _ _ (subscriptTail _ _ (Value.ref _) (Value.int _ _)) _ _ _); k_dflt (first | (refine' q_item (knd := PySem.strKind _ _) ?qzN ?qzm ?qzd ?qzk ?qzl ?_ ?qza ?qzb; (case qzN => k_asm); (case qzm => k_mem); (case qzd => k_asm); (case qzk => exact strKind_is _ _ _ _); (case qzl => first | assumption | exact valueAt_stored _ _ _ | exact rfl); (case qza => with_unfolding_all rfl); (case qzb => intro _; with_unfolding_all rfl); k_whole) | (refine' q_item (knd := PySem.intKind _ _) ?qzN ?qzm ?qzd ?qzk ?qzl ?_ ?qza ?qzb; (case qzN => k_asm); (case qzm => k_mem); (case qzd => k_asm); (case qzk => exact intKind_is _ _ _ _); (case qzl => first | assumption | exact valueAt_stored _ _ _ | exact rfl); (case qza => with_unfolding_all rfl); (case qzb => intro _; with_unfolding_all rfl); k_whole))) | fail)
  k_with "compareOp In str ref" => (first | (k_here; (with_reducible first | show wpAny _ _ (compareOp _ (Value.str _ _) (Value.ref _)) _ _ _ | show wpAny _ _ (compareOp _ (Value.int _ _) (Value.ref _)) _ _ _); k_dflt (first | (refine' q_in (knd := PySem.strKind _ _) ?qzN ?qzm ?qzd ?qzlo ?qzk _ ?qzl ?_; (case qzN => k_asm); (case qzm => k_mem); (case qzd => k_asm); (case qzlo => exact lo_of (by k_asm) (by k_asm) (by k_mem)); (case qzk => exact strKind_is _ _ _ _); (case qzl => first | (refine' some_is ?qzhs; (case qzhs => assumption)) | (refine' none_is ?qzhs; (case qzhs => assumption)) | exact rfl); k_whole) | (refine' q_in (knd := PySem.intKind _ _) ?qzN ?qzm ?qzd ?qzlo ?qzk _ ?qzl ?_; (case qzN => k_asm); (case qzm => k_mem); (case qzd => k_asm); (case qzlo => exact lo_of (by k_asm) (by k_asm) (by k_mem)); (case qzk => exact intKind_is _ _ _ _); (case qzl => first | (refine' some_is ?qzhs; (case qzhs => assumption)) | (refine' none_is ?qzhs; (case qzhs => assumption)) | exact rfl); k_whole))) | fail)
  k_with "compareOp In int ref" => (first | (k_here; (with_reducible first | show wpAny _ _ (compareOp _ (Value.str _ _) (Value.ref _)) _ _ _ | show wpAny _ _ (compareOp _ (Value.int _ _) (Value.ref _)) _ _ _); k_dflt (first | (refine' q_in (knd := PySem.strKind _ _) ?qzN ?qzm ?qzd ?qzlo ?qzk _ ?qzl ?_; (case qzN => k_asm); (case qzm => k_mem); (case qzd => k_asm); (case qzlo => exact lo_of (by k_asm) (by k_asm) (by k_mem)); (case qzk => exact strKind_is _ _ _ _); (case qzl => first | (refine' some_is ?qzhs; (case qzhs => assumption)) | (refine' none_is ?qzhs; (case qzhs => assumption)) | exact rfl); k_whole) | (refine' q_in (knd := PySem.intKind _ _) ?qzN ?qzm ?qzd ?qzlo ?qzk _ ?qzl ?_; (case qzN => k_asm); (case qzm => k_mem); (case qzd => k_asm); (case qzlo => exact lo_of (by k_asm) (by k_asm) (by k_mem)); (case qzk => exact intKind_is _ _ _ _); (case qzl => first | (refine' some_is ?qzhs; (case qzhs => assumption)) | (refine' none_is ?qzhs; (case qzhs => assumption)) | exact rfl); k_whole))) | fail)
  k_with "compareOp NotIn str ref" => (first | (k_here; (with_reducible first | show wpAny _ _ (compareOp _ (Value.str _ _) (Value.ref _)) _ _ _ | show wpAny _ _ (compareOp _ (Value.int _ _) (Value.ref _)) _ _ _); k_dflt (first | (refine' q_notin (knd := PySem.strKind _ _) ?qzN ?qzm ?qzd ?qzlo ?qzk _ ?qzl ?_; (case qzN => k_asm); (case qzm => k_mem); (case qzd => k_asm); (case qzlo => exact lo_of (by k_asm) (by k_asm) (by k_mem)); (case qzk => exact strKind_is _ _ _ _); (case qzl => first | (refine' some_is ?qzhs; (case qzhs => assumption)) | (refine' none_is ?qzhs; (case qzhs => assumption)) | exact rfl); k_whole) | (refine' q_notin (knd := PySem.intKind _ _) ?qzN ?qzm ?qzd ?qzlo ?qzk _ ?qzl ?_; (case qzN => k_asm); (case qzm => k_mem); (case qzd => k_asm); (case qzlo => exact lo_of (by k_asm) (by k_asm) (by k_mem)); (case qzk => exact intKind_is _ _ _ _); (case qzl => first | (refine' some_is ?qzhs; (case qzhs => assumption)) | (refine' none_is ?qzhs; (case qzhs => assumption)) | exact rfl); k_whole))) | fail)
  k_with "compareOp NotIn int ref" => (first | (k_here; (with_reducible first | show wpAny _ _ (compareOp _ (Value.str _ _) (Value.ref _)) _ _ _ | show wpAny _ _ (compareOp _ (Value.int _ _) (Value.ref _)) _ _ _); k_dflt (first | (refine' q_notin (knd := PySem.strKind _ _) ?qzN ?qzm ?qzd ?qzlo ?qzk _ ?qzl ?_; (case qzN => k_asm); (case qzm => k_mem); (case qzd => k_asm); (case qzlo => exact lo_of (by k_asm) (by k_asm) (by k_mem)); (case qzk => exact strKind_is _ _ _ _); (case qzl => first | (refine' some_is ?qzhs; (case qzhs => assumption)) | (refine' none_is ?qzhs; (case qzhs => assumption)) | exact rfl); k_whole) | (refine' q_notin (knd := PySem.intKind _ _) ?qzN ?qzm ?qzd ?qzlo ?qzk _ ?qzl ?_; (case qzN => k_asm); (case qzm => k_mem); (case qzd => k_asm); (case qzlo => exact lo_of (by k_asm) (by k_asm) (by k_mem)); (case qzk => exact intKind_is _ _ _ _); (case qzl => first | (refine' some_is ?qzhs; (case qzhs => assumption)) | (refine' none_is ?qzhs; (case qzhs => assumption)) | exact rfl); k_whole))) | fail)
  k_with "getItem ref" => (first | (k_here; (with_reducible first | show wpAny _ _ (getItem (Value.ref _) (Value.str _ _)) _ _ _ | show wpAny _ _ (getItem (Value.ref _) (Value.int _ _)) _ _ _); k_dflt (first | (refine' q_gitem (knd := PySem.strKind _ _) ?qzN ?qzm ?qzd ?qzk ?qzl ?_; (case qzN => k_asm); (case qzm => k_mem); (case qzd => k_asm); (case qzk => exact strKind_is _ _ _ _); (case qzl => first | assumption | exact valueAt_stored _ _ _ | exact rfl); k_whole) | (refine' q_gitem (knd := PySem.intKind _ _) ?qzN ?qzm ?qzd ?qzk ?qzl ?_; (case qzN => k_asm); (case qzm => k_mem); (case qzd => k_asm); (case qzk => exact intKind_is _ _ _ _); (case qzl => first | assumption | exact valueAt_stored _ _ _ | exact rfl); k_whole))) | fail)
  k_with "setItem ref" => (first | ((k_here; (with_reducible first | show wpAny _ _ (setItem (Value.ref _) (Value.str _ _) _) _ _ _ | show wpAny _ _ (setItem (Value.ref _) (Value.int _ _) _) _ _ _); k_dflt (first | (refine' kda_set (knd := PySem.strKind _ _) ?qzF ?qzN ?qzU ?qzd ?qzk ?qzz ?_; (case qzF => k_asm); (case qzN => k_asm); (case qzU => k_updF); (case qzd => k_asm); (case qzk => exact strKind_is _ _ _ _); (case qzz => exact line64 (by assumption)); k_whole) | (refine' kda_set (knd := PySem.intKind _ _) ?qzF ?qzN ?qzU ?qzd ?qzk ?qzz ?_; (case qzF => k_asm); (case qzN => k_asm); (case qzU => k_updF); (case qzd => k_asm); (case qzk => exact intKind_is _ _ _ _); (case qzz => exact line64 (by assumption)); k_whole)); intro h' o' F' N' hd'; (try dsimp only at N')); (try revert hd'); (try revert N'); (try revert F'); (try revert o'); (try revert h'); intros) | fail)
  k_with "compareOp In str ref" => (first | (k_here; (with_reducible show wpAny _ _ (compareOp CmpOp.In (Value.str _ _) (Value.ref _)) _ _ _); k_dflt (refine' in_tuple_strs ?qzk1 ?qzk2 ?_; (case qzk1 => exact tupK (Frag.In.keeps (by k_asm) (Fr.keep (by k_asm))) (by k_is)); (case qzk2 => kde_strs); k_whole)) | fail)
  k_with "compareOp NotIn str ref" => (first | (k_here; (with_reducible show wpAny _ _ (compareOp CmpOp.NotIn (Value.str _ _) (Value.ref _)) _ _ _); k_dflt (refine' notin_tuple_strs ?qzk1 ?qzk2 ?_; (case qzk1 => exact tupK (Frag.In.keeps (by k_asm) (Fr.keep (by k_asm))) (by k_is)); (case qzk2 => kde_strs); k_whole)) | fail)
  k_with "call ref" => (first | ((k_here; (with_reducible show wpAny _ _ (call (Value.ref 63) _) _ _ _); k_dflt (refine' wp_up (mk_io (gd := _) ?qzB ?qzF ?qzX ?qzN ?qzT ?qzhf ?qzhk ?_) rfl (Nat.le_of_ble_eq_true rfl) rfl rfl (Nat.le_of_ble_eq_true rfl); (case qzB => k_asm); (case qzF => k_asm); (case qzX => k_asm); (case qzN => k_asm); (case qzT => k_asm); (case qzhf => exact rfl); (case qzhk => exact rfl)); intro h' tk' e' t' od' F' N' l'); (try revert l'); (try revert N'); (try revert F'); (try revert od'); (try revert t'); (try revert e'); (try revert tk'); (try revert h'); intros) | fail)
  k_with "call ref" => (first | ((k_here; (with_reducible show wpAny _ _ (call (Value.ref 82) _) _ _ _); k_dflt (refine' wp_up (mk_end (gd := _) ?qzB ?qzF ?qzX ?qzN ?qzT ?qzhf ?qzhk ?_) rfl (Nat.le_of_ble_eq_true rfl) rfl rfl (Nat.le_of_ble_eq_true rfl); (case qzB => k_asm); (case qzF => k_asm); (case qzX => k_asm); (case qzN => k_asm); (case qzT => k_asm); (case qzhf => exact rfl); (case qzhk => exact rfl)); intro h' tk' e' t' od' F' N' l'); (try revert l'); (try revert N'); (try revert F'); (try revert od'); (try revert t'); (try revert e'); (try revert tk'); (try revert h'); intros) | fail)
  k_with "call ref" => (first | ((k_here; (with_reducible show wpAny _ _ (call (Value.ref 44) _) _ _ _); k_dflt (refine' wp_up (mk_check (gd := _) ?qzB ?qzF ?qzX ?qzN ?qzT ?qzhf ?qzhk ?_) rfl (Nat.le_of_ble_eq_true rfl) rfl rfl (Nat.le_of_ble_eq_true rfl); (case qzB => k_asm); (case qzF => k_asm); (case qzX => k_asm); (case qzN => k_asm); (case qzT => k_asm); (case qzhf => exact rfl); (case qzhk => exact rfl)); intro h' tk' e' t' od' F' N' l'); (try revert l'); (try revert N'); (try revert F'); (try revert od'); (try revert t'); (try revert e'); (try revert tk'); (try revert h'); intros) | fail)
  k_with "call ref" => (first | ((k_here; (with_reducible show wpAny _ _ (call (Value.ref 147) [Value.int _ _, Value.ref _, Value.str _ _]) _ _ _); k_dflt (refine' wp_up (unit_new (gd := _) ?qzB ?qzF ?qzX ?qzN ?qzT ?qzhf ?qzhk ?_) rfl (Nat.le_of_ble_eq_true rfl) rfl rfl (Nat.le_of_ble_eq_true rfl); (case qzB => k_asm); (case qzF => k_asm); (case qzX => k_asm); (case qzN => k_asm); (case qzT => k_asm); (case qzhf => exact rfl); (case qzhk => exact rfl)); intro ua' uda' od' h' tk' hD' l1' l2' F' N'; (try k_lt l1')); (try revert N'); (try revert F'); (try revert l2'); (try revert l1'); (try revert hD'); (try revert tk'); (try revert h'); (try revert od'); (try revert uda'); (try revert ua'); intros) | fail)
  k_with "call ref" => (first | ((k_here; (with_reducible show wpAny _ _ (call (Value.ref 105) [Value.str _ _, Value.str _ _, Value.str _ _, Value.int _ _]) _ _ _); k_dflt (refine' wp_up (file_new (gd := _) ?qzB ?qzF ?qzX ?qzN ?qzT ?qzhf ?qzhk ?_) rfl (Nat.le_of_ble_eq_true rfl) rfl rfl (Nat.le_of_ble_eq_true rfl); (case qzB => k_asm); (case qzF => k_asm); (case qzX => k_asm); (case qzN => k_asm); (case qzT => k_asm); (case qzhf => exact rfl); (case qzhk => exact rfl)); intro fa' fda' od' ra' h' tk' hD' l1' l2' l3' F' N'; (try k_lt l1')); (try revert N'); (try revert F'); (try revert l3'); (try revert l2'); (try revert l1'); (try revert hD'); (try revert tk'); (try revert h'); (try revert ra'); (try revert od'); (try revert fda'); (try revert fa'); intros) | fail)
  k_with "exec Raise some none" => (first | (k_here; (with_reducible show wpAny _ _ (exec (Stmt.Raise (some (Expr.Call (Expr.Name (Str.ofString "IoFault") _) _ _ _)) none _) _) _ _ _); k_dflt (refine' raise_at (C := 63) ?qzX ?qzh ?qzq ?_; (case qzX => k_asm); (case qzh => rfl); (case qzq => with_unfolding_all rfl); k_whole)) | fail)
  k_with "exec Raise some none" => (first | (k_here; (with_reducible show wpAny _ _ (exec (Stmt.Raise (some (Expr.Call (Expr.Name (Str.ofString "EndFault") _) _ _ _)) none _) _) _ _ _); k_dflt (refine' raise_at (C := 82) ?qzX ?qzh ?qzq ?_; (case qzX => k_asm); (case qzh => rfl); (case qzq => with_unfolding_all rfl); k_whole)) | fail)
  k_with "exec Raise some none" => (first | (k_here; (with_reducible show wpAny _ _ (exec (Stmt.Raise (some (Expr.Call (Expr.Name (Str.ofString "CheckFault") _) _ _ _)) none _) _) _ _ _); k_dflt (refine' raise_at (C := 44) ?qzX ?qzh ?qzq ?_; (case qzX => k_asm); (case qzh => rfl); (case qzq => with_unfolding_all rfl); k_whole)) | fail)
  k_with "Thrown" => (first | (k_here; k_dflt (refine' thrown_of ?qzF ?qzX ?qzN ?_; (case qzF => k_asm); (case qzX => k_asm); (case qzN => k_asm))) | fail)
  k_with "leaving ref" => (first | ((k_here; k_dflt (refine' leave_own ?qzK ?qzF ?qzN ?qzl ?_ ?qzh; (case qzh => rfl); (case qzK => assumption); (case qzF => k_asm); (case qzN => k_asm); (case qzl => assumption); k_whole); intro h' R' U'; (try dsimp only at R' U' ⊢)); (try revert U'); (try revert R'); (try revert h'); intros) | fail)
  k_with "call ref" => (first | ((k_here; (with_reducible show wpAny _ _ (call (Value.ref 158) [Value.ref _, Value.str (Str.ofString "STATUS") _, Value.str (Str.ofString "UNKNOWN") _, Value.ref 85]) _ _ _); k_dflt (refine' wp_up (status_any (gd := _) ?qzB ?qzF ?qzX ?qzN ?qzT ?qzhf ?qzhk ?qzhm ?qzhd ?qzhv ?qzht ?_) rfl (Nat.le_of_ble_eq_true rfl) rfl rfl (Nat.le_of_ble_eq_true rfl); (case qzF => k_asm); (case qzX => k_asm); (case qzN => k_asm); (case qzT => k_asm); (case qzB => k_asm); (case qzhf => exact rfl); (case qzhk => exact rfl); (case qzhm => k_mem); (case qzhd => k_asm); (case qzhv => k_asm); (case qzht => k_asm)); intro tv' h' tk' F' N'); (try revert N'); (try revert F'); (try revert tk'); (try revert h'); (try revert tv'); intros) | fail)
  k_with "call ref" => (first | ((k_here; (with_reducible show wpAny _ _ (call (Value.ref 172) [Value.ref _]) _ _ _); k_dflt (refine' wp_up (sort_any (gd := _) ?qzB ?qzF ?qzX ?qzN ?qzT ?qzhf ?qzhk ?qzhm ?qzhd ?qzh1 ?qzh2 ?qzh3 ?qzh4 ?_) rfl (Nat.le_of_ble_eq_true rfl) rfl rfl (Nat.le_of_ble_eq_true rfl); (case qzF => k_asm); (case qzX => k_asm); (case qzN => k_asm); (case qzT => k_asm); (case qzB => k_asm); (case qzhf => exact rfl); (case qzhk => exact rfl); (case qzhm => k_mem); (case qzhd => k_asm); (case qzh1 => k_asm); (case qzh2 => k_asm); (case qzh3 => k_asm); (case qzh4 => k_asm)); intro tp' t0' t1' t2' h' tk' F' N' l1; (try k_lt l1)); (try revert l1); (try revert N'); (try revert F'); (try revert tk'); (try revert h'); (try revert t2'); (try revert t1'); (try revert t0'); (try revert tp'); intros) | fail)
  k_with "call ref" => (first | ((k_here; (with_reducible show wpAny _ _ (call (Value.ref 165) [Value.ref _]) _ _ _); k_dflt (refine' wp_up (name_any (gd := _) ?qzB ?qzF ?qzX ?qzN ?qzT ?qzhf ?qzhk ?qzhm ?qzhd ?qzhv ?qzht ?_) rfl (Nat.le_of_ble_eq_true rfl) rfl rfl (Nat.le_of_ble_eq_true rfl); (case qzF => k_asm); (case qzX => k_asm); (case qzN => k_asm); (case qzT => k_asm); (case qzB => k_asm); (case qzhf => exact rfl); (case qzhk => exact rfl); (case qzhm => k_mem); (case qzhd => k_asm); (case qzhv => k_asm); (case qzht => k_asm)); intro tv' h' tk' F' N'); (try revert N'); (try revert F'); (try revert tk'); (try revert h'); (try revert tv'); intros) | fail)
  k_with "call ref" => (first | (k_here; (with_reducible show wpAny _ _ (call (Value.ref 186) _) _ _ _); refine hold ?_) | fail)
  k_with "call ref" => (first | (k_here; (with_reducible show wpAny _ _ (call (Value.ref 193) _) _ _ _); refine hold ?_) | fail)
  k_with "leaving ref" => (first | ((k_here; k_dflt (refine' leave_onSN ?qzK ?qzF ?qzR ?qzU ?_; (case qzR => assumption); (case qzK => assumption); (case qzF => assumption); (case qzU => assumption); k_whole); intro h' R' _ U'; (try dsimp only at R' U' ⊢)); (try revert U'); (try revert R'); (try revert h'); intros) | fail)
  trivial
theorem words_law : True := by
  k_with "subscriptTail Name Constant ref int" => (first | (first | (k_here; k_dflt (refine' item_tupleT ?qzt ?qza ?qzb ?qzc ?qzd ?_; (case qzt => exact News.isTup (by k_asm) (by k_mem)); (case qza => decide); (case qzb => decide); (case qzc => rfl); (case qzd => rfl); k_whole)) | k_extra "subscriptTail") | fail)
  k_with "subscriptTail Subscript" => (first | (first | k_extra "subscriptTail" | (k_here; kda_here; first | ((with_reducible show wpAny _ _ (subscriptTail _ _ (Value.ref _) (Value.str _ _)) _ _ _); k_dflt (refine kdt_tail (knd := PySem.strKind _ _) (by k_asm) (by k_mem) (by k_asm) ?_)) | ((with_reducible show wpAny _ _ (subscriptTail _ _ (Value.ref _) (Value.int _ _)) _ _ _); k_dflt (refine kdt_tail (knd := PySem.intKind _ _) (by k_asm) (by k_mem) (by k_asm) ?_))) | (k_here; k_dflt (refine kba_turn (value' := PySem.Expr.Name (PySem.Str.ofString "_") ⟨0, 0, 0, 0⟩) (fun _ => rfl) ?_))) | fail)
  k_with "getMethod ref" => (first | ((with_reducible show wpAny _ _ (getMethod (Value.ref _) (PySem.Str.ofString "count") _) _ _ _); with_unfolding_all refine getMethod_list_of PySem.F.slot_list_count PySem.F.type_list_count (by is_list) (by no_dict) ?_) | fail)
  k_with "subscriptTail Attribute" => (first | (k_here; k_dflt (refine kba_turn (value' := PySem.Expr.Name (PySem.Str.ofString "_") ⟨0, 0, 0, 0⟩) (fun _ => rfl) ?_)) | fail)
  k_with "k_ne" => (first | (refine neN ?_; (try dsimp only); (first | with_reducible (first | assumption | exact Ne.symm (by assumption) | exact Nat.ne_of_lt (by k_extra "cj") | exact Nat.ne_of_gt (by k_extra "cj") | (k_extra "cj") | exact Ne.symm (by k_extra "cj")) | ((repeat ((with_reducible rename @Ne _ _ _ ∧ _ => hz9); clear hz9)); (repeat ((with_reducible rename (_ ∧ _) ∧ _ => hz9); clear hz9)); (repeat ((with_reducible rename @Ne _ _ _ => hz9); clear hz9)); omega) | omega)) | fail)
  k_with "subscriptTail" => (first | (k_here; (with_reducible show wpAny _ _ (subscriptTail _ _ (Value.ref _) (Value.int _ _)) _ _ _); k_dflt (refine' item_litK ?qzl ?qzh0 ?qzh1 ?qzx ?_ ?qzs; (case qzl => exact News.isList (by k_asm) (by k_mem)); (case qzh0 => decide); (case qzh1 => decide); (case qzx => exact rfl); (case qzs => with_unfolding_all rfl); k_whole)) | fail)
  k_with "eval ListComp" => (first | (k_here; (with_reducible first | show wpAny _ _ (eval (PySem.Expr.ListComp (PySem.Expr.Subscript _ _ _) _ _ _) _) _ _ _ | show wpAny _ _ (eval (PySem.Expr.ListComp (PySem.Expr.Call _ _ _ _) _ _ _) _) _ _ _ | show wpAny _ _ (eval (PySem.Expr.ListComp (PySem.Expr.Attribute _ _ _) _ _ _) _) _ _ _); refine hold ?_) | fail)
  k_with "exec Assign cons ListComp" => (first | (k_here; (with_reducible show wpAny _ _ (exec (Stmt.Assign [PySem.Expr.Name (Str.ofString "units") _] _ _) _) _ _ _); refine hold ?_) | fail)
  k_with "CompSrc" => (first | (k_here; (with_reducible first | show LCg.CompSrc _ _ _ _ _ _ _ (PySem.Expr.Subscript _ _ _) _ _ _ _ _ _ | show LCg.CompSrc _ _ _ _ _ _ _ (PySem.Expr.Call _ _ _ _) _ _ _ _ _ _ | show LCg.CompSrc _ _ _ _ _ _ _ (PySem.Expr.Attribute _ _ _) _ _ _ _ _ _); refine hold ?_) | fail)
  k_with "CompEnd" => (first | (k_here; (with_reducible show LCg.CompEnd _ _ _ _ _ _ _ _ _ _ _ (fun _ _ => Mark _) _ _); refine hold ?_) | fail)
  k_with "call ref" => (first | ((k_here; (with_reducible show wpAny _ _ (call (Value.ref 310) [Value.ref _, Value.int _ _]) _ _ _); k_dflt (refine' wp_up (cell_at (gd := _) ?qzB ?qzF ?qzX ?qzN ?qzT ?qzhf ?qzhk ?qzU ?qzhc ?qzhct ?qzhi ?qzh0 ?qzhp ?qzhl ?qzhM ?qzhM2 ?_) rfl (Nat.le_of_ble_eq_true rfl) rfl rfl (Nat.le_of_ble_eq_true rfl); (case qzF => k_asm); (case qzX => k_asm); (case qzN => k_asm); (case qzT => k_asm); (case qzB => k_asm); (case qzhf => exact rfl); (case qzhk => exact rfl); (case qzU => k_updF); (case qzhc => k_mem); (case qzhct => first | assumption | k_extra "om"); (case qzhi => k_asm); (case qzh0 => k_extra "om"); (case qzhp => k_extra "om"); (case qzhl => first | assumption | k_asm); (case qzhM => decide); (case qzhM2 => decide)); intro v' tv' tq' h' tk' v0' v1' F' N'; (try dsimp only at N')); (try revert N'); (try revert F'); (try revert v1'); (try revert v0'); (try revert tk'); (try revert h'); (try revert tq'); (try revert tv'); (try revert v'); intros) | fail)
  k_with "call ref" => (first | (k_here; (with_reducible first | show wpAny _ _ (call (Value.ref 324) _) _ _ _ | show wpAny _ _ (call (Value.ref 336) _) _ _ _ | show wpAny _ _ (call (Value.ref 261) _) _ _ _ | show wpAny _ _ (call (Value.ref 350) _) _ _ _ | show wpAny _ _ (call (Value.ref 343) _) _ _ _ | show wpAny _ _ (call (Value.ref 278) _) _ _ _ | show wpAny _ _ (call (Value.ref 126) _) _ _ _ | show wpAny _ _ (call (Value.ref 299) _) _ _ _ | show wpAny _ _ (call (Value.ref 317) _) _ _ _); refine hold ?_) | fail)
  k_with "exec For" => (first | (k_here; k_dflt (refine' For_own ?qzF ?_ ?qzx ?qzp ?qzs ?qze; (case qzF => k_asm); (case qzx => rfl); (case qzp => rfl); (case qzs => intro _; rfl); (case qze => passes_own); k_whole)) | fail)
  k_with "exec For Name Call cons nil" => (first | (k_here; k_dflt (refine' For_own ?qzF ?_ ?qzx ?qzp ?qzs ?qze; (case qzF => k_asm); (case qzx => rfl); (case qzp => rfl); (case qzs => intro _; rfl); (case qze => passes_own); k_whole)) | fail)
  k_with "call builtin:len" => (first | (k_here; (with_reducible show wpAny _ _ (call (Value.builtin "len") [Value.ref _]) _ _ _); k_dflt (refine' KM.len_K ?qzN ?qzm ?qzs ?qzf ?_; (case qzN => k_asm); (case qzm => k_mem); (case qzs => exact List.size_toArray); (case qzf => k_extra "om"); k_whole)) | fail)
  k_with "subscriptTail" => (first | ((k_here; (with_reducible show wpAny _ _ (subscriptTail _ _ (Value.ref _) (Value.int _ _)) _ _ _); k_dflt (refine' item_strs ?qzl ?qzh0 ?qzh1 ?qzh2 ?qzx ?_ ?qzs; (case qzl => exact News.isList (by k_asm) (by k_mem)); (case qzx => repeat (first | exact WordsAre.nil | apply WordsAre.cons)); (case qzh0 => k_extra "om"); (case qzh1 => first | assumption | (simp only [List.length_cons, List.length_nil]; k_extra "om")); (case qzh2 => k_extra "om"); (case qzs => with_unfolding_all rfl); k_whole; intro x' t' hx')); (try revert hx'); (try revert t'); (try revert x'); intros) | fail)
  k_with "subscriptTail" => (first | ((k_here; (with_reducible show wpAny _ _ (subscriptTail _ _ (Value.ref _) (Value.int _ _)) _ _ _); k_dflt (refine' item_strsAt ?qzl ?qzh0 ?qzh1 ?qzh2 ?qzx ?_ ?qzs; (case qzl => exact News.isList (by k_asm) (by k_mem)); (case qzx => assumption); (case qzh0 => k_extra "om"); (case qzh1 => k_extra "om"); (case qzh2 => k_extra "om"); (case qzs => with_unfolding_all rfl); k_whole; intro t')); (try revert t'); intros) | fail)
  k_with "call builtin:list.count" => (first | (k_here; (with_reducible show wpAny _ _ (call (Value.builtin _) [Value.ref _, Value.str _ _]) _ _ _); k_dflt (refine' count_strs ?qzl ?qzi ?_; (case qzl => exact News.isList (by k_asm) (by k_mem)); (case qzi => assumption); k_whole)) | fail)
  k_with "exec Assign" => (first | (k_here; (fail_if_success (with_reducible show wpAny _ _ _ (fun _ _ => Hold _) _ _)); (with_reducible show wpAny _ _ (exec (Stmt.Assign [PySem.Expr.Name (Str.ofString "due") _] _ _) _) _ _ _); refine hold ?_) | fail)
  k_with "exec If" => (first | (k_here; (fail_if_success (with_reducible show wpAny _ _ _ (fun _ _ => Hold _) _ _)); (with_reducible show wpAny _ _ (exec (Stmt.If (PySem.Expr.Compare (PySem.Expr.Call (PySem.Expr.Name (Str.ofString "_law_main") _) _ _ _) _ _ _) _ _ _) _) _ _ _); refine hold ?_) | fail)
  k_with "exec If" => (first | (k_here; (fail_if_success (with_reducible show wpAny _ _ _ (fun _ _ => Hold _) _ _)); (with_reducible first | show wpAny _ _ (exec (Stmt.If (PySem.Expr.BoolOp _ _ _) _ _ _) _) _ _ _ | show wpAny _ _ (exec (Stmt.If (PySem.Expr.Compare (PySem.Expr.ListComp _ _ _ _) _ _ _) _ _ _) _) _ _ _); refine hold ?_) | fail)
  k_with "call builtin:sorted" => (first | ((k_here; k_dflt (first | (refine' sorted_ints ?qzhh ?qzF ?qzN ?qzm ?qzd ?qzlo ?qzn ?_; (case qzhh => rfl); (case qzF => k_asm); (case qzN => k_asm); (case qzm => k_mem); (case qzd => k_asm); (case qzlo => exact lo_of (by k_asm) (by k_asm) (by k_mem)); (case qzn => assumption); k_whole) | (refine' sorted_strsD ?qzhh ?qzF ?qzN ?qzm ?qzd ?qzlo ?qzn ?_; (case qzhh => rfl); (case qzF => k_asm); (case qzN => k_asm); (case qzm => k_mem); (case qzd => k_asm); (case qzlo => exact lo_of (by k_asm) (by k_asm) (by k_mem)); (case qzn => assumption); k_whole)); intro D' h' tk' out' n' ns' F' N' l1 hI' hP' hS'); (try revert hS'); (try revert hP'); (try revert hI'); (try revert l1); (try revert N'); (try revert F'); (try revert ns'); (try revert n'); (try revert out'); (try revert tk'); (try revert h'); (try revert D'); intros) | fail)
  k_with "compareOp NotEq ref ref" => (first | (k_here; (with_reducible show wpAny _ _ (compareOp CmpOp.NotEq (Value.ref _) (Value.ref _)) _ _ _); k_dflt (first | (refine' ne_sorted_ints ?qzl1 ?qzi1 ?qzp1 ?qzs1 ?qzl2 ?qzi2 ?qzp2 ?qzs2 ?qze ?qzu ?_; (case qzl1 => exact News.isList (by k_asm) (by k_mem)); (case qzi1 => assumption); (case qzp1 => assumption); (case qzs1 => assumption); (case qzl2 => exact News.isList (by k_asm) (by k_mem)); (case qzi2 => assumption); (case qzp2 => assumption); (case qzs2 => assumption); (case qze => assumption); (case qzu => exact Nat.le_of_ble_eq_true rfl); k_whole) | (refine' ne_sorted_strs ?qzl1 ?qzi1 ?qzp1 ?qzs1 ?qzl2 ?qzi2 ?qzp2 ?qzs2 ?qze ?qzu ?_; (case qzl1 => exact News.isList (by k_asm) (by k_mem)); (case qzi1 => assumption); (case qzp1 => assumption); (case qzs1 => assumption); (case qzl2 => exact News.isList (by k_asm) (by k_mem)); (case qzi2 => assumption); (case qzp2 => assumption); (case qzs2 => assumption); (case qze => assumption); (case qzu => exact Nat.le_of_ble_eq_true rfl); k_whole) | (refine hold ?_))) | fail)
  k_with "exec For Name List cons nil" => (first | (k_here; k_dflt (refine' For_own ?qzF ?_ ?qzx ?qzp ?qzs ?qze; (case qzF => k_asm); (case qzx => rfl); (case qzp => rfl); (case qzs => intro _; rfl); (case qze => passes_own); k_whole)) | fail)
  k_with "newTuple" => (first | (k_here; (with_reducible show wpAny _ _ (newTuple [Value.str (Str.ofString "open") _, _, _, _]) _ _ _); k_dflt (refine newTuple_N (by k_asm) (by k_asm) ?_); intro _ _ _) | fail)
  k_with "compareOp Eq ref ref" => (first | (k_here; (with_reducible show wpAny _ _ (compareOp CmpOp.Eq (Value.ref _) (Value.ref _)) _ _ _); refine hold ?_) | fail)
  k_with "execs cons" => (first | (k_here; (with_reducible first | show wpAny _ _ (execs (Stmt.If _ _ _ _ :: _) _) _ _ _ | show wpAny _ _ (execs (Stmt.Assign [PySem.Expr.Name (Str.ofString "due") _] _ _ :: _) _) _ _ _); (try k_gentoks); (with_reducible refine wpAny_execs_cons ?_); (try dsimp only)) | fail)
  trivial

structure Keep (K : Prop) : Prop where go : K
noncomputable def law_p0 : (kA : Prop) ×' (kB : Prop) ×' (Keep kA → Keep kB → PySem.Challenge.rw_pf0122_01.Holds) := by
  refine' ⟨_, _, fun kpA kpB => law_top ?g⟩
  case g =>
    k_go0; (all_goals try k_fold); k_steps
    (rename IntsAre _ (List.map _ (List.take 50 _)) => hI0)
    have hlen := hI0.length
    have hln : (List.take 50 ‹List Int›).length < 1000 := by rw [List.length_take]; k_extra "om"
    generalize hnsd : List.map _ (List.take 50 _) = ns0 at hI0
    have hnl : ns0.length < 1000 := by rw [← hnsd, List.length_map]; exact hln
    rename_i CI hC tkC oC1 TR hA lTR hB oT FT NT dT
    refine held (LCg.ListComp_U (F₀ := by k_asm) (by with_unfolding_all rfl) (by decide) (by rfl) (by decide) (by rfl) ?_)
    k_steps
    rename_i v1 tv1 tq1 hD tkD v10 v11 FD ND hE tkE r1 r2 r3 hr Fz Nz hkp
    refine held (LCg.CompSrc.range (n := v1.toNat) rfl (by k_asm) (by k_asm) hr (range_small v10 (by k_extra "om")) (range_size v10 (by k_extra "om")) (by rw [PySem.sizeLine_eq]; k_extra "om") ?_)
    intro g'
    obtain ⟨R0, hR0⟩ := news_shape Nz
    rw [← hR0] at Nz
    rw [← hR0]
    refine compRest_inv (fun i ys news => ∃ p tq xs, news = (TR, W.listOf #[.int p tq, .ref CI] 0) :: R0 ∧ 1 ≤ p ∧ p ≤ 1 + i ∧ PyProof.Rows.StrsAre ys xs ∧ xs.length = i) _ 0 [] _ ?_ ⟨_, _, [], rfl, by k_extra "om", by k_extra "om", .nil, rfl⟩ ?_
    · rintro i ys' news v I oI C oC D m₂ h tk E' hi hP ⟨p, tq, xs, rfl, p1, p2, hxs, hxl⟩ hN hx F N off ne
      repeat revert ‹_›
      intro kpA kpB
      exact kpA.go
    rintro zs news' ⟨p, tq, xs, rfl, p1, p2, hxs, hxl⟩
    subst hR0
    have hzl := strs_len hxs
    k_steps
    repeat revert ‹_›
    intro kpA kpB
    exact kpB.go
theorem law_g1 : law_p0.1 := (by exact kept : Kept _ (by
  delta law_p0
  dsimp (config := { zeta := false, zetaDelta := false, beta := false, eta := false, iota := false }) only
  set_option tactic.hygienic false in intros
  (try clear hN); (try clear g'_1); (try clear hkp); (try clear Fz); (try clear hr_2); (try clear r3); (try clear r2); (try clear r1); (try clear tkE); (try clear ND); (try clear FD); (try clear tkD); (try clear hD_1); (try clear tv1); (try clear hnsd); (try clear hln); (try clear hlen); (try clear tk); (try clear NT); (try clear FT); (try clear hB); (try clear hA); (try clear oC1); (try clear tkC); (try clear hC); (try clear hL8); (try clear g'); (try clear hkl_1); (try clear hkl); (try clear hL'); (try clear hC'); (try clear hI'); (try clear h'); (try clear X0); (try clear right); (try clear left_2); (try clear left_1); (try clear left); (try clear w_14); (try clear tk₁); (try clear h₁); (try clear hD); (try clear hcond'); (try clear hr_1); (try clear hI); (try clear r0); (try clear w1); (try clear ra); (try clear hL_1); (try clear w_10); (try clear w_9); (try clear w_7); (try clear w_6); (try clear hl2); (try clear hr); (try clear hL); (try clear hlay0); (try clear hs); (try clear w_5); (try clear hcd); (try clear w_4); (try clear M); (try clear w_2); (try clear w_1); (try clear TW); (try clear TE); (try clear B); (try clear GL); (try clear V); (try clear X); (try clear hg); (try clear ho); (try clear o); (try clear Y); (try clear G)
  subst hR0
  obtain ⟨tv, rfl⟩ := hP
  have off2 := off
  simp only [LCg.Off3, and_true] at off2
  k_steps
  refine held (LCg.CompEnd.intro (by k_asm) (by k_asm) _ (fun p hp => .tail _ hp) (off3_head off) trivial (mark ⟨p + 1, _, xs ++ [_], rfl, by k_extra "om", by k_extra "om", PyProof.Rows.StrsAre.append' hxs (.cons _ _ .nil), by rw [List.length_append, hxl]; rfl⟩))))
noncomputable def law_p2 : (kA : Prop) ×' (kB : Prop) ×' (Keep kA → Keep kB → law_p0.2.1) := by
  refine' ⟨_, _, fun kpA kpB => ?g⟩
  case g =>
    delta law_p0
    dsimp (config := { zeta := false, zetaDelta := false, beta := false, eta := false, iota := false }) only
    set_option tactic.hygienic false in intros
    (try clear tk'); (try clear h'_1); (try clear g'_1); (try clear hkp); (try clear hr_2); (try clear r3); (try clear r2); (try clear r1); (try clear tkE); (try clear hE); (try clear tkD); (try clear hD_1); (try clear tq1); (try clear tv1); (try clear hnsd); (try clear hln); (try clear hlen); (try clear tk); (try clear hB); (try clear hA); (try clear tkC); (try clear hC); (try clear hL8); (try clear g'); (try clear hkl_1); (try clear hkl); (try clear hL'); (try clear hC'); (try clear hI'); (try clear h'); (try clear X0); (try clear right); (try clear left_2); (try clear w_14); (try clear w_13); (try clear tk₁); (try clear h₁); (try clear hD); (try clear hcond'); (try clear hr_1); (try clear hI); (try clear r0); (try clear w1); (try clear ra); (try clear hL_1); (try clear w_10); (try clear w_9); (try clear w_7); (try clear w_6); (try clear hl2); (try clear hr); (try clear hL); (try clear hlay0); (try clear hs); (try clear hcd); (try clear w_4); (try clear M); (try clear w_2); (try clear w_1); (try clear TW); (try clear TE); (try clear B); (try clear GL); (try clear V); (try clear X); (try clear ho); (try clear o); (try clear Y); (try clear G)
    refine held (LCg.Assign_ListComp_U (F₀ := by k_asm) (by rfl) (by with_unfolding_all rfl) (by with_unfolding_all rfl) (by decide) (by rfl) (by decide) (by rfl) (by rfl) (by rfl) ?_)
    k_steps
    (rename IsRange _ _ 0 _ 1 _ _ _ => hr2)
    (rename News _ _ _ ((_, LCg.lst zs) :: _) => Nz2)
    refine held (LCg.CompSrc.range (n := ((zs.length : Int)).toNat) rfl (by k_asm) (by k_asm) hr2 (range_small (by k_extra "om") (by k_extra "om")) (range_size (by k_extra "om") (by k_extra "om")) (by rw [PySem.sizeLine_eq]; k_extra "om") ?_)
    intro g'
    obtain ⟨R2, hR2⟩ := news_whole Nz2
    rw [← hR2]
    rw [← hR2] at Nz2
    refine compRest_inv (fun i us news => ∃ Y, news = R2 ++ Y ∧ TreesIn Y us (fun i => xs.getD i default) (fun i => Str.ofString "P" ++ Txt.item (Str.ofString "0123") (i : Int)) ∧ us.length = i) _ 0 [] _ ?_ ⟨[], (List.append_nil _).symm, trees_nil _ _ _, rfl⟩ ?_
    · rintro iu us news vu Iu oIu Cu oCu Du mu hpu tku Eu' hiu hPu ⟨Yt, rfl, hT, hul⟩ hNu hxu Fu Nu offu neu
      repeat revert ‹_›
      intro kpA kpB
      exact kpA.go
    · rintro us news' ⟨Yt, hn, hT, hul⟩
      rw [hR2] at hn
      simp only [List.cons_append, List.nil_append] at hn
      subst hn
      repeat revert ‹_›
      intro kpA kpB
      exact kpB.go
theorem law_g3 : law_p2.1 := (by exact kept : Kept _ (by
  delta law_p2
  dsimp (config := { zeta := false, zetaDelta := false, beta := false, eta := false, iota := false }) only
  set_option tactic.hygienic false in intros
  (try clear Nz2); (try clear g'); (try clear a_1); (try clear a); (try clear hr2); (try clear v₁); (try clear u₁); (try clear t₁); (try clear tk); (try clear h'); (try clear tk_1); (try clear N'); (try clear F'); (try clear h'_2); (try clear p2); (try clear p1); (try clear hnl); (try clear hI0); (try clear ns0); (try clear dT); (try clear oC1); (try clear left_1); (try clear left); (try clear hcond'_1); (try clear w_5); (try clear hg)
  obtain ⟨tvu, rfl⟩ := hPu
  rw [hR2] at Nu
  k_steps
  refine held (wp_up (tree_any (gd := _) (by k_asm) (by k_asm) (by k_asm) (by k_asm) (by k_asm) rfl rfl ?_) rfl (Nat.le_of_ble_eq_true rfl) rfl rfl (Nat.le_of_ble_eq_true rfl))
  intro xu du ou hu' tku' hTd hdu hdx Fu' Nu'
  rw [← hR2] at hdu Nu'
  k_steps
  refine held (LCg.CompEnd.intro (by k_asm) (by k_asm) (R2 ++ (xu, instObj 278 du) :: (du, ou) :: Yt) comp_sub (off3_mid offu hdu hdx) trivial (mark ⟨_, rfl, trees_snoc hT (by rw [hul]; rw [Int.zero_add, Int.toNat_natCast] at hTd; exact hTd), by rw [List.length_append, hul]; rfl⟩))))
noncomputable def law_p4 : (kA : Prop) ×' (Keep kA → law_p2.2.1) := by
  refine' ⟨_, fun kpA => ?g⟩
  case g =>
    delta law_p2
    dsimp (config := { zeta := false, zetaDelta := false, beta := false, eta := false, iota := false }) only
    set_option tactic.hygienic false in intros
    (try clear hR2); (try clear Nz2); (try clear R2); (try clear a_1); (try clear a); (try clear hr2); (try clear v₁); (try clear u₁); (try clear t₁); (try clear h'); (try clear tk_1); (try clear N'); (try clear F'); (try clear h'_2)
    have hmc := mains_count xs
    k_steps
    refine held (put_step (Str.ofString "due") (DueIs xs) (by k_asm) (by k_asm) ?_ ?_)
    · by_cases h1 : (mains (fun i => xs.getD i default) xs.length).length = 1
      · obtain ⟨j, hj⟩ := List.length_eq_one_iff.mp h1
        obtain ⟨j1, j2, j3⟩ := mains_one hj
        have hcc : (List.countP (fun x => x == Str.ofString "program") xs) = 1 := hmc ▸ h1
        k_steps
        · refine index_strs (j := j) (News.isList (by k_asm) (by k_mem)) hxs j1 (by k_extra "om") j2 j3 ?_
          k_steps
          exact held ⟨_, _, _, by first | trivial | rfl, rfl, by k_asm, by k_asm, .inl ⟨j, _, hj, rfl⟩⟩
        · exfalso; k_extra "om"
      · have hcc : (List.countP (fun x => x == Str.ofString "program") xs) ≠ 1 := hmc ▸ h1
        k_steps
        · exfalso; k_extra "om"
        · exact held ⟨_, _, _, by first | trivial | rfl, rfl, by k_asm, by k_asm, .inr ⟨h1, rfl⟩⟩
    · intro vd hd' tkd Fd' Nd' hdue
      k_steps
      refine held (pass_step (by k_asm) (by k_asm) ?_ ?_)
      · rcases hdue with ⟨j, td, hj, rfl⟩ | ⟨h1, rfl⟩
        · k_steps
          refine held (wp_up (law_main_any (kd := fun i => xs.getD i default) (nm := fun i => Str.ofString "P" ++ Txt.item (Str.ofString "0123") (i : Int)) (vs := us) (gd := _) (by k_asm) (by k_asm) (by k_asm) (by k_asm) (by k_asm) (by k_asm) (by k_asm) rfl rfl (by k_mem) (by k_extra "om") (fun i v hv => by obtain ⟨a1, a2, a3, a4, a5, a6, a7⟩ := hT i v hv; exact ⟨a1, a2, a3, a4, by k_mem, by k_mem, a7⟩) ?_ ?_) rfl (Nat.le_of_ble_eq_true rfl) rfl rfl (Nat.le_of_ble_eq_true rfl))
          · intro j' tj hj' hm1 tkm Fm Nm
            rw [hul, show 0 + ((zs.length : Int)).toNat = xs.length by k_extra "om", hj] at hj'
            obtain rfl : j = j' := (List.cons.inj hj').1
            k_steps
            · (rename (_ != _) = true => hbad)
              rw [bne_self_eq_false] at hbad
              cases hbad
            · exact held ⟨_, _, rfl, rfl, by k_asm, by k_asm⟩
          · intro hne
            rw [hul, show 0 + ((zs.length : Int)).toNat = xs.length by k_extra "om", hj] at hne
            exact absurd rfl hne
        · k_steps
          refine held (wp_up (law_main_any (kd := fun i => xs.getD i default) (nm := fun i => Str.ofString "P" ++ Txt.item (Str.ofString "0123") (i : Int)) (vs := us) (gd := _) (by k_asm) (by k_asm) (by k_asm) (by k_asm) (by k_asm) (by k_asm) (by k_asm) rfl rfl (by k_mem) (by k_extra "om") (fun i v hv => by obtain ⟨a1, a2, a3, a4, a5, a6, a7⟩ := hT i v hv; exact ⟨a1, a2, a3, a4, by k_mem, by k_mem, a7⟩) ?_ ?_) rfl (Nat.le_of_ble_eq_true rfl) rfl rfl (Nat.le_of_ble_eq_true rfl))
          · intro j' tj hj'
            rw [hul, show 0 + ((zs.length : Int)).toNat = xs.length by k_extra "om"] at hj'
            rw [hj'] at h1
            exact absurd rfl h1
          · intro hne hm1 tkm Fm Nm
            k_steps
            exact held ⟨_, _, by first | trivial | rfl, rfl, by k_asm, by k_asm⟩
      · intro hd2 tkd2 Fd2 Nd2
        repeat revert ‹_›
        intro kpA
        exact kpA.go
noncomputable def law_p5 : (kA : Prop) ×' (kB : Prop) ×' (Keep kA → Keep kB → law_p4.1) := by
  refine' ⟨_, _, fun kpA kpB => ?g⟩
  case g =>
    delta law_p4
    dsimp (config := { zeta := false, zetaDelta := false, beta := false, eta := false, iota := false }) only
    set_option tactic.hygienic false in intros
    (try clear hdue); (try clear Nd'); (try clear Fd'); (try clear tkd); (try clear hd'); (try clear hmc); (try clear hul); (try clear hT); (try clear g'); (try clear hxs)
    (rename Below callerA _ [] _ => K0)
    have K1 := below_as Fd2 K0 rfl
    clear K0
    have Nd3 := news_keep Nd2
    clear Nd2
    k_steps
    refine held (wp_up (store_any (gd := _) (by k_asm) (by k_asm) (by k_asm) (by k_asm) (by k_asm) rfl rfl ?_) rfl (Nat.le_of_ble_eq_true rfl) rfl rfl (Nat.le_of_ble_eq_true rfl))
    intro xS dS fS foS hhS tS nS hS' tkS hoS lS1 lS2 lS3 FS NS
    k_lt lS1
    k_steps
    refine held (wp_up (world_any (gd := _) (by k_asm) (by k_asm) (by k_asm) (by k_asm) (by k_asm) rfl rfl ?_) rfl (Nat.le_of_ble_eq_true rfl) rfl rfl (Nat.le_of_ble_eq_true rfl))
    intro xW dW uW uoW woW hW' tkW hoW hwD lW1 lW2 lW3 FW NW
    k_lt lW1
    k_steps
    rename_i hq7 oWc dWc _ BK hq6 oq4 lo3 hdq1 lq2 BF hq5 oBF lo2 hsF fsF hiF fiF lq1 BU hq4 oBU lo1 hsU fsU hiU fiU lq0 hq3 oBK hBK hq2 oBc FBc NBc dBc vR tvR tqR hq1 tkR vR0 vR1 FR NR hqz tkz t1 t2 t3 hrR FzR NzR hkR
    have hBK2 : Obj.IsDictOf (PySem.strKind P0 _) oBK [(Str.ofString "files", .ref BF), (Str.ofString "units", .ref BU)] := hBK
    obtain ⟨R, hR, Nl, D1, D2, hTR⟩ := law_news NzR (by k_extra "om") (by k_extra "om") (by k_extra "om") (by k_extra "om") (by k_extra "om") (by k_extra "om") (by k_extra "om") (by k_extra "om") (by k_extra "om") (by k_extra "om") (by k_extra "om") (by k_extra "om") (by k_extra "om") (by k_extra "om")
    have mBK := mem_at hR 0 rfl
    have mW := mem_at hR 1 rfl
    have mdW := mem_at hR 2 rfl
    have mS := mem_at hR 3 rfl
    have mdS := mem_at hR 4 rfl
    have mCI := mem_at hR 5 rfl
    have mc4 := mem_at hR 6 rfl
    have mc3 := mem_at hR 7 rfl
    have mc1 := mem_at hR 9 rfl
    have nAB : @Ne Nat uW fS := by k_extra "om"
    have nBB : @Ne Nat BU BF := by k_extra "om"
    have hCT : @Ne Nat CI TR := by k_extra "om"
    clear hR
    refine loop_range (y := Str.ofString "deed") (n := (1 + vR).toNat) (LoopJ _ uW fS BU BF TR CI R) rfl (by k_asm) Nl hrR (range_small (by k_extra "om") (by k_extra "om")) (range_size (by k_extra "om") (by k_extra "om")) ⟨_, _, _, _, st0, rfl, pinv0 hoW hoS nAB, binv0 hiU hsF nBB, sok0, D1, D2, hTR, by k_extra "om", by k_extra "om"⟩ ?_ ?_
    · rintro iL tL uL nxL IL oIL hL9 tkL9 hiL ⟨pL, tqL, AL, BL, stL, rfl, IA, IB, SL, DA, DB, hTr, hp0, hp1⟩ hIL FL9 NL9
      repeat revert ‹_›
      intro kpA kpB
      exact kpA.go
    · rintro uL nxL hL9 tkL9 ⟨pL, tqL, AL, BL, stL, rfl, IA, IB, SL, DA, DB, hTr, hp0, hp1⟩ FL9 NL9
      repeat revert ‹_›
      intro kpA kpB
      exact kpB.go
noncomputable def law_p6 : (kA : Prop) ×' (kB : Prop) ×' (Keep kA → Keep kB → law_p5.1) := by
  refine' ⟨_, _, fun kpA kpB => ?g⟩
  case g =>
    delta law_p5
    dsimp (config := { zeta := false, zetaDelta := false, beta := false, eta := false, iota := false }) only
    set_option tactic.hygienic false in intros
    (try clear nBB); (try clear nAB); (try clear hTR); (try clear D2); (try clear D1); (try clear Nl); (try clear hkR); (try clear NzR); (try clear FzR); (try clear hrR); (try clear t3); (try clear t2); (try clear t1); (try clear tkz); (try clear hqz); (try clear NR); (try clear FR); (try clear tkR); (try clear hq1); (try clear tqR); (try clear tvR); (try clear NBc); (try clear FBc); (try clear hq2); (try clear hBK); (try clear hq3); (try clear lq0); (try clear fiU); (try clear hiU); (try clear fsU); (try clear hsU); (try clear lo1); (try clear oBU); (try clear hq4); (try clear lq1); (try clear fiF); (try clear hiF); (try clear fsF); (try clear hsF); (try clear lo2); (try clear oBF); (try clear hq5); (try clear lq2); (try clear hdq1); (try clear lo3); (try clear oq4); (try clear hq6); (try clear hq7); (try clear lW1); (try clear lW3); (try clear lW2); (try clear hoW); (try clear tkW); (try clear hW'); (try clear uoW); (try clear lS1); (try clear lS3); (try clear lS2); (try clear hoS); (try clear tkS); (try clear hS'); (try clear foS); (try clear tkd2); (try clear hd2); (try clear Yt); (try clear hzl); (try clear hxl); (try clear p2); (try clear p1); (try clear v11); (try clear v10); (try clear lTR); (try clear oC1); (try clear ws'); (try clear left_1); (try clear left); (try clear w_12); (try clear w_11); (try clear hcond'_1); (try clear hg)
    have hIT : @Ne Nat TR IL := hIL _ (.head _)
    have hIl : ∀ q ∈ AL ++ (BL ++ R), @Ne Nat q.1 IL := fun q hq => hIL q (.tail _ hq)
    have sR : ∀ q ∈ R, q ∈ AL ++ (BL ++ R) := fun q hq => List.mem_append_right _ (List.mem_append_right _ hq)
    have IB₀ := IB
    obtain ⟨buoL, bfoL, kvBL, kvBFL, adL, IBx⟩ := IB
    have mBU : (BU, buoL) ∈ AL ++ (BL ++ R) := List.mem_append_right _ (List.mem_append_left _ IBx.u)
    have huB := IBx.uD
    have hkuB := IBx.ku
    obtain ⟨lL, hlL⟩ : ∃ l, l = AL ++ (BL ++ R) := ⟨_, rfl⟩
    rw [← hlL] at NL9 hIl sR mBU hTr
    have a1 := sR _ mBK
    have a2 := sR _ mc4
    have a3 := sR _ mc3
    have a4 := sR _ mc1
    have a5 := sR _ mCI
    have hfb : valueAt [(Str.ofString "files", Value.ref BF), (Str.ofString "units", Value.ref BU)] (Str.ofString "units") = some (.ref BU) := by
      have : Str.ofString "files" ≠ Str.ofString "units" := by decide +kernel
      simp [valueAt, this]
    have hff : valueAt [(Str.ofString "files", Value.ref BF), (Str.ofString "units", Value.ref BU)] (Str.ofString "files") = some (.ref BF) := by
      simp [valueAt]
    k_steps
    refine held (wp_up (deed_any (R := (IL, oIL) :: lL) (vs := ys) (ns := ns0) (gd := _) (by k_asm) (by k_asm) (by k_asm) (news_swap (by k_asm)) (by k_asm) rfl rfl (.tail _ a5) hCT (fun q hq => ?_) hI0 hp0 (by k_extra "om") hnl ?_) rfl (Nat.le_of_ble_eq_true rfl) rfl rfl (Nat.le_of_ble_eq_true rfl))
    · rcases List.mem_cons.mp hq with rfl | hq
      · exact Ne.symm hIT
      · exact hTr q hq
    intro da od dL pD tqD hDL tkDL hdV pD0 pD1 hltD FDL NDL
    k_steps
    refine held (test_step (Fits stL dL) (by k_asm) (by k_asm) ?_ ?_ ?_)
    · cases dL with
      | opn k told nmo =>
        obtain ⟨k1, k3, hst, w0, n0, tt, v, hv, rfl⟩ := hdV
        have hD : Fits stL (.opn k told nmo) := ⟨k1, k3, hst, name_five hv⟩
        k_steps
        exact held ⟨_, _, .inr ⟨rfl, hD⟩, rfl, by k_asm, by first | k_asm | exact news_tl (by k_asm)⟩
      | cls k told =>
        obtain ⟨k1, k3, w0, n0, v, hv, rfl⟩ := hdV
        have hD : Fits stL (.cls k told) := ⟨k1, k3, by rcases hv with ⟨-, h⟩ | ⟨_, -, h⟩ | ⟨_, -, h⟩ <;> simp [h]⟩
        k_steps
        exact held ⟨_, _, .inr ⟨rfl, hD⟩, rfl, by k_asm, by first | k_asm | exact news_tl (by k_asm)⟩
      | wrt k r =>
        obtain ⟨k1, k3, w0, n0, x, xt, rfl, rfl⟩ := hdV
        by_cases hin : k ∈ stL.ks
        · obtain ⟨v0, hv0⟩ := valueAt_isSome (kvs := kvBL) (hkuB ▸ hin)
          k_steps
          exact held ⟨_, _, .inr ⟨rfl, hin⟩, rfl, by k_asm, by first | k_asm | exact news_tl (by k_asm)⟩
        · have hv0 : valueAt kvBL k = none := valueAt_no fun c => hin (hkuB ▸ c)
          k_steps
          exact held ⟨_, _, .inl rfl, rfl, by k_asm, by first | k_asm | exact news_tl (by k_asm)⟩
      | rew k =>
        obtain ⟨k1, k3, w0, n0, x, xt, rfl⟩ := hdV
        by_cases hin : k ∈ stL.ks
        · obtain ⟨v0, hv0⟩ := valueAt_isSome (kvs := kvBL) (hkuB ▸ hin)
          k_steps
          exact held ⟨_, _, .inr ⟨rfl, hin⟩, rfl, by k_asm, by first | k_asm | exact news_tl (by k_asm)⟩
        · have hv0 : valueAt kvBL k = none := valueAt_no fun c => hin (hkuB ▸ c)
          k_steps
          exact held ⟨_, _, .inl rfl, rfl, by k_asm, by first | k_asm | exact news_tl (by k_asm)⟩
    · intro hQ1 tkQ1 hFit FQ1 NQ1
      repeat revert ‹_›
      intro kpA kpB
      exact kpA.go
    · intro hQ1 tkQ1 FQ1 NQ1
      repeat revert ‹_›
      intro kpA kpB
      exact kpB.go
noncomputable def law_p8 : (kA : Prop) ×' (Keep kA → law_p6.1) := by
  refine' ⟨_, fun kpA => ?g⟩
  case g =>
    delta law_p6
    dsimp (config := { zeta := false, zetaDelta := false, beta := false, eta := false, iota := false }) only
    set_option tactic.hygienic false in intros
    (try clear tkDL); (try clear hDL); (try clear hkuB); (try clear huB); (try clear IBx); (try clear adL); (try clear kvBFL); (try clear kvBL); (try clear bfoL); (try clear FL9); (try clear hIL); (try clear hCT); (try clear mc1); (try clear mCI); (try clear hnl); (try clear hI0); (try clear dT)
    k_steps
    subst hlL
    have hDa : ∀ q ∈ AL ++ (BL ++ R), @Ne Nat q.1 da := fun q hq => Nat.ne_of_lt (hltD q (.tail _ (.tail _ hq)))
    have hbdL : iL < 60 := by k_extra "om"
    refine held (wp_up (done_any (R := (da, od) :: (TR, _) :: (IL, oIL) :: (BL ++ R)) (A := AL) (st := stL) (bd := iL) (gd := _) (by k_asm) (by k_asm) (by k_asm) (news_prog (by k_asm)) (by k_asm) (by k_asm) (by k_asm) rfl rfl IA SL hbdL
      (dis3 DA (fun p hp => hDa p (List.mem_append_left _ hp)) (fun p hp => hTr p (List.mem_append_left _ hp)) (fun p hp => hIl p (List.mem_append_left _ hp)))
      (.tail _ (.tail _ (.tail _ (List.mem_append_right _ mW)))) (.tail _ (.tail _ (.tail _ (List.mem_append_right _ mdW)))) hwD (.tail _ (.tail _ (.tail _ (List.mem_append_right _ mS)))) (.tail _ (.tail _ (.tail _ (List.mem_append_right _ mdS)))) (.head _) hdV hFit ?_) rfl (Nat.le_of_ble_eq_true rfl) rfl rfl (Nat.le_of_ble_eq_true rfl))
    intro A2 hA2 tkA2 IA2 DA2 FA2 NA2
    obtain ⟨DA3, hA2d, hA2t, hA2i⟩ := dis3_out DA2
    obtain ⟨lA, hlA⟩ : ∃ l, l = A2 ++ (da, od) :: (TR, W.listOf #[.int pD tqD, .ref CI] 0) :: (IL, oIL) :: (BL ++ R) := ⟨_, rfl⟩
    have sA : ∀ q ∈ R, q ∈ lA := fun q hq => hlA ▸ List.mem_append_right _ (.tail _ (.tail _ (.tail _ (List.mem_append_right _ hq))))
    rw [← hlA] at NA2
    have b1 := sA _ mBK
    have b2 := sA _ mc4
    k_steps
    subst hlA
    refine held (wp_up (let_any (R := (da, od) :: (TR, _) :: (IL, oIL) :: (A2 ++ R)) (Bk := BL) (st := stL) (bd := iL) (gd := _) (by k_asm) (by k_asm) (by k_asm) (news_book (by k_asm)) (by k_asm) rfl rfl IB₀ SL hbdL
      (dis3 (dis_join (dis_symm (dis_split DA3).1) DB) (fun p hp => hDa p (List.mem_append_right _ (List.mem_append_left _ hp))) (fun p hp => hTr p (List.mem_append_right _ (List.mem_append_left _ hp))) (fun p hp => hIl p (List.mem_append_right _ (List.mem_append_left _ hp))))
      (.tail _ (.tail _ (.tail _ (List.mem_append_right _ mBK)))) hBK2 (.head _) hdV hFit ?_) rfl (Nat.le_of_ble_eq_true rfl) rfl rfl (Nat.le_of_ble_eq_true rfl))
    intro B2 hB2 tkB2 IB2 DB2 FB2 NB2
    obtain ⟨DB3, hB2d, hB2t, hB2i⟩ := dis3_out DB2
    have NB3 := news_both NB2
    clear NB2
    have DA4 : Dis A2 (B2 ++ R) := dis_join (dis_symm (dis_split DB3).1) (dis_split DA3).2
    have DB4 : Dis B2 R := (dis_split DB3).2
    have SL2 := sok_step SL hFit
    have hself : (okOf stL dL != okOf stL dL) = false := bne_self_eq_false _
    k_steps
    repeat revert ‹_›
    intro kpA
    exact kpA.go
noncomputable def law_p10 : (kA : Prop) ×' (Keep kA → law_p8.1) := by
  refine' ⟨_, fun kpA => ?g⟩
  case g =>
    delta law_p8
    dsimp (config := { zeta := false, zetaDelta := false, beta := false, eta := false, iota := false }) only
    set_option tactic.hygienic false in intros
    (try clear hB2d); (try clear DB3); (try clear DB2); (try clear b2); (try clear b1); (try clear sA); (try clear NA2); (try clear hA2d); (try clear DA3); (try clear FA2); (try clear DA2); (try clear tkA2); (try clear hA2); (try clear hDa); (try clear NQ1); (try clear hltD); (try clear a5); (try clear a4); (try clear a3); (try clear a2); (try clear a1); (try clear NL9); (try clear sR); (try clear mBU); (try clear FQ1); (try clear hFit); (try clear tkQ1); (try clear hQ1); (try clear hdV); (try clear od); (try clear buoL); (try clear IB₀); (try clear DB); (try clear DA); (try clear SL); (try clear IA); (try clear tqL); (try clear K1); (try clear oT); (try clear ys)
    have hbd2 : iL + 1 < 60 := by k_extra "om"
    have hIT2 : @Ne Nat TR IL := hIT
    have hT2 : ∀ q ∈ A2 ++ (B2 ++ R), @Ne Nat q.1 TR := fun q hq => (List.mem_append.mp hq).elim (hA2t q) fun hq => (List.mem_append.mp hq).elim (hB2t q) fun hq => hTr q (List.mem_append_right _ (List.mem_append_right _ hq))
    have hI2 : ∀ q ∈ A2 ++ (B2 ++ R), @Ne Nat q.1 IL := fun q hq => (List.mem_append.mp hq).elim (hA2i q) fun hq => (List.mem_append.mp hq).elim (hB2i q) fun hq => hIl q (List.mem_append_right _ (List.mem_append_right _ hq))
    obtain ⟨uoA, foA, kvUA, kvFA, pA1, pA2, pA3, pA4, pA5, pA6, pA7, pA8, pA9, pA10⟩ := prog_facts IA2 SL2.lo hbd2
    obtain ⟨uoB, foB, kvUB, kvFB, pB1, pB2, pB3, pB4, pB5, pB6, pB7, pB8, pB9, pB10⟩ := book_facts IB2 SL2.lo hbd2
    have hE1 : kvUA.map (·.1) = kvUB.map (·.1) := pA5.trans pB5.symm
    have hE2 : kvFA.map (·.1) = kvFB.map (·.1) := pA6.trans pB6.symm
    have hwD0 := hwD
    obtain ⟨g0, g1, g2, g3, g4, g5, p0, p1', p2', p3, p4, p5, p6, wi, wj, wk, wn, hwo⟩ := hwD0
    subst hwo
    obtain ⟨lB, hlB⟩ : ∃ l, l = A2 ++ (B2 ++ R) := ⟨_, rfl⟩
    have sAl : ∀ q ∈ A2, q ∈ lB := fun q hq => hlB ▸ List.mem_append_left _ hq
    have sBl : ∀ q ∈ B2, q ∈ lB := fun q hq => hlB ▸ List.mem_append_right _ (List.mem_append_left _ hq)
    have sRl : ∀ q ∈ R, q ∈ lB := fun q hq => hlB ▸ List.mem_append_right _ (List.mem_append_right _ hq)
    have c1 := sAl _ pA1
    have c2 := sAl _ pA2
    have c3 := sBl _ pB1
    have c4 := sBl _ pB2
    have c5 := sRl _ mBK
    have c6 := sRl _ mc4
    have c7 := sRl _ mc3
    have c8 := sRl _ mW
    have c9 := sRl _ mdW
    have c10 := sRl _ mS
    have c11 := sRl _ mdS
    (rename News _ _ _ (_ :: _ :: (A2 ++ (B2 ++ R))) => NB4)
    rw [← hlB] at NB4
    refine held (pass_step (by k_asm) (by k_asm) ?_ ?_)
    · k_steps
      exact held ⟨_, _, rfl, rfl, by k_asm, news_tl4 (by k_asm)⟩
    · intro hQ2 tkQ2 FQ2 NQ2
      k_steps
      repeat revert ‹_›
      intro kpA
      exact kpA.go
noncomputable def law_p11 : (kA : Prop) ×' (kB : Prop) ×' (Keep kA → Keep kB → law_p10.1) := by
  refine' ⟨_, _, fun kpA kpB => ?g⟩
  case g =>
    delta law_p10
    dsimp (config := { zeta := false, zetaDelta := false, beta := false, eta := false, iota := false }) only
    set_option tactic.hygienic false in intros
    (try clear c11); (try clear c10); (try clear c4); (try clear c2); (try clear sRl); (try clear NB4); (try clear mdW); (try clear hwD); (try clear hE2); (try clear pB10); (try clear pB8); (try clear pB6); (try clear pB4); (try clear pB2); (try clear pB1); (try clear foB); (try clear pA10); (try clear pA8); (try clear pA6); (try clear pA4); (try clear pA2); (try clear pA1); (try clear foA); (try clear hIT2); (try clear hself); (try clear hB2i); (try clear hB2t); (try clear FB2); (try clear tkB2); (try clear hB2); (try clear hA2i); (try clear hA2t); (try clear hIl); (try clear hTr); (try clear hff); (try clear BL); (try clear AL); (try clear hiL); (try clear mc3); (try clear mc4); (try clear mdS); (try clear mS); (try clear mW); (try clear mBK); (try clear vR1); (try clear vR0); (try clear nS); (try clear tS); (try clear hhS)
    refine held (pass_step (by k_asm) (by k_asm) ?_ ?_)
    · k_steps
      refine held (LCg.ListComp_U (F₀ := by k_asm) (by with_unfolding_all rfl) (by decide) (by rfl) (by decide) (by rfl) ?_)
      k_steps
      (rename IntsAre _ _ => hIa)
      (rename List.Perm _ _ => hPa)
      (rename List.Pairwise _ _ => hSa)
      rename_i DqA hqA tkqA outA nA nsA FqA NqA lqA
      refine held (LCg.CompSrc.ledger (by rfl) (by k_asm) (by k_asm) (.head _) ?z ?_)
      (case z =>
        have h1 := hIa.length
        have h2 := hPa.length_eq
        rw [List.length_map] at h2
        rw [Array.length_toList] at h1
        rw [PySem.sizeLine_eq]
        k_extra "om")
      intro gq1
      (rename News _ _ _ ((_, W.listOf _ _) :: (IL, oIL) :: _) => NC1)
      obtain ⟨R4, hR4⟩ := news_whole NC1
      rw [← hR4]
      rw [← hR4] at NC1
      repeat revert ‹_›
      intro kpA kpB
      exact kpA.go
    · intro hQ3 tkQ3 FQ3 NQ3
      repeat revert ‹_›
      intro kpA kpB
      exact kpB.go
noncomputable def law_p12 : (kA : Prop) ×' (Keep kA → law_p11.1) := by
  refine' ⟨_, fun kpA => ?g⟩
  case g =>
    delta law_p11
    dsimp (config := { zeta := false, zetaDelta := false, beta := false, eta := false, iota := false }) only
    set_option tactic.hygienic false in intros
    (try clear lqA); (try clear FqA); (try clear hqA); (try clear NQ2); (try clear FQ2); (try clear tkQ2); (try clear hQ2); (try clear hlB); (try clear pA7); (try clear hI2); (try clear hT2); (try clear hbd2); (try clear SL2); (try clear DB4); (try clear DA4); (try clear IB2); (try clear IA2); (try clear hbdL); (try clear pD1); (try clear pD0); (try clear hIT); (try clear hp1); (try clear hp0); (try clear tkL9); (try clear hL9); (try clear R)
    refine compRest_inv (fun i ys news => news = R4 ∧ PyProof.Rows.StrsAre ys ((nsA.take i).map fun k => ((step stL dL).U k).nm)) _ 0 [] _ ?_ ⟨rfl, .nil⟩ ?_
    · rintro iC yC newsC vC IC oIC CC oCC DC mC hC9 tkC9 EC hiC hPC ⟨hnw, hSC⟩ hNC hxC FC NC offC neC
      rw [hnw] at NC offC
      obtain ⟨nC, tC, rfl, hnC⟩ := ints_at hIa hPC
      have hkC : nC ∈ (step stL dL).ks := pA5 ▸ hPa.mem_iff.mp (List.mem_of_getElem? hnC)
      obtain ⟨ua, uda, od2, fa, fda, fod, ra, rn, u1, u2, u3, ⟨x0, x1, x2, x3, y0, y1, y2, y3, y4, y5, y6, y7, rfl⟩, u5, u6, ⟨z0, z1, z2, z3, z4, z5, v0, v1', v2, v3, v4, v5, v6, v7, v8, v9, na, nn, rfl⟩, u8⟩ := pA9 nC hkC
      have d2 := sAl _ u2
      have d3 := sAl _ u3
      have d5 := sAl _ u5
      have d6 := sAl _ u6
      have hsrc : (DqA, W.listOf outA nA) ∈ R4 := hR4 ▸ .head _
      rw [hR4] at NC
      k_steps
      refine held (LCg.CompEnd.intro (by k_asm) (by k_asm) R4 (fun p hp => by rw [hR4] at hp; exact hp) offC (.inr ⟨_, hsrc, rfl, _, rfl⟩) (mark ⟨rfl, ?_⟩))
      rw [List.take_add_one, hnC, List.map_append]
      exact PyProof.Rows.StrsAre.append' hSC (.cons _ _ .nil)
    · rintro zA newsC ⟨hnw, hzA⟩
      have hszA : outA.size = nsA.length := by
        have := hIa.length
        rwa [Array.length_toList] at this
      rw [Nat.zero_add, hszA, List.take_length] at hzA
      rw [hnw, hR4]
      k_steps
      repeat revert ‹_›
      intro kpA
      exact kpA.go
theorem law_g14 : law_p12.1 := (by exact kept : Kept _ (by
  delta law_p12
  dsimp (config := { zeta := false, zetaDelta := false, beta := false, eta := false, iota := false }) only
  set_option tactic.hygienic false in intros
  (try clear hszA); (try clear hnw); (try clear newsC); (try clear hR4); (try clear NC1); (try clear R4); (try clear gq1); (try clear hIa); (try clear tkqA); (try clear c9); (try clear c8); (try clear c7); (try clear c1); (try clear sAl); (try clear wn); (try clear wk); (try clear wj); (try clear wi); (try clear p6); (try clear p5); (try clear p4); (try clear p3); (try clear p2'); (try clear p1'); (try clear p0); (try clear g5); (try clear g4); (try clear g3); (try clear g2); (try clear g1); (try clear g0); (try clear pA9); (try clear pA5); (try clear pA3); (try clear uoA); (try clear A2); (try clear dWc); (try clear oWc)
  refine held (LCg.ListComp_U (F₀ := by k_asm) (by with_unfolding_all rfl) (by decide) (by rfl) (by decide) (by rfl) ?_)
  k_steps
  (rename IntsAre _ _ => hIb)
  (rename List.Perm _ _ => hPb)
  (rename List.Pairwise _ _ => hSb)
  rename_i DqB hqB tkqB outB nB nsB FqB NqB lqB
  refine held (LCg.CompSrc.ledger (by rfl) (by k_asm) (by k_asm) (.head _) ?z ?_)
  (case z =>
    have h1 := hIb.length
    have h2 := hPb.length_eq
    rw [List.length_map] at h2
    rw [Array.length_toList] at h1
    rw [PySem.sizeLine_eq]
    k_extra "om")
  intro gq2
  (rename News _ _ _ ((DqB, W.listOf _ _) :: _) => NC2)
  obtain ⟨R5, hR5⟩ := news_whole NC2
  rw [← hR5]
  rw [← hR5] at NC2
  refine compRest_inv (fun i ys news => news = R5 ∧ PyProof.Rows.StrsAre ys ((nsB.take i).map fun k => ((step stL dL).U k).nm)) _ 0 [] _ ?_ ⟨rfl, .nil⟩ ?_
  · rintro iC yC newsC vC IC oIC CC oCC DC mC hC9 tkC9 EC hiC hPC ⟨hnw, hSC⟩ hNC hxC FC NC offC neC
    rw [hnw] at NC offC
    obtain ⟨nC, tC, rfl, hnC⟩ := ints_at hIb hPC
    have hkC : nC ∈ (step stL dL).ks := pB5 ▸ hPb.mem_iff.mp (List.mem_of_getElem? hnC)
    obtain ⟨rw1, ow1, y0, y1, y2, u1, u2⟩ := pB9 nC hkC
    have d2 := sBl _ u2
    have hsrc : (DqB, W.listOf outB nB) ∈ R5 := hR5 ▸ .head _
    rw [hR5] at NC
    k_steps
    refine held (LCg.CompEnd.intro (by k_asm) (by k_asm) R5 (fun p hp => by rw [hR5] at hp; exact hp) offC (.inr ⟨_, hsrc, rfl, _, rfl⟩) (mark ⟨rfl, ?_⟩))
    rw [List.take_add_one, hnC, List.map_append]
    exact PyProof.Rows.StrsAre.append' hSC (.cons _ _ .nil)
  · rintro zB newsC ⟨hnw, hzB⟩
    have hszB : outB.size = nsB.length := by
      have := hIb.length
      rwa [Array.length_toList] at this
    rw [Nat.zero_add, hszB, List.take_length] at hzB
    rw [hnw, hR5]
    have hEns : nsA = nsB := sorted_ints_eq (hPa.trans ((hE1 ▸ hPb).symm)) hSa hSb
    k_steps
    refine held (ne_strs_same (News.isList (by k_asm) (by k_mem)) hzA (News.isList (by k_asm) (by k_mem)) hzB (by rw [hEns]) (Nat.le_of_ble_eq_true rfl) ?_)
    k_steps
    exact held ⟨_, _, rfl, rfl, by k_asm, news_tl4 (by k_asm)⟩))
theorem law_g12 : law_p11.1 := law_p12.2 ⟨law_g14⟩
theorem law_g13 : law_p11.2.1 := (by exact kept : Kept _ (by
  delta law_p11
  dsimp (config := { zeta := false, zetaDelta := false, beta := false, eta := false, iota := false }) only
  set_option tactic.hygienic false in intros
  (try clear NQ2); (try clear FQ2); (try clear tkQ2); (try clear hQ2); (try clear c9); (try clear c8); (try clear c7); (try clear c6); (try clear c5); (try clear c3); (try clear c1); (try clear sBl); (try clear sAl); (try clear wn); (try clear wk); (try clear wj); (try clear wi); (try clear p6); (try clear p5); (try clear p4); (try clear p3); (try clear p2'); (try clear p1'); (try clear p0); (try clear g5); (try clear g4); (try clear g3); (try clear g2); (try clear g1); (try clear g0); (try clear hE1); (try clear pB9); (try clear pB7); (try clear pB5); (try clear pB3); (try clear uoB); (try clear pA9); (try clear pA7); (try clear pA5); (try clear pA3); (try clear uoA); (try clear hfb); (try clear hBK2); (try clear dBc); (try clear oBc); (try clear oBK); (try clear dWc); (try clear oWc); (try clear T); (try clear KX); (try clear mb); (try clear mg)
  k_steps
  (rename News _ _ _ ((IL, oIL) :: _) => NT)
  rw [hlB] at NT
  refine ⟨_, _, _, (TR, W.listOf #[.int pD tqD, .ref CI] 0) :: (A2 ++ (B2 ++ R)), rfl, by k_asm, fun z h1 h2 => by (first | exact off2 h1 h2 | (dsimp only; rw [if_neg h2, if_neg h1]; done) | (dsimp only; rw [if_neg h2]; exact off2 h1 h2)), NT, fun q hq => ?_, ⟨pD, tqD, A2, B2, step stL dL, rfl, IA2, IB2, SL2, DA4, DB4, hT2, by k_extra "om", by push_cast; k_extra "om"⟩⟩
  rcases List.mem_cons.mp hq with rfl | hq
  · exact hIT
  · exact hI2 q hq))
theorem law_g11 : law_p10.1 := law_p11.2.2 ⟨law_g12⟩ ⟨law_g13⟩
theorem law_g10 : law_p8.1 := law_p10.2 ⟨law_g11⟩
theorem law_g8 : law_p6.1 := law_p8.2 ⟨law_g10⟩
theorem law_g9 : law_p6.2.1 := (by exact kept : Kept _ (by
  delta law_p6
  dsimp (config := { zeta := false, zetaDelta := false, beta := false, eta := false, iota := false }) only
  set_option tactic.hygienic false in intros
  (try clear hltD); (try clear hdV); (try clear tkDL); (try clear hDL); (try clear dL); (try clear hff); (try clear hfb); (try clear a5); (try clear a4); (try clear a3); (try clear a2); (try clear a1); (try clear NL9); (try clear sR); (try clear mBU); (try clear hkuB); (try clear huB); (try clear IBx); (try clear adL); (try clear kvBFL); (try clear kvBL); (try clear bfoL); (try clear buoL); (try clear FL9); (try clear hIL); (try clear tqL); (try clear hiL); (try clear hCT); (try clear mc1); (try clear mc3); (try clear mc4); (try clear mCI); (try clear mdS); (try clear mS); (try clear mdW); (try clear mW); (try clear mBK); (try clear hBK2); (try clear vR1); (try clear vR0); (try clear dBc); (try clear oBc); (try clear oBK); (try clear dWc); (try clear oWc); (try clear hwD); (try clear woW); (try clear nS); (try clear tS); (try clear hhS); (try clear K1); (try clear hnl); (try clear hI0); (try clear dT); (try clear oT); (try clear ys); (try clear w_5); (try clear T); (try clear KX); (try clear mb); (try clear mg); (try clear s₀)
  k_steps
  (rename News _ _ _ ((da, od) :: _) => NT)
  rw [hlL] at NT hTr hIl
  refine ⟨_, _, _, (TR, W.listOf #[.int pD tqD, .ref CI] 0) :: (AL ++ (BL ++ R)), rfl, by k_asm, fun z h1 h2 => by (first | exact off2 h1 h2 | (dsimp only; rw [if_neg h2, if_neg h1]; done) | (dsimp only; rw [if_neg h2]; exact off2 h1 h2)), news_swap (news_tl NT), fun q hq => ?_, ⟨pD, tqD, AL, BL, stL, rfl, IA, IB₀, sok_up SL, DA, DB, hTr, by k_extra "om", by push_cast; k_extra "om"⟩⟩
  rcases List.mem_cons.mp hq with rfl | hq
  · exact hIT
  · exact hIl q hq))
theorem law_g6 : law_p5.1 := law_p6.2.2 ⟨law_g8⟩ ⟨law_g9⟩
noncomputable def law_p7 : (kA : Prop) ×' (kB : Prop) ×' (Keep kA → Keep kB → law_p5.2.1) := by
  refine' ⟨_, _, fun kpA kpB => ?g⟩
  case g =>
    delta law_p5
    dsimp (config := { zeta := false, zetaDelta := false, beta := false, eta := false, iota := false }) only
    set_option tactic.hygienic false in intros
    (try clear hp0); (try clear hTr); (try clear DB); (try clear hCT); (try clear nBB); (try clear nAB); (try clear mc1); (try clear mCI); (try clear hTR); (try clear D2); (try clear D1); (try clear Nl); (try clear hkR); (try clear FzR); (try clear hrR); (try clear t3); (try clear t2); (try clear t1); (try clear tkz); (try clear FR); (try clear tkR); (try clear tvR); (try clear FBc); (try clear hBK); (try clear hq3); (try clear lq0); (try clear fiU); (try clear hiU); (try clear fsU); (try clear hsU); (try clear lo1); (try clear hq4); (try clear lq1); (try clear fiF); (try clear hiF); (try clear fsF); (try clear hsF); (try clear lo2); (try clear hq5); (try clear lq2); (try clear hdq1); (try clear lo3); (try clear oq4); (try clear hq6); (try clear hq7); (try clear lW1); (try clear lW3); (try clear lW2); (try clear hoW); (try clear tkW); (try clear hW'); (try clear lS1); (try clear lS3); (try clear lS2); (try clear hoS); (try clear tkS); (try clear hS'); (try clear tkd2); (try clear hd2); (try clear Yt); (try clear hzl); (try clear hxl); (try clear p2); (try clear p1); (try clear v11); (try clear v10); (try clear hnl); (try clear hI0); (try clear dT); (try clear lTR); (try clear oC1); (try clear ws'); (try clear left_1); (try clear left); (try clear w_12); (try clear w_11); (try clear hcond'_1)
    have hn9 : (1 + vR).toNat ≤ 9 := by k_extra "om"
    have SL9 := sok_le SL hn9
    have NT := news_tl NL9
    obtain ⟨RB, hRB⟩ : ∃ RB, RB = BL ++ R := ⟨_, rfl⟩
    rw [← hRB] at NT DA
    clear NL9
    have sRB : ∀ q ∈ R, q ∈ RB := fun q hq => hRB ▸ List.mem_append_right _ hq
    obtain ⟨uoB, foB, kvUB, kvFB, pB1, pB2, pB3, pB4, pB5, pB6, pB7, pB8, pB9, pB10⟩ := book_facts IB SL9.lo (by k_extra "om")
    have sBB : ∀ q ∈ BL, q ∈ RB := fun q hq => hRB ▸ List.mem_append_left _ hq
    have hfb : valueAt [(Str.ofString "files", Value.ref BF), (Str.ofString "units", Value.ref BU)] (Str.ofString "units") = some (.ref BU) := by
      have : Str.ofString "files" ≠ Str.ofString "units" := by decide +kernel
      simp [valueAt, this]
    have hff : valueAt [(Str.ofString "files", Value.ref BF), (Str.ofString "units", Value.ref BU)] (Str.ofString "files") = some (.ref BF) := by
      simp [valueAt]
    have hwD0 := hwD
    obtain ⟨g0, g1, g2, g3, g4, g5, p0, p1', p2', p3, p4, p5, p6, wi, wj, wk, wn, hwo⟩ := hwD0
    subst hwo
    obtain ⟨lR, hlR⟩ : ∃ l, l = AL ++ RB := ⟨_, rfl⟩
    rw [← hlR] at NT
    k_steps
    (rename IsRange _ _ 0 2 1 _ _ _ => hr2R)
    subst hlR
    refine loop_range (y := Str.ofString "turn") (n := 2) (fun i nx => CloseJ _ uW fS RB stL (decide (0 < i)) nx) rfl (by k_asm) (by k_asm) hr2R rfl rfl ⟨AL, stL, rfl, IA, DA, SL9.lo, rfl, rfl, fun h => by cases h⟩ ?_ ?_
    · rintro iM tM uM nxM IM oIM hM9 tkM9 hiM ⟨AM, stM, rfl, IMA, DM, SM, eM1, eM2, -⟩ hIM FM9 NM9
      repeat revert ‹_›
      intro kpA kpB
      exact kpA.go
    · rintro uM nxM hM9 tkM9 ⟨AM, stM, rfl, IMA, DM, SM, eM1, eM2, eM3⟩ FM9 NM9
      repeat revert ‹_›
      intro kpA kpB
      exact kpB.go
noncomputable def law_p20 : (kA : Prop) ×' (kB : Prop) ×' (Keep kA → Keep kB → law_p7.1) := by
  refine' ⟨_, _, fun kpA kpB => ?g⟩
  case g =>
    delta law_p7
    dsimp (config := { zeta := false, zetaDelta := false, beta := false, eta := false, iota := false }) only
    set_option tactic.hygienic false in intros
    (try clear hiM); (try clear hr2R); (try clear NzR); (try clear NR); (try clear NBc); (try clear hfb); (try clear pB9); (try clear pB7); (try clear pB5); (try clear pB3); (try clear hRB); (try clear DA); (try clear SL9); (try clear hn9); (try clear FL9); (try clear hp1); (try clear SL); (try clear IB); (try clear IA); (try clear AL); (try clear tqL); (try clear tkL9); (try clear hL9); (try clear hqz); (try clear vR1); (try clear vR0); (try clear hq1); (try clear tqR); (try clear hq2); (try clear oBU); (try clear oBF); (try clear uoW); (try clear foS); (try clear oT); (try clear ys); (try clear hg)
    have hIM1 : ∀ q ∈ AM ++ RB, @Ne Nat q.1 IM := hIM
    obtain ⟨lM, hlM⟩ : ∃ l, l = AM ++ RB := ⟨_, rfl⟩
    have sM : ∀ q ∈ RB, q ∈ lM := fun q hq => hlM ▸ List.mem_append_right _ hq
    rw [← hlM] at NM9
    have e1 := sM _ (sRB _ mc3)
    have e2 := sM _ (sRB _ mc4)
    k_steps
    subst hlM
    refine held (wp_up (close_all_any (R := (IM, oIM) :: RB) (A := AM) (st := stM) (bd := 9) (gd := _) (by k_asm) (by k_asm) (by k_asm) (news_in1 (by k_asm)) (by k_asm) rfl rfl IMA SM (by k_extra "om") (dis1 DM (fun p hp => hIM1 p (List.mem_append_left _ hp))) (.tail _ (sRB _ mW)) (.tail _ (sRB _ mdW)) hwD (.tail _ (sRB _ mS)) (.tail _ (sRB _ mdS)) ?_) rfl (Nat.le_of_ble_eq_true rfl) rfl rfl (Nat.le_of_ble_eq_true rfl))
    intro AN hN tkN INA DN FN NN
    have NN2 := news_out1 NN
    clear NN
    have SN : SLo { stM with ks := [] } 9 := ⟨Nat.zero_le _, SM.bn, fun k hk => absurd hk List.not_mem_nil, fun k hk => absurd hk List.not_mem_nil⟩
    obtain ⟨uoA, foA, kvUA, kvFA, pA1, pA2, pA3, pA4, pA5, pA6, pA7, pA8, pA9, pA10⟩ := prog_facts INA SN (by k_extra "om")
    have hnil : kvUA = [] := nil_of_keys pA5 rfl
    subst hnil
    have hE2 : kvFA.map (·.1) = kvFB.map (·.1) := pA6.trans (eM1.trans pB6.symm)
    obtain ⟨lN, hlN⟩ : ∃ l, l = AN ++ RB := ⟨_, rfl⟩
    have sAN : ∀ q ∈ AN, q ∈ lN := fun q hq => hlN ▸ List.mem_append_left _ hq
    have sRN : ∀ q ∈ RB, q ∈ lN := fun q hq => hlN ▸ List.mem_append_right _ hq
    rw [← hlN] at NN2
    have c1 := sAN _ pA1
    have c2 := sAN _ pA2
    have c3 := sRN _ (sBB _ pB1)
    have c4 := sRN _ (sBB _ pB2)
    have c5 := sRN _ (sRB _ mBK)
    have c6 := sRN _ (sRB _ mc4)
    have c7 := sRN _ (sRB _ mc3)
    have c8 := sRN _ (sRB _ mW)
    have c9 := sRN _ (sRB _ mdW)
    have c10 := sRN _ (sRB _ mS)
    have c11 := sRN _ (sRB _ mdS)
    k_steps
    refine held (pass_step (by k_asm) (by k_asm) ?_ ?_)
    · k_steps
      repeat revert ‹_›
      intro kpA kpB
      exact kpA.go
    · intro hQ2 tkQ2 FQ2 NQ2
      k_steps
      repeat revert ‹_›
      intro kpA kpB
      exact kpB.go
theorem law_g22 : law_p20.1 := (by exact kept : Kept _ (by
  delta law_p20
  dsimp (config := { zeta := false, zetaDelta := false, beta := false, eta := false, iota := false }) only
  set_option tactic.hygienic false in intros
  (try clear fs'); (try clear hs'); (try clear c3); (try clear sRN); (try clear sAN); (try clear hlN); (try clear pA9); (try clear pA7); (try clear pA5); (try clear pA10); (try clear pA6); (try clear pA2); (try clear pA1); (try clear SN); (try clear DN); (try clear INA); (try clear hN); (try clear AN); (try clear e2); (try clear e1); (try clear sM); (try clear NM9); (try clear hIM1); (try clear FM9); (try clear hIM); (try clear eM2); (try clear eM1); (try clear SM); (try clear DM); (try clear IMA); (try clear stM); (try clear AM); (try clear tkM9); (try clear hM9); (try clear mdW); (try clear hwD); (try clear sBB); (try clear pB10); (try clear pB6); (try clear pB2); (try clear pB1); (try clear kvUB); (try clear uoB); (try clear sRB); (try clear RB); (try clear stL); (try clear BL); (try clear pL); (try clear mc3); (try clear mc4); (try clear mdS); (try clear mS); (try clear mW); (try clear mBK); (try clear R); (try clear vR); (try clear K1); (try clear us); (try clear xs); (try clear p); (try clear zs); (try clear v1); (try clear ns0); (try clear TR); (try clear CI)
  refine held (kne_pairs (knd := PySem.intKind _ _) (r := true) (by k_asm) (.tail _ (.tail _ c1)) (.head _) pA3 (by assumption) (lo_of (by k_asm) (by k_asm) (.tail _ (.tail _ c1))) (by assumption) rfl (Nat.le_of_ble_eq_true rfl) KeqHits.nil ?_)
  k_steps
  exact held ⟨_, _, rfl, rfl, by k_asm, news_tl (news_tl (news_tl (by k_asm)))⟩))
noncomputable def law_p23 : (kA : Prop) ×' (kB : Prop) ×' (Keep kA → Keep kB → law_p20.2.1) := by
  refine' ⟨_, _, fun kpA kpB => ?g⟩
  case g =>
    delta law_p20
    dsimp (config := { zeta := false, zetaDelta := false, beta := false, eta := false, iota := false }) only
    set_option tactic.hygienic false in intros
    (try clear c3); (try clear c1); (try clear NN2); (try clear hE2); (try clear pA9); (try clear pA7); (try clear pA5); (try clear pA3); (try clear pA8); (try clear pA6); (try clear pA2); (try clear pA1); (try clear uoA); (try clear FN); (try clear tkN); (try clear hN); (try clear e2); (try clear e1); (try clear sM); (try clear NM9); (try clear FM9); (try clear hIM); (try clear SM); (try clear DM); (try clear IMA); (try clear mdW); (try clear hwD); (try clear pB2); (try clear pB1); (try clear uoB); (try clear sRB); (try clear mc3); (try clear mc4); (try clear mdS); (try clear mS); (try clear mW); (try clear mBK); (try clear R); (try clear K1)
    refine held (pass_step (by k_asm) (by k_asm) ?_ ?_)
    · k_steps
      refine held (LCg.ListComp_U (F₀ := by k_asm) (by with_unfolding_all rfl) (by decide) (by rfl) (by decide) (by rfl) ?_)
      k_steps
      (rename PyProof.Rows.StrsAre _ _ => hIa)
      (rename List.Perm _ _ => hPa)
      (rename sortedS _ = true => hSa)
      rename_i DqA hqA tkqA outA nA nsA FqA NqA lqA
      have hszA : outA.size = nsA.length := by
        have := strs_len hIa
        rwa [Array.length_toList] at this
      refine held (LCg.CompSrc.ledger (by rfl) (by k_asm) (by k_asm) (.head _) ?z ?_)
      (case z =>
        have h2 := hPa.length_eq
        rw [List.length_map] at h2
        rw [PySem.sizeLine_eq]
        k_extra "om")
      intro gq1
      (rename News _ _ _ ((_, W.listOf _ _) :: (IM, oIM) :: _) => NC1)
      obtain ⟨R4, hR4⟩ := news_whole NC1
      rw [← hR4]
      rw [← hR4] at NC1
      refine compRest_inv (fun i ys news => news = R4 ∧ RecsAt lN stL.F nsA i ys) _ 0 [] _ ?_ ⟨rfl, recs_zero _ _ _⟩ ?_
      · rintro iC yC newsC vC IC oIC CC oCC DC mC hC9 tkC9 EC hiC hPC ⟨hnw, hSC⟩ hNC hxC FC NC offC neC
        rw [hnw] at NC offC
        obtain ⟨xC, tC, rfl, hnC⟩ := strs_at' hIa hPC
        have hkC : xC ∈ stM.ns := eM1 ▸ (pB6 ▸ hPa.mem_iff.mp (List.mem_of_getElem? hnC))
        obtain ⟨ga, gd, fod, ra, rn, u1, u2, u3, ⟨z0, z1, z2, z3, z4, z5, v0, v1', v2, v3, v4, v5, v6, v7, v8, v9, na, nn, rfl⟩, u8⟩ := pA10 xC hkC
        have d2 := sAN _ u2
        have d3 := sAN _ u3
        have d8 := sAN _ u8
        have hsrc : (DqA, W.listOf outA nA) ∈ R4 := hR4 ▸ .head _
        rw [hR4] at NC
        k_steps
        exact held (LCg.CompEnd.intro (by k_asm) (by k_asm) R4 (fun p hp => by rw [hR4] at hp; exact hp) offC (.inr ⟨_, hsrc, rfl, _, rfl⟩) (mark ⟨rfl, recs_snoc hSC hnC (eM2 ▸ d8)⟩))
      · rintro zA newsC ⟨hnw, hzA⟩
        rw [Nat.zero_add, hszA] at hzA
        rw [hnw, hR4]
        k_steps
        repeat revert ‹_›
        intro kpA kpB
        exact kpA.go
    · intro hQ3 tkQ3 FQ3 NQ3
      repeat revert ‹_›
      intro kpA kpB
      exact kpB.go
theorem law_g24 : law_p23.1 := (by exact kept : Kept _ (by
  delta law_p23
  dsimp (config := { zeta := false, zetaDelta := false, beta := false, eta := false, iota := false }) only
  set_option tactic.hygienic false in intros
  (try clear hnw); (try clear newsC); (try clear hR4); (try clear NC1); (try clear R4); (try clear gq1); (try clear hszA); (try clear hIa); (try clear lqA); (try clear FqA); (try clear tkqA); (try clear hqA); (try clear NQ2); (try clear FQ2); (try clear tkQ2); (try clear hQ2); (try clear c11); (try clear c10); (try clear c9); (try clear c8); (try clear c7); (try clear c2); (try clear sAN); (try clear hlN); (try clear pA10); (try clear pA4); (try clear foA); (try clear SN); (try clear DN); (try clear INA); (try clear AN); (try clear hIM1); (try clear eM2); (try clear eM1); (try clear stM); (try clear AM); (try clear tkM9); (try clear hM9); (try clear wn); (try clear wk); (try clear wj); (try clear wi); (try clear p6); (try clear p5); (try clear p4); (try clear p3); (try clear p2'); (try clear p1'); (try clear p0); (try clear g5); (try clear g4); (try clear g3); (try clear g2); (try clear g1); (try clear g0); (try clear dWc); (try clear oWc); (try clear nS); (try clear tS); (try clear hhS)
  refine held (LCg.ListComp_U (F₀ := by k_asm) (by with_unfolding_all rfl) (by decide) (by rfl) (by decide) (by rfl) ?_)
  k_steps
  (rename PyProof.Rows.StrsAre _ _ => hIb)
  (rename List.Perm _ _ => hPb)
  (rename sortedS _ = true => hSb)
  rename_i DqB hqB tkqB outB nB nsB FqB NqB lqB
  have hszB : outB.size = nsB.length := by
    have := strs_len hIb
    rwa [Array.length_toList] at this
  refine held (LCg.CompSrc.ledger (by rfl) (by k_asm) (by k_asm) (.head _) ?z ?_)
  (case z =>
    have h2 := hPb.length_eq
    rw [List.length_map] at h2
    rw [PySem.sizeLine_eq]
    k_extra "om")
  intro gq2
  (rename News _ _ _ ((DqB, W.listOf _ _) :: _) => NC2)
  obtain ⟨R5, hR5⟩ := news_whole NC2
  rw [← hR5]
  rw [← hR5] at NC2
  refine compRest_inv (fun i ys news => news = R5 ∧ RecsAt lN stL.F nsB i ys) _ 0 [] _ ?_ ⟨rfl, recs_zero _ _ _⟩ ?_
  · rintro iC yC newsC vC IC oIC CC oCC DC mC hC9 tkC9 EC hiC hPC ⟨hnw2, hSC⟩ hNC hxC FC NC offC neC
    rw [hnw2] at NC offC
    obtain ⟨xC, tC, rfl, hnC⟩ := strs_at' hIb hPC
    have hkC : xC ∈ stL.ns := pB6 ▸ hPb.mem_iff.mp (List.mem_of_getElem? hnC)
    obtain ⟨ha1, na1, u1, u2⟩ := pB10 xC hkC
    have d2 := sRN _ (sBB _ u2)
    have hsrc : (DqB, W.listOf outB nB) ∈ R5 := hR5 ▸ .head _
    rw [hR5] at NC
    k_steps
    exact held (LCg.CompEnd.intro (by k_asm) (by k_asm) R5 (fun p hp => by rw [hR5] at hp; exact hp) offC (.inr ⟨_, hsrc, rfl, _, rfl⟩) (mark ⟨rfl, recs_snoc hSC hnC d2⟩))
  · rintro zB newsC ⟨hnw2, hzB⟩
    rw [Nat.zero_add, hszB] at hzB
    rw [hnw2, hR5]
    have hEns : nsA = nsB := sorted_strs_eq (hPa.trans hPb.symm) hSa hSb
    rw [← hEns] at hzB
    k_steps
    refine held (ne_recs (l := lN) (by k_asm) (News.isList (by k_asm) (by k_mem)) (News.isList (by k_asm) (by k_mem)) hzA hzB (fun p hp => by k_mem) (Nat.le_of_ble_eq_true rfl) (Nat.le_of_ble_eq_true rfl) ?_)
    k_steps
    exact held ⟨_, _, rfl, rfl, by k_asm, news_tl4 (by k_asm)⟩))
theorem law_g25 : law_p23.2.1 := (by exact kept : Kept _ (by
  delta law_p23
  dsimp (config := { zeta := false, zetaDelta := false, beta := false, eta := false, iota := false }) only
  set_option tactic.hygienic false in intros
  (try clear NQ2); (try clear FQ2); (try clear tkQ2); (try clear hQ2); (try clear c11); (try clear c10); (try clear c9); (try clear c8); (try clear c7); (try clear c6); (try clear c5); (try clear c4); (try clear c2); (try clear sRN); (try clear sAN); (try clear pA10); (try clear pA4); (try clear kvFA); (try clear foA); (try clear wn); (try clear wk); (try clear wj); (try clear wi); (try clear p6); (try clear p5); (try clear p4); (try clear p3); (try clear p2'); (try clear p1'); (try clear p0); (try clear g5); (try clear g4); (try clear g3); (try clear g2); (try clear g1); (try clear g0); (try clear hff); (try clear sBB); (try clear pB10); (try clear pB8); (try clear pB6); (try clear pB4); (try clear kvFB); (try clear kvUB); (try clear foB); (try clear BL); (try clear pL); (try clear hBK2); (try clear vR); (try clear dBc); (try clear oBc); (try clear oBK); (try clear BU); (try clear BF); (try clear BK); (try clear dWc); (try clear oWc); (try clear dW); (try clear xW); (try clear nS); (try clear tS); (try clear hhS); (try clear dS); (try clear xS); (try clear us); (try clear xs); (try clear p); (try clear zs); (try clear v1); (try clear ns0); (try clear TR); (try clear CI); (try clear T); (try clear KX); (try clear mb); (try clear mg)
  k_steps
  (rename News _ _ _ ((IM, oIM) :: lN) => NT2)
  rw [hlN] at NT2
  refine ⟨_, _, _, AN ++ RB, rfl, by k_asm, fun z h1 h2 => by (first | exact off2 h1 h2 | (dsimp only; rw [if_neg h2, if_neg h1]; done) | (dsimp only; rw [if_neg h2]; exact off2 h1 h2)), NT2, fun q hq => ?_, ⟨AN, { stM with ks := [] }, rfl, INA, (fun p hp q hq => DN p hp q (.tail _ hq)), SN, eM1, eM2, fun _ => rfl⟩⟩
  rcases List.mem_append.mp hq with hq | hq
  · exact DN q hq _ (.head _)
  · exact hIM1 q (List.mem_append_right _ hq)))
theorem law_g23 : law_p20.2.1 := law_p23.2.2 ⟨law_g24⟩ ⟨law_g25⟩
theorem law_g20 : law_p7.1 := law_p20.2.2 ⟨law_g22⟩ ⟨law_g23⟩
noncomputable def law_p21 : (kA : Prop) ×' (kB : Prop) ×' (Keep kA → Keep kB → law_p7.2.1) := by
  refine' ⟨_, _, fun kpA kpB => ?g⟩
  case g =>
    delta law_p7
    dsimp (config := { zeta := false, zetaDelta := false, beta := false, eta := false, iota := false }) only
    set_option tactic.hygienic false in intros
    (try clear hr2R); (try clear NzR); (try clear NR); (try clear NBc); (try clear hfb); (try clear pB9); (try clear pB8); (try clear pB7); (try clear pB5); (try clear pB3); (try clear hRB); (try clear DA); (try clear hn9); (try clear FL9); (try clear hp1); (try clear SL); (try clear IB); (try clear IA); (try clear AL); (try clear tqL); (try clear tkL9); (try clear hL9); (try clear hqz); (try clear vR1); (try clear vR0); (try clear hq1); (try clear tqR); (try clear hq2); (try clear oBU); (try clear oBF); (try clear uoW); (try clear foS); (try clear oT); (try clear ys)
    have hks : stM.ks = [] := eM3 rfl
    obtain ⟨lM, hlM⟩ : ∃ l, l = AM ++ RB := ⟨_, rfl⟩
    rw [← hlM] at NM9
    k_steps
    rename_i D5 h5 F5 N5 l5
    refine loop_list (y := Str.ofString "is_there") (fun i nx => CloseJ _ uW fS RB stL true nx ∧ ∀ p ∈ nx, @Ne Nat p.1 D5) rfl (by k_asm) (by k_asm) ⟨⟨AM, stM, hlM, IMA, DM, SM, eM1, eM2, fun _ => hks⟩, fun p hp => Nat.ne_of_lt (l5 p hp)⟩ ?_ ?_
    · rintro iV vV uV nxV IV oIV hV9 tkV9 hvV ⟨⟨AV, stV, rfl, IVA, DV, SV, eV1, eV2, eV3⟩, hD5⟩ hIV hlV FV9 NV9
      repeat revert ‹_›
      intro kpA kpB
      exact kpA.go
    · rintro uV nxV hV9 tkV9 ⟨⟨AV, stV, rfl, IVA, DV, SV, eV1, eV2, eV3⟩, hD5⟩ FV9 NV9
      repeat revert ‹_›
      intro kpA kpB
      exact kpB.go
noncomputable def law_p30 : (kA : Prop) ×' (Keep kA → law_p21.1) := by
  refine' ⟨_, fun kpA => ?g⟩
  case g =>
    delta law_p21
    dsimp (config := { zeta := false, zetaDelta := false, beta := false, eta := false, iota := false }) only
    set_option tactic.hygienic false in intros
    obtain ⟨xV, tV, rfl, hFv⟩ := five_of hvV
    have hksV := eV3 rfl
    have SV9 : SOk stV 9 := sok_nil SL9 hksV eV1 eV2
    have hIV1 : ∀ q ∈ AV ++ RB, @Ne Nat q.1 IV := hIV
    obtain ⟨lV, hlV2⟩ : ∃ l, l = AV ++ RB := ⟨_, rfl⟩
    have sV : ∀ q ∈ RB, q ∈ lV := fun q hq => hlV2 ▸ List.mem_append_right _ hq
    rw [← hlV2] at NV9
    have e1 := sV _ (sRB _ mc3)
    have e2 := sV _ (sRB _ mc4)
    have hlt : ∀ q ∈ lV, @Ne Nat q.1 hV9.objs.size := fun q hq => Nat.ne_of_lt (Heap.lt_size (NV9 q (.tail _ (.tail _ hq))).1)
    (try dsimp only at FV9)
    k_steps
    repeat revert ‹_›
    intro kpA
    exact kpA.go
noncomputable def law_p32 : (kA : Prop) ×' (kB : Prop) ×' (Keep kA → Keep kB → law_p30.1) := by
  refine' ⟨_, _, fun kpA kpB => ?g⟩
  case g =>
    delta law_p30
    dsimp (config := { zeta := false, zetaDelta := false, beta := false, eta := false, iota := false }) only
    set_option tactic.hygienic false in intros
    rw [hlV2] at hlt
    subst hlV2
    have hdV : ∀ (wt nt tt : Tok), DeedV { cls := Value.type "tuple", data := Data.seq #[Value.str (Str.ofString "open") wt, Value.int 1 nt, Value.str (Str.ofString "OLD") tt, Value.str xV tV] } (.opn 1 (Str.ofString "OLD") (some xV)) :=
      fun wt nt tt => ⟨by decide, by decide, .inr (.inr (.inl rfl)), wt, nt, tt, _, .inr ⟨xV, tV, rfl, rfl, hFv⟩, rfl⟩
    have hFit : Fits stV (.opn 1 (Str.ofString "OLD") (some xV)) := ⟨by decide, by decide, .inr (.inr (.inl rfl)), fun x e => by cases e; exact hFv⟩
    refine held (wp_up (done_any (R := (hV9.objs.size, _) :: (IV, oIV) :: (D5, _) :: RB) (A := AV) (st := stV) (bd := 9) (d := .opn 1 (Str.ofString "OLD") (some xV)) (gd := _) (by k_asm) (by k_asm) (by k_asm) (news_in3 (by k_asm)) (by k_asm) (by k_asm) (by k_asm) rfl rfl IVA SV9 (by k_extra "om")
      (dis3 DV (fun p hp => hlt p (List.mem_append_left _ hp)) (fun p hp => hIV1 p (List.mem_append_left _ hp)) (fun p hp => hD5 p (List.mem_append_left _ hp)))
      (.tail _ (.tail _ (.tail _ (sRB _ mW)))) (.tail _ (.tail _ (.tail _ (sRB _ mdW)))) hwD (.tail _ (.tail _ (.tail _ (sRB _ mS)))) (.tail _ (.tail _ (.tail _ (sRB _ mdS)))) (.head _) (hdV _ _ _) hFit ?_) rfl (Nat.le_of_ble_eq_true rfl) rfl rfl (Nat.le_of_ble_eq_true rfl))
    intro A2 h2 tk2 IA2 DQ2 F2 N2
    obtain ⟨bV, hbV⟩ : ∃ b, b = okOf stV (.opn 1 (Str.ofString "OLD") (some xV)) := ⟨_, rfl⟩
    rw [← hbV]
    have N3 := news_out3 N2
    clear N2
    obtain ⟨l2, hlQ2⟩ : ∃ l, l = A2 ++ RB := ⟨_, rfl⟩
    have s2 : ∀ q ∈ RB, q ∈ l2 := fun q hq => hlQ2 ▸ List.mem_append_right _ hq
    rw [← hlQ2] at N3
    have c3 := s2 _ (sBB _ pB1)
    have c4 := s2 _ (sBB _ pB2)
    have c5 := s2 _ (sRB _ mBK)
    have c6 := s2 _ (sRB _ mc4)
    have c7 := s2 _ (sRB _ mc3)
    k_steps
    (rename News _ _ _ (_ :: _ :: (D5, _) :: l2) => N5b)
    obtain ⟨o5, ho5⟩ := news_third N5b
    rw [← ho5] at N5b DQ2
    refine held (move_step (NameJI IA2 RB stL (IV, oIV) (D5, o5)) (by k_asm) ?_ ?_)
    · by_cases hx : xV ∈ stV.ns
      · obtain rfl : bV = true := hbV.trans ((old_ok hksV).trans (decide_eq_true hx))
        obtain ⟨ha1, na1, u1, u2⟩ := pB10 xV (eV1 ▸ hx)
        have d2 := s2 _ (sBB _ u2)
        have hst := old_step hksV hx
        have S2 := sok_step SV9 hFit
        have IAx := IA2
        rw [hst] at IAx S2
        k_steps
        repeat revert ‹_›
        intro kpA kpB
        exact kpA.go
      · obtain rfl : bV = false := hbV.trans ((old_ok hksV).trans (decide_eq_false hx))
        have u1 : valueAt kvFB xV = none := valueAt_no fun c => hx (eV1 ▸ (pB6 ▸ c))
        have hst := old_step' hksV hx
        have IAx := IA2
        rw [hst] at IAx
        k_steps
        subst hlQ2
        exact held ⟨_, _, _, rfl, rfl, by k_asm, news_tl (by k_asm), ⟨A2, stV, rfl, IAx, dis_tl DQ2, ⟨by rw [hksV]; exact Nat.zero_le _, Nat.le_succ_of_le SV.bn, SV.inn, SV.rk⟩, eV1, eV2⟩⟩
    · rintro h4 tk4 nx4 F4 N4 ⟨A4, st4, rfl, IA4, D4, S4, eN4, eF4⟩
      repeat revert ‹_›
      intro kpA kpB
      exact kpB.go
theorem law_g33 : law_p32.1 := (by exact kept : Kept _ (by
  delta law_p32
  dsimp (config := { zeta := false, zetaDelta := false, beta := false, eta := false, iota := false }) only
  set_option tactic.hygienic false in intros
  (try clear hbV); (try clear ho5); (try clear tk2); (try clear h2); (try clear hFit); (try clear hdV); (try clear e2); (try clear e1); (try clear sV); (try clear nm'); (try clear hk'); (try clear hlt); (try clear hIV1); (try clear SV9); (try clear hksV); (try clear SV); (try clear DV); (try clear IVA); (try clear hD5); (try clear AV); (try clear tkM9); (try clear pB10); (try clear pB6); (try clear pB1); (try clear SL9); (try clear mc3); (try clear mdS); (try clear mS); (try clear dWc); (try clear nS); (try clear tS); (try clear hhS)
  subst hlQ2
  have hin1 : (1 : Int) ∈ ({ stV with ks := [1], U := upd stV.U 1 ⟨xV, 0, []⟩ } : St).ks := List.mem_singleton.mpr rfl
  have hp01 : ((({ stV with ks := [1], U := upd stV.U 1 ⟨xV, 0, []⟩ } : St)).U 1).pl = 0 := by simp only [upd_self]
  have hrec : recsOf { stV with ks := [1], U := upd stV.U 1 ⟨xV, 0, []⟩ } 1 = stL.F xV := by
    unfold recsOf
    simp only [upd_self]
    rw [if_neg (five_ne hFv), eV2]
  refine held (wp_up (law_read_any (num := 1) (st := { stV with ks := [1], U := upd stV.U 1 ⟨xV, 0, []⟩ }) (A := A2) (R := (hV9.objs.size, _) :: (IV, oIV) :: (D5, o5) :: RB) (bd := 10) (gd := _) (by k_asm) (by k_asm) (by k_asm) (news_in3 (by k_asm)) (by k_asm) (by k_asm) (by k_asm) rfl rfl IAx S2 (by k_extra "om") DQ2
    (.tail _ (.tail _ (.tail _ (sRB _ mW)))) (.tail _ (.tail _ (.tail _ (sRB _ mdW)))) hwD hin1 hp01 ?_) rfl (Nat.le_of_ble_eq_true rfl) rfl rfl (Nat.le_of_ble_eq_true rfl))
  intro A3 DD n3 hR3 tkR3 IA3 D3 FR3 NR3 neR3
  rw [hrec] at NR3
  obtain ⟨l3, hl3⟩ := news_shape NR3
  rw [← hl3] at NR3
  have s3 : ∀ q ∈ RB, q ∈ l3 := fun q hq => hl3 ▸ List.mem_append_right _ (.tail _ (.tail _ (.tail _ hq)))
  have x4 := s3 _ (sBB _ pB2)
  have x5 := s3 _ (sRB _ mBK)
  have x6 := s3 _ (sRB _ mc4)
  have x7 := s3 _ (sBB _ u2)
  k_steps
  refine held (ne_same_same (vs := stL.F xV) (News.isList (by k_asm) (.head _)) (News.isList (by k_asm) (.tail _ x7)) (Nat.le_of_ble_eq_true rfl) ?_)
  k_steps
  subst hl3
  refine held ⟨_, _, _, rfl, rfl, by k_asm, news_rd (by k_asm), ⟨A3, _, rfl, IA3, dis_tl D3, ⟨S2.bk, S2.bn, fun k hk hn => ?_, S2.rk⟩, eV1, eV2⟩⟩
  obtain rfl := List.mem_singleton.mp hk
  simp only [upd_self]
  exact hx))
theorem law_g34 : law_p32.2.1 := (by exact kept : Kept _ (by
  delta law_p32
  dsimp (config := { zeta := false, zetaDelta := false, beta := false, eta := false, iota := false }) only
  set_option tactic.hygienic false in intros
  (try clear N5b); (try clear DQ2); (try clear c7); (try clear c6); (try clear c5); (try clear c4); (try clear c3); (try clear s2); (try clear hlQ2); (try clear l2); (try clear hbV); (try clear IA2); (try clear tk2); (try clear h2); (try clear A2); (try clear hFit); (try clear hdV); (try clear e2); (try clear e1); (try clear sV); (try clear nm'); (try clear hk'); (try clear hlt); (try clear SV9); (try clear hksV); (try clear hFv); (try clear eV2); (try clear eV1); (try clear SV); (try clear DV); (try clear IVA); (try clear stV); (try clear hff); (try clear sBB); (try clear pB10); (try clear pB6); (try clear pB4); (try clear pB2); (try clear pB1); (try clear foB); (try clear uoB); (try clear BL); (try clear mc4); (try clear mBK); (try clear hBK2); (try clear dBc); (try clear oBc); (try clear oBK)
  obtain ⟨l4, hl4⟩ : ∃ l, l = A4 ++ RB := ⟨_, rfl⟩
  have s4 : ∀ q ∈ RB, q ∈ l4 := fun q hq => hl4 ▸ List.mem_append_right _ hq
  rw [← hl4] at N4
  have y7 := s4 _ (sRB _ mc3)
  k_steps
  subst hl4
  refine held (wp_up (close_all_any (R := (IV, oIV) :: (D5, o5) :: RB) (A := A4) (st := st4) (bd := 10) (gd := _) (by k_asm) (by k_asm) (by k_asm) (news_in2 (by k_asm)) (by k_asm) rfl rfl IA4 S4 (by k_extra "om") D4 (.tail _ (.tail _ (sRB _ mW))) (.tail _ (.tail _ (sRB _ mdW))) hwD (.tail _ (.tail _ (sRB _ mS))) (.tail _ (.tail _ (sRB _ mdS))) ?_) rfl (Nat.le_of_ble_eq_true rfl) rfl rfl (Nat.le_of_ble_eq_true rfl))
  intro A6 h6 tk6 IA6 D6 F6 N6
  have N7 := news_out2 N6
  clear N6
  rw [ho5] at N7
  have D7 := dis_tl (dis_tl D6)
  have hA6I : ∀ q ∈ A6, @Ne Nat q.1 IV := fun q hq => D6 q hq _ (.head _)
  have hA6D : ∀ q ∈ A6, @Ne Nat q.1 D5 := fun q hq => D6 q hq _ (.tail _ (.head _))
  have bn9 : st4.ns.length ≤ 9 := by rw [eN4]; exact SL9.bn
  obtain ⟨l6, hl6⟩ : ∃ l, l = A6 ++ RB := ⟨_, rfl⟩
  rw [← hl6] at N7
  k_steps
  (rename News _ _ _ ((IV, oIV) :: (D5, _) :: l6) => N8)
  rw [hl6] at N8
  refine ⟨_, _, _, A6 ++ RB, rfl, by k_asm, fun z h1 h2 => by (first | exact off2 h1 h2 | (dsimp only; rw [if_neg h2, if_neg h1]; done) | (dsimp only; rw [if_neg h2]; exact off2 h1 h2)), N8, fun q hq => ?_, ⟨⟨A6, { st4 with ks := [] }, rfl, IA6, D7, ⟨Nat.zero_le _, bn9, fun k hk => absurd hk List.not_mem_nil, fun k hk => absurd hk List.not_mem_nil⟩, eN4, eF4, fun _ => rfl⟩, fun q hq => ?_⟩⟩
  · rcases List.mem_append.mp hq with hq | hq
    · exact hA6I q hq
    · exact hIV1 q (List.mem_append_right _ hq)
  · rcases List.mem_append.mp hq with hq | hq
    · exact hA6D q hq
    · exact hD5 q (List.mem_append_right _ hq)))
theorem law_g32 : law_p30.1 := law_p32.2.2 ⟨law_g33⟩ ⟨law_g34⟩
theorem law_g30 : law_p21.1 := law_p30.2 ⟨law_g32⟩
theorem law_g31 : law_p21.2.1 := (by exact kept : Kept _ (by
  delta law_p21
  dsimp (config := { zeta := false, zetaDelta := false, beta := false, eta := false, iota := false }) only
  set_option tactic.hygienic false in intros
  (try clear eV2); (try clear eV1); (try clear DV); (try clear hD5); (try clear l5); (try clear N5); (try clear F5); (try clear h5); (try clear D5); (try clear hlM); (try clear lM); (try clear hks); (try clear eM3); (try clear eM2); (try clear eM1); (try clear SM); (try clear DM); (try clear IMA); (try clear stM); (try clear AM); (try clear tkM9); (try clear hM9); (try clear hwD); (try clear hff); (try clear sBB); (try clear pB10); (try clear pB6); (try clear pB4); (try clear pB2); (try clear pB1); (try clear foB); (try clear uoB); (try clear SL9); (try clear stL); (try clear BL); (try clear mc4); (try clear mdS); (try clear mS); (try clear mBK); (try clear hBK2); (try clear dBc); (try clear oBc); (try clear oBK); (try clear nS); (try clear tS); (try clear hhS); (try clear K1)
  have hksZ := eV3 rfl
  obtain ⟨uoA, foA, kvUA, kvFA, pA1, pA2, pA3, pA4, pA5, pA6, pA7, pA8, pA9, pA10⟩ := prog_facts IVA SV (by k_extra "om")
  have hnil : kvUA = [] := nil_of_keys pA5 hksZ
  subst hnil
  obtain ⟨lZ, hlZ⟩ : ∃ l, l = AV ++ RB := ⟨_, rfl⟩
  have sAZ : ∀ q ∈ AV, q ∈ lZ := fun q hq => hlZ ▸ List.mem_append_left _ hq
  have sRZ : ∀ q ∈ RB, q ∈ lZ := fun q hq => hlZ ▸ List.mem_append_right _ hq
  rw [← hlZ] at NV9
  have z1 := sAZ _ pA1
  have z2 := sRZ _ (sRB _ mc3)
  have z3 := sRZ _ (sRB _ mW)
  have z4 := sRZ _ (sRB _ mdW)
  k_steps
  refine held (keq_pairs (knd := PySem.intKind _ _) (r := true) (by k_asm) (.tail _ z1) (.head _) pA3 (by assumption) (lo_of (by k_asm) (by k_asm) (.tail _ z1)) (by assumption) rfl (Nat.le_of_ble_eq_true rfl) KeqHits.nil ?_)
  k_steps))
theorem law_g21 : law_p7.2.1 := law_p21.2.2 ⟨law_g30⟩ ⟨law_g31⟩
theorem law_g7 : law_p5.2.1 := law_p7.2.2 ⟨law_g20⟩ ⟨law_g21⟩
theorem law_g5 : law_p4.1 := law_p5.2.2 ⟨law_g6⟩ ⟨law_g7⟩
theorem law_g4 : law_p2.2.1 := law_p4.2 ⟨law_g5⟩
theorem law_g2 : law_p0.2.1 := law_p2.2.2 ⟨law_g3⟩ ⟨law_g4⟩
theorem law_holds : PySem.Challenge.rw_pf0122_01.Holds := law_p0.2.2 ⟨law_g1⟩ ⟨law_g2⟩
end Mine
end
theorem PySem.Challenge.cw_pf0122_01_holds : PySem.Challenge.rw_pf0122_01.Holds := by
  exact Mine.law_holds
