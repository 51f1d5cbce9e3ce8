import PyProof.Rows.All
import Wide.All
import OpenK.AllK
import Wide.FinOn
import Lean
import PySem.Challenge.RW_nt0352_01
open PySem PySem.Spec PySem.Calls PySem.W PyProof.Rows
set_option Elab.async false
set_option maxRecDepth 100000
set_option maxHeartbeats 40000000
set_option linter.unusedSimpArgs false
set_option linter.unusedVariables false
namespace Mine
/-- the statements that the view keeps: all but four whose names no def reads (places 0, 27, 41, 53) -/
def kept (l : List Stmt) : List Stmt := (l.drop 1).take 26 ++ ((l.drop 28).take 13 ++ ((l.drop 42).take 11 ++ l.drop 54))
def seenTop : Program := { PySem.Challenge.pw_nt0352_01 with main := { PySem.Challenge.pw_nt0352_01.main with body := kept PySem.Challenge.pw_nt0352_01.main.body } }
local macro_rules | `(tactic| o_head (kHook $K $as $e)) => `(tactic| (
  refine holds_open (q := seenTop)
    (loose := [Str.ofString "SIGN_BIT", Str.ofString "FRACTION_MASK", Str.ofString "HIDDEN_BIT", Str.ofString "ONE", Str.ofString "INF", Str.ofString "NAN", Str.ofString "TWO_32", Str.ofString "TWO_31", Str.ofString "TWO_16"])
    (Xt := (fun s => xlAt seenTop [(Str.ofString "SIGN_BIT", WData.int 9223372036854775808), (Str.ofString "FRACTION_MASK", WData.int 4503599627370495), (Str.ofString "HIDDEN_BIT", WData.int 4503599627370496), (Str.ofString "ONE", WData.int 4607182418800017408), (Str.ofString "INF", WData.int 9218868437227405312), (Str.ofString "NAN", WData.int 9221120237041090560), (Str.ofString "TWO_32", WData.int 4294967296), (Str.ofString "TWO_31", WData.int 2147483648), (Str.ofString "TWO_16", WData.int 65536)] s && recOk (RowW.records PySem.Challenge.rw_nt0352_01.row.toRowW) s))
    (XP := XL seenTop [(Str.ofString "SIGN_BIT", WData.int 9223372036854775808), (Str.ofString "FRACTION_MASK", WData.int 4503599627370495), (Str.ofString "HIDDEN_BIT", WData.int 4503599627370496), (Str.ofString "ONE", WData.int 4607182418800017408), (Str.ofString "INF", WData.int 9218868437227405312), (Str.ofString "NAN", WData.int 9221120237041090560), (Str.ofString "TWO_32", WData.int 4294967296), (Str.ofString "TWO_31", WData.int 2147483648), (Str.ofString "TWO_16", WData.int 65536)])
    (Yf := Hook.obs (kHook $K $as $e)) (Ya := Hook.val (kHook $K $as $e)) (YP := Hook.says (kHook $K $as $e)) (N := 3430) (And.left ?hc) (Hook.of (kHook $K $as $e)) (Hook.keeps (kHook $K $as $e))
    (fun s e => xl_of s (Bool.and_eq_true_iff.mp e).1) XL.keeps (by rfl) (by rfl) (by rfl) (fun s e => recFacts_of (Bool.and_eq_true_iff.mp e).2) (by rfl) (by first | assumption | decide +kernel) (by decide +kernel)
    ⟨rfl, rfl, rfl, rfl, rfl, by decide +kernel⟩ ?hw (And.right ?hc)))
open_top hd0 for PySem.Challenge.rw_nt0352_01
/-! the end state of the top: the boot's objects, those that the head wrote out, and for each def two more: its text unbound, and an empty one -/
noncomputable def kAt (P : Params) (a : Nat) : Obj := match (Mine.hd0.heap_39 P).lookup a with
  | some o => o
  | none => { cls := Value.none, data := Data.fields #[] }
noncomputable def unbound (o : Obj) : Obj := match o.data with
  | .func fd => { cls := Value.none, data := Data.func { name := fd.name, qualname := fd.qualname, params := fd.params, body := fd.body, scope := fd.scope, globals := 0, closure := [], defaults := Value.none, kwdefaults := Value.none } }
  | _ => o
noncomputable def bare : Obj := { cls := Value.none, data := Data.fields #[] }
def lineVals : List Value := [Value.int 13 0, Value.int 0 0, Value.ref 20, Value.int 23 0, Value.int 0 0, Value.ref 27, Value.int 25 0, Value.int 0 0, Value.ref 34, Value.int 27 0, Value.int 0 0, Value.ref 41, Value.int 29 0, Value.int 0 0, Value.ref 48, Value.int 31 0, Value.int 0 0, Value.ref 55, Value.int 33 0, Value.int 0 0, Value.ref 62, Value.int 35 0, Value.int 0 0, Value.ref 69, Value.int 37 0, Value.int 0 0, Value.ref 76, Value.int 42 0, Value.int 0 0, Value.ref 83, Value.int 48 0, Value.int 0 0, Value.ref 90, Value.int 59 0, Value.int 0 0, Value.ref 97, Value.int 68 0, Value.int 0 0, Value.ref 104, Value.int 77 0, Value.int 0 0, Value.ref 111, Value.int 83 0, Value.int 0 0, Value.ref 118, Value.int 92 0, Value.int 0 0, Value.ref 125, Value.int 94 0, Value.int 0 0, Value.ref 132, Value.int 97 0, Value.int 0 0, Value.ref 139, Value.int 99 0, Value.int 0 0, Value.ref 146, Value.int 104 0, Value.int 0 0, Value.ref 153, Value.int 106 0, Value.int 0 0, Value.ref 160, Value.int 108 0, Value.int 0 0, Value.ref 167, Value.int 112 0, Value.int 0 0, Value.ref 174, Value.int 117 0, Value.int 0 0, Value.ref 181, Value.int 122 0, Value.int 0 0, Value.ref 188, Value.int 131 0, Value.int 0 0, Value.ref 195, Value.int 133 0, Value.int 0 0, Value.ref 202, Value.int 135 0, Value.int 0 0, Value.ref 209, Value.int 142 0, Value.int 0 0, Value.ref 216, Value.int 144 0, Value.int 0 0, Value.ref 223, Value.int 152 0, Value.int 0 0, Value.ref 230, Value.int 165 0, Value.int 0 0, Value.ref 237, Value.int 177 0, Value.int 0 0, Value.ref 244, Value.int 187 0, Value.int 0 0, Value.ref 251, Value.int 193 0, Value.int 0 0, Value.ref 258, Value.int 200 0, Value.int 0 0, Value.ref 265, Value.int 203 0, Value.int 0 0, Value.ref 272, Value.int 206 0, Value.int 0 0, Value.ref 279, Value.int 208 0, Value.int 0 0, Value.ref 286, Value.int 214 0, Value.int 0 0, Value.ref 293, Value.int 219 0, Value.int 0 0, Value.ref 300, Value.int 229 0, Value.int 0 0, Value.ref 307, Value.int 240 0, Value.int 0 0, Value.ref 314, Value.int 251 0, Value.int 0 0, Value.ref 321, Value.int 266 0, Value.int 0 0, Value.ref 328]
def linesTo (j : Nat) : Obj := { cls := Value.none, data := Data.fields ⟨lineVals.take (3 * j)⟩ }
def lines : Obj := { cls := Value.none, data := Data.fields ⟨lineVals⟩ }
/-- the top's names when m of them stand, the first of them (the file's own name) bound to v -/
noncomputable def namesTo (P : Params) (v : Value) (m : Nat) : Obj := { kAt P 3 with data := match (kAt P 3).data with
  | .dict es _ => .dict ⟨(match es.toList with | e :: r => { e with val := v } :: r | [] => []).take m⟩ m
  | d => d }
noncomputable def fin (P : Params) : Heap := ⟨⟨[boot_o_0 P, boot_o_1 P, kAt P 2, kAt P 3, boot_o_4 P, boot_o_5 P, boot_o_6 P, boot_o_7 P, boot_o_8 P, boot_o_9 P, boot_o_10 P, { cls := Value.type "tuple", data := Data.seq #[] }, lines, { cls := Value.type "code", data := Data.fields #[Value.str (Str.ofString "<module>") 182, Value.str (Str.ofString "<module>") 183, Value.str (Str.ofString "/claim/cut.py") 184, Value.int 1 0, Value.int 0 0, Value.int 0 0, Value.int 0 0, Value.int 0 0, Value.ref 11, Value.bool false, Value.int 181 0, Value.ref 12, Value.none, Value.none, Value.none, Value.none, Value.int 185 0, Value.int 1 0, Value.str (Str.ofString "/claim/cut.py") 186] }, { cls := Value.type "frame", slots := #[some (Value.ref 13), some (Value.ref 3), some (Value.ref 3), none, some (Value.str (Str.ofString "__main__") 164), none, some (Value.ref 0)] }, kAt P 15, bare, kAt P 17, kAt P 18, unbound (kAt P 21), kAt P 20, kAt P 21, kAt P 22, bare, kAt P 24, kAt P 25, unbound (kAt P 28), kAt P 27, kAt P 28, kAt P 29, bare, kAt P 31, kAt P 32, unbound (kAt P 35), kAt P 34, kAt P 35, kAt P 36, bare, kAt P 38, kAt P 39, unbound (kAt P 42), kAt P 41, kAt P 42, kAt P 43, bare, kAt P 45, kAt P 46, unbound (kAt P 49), kAt P 48, kAt P 49, kAt P 50, bare, kAt P 52, kAt P 53, unbound (kAt P 56), kAt P 55, kAt P 56, kAt P 57, bare, kAt P 59, kAt P 60, unbound (kAt P 63), kAt P 62, kAt P 63, kAt P 64, bare, kAt P 66, kAt P 67, unbound (kAt P 70), kAt P 69, kAt P 70, kAt P 71, bare, kAt P 73, kAt P 74, unbound (kAt P 77), kAt P 76, kAt P 77, kAt P 78, bare, kAt P 80, kAt P 81, unbound (kAt P 84), kAt P 83, kAt P 84, kAt P 85, bare, kAt P 87, kAt P 88, unbound (kAt P 91), kAt P 90, kAt P 91, kAt P 92, bare, kAt P 94, kAt P 95, unbound (kAt P 98), kAt P 97, kAt P 98, kAt P 99, bare, kAt P 101, kAt P 102, unbound (kAt P 105), kAt P 104, kAt P 105, kAt P 106, bare, kAt P 108, kAt P 109, unbound (kAt P 112), kAt P 111, kAt P 112, kAt P 113, bare, kAt P 115, kAt P 116, unbound (kAt P 119), kAt P 118, kAt P 119, kAt P 120, bare, kAt P 122, kAt P 123, unbound (kAt P 126), kAt P 125, kAt P 126, kAt P 127, bare, kAt P 129, kAt P 130, unbound (kAt P 133), kAt P 132, kAt P 133, kAt P 134, bare, kAt P 136, kAt P 137, unbound (kAt P 140), kAt P 139, kAt P 140, kAt P 141, bare, kAt P 143, kAt P 144, unbound (kAt P 147), kAt P 146, kAt P 147, kAt P 148, bare, kAt P 150, kAt P 151, unbound (kAt P 154), kAt P 153, kAt P 154, kAt P 155, bare, kAt P 157, kAt P 158, unbound (kAt P 161), kAt P 160, kAt P 161, kAt P 162, bare, kAt P 164, kAt P 165, unbound (kAt P 168), kAt P 167, kAt P 168, kAt P 169, bare, kAt P 171, kAt P 172, unbound (kAt P 175), kAt P 174, kAt P 175, kAt P 176, bare, kAt P 178, kAt P 179, unbound (kAt P 182), kAt P 181, kAt P 182, kAt P 183, bare, kAt P 185, kAt P 186, unbound (kAt P 189), kAt P 188, kAt P 189, kAt P 190, bare, kAt P 192, kAt P 193, unbound (kAt P 196), kAt P 195, kAt P 196, kAt P 197, bare, kAt P 199, kAt P 200, unbound (kAt P 203), kAt P 202, kAt P 203, kAt P 204, bare, kAt P 206, kAt P 207, unbound (kAt P 210), kAt P 209, kAt P 210, kAt P 211, bare, kAt P 213, kAt P 214, unbound (kAt P 217), kAt P 216, kAt P 217, kAt P 218, bare, kAt P 220, kAt P 221, unbound (kAt P 224), kAt P 223, kAt P 224, kAt P 225, bare, kAt P 227, kAt P 228, unbound (kAt P 231), kAt P 230, kAt P 231, kAt P 232, bare, kAt P 234, kAt P 235, unbound (kAt P 238), kAt P 237, kAt P 238, kAt P 239, bare, kAt P 241, kAt P 242, unbound (kAt P 245), kAt P 244, kAt P 245, kAt P 246, bare, kAt P 248, kAt P 249, unbound (kAt P 252), kAt P 251, kAt P 252, kAt P 253, bare, kAt P 255, kAt P 256, unbound (kAt P 259), kAt P 258, kAt P 259, kAt P 260, bare, kAt P 262, kAt P 263, unbound (kAt P 266), kAt P 265, kAt P 266, kAt P 267, bare, kAt P 269, kAt P 270, unbound (kAt P 273), kAt P 272, kAt P 273, kAt P 274, bare, kAt P 276, kAt P 277, unbound (kAt P 280), kAt P 279, kAt P 280, kAt P 281, bare, kAt P 283, kAt P 284, unbound (kAt P 287), kAt P 286, kAt P 287, kAt P 288, bare, kAt P 290, kAt P 291, unbound (kAt P 294), kAt P 293, kAt P 294, kAt P 295, bare, kAt P 297, kAt P 298, unbound (kAt P 301), kAt P 300, kAt P 301, kAt P 302, bare, kAt P 304, kAt P 305, unbound (kAt P 308), kAt P 307, kAt P 308, kAt P 309, bare, kAt P 311, kAt P 312, unbound (kAt P 315), kAt P 314, kAt P 315, kAt P 316, bare, kAt P 318, kAt P 319, unbound (kAt P 322), kAt P 321, kAt P 322, kAt P 323, bare, kAt P 325, kAt P 326, unbound (kAt P 329), kAt P 328, kAt P 329]⟩, {}⟩
noncomputable abbrev endsAt (w : World) (os : OsState) : Shared := ⟨fin w.params, #[], {}, 665, os⟩
abbrev spots : List Addr := [2, 3, 15, 17, 18, 20, 21, 22, 24, 25, 27, 28, 29, 31, 32, 34, 35, 36, 38, 39, 41, 42, 43, 45, 46, 48, 49, 50, 52, 53, 55, 56, 57, 59, 60, 62, 63, 64, 66, 67, 69, 70, 71, 73, 74, 76, 77, 78, 80, 81, 83, 84, 85, 87, 88, 90, 91, 92, 94, 95, 97, 98, 99, 101, 102, 104, 105, 106, 108, 109, 111, 112, 113, 115, 116, 118, 119, 120, 122, 123, 125, 126, 127, 129, 130, 132, 133, 134, 136, 137, 139, 140, 141, 143, 144, 146, 147, 148, 150, 151, 153, 154, 155, 157, 158, 160, 161, 162, 164, 165, 167, 168, 169, 171, 172, 174, 175, 176, 178, 179, 181, 182, 183, 185, 186, 188, 189, 190, 192, 193, 195, 196, 197, 199, 200, 202, 203, 204, 206, 207, 209, 210, 211, 213, 214, 216, 217, 218, 220, 221, 223, 224, 225, 227, 228, 230, 231, 232, 234, 235, 237, 238, 239, 241, 242, 244, 245, 246, 248, 249, 251, 252, 253, 255, 256, 258, 259, 260, 262, 263, 265, 266, 267, 269, 270, 272, 273, 274, 276, 277, 279, 280, 281, 283, 284, 286, 287, 288, 290, 291, 293, 294, 295, 297, 298, 300, 301, 302, 304, 305, 307, 308, 309, 311, 312, 314, 315, 316, 318, 319, 321, 322, 323, 325, 326, 328, 329]
abbrev sees (s : Shared) := openSeen seenTop [Str.ofString "SIGN_BIT", Str.ofString "FRACTION_MASK", Str.ofString "HIDDEN_BIT", Str.ofString "ONE", Str.ofString "INF", Str.ofString "NAN", Str.ofString "TWO_32", Str.ofString "TWO_31", Str.ofString "TWO_16"] (importedModules PySem.Challenge.pw_nt0352_01.main.body) (fun s => xlAt seenTop [(Str.ofString "SIGN_BIT", WData.int 9223372036854775808), (Str.ofString "FRACTION_MASK", WData.int 4503599627370495), (Str.ofString "HIDDEN_BIT", WData.int 4503599627370496), (Str.ofString "ONE", WData.int 4607182418800017408), (Str.ofString "INF", WData.int 9218868437227405312), (Str.ofString "NAN", WData.int 9221120237041090560), (Str.ofString "TWO_32", WData.int 4294967296), (Str.ofString "TWO_31", WData.int 2147483648), (Str.ofString "TWO_16", WData.int 65536)] s && recOk (RowW.records PySem.Challenge.rw_nt0352_01.row.toRowW) s) true s
abbrev good := openGood seenTop [Str.ofString "SIGN_BIT", Str.ofString "FRACTION_MASK", Str.ofString "HIDDEN_BIT", Str.ofString "ONE", Str.ofString "INF", Str.ofString "NAN", Str.ofString "TWO_32", Str.ofString "TWO_31", Str.ofString "TWO_16"]
theorem boots (w : World) : (fencedOpening treeTable PySem.Challenge.pw_nt0352_01 w 3430).map (fun s => (s.heap, s.gens, s.drawn, s.toks)) = some (boot_heap w.params, Array.mk [], boot_drawn, boot_toks) := boot_open (by kernel_rfl) (by kernel_rfl) (fun _ => rfl) w
theorem bootSize (w : World) : ((boot_heap w.params).isNs mainGlobals && (Array.mk [] : Array GenState).size == 0, (boot_heap w.params).objs.size, (boot_heap w.params).nsMap mainGlobals "__annotations__") = (true, 11, some (Value.ref 6)) := by kernel_rfl
noncomputable def heap0 (P : Params) : Heap := ⟨⟨[boot_o_0 P, boot_o_1 P, kAt P 2, namesTo P (Value.str (Str.ofString "__main__") 164) 9, boot_o_4 P, boot_o_5 P, boot_o_6 P, boot_o_7 P, boot_o_8 P, boot_o_9 P, boot_o_10 P, { cls := Value.type "tuple", data := Data.seq #[] }, linesTo 0, { cls := Value.type "code", data := Data.fields #[Value.str (Str.ofString "<module>") 182, Value.str (Str.ofString "<module>") 183, Value.str (Str.ofString "/claim/cut.py") 184, Value.int 1 0, Value.int 0 0, Value.int 0 0, Value.int 0 0, Value.int 0 0, Value.ref 11, Value.bool false, Value.int 181 0, Value.ref 12, Value.none, Value.none, Value.none, Value.none, Value.int 185 0, Value.int 1 0, Value.str (Str.ofString "/claim/cut.py") 186] }, { cls := Value.type "frame", slots := #[some (Value.ref 13), some (Value.ref 3), some (Value.ref 3), none, some (Value.str (Str.ofString "__main__") 164), none, some (Value.ref 0)] }]⟩, {}⟩
noncomputable abbrev at0 (w : World) (os : OsState) : Shared := ⟨heap0 w.params, #[], {}, 187, os⟩
noncomputable def heap1 (P : Params) : Heap := ⟨⟨[boot_o_0 P, boot_o_1 P, kAt P 2, namesTo P (Value.str (Str.ofString "js.dbits") 187) 35, boot_o_4 P, boot_o_5 P, boot_o_6 P, boot_o_7 P, boot_o_8 P, boot_o_9 P, boot_o_10 P, { cls := Value.type "tuple", data := Data.seq #[] }, linesTo 15, { cls := Value.type "code", data := Data.fields #[Value.str (Str.ofString "<module>") 182, Value.str (Str.ofString "<module>") 183, Value.str (Str.ofString "/claim/cut.py") 184, Value.int 1 0, Value.int 0 0, Value.int 0 0, Value.int 0 0, Value.int 0 0, Value.ref 11, Value.bool false, Value.int 181 0, Value.ref 12, Value.none, Value.none, Value.none, Value.none, Value.int 185 0, Value.int 1 0, Value.str (Str.ofString "/claim/cut.py") 186] }, { cls := Value.type "frame", slots := #[some (Value.ref 13), some (Value.ref 3), some (Value.ref 3), none, some (Value.str (Str.ofString "__main__") 164), none, some (Value.ref 0)] }, kAt P 15, bare, kAt P 17, kAt P 18, unbound (kAt P 21), kAt P 20, kAt P 21, kAt P 22, bare, kAt P 24, kAt P 25, unbound (kAt P 28), kAt P 27, kAt P 28, kAt P 29, bare, kAt P 31, kAt P 32, unbound (kAt P 35), kAt P 34, kAt P 35, kAt P 36, bare, kAt P 38, kAt P 39, unbound (kAt P 42), kAt P 41, kAt P 42, kAt P 43, bare, kAt P 45, kAt P 46, unbound (kAt P 49), kAt P 48, kAt P 49, kAt P 50, bare, kAt P 52, kAt P 53, unbound (kAt P 56), kAt P 55, kAt P 56, kAt P 57, bare, kAt P 59, kAt P 60, unbound (kAt P 63), kAt P 62, kAt P 63, kAt P 64, bare, kAt P 66, kAt P 67, unbound (kAt P 70), kAt P 69, kAt P 70, kAt P 71, bare, kAt P 73, kAt P 74, unbound (kAt P 77), kAt P 76, kAt P 77, kAt P 78, bare, kAt P 80, kAt P 81, unbound (kAt P 84), kAt P 83, kAt P 84, kAt P 85, bare, kAt P 87, kAt P 88, unbound (kAt P 91), kAt P 90, kAt P 91, kAt P 92, bare, kAt P 94, kAt P 95, unbound (kAt P 98), kAt P 97, kAt P 98, kAt P 99, bare, kAt P 101, kAt P 102, unbound (kAt P 105), kAt P 104, kAt P 105, kAt P 106, bare, kAt P 108, kAt P 109, unbound (kAt P 112), kAt P 111, kAt P 112, kAt P 113, bare, kAt P 115, kAt P 116, unbound (kAt P 119), kAt P 118, kAt P 119]⟩, {}⟩
noncomputable abbrev at1 (w : World) (os : OsState) : Shared := ⟨heap1 w.params, #[], {}, 360, os⟩
noncomputable def heap2 (P : Params) : Heap := ⟨⟨[boot_o_0 P, boot_o_1 P, kAt P 2, namesTo P (Value.str (Str.ofString "js.dround") 360) 48, boot_o_4 P, boot_o_5 P, boot_o_6 P, boot_o_7 P, boot_o_8 P, boot_o_9 P, boot_o_10 P, { cls := Value.type "tuple", data := Data.seq #[] }, linesTo 25, { cls := Value.type "code", data := Data.fields #[Value.str (Str.ofString "<module>") 182, Value.str (Str.ofString "<module>") 183, Value.str (Str.ofString "/claim/cut.py") 184, Value.int 1 0, Value.int 0 0, Value.int 0 0, Value.int 0 0, Value.int 0 0, Value.ref 11, Value.bool false, Value.int 181 0, Value.ref 12, Value.none, Value.none, Value.none, Value.none, Value.int 185 0, Value.int 1 0, Value.str (Str.ofString "/claim/cut.py") 186] }, { cls := Value.type "frame", slots := #[some (Value.ref 13), some (Value.ref 3), some (Value.ref 3), none, some (Value.str (Str.ofString "__main__") 164), none, some (Value.ref 0)] }, kAt P 15, bare, kAt P 17, kAt P 18, unbound (kAt P 21), kAt P 20, kAt P 21, kAt P 22, bare, kAt P 24, kAt P 25, unbound (kAt P 28), kAt P 27, kAt P 28, kAt P 29, bare, kAt P 31, kAt P 32, unbound (kAt P 35), kAt P 34, kAt P 35, kAt P 36, bare, kAt P 38, kAt P 39, unbound (kAt P 42), kAt P 41, kAt P 42, kAt P 43, bare, kAt P 45, kAt P 46, unbound (kAt P 49), kAt P 48, kAt P 49, kAt P 50, bare, kAt P 52, kAt P 53, unbound (kAt P 56), kAt P 55, kAt P 56, kAt P 57, bare, kAt P 59, kAt P 60, unbound (kAt P 63), kAt P 62, kAt P 63, kAt P 64, bare, kAt P 66, kAt P 67, unbound (kAt P 70), kAt P 69, kAt P 70, kAt P 71, bare, kAt P 73, kAt P 74, unbound (kAt P 77), kAt P 76, kAt P 77, kAt P 78, bare, kAt P 80, kAt P 81, unbound (kAt P 84), kAt P 83, kAt P 84, kAt P 85, bare, kAt P 87, kAt P 88, unbound (kAt P 91), kAt P 90, kAt P 91, kAt P 92, bare, kAt P 94, kAt P 95, unbound (kAt P 98), kAt P 97, kAt P 98, kAt P 99, bare, kAt P 101, kAt P 102, unbound (kAt P 105), kAt P 104, kAt P 105, kAt P 106, bare, kAt P 108, kAt P 109, unbound (kAt P 112), kAt P 111, kAt P 112, kAt P 113, bare, kAt P 115, kAt P 116, unbound (kAt P 119), kAt P 118, kAt P 119, kAt P 120, bare, kAt P 122, kAt P 123, unbound (kAt P 126), kAt P 125, kAt P 126, kAt P 127, bare, kAt P 129, kAt P 130, unbound (kAt P 133), kAt P 132, kAt P 133, kAt P 134, bare, kAt P 136, kAt P 137, unbound (kAt P 140), kAt P 139, kAt P 140, kAt P 141, bare, kAt P 143, kAt P 144, unbound (kAt P 147), kAt P 146, kAt P 147, kAt P 148, bare, kAt P 150, kAt P 151, unbound (kAt P 154), kAt P 153, kAt P 154, kAt P 155, bare, kAt P 157, kAt P 158, unbound (kAt P 161), kAt P 160, kAt P 161, kAt P 162, bare, kAt P 164, kAt P 165, unbound (kAt P 168), kAt P 167, kAt P 168, kAt P 169, bare, kAt P 171, kAt P 172, unbound (kAt P 175), kAt P 174, kAt P 175, kAt P 176, bare, kAt P 178, kAt P 179, unbound (kAt P 182), kAt P 181, kAt P 182, kAt P 183, bare, kAt P 185, kAt P 186, unbound (kAt P 189), kAt P 188, kAt P 189]⟩, {}⟩
noncomputable abbrev at2 (w : World) (os : OsState) : Shared := ⟨heap2 w.params, #[], {}, 455, os⟩
noncomputable def heap3 (P : Params) : Heap := ⟨⟨[boot_o_0 P, boot_o_1 P, kAt P 2, namesTo P (Value.str (Str.ofString "law_nt0352_01") 548) 59, boot_o_4 P, boot_o_5 P, boot_o_6 P, boot_o_7 P, boot_o_8 P, boot_o_9 P, boot_o_10 P, { cls := Value.type "tuple", data := Data.seq #[] }, linesTo 34, { cls := Value.type "code", data := Data.fields #[Value.str (Str.ofString "<module>") 182, Value.str (Str.ofString "<module>") 183, Value.str (Str.ofString "/claim/cut.py") 184, Value.int 1 0, Value.int 0 0, Value.int 0 0, Value.int 0 0, Value.int 0 0, Value.ref 11, Value.bool false, Value.int 181 0, Value.ref 12, Value.none, Value.none, Value.none, Value.none, Value.int 185 0, Value.int 1 0, Value.str (Str.ofString "/claim/cut.py") 186] }, { cls := Value.type "frame", slots := #[some (Value.ref 13), some (Value.ref 3), some (Value.ref 3), none, some (Value.str (Str.ofString "__main__") 164), none, some (Value.ref 0)] }, kAt P 15, bare, kAt P 17, kAt P 18, unbound (kAt P 21), kAt P 20, kAt P 21, kAt P 22, bare, kAt P 24, kAt P 25, unbound (kAt P 28), kAt P 27, kAt P 28, kAt P 29, bare, kAt P 31, kAt P 32, unbound (kAt P 35), kAt P 34, kAt P 35, kAt P 36, bare, kAt P 38, kAt P 39, unbound (kAt P 42), kAt P 41, kAt P 42, kAt P 43, bare, kAt P 45, kAt P 46, unbound (kAt P 49), kAt P 48, kAt P 49, kAt P 50, bare, kAt P 52, kAt P 53, unbound (kAt P 56), kAt P 55, kAt P 56, kAt P 57, bare, kAt P 59, kAt P 60, unbound (kAt P 63), kAt P 62, kAt P 63, kAt P 64, bare, kAt P 66, kAt P 67, unbound (kAt P 70), kAt P 69, kAt P 70, kAt P 71, bare, kAt P 73, kAt P 74, unbound (kAt P 77), kAt P 76, kAt P 77, kAt P 78, bare, kAt P 80, kAt P 81, unbound (kAt P 84), kAt P 83, kAt P 84, kAt P 85, bare, kAt P 87, kAt P 88, unbound (kAt P 91), kAt P 90, kAt P 91, kAt P 92, bare, kAt P 94, kAt P 95, unbound (kAt P 98), kAt P 97, kAt P 98, kAt P 99, bare, kAt P 101, kAt P 102, unbound (kAt P 105), kAt P 104, kAt P 105, kAt P 106, bare, kAt P 108, kAt P 109, unbound (kAt P 112), kAt P 111, kAt P 112, kAt P 113, bare, kAt P 115, kAt P 116, unbound (kAt P 119), kAt P 118, kAt P 119, kAt P 120, bare, kAt P 122, kAt P 123, unbound (kAt P 126), kAt P 125, kAt P 126, kAt P 127, bare, kAt P 129, kAt P 130, unbound (kAt P 133), kAt P 132, kAt P 133, kAt P 134, bare, kAt P 136, kAt P 137, unbound (kAt P 140), kAt P 139, kAt P 140, kAt P 141, bare, kAt P 143, kAt P 144, unbound (kAt P 147), kAt P 146, kAt P 147, kAt P 148, bare, kAt P 150, kAt P 151, unbound (kAt P 154), kAt P 153, kAt P 154, kAt P 155, bare, kAt P 157, kAt P 158, unbound (kAt P 161), kAt P 160, kAt P 161, kAt P 162, bare, kAt P 164, kAt P 165, unbound (kAt P 168), kAt P 167, kAt P 168, kAt P 169, bare, kAt P 171, kAt P 172, unbound (kAt P 175), kAt P 174, kAt P 175, kAt P 176, bare, kAt P 178, kAt P 179, unbound (kAt P 182), kAt P 181, kAt P 182, kAt P 183, bare, kAt P 185, kAt P 186, unbound (kAt P 189), kAt P 188, kAt P 189, kAt P 190, bare, kAt P 192, kAt P 193, unbound (kAt P 196), kAt P 195, kAt P 196, kAt P 197, bare, kAt P 199, kAt P 200, unbound (kAt P 203), kAt P 202, kAt P 203, kAt P 204, bare, kAt P 206, kAt P 207, unbound (kAt P 210), kAt P 209, kAt P 210, kAt P 211, bare, kAt P 213, kAt P 214, unbound (kAt P 217), kAt P 216, kAt P 217, kAt P 218, bare, kAt P 220, kAt P 221, unbound (kAt P 224), kAt P 223, kAt P 224, kAt P 225, bare, kAt P 227, kAt P 228, unbound (kAt P 231), kAt P 230, kAt P 231, kAt P 232, bare, kAt P 234, kAt P 235, unbound (kAt P 238), kAt P 237, kAt P 238, kAt P 239, bare, kAt P 241, kAt P 242, unbound (kAt P 245), kAt P 244, kAt P 245, kAt P 246, bare, kAt P 248, kAt P 249, unbound (kAt P 252), kAt P 251, kAt P 252]⟩, {}⟩
noncomputable abbrev at3 (w : World) (os : OsState) : Shared := ⟨heap3 w.params, #[], {}, 550, os⟩
def env0 : Env := { scope := PySem.Challenge.pw_nt0352_01.main.scope, locals := mainNs, globals := mainNs, cells := [], code := Value.ref 13, frame := some 14 }
abbrev pos0 : Pos := ⟨0, 0, 0, 0⟩
abbrev whole0 : Code := Code.body (behindTheImports PySem.Challenge.pw_nt0352_01) env0
def part1 : List Stmt := PySem.Challenge.pw_nt0352_01.main.body.take 27
def part2 : List Stmt := (PySem.Challenge.pw_nt0352_01.main.body.drop 27).take 14
def part3 : List Stmt := (PySem.Challenge.pw_nt0352_01.main.body.drop 41).take 13
def part4 : List Stmt := PySem.Challenge.pw_nt0352_01.main.body.drop 54
theorem toBody (w : World) (os : OsState) : topGo treeTable PySem.Challenge.pw_nt0352_01 w 11 (some (Value.ref 6)) 12 ⟨boot_heap w.params, Array.mk [], boot_drawn, boot_toks, os⟩ (topStub PySem.Challenge.pw_nt0352_01) = some ((at0 w os), ⟨denote treeTable whole0, whole0, pos0, [topFrame pos0]⟩) := by kernel_rfl
theorem block0 (w : World) (os : OsState) : segRun treeTable PySem.Challenge.pw_nt0352_01 w 11 (some (Value.ref 6)) 1 1 (at0 w os) (blockOf (behindTheImports PySem.Challenge.pw_nt0352_01) env0 whole0 pos0 [topFrame pos0]) = some (.next, at0 w os, whole0, pos0) := by kernel_rfl
theorem run1 (w : World) (os : OsState) : segRun treeTable PySem.Challenge.pw_nt0352_01 w 11 (some (Value.ref 6)) 1 800 (at0 w os) (piecesOf part1 env0 whole0 ⟨0, 0, 0, 0⟩ [topFrame pos0]) = some (.next, (at1 w os), whole0, ⟨83, 0, 87, 65⟩) := by kernel_rfl
theorem run2 (w : World) (os : OsState) : segRun treeTable PySem.Challenge.pw_nt0352_01 w 11 (some (Value.ref 6)) 1 800 (at1 w os) (piecesOf part2 env0 whole0 ⟨83, 0, 87, 65⟩ [topFrame pos0]) = some (.next, (at2 w os), whole0, ⟨122, 0, 127, 58⟩) := by kernel_rfl
theorem run3 (w : World) (os : OsState) : segRun treeTable PySem.Challenge.pw_nt0352_01 w 11 (some (Value.ref 6)) 1 800 (at2 w os) (piecesOf part3 env0 whole0 ⟨122, 0, 127, 58⟩ [topFrame pos0]) = some (.next, (at3 w os), whole0, ⟨192, 0, 192, 8⟩) := by kernel_rfl
theorem run4 (w : World) (os : OsState) : segRun treeTable PySem.Challenge.pw_nt0352_01 w 11 (some (Value.ref 6)) 1 800 (at3 w os) (piecesOf part4 env0 whole0 ⟨192, 0, 192, 8⟩ [topFrame pos0]) = some (.next, (endsAt w os), whole0, ⟨266, 0, 273, 15⟩) := by kernel_rfl
theorem run5 (w : World) (os : OsState) : topRun treeTable PySem.Challenge.pw_nt0352_01 w 11 (some (Value.ref 6)) 2 (endsAt w os) (restOf [] env0 whole0 ⟨266, 0, 273, 15⟩ [topFrame pos0]) = some (endsAt w os) := by kernel_rfl
theorem parted : behindTheImports PySem.Challenge.pw_nt0352_01 = part1 ++ (part2 ++ (part3 ++ (part4 ++ []))) := by kernel_rfl
theorem runs (w : World) (os : OsState) : topRun treeTable PySem.Challenge.pw_nt0352_01 w 11 (some (Value.ref 6)) (12 + (1 + (800 + (800 + (800 + (800 + 2)))))) ⟨boot_heap w.params, Array.mk [], boot_drawn, boot_toks, os⟩ (topStub PySem.Challenge.pw_nt0352_01) = some (endsAt w os) :=
  go_top (toBody w os) (piece_block (block0 w os) ((congrArg (fun b => topRun treeTable PySem.Challenge.pw_nt0352_01 w 11 (some (Value.ref 6)) (800 + (800 + (800 + (800 + 2)))) (at0 w os) (restOf b env0 whole0 pos0 [topFrame pos0])) parted).trans
    (piece_app (run1 w os) (piece_app (run2 w os) (piece_app (run3 w os) (piece_app (run4 w os) (run5 w os)))))))
theorem look0 (w : World) (os : OsState) : (staticsOk (importedModules PySem.Challenge.pw_nt0352_01.main.body) (boot_heap w.params) (fin w.params) && namesBound PySem.Challenge.pw_nt0352_01 (fin w.params) && gensDone (endsAt w os) && laidKept (boot_heap w.params) (fin w.params)) = true := by kernel_rfl
theorem look1 (w : World) (os : OsState) : (@Prod.rec _ _ (fun _ => _) (fun a _ => a) (sees (endsAt w os))) = (@Prod.rec _ _ (fun _ => _) (fun a _ => a) good) := by kernel_rfl
theorem look2 (w : World) (os : OsState) : (@Prod.rec _ _ (fun _ => _) (fun a _ => a) (@Prod.rec _ _ (fun _ => _) (fun _ b => b) (sees (endsAt w os)))) = (@Prod.rec _ _ (fun _ => _) (fun a _ => a) (@Prod.rec _ _ (fun _ => _) (fun _ b => b) good)) := by kernel_rfl
theorem look3 (w : World) (os : OsState) : (@Prod.rec _ _ (fun _ => _) (fun a _ => a) (@Prod.rec _ _ (fun _ => _) (fun _ b => b) (@Prod.rec _ _ (fun _ => _) (fun _ b => b) (sees (endsAt w os))))) = (@Prod.rec _ _ (fun _ => _) (fun a _ => a) (@Prod.rec _ _ (fun _ => _) (fun _ b => b) (@Prod.rec _ _ (fun _ => _) (fun _ b => b) good))) := by kernel_rfl
theorem look4 (w : World) (os : OsState) : (@Prod.rec _ _ (fun _ => _) (fun a _ => a) (@Prod.rec _ _ (fun _ => _) (fun _ b => b) (@Prod.rec _ _ (fun _ => _) (fun _ b => b) (@Prod.rec _ _ (fun _ => _) (fun _ b => b) (sees (endsAt w os)))))) = (@Prod.rec _ _ (fun _ => _) (fun a _ => a) (@Prod.rec _ _ (fun _ => _) (fun _ b => b) (@Prod.rec _ _ (fun _ => _) (fun _ b => b) (@Prod.rec _ _ (fun _ => _) (fun _ b => b) good)))) := by kernel_rfl
theorem look5 (w : World) (os : OsState) : (@Prod.rec _ _ (fun _ => _) (fun _ b => b) (@Prod.rec _ _ (fun _ => _) (fun _ b => b) (@Prod.rec _ _ (fun _ => _) (fun _ b => b) (@Prod.rec _ _ (fun _ => _) (fun _ b => b) (sees (endsAt w os)))))) = (@Prod.rec _ _ (fun _ => _) (fun _ b => b) (@Prod.rec _ _ (fun _ => _) (fun _ b => b) (@Prod.rec _ _ (fun _ => _) (fun _ b => b) (@Prod.rec _ _ (fun _ => _) (fun _ b => b) good)))) := by kernel_rfl
theorem look6 (w : World) (os : OsState) : spots.map (endsAt w os).heap.get? = (Mine.hd0.heap_39 w.params).map (fun p => some p.2) := by kernel_rfl
theorem parts5 {β₁ β₂ β₃ β₄ β₅ : Type} : ∀ {x a : β₁ × β₂ × β₃ × β₄ × β₅}, (@Prod.rec _ _ (fun _ => _) (fun a _ => a) x) = (@Prod.rec _ _ (fun _ => _) (fun a _ => a) a) → (@Prod.rec _ _ (fun _ => _) (fun a _ => a) (@Prod.rec _ _ (fun _ => _) (fun _ b => b) x)) = (@Prod.rec _ _ (fun _ => _) (fun a _ => a) (@Prod.rec _ _ (fun _ => _) (fun _ b => b) a)) → (@Prod.rec _ _ (fun _ => _) (fun a _ => a) (@Prod.rec _ _ (fun _ => _) (fun _ b => b) (@Prod.rec _ _ (fun _ => _) (fun _ b => b) x))) = (@Prod.rec _ _ (fun _ => _) (fun a _ => a) (@Prod.rec _ _ (fun _ => _) (fun _ b => b) (@Prod.rec _ _ (fun _ => _) (fun _ b => b) a))) → (@Prod.rec _ _ (fun _ => _) (fun a _ => a) (@Prod.rec _ _ (fun _ => _) (fun _ b => b) (@Prod.rec _ _ (fun _ => _) (fun _ b => b) (@Prod.rec _ _ (fun _ => _) (fun _ b => b) x)))) = (@Prod.rec _ _ (fun _ => _) (fun a _ => a) (@Prod.rec _ _ (fun _ => _) (fun _ b => b) (@Prod.rec _ _ (fun _ => _) (fun _ b => b) (@Prod.rec _ _ (fun _ => _) (fun _ b => b) a)))) → (@Prod.rec _ _ (fun _ => _) (fun _ b => b) (@Prod.rec _ _ (fun _ => _) (fun _ b => b) (@Prod.rec _ _ (fun _ => _) (fun _ b => b) (@Prod.rec _ _ (fun _ => _) (fun _ b => b) x)))) = (@Prod.rec _ _ (fun _ => _) (fun _ b => b) (@Prod.rec _ _ (fun _ => _) (fun _ b => b) (@Prod.rec _ _ (fun _ => _) (fun _ b => b) (@Prod.rec _ _ (fun _ => _) (fun _ b => b) a)))) → x = a
  | (x1, x2, x3, x4, x5), (a1, a2, a3, a4, a5), h1, h2, h3, h4, h5 => by
    simp only [Prod.mk.injEq]
    exact ⟨h1, h2, h3, h4, h5⟩
theorem left : LeftO PySem.Challenge.pw_nt0352_01 seenTop [Str.ofString "SIGN_BIT", Str.ofString "FRACTION_MASK", Str.ofString "HIDDEN_BIT", Str.ofString "ONE", Str.ofString "INF", Str.ofString "NAN", Str.ofString "TWO_32", Str.ofString "TWO_31", Str.ofString "TWO_16"] (fun s => xlAt seenTop [(Str.ofString "SIGN_BIT", WData.int 9223372036854775808), (Str.ofString "FRACTION_MASK", WData.int 4503599627370495), (Str.ofString "HIDDEN_BIT", WData.int 4503599627370496), (Str.ofString "ONE", WData.int 4607182418800017408), (Str.ofString "INF", WData.int 9218868437227405312), (Str.ofString "NAN", WData.int 9221120237041090560), (Str.ofString "TWO_32", WData.int 4294967296), (Str.ofString "TWO_31", WData.int 2147483648), (Str.ofString "TWO_16", WData.int 65536)] s && recOk (RowW.records PySem.Challenge.rw_nt0352_01.row.toRowW) s) (fun s => spots.map s.heap.get?) (fun w => (Mine.hd0.heap_39 w.params).map fun p => some p.2) 3430 :=
  LeftO.of_pieces (H₀ := boot_heap) (H₁ := fin) (gs₀ := Array.mk []) (gs₁ := #[]) (d₀ := boot_drawn) (d₁ := {}) (k₀ := boot_toks) (k₁ := 665) (m₀ := 11) (ann := some (Value.ref 6)) (M := (12 + (1 + (800 + (800 + (800 + (800 + 2)))))))
    boots bootSize runs rfl
    (fun w => funext fun os => congr (congrArg Prod.mk (look0 w os)) (congr (congrArg Prod.mk (parts5 (x := sees (endsAt w os)) (a := good) (look1 w os) (look2 w os) (look3 w os) (look4 w os) (look5 w os))) (look6 w os)))
end Mine

/-! Base -/
namespace Mine

abbrev Post := Heap → Addr → (Str → Option Value) → List (Addr × Obj) → Shared → (Value → Shared → Prop) → Prop

abbrev Cl (prog : Program) (w : World) (K : Frag) (p : Program) (loose : List Str) (mean : ExcName → Option Value) (mg mb : Str → Option Value) (f : Addr) (lv : Nat) (args : List Value) (post : Post) : Prop :=
  ∀ (dp un : Nat) (gd : Option (List Code)) (cn : Str) (cs : Scope) (a : Addr) (ccd : Value) (cl : List (Str × Addr)) (outer : List Env) (A₀ : Around) (base h₀ : Heap) (L : Addr) (m : Str → Option Value) (news : List (Addr × Obj)) (s : Shared) (Q E : Value → Shared → Prop),
    Below A₀ base outer h₀ → Fr h₀ L s.heap m → K.In h₀ → News h₀ L s.heap news → Top p loose mean mg mb h₀ → cs.kind = .function → dp + lv < recursionLimit → un + 8 * lv < cLine →
    post h₀ L m news s Q →
    wpAny (model prog w) (ktrTop dp un gd cn cs L a ccd cl outer) (call (.ref f) args) Q E s

/-- one value comes back -/
abbrev Ret (mk : Tok → Value) : Post := fun h₀ L m news s Q =>
  ∀ (t : Tok) (h' : Heap) (tk' : Nat), Fr h₀ L h' m → News h₀ L h' news → Q (mk t) { s with heap := h', toks := tk' }

def tupObj (vs : List Value) (c : Nat) : Obj := { cls := .type "tuple", data := .seq vs.toArray c }

/-- a new tuple of two, of three comes back -/
abbrev Ret2 (mk1 mk2 : Tok → Value) : Post := fun h₀ L m news s Q =>
  ∀ (D : Addr) (t1 t2 : Tok) (c : Nat) (h' : Heap) (tk' : Nat), Fr h₀ L h' m → News h₀ L h' ((D, ({ cls := .type "tuple", data := .seq #[mk1 t1, mk2 t2] c } : Obj)) :: news) → Q (.ref D) { s with heap := h', toks := tk' }
abbrev Ret3 (mk1 mk2 mk3 : Tok → Value) : Post := fun h₀ L m news s Q =>
  ∀ (D : Addr) (t1 t2 t3 : Tok) (c : Nat) (h' : Heap) (tk' : Nat), Fr h₀ L h' m → News h₀ L h' ((D, ({ cls := .type "tuple", data := .seq #[mk1 t1, mk2 t2, mk3 t3] c } : Obj)) :: news) → Q (.ref D) { s with heap := h', toks := tk' }

abbrev Cl' (w : World) (mean : ExcName → Option Value) (mg mb : Str → Option Value) (f : Addr) (lv : Nat) (args : List Value) (post : Post) : Prop :=
  Cl Challenge.rw_nt0352_01.row.prog w (Mine.hd0.heap_39 w.params) Mine.seenTop (looseW Mine.seenTop
      [Str.ofString "SIGN_BIT", Str.ofString "FRACTION_MASK", Str.ofString "HIDDEN_BIT", Str.ofString "ONE",
      Str.ofString "INF", Str.ofString "NAN", Str.ofString "TWO_32", Str.ofString "TWO_31", Str.ofString "TWO_16"]) mean mg mb f lv args post

section
variable {prog : Program} {w : World} {A A₀ : Around} {s : Shared} {K : Frag} {L : Addr} {h₀ base : Heap} {m mg mb : Str → Option Value} {news : List (Addr × Obj)} {p : Program} {loose : List Str} {mean : ExcName → Option Value}

/-- a def is entered over an empty ledger: what stood, stands -/
theorem code_def0 {env : Env} {outer : List Env} {R : Result → Shared → Prop} {name qual : Str} {params : Arguments} {body : List Stmt} {scope : Scope} {dV kV doc pm cdv ct oc : Value} {an od : Option Addr} {osl : Array (Option Value)} {f : Addr} {args : Args} {binds : List (Str × Value)}
    (B : Below A₀ base outer h₀) (F : Fr h₀ L s.heap m) (X₀ : K.In h₀) (T : Top p loose mean mg mb h₀) (hA : A.frames = some (env :: outer)) (hf : env.frame = some L) (hke : env.scope.kind = .function)
    (ho : K.lookup f = some ⟨oc, od, .func (fnOf name qual params body scope dV kV doc pm an cdv ct), osl⟩) (hcd : codeIn K cdv qual = true) (hroom : A.depth < recursionLimit)
    (hbind : BindsTo s (fnOf name qual params body scope dV kV doc pm an cdv ct) args binds) (hloc : ∀ y ∈ binds, scope.names.lookup y.1 = some .local)
    (h : ∀ g L' h₁, s.heap.StaysIn g → Fr h₀ L g m → Fr g L' h₁ (fun y => binds.reverse.lookup y) → News g L' h₁ [] → Below A base (env :: outer) g → K.In g → Top p loose mean mg mb g →
      wpAny (model prog w) (A.deeper (envOf qual scope L' f cdv)) (execs body (envOf qual scope L' f cdv))
        (fun fl s' => LeaveK h₀ L m g R (match fl with | .ret v => v | _ => .none) s')
        (fun e s' => wpAny (model prog w) (A.deeper (envOf qual scope L' f cdv)) (leaving (envOf qual scope L' f cdv) e) (fun _ s'' => R (.error e) s'') (fun e' s'' => R (.error e') s'') s')
        { s with heap := h₁, toks := s.toks + binds.length })
    (hco : scope.isCoroutine = false) (hgen : scope.isGenerator = false) (hk : scope.kind = .function)
    (hcell : ∀ x ∈ scope.names, x.2 ≠ .cell) : codeAny (model prog w) A (.call (.ref f) args) R s := by
  have ho' := (X₀.keeps F.keep) _ _ ho
  obtain ⟨FG, BG, st, lv⟩ := groundX (R := R) (news := []) B F News.nil hA hf hke
  refine codeAny_call_def (fd := fnX name qual params body scope [] dV kV doc pm an cdv ct) (body := body) (binds := binds) hroom ho' rfl (T.nolimit.keeps F.keep) (codeRec_of (X₀.keeps F.keep) hcd) rfl hbind hcell hloc (fun h₁ hns hk₁ => ?_) hco hgen hk
  exact wpAny_mono (h _ s.heap.objs.size h₁ (fun b o e => e) FG ⟨hns, fun b o e => hk₁ b o e, Nat.le_refl _⟩ News.nil BG (X₀.keeps st) (T.keeps st)) (fun fl s' hl => lv _ _ hl) fun _ _ y => y

theorem news_back {g h' : Heap} {L' : Addr} {m' : Str → Option Value} (N : News h₀ L s.heap news) (hg : s.heap.StaysIn g) (F' : Fr g L' h' m') : News h₀ L h' news := fun q hq =>
  ⟨F'.keep _ _ (hg _ _ (N q hq).1), (N q hq).2⟩
theorem news_cons {h' : Heap} {d : Addr × Obj} {l : List (Addr × Obj)} (N : News h₀ L h' news) (N' : News h₀ L h' l) (hd : d ∈ l) : News h₀ L h' (d :: news) := fun q hq => by
  rcases List.mem_cons.mp hq with rfl | hq
  · exact N' _ hd
  · exact N q hq
end

section
variable {h₀ h' g : Heap} {L L' : Addr} {m m' : Str → Option Value} {news own : List (Addr × Obj)} {s : Shared} {Q : Value → Shared → Prop} {tk' : Nat}
theorem ret_i {x y : Int} {t : Tok} (hret : Ret (fun t => .int x t) h₀ L m news s Q) (N : News h₀ L s.heap news) (hg : s.heap.StaysIn g) (F' : Fr g L' h' m') (F : Fr h₀ L h' m) (e : y = x) : Q (.int y t) { s with heap := h', toks := tk' } := by
  subst e
  exact hret t h' tk' F (news_back N hg F')
theorem ret_b {x y : Bool} (hret : Ret (fun _ => .bool x) h₀ L m news s Q) (N : News h₀ L s.heap news) (hg : s.heap.StaysIn g) (F' : Fr g L' h' m') (F : Fr h₀ L h' m) (e : y = x) : Q (.bool y) { s with heap := h', toks := tk' } := by
  subst e
  exact hret 0 h' tk' F (news_back N hg F')
theorem ret_2i {x y x' y' : Int} {D : Addr} {t u : Tok} {c : Nat} (hret : Ret2 (fun t => .int x t) (fun t => .int y t) h₀ L m news s Q) (N : News h₀ L s.heap news) (hg : s.heap.StaysIn g) (F' : Fr g L' h' m') (F : Fr h₀ L h' m)
    (N' : News h₀ L h' own) (hm : (D, ({ cls := .type "tuple", data := .seq #[.int x' t, .int y' u] c } : Obj)) ∈ own) (e : x' = x ∧ y' = y) : Q (.ref D) { s with heap := h', toks := tk' } := by
  obtain ⟨rfl, rfl⟩ := e
  exact hret D t u c h' tk' F (news_cons (news_back N hg F') N' hm)
theorem ret_3i {x y z x' y' z' : Int} {D : Addr} {t u v : Tok} {c : Nat} (hret : Ret3 (fun t => .int x t) (fun t => .int y t) (fun t => .int z t) h₀ L m news s Q) (N : News h₀ L s.heap news) (hg : s.heap.StaysIn g) (F' : Fr g L' h' m') (F : Fr h₀ L h' m)
    (N' : News h₀ L h' own) (hm : (D, ({ cls := .type "tuple", data := .seq #[.int x' t, .int y' u, .int z' v] c } : Obj)) ∈ own) (e : x' = x ∧ y' = y ∧ z' = z) : Q (.ref D) { s with heap := h', toks := tk' } := by
  obtain ⟨rfl, rfl, rfl⟩ := e
  exact hret D t u v c h' tk' F (news_cons (news_back N hg F') N' hm)
end

/-- a side condition of a step, shown behind the walk -/
@[irreducible] def Side (P : Prop) : Prop := P
theorem Side.out {P : Prop} (h : Side P) : P := by unfold Side at h; exact h
theorem Side.mk {P : Prop} (h : P) : Side P := by unfold Side; exact h

section
variable {prog : Program} {w : World} {A : Around} {E : Value → Shared → Prop} {s : Shared} {a b n : Int} {t u : Tok} {Q : Value → Shared → Prop}
theorem my_shl (h0 : Side (0 ≤ n)) (hb : Side ((Builtin.Int.intBits a : Int) + n ≤ 2 ^ 27)) (h : Q (.int (a * 2 ^ n.toNat) s.toks) { s with toks := s.toks + 1 }) : wpAny (model prog w) A (binaryOp .LShift (.int a t) (.int n u)) Q E s := lshift_int h0.out hb.out h
theorem my_shr (h0 : Side (0 ≤ n)) (h : Q (.int (a.fdiv (2 ^ n.toNat)) s.toks) { s with toks := s.toks + 1 }) : wpAny (model prog w) A (binaryOp .RShift (.int a t) (.int n u)) Q E s := rshift_int h0.out h
theorem my_mul (h0 : Side (IntMulOk a b)) (h : Q (.int (a * b) s.toks) { s with toks := s.toks + 1 }) : wpAny (model prog w) A (binaryOp .Mult (.int a t) (.int b u)) Q E s := mul_int h h0.out
theorem my_pow (h0 : Side (0 ≤ n)) (hb : Side ((Builtin.Int.intBits a : Int) * n ≤ 2 ^ 27)) (h : Q (.int (a ^ n.toNat) s.toks) { s with toks := s.toks + 1 }) : wpAny (model prog w) A (binaryOp .Pow (.int a t) (.int n u)) Q E s := pow_int h0.out hb.out h
theorem my_div (h0 : Side (b ≠ 0)) (hb : Side (b.natAbs.log2 < 9000)) (h : Q (.int (a.fdiv b) s.toks) { s with toks := s.toks + 1 }) : wpAny (model prog w) A (binaryOp .FloorDiv (.int a t) (.int b u)) Q E s :=
  floordiv_int h0.out h (Or.inl (PyProof.noPylong_of_log2 hb.out))
theorem my_mod (h0 : Side (b ≠ 0)) (h : Q (.int (a.fmod b) s.toks) { s with toks := s.toks + 1 }) : wpAny (model prog w) A (binaryOp .Mod (.int a t) (.int b u)) Q E s := mod_int' h0.out h
end

/-- a list of ints stands; an int of which P holds comes back -/
abbrev RetL (l : Addr) (vs : List Value) (P : Int → Prop) : Post := fun h₀ L m news s Q =>
  s.heap.IsList l vs.toArray ∧ ∀ (x : Int) (t : Tok) (h' : Heap) (tk' : Nat), P x → Fr h₀ L h' m → News h₀ L h' news → Q (.int x t) { s with heap := h', toks := tk' }
/-- a list of ints stands; a new pair comes back -/
abbrev RetE (l : Addr) (vs : List Value) (P : Int → Int → Prop) (P' : Int → Prop) : Post := fun h₀ L m news s Q =>
  s.heap.IsList l vs.toArray ∧
  (∀ (x y : Int) (D : Addr) (t1 t2 : Tok) (c : Nat) (h' : Heap) (tk' : Nat), P x y → Fr h₀ L h' m → News h₀ L h' ((D, ({ cls := .type "tuple", data := .seq #[.int x t1, .int y t2] c } : Obj)) :: news) → Q (.ref D) { s with heap := h', toks := tk' }) ∧
  (∀ (x : Int) (D : Addr) (t1 : Tok) (c : Nat) (h' : Heap) (tk' : Nat), P' x → Fr h₀ L h' m → News h₀ L h' ((D, ({ cls := .type "tuple", data := .seq #[.int x t1, .none] c } : Obj)) :: news) → Q (.ref D) { s with heap := h', toks := tk' })
section
variable {h₀ h' g : Heap} {L L' l : Addr} {m m' : Str → Option Value} {news own : List (Addr × Obj)} {s : Shared} {Q : Value → Shared → Prop} {tk' : Nat} {vs : List Value}
theorem ret_l {P : Int → Prop} {y : Int} {t : Tok} (hret : RetL l vs P h₀ L m news s Q) (N : News h₀ L s.heap news) (hg : s.heap.StaysIn g) (F' : Fr g L' h' m') (F : Fr h₀ L h' m) (e : P y) : Q (.int y t) { s with heap := h', toks := tk' } :=
  hret.2 y t h' tk' e F (news_back N hg F')
theorem ret_e2 {P : Int → Int → Prop} {P' : Int → Prop} {x y : Int} {D : Addr} {t u : Tok} {c : Nat} (hret : RetE l vs P P' h₀ L m news s Q) (N : News h₀ L s.heap news) (hg : s.heap.StaysIn g) (F' : Fr g L' h' m') (F : Fr h₀ L h' m)
    (N' : News h₀ L h' own) (hm : (D, ({ cls := .type "tuple", data := .seq #[.int x t, .int y u] c } : Obj)) ∈ own) (e : P x y) : Q (.ref D) { s with heap := h', toks := tk' } :=
  hret.2.1 x y D t u c h' tk' e F (news_cons (news_back N hg F') N' hm)
theorem ret_e1 {P : Int → Int → Prop} {P' : Int → Prop} {x : Int} {D : Addr} {t : Tok} {c : Nat} (hret : RetE l vs P P' h₀ L m news s Q) (N : News h₀ L s.heap news) (hg : s.heap.StaysIn g) (F' : Fr g L' h' m') (F : Fr h₀ L h' m)
    (N' : News h₀ L h' own) (hm : (D, ({ cls := .type "tuple", data := .seq #[.int x t, .none] c } : Obj)) ∈ own) (e : P' x) : Q (.ref D) { s with heap := h', toks := tk' } :=
  hret.2.2 x D t c h' tk' e F (news_cons (news_back N hg F') N' hm)
end

theorem use_cl {prog : Program} {w : World} {K : Frag} {p : Program} {loose : List Str} {mean : ExcName → Option Value} {mg mb : Str → Option Value} {f : Addr} {lv : Nat} {args : List Value} {post : Post}
    {dp un : Nat} {gd : Option (List Code)} {cn : Str} {cs : Scope} {a : Addr} {ccd : Value} {cl : List (Str × Addr)} {outer : List Env} {A₀ : Around} {base h₀ : Heap} {L : Addr} {m : Str → Option Value} {news : List (Addr × Obj)} {s : Shared} {Q E : Value → Shared → Prop}
    (B : Below A₀ base outer h₀) (F : Fr h₀ L s.heap m) (X : K.In h₀) (N : News h₀ L s.heap news) (T : Top p loose mean mg mb h₀) (hk : cs.kind = .function) (C : Cl prog w K p loose mean mg mb f lv args post) (hd : dp + lv < recursionLimit) (hu : un + 8 * lv < cLine)
    (hp : post h₀ L m news s Q) : wpAny (model prog w) (ktrTop dp un gd cn cs L a ccd cl outer) (call (.ref f) args) Q E s := C _ _ _ _ _ _ _ _ _ _ _ _ _ _ _ _ _ _ B F X N T hk hd hu hp

/-- an int or None comes back -/
abbrev RetO (o : Option Int) : Post := fun h₀ L m news s Q =>
  (∀ (x : Int) (t : Tok) (h' : Heap) (tk' : Nat), o = some x → Fr h₀ L h' m → News h₀ L h' news → Q (.int x t) { s with heap := h', toks := tk' }) ∧
  (∀ (h' : Heap) (tk' : Nat), o = none → Fr h₀ L h' m → News h₀ L h' news → Q .none { s with heap := h', toks := tk' })
/-- an int of which P holds comes back -/
abbrev RetP (P : Int → Prop) : Post := fun h₀ L m news s Q =>
  ∀ (x : Int) (t : Tok) (h' : Heap) (tk' : Nat), P x → Fr h₀ L h' m → News h₀ L h' news → Q (.int x t) { s with heap := h', toks := tk' }
section
variable {h₀ h' g : Heap} {L L' : Addr} {m m' : Str → Option Value} {news own : List (Addr × Obj)} {s : Shared} {Q : Value → Shared → Prop} {tk' : Nat}
theorem ret_oi {o : Option Int} {y : Int} {t : Tok} (hret : RetO o h₀ L m news s Q) (N : News h₀ L s.heap news) (hg : s.heap.StaysIn g) (F' : Fr g L' h' m') (F : Fr h₀ L h' m) (e : o = some y) : Q (.int y t) { s with heap := h', toks := tk' } :=
  hret.1 y t h' tk' e F (news_back N hg F')
theorem ret_on {o : Option Int} (hret : RetO o h₀ L m news s Q) (N : News h₀ L s.heap news) (hg : s.heap.StaysIn g) (F' : Fr g L' h' m') (F : Fr h₀ L h' m) (e : o = none) : Q .none { s with heap := h', toks := tk' } :=
  hret.2 h' tk' e F (news_back N hg F')
theorem ret_p {P : Int → Prop} {y : Int} {t : Tok} (hret : RetP P h₀ L m news s Q) (N : News h₀ L s.heap news) (hg : s.heap.StaysIn g) (F' : Fr g L' h' m') (F : Fr h₀ L h' m) (e : P y) : Q (.int y t) { s with heap := h', toks := tk' } :=
  hret y t h' tk' e F (news_back N hg F')
end
end Mine
namespace Mine
theorem cases15 {r : Int} (h0 : 0 ≤ r) (h1 : r < 15) : r = 0 ∨ r = 1 ∨ r = 2 ∨ r = 3 ∨ r = 4 ∨ r = 5 ∨ r = 6 ∨ r = 7 ∨ r = 8 ∨ r = 9 ∨ r = 10 ∨ r = 11 ∨ r = 12 ∨ r = 13 ∨ r = 14 := by omega
theorem my_mod15 {prog : Program} {w : World} {A : Around} {E : Value → Shared → Prop} {s : Shared} {a : Int} {t u : Tok} {Q : Value → Shared → Prop} (h0 : Q (.int 0 s.toks) { s with toks := s.toks + 1 }) (h1 : Q (.int 1 s.toks) { s with toks := s.toks + 1 }) (h2 : Q (.int 2 s.toks) { s with toks := s.toks + 1 }) (h3 : Q (.int 3 s.toks) { s with toks := s.toks + 1 }) (h4 : Q (.int 4 s.toks) { s with toks := s.toks + 1 }) (h5 : Q (.int 5 s.toks) { s with toks := s.toks + 1 }) (h6 : Q (.int 6 s.toks) { s with toks := s.toks + 1 }) (h7 : Q (.int 7 s.toks) { s with toks := s.toks + 1 }) (h8 : Q (.int 8 s.toks) { s with toks := s.toks + 1 }) (h9 : Q (.int 9 s.toks) { s with toks := s.toks + 1 }) (h10 : Q (.int 10 s.toks) { s with toks := s.toks + 1 }) (h11 : Q (.int 11 s.toks) { s with toks := s.toks + 1 }) (h12 : Q (.int 12 s.toks) { s with toks := s.toks + 1 }) (h13 : Q (.int 13 s.toks) { s with toks := s.toks + 1 }) (h14 : Q (.int 14 s.toks) { s with toks := s.toks + 1 }) : wpAny (model prog w) A (binaryOp .Mod (.int a t) (.int 15 u)) Q E s := by
  refine mod_int' (by decide) ?_
  rcases cases15 (Int.fmod_nonneg_of_pos a (by decide : (0 : Int) < 15)) (Int.fmod_lt_of_pos a (by decide)) with h | h | h | h | h | h | h | h | h | h | h | h | h | h | h <;> (rw [h]; assumption)
end Mine
namespace Mine
theorem newsList {h₀ h : Heap} {L l : Addr} {news : List (Addr × Obj)} {vs : List Value} {n : Nat} (N : News h₀ L h news) (hm : (l, PySem.W.listOf vs.toArray n) ∈ news) : h.IsList l vs.toArray := ⟨_, (N _ hm).1, rfl, n, rfl⟩
end Mine


/-! Plain -/
namespace Mine

@[irreducible] def W (n : Int) : Int := ((Builtin.Int.intBits n : Nat) : Int)
@[irreducible] def isNeg (b : Int) : Bool := b.fdiv (2 ^ Int.toNat 63) == 1
@[irreducible] def isNan (b : Int) : Bool := decide (9218868437227405312 < Builtin.bitAnd b (9223372036854775808 - 1))
@[irreducible] def isInf (b : Int) : Bool := Builtin.bitAnd b (9223372036854775808 - 1) == 9218868437227405312
@[irreducible] def isFin (b : Int) : Bool := decide (Builtin.bitAnd b (9223372036854775808 - 1) < 9218868437227405312)
@[irreducible] def isZero (b : Int) : Bool := Builtin.bitAnd b (9223372036854775808 - 1) == 0
@[irreducible] def signedF (s b : Int) : Int := Builtin.bitOr (Builtin.bitAnd b (9223372036854775808 - 1)) (s * 2 ^ Int.toNat 63)
@[irreducible] def packF (s e f : Int) : Int := Builtin.bitOr (Builtin.bitOr (s * 2 ^ Int.toNat 63) (e * 2 ^ Int.toNat 52)) f
@[irreducible] def pSign (b : Int) : Int := b.fdiv (2 ^ Int.toNat 63)
@[irreducible] def pMan (b : Int) : Int := if Builtin.bitAnd (b.fdiv (2 ^ Int.toNat 52)) 2047 = 0 then Builtin.bitAnd b 4503599627370495 else Builtin.bitOr (Builtin.bitAnd b 4503599627370495) 4503599627370496
@[irreducible] def pPow (b : Int) : Int := if Builtin.bitAnd (b.fdiv (2 ^ Int.toNat 52)) 2047 = 0 then -1074 else Builtin.bitAnd (b.fdiv (2 ^ Int.toNat 52)) 2047 - 1075
@[irreducible] def qW (t b p : Int) : Int := if 0 ≤ p then t.fdiv (b * 2 ^ p.toNat) else (t * 2 ^ (-p).toNat).fdiv b
@[irreducible] def qR (t b p : Int) : Int := if 0 ≤ p then t.fmod (b * 2 ^ p.toNat) else (t * 2 ^ (-p).toNat).fmod b
@[irreducible] def qU (b p : Int) : Int := if 0 ≤ p then b * 2 ^ p.toNat else b
@[irreducible] def asW (w : Int) : Int := if w = 4503599627370496 * 2 ^ Int.toNat 1 then 4503599627370496 else w
@[irreducible] def asP (w p : Int) : Int := if w = 4503599627370496 * 2 ^ Int.toNat 1 then p + 1 else p
@[irreducible] def assembledF (s w p : Int) : Int :=
  if asW w < 4503599627370496 then Builtin.bitOr (s * 2 ^ Int.toNat 63) (asW w)
  else if 2047 ≤ asP w p + 1075 then signedF s 9218868437227405312 else packF s (asP w p + 1075) (asW w - 4503599627370496)
@[irreducible] def rrP0 (t b : Int) : Int := if (-1074 : Int) > W t - W b - 53 then -1074 else W t - W b - 53
@[irreducible] def rrP (t b : Int) : Int := if 4503599627370496 * 2 ^ Int.toNat 1 ≤ qW t b (rrP0 t b) then rrP0 t b + 1 else rrP0 t b
@[irreducible] def rrW (t b : Int) : Int :=
  if qU b (rrP t b) < 2 * qR t b (rrP t b) ∨ (2 * qR t b (rrP t b) = qU b (rrP t b) ∧ (qW t b (rrP t b)).fmod 2 = 1) then qW t b (rrP t b) + 1 else qW t b (rrP t b)
@[irreducible] def roundRatio (s t b : Int) : Int := if t = 0 then s * 2 ^ Int.toNat 63 else assembledF s (rrW t b) (rrP t b)
@[irreducible] def roundScaled (s m p : Int) : Int :=
  if m = 0 ∨ W m + p ≤ -1074 - 1 then s * 2 ^ Int.toNat 63
  else if 1024 < W m + p then signedF s 9218868437227405312
  else if 0 ≤ p then roundRatio s (m * 2 ^ p.toNat) 1 else roundRatio s m (1 * 2 ^ (-p).toNat)
@[irreducible] def intSize (b : Int) : Int := if 0 ≤ pPow b then pMan b * 2 ^ (pPow b).toNat else (pMan b).fdiv (2 ^ (-pPow b).toNat)
@[irreducible] def toInt (b : Int) : Int := if pSign b = 1 then -intSize b else intSize b
@[irreducible] def isWhole (b : Int) : Bool := isFin b && (decide (0 ≤ pPow b) || ((pMan b).fdiv (2 ^ (-pPow b).toNat) * 2 ^ (-pPow b).toNat == pMan b))
@[irreducible] def toU32 (b : Int) : Int := if isFin b = true then (toInt b).fmod 4294967296 else 0
@[irreducible] def toI32 (b : Int) : Int := if 2147483648 ≤ toU32 b then toU32 b - 4294967296 else toU32 b
@[irreducible] def toU16 (b : Int) : Int := if isFin b = true then (toInt b).fmod 65536 else 0
@[irreducible] def spW (b : Int) : Int := if 0 ≤ pPow b then pMan b * 2 ^ (pPow b).toNat else (pMan b).fdiv (2 ^ (-pPow b).toNat)
@[irreducible] def spR (b : Int) : Int := if 0 ≤ pPow b then 0 else Builtin.bitAnd (pMan b) (1 * 2 ^ (-pPow b).toNat - 1)
@[irreducible] def spU (b : Int) : Int := if 0 ≤ pPow b then 1 else 1 * 2 ^ (-pPow b).toNat
@[irreducible] def madeWhole (b size : Int) : Int := roundRatio (b.fdiv (2 ^ Int.toNat 63)) size 1
@[irreducible] def isSettled (b : Int) : Bool := !isFin b || isZero b || spR b == 0
@[irreducible] def toInteger (b : Int) : Int := if isNan b = true then 0 else if isSettled b = true then b else madeWhole b (spW b)
@[irreducible] def floorF (b : Int) : Int := if isSettled b = true then b else madeWhole b (if isNeg b = true then spW b + 1 else spW b)
@[irreducible] def ceilF (b : Int) : Int := if isSettled b = true then b else madeWhole b (if isNeg b = true then spW b else spW b + 1)
@[irreducible] def halfUp (b : Int) : Int := if isSettled b = true then b else
  madeWhole b (if spU b < 2 * spR b ∨ (2 * spR b = spU b ∧ isNeg b = false) then spW b + 1 else spW b)
@[irreducible] def absF (a : Int) : Int := if isNan a = true then a else signedF 0 a
@[irreducible] def orderKey (a : Int) : Int := if isNeg a = true then -(Builtin.bitXor a 9223372036854775808) else a
@[irreducible] def compareF (a b : Int) : Int := if orderKey a = orderKey b then 0 else if orderKey a < orderKey b then -1 else 1
@[irreducible] def isOdd (a : Int) : Bool := isWhole a && ((toInt a).fmod 2 == 1)

end Mine


/-! Plain2 -/
namespace Mine

/-! darith -/
def strip : Nat → Int → Int → Int × Int
  | 0, m, s => (m, s)
  | f + 1, m, s => if m.fmod 2 = 0 then strip f (m.fdiv (2 ^ Int.toNat 1)) (s + 1) else (m, s)
@[irreducible] def wpTop (m s many : Int) : Int := (strip 60 m s).1 ^ (if many < 0 then -many else many).toNat
@[irreducible] def wpPow (m s many : Int) : Int := (strip 60 m s).2 * (if many < 0 then -many else many)
@[irreducible] def wholePower (s0 m s many : Int) : Int :=
  if 0 < many then roundScaled s0 (wpTop m s many) (wpPow m s many)
  else if 1100 < W (wpTop m s many) + wpPow m s many ∨ W (wpTop m s many) + wpPow m s many < -1100 then
    signedF s0 (if 0 < W (wpTop m s many) + wpPow m s many then 0 else 9218868437227405312)
  else if 0 ≤ wpPow m s many then roundRatio s0 1 (wpTop m s many * 2 ^ (wpPow m s many).toNat)
  else roundRatio s0 (1 * 2 ^ (-wpPow m s many).toNat) (wpTop m s many)
@[irreducible] def powerEdge (a b : Int) : Int :=
  if isInf b = true then
    if compareF (absF a) 4607182418800017408 = 0 then 9221120237041090560
    else if (decide (0 < compareF (absF a) 4607182418800017408) != isNeg b) = true then 9218868437227405312 else 0
  else signedF (if isNeg a = true ∧ isOdd b = true then 1 else 0) (if (isInf a != isNeg b) = true then 9218868437227405312 else 0)
@[irreducible] def powerF (a b : Int) : Int :=
  if isNan b = true then 9221120237041090560
  else if isZero b = true then 4607182418800017408
  else if isNan a = true then 9221120237041090560
  else if isInf a = true ∨ isInf b = true ∨ isZero a = true then powerEdge a b
  else if isWhole b = false then 9221120237041090560
  else wholePower (if pSign a = 1 ∧ isOdd b = true then 1 else 0) (pMan a) (pPow a) (toInt b)

/-! the law's own -/
@[irreducible] def lawSize (b : Int) : Int :=
  if (b.fdiv (2 ^ Int.toNat 52)).fmod 2048 = 0 then b.fmod (2 ^ Int.toNat 52)
  else (b.fmod (2 ^ Int.toNat 52) + 2 ^ Int.toNat 52) * 2 ^ ((b.fdiv (2 ^ Int.toNat 52)).fmod 2048 - 1).toNat
@[irreducible] def lawKind (b : Int) : Int :=
  if 9218868437227405312 < b.fmod (2 ^ Int.toNat 63) then 2 else if b.fmod (2 ^ Int.toNat 63) = 9218868437227405312 then 1 else 0
@[irreducible] def lawVal (b : Int) : Int := if 2 ^ Int.toNat 63 ≤ b then -lawSize b else lawSize b
@[irreducible] def lawHere (found whole a : Int) : Bool :=
  if whole = 0 then found == a.fdiv (2 ^ Int.toNat 63) * 2 ^ Int.toNat 63
  else lawKind found == 0 && (lawVal found == whole * 2 ^ Int.toNat 1074)
@[irreducible] def lawCut (a : Int) : Int := (if lawVal a < 0 then -lawVal a else lawVal a).fdiv (2 ^ Int.toNat 1074) * (if lawVal a < 0 then -1 else 1)
@[irreducible] def wholeRight (a : Int) : Bool :=
  if 0 < lawKind a then
    toI32 a == 0 && (toU32 a == 0 && (toU16 a == 0 && (floorF a == a && (ceilF a == a && (halfUp a == a && toInteger a == a)))))
  else
    (toU32 a == (lawCut a).fmod (2 ^ Int.toNat 32) && (toU16 a == (lawCut a).fmod (2 ^ Int.toNat 16) && (toInt a == lawCut a && toI32 a == (lawCut a + 2 ^ Int.toNat 31).fmod (2 ^ Int.toNat 32) - 2 ^ Int.toNat 31)))
    && (lawHere (toInteger a) (lawCut a) a && (lawHere (floorF a) ((lawVal a).fdiv (2 ^ Int.toNat 1074)) a
    && (lawHere (ceilF a) (-(-lawVal a).fdiv (2 ^ Int.toNat 1074)) a && lawHere (halfUp a) ((2 * lawVal a + 2 ^ Int.toNat 1074).fdiv (2 * 2 ^ Int.toNat 1074)) a)))

def oddO : Option Int → Bool
  | some w => decide (w.fmod 2 = 1)
  | none => false
@[irreducible] def toldF (a b : Int) (whole : Option Int) : Option Int :=
  if lawKind b = 2 ∨ whole = some 0 then (if whole = none then some 9221120237041090560 else some 4607182418800017408)
  else if lawKind b = 1 then
    if a.fmod (2 ^ Int.toNat 63) = 4607182418800017408 then some 9221120237041090560
    else if (decide (4607182418800017408 < a.fmod (2 ^ Int.toNat 63)) == decide (b < 2 ^ Int.toNat 63)) = true then some 9218868437227405312 else some 0
  else if ([0, 9218868437227405312].any fun x => x == a.fmod (2 ^ Int.toNat 63)) = true then
    some ((if oddO whole = true then a.fdiv (2 ^ Int.toNat 63) * 2 ^ Int.toNat 63 else 0)
      + (if (decide (0 < a.fmod (2 ^ Int.toNat 63)) == decide (b < 2 ^ Int.toNat 63)) = true then 9218868437227405312 else 0))
  else if whole = none then some 9221120237041090560 else none

end Mine
namespace Mine
@[irreducible] def powerRightN (a b : Int) : Bool := match toldF a b none with | some x => powerF a b == x | none => false
@[irreducible] def lawBelow (x : Int) : Int := if 0 < x then lawSize x + lawSize (x - 1) else 0
@[irreducible] def lawTruth (a k : Int) : Int := if k < 0 then 2 * 2 ^ (1074 * ((if k < 0 then -k else k) + 1)).toNat else 2 * lawSize a ^ (if k < 0 then -k else k).toNat
@[irreducible] def lawUnit (a k : Int) : Int := if k < 0 then lawSize a ^ (if k < 0 then -k else k).toNat else 2 ^ (1074 * ((if k < 0 then -k else k) - 1)).toNat
@[irreducible] def powerEnd (x truth unit : Int) : Bool :=
  if x.fmod 2 = 0 then decide (lawBelow x * unit ≤ truth) && (!decide (x < 9218868437227405312) || decide (truth ≤ (lawSize x + lawSize (x + 1)) * unit))
  else decide (lawBelow x * unit < truth) && decide (truth < (lawSize x + lawSize (x + 1)) * unit)
@[irreducible] def powerRightI (a b k : Int) : Bool := match toldF a b (some k) with
  | some x => powerF a b == x
  | none => powerEnd ((powerF a b).fmod (2 ^ Int.toNat 63)) (lawTruth a k) (lawUnit a k)
@[irreducible] def powerSane (a b k : Int) : Bool :=
  (decide (2 ^ Int.toNat 63 ≤ powerF a b) == (decide (2 ^ Int.toNat 63 ≤ a) && (k.fmod 2 == 1))) && !(lawKind (powerF a b) == 2)
end Mine


/-! Sz -/
namespace Mine
theorem sz_iff {m : Nat} {x : Int} : Builtin.Int.intBits x ≤ m ↔ x.natAbs < 2 ^ m := intBits_le_iff
theorem W_eq (n : Int) : W n = (Builtin.Int.intBits n : Int) := by unfold W; rfl
theorem W_nonneg (n : Int) : 0 ≤ W n := by rw [W_eq]; omega
theorem W_le {n : Int} {k : Nat} (h : Builtin.Int.intBits n ≤ k) : W n ≤ k := by rw [W_eq]; omega
theorem sz_small {k : Int} (h1 : -(2 ^ 64) < k) (h2 : k < 2 ^ 64) : Builtin.Int.intBits k ≤ 64 := intBits_le_64 h1 h2
theorem sz_mul2 {x : Int} {m k : Nat} (h : Builtin.Int.intBits x ≤ m) : Builtin.Int.intBits (x * 2 ^ k) ≤ m + k := by
  rw [sz_iff] at h ⊢
  have e : (2 : Int) ^ k = ((2 ^ k : Nat) : Int) := by simp
  rw [Int.natAbs_mul, e, Int.natAbs_natCast, Nat.pow_add]
  exact (Nat.mul_lt_mul_right (Nat.pow_pos (by decide))).mpr h
theorem sz_two {k : Nat} : Builtin.Int.intBits (1 * 2 ^ k) ≤ 1 + k := sz_mul2 (by decide +kernel)
theorem sz_pow2 {k : Nat} : Builtin.Int.intBits (2 ^ k) ≤ 1 + k := by
  have := sz_two (k := k)
  rwa [Int.one_mul] at this
theorem pow2_pos (k : Nat) : (0 : Int) < 2 ^ k := Int.pow_pos (by decide)
theorem ne_mul2 {x : Int} {k : Nat} (h : 0 < x) : x * 2 ^ k ≠ 0 := Int.ne_of_gt (Int.mul_pos h (pow2_pos k))
theorem nn_mul2 {x : Int} {k : Nat} (h : 0 ≤ x) : 0 ≤ x * 2 ^ k := Int.mul_nonneg h (Int.le_of_lt (pow2_pos k))
theorem pos_mul2 {x : Int} {k : Nat} (h : 0 < x) : 0 < x * 2 ^ k := Int.mul_pos h (pow2_pos k)
theorem log_of_sz {x : Int} (h : Builtin.Int.intBits x ≤ 9000) : x.natAbs.log2 < 9000 := by
  rw [sz_iff] at h
  by_cases h0 : x.natAbs = 0
  · rw [h0]; decide +kernel
  · exact (Nat.log2_lt h0).mpr h
theorem log_mul2 {x p : Int} (h : Builtin.Int.intBits x ≤ 4100) (hp : p ≤ 4100) : (x * 2 ^ p.toNat).natAbs.log2 < 9000 := log_of_sz (Nat.le_trans (sz_mul2 h) (by omega))
theorem mulOk {x y : Int} (hx : Builtin.Int.intBits x ≤ 1000000) (hy : Builtin.Int.intBits y ≤ 1000000) : IntMulOk x y := .of_bits (Nat.le_trans hx (by decide)) (Nat.le_trans hy (by decide))
theorem sz_le_of_lt {x : Int} {m : Nat} (h0 : 0 ≤ x) (h : x < 2 ^ m) : Builtin.Int.intBits x ≤ m := by
  rw [sz_iff]
  have e : (2 : Int) ^ m = ((2 ^ m : Nat) : Int) := by simp
  rw [e] at h
  omega
theorem sz_fdiv {x y : Int} {m : Nat} (h : Builtin.Int.intBits x ≤ m) : Builtin.Int.intBits (x.fdiv y) ≤ m := intBits_fdiv_le h
theorem sz_succ {x : Int} {m : Nat} (h : Builtin.Int.intBits x ≤ m) (hm : 1 ≤ m) : Builtin.Int.intBits (x + 1) ≤ m + 1 := by
  have := intBits_add_le (y := 1) (n := 1) h (by decide +kernel)
  exact Nat.le_trans this (by omega)
theorem nn_fdiv2 {x : Int} {k : Nat} (h : 0 ≤ x) : 0 ≤ x.fdiv (2 ^ k) := by
  rw [Int.fdiv_eq_ediv_of_nonneg _ (Int.le_of_lt (pow2_pos k))]
  exact Int.ediv_nonneg h (Int.le_of_lt (pow2_pos k))

/-! width -/
theorem W_shift {n k : Int} (_hk : 0 ≤ k) (h : 1 * 2 ^ k.toNat ≤ n) : k + W (n.fdiv (2 ^ k.toNat)) = W n := by
  rw [Int.one_mul] at h
  have hp := pow2_pos k.toNat
  rw [Int.fdiv_eq_ediv_of_nonneg _ (Int.le_of_lt hp), W_eq, W_eq]
  have e : (2 : Int) ^ k.toNat = ((2 ^ k.toNat : Nat) : Int) := by simp
  rw [e] at h ⊢
  obtain ⟨m, rfl⟩ : ∃ m : Nat, n = (m : Int) := ⟨n.toNat, by omega⟩
  have h' : 2 ^ k.toNat ≤ m := by omega
  rw [← Int.natCast_ediv]
  have hm : m ≠ 0 := by have := Nat.pow_pos (n := k.toNat) (show 0 < 2 by decide); omega
  have hq : m / 2 ^ k.toNat ≠ 0 := by
    intro h0
    rcases (Nat.div_eq_zero_iff).mp h0 with h1 | h1
    · have := Nat.pow_pos (n := k.toNat) (show 0 < 2 by decide); omega
    · omega
  have f1 : Builtin.Int.intBits ((m : Nat) : Int) = m.log2 + 1 := by
    show (if ((m : Int) == 0) = true then 0 else (m : Int).natAbs.log2 + 1) = _
    rw [if_neg (by simpa using hm), Int.natAbs_natCast]
  have f2 : Builtin.Int.intBits ((m / 2 ^ k.toNat : Nat) : Int) = (m / 2 ^ k.toNat).log2 + 1 := by
    show (if (((m / 2 ^ k.toNat : Nat) : Int) == 0) = true then 0 else ((m / 2 ^ k.toNat : Nat) : Int).natAbs.log2 + 1) = _
    rw [if_neg (fun h9 => hq (Int.natCast_eq_zero.mp (eq_of_beq h9))), Int.natAbs_natCast]
  rw [f1, f2]
  have g : (m / 2 ^ k.toNat).log2 + k.toNat = m.log2 := by
    have a1 := Nat.log2_self_le hm
    have a2 : m < 2 ^ (m.log2 + 1) := Nat.lt_log2_self
    have b1 := Nat.log2_self_le hq
    have b2 : m / 2 ^ k.toNat < 2 ^ ((m / 2 ^ k.toNat).log2 + 1) := Nat.lt_log2_self
    have c1 : 2 ^ ((m / 2 ^ k.toNat).log2 + k.toNat) ≤ m := by
      rw [Nat.pow_add]
      exact Nat.le_trans (Nat.mul_le_mul_right _ b1) (Nat.div_mul_le_self m _)
    have c2 : m < 2 ^ ((m / 2 ^ k.toNat).log2 + 1 + k.toNat) := by
      rw [Nat.pow_add]
      exact (Nat.div_lt_iff_lt_mul (Nat.pow_pos (by decide))).mp b2
    have d1 : (m / 2 ^ k.toNat).log2 + k.toNat < m.log2 + 1 := (Nat.pow_lt_pow_iff_right (by decide : 1 < 2)).mp (Nat.lt_of_le_of_lt c1 a2)
    have d2 : m.log2 < (m / 2 ^ k.toNat).log2 + 1 + k.toNat := (Nat.pow_lt_pow_iff_right (by decide : 1 < 2)).mp (Nat.lt_of_le_of_lt a1 c2)
    omega
  omega
def wStep (k : Int) (p : Int × Int) : Int × Int := if 1 * 2 ^ k.toNat ≤ p.1 then (p.1.fdiv (2 ^ k.toNat), p.2 + k) else p
def wTail (n m : Int) : Int := (wStep 1 (wStep 2 (wStep 4 (wStep 8 (wStep 16 (wStep 32 (n, m))))))).2 + (wStep 1 (wStep 2 (wStep 4 (wStep 8 (wStep 16 (wStep 32 (n, m))))))).1
theorem wStep_spec {k : Int} {p : Int × Int} (hk : 0 ≤ k) (h0 : 0 ≤ p.1) : 0 ≤ (wStep k p).1 ∧ (wStep k p).2 + W (wStep k p).1 = p.2 + W p.1 := by
  unfold wStep
  split
  · rename_i h
    refine ⟨nn_fdiv2 h0, ?_⟩
    have := W_shift hk h
    show p.2 + k + W (p.1.fdiv (2 ^ k.toNat)) = _
    omega
  · exact ⟨h0, rfl⟩
theorem wStep_lt {k' : Int} {k j : Nat} {p : Int × Int} (e : k'.toNat = k) (_h0 : 0 ≤ p.1) (h : p.1 < 2 ^ (k + j)) (hj : j ≤ k) : (wStep k' p).1 < 2 ^ k := by
  unfold wStep
  rw [e]
  split
  · show p.1.fdiv (2 ^ k) < 2 ^ k
    rw [Int.fdiv_eq_ediv_of_nonneg _ (Int.le_of_lt (pow2_pos k))]
    refine Int.ediv_lt_of_lt_mul (pow2_pos k) ?_
    rw [← Int.pow_add]
    refine Int.lt_of_lt_of_le h ?_
    have := Nat.pow_le_pow_right (show 0 < 2 by decide) (show k + j ≤ k + k by omega)
    have e1 : (2 : Int) ^ (k + j) = ((2 ^ (k + j) : Nat) : Int) := by simp
    have e2 : (2 : Int) ^ (k + k) = ((2 ^ (k + k) : Nat) : Int) := by simp
    rw [e1, e2]
    exact Int.ofNat_le.mpr this
  · rename_i h'
    omega
theorem wTail_eq {n m : Int} (h0 : 0 ≤ n) (h : ¬ 1 * 2 ^ Int.toNat 64 ≤ n) : wTail n m = m + W n := by
  have a1 := wStep_spec (k := 32) (p := (n, m)) (by decide) h0
  have a2 := wStep_spec (k := 16) (by decide) a1.1
  have a3 := wStep_spec (k := 8) (by decide) a2.1
  have a4 := wStep_spec (k := 4) (by decide) a3.1
  have a5 := wStep_spec (k := 2) (by decide) a4.1
  have a6 := wStep_spec (k := 1) (by decide) a5.1
  have b0 : (n, m).1 < 2 ^ (32 + 32) := by
    show n < _
    have e : (1 : Int) * 2 ^ Int.toNat 64 = 2 ^ (32 + 32) := by decide +kernel
    rw [e] at h
    omega
  have b1 := wStep_lt (k' := 32) (k := 32) (j := 32) (by decide) h0 b0 (Nat.le_refl _)
  have b2 := wStep_lt (k' := 16) (k := 16) (j := 16) (by decide) a1.1 b1 (Nat.le_refl _)
  have b3 := wStep_lt (k' := 8) (k := 8) (j := 8) (by decide) a2.1 b2 (Nat.le_refl _)
  have b4 := wStep_lt (k' := 4) (k := 4) (j := 4) (by decide) a3.1 b3 (Nat.le_refl _)
  have b5 := wStep_lt (k' := 2) (k := 2) (j := 2) (by decide) a4.1 b4 (Nat.le_refl _)
  have b6 := wStep_lt (k' := 1) (k := 1) (j := 1) (by decide) a5.1 b5 (Nat.le_refl _)
  have key : ∀ x : Int, 0 ≤ x → x < 2 ^ 1 → W x = x := by
    intro x hx hx'
    have : x = 0 ∨ x = 1 := by omega
    rcases this with rfl | rfl <;> (unfold W; decide +kernel)
  unfold wTail
  have := key _ a6.1 b6
  have e1 := a1.2
  have e2 := a2.2
  have e3 := a3.2
  have e4 := a4.2
  have e5 := a5.2
  have e6 := a6.2
  have e7 : (n, m).2 + W (n, m).1 = m + W n := rfl
  omega
theorem wTail_inv {n n' many : Int} (h0 : 0 ≤ n') (h1 : many + W n' = W n) (h2 : ¬ 1 * 2 ^ Int.toNat 64 ≤ n') : wTail n' many = W n := (wTail_eq h0 h2).trans h1
theorem w_turn {n n' many : Int} (h0 : 0 ≤ n') (hm : 0 ≤ many) (h1 : many + W n' = W n) (h2 : 1 * 2 ^ Int.toNat 64 ≤ n') : 0 ≤ n'.fdiv (2 ^ Int.toNat 64) ∧ 0 ≤ many + 64 ∧ many + 64 + W (n'.fdiv (2 ^ Int.toNat 64)) = W n := by
  have := W_shift (k := 64) (by decide) h2
  exact ⟨nn_fdiv2 h0, by omega, by omega⟩
theorem w_less {n' : Int} (h2 : 1 * 2 ^ Int.toNat 64 ≤ n') : (n'.fdiv (2 ^ Int.toNat 64)).toNat < n'.toNat := by
  have hp := pow2_pos (Int.toNat 64)
  rw [Int.fdiv_eq_ediv_of_nonneg _ (Int.le_of_lt hp)]
  have e : (2 : Int) ^ Int.toNat 64 = 18446744073709551616 := by decide +kernel
  rw [e] at *
  omega
end Mine
namespace Mine
theorem man_sz {b : Int} (h0 : 0 ≤ pMan b) (h1 : pMan b < 9007199254740992) : Builtin.Int.intBits (pMan b) ≤ 53 := sz_le_of_lt h0 (Int.lt_of_lt_of_le h1 (by decide))
theorem spW_nn {b : Int} (h0 : 0 ≤ pMan b) : 0 ≤ spW b := by
  unfold spW
  split
  · exact nn_mul2 h0
  · exact nn_fdiv2 h0
theorem spW_sz {b : Int} (h0 : 0 ≤ pMan b) (h1 : pMan b < 9007199254740992) (h2 : pPow b ≤ 1000) : Builtin.Int.intBits (spW b) ≤ 2000 := by
  unfold spW
  split
  · exact Nat.le_trans (sz_mul2 (man_sz h0 h1)) (by omega)
  · exact Nat.le_trans (sz_fdiv (man_sz h0 h1)) (by omega)
end Mine

namespace Mine
theorem fmod_bd {x y : Int} (h : 0 < y) : 0 ≤ x.fmod y ∧ x.fmod y < y := ⟨Int.fmod_nonneg_of_pos x h, Int.fmod_lt_of_pos x h⟩
theorem lawSize_sz (b : Int) : Builtin.Int.intBits (lawSize b) ≤ 2200 := by
  have e52 : (2 : Int) ^ Int.toNat 52 = 4503599627370496 := by decide +kernel
  unfold lawSize
  have h1 := fmod_bd (x := b) (y := 2 ^ Int.toNat 52) (pow2_pos _)
  have h2 := fmod_bd (x := b.fdiv (2 ^ Int.toNat 52)) (y := 2048) (by decide)
  split
  · refine Nat.le_trans (sz_le_of_lt (m := 52) h1.1 ?_) (by decide)
    exact h1.2
  · have h3 : Builtin.Int.intBits (b.fmod (2 ^ Int.toNat 52) + 2 ^ Int.toNat 52) ≤ 53 := by
      refine sz_le_of_lt ?_ ?_
      · have := pow2_pos (Int.toNat 52); omega
      · rw [e52] at *
        have e53 : (2 : Int) ^ 53 = 9007199254740992 := by decide +kernel
        rw [e53]; omega
    exact Nat.le_trans (sz_mul2 h3) (by omega)
theorem lawVal_sz (b : Int) : Builtin.Int.intBits (lawVal b) ≤ 2200 := by
  unfold lawVal
  split
  · exact intBits_neg_le (lawSize_sz b)
  · exact lawSize_sz b
theorem sz_ite {c : Prop} [Decidable c] {x y : Int} {m : Nat} (hx : Builtin.Int.intBits x ≤ m) (hy : Builtin.Int.intBits y ≤ m) : Builtin.Int.intBits (if c then x else y) ≤ m := by split <;> assumption
theorem sz_neg {x : Int} {m : Nat} (h : Builtin.Int.intBits x ≤ m) : Builtin.Int.intBits (-x) ≤ m := intBits_neg_le h
theorem lawNum_nn (b : Int) : 0 ≤ (b.fdiv (2 ^ Int.toNat 52)).fmod 2048 := (fmod_bd (by decide)).1
theorem lawNum_lt (b : Int) : (b.fdiv (2 ^ Int.toNat 52)).fmod 2048 < 2048 := (fmod_bd (by decide)).2
theorem lawFrac_sz (b : Int) : Builtin.Int.intBits (b.fmod (2 ^ Int.toNat 52) + 2 ^ Int.toNat 52) ≤ 53 := by
  have e52 : (2 : Int) ^ Int.toNat 52 = 4503599627370496 := by decide +kernel
  have h1 := fmod_bd (x := b) (y := 2 ^ Int.toNat 52) (pow2_pos _)
  refine sz_le_of_lt ?_ ?_
  · have := pow2_pos (Int.toNat 52); omega
  · rw [e52] at *
    have e53 : (2 : Int) ^ 53 = 9007199254740992 := by decide +kernel
    rw [e53]; omega
end Mine
namespace Mine
theorem sz_half {v y : Int} (h : Builtin.Int.intBits v ≤ 2200) : Builtin.Int.intBits ((2 * v + 2 ^ Int.toNat 1074).fdiv y) ≤ 4000 := by
  have h1 : Builtin.Int.intBits (2 * v) ≤ 2 + 2200 := intBits_mul_le (by decide +kernel) h
  have h2 : Builtin.Int.intBits ((2 : Int) ^ Int.toNat 1074) ≤ 1075 := by decide +kernel
  exact Nat.le_trans (sz_fdiv (intBits_add_le h1 h2)) (by decide)
theorem fin_of_whole {b : Int} (h : isWhole b = true) : isFin b = true := by
  unfold isWhole at h
  exact (Bool.and_eq_true_iff.mp h).1

/-! raised -/
def RI (m0 s0 k found shift mantissa scale many : Int) : Prop := 0 ≤ many ∧ many ≤ 5 ∧ 1 ≤ mantissa ∧ 1 ≤ found ∧ found * mantissa ^ many.toNat = m0 ^ k.toNat ∧ shift + scale * many = s0 * k
theorem ri_start {m0 s0 k : Int} (h : 0 < m0) (h0 : 0 ≤ k) (h5 : k ≤ 5) : RI m0 s0 k 1 0 m0 s0 k := ⟨h0, h5, by omega, by omega, by rw [Int.one_mul], by rw [Int.zero_add]⟩
theorem mul_ge_one {a b : Int} (ha : 1 ≤ a) (hb : 1 ≤ b) : 1 ≤ a * b := Int.le_trans hb (by have := Int.mul_le_mul_of_nonneg_right ha (show 0 ≤ b by omega); rwa [Int.one_mul] at this)
theorem ri_go {m0 s0 k found shift mantissa scale many : Int} (h : RI m0 s0 k found shift mantissa scale many) (h0 : 0 < many) (h1 : many.fmod 2 = 1) : RI m0 s0 k (found * mantissa) (shift + scale) (mantissa * mantissa) (2 * scale) (many.fdiv 2) := by
  obtain ⟨a1, a2, a3, a4, a5, a6⟩ := h
  have hm : many = 1 ∨ many = 3 ∨ many = 5 := by
    have : many = 1 ∨ many = 2 ∨ many = 3 ∨ many = 4 ∨ many = 5 := by omega
    rcases this with rfl | rfl | rfl | rfl | rfl <;> first | omega | (exfalso; revert h1; decide)
  have b1 := mul_ge_one a4 a3
  have b2 := mul_ge_one a3 a3
  rcases hm with rfl | rfl | rfl
  · refine ⟨by decide, by decide, b2, b1, ?_, ?_⟩
    · rw [← a5]; show found * mantissa * (mantissa * mantissa) ^ 0 = found * mantissa ^ 1; simp only [Int.pow_succ, Int.pow_zero, Int.one_mul, Int.mul_one]
    · rw [show (1 : Int).fdiv 2 = 0 from rfl]; omega
  · refine ⟨by decide, by decide, b2, b1, ?_, ?_⟩
    · rw [← a5]; show found * mantissa * (mantissa * mantissa) ^ 1 = found * mantissa ^ 3; simp only [Int.pow_succ, Int.pow_zero, Int.one_mul]; ac_rfl
    · rw [show (3 : Int).fdiv 2 = 1 from rfl]; omega
  · refine ⟨by decide, by decide, b2, b1, ?_, ?_⟩
    · rw [← a5]; show found * mantissa * (mantissa * mantissa) ^ 2 = found * mantissa ^ 5; simp only [Int.pow_succ, Int.pow_zero, Int.one_mul]; ac_rfl
    · rw [show (5 : Int).fdiv 2 = 2 from rfl]; omega
theorem ri_stop {m0 s0 k found shift mantissa scale many : Int} (h : RI m0 s0 k found shift mantissa scale many) (h0 : 0 < many) (h1 : many.fmod 2 = 1) (h2 : ¬ 0 < many.fdiv 2) : RI m0 s0 k (found * mantissa) (shift + scale) mantissa scale (many.fdiv 2) := by
  obtain ⟨a1, a2, a3, a4, a5, a6⟩ := h
  have hm : many = 1 := by
    have : many = 1 ∨ many = 2 ∨ many = 3 ∨ many = 4 ∨ many = 5 := by omega
    rcases this with rfl | rfl | rfl | rfl | rfl <;> first | omega | (exfalso; revert h1; decide) | (exfalso; revert h2; decide)
  subst hm
  refine ⟨by decide, by decide, a3, mul_ge_one a4 a3, ?_, ?_⟩
  · rw [← a5]; show found * mantissa * mantissa ^ 0 = found * mantissa ^ 1; simp only [Int.pow_succ, Int.pow_zero, Int.one_mul, Int.mul_one]
  · rw [show (1 : Int).fdiv 2 = 0 from rfl]; omega
theorem ri_even {m0 s0 k found shift mantissa scale many : Int} (h : RI m0 s0 k found shift mantissa scale many) (h0 : 0 < many) (h1 : many.fmod 2 ≠ 1) : RI m0 s0 k found shift (mantissa * mantissa) (2 * scale) (many.fdiv 2) := by
  obtain ⟨a1, a2, a3, a4, a5, a6⟩ := h
  have hm : many = 2 ∨ many = 4 := by
    have : many = 1 ∨ many = 2 ∨ many = 3 ∨ many = 4 ∨ many = 5 := by omega
    rcases this with rfl | rfl | rfl | rfl | rfl <;> first | omega | (exfalso; exact h1 (by decide))
  have b2 := mul_ge_one a3 a3
  rcases hm with rfl | rfl
  · refine ⟨by decide, by decide, b2, a4, ?_, ?_⟩
    · rw [← a5]; show found * (mantissa * mantissa) ^ 1 = found * mantissa ^ 2; simp only [Int.pow_succ, Int.pow_zero, Int.one_mul]
    · rw [show (2 : Int).fdiv 2 = 1 from rfl]; omega
  · refine ⟨by decide, by decide, b2, a4, ?_, ?_⟩
    · rw [← a5]; show found * (mantissa * mantissa) ^ 2 = found * mantissa ^ 4; simp only [Int.pow_succ, Int.pow_zero, Int.one_mul]; ac_rfl
    · rw [show (4 : Int).fdiv 2 = 2 from rfl]; omega
theorem ri_less {many : Int} (h : 0 < many) : (many.fdiv 2).toNat < many.toNat := by
  rw [Int.fdiv_eq_ediv_of_nonneg _ (by decide)]
  omega
theorem pow_ge {a : Int} (h : 1 ≤ a) : ∀ n : Nat, 1 ≤ a ^ n
  | 0 => by rw [Int.pow_zero]; omega
  | n + 1 => by rw [Int.pow_succ]; exact mul_ge_one (pow_ge h n) h
theorem ri_bounds {m0 s0 k found shift mantissa scale many : Int} (h : RI m0 s0 k found shift mantissa scale many) (h0 : 0 < many) (hm : Builtin.Int.intBits m0 ≤ 53) (hk : k ≤ 5) : Builtin.Int.intBits found ≤ 300 ∧ Builtin.Int.intBits mantissa ≤ 300 ∧ 0 ≤ found * mantissa ∧ 0 ≤ mantissa * mantissa := by
  obtain ⟨a1, a2, a3, a4, a5, a6⟩ := h
  have b1 := mul_ge_one a4 a3
  have b2 := mul_ge_one a3 a3
  have hT : Builtin.Int.intBits (m0 ^ k.toNat) ≤ 300 := Nat.le_trans (intBits_pow_le hm k.toNat) (by omega)
  have c1 := pow_ge a3 many.toNat
  have c2 : found ≤ m0 ^ k.toNat := by
    rw [← a5]
    have := Int.mul_le_mul_of_nonneg_left c1 (show 0 ≤ found by omega)
    rwa [Int.mul_one] at this
  have c3 : mantissa ≤ m0 ^ k.toNat := by
    rw [← a5]
    obtain ⟨n, hn⟩ : ∃ n, many.toNat = n + 1 := ⟨many.toNat - 1, by omega⟩
    rw [hn, Int.pow_succ]
    have d1 := mul_ge_one a4 (pow_ge a3 n)
    have := Int.mul_le_mul_of_nonneg_right d1 (show 0 ≤ mantissa by omega)
    rw [Int.one_mul, Int.mul_assoc] at this
    exact this
  exact ⟨intBits_le_of_natAbs (by omega) hT, intBits_le_of_natAbs (by omega) hT, by omega, by omega⟩
theorem ri_end {m0 s0 k found shift mantissa scale many : Int} (h : RI m0 s0 k found shift mantissa scale many) (h0 : ¬ 0 < many) : found = m0 ^ k.toNat ∧ shift = s0 * k := by
  obtain ⟨a1, a2, a3, a4, a5, a6⟩ := h
  have : many = 0 := by omega
  subst this
  rw [show Int.toNat 0 = 0 from rfl, Int.pow_zero, Int.mul_one] at a5
  exact ⟨a5, by omega⟩

/-! whole_power -/
def WI (m0 s0 m s : Int) : Prop := 0 < m ∧ m ≤ m0 ∧ s0 ≤ s ∧ s + W m = s0 + W m0 ∧ ∃ f : Nat, strip 60 m0 s0 = strip f m s ∧ W m < f
theorem wi_start {m0 s0 : Int} (h : 0 < m0) (h1 : m0 < 9007199254740992) : WI m0 s0 m0 s0 :=
  ⟨h, Int.le_refl _, Int.le_refl _, rfl, 60, rfl, by have := W_le (sz_le_of_lt (m := 53) (by omega) (Int.lt_of_lt_of_le h1 (by decide))); omega⟩
theorem even_ge {m : Int} (h : 0 < m) (h1 : m.fmod 2 = 0) : 2 ≤ m := by
  by_cases h2 : m = 1
  · subst h2; exact absurd h1 (by decide)
  · omega
theorem wi_turn {m0 s0 m s : Int} (h : WI m0 s0 m s) (h1 : m.fmod 2 = 0) : WI m0 s0 (m.fdiv (2 ^ Int.toNat 1)) (s + 1) := by
  obtain ⟨a1, a2, a3, a4, f, a5, a6⟩ := h
  have h2 := even_ge a1 h1
  have e1 : (2 : Int) ^ Int.toNat 1 = 2 := by decide
  have w := W_shift (k := 1) (n := m) (by decide) (by rw [e1]; omega)
  have hd : m.fdiv (2 ^ Int.toNat 1) = m / 2 := by rw [e1, Int.fdiv_eq_ediv_of_nonneg _ (by decide)]
  have w0 := W_nonneg (m.fdiv (2 ^ Int.toNat 1))
  refine ⟨by rw [hd]; omega, by rw [hd]; omega, by omega, by omega, ?_⟩
  cases f with
  | zero => omega
  | succ f =>
    refine ⟨f, ?_, by omega⟩
    rw [a5]
    show (if m.fmod 2 = 0 then strip f (m.fdiv (2 ^ Int.toNat 1)) (s + 1) else (m, s)) = _
    rw [if_pos h1]
theorem wi_less {m0 s0 m s : Int} (h : WI m0 s0 m s) (h1 : m.fmod 2 = 0) : (m.fdiv (2 ^ Int.toNat 1)).toNat < m.toNat := by
  have h2 := even_ge h.1 h1
  have e1 : (2 : Int) ^ Int.toNat 1 = 2 := by decide
  rw [e1, Int.fdiv_eq_ediv_of_nonneg _ (by decide)]
  omega
theorem wi_end {m0 s0 m s : Int} (h : WI m0 s0 m s) (h1 : m.fmod 2 ≠ 0) : strip 60 m0 s0 = (m, s) := by
  obtain ⟨a1, a2, a3, a4, f, a5, a6⟩ := h
  rw [a5]
  cases f with
  | zero => rfl
  | succ f =>
    show (if m.fmod 2 = 0 then strip f (m.fdiv (2 ^ Int.toNat 1)) (s + 1) else (m, s)) = _
    rw [if_neg h1]
theorem wi_facts {m0 s0 m s k : Int} (h : WI m0 s0 m s) (h1 : m0 < 9007199254740992) (hk : -5 ≤ k) (hk' : k ≤ 5) :
    0 < m ∧ Builtin.Int.intBits m ≤ 53 ∧ 0 < m ^ (if k < 0 then -k else k).toNat ∧ Builtin.Int.intBits (m ^ (if k < 0 then -k else k).toNat) ≤ 300 ∧ 0 ≤ W (m ^ (if k < 0 then -k else k).toNat) ∧ W (m ^ (if k < 0 then -k else k).toNat) ≤ 300 ∧ 0 ≤ (if k < 0 then -k else k) ∧ (if k < 0 then -k else k) ≤ 5 := by
  have hK : 0 ≤ (if k < 0 then -k else k) ∧ (if k < 0 then -k else k) ≤ 5 := by split <;> omega
  generalize (if k < 0 then -k else k) = K at *
  have hm : Builtin.Int.intBits m ≤ 53 := sz_le_of_lt (by have := h.1; omega) (Int.lt_of_le_of_lt h.2.1 (Int.lt_of_lt_of_le h1 (by decide)))
  have hT : Builtin.Int.intBits (m ^ K.toNat) ≤ 300 := Nat.le_trans (intBits_pow_le hm K.toNat) (by omega)
  exact ⟨h.1, hm, Int.pow_pos h.1, hT, W_nonneg _, W_le hT, hK.1, hK.2⟩
end Mine
namespace Mine
theorem wp_close1 {s1 m0 s0 m s k : Int} (e : strip 60 m0 s0 = (m, s)) (hk : ¬ 0 < k) (h : 1100 < W (m ^ (if k < 0 then -k else k).toNat) + s * (if k < 0 then -k else k)) : signedF s1 0 = wholePower s1 m0 s0 k := by
  unfold wholePower wpTop wpPow
  rw [e, if_neg hk]
  dsimp only
  generalize (if k < 0 then -k else k) = K at *
  rw [if_pos (Or.inl h), if_pos (by omega)]
theorem wp_close2 {s1 m0 s0 m s k : Int} (e : strip 60 m0 s0 = (m, s)) (hk : ¬ 0 < k) (h : W (m ^ (if k < 0 then -k else k).toNat) + s * (if k < 0 then -k else k) < -1100) : signedF s1 9218868437227405312 = wholePower s1 m0 s0 k := by
  unfold wholePower wpTop wpPow
  rw [e, if_neg hk]
  dsimp only
  generalize (if k < 0 then -k else k) = K at *
  rw [if_pos (Or.inr h), if_neg (by omega)]
end Mine

namespace Mine
theorem told_ne {a b k : Int} (h : toldF a b (some k) = none) : k ≠ 0 := by
  intro h0
  subst h0
  unfold toldF at h
  rw [if_pos (Or.inr rfl), if_neg (by simp)] at h
  cases h
theorem kind_even {f : Int} (h : lawKind f ≠ 2) (h1 : ¬ f.fmod (2 ^ Int.toNat 63) < 9218868437227405312) : (f.fmod (2 ^ Int.toNat 63)).fmod 2 = 0 := by
  unfold lawKind at h
  have h2 : ¬ 9218868437227405312 < f.fmod (2 ^ Int.toNat 63) := fun q => h (if_pos q)
  have h3 : f.fmod (2 ^ Int.toNat 63) = 9218868437227405312 := by omega
  rw [h3]; decide
theorem lawBelow_sz (x : Int) : Builtin.Int.intBits (lawBelow x) ≤ 2300 := by
  unfold lawBelow
  refine sz_ite ?_ (by decide +kernel)
  exact Nat.le_trans (intBits_add_le (lawSize_sz x) (lawSize_sz (x - 1))) (by decide)
theorem lawAbove_sz (x : Int) : Builtin.Int.intBits (lawSize x + lawSize (x + 1)) ≤ 2300 := Nat.le_trans (intBits_add_le (lawSize_sz x) (lawSize_sz (x + 1))) (by decide)
theorem lawUnit_sz {a k : Int} (h : -5 ≤ k) (h' : k ≤ 5) : Builtin.Int.intBits (lawUnit a k) ≤ 20000 := by
  unfold lawUnit
  have hK : 0 ≤ (if k < 0 then -k else k) ∧ (if k < 0 then -k else k) ≤ 5 := by split <;> omega
  generalize (if k < 0 then -k else k) = K at *
  refine sz_ite ?_ ?_
  · refine Nat.le_trans (intBits_pow_le (lawSize_sz a) K.toNat) ?_
    have : K.toNat ≤ 5 := by omega
    have := Nat.mul_le_mul_left 2200 this
    omega
  · refine Nat.le_trans sz_pow2 ?_
    omega
theorem pow_room {x k : Int} (hx : Builtin.Int.intBits x ≤ 2200) (h : -5 ≤ k) (h' : k ≤ 5) : (Builtin.Int.intBits x : Int) * (if k < 0 then -k else k) ≤ 2 ^ 27 := by
  have hK : 0 ≤ (if k < 0 then -k else k) ∧ (if k < 0 then -k else k) ≤ 5 := by split <;> omega
  generalize (if k < 0 then -k else k) = K at *
  have h1 : (Builtin.Int.intBits x : Int) ≤ 2200 := by omega
  have h2 := Int.mul_le_mul_of_nonneg_right h1 hK.1
  have : (2 : Int) ^ 27 = 134217728 := by decide
  omega
end Mine

namespace Mine
theorem sane1 {a b k : Int} (h : powerSane a b k = true) (h1 : 2 ^ Int.toNat 63 ≤ a) (h2 : (decide (2 ^ Int.toNat 63 ≤ powerF a b) != (k.fmod 2 == 1)) = true) : False := by
  unfold powerSane at h
  have h3 := (Bool.and_eq_true_iff.mp h).1
  rw [decide_eq_true h1, Bool.true_and] at h3
  rw [bne, h3] at h2
  cases h2
theorem sane2 {a b k : Int} (h : powerSane a b k = true) (h1 : lawKind (powerF a b) = 2) : False := by
  unfold powerSane at h
  have h3 := (Bool.and_eq_true_iff.mp h).2
  rw [h1] at h3
  cases h3
theorem sane3 {a b k : Int} (h : powerSane a b k = true) (h1 : ¬ 2 ^ Int.toNat 63 ≤ a) (h2 : (decide (2 ^ Int.toNat 63 ≤ powerF a b) != decide (2 ^ Int.toNat 63 ≤ a)) = true) : False := by
  unfold powerSane at h
  have h3 := (Bool.and_eq_true_iff.mp h).1
  rw [decide_eq_false h1, Bool.false_and] at h3
  rw [decide_eq_false h1, bne, h3] at h2
  cases h2
theorem sane_kind {a b k : Int} (h : powerSane a b k = true) : lawKind (powerF a b) ≠ 2 := fun q => sane2 h q
end Mine
namespace Mine
theorem absK0 {k : Int} : 0 ≤ (if k < 0 then -k else k) := by split <;> omega
theorem absK1 {k : Int} (h : k ≠ 0) : 0 ≤ 1074 * ((if k < 0 then -k else k) - 1) := by split <;> omega
theorem absK2 {k : Int} (h : -5 ≤ k) (h' : k ≤ 5) : (Builtin.Int.intBits 2 : Int) * (1074 * ((if k < 0 then -k else k) - 1)) ≤ 2 ^ 27 := by
  rw [show Builtin.Int.intBits 2 = 2 from by decide +kernel]; split <;> omega
theorem absK3 {k : Int} : 0 ≤ 1074 * ((if k < 0 then -k else k) + 1) := by split <;> omega
theorem absK4 {k : Int} (h : -5 ≤ k) (h' : k ≤ 5) : (Builtin.Int.intBits 2 : Int) * (1074 * ((if k < 0 then -k else k) + 1)) ≤ 2 ^ 27 := by
  rw [show Builtin.Int.intBits 2 = 2 from by decide +kernel]; split <;> omega
theorem lawTruth_neg {a k : Int} (h : k < 0) : 2 * 2 ^ (1074 * ((if k < 0 then -k else k) + 1)).toNat = lawTruth a k := by unfold lawTruth; exact (if_pos h).symm
theorem lawTruth_pos {a k : Int} (h : ¬ k < 0) : 2 * lawSize a ^ (if k < 0 then -k else k).toNat = lawTruth a k := by unfold lawTruth; exact (if_neg h).symm
theorem lawUnit_neg {a k : Int} (h : k < 0) : lawSize a ^ (if k < 0 then -k else k).toNat = lawUnit a k := by unfold lawUnit; exact (if_pos h).symm
theorem lawUnit_pos {a k : Int} (h : ¬ k < 0) : 2 ^ (1074 * ((if k < 0 then -k else k) - 1)).toNat = lawUnit a k := by unfold lawUnit; exact (if_neg h).symm
end Mine


/-! Fin -/
namespace Mine
def AL : List Int := [0, 1, 2, 3, 4503599627370494, 4503599627370495, 4503599627370496, 4503599627370497, 4503599627370498, 4602678819172646911, 4602678819172646912, 4602678819172646913, 4607182418800017407, 4607182418800017408, 4607182418800017409, 4609434218613702655, 4609434218613702656, 4609434218613702657, 4611686018427387903, 4611686018427387904, 4611686018427387905, 4612811918334230527, 4612811918334230528, 4612811918334230529, 4613937818241073151, 4613937818241073152, 4613937818241073153, 4679239875398991871, 4679239875398991872, 4679239875398991873, 4679239944118468607, 4679239944118468608, 4679239944118468609, 4746794007244308479, 4746794007244308480, 4746794007244308481, 4746794007246405631, 4746794007246405632, 4746794007246405633, 4746794007248502783, 4746794007248502784, 4746794007248502785, 4751297606873776127, 4751297606873776128, 4751297606873776129, 4751297606874824703, 4751297606874824704, 4751297606874824705, 4751297606875873279, 4751297606875873280, 4751297606875873281, 4836865999795912704, 4836865999795912705, 4836865999795912706, 4841369599423283200, 4841369599423283201, 4841369599423283202, 4845873199050653694, 4845873199050653695, 4845873199050653696, 4845873199050653697, 4850376798678024192, 4850376798678024193, 4850376798678024194, 9218868437227405310, 9218868437227405311, 9218868437227405312, 9223372036854775808, 9223372036854775809, 9223372036854775810, 9223372036854775811, 9227875636482146302, 9227875636482146303, 9227875636482146304, 9227875636482146305, 9227875636482146306, 13826050856027422719, 13826050856027422720, 13826050856027422721, 13830554455654793215, 13830554455654793216, 13830554455654793217, 13832806255468478463, 13832806255468478464, 13832806255468478465, 13835058055282163711, 13835058055282163712, 13835058055282163713, 13836183955189006335, 13836183955189006336, 13836183955189006337, 13837309855095848959, 13837309855095848960, 13837309855095848961, 13902611912253767679, 13902611912253767680, 13902611912253767681, 13902611980973244415, 13902611980973244416, 13902611980973244417, 13970166044099084287, 13970166044099084288, 13970166044099084289, 13970166044101181439, 13970166044101181440, 13970166044101181441, 13970166044103278591, 13970166044103278592, 13970166044103278593, 13974669643728551935, 13974669643728551936, 13974669643728551937, 13974669643729600511, 13974669643729600512, 13974669643729600513, 13974669643730649087, 13974669643730649088, 13974669643730649089, 14060238036650688512, 14060238036650688513, 14060238036650688514, 14064741636278059008, 14064741636278059009, 14064741636278059010, 14069245235905429502, 14069245235905429503, 14069245235905429504, 14069245235905429505, 14073748835532800000, 14073748835532800001, 14073748835532800002, 18442240474082181118, 18442240474082181119, 18442240474082181120]
def EI : List (Int × Int) := [(13840687554816376832, -5), (13839561654909534208, -4), (13837309855095848960, -3), (13835058055282163712, -2), (13830554455654793216, -1), (0, 0), (4607182418800017408, 1), (4611686018427387904, 2), (4613937818241073152, 3), (4616189618054758400, 4), (4617315517961601024, 5)]
def EN : List Int := [4602678819172646912, 9218868437227405312, 18442240474082181120, 9221120237041090560]
def okD (x : Int) : Bool := decide (0 ≤ pMan x) && (decide (pMan x < 9007199254740992) && (decide (-1074 ≤ pPow x) && (decide (pPow x ≤ 1000) && decide (Builtin.Int.intBits (pSign x) ≤ 64))))
def chkA (a : Int) : Bool := okD a && ((decide (0 < lawKind a) || isFin a) && (wholeRight a && (!isNan (absF a) && ((isZero a || decide (0 < pMan a)) && AL.contains ((a + 2 ^ Int.toNat 63).fmod (2 ^ Int.toNat 64))))))
def chkB (b : Int) : Bool := okD b && ((!isWhole b || (decide (-5 ≤ toInt b) && decide (toInt b ≤ 5))) && (isZero b || !isWhole b || !decide (toInt b = 0)))
def chkI (b k a : Int) : Bool := (match toldF a b (some k) with | none => powerSane a b k | some _ => true) && powerRightI a b k
def chkN (b a : Int) : Bool := (toldF a b none).isSome && powerRightN a b
theorem allA : AL.all chkA = true := by decide +kernel
theorem allBI : EI.all (fun p => chkB p.1 && (decide (-5 ≤ p.2) && decide (p.2 ≤ 5))) = true := by decide +kernel
theorem allBN : EN.all chkB = true := by decide +kernel
theorem allN : EN.all (fun b => AL.all (chkN b)) = true := by decide +kernel
theorem allI0 : AL.all (chkI 13840687554816376832 (-5)) = true := by decide +kernel
theorem allI1 : AL.all (chkI 13839561654909534208 (-4)) = true := by decide +kernel
theorem allI2 : AL.all (chkI 13837309855095848960 (-3)) = true := by decide +kernel
theorem allI3 : AL.all (chkI 13835058055282163712 (-2)) = true := by decide +kernel
theorem allI4 : AL.all (chkI 13830554455654793216 (-1)) = true := by decide +kernel
theorem allI5 : AL.all (chkI 0 0) = true := by decide +kernel
theorem allI6 : AL.all (chkI 4607182418800017408 1) = true := by decide +kernel
theorem allI7 : AL.all (chkI 4611686018427387904 2) = true := by decide +kernel
theorem allI8 : AL.all (chkI 4613937818241073152 3) = true := by decide +kernel
theorem allI9 : AL.all (chkI 4616189618054758400 4) = true := by decide +kernel
theorem allI10 : AL.all (chkI 4617315517961601024 5) = true := by decide +kernel
theorem allI : EI.all (fun p => AL.all (chkI p.1 p.2)) = true := by
  simp only [EI, List.all_cons, List.all_nil, allI0, allI1, allI2, allI3, allI4, allI5, allI6, allI7, allI8, allI9, allI10, Bool.and_self]
end Mine
namespace Mine
/-! the edges -/
def menu : List Int := [1, 2, 2 ^ Int.toNat 52 - 1, 2 ^ Int.toNat 52, 2 ^ Int.toNat 52 + 1, 9218868437227405311, 9218868437227405310, 4602678819172646912, 4607182418800017408, 4609434218613702656, 4612811918334230528, 4679239875398991872, 4679239944118468608, 4602678819172646912, 4746794007244308480, 4746794007246405632, 4746794007248502784, 4751297606873776128, 4751297606874824704, 4751297606875873280, 4836865999795912705, 4841369599423283201, 4845873199050653695, 4845873199050653696, 4850376798678024193, 4611686018427387904, 4613937818241073152, 0, 9218868437227405312]
theorem menu1 : ∀ i : Fin 29, ∀ c : Fin 3, ∀ d : Fin 2, 0 < ((c.val : Nat) : Int) → 1 < menu.getD i.val 0 → menu.getD i.val 0 < 9214364837600034816 → menu.getD i.val 0 + ((c.val : Nat) : Int) * 2 - 3 + ((d.val : Nat) : Int) * 2 ^ Int.toNat 63 ∈ AL := by decide +kernel
theorem menu2 : ∀ i : Fin 29, ∀ d : Fin 2, menu.getD i.val 0 + ((d.val : Nat) : Int) * 2 ^ Int.toNat 63 ∈ AL := by decide +kernel
theorem fin_of {n : Nat} {x : Int} (h0 : 0 ≤ x) (h1 : x < n) : ∃ i : Fin n, ((i.val : Nat) : Int) = x := ⟨⟨x.toNat, by omega⟩, by show ((x.toNat : Nat) : Int) = x; omega⟩
theorem edge_in1 {x y : Int} (h1 : 0 < (x.fdiv 29).fmod 3) (h2 : 1 < ([1, 2, 2 ^ Int.toNat 52 - 1, 2 ^ Int.toNat 52, 2 ^ Int.toNat 52 + 1, 9218868437227405311, 9218868437227405310, 4602678819172646912, 4607182418800017408, 4609434218613702656, 4612811918334230528, 4679239875398991872, 4679239944118468608, 4602678819172646912, 4746794007244308480, 4746794007246405632, 4746794007248502784, 4751297606873776128, 4751297606874824704, 4751297606875873280, 4836865999795912705, 4841369599423283201, 4845873199050653695, 4845873199050653696, 4850376798678024193, 4611686018427387904, 4613937818241073152, 0, 9218868437227405312] : List Int).getD (x.fmod 29).toNat 0) (h3 : ([1, 2, 2 ^ Int.toNat 52 - 1, 2 ^ Int.toNat 52, 2 ^ Int.toNat 52 + 1, 9218868437227405311, 9218868437227405310, 4602678819172646912, 4607182418800017408, 4609434218613702656, 4612811918334230528, 4679239875398991872, 4679239944118468608, 4602678819172646912, 4746794007244308480, 4746794007246405632, 4746794007248502784, 4751297606873776128, 4751297606874824704, 4751297606875873280, 4836865999795912705, 4841369599423283201, 4845873199050653695, 4845873199050653696, 4850376798678024193, 4611686018427387904, 4613937818241073152, 0, 9218868437227405312] : List Int).getD (x.fmod 29).toNat 0 < 9214364837600034816) :
    ([1, 2, 2 ^ Int.toNat 52 - 1, 2 ^ Int.toNat 52, 2 ^ Int.toNat 52 + 1, 9218868437227405311, 9218868437227405310, 4602678819172646912, 4607182418800017408, 4609434218613702656, 4612811918334230528, 4679239875398991872, 4679239944118468608, 4602678819172646912, 4746794007244308480, 4746794007246405632, 4746794007248502784, 4751297606873776128, 4751297606874824704, 4751297606875873280, 4836865999795912705, 4841369599423283201, 4845873199050653695, 4845873199050653696, 4850376798678024193, 4611686018427387904, 4613937818241073152, 0, 9218868437227405312] : List Int).getD (x.fmod 29).toNat 0 + (x.fdiv 29).fmod 3 * 2 - 3 + y.fmod 2 * 2 ^ Int.toNat 63 ∈ AL := by
  obtain ⟨i, hi⟩ := fin_of (n := 29) (fmod_bd (x := x) (y := 29) (by decide)).1 (fmod_bd (by decide)).2
  obtain ⟨c, hc⟩ := fin_of (n := 3) (fmod_bd (x := x.fdiv 29) (y := 3) (by decide)).1 (fmod_bd (by decide)).2
  obtain ⟨d, hd⟩ := fin_of (n := 2) (fmod_bd (x := y) (y := 2) (by decide)).1 (fmod_bd (by decide)).2
  have hi' : (x.fmod 29).toNat = i.val := by omega
  rw [hi'] at h2 h3 ⊢
  rw [← hc] at h1 ⊢
  rw [← hd]
  exact menu1 i c d h1 h2 h3
theorem edge_in2 {x y : Int} : ([1, 2, 2 ^ Int.toNat 52 - 1, 2 ^ Int.toNat 52, 2 ^ Int.toNat 52 + 1, 9218868437227405311, 9218868437227405310, 4602678819172646912, 4607182418800017408, 4609434218613702656, 4612811918334230528, 4679239875398991872, 4679239944118468608, 4602678819172646912, 4746794007244308480, 4746794007246405632, 4746794007248502784, 4751297606873776128, 4751297606874824704, 4751297606875873280, 4836865999795912705, 4841369599423283201, 4845873199050653695, 4845873199050653696, 4850376798678024193, 4611686018427387904, 4613937818241073152, 0, 9218868437227405312] : List Int).getD (x.fmod 29).toNat 0 + y.fmod 2 * 2 ^ Int.toNat 63 ∈ AL := by
  obtain ⟨i, hi⟩ := fin_of (n := 29) (fmod_bd (x := x) (y := 29) (by decide)).1 (fmod_bd (by decide)).2
  obtain ⟨d, hd⟩ := fin_of (n := 2) (fmod_bd (x := y) (y := 2) (by decide)).1 (fmod_bd (by decide)).2
  have hi' : (x.fmod 29).toNat = i.val := by omega
  rw [hi', ← hd]
  exact menu2 i d

/-! what the finite looks give -/
theorem okD_out {x : Int} (h : okD x = true) : 0 ≤ pMan x ∧ pMan x < 9007199254740992 ∧ -1074 ≤ pPow x ∧ pPow x ≤ 1000 ∧ Builtin.Int.intBits (pSign x) ≤ 64 := by
  unfold okD at h
  simpa only [Bool.and_eq_true, decide_eq_true_eq] using h
theorem inA {a : Int} (h : a ∈ AL) : okD a = true ∧ (¬ 0 < lawKind a → isFin a = true) ∧ wholeRight a = true ∧ isNan (absF a) = false ∧ (isZero a = false → 0 < pMan a) ∧ (a + 2 ^ Int.toNat 63).fmod (2 ^ Int.toNat 64) ∈ AL := by
  have q := List.all_eq_true.mp allA a h
  unfold chkA at q
  simp only [Bool.and_eq_true, Bool.or_eq_true, decide_eq_true_eq, Bool.not_eq_true', List.contains_iff_mem] at q
  obtain ⟨a1, a2, a3, a4, a5, a6⟩ := q
  refine ⟨a1, fun k => a2.resolve_left k, a3, a4, fun k => a5.resolve_left (by rw [k]; exact Bool.false_ne_true), a6⟩
theorem chkB_out {b : Int} (h : chkB b = true) : okD b = true ∧ (isWhole b = true → -5 ≤ toInt b ∧ toInt b ≤ 5) ∧ (isZero b = false → isWhole b = true → toInt b ≠ 0) := by
  unfold chkB at h
  simp only [Bool.and_eq_true, Bool.or_eq_true, decide_eq_true_eq, Bool.not_eq_true', decide_eq_false_iff_not] at h
  obtain ⟨a1, a2, a3⟩ := h
  refine ⟨a1, fun k => a2.resolve_left (by rw [k]; intro h9; cases h9), fun k k2 => ?_⟩
  rcases a3 with (a3 | a3) | a3
  · rw [k] at a3; cases a3
  · rw [k2] at a3; cases a3
  · exact a3
theorem inI {a b k : Int} (ha : a ∈ AL) (hb : (b, k) ∈ EI) : chkB b = true ∧ -5 ≤ k ∧ k ≤ 5 ∧ (toldF a b (some k) = none → powerSane a b k = true) ∧ powerRightI a b k = true := by
  have q1 := List.all_eq_true.mp allBI (b, k) hb
  have q2 := List.all_eq_true.mp (List.all_eq_true.mp allI (b, k) hb) a ha
  simp only [Bool.and_eq_true, decide_eq_true_eq] at q1
  unfold chkI at q2
  simp only [Bool.and_eq_true] at q2
  refine ⟨q1.1, q1.2.1, q1.2.2, fun h => ?_, q2.2⟩
  have := q2.1
  rw [h] at this
  exact this
theorem inN {a b : Int} (ha : a ∈ AL) (hb : b ∈ EN) : chkB b = true ∧ toldF a b none ≠ none ∧ powerRightN a b = true := by
  have q1 := List.all_eq_true.mp allBN b hb
  have q2 := List.all_eq_true.mp (List.all_eq_true.mp allN b hb) a ha
  unfold chkN at q2
  simp only [Bool.and_eq_true] at q2
  refine ⟨q1, fun h => ?_, q2.2⟩
  rw [h] at q2
  cases q2.1
end Mine


/-! Jw -/
namespace Mine
structure JwIn : Prop where
abbrev jwMap (m₁ : Str → Option Value) (x1 x2 : Int) (u1 u2 : Tok) : Str → Option Value := fun y => if y = Str.ofString "many" then some (.int x2 u2) else if y = Str.ofString "n" then some (.int x1 u1) else m₁ y
def JW (g : Heap) (L : Addr) (own : List (Addr × Obj)) (m₁ : Str → Option Value) (s : Shared) (x1 x2 : Int) (fl : Flow) (s₂ : Shared) : Prop :=
  fl = .next ∧ ∃ (h' : Heap) (tk : Nat) (u1 u2 : Tok), s₂ = { s with heap := h', toks := tk } ∧ Fr g L h' (jwMap m₁ x1 x2 u1 u2) ∧ News g L h' own
section
variable {prog : Program} {w : World} {A : Around} {E : Value → Shared → Prop} {Q : Flow → Shared → Prop} {s : Shared} {g : Heap} {L : Addr} {own : List (Addr × Obj)} {m₁ : Str → Option Value} {n m k : Int} {t1 t2 t3 : Tok} {c : Sem Flow}
theorem join_w (_F : Fr g L s.heap m₁) (_N : News g L s.heap own) (_h1 : m₁ (Str.ofString "n") = some (.int n t1)) (_h2 : m₁ (Str.ofString "many") = some (.int m t2)) (_h3 : m₁ (Str.ofString "step") = some (.int k t3))
    (hc : wpAny (model prog w) A c (fun fl s₂ => JW g L own m₁ s (wStep k (n, m)).1 (wStep k (n, m)).2 fl s₂) E s)
    (hk : ∀ x1 x2 h' tk u1 u2, wStep k (n, m) = (x1, x2) → Fr g L h' (jwMap m₁ x1 x2 u1 u2) → News g L h' own → Q .next { s with heap := h', toks := tk }) : wpAny (model prog w) A c Q E s := by
  refine wpAny_mono hc (fun fl s₂ hq => ?_) fun _ _ h => h
  obtain ⟨rfl, h', tk, u1, u2, rfl, F', N'⟩ := hq
  exact hk _ _ h' tk u1 u2 rfl F' N'
theorem jw_in {h' : Heap} {tk : Nat} {u1 u2 : Tok} {x1 x2 : Int} (hc : 1 * 2 ^ k.toNat ≤ n) (F : Fr g L h' (jwMap m₁ x1 x2 u1 u2)) (N : News g L h' own) (e1 : x1 = n.fdiv (2 ^ k.toNat)) (e2 : x2 = m + k) :
    JW g L own m₁ s (wStep k (n, m)).1 (wStep k (n, m)).2 .next { s with heap := h', toks := tk } := by
  subst e1; subst e2
  refine ⟨rfl, h', tk, u1, u2, rfl, ?_, N⟩
  unfold wStep
  rw [if_pos hc]
  exact F
theorem jw_out {h' : Heap} {tk : Nat} (h1 : m₁ (Str.ofString "n") = some (.int n t1)) (h2 : m₁ (Str.ofString "many") = some (.int m t2)) (hc : ¬ 1 * 2 ^ k.toNat ≤ n) (F : Fr g L h' m₁) (N : News g L h' own) :
    JW g L own m₁ s (wStep k (n, m)).1 (wStep k (n, m)).2 .next { s with heap := h', toks := tk } := by
  refine ⟨rfl, h', tk, t1, t2, rfl, ?_, N⟩
  unfold wStep
  rw [if_neg hc]
  have e : jwMap m₁ n m t1 t2 = m₁ := by
    funext y
    unfold jwMap
    split
    · rename_i h; rw [h, h2]
    · split
      · rename_i h; rw [h, h1]
      · rfl
  rw [e]
  exact F
end
theorem wTail_chain {n m a1 a2 a3 a4 a5 a6 b1 b2 b3 b4 b5 b6 : Int} (e1 : wStep 32 (n, m) = (a1, b1)) (e2 : wStep 16 (a1, b1) = (a2, b2)) (e3 : wStep 8 (a2, b2) = (a3, b3)) (e4 : wStep 4 (a3, b3) = (a4, b4)) (e5 : wStep 2 (a4, b4) = (a5, b5)) (e6 : wStep 1 (a5, b5) = (a6, b6)) : b6 + a6 = wTail n m := by
  unfold wTail
  rw [e1, e2, e3, e4, e5, e6]
end Mine
namespace Mine
end Mine
namespace Mine
/-- a statement that goes on, nothing changed; one int name stored; two int names stored: what is behind it, said once -/
abbrev J0 (g : Heap) (L : Addr) (own : List (Addr × Obj)) (m₁ : Str → Option Value) (s : Shared) (Q : Flow → Shared → Prop) : Prop :=
  ∀ (h' : Heap) (tk : Nat), Fr g L h' m₁ → News g L h' own → Q .next { s with heap := h', toks := tk }
abbrev J1 (x : Str) (v : Int) (g : Heap) (L : Addr) (own : List (Addr × Obj)) (m₁ : Str → Option Value) (s : Shared) (Q : Flow → Shared → Prop) : Prop :=
  ∀ (t : Tok) (h' : Heap) (tk : Nat), Fr g L h' (fun y => if y = x then some (.int v t) else m₁ y) → News g L h' own → Q .next { s with heap := h', toks := tk }
abbrev J2 (x1 x2 : Str) (v1 v2 : Int) (g : Heap) (L : Addr) (own : List (Addr × Obj)) (m₁ : Str → Option Value) (s : Shared) (Q : Flow → Shared → Prop) : Prop :=
  ∀ (t1 t2 : Tok) (h' : Heap) (tk : Nat), Fr g L h' (fun y => if y = x2 then some (.int v2 t2) else if y = x1 then some (.int v1 t1) else m₁ y) → News g L h' own → Q .next { s with heap := h', toks := tk }
section
variable {prog : Program} {w : World} {A : Around} {E : Value → Shared → Prop} {Q : Flow → Shared → Prop} {s : Shared} {g : Heap} {L : Addr} {own own' : List (Addr × Obj)} {m₁ : Str → Option Value} {c : Sem Flow} {h' : Heap} {tk : Nat}
theorem join0 (_F : Fr g L s.heap m₁) (_N : News g L s.heap own) (hc : ∀ Q', J0 g L own m₁ s Q' → wpAny (model prog w) A c Q' E s) (hk : J0 g L own m₁ s Q) : wpAny (model prog w) A c Q E s := hc Q hk
theorem join1 (x : Str) (v : Int) (_F : Fr g L s.heap m₁) (_N : News g L s.heap own) (hc : ∀ Q', J1 x v g L own m₁ s Q' → wpAny (model prog w) A c Q' E s) (hk : J1 x v g L own m₁ s Q) : wpAny (model prog w) A c Q E s := hc Q hk
theorem join2 (x1 x2 : Str) (v1 v2 : Int) (_F : Fr g L s.heap m₁) (_N : News g L s.heap own) (hc : ∀ Q', J2 x1 x2 v1 v2 g L own m₁ s Q' → wpAny (model prog w) A c Q' E s) (hk : J2 x1 x2 v1 v2 g L own m₁ s Q) : wpAny (model prog w) A c Q E s := hc Q hk
theorem j0_end (hj : J0 g L own m₁ s Q) (F : Fr g L h' m₁) (N : News g L h' own') (hs : ∀ p ∈ own, p ∈ own') : Q .next { s with heap := h', toks := tk } := hj h' tk F (cb_drop N hs)
theorem j1_end {x : Str} {v v' : Int} {t : Tok} (hj : J1 x v g L own m₁ s Q) (F : Fr g L h' (fun y => if y = x then some (.int v' t) else m₁ y)) (N : News g L h' own') (hs : ∀ p ∈ own, p ∈ own') (e : v' = v) : Q .next { s with heap := h', toks := tk } := by
  subst e; exact hj t h' tk F (cb_drop N hs)
theorem j2_in {x1 x2 : Str} {v1 v2 v1' v2' : Int} {t1 t2 : Tok} (hj : J2 x1 x2 v1 v2 g L own m₁ s Q) (F : Fr g L h' (fun y => if y = x2 then some (.int v2' t2) else if y = x1 then some (.int v1' t1) else m₁ y)) (N : News g L h' own') (hs : ∀ p ∈ own, p ∈ own') (e1 : v1' = v1) (e2 : v2' = v2) : Q .next { s with heap := h', toks := tk } := by
  subst e1; subst e2; exact hj t1 t2 h' tk F (cb_drop N hs)
theorem j2_out {x1 x2 : Str} {v1 v2 v1' v2' : Int} {t1 t2 : Tok} (hj : J2 x1 x2 v1 v2 g L own m₁ s Q) (h1 : m₁ x1 = some (.int v1' t1)) (h2 : m₁ x2 = some (.int v2' t2)) (F : Fr g L h' m₁) (N : News g L h' own') (hs : ∀ p ∈ own, p ∈ own') (e1 : v1' = v1) (e2 : v2' = v2) : Q .next { s with heap := h', toks := tk } := by
  subst e1; subst e2
  have e : (fun y => if y = x2 then some (Value.int v2' t2) else if y = x1 then some (.int v1' t1) else m₁ y) = m₁ := by
    funext y
    split
    · rename_i h; rw [h, h2]
    · split
      · rename_i h; rw [h, h1]
      · rfl
  exact hj t1 t2 h' tk (by rw [e]; exact F) (cb_drop N hs)
end
theorem sub_self {l : List (Addr × Obj)} : ∀ p ∈ l, p ∈ l := fun _ h => h
theorem sub_cons {d : Addr × Obj} {l : List (Addr × Obj)} : ∀ p ∈ l, p ∈ d :: l := fun _ h => List.mem_cons_of_mem _ h
end Mine

open Mine
local macro_rules | `(tactic| walk_at "my enter") => `(tactic| (refine wpAny_call ?_; k_dflt (refine' code_def0 ?k1 ?k2 ?k3 ?k5 ?kA ?kF ?kK ?k6 ?k7 ?k8 ?k9 ?kB ?_ ?c2 ?c3 ?c4 ?c5; (case kA => exact rfl); (case kF => exact rfl); (case kK => assumption); (case k1 => k_asm); (case k2 => k_asm); (case k3 => k_asm); (case k5 => k_asm); (case k6 => k_is); (case k7 => k_is); (case k8 => ktr_room); (case k9 => exact BindsTo.of_eq rfl); (case c5 => decide); (case kB => exact locs rfl); (case c2 => exact rfl); (case c3 => exact rfl); (case c4 => exact rfl); k_whole; intro g' L' h' SG' FG' F' N' B' X' T'; (try dsimp only); (try k_lift B'); (try k_fold))))
local macro_rules | `(tactic| walk_at "my side") => `(tactic| first | ((with_reducible show Side _); refine Side.mk ?_; first | assumption | decide +kernel | exact IntMulOk.of_left (by decide +kernel) | exact IntMulOk.of_right (by decide +kernel)) | ((fail_if_success (with_reducible show Side _)); dsimp only) | skip)
local macro_rules | `(tactic| walk_at "binaryOp LShift int int") => `(tactic| (k_here; (with_reducible refine my_shl ?_ ?_ ?_) <;> walk_at "my side"))
local macro_rules | `(tactic| walk_at "binaryOp RShift int int") => `(tactic| (k_here; (with_reducible refine my_shr ?_ ?_) <;> walk_at "my side"))
local macro_rules | `(tactic| walk_at "binaryOp Mult int int") => `(tactic| (k_here; (with_reducible refine my_mul ?_ ?_) <;> walk_at "my side"))
local macro_rules | `(tactic| walk_at "binaryOp Pow int int") => `(tactic| (k_here; (with_reducible refine my_pow ?_ ?_ ?_) <;> walk_at "my side"))
local macro_rules | `(tactic| walk_at "binaryOp FloorDiv int int") => `(tactic| (k_here; (with_reducible refine my_div ?_ ?_ ?_) <;> walk_at "my side"))
local macro_rules | `(tactic| walk_at "binaryOp Mod int int") => `(tactic| first | k_extra "binaryOp Mod int int" | (k_here; (with_reducible refine my_mod ?_ ?_) <;> walk_at "my side"))
local macro_rules | `(tactic| walk_at "call ref") => `(tactic| k_extra "call ref")
local macro_rules | `(tactic| cell_end $c:term $f:term "use") => `(tactic| (k_here; (with_reducible show wpAny _ _ (call (Value.ref $f) _) _ _ _); k_dflt (refine' use_cl ?k1 ?k2 ?k3 ?k4 ?k5 ?kK $c ?kd ?ku ?kM; (case k1 => k_asm); (case k2 => k_asm); (case k3 => k_asm); (case k4 => k_asm); (case k5 => k_asm); (case kK => first | exact rfl | assumption); (case kd => ktr_room); (case ku => ktr_units)); (case' kM => intros; (try dsimp only); (try k_fold)); all_goals walk_at "my side"))
local macro_rules | `(tactic| walk_at "my join") => `(tactic| ((fail_if_success (rename JwIn => xx)); (have jwIn := JwIn.mk); (refine' join_w ?k1 ?k2 ?k3 ?k4 ?k5 ?k6 ?k7; (case k1 => assumption); (case k2 => assumption); (case k3 => with_unfolding_all rfl); (case k4 => with_unfolding_all rfl); (case k5 => with_unfolding_all rfl)); (case' k6 => (try k_fold)); (case' k7 => clear jwIn; intro x1' x2' h' tk' u1' u2' hE' F' N'; (try dsimp only); (try k_fold))))
local macro_rules | `(tactic| walk_at "exec If") => `(tactic| k_extra "exec If")
local macro_rules | `(tactic| cell_end $c:term $f:term "useo") => `(tactic| (k_here; (with_reducible show wpAny _ _ (call (Value.ref $f) _) _ _ _); k_dflt (refine' use_cl ?k1 ?k2 ?k3 ?k4 ?k5 ?kK $c ?kd ?ku ?kM; (case k1 => k_asm); (case k2 => k_asm); (case k3 => k_asm); (case k4 => k_asm); (case k5 => k_asm); (case kK => first | exact rfl | assumption); (case kd => ktr_room); (case ku => ktr_units)); (case' kM => refine And.intro ?_ ?_ <;> (intros; first | contradiction | ((try dsimp only); (try k_fold)))); all_goals walk_at "my side"))
local macro_rules | `(tactic| walk_at "exec Assign") => `(tactic| k_extra "exec Assign")
local macro_rules | `(tactic| cell_end $x:term $v:term "j0") => `(tactic| ((fail_if_success (rename JwIn => xx)); (have jwIn := JwIn.mk); (refine' join0 ?k1 ?k2 ?k6 ?k7; (case k1 => assumption); (case k2 => assumption)); (case' k6 => intro qJ' hJ'); (case' k7 => clear jwIn; intro h' tk' F' N'; (try dsimp only); (try k_fold))))
local macro_rules | `(tactic| cell_end $x:term $v:term "j1") => `(tactic| ((fail_if_success (rename JwIn => xx)); (have jwIn := JwIn.mk); (refine' join1 $x $v ?k1 ?k2 ?k6 ?k7; (case k1 => assumption); (case k2 => assumption)); (case' k6 => intro qJ' hJ'); (case' k7 => clear jwIn; intro t' h' tk' F' N'; (try dsimp only); (try k_fold))))
local macro_rules | `(tactic| cell_end ($x1:term, $x2:term) ($v1:term, $v2:term) "j2") => `(tactic| ((fail_if_success (rename JwIn => xx)); (have jwIn := JwIn.mk); (refine' join2 $x1 $x2 $v1 $v2 ?k1 ?k2 ?k6 ?k7; (case k1 => assumption); (case k2 => assumption)); (case' k6 => intro qJ' hJ'); (case' k7 => clear jwIn; intro t1' t2' h' tk' F' N'; (try dsimp only); (try k_fold))))
local macro_rules | `(tactic| cell_end $c:term $f:term "usel") => `(tactic| (k_here; (with_reducible show wpAny _ _ (call (Value.ref $f) _) _ _ _); k_dflt (refine' use_cl ?k1 ?k2 ?k3 ?k4 ?k5 ?kK $c ?kd ?ku ?kM; (case k1 => k_asm); (case k2 => k_asm); (case k3 => k_asm); (case k4 => k_asm); (case k5 => k_asm); (case kK => first | exact rfl | assumption); (case kd => ktr_room); (case ku => ktr_units)); (case' kM => (refine' And.intro ?kL ?kN; (case kL => k_dflt (first | is_list | exact Mine.newsList (by k_asm) (by k_mem)))); (case' kN => intros; (try dsimp only); (try k_fold))); all_goals walk_at "my side"))
local macro_rules | `(tactic| cell_end $f:term 0 "inl") => `(tactic| (k_here; (with_reducible show wpAny _ _ (call (Value.ref $f) _) _ _ _); k_dflt (refine wpAny_call ?_; (refine' code_def ?k1 ?k2 ?k3 ?k4 ?k5 ?kA ?kF ?kK ?k6 ?k7 ?k8 ?k9 ?kB ?_ ?c2 ?c3 ?c4 ?c5; (case kA => exact rfl); (case kF => exact rfl); (case kK => first | exact rfl | assumption); (case k1 => k_asm); (case k2 => k_asm); (case k3 => k_asm); (case k4 => k_asm); (case k5 => k_asm); (case k6 => k_is); (case k7 => k_is); (case k8 => ktr_room); (case k9 => exact BindsTo.of_eq rfl); (case c5 => decide); (case kB => exact locs rfl); (case c2 => exact rfl); (case c3 => exact rfl); (case c4 => exact rfl); k_whole; intro g' L' h' FG' F' N' B' X' T'; (try dsimp only); (try k_lift B'); (try k_fold)))))
local macro_rules | `(tactic| cell_end 15 0 "mod15") => `(tactic| (k_here; (with_reducible refine my_mod15 ?_ ?_ ?_ ?_ ?_ ?_ ?_ ?_ ?_ ?_ ?_ ?_ ?_ ?_ ?_ ) <;> dsimp only))
local macro_rules | `(tactic| cell_end $c:term $f:term "usee") => `(tactic| (k_here; (with_reducible show wpAny _ _ (call (Value.ref $f) _) _ _ _); k_dflt (refine' use_cl ?k1 ?k2 ?k3 ?k4 ?k5 ?kK $c ?kd ?ku ?kM; (case k1 => k_asm); (case k2 => k_asm); (case k3 => k_asm); (case k4 => k_asm); (case k5 => k_asm); (case kK => first | exact rfl | assumption); (case kd => ktr_room); (case ku => ktr_units)); (case' kM => (refine' And.intro ?kL ?kN; (case kL => k_dflt (first | is_list | exact Mine.newsList (by k_asm) (by k_mem)))); (case' kN => refine' And.intro ?_ ?_ <;> (intros; (try dsimp only); (try k_fold)))); all_goals walk_at "my side"))

namespace Mine
local macro_rules | `(tactic| units_room) => `(tactic| ktr_units)
variable {w : World} {mean : ExcName → Option Value} {mg mb : Str → Option Value}
theorem c_is_negative (b : Int) (t : Tok) : Cl' w mean mg mb 35 1 [.int b t] (Ret fun _ => .bool (isNeg b)) := by
  dsimp only [Cl', Cl, Ret, Ret2, Ret3, RetO, RetP, RetL, RetE]
  k_fill
  intro dp un gd cn cs aF ccd cl outer A₀ base h₀ L mF news s Q E B F X N T hk hd hu hret
  k_with_none
  walk_at "my enter"
  k_steps
  all_goals (refine ret_b hret N (by assumption) (by assumption) (by assumption) ?_; (unfold isNeg; rfl))
theorem c_is_nan (b : Int) (t : Tok) : Cl' w mean mg mb 42 1 [.int b t] (Ret fun _ => .bool (isNan b)) := by
  dsimp only [Cl', Cl, Ret, Ret2, Ret3, RetO, RetP, RetL, RetE]
  k_fill
  intro dp un gd cn cs aF ccd cl outer A₀ base h₀ L mF news s Q E B F X N T hk hd hu hret
  k_with_none
  walk_at "my enter"
  k_steps
  all_goals (refine ret_b hret N (by assumption) (by assumption) (by assumption) ?_; (unfold isNan; rfl))
theorem c_is_inf (b : Int) (t : Tok) : Cl' w mean mg mb 49 1 [.int b t] (Ret fun _ => .bool (isInf b)) := by
  dsimp only [Cl', Cl, Ret, Ret2, Ret3, RetO, RetP, RetL, RetE]
  k_fill
  intro dp un gd cn cs aF ccd cl outer A₀ base h₀ L mF news s Q E B F X N T hk hd hu hret
  k_with_none
  walk_at "my enter"
  k_steps
  all_goals (refine ret_b hret N (by assumption) (by assumption) (by assumption) ?_; (unfold isInf; rfl))
theorem c_is_finite (b : Int) (t : Tok) : Cl' w mean mg mb 56 1 [.int b t] (Ret fun _ => .bool (isFin b)) := by
  dsimp only [Cl', Cl, Ret, Ret2, Ret3, RetO, RetP, RetL, RetE]
  k_fill
  intro dp un gd cn cs aF ccd cl outer A₀ base h₀ L mF news s Q E B F X N T hk hd hu hret
  k_with_none
  walk_at "my enter"
  k_steps
  all_goals (refine ret_b hret N (by assumption) (by assumption) (by assumption) ?_; (unfold isFin; rfl))
theorem c_is_zero (b : Int) (t : Tok) : Cl' w mean mg mb 63 1 [.int b t] (Ret fun _ => .bool (isZero b)) := by
  dsimp only [Cl', Cl, Ret, Ret2, Ret3, RetO, RetP, RetL, RetE]
  k_fill
  intro dp un gd cn cs aF ccd cl outer A₀ base h₀ L mF news s Q E B F X N T hk hd hu hret
  k_with_none
  walk_at "my enter"
  k_steps
  all_goals (refine ret_b hret N (by assumption) (by assumption) (by assumption) ?_; (unfold isZero; rfl))
theorem c_signed (s0 : Int) (u : Tok) (b : Int) (t : Tok) (p0 : Side (Builtin.Int.intBits s0 ≤ 64)) : Cl' w mean mg mb 70 1 [.int s0 u, .int b t] (Ret fun t => .int (signedF s0 b) t) := by
  dsimp only [Cl', Cl, Ret, Ret2, Ret3, RetO, RetP, RetL, RetE]
  k_fill
  intro dp un gd cn cs aF ccd cl outer A₀ base h₀ L mF news s Q E B F X N T hk hd hu hret
  have q0 := p0.out
  k_with_none
  walk_at "my enter"
  k_steps
  · exact Side.mk (by omega)
  all_goals (refine ret_i hret N (by assumption) (by assumption) (by assumption) ?_; (unfold signedF; rfl))
theorem c_pack (s0 : Int) (u : Tok) (e : Int) (v : Tok) (f : Int) (t : Tok) (p0 : Side (Builtin.Int.intBits s0 ≤ 64)) (p1 : Side (Builtin.Int.intBits e ≤ 64)) : Cl' w mean mg mb 28 1 [.int s0 u, .int e v, .int f t] (Ret fun t => .int (packF s0 e f) t) := by
  dsimp only [Cl', Cl, Ret, Ret2, Ret3, RetO, RetP, RetL, RetE]
  k_fill
  intro dp un gd cn cs aF ccd cl outer A₀ base h₀ L mF news s Q E B F X N T hk hd hu hret
  have q0 := p0.out
  have q1 := p1.out
  k_with_none
  walk_at "my enter"
  k_steps
  · exact Side.mk (by omega)
  · exact Side.mk (by omega)
  all_goals (refine ret_i hret N (by assumption) (by assumption) (by assumption) ?_; (unfold packF; rfl))
theorem c_parts (b : Int) (t : Tok) : Cl' w mean mg mb 77 1 [.int b t] (Ret3 (fun t => .int (pSign b) t) (fun t => .int (pMan b) t) (fun t => .int (pPow b) t)) := by
  dsimp only [Cl', Cl, Ret, Ret2, Ret3, RetO, RetP, RetL, RetE]
  k_fill
  intro dp un gd cn cs aF ccd cl outer A₀ base h₀ L mF news s Q E B F X N T hk hd hu hret
  k_with_none
  walk_at "my enter"
  k_steps
  all_goals (refine ret_3i hret N (by assumption) (by assumption) (by assumption) (by assumption) (by k_mem) ?_; (unfold pSign pMan pPow; simp only [*, if_true, if_false, and_self]))
theorem c_width (n : Int) (t : Tok) (p0 : Side (0 ≤ n)) : Cl' w mean mg mb 21 1 [.int n t] (Ret fun t => .int (W n) t) := by
  dsimp only [Cl', Cl, Ret, Ret2, Ret3, RetO, RetP, RetL, RetE]
  k_fill
  intro dp un gd cn cs aF ccd cl outer A₀ base h₀ L mF news s Q E B F X N T hk hd hu hret
  have q0 := p0.out
  k_with_none
  k_with "exec While Compare cons nil" => k_while (fun script n' many => 0 ≤ n' ∧ 0 ≤ many ∧ many + W n' = W n) (fun script n' _ => n'.toNat) "n" "many"
  k_with "state" => first | exact ⟨q0, by omega, by omega⟩ | exact w_turn (by assumption) (by assumption) (by assumption) (by assumption)
  k_with "measure" => exact w_less (by assumption)
  k_with "exec If" => walk_at "my join"
  walk_at "my enter"
  k_steps
  all_goals first
    | (refine jw_in (by assumption) (by assumption) (by assumption) rfl rfl)
    | (refine jw_out (by rfl) (by rfl) (by assumption) (by assumption) (by assumption))
    | (refine ret_i hret N (by assumption) (by assumption) (by assumption) ?_; exact (wTail_chain (by assumption) (by assumption) (by assumption) (by assumption) (by assumption) (by assumption)).trans (wTail_inv (by assumption) (by assumption) (by assumption)))
theorem c_quotient (x : Int) (t : Tok) (b : Int) (u : Tok) (p : Int) (v : Tok) (p0 : Side (0 ≤ x)) (p1 : Side (Builtin.Int.intBits x ≤ 4100)) (p2 : Side (0 < b)) (p3 : Side (Builtin.Int.intBits b ≤ 4100)) (p4 : Side (-4100 ≤ p)) (p5 : Side (p ≤ 4100)) : Cl' w mean mg mb 84 1 [.int x t, .int b u, .int p v] (Ret3 (fun t => .int (qW x b p) t) (fun t => .int (qR x b p) t) (fun t => .int (qU b p) t)) := by
  dsimp only [Cl', Cl, Ret, Ret2, Ret3, RetO, RetP, RetL, RetE]
  k_fill
  intro dp un gd cn cs aF ccd cl outer A₀ base h₀ L mF news s Q E B F X N T hk hd hu hret
  have q0 := p0.out
  have q1 := p1.out
  have q2 := p2.out
  have q3 := p3.out
  have q4 := p4.out
  have q5 := p5.out
  k_with_none
  walk_at "my enter"
  k_steps
  all_goals first
    | exact Side.mk (by omega)
    | exact Side.mk (ne_mul2 q2)
    | exact Side.mk (log_mul2 q3 q5)
    | exact Side.mk (log_of_sz (by omega))
    | (refine ret_3i hret N (by assumption) (by assumption) (by assumption) (by assumption) (by k_mem) ?_; (first | ((simp only [qW, qR, qU, *, Int.reduceEq, Int.lt_irrefl, if_true, if_false, and_self, or_self, true_or, or_true, false_or, or_false, true_and, and_true, false_and, and_false, Bool.false_eq_true, not_true, not_false_iff, ne_eq, Bool.not_true, Bool.not_false, Bool.true_and, Bool.false_and, Bool.and_true, Bool.true_or, Bool.false_or, decide_true, decide_false, Bool.or_true, Bool.or_false, gt_iff_lt, reduceCtorEq]); done) | ((simp only [qW, qR, qU]); (repeat' split) <;> first | rfl | omega | (simp_all; done))))
theorem c_assembled (s0 : Int) (t : Tok) (x : Int) (u : Tok) (p : Int) (v : Tok) (p0 : Side (Builtin.Int.intBits s0 ≤ 64)) (p1 : Side (-1074 ≤ p)) : Cl' w mean mg mb 98 2 [.int s0 t, .int x u, .int p v] (Ret fun t => .int (assembledF s0 x p) t) := by
  dsimp only [Cl', Cl, Ret, Ret2, Ret3, RetO, RetP, RetL, RetE]
  k_fill
  intro dp un gd cn cs aF ccd cl outer A₀ base h₀ L mF news s Q E B F X N T hk hd hu hret
  have q0 := p0.out
  have q1 := p1.out
  k_with_none
  k_with "call ref" => cell_end (c_signed _ _ _ _ ?_) 70 "use"
  k_with "call ref" => cell_end (c_pack _ _ _ _ _ _ ?_ ?_) 28 "use"
  walk_at "my enter"
  k_steps
  all_goals first
    | exact Side.mk (by omega)
    | exact Side.mk (sz_small (by omega) (by omega))
    | (refine ret_i hret N (by assumption) (by assumption) (by assumption) ?_; (first | ((simp only [assembledF, asW, asP, *, Int.reduceEq, Int.lt_irrefl, if_true, if_false, and_self, or_self, true_or, or_true, false_or, or_false, true_and, and_true, false_and, and_false, Bool.false_eq_true, not_true, not_false_iff, ne_eq, Bool.not_true, Bool.not_false, Bool.true_and, Bool.false_and, Bool.and_true, Bool.true_or, Bool.false_or, decide_true, decide_false, Bool.or_true, Bool.or_false, gt_iff_lt, reduceCtorEq]); done) | ((simp only [assembledF, asW, asP]); (repeat' split) <;> first | rfl | omega | (simp_all; done))))
theorem c_round_ratio (s0 : Int) (t : Tok) (x : Int) (u : Tok) (b : Int) (v : Tok) (p0 : Side (Builtin.Int.intBits s0 ≤ 64)) (p1 : Side (0 ≤ x)) (p2 : Side (Builtin.Int.intBits x ≤ 4000)) (p3 : Side (0 < b)) (p4 : Side (Builtin.Int.intBits b ≤ 4000)) : Cl' w mean mg mb 91 3 [.int s0 t, .int x u, .int b v] (Ret fun t => .int (roundRatio s0 x b) t) := by
  dsimp only [Cl', Cl, Ret, Ret2, Ret3, RetO, RetP, RetL, RetE]
  k_fill
  intro dp un gd cn cs aF ccd cl outer A₀ base h₀ L mF news s Q E B F X N T hk hd hu hret
  have q0 := p0.out
  have q1 := p1.out
  have q2 := p2.out
  have q3 := p3.out
  have q4 := p4.out
  k_with_none
  k_with "call ref" => cell_end (c_width _ _ ?_) 21 "use"
  k_with "call ref" => cell_end (c_quotient _ _ _ _ _ _ ?_ ?_ ?_ ?_ ?_ ?_) 84 "use"
  k_with "call ref" => cell_end (c_assembled _ _ _ _ _ _ ?_ ?_) 98 "use"
  have w1 := W_nonneg x
  have w2 := W_nonneg b
  have w3 := W_le q2
  have w4 := W_le q4
  walk_at "my enter"
  k_steps
  all_goals first
    | exact Side.mk (by omega)
    | exact Side.mk (by split <;> omega)
    | (refine ret_i hret N (by assumption) (by assumption) (by assumption) ?_; (first | ((simp only [roundRatio, rrW, rrP, rrP0, *, Int.reduceEq, Int.lt_irrefl, if_true, if_false, and_self, or_self, true_or, or_true, false_or, or_false, true_and, and_true, false_and, and_false, Bool.false_eq_true, not_true, not_false_iff, ne_eq, Bool.not_true, Bool.not_false, Bool.true_and, Bool.false_and, Bool.and_true, Bool.true_or, Bool.false_or, decide_true, decide_false, Bool.or_true, Bool.or_false, reduceCtorEq]); done) | ((simp only [roundRatio, rrW, rrP, rrP0]); (repeat' split) <;> first | rfl | omega | (simp_all; done))))
theorem c_round_scaled (s0 : Int) (t : Tok) (x : Int) (u : Tok) (p : Int) (v : Tok) (p0 : Side (Builtin.Int.intBits s0 ≤ 64)) (p1 : Side (0 ≤ x)) (p2 : Side (Builtin.Int.intBits x ≤ 1000)) : Cl' w mean mg mb 105 4 [.int s0 t, .int x u, .int p v] (Ret fun t => .int (roundScaled s0 x p) t) := by
  dsimp only [Cl', Cl, Ret, Ret2, Ret3, RetO, RetP, RetL, RetE]
  k_fill
  intro dp un gd cn cs aF ccd cl outer A₀ base h₀ L mF news s Q E B F X N T hk hd hu hret
  have q0 := p0.out
  have q1 := p1.out
  have q2 := p2.out
  k_with_none
  k_with "call ref" => cell_end (c_width _ _ ?_) 21 "use"
  k_with "call ref" => cell_end (c_round_ratio _ _ _ _ _ _ ?_ ?_ ?_ ?_ ?_) 91 "use"
  k_with "call ref" => cell_end (c_signed _ _ _ _ ?_) 70 "use"
  have w1 := W_nonneg x
  have w3 := W_le q2
  walk_at "my enter"
  k_steps
  all_goals first
    | exact Side.mk (by omega)
    | exact Side.mk (nn_mul2 q1)
    | exact Side.mk (Nat.le_trans (sz_mul2 q2) (by omega))
    | exact Side.mk (pos_mul2 (by decide))
    | exact Side.mk (Nat.le_trans sz_two (by omega))
    | exact Side.mk (by rw [show Builtin.Int.intBits 1 = 1 from by decide +kernel]; omega)
    | (refine ret_i hret N (by assumption) (by assumption) (by assumption) ?_; (first | ((simp only [roundScaled, *, Int.reduceEq, Int.lt_irrefl, if_true, if_false, and_self, or_self, true_or, or_true, false_or, or_false, true_and, and_true, false_and, and_false, Bool.false_eq_true, not_true, not_false_iff, ne_eq, Bool.not_true, Bool.not_false, Bool.true_and, Bool.false_and, Bool.and_true, Bool.true_or, Bool.false_or, decide_true, decide_false, Bool.or_true, Bool.or_false, gt_iff_lt, reduceCtorEq]); done) | ((simp only [roundScaled]); (repeat' split) <;> first | rfl | omega | (simp_all; done))))
theorem c_to_int (b : Int) (t : Tok) (p0 : Side (0 ≤ pMan b)) (p1 : Side (pMan b < 9007199254740992)) (p2 : Side (-1074 ≤ pPow b)) (p3 : Side (pPow b ≤ 1000)) (p4 : Side (Builtin.Int.intBits (pSign b) ≤ 64)) (p5 : Side (isFin b = true)) : Cl' w mean mg mb 112 2 [.int b t] (Ret fun t => .int (toInt b) t) := by
  dsimp only [Cl', Cl, Ret, Ret2, Ret3, RetO, RetP, RetL, RetE]
  k_fill
  intro dp un gd cn cs aF ccd cl outer A₀ base h₀ L mF news s Q E B F X N T hk hd hu hret
  have q0 := p0.out
  have q1 := p1.out
  have q2 := p2.out
  have q3 := p3.out
  have q4 := p4.out
  have q5 := p5.out
  k_with_none
  k_with "call ref" => cell_end (c_is_finite _ _) 56 "use"
  k_with "call ref" => cell_end (c_parts _ _) 77 "use"
  have z0 : Builtin.Int.intBits (pMan b) ≤ 53 := sz_le_of_lt q0 (Int.lt_of_lt_of_le q1 (by decide))
  have z1 : Builtin.Int.intBits 1 = 1 := by decide +kernel
  walk_at "my enter"
  k_steps
  all_goals first
    | exact Side.mk (by omega)
    | (refine ret_i hret N (by assumption) (by assumption) (by assumption) ?_; (first | ((simp only [toInt, intSize, *, Int.reduceEq, Int.lt_irrefl, if_true, if_false, and_self, or_self, true_or, or_true, false_or, or_false, true_and, and_true, false_and, and_false, Bool.false_eq_true, not_true, not_false_iff, ne_eq, Bool.not_true, Bool.not_false, Bool.true_and, Bool.false_and, Bool.and_true, Bool.true_or, Bool.false_or, decide_true, decide_false, Bool.or_true, Bool.or_false, gt_iff_lt, reduceCtorEq]); done) | ((simp only [toInt, intSize]); (repeat' split) <;> first | rfl | omega | (simp_all; done))))
theorem c_is_whole (b : Int) (t : Tok) (p0 : Side (0 ≤ pMan b)) (p1 : Side (pMan b < 9007199254740992)) (p2 : Side (-1074 ≤ pPow b)) (p3 : Side (pPow b ≤ 1000)) (p4 : Side (Builtin.Int.intBits (pSign b) ≤ 64)) : Cl' w mean mg mb 119 2 [.int b t] (Ret fun _ => .bool (isWhole b)) := by
  dsimp only [Cl', Cl, Ret, Ret2, Ret3, RetO, RetP, RetL, RetE]
  k_fill
  intro dp un gd cn cs aF ccd cl outer A₀ base h₀ L mF news s Q E B F X N T hk hd hu hret
  have q0 := p0.out
  have q1 := p1.out
  have q2 := p2.out
  have q3 := p3.out
  have q4 := p4.out
  k_with_none
  k_with "call ref" => cell_end (c_is_finite _ _) 56 "use"
  k_with "call ref" => cell_end (c_parts _ _) 77 "use"
  have z0 : Builtin.Int.intBits (pMan b) ≤ 53 := sz_le_of_lt q0 (Int.lt_of_lt_of_le q1 (by decide))
  have z1 : Builtin.Int.intBits 1 = 1 := by decide +kernel
  walk_at "my enter"
  k_steps
  all_goals first
    | exact Side.mk (by omega)
    | exact Side.mk (by have := sz_fdiv (y := 2 ^ (-pPow b).toNat) z0; omega)
    | (refine ret_b hret N (by assumption) (by assumption) (by assumption) ?_; (first | ((simp only [isWhole, *, Int.reduceEq, Int.lt_irrefl, if_true, if_false, and_self, or_self, true_or, or_true, false_or, or_false, true_and, and_true, false_and, and_false, Bool.false_eq_true, not_true, not_false_iff, ne_eq, Bool.not_true, Bool.not_false, Bool.true_and, Bool.false_and, Bool.and_true, Bool.true_or, Bool.false_or, decide_true, decide_false, Bool.or_true, Bool.or_false, gt_iff_lt, reduceCtorEq]); done) | ((simp only [isWhole]); (repeat' split) <;> first | rfl | omega | (simp_all; done))))
theorem c_to_uint32 (b : Int) (t : Tok) (p0 : Side (0 ≤ pMan b)) (p1 : Side (pMan b < 9007199254740992)) (p2 : Side (-1074 ≤ pPow b)) (p3 : Side (pPow b ≤ 1000)) (p4 : Side (Builtin.Int.intBits (pSign b) ≤ 64)) : Cl' w mean mg mb 126 3 [.int b t] (Ret fun t => .int (toU32 b) t) := by
  dsimp only [Cl', Cl, Ret, Ret2, Ret3, RetO, RetP, RetL, RetE]
  k_fill
  intro dp un gd cn cs aF ccd cl outer A₀ base h₀ L mF news s Q E B F X N T hk hd hu hret
  have q0 := p0.out
  have q1 := p1.out
  have q2 := p2.out
  have q3 := p3.out
  have q4 := p4.out
  k_with_none
  k_with "call ref" => cell_end (c_is_finite _ _) 56 "use"
  k_with "call ref" => cell_end (c_to_int _ _ ?_ ?_ ?_ ?_ ?_ ?_) 112 "use"
  walk_at "my enter"
  k_steps
  all_goals first
    | exact Side.mk (by omega)
    | (refine ret_i hret N (by assumption) (by assumption) (by assumption) ?_; (first | ((simp only [toU32, *, Int.reduceEq, Int.lt_irrefl, if_true, if_false, and_self, or_self, true_or, or_true, false_or, or_false, true_and, and_true, false_and, and_false, Bool.false_eq_true, not_true, not_false_iff, ne_eq, Bool.not_true, Bool.not_false, Bool.true_and, Bool.false_and, Bool.and_true, Bool.true_or, Bool.false_or, decide_true, decide_false, Bool.or_true, Bool.or_false, gt_iff_lt, reduceCtorEq]); done) | ((simp only [toU32]); (repeat' split) <;> first | rfl | omega | (simp_all; done))))
theorem c_to_int32 (b : Int) (t : Tok) (p0 : Side (0 ≤ pMan b)) (p1 : Side (pMan b < 9007199254740992)) (p2 : Side (-1074 ≤ pPow b)) (p3 : Side (pPow b ≤ 1000)) (p4 : Side (Builtin.Int.intBits (pSign b) ≤ 64)) : Cl' w mean mg mb 133 4 [.int b t] (Ret fun t => .int (toI32 b) t) := by
  dsimp only [Cl', Cl, Ret, Ret2, Ret3, RetO, RetP, RetL, RetE]
  k_fill
  intro dp un gd cn cs aF ccd cl outer A₀ base h₀ L mF news s Q E B F X N T hk hd hu hret
  have q0 := p0.out
  have q1 := p1.out
  have q2 := p2.out
  have q3 := p3.out
  have q4 := p4.out
  k_with_none
  k_with "call ref" => cell_end (c_to_uint32 _ _ ?_ ?_ ?_ ?_ ?_) 126 "use"
  walk_at "my enter"
  k_steps
  all_goals first
    | exact Side.mk (by omega)
    | (refine ret_i hret N (by assumption) (by assumption) (by assumption) ?_; (first | ((simp only [toI32, *, Int.reduceEq, Int.lt_irrefl, if_true, if_false, and_self, or_self, true_or, or_true, false_or, or_false, true_and, and_true, false_and, and_false, Bool.false_eq_true, not_true, not_false_iff, ne_eq, Bool.not_true, Bool.not_false, Bool.true_and, Bool.false_and, Bool.and_true, Bool.true_or, Bool.false_or, decide_true, decide_false, Bool.or_true, Bool.or_false, gt_iff_lt, reduceCtorEq]); done) | ((simp only [toI32]); (repeat' split) <;> first | rfl | omega | (simp_all; done))))
theorem c_to_uint16 (b : Int) (t : Tok) (p0 : Side (0 ≤ pMan b)) (p1 : Side (pMan b < 9007199254740992)) (p2 : Side (-1074 ≤ pPow b)) (p3 : Side (pPow b ≤ 1000)) (p4 : Side (Builtin.Int.intBits (pSign b) ≤ 64)) : Cl' w mean mg mb 140 3 [.int b t] (Ret fun t => .int (toU16 b) t) := by
  dsimp only [Cl', Cl, Ret, Ret2, Ret3, RetO, RetP, RetL, RetE]
  k_fill
  intro dp un gd cn cs aF ccd cl outer A₀ base h₀ L mF news s Q E B F X N T hk hd hu hret
  have q0 := p0.out
  have q1 := p1.out
  have q2 := p2.out
  have q3 := p3.out
  have q4 := p4.out
  k_with_none
  k_with "call ref" => cell_end (c_is_finite _ _) 56 "use"
  k_with "call ref" => cell_end (c_to_int _ _ ?_ ?_ ?_ ?_ ?_ ?_) 112 "use"
  walk_at "my enter"
  k_steps
  all_goals first
    | exact Side.mk (by omega)
    | (refine ret_i hret N (by assumption) (by assumption) (by assumption) ?_; (first | ((simp only [toU16, *, Int.reduceEq, Int.lt_irrefl, if_true, if_false, and_self, or_self, true_or, or_true, false_or, or_false, true_and, and_true, false_and, and_false, Bool.false_eq_true, not_true, not_false_iff, ne_eq, Bool.not_true, Bool.not_false, Bool.true_and, Bool.false_and, Bool.and_true, Bool.true_or, Bool.false_or, decide_true, decide_false, Bool.or_true, Bool.or_false, gt_iff_lt, reduceCtorEq]); done) | ((simp only [toU16]); (repeat' split) <;> first | rfl | omega | (simp_all; done))))
theorem c_split (b : Int) (t : Tok) (p0 : Side (0 ≤ pMan b)) (p1 : Side (pMan b < 9007199254740992)) (p2 : Side (-1074 ≤ pPow b)) (p3 : Side (pPow b ≤ 1000)) (p4 : Side (Builtin.Int.intBits (pSign b) ≤ 64)) : Cl' w mean mg mb 147 2 [.int b t] (Ret3 (fun t => .int (spW b) t) (fun t => .int (spR b) t) (fun t => .int (spU b) t)) := by
  dsimp only [Cl', Cl, Ret, Ret2, Ret3, RetO, RetP, RetL, RetE]
  k_fill
  intro dp un gd cn cs aF ccd cl outer A₀ base h₀ L mF news s Q E B F X N T hk hd hu hret
  have q0 := p0.out
  have q1 := p1.out
  have q2 := p2.out
  have q3 := p3.out
  have q4 := p4.out
  k_with_none
  k_with "call ref" => cell_end (c_parts _ _) 77 "use"
  have z0 : Builtin.Int.intBits (pMan b) ≤ 53 := sz_le_of_lt q0 (Int.lt_of_lt_of_le q1 (by decide))
  have z1 : Builtin.Int.intBits 1 = 1 := by decide +kernel
  walk_at "my enter"
  k_steps
  all_goals first
    | exact Side.mk (by omega)
    | (refine ret_3i hret N (by assumption) (by assumption) (by assumption) (by assumption) (by k_mem) ?_; (first | ((simp only [spW, spR, spU, *, Int.reduceEq, Int.lt_irrefl, if_true, if_false, and_self, or_self, true_or, or_true, false_or, or_false, true_and, and_true, false_and, and_false, Bool.false_eq_true, not_true, not_false_iff, ne_eq, Bool.not_true, Bool.not_false, Bool.true_and, Bool.false_and, Bool.and_true, Bool.true_or, Bool.false_or, decide_true, decide_false, Bool.or_true, Bool.or_false, gt_iff_lt, reduceCtorEq]); done) | ((simp only [spW, spR, spU]); (repeat' split) <;> first | rfl | omega | (simp_all; done))))
theorem c_made_whole (b : Int) (t : Tok) (n : Int) (u : Tok) (p0 : Side (0 ≤ pMan b)) (p1 : Side (pMan b < 9007199254740992)) (p2 : Side (-1074 ≤ pPow b)) (p3 : Side (pPow b ≤ 1000)) (p4 : Side (Builtin.Int.intBits (pSign b) ≤ 64)) (p5 : Side (0 ≤ n)) (p6 : Side (Builtin.Int.intBits n ≤ 4000)) : Cl' w mean mg mb 154 4 [.int b t, .int n u] (Ret fun t => .int (madeWhole b n) t) := by
  dsimp only [Cl', Cl, Ret, Ret2, Ret3, RetO, RetP, RetL, RetE]
  k_fill
  intro dp un gd cn cs aF ccd cl outer A₀ base h₀ L mF news s Q E B F X N T hk hd hu hret
  have q0 := p0.out
  have q1 := p1.out
  have q2 := p2.out
  have q3 := p3.out
  have q4 := p4.out
  have q5 := p5.out
  have q6 := p6.out
  k_with_none
  k_with "call ref" => cell_end (c_round_ratio _ _ _ _ _ _ ?_ ?_ ?_ ?_ ?_) 91 "use"
  walk_at "my enter"
  k_steps
  all_goals first
    | exact Side.mk (by omega)
    | exact Side.mk (by unfold pSign at q4; exact q4)
    | (refine ret_i hret N (by assumption) (by assumption) (by assumption) ?_; (first | ((simp only [madeWhole, *, Int.reduceEq, Int.lt_irrefl, if_true, if_false, and_self, or_self, true_or, or_true, false_or, or_false, true_and, and_true, false_and, and_false, Bool.false_eq_true, not_true, not_false_iff, ne_eq, Bool.not_true, Bool.not_false, Bool.true_and, Bool.false_and, Bool.and_true, Bool.true_or, Bool.false_or, decide_true, decide_false, Bool.or_true, Bool.or_false, gt_iff_lt, reduceCtorEq]); done) | ((simp only [madeWhole]); (repeat' split) <;> first | rfl | omega | (simp_all; done))))
theorem c_is_settled (b : Int) (t : Tok) (p0 : Side (0 ≤ pMan b)) (p1 : Side (pMan b < 9007199254740992)) (p2 : Side (-1074 ≤ pPow b)) (p3 : Side (pPow b ≤ 1000)) (p4 : Side (Builtin.Int.intBits (pSign b) ≤ 64)) : Cl' w mean mg mb 161 3 [.int b t] (Ret fun _ => .bool (isSettled b)) := by
  dsimp only [Cl', Cl, Ret, Ret2, Ret3, RetO, RetP, RetL, RetE]
  k_fill
  intro dp un gd cn cs aF ccd cl outer A₀ base h₀ L mF news s Q E B F X N T hk hd hu hret
  have q0 := p0.out
  have q1 := p1.out
  have q2 := p2.out
  have q3 := p3.out
  have q4 := p4.out
  k_with_none
  k_with "call ref" => cell_end (c_is_finite _ _) 56 "use"
  k_with "call ref" => cell_end (c_is_zero _ _) 63 "use"
  k_with "call ref" => cell_end (c_split _ _ ?_ ?_ ?_ ?_ ?_) 147 "use"
  walk_at "my enter"
  k_steps
  all_goals first
    | exact Side.mk (by omega)
    | (refine ret_b hret N (by assumption) (by assumption) (by assumption) ?_; (first | ((simp only [isSettled, *, Int.reduceEq, Int.lt_irrefl, if_true, if_false, and_self, or_self, true_or, or_true, false_or, or_false, true_and, and_true, false_and, and_false, Bool.false_eq_true, not_true, not_false_iff, ne_eq, Bool.not_true, Bool.not_false, Bool.true_and, Bool.false_and, Bool.and_true, Bool.true_or, Bool.false_or, decide_true, decide_false, Bool.or_true, Bool.or_false, gt_iff_lt, reduceCtorEq]); done) | ((simp only [isSettled]); (repeat' split) <;> first | rfl | omega | (simp_all; done))))
theorem c_to_integer (b : Int) (t : Tok) (p0 : Side (0 ≤ pMan b)) (p1 : Side (pMan b < 9007199254740992)) (p2 : Side (-1074 ≤ pPow b)) (p3 : Side (pPow b ≤ 1000)) (p4 : Side (Builtin.Int.intBits (pSign b) ≤ 64)) : Cl' w mean mg mb 168 5 [.int b t] (Ret fun t => .int (toInteger b) t) := by
  dsimp only [Cl', Cl, Ret, Ret2, Ret3, RetO, RetP, RetL, RetE]
  k_fill
  intro dp un gd cn cs aF ccd cl outer A₀ base h₀ L mF news s Q E B F X N T hk hd hu hret
  have q0 := p0.out
  have q1 := p1.out
  have q2 := p2.out
  have q3 := p3.out
  have q4 := p4.out
  k_with_none
  k_with "call ref" => cell_end (c_is_nan _ _) 42 "use"
  k_with "call ref" => cell_end (c_is_settled _ _ ?_ ?_ ?_ ?_ ?_) 161 "use"
  k_with "call ref" => cell_end (c_split _ _ ?_ ?_ ?_ ?_ ?_) 147 "use"
  k_with "call ref" => cell_end (c_made_whole _ _ _ _ ?_ ?_ ?_ ?_ ?_ ?_ ?_) 154 "use"
  have z2 := spW_nn q0
  have z3 := spW_sz q0 q1 q3
  have z4 := sz_succ z3 (by decide)
  walk_at "my enter"
  k_steps
  all_goals first
    | exact Side.mk (by omega)
    | (refine ret_i hret N (by assumption) (by assumption) (by assumption) ?_; (first | ((simp only [toInteger, *, Int.reduceEq, Int.lt_irrefl, if_true, if_false, and_self, or_self, true_or, or_true, false_or, or_false, true_and, and_true, false_and, and_false, Bool.false_eq_true, not_true, not_false_iff, ne_eq, Bool.not_true, Bool.not_false, Bool.true_and, Bool.false_and, Bool.and_true, Bool.true_or, Bool.false_or, decide_true, decide_false, Bool.or_true, Bool.or_false, gt_iff_lt, reduceCtorEq]); done) | ((simp only [toInteger]); (repeat' split) <;> first | rfl | omega | (simp_all; done))))
theorem c_floor (b : Int) (t : Tok) (p0 : Side (0 ≤ pMan b)) (p1 : Side (pMan b < 9007199254740992)) (p2 : Side (-1074 ≤ pPow b)) (p3 : Side (pPow b ≤ 1000)) (p4 : Side (Builtin.Int.intBits (pSign b) ≤ 64)) : Cl' w mean mg mb 175 5 [.int b t] (Ret fun t => .int (floorF b) t) := by
  dsimp only [Cl', Cl, Ret, Ret2, Ret3, RetO, RetP, RetL, RetE]
  k_fill
  intro dp un gd cn cs aF ccd cl outer A₀ base h₀ L mF news s Q E B F X N T hk hd hu hret
  have q0 := p0.out
  have q1 := p1.out
  have q2 := p2.out
  have q3 := p3.out
  have q4 := p4.out
  k_with_none
  k_with "call ref" => cell_end (c_is_negative _ _) 35 "use"
  k_with "call ref" => cell_end (c_is_settled _ _ ?_ ?_ ?_ ?_ ?_) 161 "use"
  k_with "call ref" => cell_end (c_split _ _ ?_ ?_ ?_ ?_ ?_) 147 "use"
  k_with "call ref" => cell_end (c_made_whole _ _ _ _ ?_ ?_ ?_ ?_ ?_ ?_ ?_) 154 "use"
  have z2 := spW_nn q0
  have z3 := spW_sz q0 q1 q3
  have z4 := sz_succ z3 (by decide)
  walk_at "my enter"
  k_steps
  all_goals first
    | exact Side.mk (by omega)
    | (refine ret_i hret N (by assumption) (by assumption) (by assumption) ?_; (first | ((simp only [floorF, *, Int.reduceEq, Int.lt_irrefl, if_true, if_false, and_self, or_self, true_or, or_true, false_or, or_false, true_and, and_true, false_and, and_false, Bool.false_eq_true, not_true, not_false_iff, ne_eq, Bool.not_true, Bool.not_false, Bool.true_and, Bool.false_and, Bool.and_true, Bool.true_or, Bool.false_or, decide_true, decide_false, Bool.or_true, Bool.or_false, gt_iff_lt, reduceCtorEq]); done) | ((simp only [floorF]); (repeat' split) <;> first | rfl | omega | (simp_all; done))))
theorem c_ceil (b : Int) (t : Tok) (p0 : Side (0 ≤ pMan b)) (p1 : Side (pMan b < 9007199254740992)) (p2 : Side (-1074 ≤ pPow b)) (p3 : Side (pPow b ≤ 1000)) (p4 : Side (Builtin.Int.intBits (pSign b) ≤ 64)) : Cl' w mean mg mb 182 5 [.int b t] (Ret fun t => .int (ceilF b) t) := by
  dsimp only [Cl', Cl, Ret, Ret2, Ret3, RetO, RetP, RetL, RetE]
  k_fill
  intro dp un gd cn cs aF ccd cl outer A₀ base h₀ L mF news s Q E B F X N T hk hd hu hret
  have q0 := p0.out
  have q1 := p1.out
  have q2 := p2.out
  have q3 := p3.out
  have q4 := p4.out
  k_with_none
  k_with "call ref" => cell_end (c_is_negative _ _) 35 "use"
  k_with "call ref" => cell_end (c_is_settled _ _ ?_ ?_ ?_ ?_ ?_) 161 "use"
  k_with "call ref" => cell_end (c_split _ _ ?_ ?_ ?_ ?_ ?_) 147 "use"
  k_with "call ref" => cell_end (c_made_whole _ _ _ _ ?_ ?_ ?_ ?_ ?_ ?_ ?_) 154 "use"
  have z2 := spW_nn q0
  have z3 := spW_sz q0 q1 q3
  have z4 := sz_succ z3 (by decide)
  walk_at "my enter"
  k_steps
  all_goals first
    | exact Side.mk (by omega)
    | (refine ret_i hret N (by assumption) (by assumption) (by assumption) ?_; (first | ((simp only [ceilF, *, Int.reduceEq, Int.lt_irrefl, if_true, if_false, and_self, or_self, true_or, or_true, false_or, or_false, true_and, and_true, false_and, and_false, Bool.false_eq_true, not_true, not_false_iff, ne_eq, Bool.not_true, Bool.not_false, Bool.true_and, Bool.false_and, Bool.and_true, Bool.true_or, Bool.false_or, decide_true, decide_false, Bool.or_true, Bool.or_false, gt_iff_lt, reduceCtorEq]); done) | ((simp only [ceilF]); (repeat' split) <;> first | rfl | omega | (simp_all; done))))
theorem c_round_half_up (b : Int) (t : Tok) (p0 : Side (0 ≤ pMan b)) (p1 : Side (pMan b < 9007199254740992)) (p2 : Side (-1074 ≤ pPow b)) (p3 : Side (pPow b ≤ 1000)) (p4 : Side (Builtin.Int.intBits (pSign b) ≤ 64)) : Cl' w mean mg mb 189 5 [.int b t] (Ret fun t => .int (halfUp b) t) := by
  dsimp only [Cl', Cl, Ret, Ret2, Ret3, RetO, RetP, RetL, RetE]
  k_fill
  intro dp un gd cn cs aF ccd cl outer A₀ base h₀ L mF news s Q E B F X N T hk hd hu hret
  have q0 := p0.out
  have q1 := p1.out
  have q2 := p2.out
  have q3 := p3.out
  have q4 := p4.out
  k_with_none
  k_with "call ref" => cell_end (c_is_negative _ _) 35 "use"
  k_with "call ref" => cell_end (c_is_settled _ _ ?_ ?_ ?_ ?_ ?_) 161 "use"
  k_with "call ref" => cell_end (c_split _ _ ?_ ?_ ?_ ?_ ?_) 147 "use"
  k_with "call ref" => cell_end (c_made_whole _ _ _ _ ?_ ?_ ?_ ?_ ?_ ?_ ?_) 154 "use"
  have z2 := spW_nn q0
  have z3 := spW_sz q0 q1 q3
  have z4 := sz_succ z3 (by decide)
  walk_at "my enter"
  k_steps
  all_goals first
    | exact Side.mk (by omega)
    | (refine ret_i hret N (by assumption) (by assumption) (by assumption) ?_; (first | ((simp only [halfUp, *, Int.reduceEq, Int.lt_irrefl, if_true, if_false, and_self, or_self, true_or, or_true, false_or, or_false, true_and, and_true, false_and, and_false, Bool.false_eq_true, not_true, not_false_iff, ne_eq, Bool.not_true, Bool.not_false, Bool.true_and, Bool.false_and, Bool.and_true, Bool.true_or, Bool.false_or, decide_true, decide_false, Bool.or_true, Bool.or_false, gt_iff_lt, reduceCtorEq]); done) | ((simp only [halfUp]); (repeat' split) <;> first | rfl | omega | (simp_all; done))))
theorem c_absolute (b : Int) (t : Tok) : Cl' w mean mg mb 196 2 [.int b t] (Ret fun t => .int (absF b) t) := by
  dsimp only [Cl', Cl, Ret, Ret2, Ret3, RetO, RetP, RetL, RetE]
  k_fill
  intro dp un gd cn cs aF ccd cl outer A₀ base h₀ L mF news s Q E B F X N T hk hd hu hret
  k_with_none
  k_with "call ref" => cell_end (c_is_nan _ _) 42 "use"
  k_with "call ref" => cell_end (c_signed _ _ _ _ ?_) 70 "use"
  walk_at "my enter"
  k_steps
  all_goals first
    | exact Side.mk (by omega)
    | (refine ret_i hret N (by assumption) (by assumption) (by assumption) ?_; (first | ((simp only [absF, *, Int.reduceEq, Int.lt_irrefl, if_true, if_false, and_self, or_self, true_or, or_true, false_or, or_false, true_and, and_true, false_and, and_false, Bool.false_eq_true, not_true, not_false_iff, ne_eq, Bool.not_true, Bool.not_false, Bool.true_and, Bool.false_and, Bool.and_true, Bool.true_or, Bool.false_or, decide_true, decide_false, Bool.or_true, Bool.or_false, gt_iff_lt, reduceCtorEq]); done) | ((simp only [absF]); (repeat' split) <;> first | rfl | omega | (simp_all; done))))
theorem c_order_key (b : Int) (t : Tok) : Cl' w mean mg mb 203 2 [.int b t] (Ret fun t => .int (orderKey b) t) := by
  dsimp only [Cl', Cl, Ret, Ret2, Ret3, RetO, RetP, RetL, RetE]
  k_fill
  intro dp un gd cn cs aF ccd cl outer A₀ base h₀ L mF news s Q E B F X N T hk hd hu hret
  k_with_none
  k_with "call ref" => cell_end (c_is_negative _ _) 35 "use"
  walk_at "my enter"
  k_steps
  all_goals first
    | exact Side.mk (by omega)
    | (refine ret_i hret N (by assumption) (by assumption) (by assumption) ?_; (first | ((simp only [orderKey, *, Int.reduceEq, Int.lt_irrefl, if_true, if_false, and_self, or_self, true_or, or_true, false_or, or_false, true_and, and_true, false_and, and_false, Bool.false_eq_true, not_true, not_false_iff, ne_eq, Bool.not_true, Bool.not_false, Bool.true_and, Bool.false_and, Bool.and_true, Bool.true_or, Bool.false_or, decide_true, decide_false, Bool.or_true, Bool.or_false, gt_iff_lt, reduceCtorEq]); done) | ((simp only [orderKey]); (repeat' split) <;> first | rfl | omega | (simp_all; done))))
theorem c_compare (b : Int) (t : Tok) (c : Int) (u : Tok) (p0 : Side (isNan b = false)) (p1 : Side (isNan c = false)) : Cl' w mean mg mb 210 3 [.int b t, .int c u] (Ret fun t => .int (compareF b c) t) := by
  dsimp only [Cl', Cl, Ret, Ret2, Ret3, RetO, RetP, RetL, RetE]
  k_fill
  intro dp un gd cn cs aF ccd cl outer A₀ base h₀ L mF news s Q E B F X N T hk hd hu hret
  have q0 := p0.out
  have q1 := p1.out
  k_with_none
  k_with "call ref" => cell_end (c_is_nan _ _) 42 "use"
  k_with "call ref" => cell_end (c_order_key _ _) 203 "use"
  walk_at "my enter"
  k_steps
  all_goals first
    | exact Side.mk (by omega)
    | (refine ret_i hret N (by assumption) (by assumption) (by assumption) ?_; (first | ((simp only [compareF, *, Int.reduceEq, Int.lt_irrefl, if_true, if_false, and_self, or_self, true_or, or_true, false_or, or_false, true_and, and_true, false_and, and_false, Bool.false_eq_true, not_true, not_false_iff, ne_eq, Bool.not_true, Bool.not_false, Bool.true_and, Bool.false_and, Bool.and_true, Bool.true_or, Bool.false_or, decide_true, decide_false, Bool.or_true, Bool.or_false, gt_iff_lt, reduceCtorEq]); done) | ((simp only [compareF]); (repeat' split) <;> first | rfl | omega | (simp_all; done))))
theorem c_is_odd (b : Int) (t : Tok) (p0 : Side (0 ≤ pMan b)) (p1 : Side (pMan b < 9007199254740992)) (p2 : Side (-1074 ≤ pPow b)) (p3 : Side (pPow b ≤ 1000)) (p4 : Side (Builtin.Int.intBits (pSign b) ≤ 64)) : Cl' w mean mg mb 217 3 [.int b t] (Ret fun _ => .bool (isOdd b)) := by
  dsimp only [Cl', Cl, Ret, Ret2, Ret3, RetO, RetP, RetL, RetE]
  k_fill
  intro dp un gd cn cs aF ccd cl outer A₀ base h₀ L mF news s Q E B F X N T hk hd hu hret
  have q0 := p0.out
  have q1 := p1.out
  have q2 := p2.out
  have q3 := p3.out
  have q4 := p4.out
  k_with_none
  k_with "call ref" => cell_end (c_is_whole _ _ ?_ ?_ ?_ ?_ ?_) 119 "use"
  k_with "call ref" => cell_end (c_to_int _ _ ?_ ?_ ?_ ?_ ?_ ?_) 112 "use"
  walk_at "my enter"
  k_steps
  all_goals first
    | exact Side.mk (by omega)
    | exact Side.mk ((by rename_i h9; unfold isWhole at h9; simp_all))
    | (refine ret_b hret N (by assumption) (by assumption) (by assumption) ?_; (first | ((simp only [isOdd, *, Int.reduceEq, Int.lt_irrefl, if_true, if_false, and_self, or_self, true_or, or_true, false_or, or_false, true_and, and_true, false_and, and_false, Bool.false_eq_true, not_true, not_false_iff, ne_eq, Bool.not_true, Bool.not_false, Bool.true_and, Bool.false_and, Bool.and_true, Bool.true_or, Bool.false_or, decide_true, decide_false, Bool.or_true, Bool.or_false, gt_iff_lt, reduceCtorEq]); done) | ((simp only [isOdd]); (repeat' split) <;> first | rfl | omega | (simp_all; done))))
theorem c_power_of_edge (a : Int) (t : Tok) (b : Int) (u : Tok) (p0 : Side (0 ≤ pMan b)) (p1 : Side (pMan b < 9007199254740992)) (p2 : Side (-1074 ≤ pPow b)) (p3 : Side (pPow b ≤ 1000)) (p4 : Side (Builtin.Int.intBits (pSign b) ≤ 64)) (p5 : Side (isNan (absF a) = false)) : Cl' w mean mg mb 224 4 [.int a t, .int b u] (Ret fun t => .int (powerEdge a b) t) := by
  dsimp only [Cl', Cl, Ret, Ret2, Ret3, RetO, RetP, RetL, RetE]
  k_fill
  intro dp un gd cn cs aF ccd cl outer A₀ base h₀ L mF news s Q E B F X N T hk hd hu hret
  have q0 := p0.out
  have q1 := p1.out
  have q2 := p2.out
  have q3 := p3.out
  have q4 := p4.out
  have q5 := p5.out
  k_with_none
  k_with "call ref" => cell_end (c_is_inf _ _) 49 "use"
  k_with "call ref" => cell_end (c_absolute _ _) 196 "use"
  k_with "call ref" => cell_end (c_compare _ _ _ _ ?_ ?_) 210 "use"
  k_with "call ref" => cell_end (c_is_negative _ _) 35 "use"
  k_with "call ref" => cell_end (c_is_odd _ _ ?_ ?_ ?_ ?_ ?_) 217 "use"
  k_with "call ref" => cell_end (c_signed _ _ _ _ ?_) 70 "use"
  walk_at "my enter"
  k_steps
  all_goals first
    | exact Side.mk (by omega)
    | exact Side.mk (fin_of_whole (by assumption))
    | (refine ret_i hret N (by assumption) (by assumption) (by assumption) ?_; (first | ((simp only [powerEdge, *, Int.reduceEq, Int.lt_irrefl, if_true, if_false, and_self, or_self, true_or, or_true, false_or, or_false, true_and, and_true, false_and, and_false, Bool.false_eq_true, not_true, not_false_iff, ne_eq, Bool.not_true, Bool.not_false, Bool.true_and, Bool.false_and, Bool.and_true, Bool.true_or, Bool.false_or, decide_true, decide_false, Bool.or_true, Bool.or_false, gt_iff_lt, reduceCtorEq]); done) | ((simp only [powerEdge]); (repeat' split) <;> first | rfl | omega | (simp_all; done))))
theorem c_trimmed (m0 : Int) (t : Tok) (s0 : Int) (u : Tok) (l : Int) (v : Tok) (p0 : Side (0 ≤ m0)) : Cl' w mean mg mb 252 2 [.int m0 t, .int s0 u, .int l v] (Ret2 (fun t => .int m0 t) (fun t => .int s0 t)) := by
  dsimp only [Cl', Cl, Ret, Ret2, Ret3, RetO, RetP, RetL, RetE]
  k_fill
  intro dp un gd cn cs aF ccd cl outer A₀ base h₀ L mF news s Q E B F X N T hk hd hu hret
  have q0 := p0.out
  k_with_none
  k_with "call ref" => cell_end (c_width _ _ ?_) 21 "use"
  walk_at "my enter"
  k_steps
  all_goals first
    | (refine ret_2i hret N (by assumption) (by assumption) (by assumption) (by assumption) (by k_mem) ⟨rfl, rfl⟩)
theorem c_raised (m0 : Int) (t : Tok) (s0 : Int) (u : Tok) (k : Int) (v : Tok) (p0 : Side (0 < m0)) (p1 : Side (Builtin.Int.intBits m0 ≤ 53)) (p2 : Side (0 ≤ k)) (p3 : Side (k ≤ 5)) : Cl' w mean mg mb 245 3 [.int m0 t, .int s0 u, .int k v] (Ret2 (fun t => .int (m0 ^ k.toNat) t) (fun t => .int (s0 * k) t)) := by
  dsimp only [Cl', Cl, Ret, Ret2, Ret3, RetO, RetP, RetL, RetE]
  k_fill
  intro dp un gd cn cs aF ccd cl outer A₀ base h₀ L mF news s Q E B F X N T hk hd hu hret
  have q0 := p0.out
  have q1 := p1.out
  have q2 := p2.out
  have q3 := p3.out
  k_with_none
  k_with "call ref" => cell_end (c_trimmed _ _ _ _ _ _ ?_) 252 "use"
  k_with "exec While Compare cons nil" => k_while (fun script found shift mantissa scale many => RI m0 s0 k found shift mantissa scale many) (fun script found shift mantissa scale many => many.toNat) "found" "shift" "mantissa" "scale" "many"
  k_with "state" => first | exact ri_start q0 q2 q3 | exact ri_even (by assumption) (by assumption) (by assumption) | exact ri_stop (by assumption) (by assumption) (by assumption) (by assumption) | exact ri_go (by assumption) (by assumption) (by assumption)
  k_with "measure" => exact ri_less (by assumption)
  walk_at "my enter"
  k_steps
  all_goals first
    | exact Side.mk (mulOk (Nat.le_trans (ri_bounds (by assumption) (by assumption) q1 q3).1 (by decide)) (Nat.le_trans (ri_bounds (by assumption) (by assumption) q1 q3).2.1 (by decide)))
    | exact Side.mk (mulOk (Nat.le_trans (ri_bounds (by assumption) (by assumption) q1 q3).2.1 (by decide)) (Nat.le_trans (ri_bounds (by assumption) (by assumption) q1 q3).2.1 (by decide)))
    | exact Side.mk (ri_bounds (by assumption) (by assumption) q1 q3).2.2.1
    | exact Side.mk (ri_bounds (by assumption) (by assumption) q1 q3).2.2.2
    | (refine ret_2i hret N (by assumption) (by assumption) (by assumption) (by assumption) (by k_mem) ?_; exact ri_end (by assumption) (by assumption))
theorem c_whole_power (s1 : Int) (t : Tok) (m0 : Int) (u : Tok) (s0 : Int) (v : Tok) (k : Int) (x : Tok) (p0 : Side (Builtin.Int.intBits s1 ≤ 64)) (p1 : Side (0 < m0)) (p2 : Side (m0 < 9007199254740992)) (p3 : Side (-1074 ≤ s0)) (p4 : Side (s0 ≤ 1000)) (p5 : Side (-5 ≤ k)) (p6 : Side (k ≤ 5)) (p7 : Side (k ≠ 0)) : Cl' w mean mg mb 238 5 [.int s1 t, .int m0 u, .int s0 v, .int k x] (Ret fun t => .int (wholePower s1 m0 s0 k) t) := by
  dsimp only [Cl', Cl, Ret, Ret2, Ret3, RetO, RetP, RetL, RetE]
  k_fill
  intro dp un gd cn cs aF ccd cl outer A₀ base h₀ L mF news s Q E B F X N T hk hd hu hret
  have q0 := p0.out
  have q1 := p1.out
  have q2 := p2.out
  have q3 := p3.out
  have q4 := p4.out
  have q5 := p5.out
  have q6 := p6.out
  have q7 := p7.out
  k_with_none
  k_with "call ref" => cell_end (c_raised _ _ _ _ _ _ ?_ ?_ ?_ ?_) 245 "use"
  k_with "call ref" => cell_end (c_round_scaled _ _ _ _ _ _ ?_ ?_ ?_) 105 "use"
  k_with "call ref" => cell_end (c_width _ _ ?_) 21 "use"
  k_with "call ref" => cell_end (c_signed _ _ _ _ ?_) 70 "use"
  k_with "call ref" => cell_end (c_round_ratio _ _ _ _ _ _ ?_ ?_ ?_ ?_ ?_) 91 "use"
  k_with "exec While Compare cons nil" => k_while (fun script m s => WI m0 s0 m s) (fun script m s => m.toNat) "mantissa" "scale"
  k_with "state" => first | exact wi_start q1 q2 | exact wi_turn (by assumption) (by assumption)
  k_with "measure" => exact wi_less (by assumption) (by assumption)
  walk_at "my enter"
  k_steps
  all_goals (have h9 := wi_facts (k := k) (by assumption) q2 q5 q6; have h8 := wi_end (by assumption) (by assumption))
  all_goals first
    | exact Side.mk (by omega)
    | exact Side.mk (by rw [show Builtin.Int.intBits 1 = 1 from by decide +kernel]; omega)
    | exact Side.mk (pos_mul2 h9.2.2.1)
    | exact Side.mk (Nat.le_trans (sz_mul2 h9.2.2.2.1) (by omega))
    | exact Side.mk (nn_mul2 (by decide))
    | exact Side.mk (Nat.le_trans sz_two (by omega))
    | exact Side.mk (Int.le_of_lt h9.2.2.1)
    | (refine ret_i hret N (by assumption) (by assumption) (by assumption) ?_; first | exact wp_close1 h8 (by assumption) (by assumption) | exact wp_close2 h8 (by assumption) (by assumption))
    | (refine ret_i hret N (by assumption) (by assumption) (by assumption) ?_; (first | ((simp only [wholePower, wpTop, wpPow, h8, *, Int.reduceEq, Int.lt_irrefl, if_true, if_false, and_self, or_self, true_or, or_true, false_or, or_false, true_and, and_true, false_and, and_false, Bool.false_eq_true, not_true, not_false_iff, ne_eq, Bool.not_true, Bool.not_false, Bool.true_and, Bool.false_and, Bool.and_true, Bool.true_or, Bool.false_or, decide_true, decide_false, Bool.or_true, Bool.or_false, gt_iff_lt, reduceCtorEq]); done) | ((simp only [wholePower, wpTop, wpPow, h8]); (repeat' split) <;> first | rfl | omega | (simp_all; done))))
theorem c_power (a : Int) (t : Tok) (b : Int) (u : Tok) (p0 : Side (0 ≤ pMan a)) (p1 : Side (pMan a < 9007199254740992)) (p2 : Side (-1074 ≤ pPow a)) (p3 : Side (pPow a ≤ 1000)) (p4 : Side (Builtin.Int.intBits (pSign a) ≤ 64)) (p5 : Side (0 ≤ pMan b)) (p6 : Side (pMan b < 9007199254740992)) (p7 : Side (-1074 ≤ pPow b)) (p8 : Side (pPow b ≤ 1000)) (p9 : Side (Builtin.Int.intBits (pSign b) ≤ 64)) (p10 : Side (isNan (absF a) = false)) (p11 : Side (isZero a = false → 0 < pMan a)) (p12 : Side (isWhole b = true → -5 ≤ toInt b ∧ toInt b ≤ 5)) (p13 : Side (isZero b = false → isWhole b = true → toInt b ≠ 0)) : Cl' w mean mg mb 231 6 [.int a t, .int b u] (Ret fun t => .int (powerF a b) t) := by
  dsimp only [Cl', Cl, Ret, Ret2, Ret3, RetO, RetP, RetL, RetE]
  k_fill
  intro dp un gd cn cs aF ccd cl outer A₀ base h₀ L mF news s Q E B F X N T hk hd hu hret
  have q0 := p0.out
  have q1 := p1.out
  have q2 := p2.out
  have q3 := p3.out
  have q4 := p4.out
  have q5 := p5.out
  have q6 := p6.out
  have q7 := p7.out
  have q8 := p8.out
  have q9 := p9.out
  have q10 := p10.out
  have q11 := p11.out
  have q12 := p12.out
  have q13 := p13.out
  k_with_none
  k_with "call ref" => cell_end (c_is_nan _ _) 42 "use"
  k_with "call ref" => cell_end (c_is_zero _ _) 63 "use"
  k_with "call ref" => cell_end (c_is_inf _ _) 49 "use"
  k_with "call ref" => cell_end (c_power_of_edge _ _ _ _ ?_ ?_ ?_ ?_ ?_ ?_) 224 "use"
  k_with "call ref" => cell_end (c_is_whole _ _ ?_ ?_ ?_ ?_ ?_) 119 "use"
  k_with "call ref" => cell_end (c_parts _ _) 77 "use"
  k_with "call ref" => cell_end (c_is_odd _ _ ?_ ?_ ?_ ?_ ?_) 217 "use"
  k_with "call ref" => cell_end (c_to_int _ _ ?_ ?_ ?_ ?_ ?_ ?_) 112 "use"
  k_with "call ref" => cell_end (c_whole_power _ _ _ _ _ _ _ _ ?_ ?_ ?_ ?_ ?_ ?_ ?_ ?_) 238 "use"
  walk_at "my enter"
  k_steps
  all_goals first
    | exact Side.mk (by omega)
    | exact Side.mk (q11 (by assumption))
    | exact Side.mk ((q12 (by assumption)).1)
    | exact Side.mk ((q12 (by assumption)).2)
    | exact Side.mk (q13 (by assumption) (by assumption))
    | exact Side.mk (fin_of_whole (by assumption))
    | (refine ret_i hret N (by assumption) (by assumption) (by assumption) ?_; (first | ((simp only [powerF, *, Int.reduceEq, Int.lt_irrefl, if_true, if_false, and_self, or_self, true_or, or_true, false_or, or_false, true_and, and_true, false_and, and_false, Bool.false_eq_true, not_true, not_false_iff, ne_eq, Bool.not_true, Bool.not_false, Bool.true_and, Bool.false_and, Bool.and_true, Bool.true_or, Bool.false_or, decide_true, decide_false, Bool.or_true, Bool.or_false, gt_iff_lt, reduceCtorEq]); done) | ((simp only [powerF]); (repeat' split) <;> first | rfl | omega | (simp_all; done))))
theorem c_lawSize (b : Int) (t : Tok) : Cl' w mean mg mb 266 1 [.int b t] (Ret fun t => .int (lawSize b) t) := by
  dsimp only [Cl', Cl, Ret, Ret2, Ret3, RetO, RetP, RetL, RetE]
  k_fill
  intro dp un gd cn cs aF ccd cl outer A₀ base h₀ L mF news s Q E B F X N T hk hd hu hret
  k_with_none
  walk_at "my enter"
  k_steps
  all_goals first
    | exact Side.mk (by omega)
    | exact Side.mk (by have := lawNum_nn b; omega)
    | exact Side.mk (by have := lawNum_lt b; rw [show Builtin.Int.intBits 2 = 2 from by decide +kernel]; omega)
    | exact Side.mk (mulOk (Nat.le_trans (lawFrac_sz b) (by decide)) (Nat.le_trans sz_pow2 (by have := lawNum_lt b; omega)))
    | (refine ret_i hret N (by assumption) (by assumption) (by assumption) ?_; (first | ((simp only [lawSize, *, Int.reduceEq, Int.lt_irrefl, if_true, if_false, and_self, or_self, true_or, or_true, false_or, or_false, true_and, and_true, false_and, and_false, Bool.false_eq_true, not_true, not_false_iff, ne_eq, Bool.not_true, Bool.not_false, Bool.true_and, Bool.false_and, Bool.and_true, Bool.true_or, Bool.false_or, decide_true, decide_false, Bool.or_true, Bool.or_false, gt_iff_lt, reduceCtorEq]); done) | ((simp only [lawSize]); (repeat' split) <;> first | rfl | omega | (simp_all; done))))
theorem c_lawKind (b : Int) (t : Tok) : Cl' w mean mg mb 273 1 [.int b t] (Ret fun t => .int (lawKind b) t) := by
  dsimp only [Cl', Cl, Ret, Ret2, Ret3, RetO, RetP, RetL, RetE]
  k_fill
  intro dp un gd cn cs aF ccd cl outer A₀ base h₀ L mF news s Q E B F X N T hk hd hu hret
  k_with_none
  walk_at "my enter"
  k_steps
  all_goals first
    | exact Side.mk (by omega)
    | (refine ret_i hret N (by assumption) (by assumption) (by assumption) ?_; (first | ((simp only [lawKind, *, Int.reduceEq, Int.lt_irrefl, if_true, if_false, and_self, or_self, true_or, or_true, false_or, or_false, true_and, and_true, false_and, and_false, Bool.false_eq_true, not_true, not_false_iff, ne_eq, Bool.not_true, Bool.not_false, Bool.true_and, Bool.false_and, Bool.and_true, Bool.true_or, Bool.false_or, decide_true, decide_false, Bool.or_true, Bool.or_false, gt_iff_lt, reduceCtorEq]); done) | ((simp only [lawKind]); (repeat' split) <;> first | rfl | omega | (simp_all; done))))
theorem c_lawHere (f : Int) (t : Tok) (n : Int) (u : Tok) (a : Int) (v : Tok) (p0 : Side (Builtin.Int.intBits n ≤ 4000)) : Cl' w mean mg mb 294 2 [.int f t, .int n u, .int a v] (Ret fun _ => .bool (lawHere f n a)) := by
  dsimp only [Cl', Cl, Ret, Ret2, Ret3, RetO, RetP, RetL, RetE]
  k_fill
  intro dp un gd cn cs aF ccd cl outer A₀ base h₀ L mF news s Q E B F X N T hk hd hu hret
  have q0 := p0.out
  k_with_none
  k_with "call ref" => cell_end (c_lawSize _ _) 266 "use"
  k_with "call ref" => cell_end (c_lawKind _ _) 273 "use"
  walk_at "my enter"
  k_steps
  all_goals first
    | exact Side.mk (by omega)
    | exact Side.mk (mulOk (Nat.le_trans q0 (by decide)) (by decide +kernel))
    | (refine ret_b hret N (by assumption) (by assumption) (by assumption) ?_; (first | ((simp only [lawHere, lawVal, *, Int.reduceEq, Int.lt_irrefl, if_true, if_false, and_self, or_self, true_or, or_true, false_or, or_false, true_and, and_true, false_and, and_false, Bool.false_eq_true, not_true, not_false_iff, ne_eq, Bool.not_true, Bool.not_false, Bool.true_and, Bool.false_and, Bool.and_true, Bool.true_or, Bool.false_or, decide_true, decide_false, Bool.or_true, Bool.or_false, gt_iff_lt, reduceCtorEq]); done) | ((simp only [lawHere, lawVal]); (repeat' split) <;> first | rfl | omega | (simp_all; done))))
theorem c_wholeRight (a : Int) (t : Tok) (p0 : Side (0 ≤ pMan a)) (p1 : Side (pMan a < 9007199254740992)) (p2 : Side (-1074 ≤ pPow a)) (p3 : Side (pPow a ≤ 1000)) (p4 : Side (Builtin.Int.intBits (pSign a) ≤ 64)) (p5 : Side (¬ 0 < lawKind a → isFin a = true)) : Cl' w mean mg mb 301 20 [.int a t] (Ret fun _ => .bool (wholeRight a)) := by
  dsimp only [Cl', Cl, Ret, Ret2, Ret3, RetO, RetP, RetL, RetE]
  k_fill
  intro dp un gd cn cs aF ccd cl outer A₀ base h₀ L mF news s Q E B F X N T hk hd hu hret
  have q0 := p0.out
  have q1 := p1.out
  have q2 := p2.out
  have q3 := p3.out
  have q4 := p4.out
  have q5 := p5.out
  k_with_none
  k_with "call ref" => cell_end (c_lawKind _ _) 273 "use"
  k_with "call ref" => cell_end (c_to_int32 _ _ ?_ ?_ ?_ ?_ ?_) 133 "use"
  k_with "call ref" => cell_end (c_to_uint32 _ _ ?_ ?_ ?_ ?_ ?_) 126 "use"
  k_with "call ref" => cell_end (c_to_uint16 _ _ ?_ ?_ ?_ ?_ ?_) 140 "use"
  k_with "call ref" => cell_end (c_floor _ _ ?_ ?_ ?_ ?_ ?_) 175 "use"
  k_with "call ref" => cell_end (c_ceil _ _ ?_ ?_ ?_ ?_ ?_) 182 "use"
  k_with "call ref" => cell_end (c_round_half_up _ _ ?_ ?_ ?_ ?_ ?_) 189 "use"
  k_with "call ref" => cell_end (c_to_integer _ _ ?_ ?_ ?_ ?_ ?_) 168 "use"
  k_with "call ref" => cell_end (c_lawSize _ _) 266 "use"
  k_with "call ref" => cell_end (c_to_int _ _ ?_ ?_ ?_ ?_ ?_ ?_) 112 "use"
  k_with "call ref" => cell_end (c_lawHere _ _ _ _ _ _ ?_) 294 "use"
  have z0 := lawSize_sz a
  have z1 := sz_neg z0
  have z4 := sz_neg z1
  walk_at "my enter"
  k_steps
  all_goals first
    | exact Side.mk (by assumption)
    | exact Side.mk (by apply q5; assumption)
    | exact Side.mk (Nat.le_trans (sz_fdiv (by first | assumption | exact z2 | exact z3)) (by decide))
    | exact Side.mk (Nat.le_trans (sz_neg (sz_fdiv (by first | assumption | exact sz_neg z1))) (by decide))
    | exact Side.mk (Nat.le_trans (intBits_mul_le (m := 2200) (n := 1) (sz_fdiv (sz_ite (by first | assumption | exact sz_neg z1) (by first | assumption | exact sz_neg z1))) (by decide +kernel)) (by decide))
    | exact Side.mk (sz_half (by first | exact z0 | exact z1))
    | (refine ret_b hret N (by assumption) (by assumption) (by assumption) ?_; (simp_all only [wholeRight, lawCut, lawVal, Int.reduceEq, Int.lt_irrefl, if_true, if_false, and_self, or_self, true_or, or_true, false_or, or_false, true_and, and_true, false_and, and_false, Bool.false_eq_true, not_true, not_false_iff, ne_eq, Bool.not_true, Bool.not_false, Bool.true_and, Bool.false_and, Bool.and_true, Bool.true_or, Bool.false_or, decide_true, decide_false, Bool.or_true, Bool.or_false, gt_iff_lt, reduceCtorEq]; done))
theorem c_toldI (a : Int) (t : Tok) (b : Int) (u : Tok) (k : Int) (v : Tok) : Cl' w mean mg mb 315 20 [.int a t, .int b u, .int k v] (RetO (toldF a b (some k))) := by
  dsimp only [Cl', Cl, Ret, Ret2, Ret3, RetO, RetP, RetL, RetE]
  k_fill
  intro dp un gd cn cs aF ccd cl outer A₀ base h₀ L mF news s Q E B F X N T hk hd hu hret
  k_with_none
  k_with "call ref" => cell_end (c_lawKind _ _) 273 "use"
  walk_at "my enter"
  k_steps
  all_goals first
    | (refine ret_oi hret N (by assumption) (by assumption) (by assumption) ?_; (simp only [toldF, oddO, *, Int.reduceEq, Int.lt_irrefl, if_true, if_false, and_self, or_self, true_or, or_true, false_or, or_false, true_and, and_true, false_and, and_false, Bool.false_eq_true, not_true, not_false_iff, ne_eq, Bool.not_true, Bool.not_false, Bool.true_and, Bool.false_and, Bool.and_true, Bool.true_or, Bool.false_or, decide_true, decide_false, Bool.or_true, Bool.or_false, gt_iff_lt, reduceCtorEq, Option.some.injEq]; done))
    | (refine ret_on hret N (by assumption) (by assumption) (by assumption) ?_; (simp only [toldF, oddO, *, Int.reduceEq, Int.lt_irrefl, if_true, if_false, and_self, or_self, true_or, or_true, false_or, or_false, true_and, and_true, false_and, and_false, Bool.false_eq_true, not_true, not_false_iff, ne_eq, Bool.not_true, Bool.not_false, Bool.true_and, Bool.false_and, Bool.and_true, Bool.true_or, Bool.false_or, decide_true, decide_false, Bool.or_true, Bool.or_false, gt_iff_lt, reduceCtorEq, Option.some.injEq]; done))
theorem c_toldN (a : Int) (t : Tok) (b : Int) (u : Tok) : Cl' w mean mg mb 315 20 [.int a t, .int b u, .none] (RetO (toldF a b none)) := by
  dsimp only [Cl', Cl, Ret, Ret2, Ret3, RetO, RetP, RetL, RetE]
  k_fill
  intro dp un gd cn cs aF ccd cl outer A₀ base h₀ L mF news s Q E B F X N T hk hd hu hret
  k_with_none
  k_with "call ref" => cell_end (c_lawKind _ _) 273 "use"
  walk_at "my enter"
  k_steps
  all_goals first
    | (refine ret_oi hret N (by assumption) (by assumption) (by assumption) ?_; (simp only [toldF, oddO, *, Int.reduceEq, Int.lt_irrefl, if_true, if_false, and_self, or_self, true_or, or_true, false_or, or_false, true_and, and_true, false_and, and_false, Bool.false_eq_true, not_true, not_false_iff, ne_eq, Bool.not_true, Bool.not_false, Bool.true_and, Bool.false_and, Bool.and_true, Bool.true_or, Bool.false_or, decide_true, decide_false, Bool.or_true, Bool.or_false, gt_iff_lt, reduceCtorEq, Option.some.injEq]; done))
    | (refine ret_on hret N (by assumption) (by assumption) (by assumption) ?_; (simp only [toldF, oddO, *, Int.reduceEq, Int.lt_irrefl, if_true, if_false, and_self, or_self, true_or, or_true, false_or, or_false, true_and, and_true, false_and, and_false, Bool.false_eq_true, not_true, not_false_iff, ne_eq, Bool.not_true, Bool.not_false, Bool.true_and, Bool.false_and, Bool.and_true, Bool.true_or, Bool.false_or, decide_true, decide_false, Bool.or_true, Bool.or_false, gt_iff_lt, reduceCtorEq, Option.some.injEq]; done))
theorem c_powerN (a : Int) (t : Tok) (b : Int) (u : Tok) (p0 : Side (0 ≤ pMan a)) (p1 : Side (pMan a < 9007199254740992)) (p2 : Side (-1074 ≤ pPow a)) (p3 : Side (pPow a ≤ 1000)) (p4 : Side (Builtin.Int.intBits (pSign a) ≤ 64)) (p5 : Side (0 ≤ pMan b)) (p6 : Side (pMan b < 9007199254740992)) (p7 : Side (-1074 ≤ pPow b)) (p8 : Side (pPow b ≤ 1000)) (p9 : Side (Builtin.Int.intBits (pSign b) ≤ 64)) (p10 : Side (isNan (absF a) = false)) (p11 : Side (isZero a = false → 0 < pMan a)) (p12 : Side (isWhole b = true → -5 ≤ toInt b ∧ toInt b ≤ 5)) (p13 : Side (isZero b = false → isWhole b = true → toInt b ≠ 0)) (p14 : Side (toldF a b none ≠ none)) : Cl' w mean mg mb 322 30 [.int a t, .int b u, .none] (Ret fun _ => .bool (powerRightN a b)) := by
  dsimp only [Cl', Cl, Ret, Ret2, Ret3, RetO, RetP, RetL, RetE]
  k_fill
  intro dp un gd cn cs aF ccd cl outer A₀ base h₀ L mF news s Q E B F X N T hk hd hu hret
  have q0 := p0.out
  have q1 := p1.out
  have q2 := p2.out
  have q3 := p3.out
  have q4 := p4.out
  have q5 := p5.out
  have q6 := p6.out
  have q7 := p7.out
  have q8 := p8.out
  have q9 := p9.out
  have q10 := p10.out
  have q11 := p11.out
  have q12 := p12.out
  have q13 := p13.out
  have q14 := p14.out
  k_with_none
  k_with "call ref" => cell_end (c_power _ _ _ _ ?_ ?_ ?_ ?_ ?_ ?_ ?_ ?_ ?_ ?_ ?_ ?_ ?_ ?_) 231 "use"
  k_with "call ref" => cell_end (c_toldN _ _ _ _) 315 "useo"
  walk_at "my enter"
  k_steps
  all_goals (refine ret_b hret N (by assumption) (by assumption) (by assumption) ?_; (simp only [powerRightN, *]; done))
theorem c_powerI (a : Int) (t : Tok) (b : Int) (u : Tok) (k : Int) (v : Tok) (p0 : Side (0 ≤ pMan a)) (p1 : Side (pMan a < 9007199254740992)) (p2 : Side (-1074 ≤ pPow a)) (p3 : Side (pPow a ≤ 1000)) (p4 : Side (Builtin.Int.intBits (pSign a) ≤ 64)) (p5 : Side (0 ≤ pMan b)) (p6 : Side (pMan b < 9007199254740992)) (p7 : Side (-1074 ≤ pPow b)) (p8 : Side (pPow b ≤ 1000)) (p9 : Side (Builtin.Int.intBits (pSign b) ≤ 64)) (p10 : Side (isNan (absF a) = false)) (p11 : Side (isZero a = false → 0 < pMan a)) (p12 : Side (isWhole b = true → -5 ≤ toInt b ∧ toInt b ≤ 5)) (p13 : Side (isZero b = false → isWhole b = true → toInt b ≠ 0)) (p14 : Side (-5 ≤ k)) (p15 : Side (k ≤ 5)) (p16 : Side (toldF a b (some k) = none → powerSane a b k = true)) : Cl' w mean mg mb 322 30 [.int a t, .int b u, .int k v] (Ret fun _ => .bool (powerRightI a b k)) := by
  dsimp only [Cl', Cl, Ret, Ret2, Ret3, RetO, RetP, RetL, RetE]
  k_fill
  intro dp un gd cn cs aF ccd cl outer A₀ base h₀ L mF news s Q E B F X N T hk hd hu hret
  have q0 := p0.out
  have q1 := p1.out
  have q2 := p2.out
  have q3 := p3.out
  have q4 := p4.out
  have q5 := p5.out
  have q6 := p6.out
  have q7 := p7.out
  have q8 := p8.out
  have q9 := p9.out
  have q10 := p10.out
  have q11 := p11.out
  have q12 := p12.out
  have q13 := p13.out
  have q14 := p14.out
  have q15 := p15.out
  have q16 := p16.out
  k_with_none
  k_with "call ref" => cell_end (c_power _ _ _ _ ?_ ?_ ?_ ?_ ?_ ?_ ?_ ?_ ?_ ?_ ?_ ?_ ?_ ?_) 231 "use"
  k_with "call ref" => cell_end (c_toldI _ _ _ _ _ _) 315 "useo"
  k_with "call ref" => cell_end (c_lawKind _ _) 273 "use"
  k_with "call ref" => cell_end (c_lawSize _ _) 266 "use"
  k_with "exec If" => first | ((with_reducible show wpAny _ _ (exec (Stmt.If (Expr.BoolOp _ _ _) _ _ _) _) _ _ _); cell_end 0 0 "j0") | ((with_reducible show wpAny _ _ (exec (Stmt.If (Expr.Compare (Expr.Name (Str.ofString "whole") _) _ _ _) _ _ _) _) _ _ _); cell_end (Str.ofString "unit", Str.ofString "truth") (lawUnit a k, lawTruth a k) "j2")
  k_with "exec Assign" => ((with_reducible show wpAny _ _ (exec (Stmt.Assign [Expr.Name (Str.ofString "below") _] _ _) _) _ _ _); cell_end (Str.ofString "below") (lawBelow ((powerF a b).fmod (2 ^ Int.toNat 63))) "j1")
  walk_at "my enter"
  k_steps
  all_goals first
    | exact Side.mk (pow_room (lawSize_sz a) q14 q15)
    | exact Side.mk (mulOk (Nat.le_trans (lawBelow_sz _) (by decide)) (Nat.le_trans (lawUnit_sz q14 q15) (by decide)))
    | exact Side.mk (mulOk (Nat.le_trans (lawAbove_sz _) (by decide)) (Nat.le_trans (lawUnit_sz q14 q15) (by decide)))
    | exact Side.mk absK0
    | exact Side.mk absK3
    | exact Side.mk (absK1 (told_ne (a := a) (b := b) (k := k) (by assumption)))
    | exact Side.mk (absK2 q14 q15)
    | exact Side.mk (absK4 q14 q15)
    | exact (sane1 (q16 (by assumption)) (by assumption) (by assumption)).elim
    | exact (sane2 (q16 (by assumption)) (by assumption)).elim
    | exact (sane3 (q16 (by assumption)) (by assumption) (by assumption)).elim
    | exact absurd (kind_even (sane_kind (q16 (by assumption))) (by assumption)) (by assumption)
    | exact j0_end (by assumption) (by assumption) (by assumption) sub_self
    | exact j1_end (by assumption) (by assumption) (by assumption) sub_self (by unfold lawBelow; first | rw [if_pos (by assumption)] | rw [if_neg (by assumption)] | rw [if_pos (by omega)])
    | exact j2_out (by assumption) (by with_unfolding_all rfl) (by with_unfolding_all rfl) (by assumption) (by assumption) sub_self (lawUnit_pos (by assumption)) (lawTruth_pos (by assumption))
    | exact j2_in (by assumption) (by assumption) (by assumption) sub_cons (lawUnit_neg (by assumption)) (lawTruth_neg (by assumption))
    | (refine ret_b hret N (by assumption) (by assumption) (by assumption) ?_; (simp only [powerRightI, powerEnd, *, Int.reduceEq, Int.lt_irrefl, if_true, if_false, and_self, or_self, true_or, or_true, false_or, or_false, true_and, and_true, false_and, and_false, Bool.false_eq_true, not_true, not_false_iff, ne_eq, Bool.not_true, Bool.not_false, Bool.true_and, Bool.false_and, Bool.and_true, Bool.true_or, Bool.false_or, decide_true, decide_false, Bool.or_true, Bool.or_false, gt_iff_lt, reduceCtorEq]; done))
theorem c_cell (l : Addr) (vs : List Value) (ns : List Int) (j : Int) (t : Tok) (p0 : Side (IntsAre vs ns)) (p1 : Side (ns.length ≤ 24)) (p2 : Side (0 ≤ j)) (p3 : Side (j ≤ 11)) : Cl' w mean mg mb 259 2 [.ref l, .int j t] (RetL l vs (fun _ => True)) := by
  dsimp only [Cl', Cl, Ret, Ret2, Ret3, RetO, RetP, RetL, RetE]
  k_fill
  intro dp un gd cn cs aF ccd cl outer A₀ base h₀ L mF news s Q E B F X N T hk hd hu hret
  have q0 := p0.out
  have q1 := p1.out
  have q2 := p2.out
  have q3 := p3.out
  k_with_none
  k_with "pyIter ref" => k_state (fun pre mixed => 0 ≤ mixed ∧ mixed < 1000003) "mixed"
  obtain ⟨hl, hret0⟩ := id hret
  have hlg : ∀ g, s.heap.StaysIn g → g.IsList l vs.toArray := fun g k => stays_list k hl
  walk_at "my enter"
  (have hl9 := hlg _ (by assumption))
  k_steps
  all_goals first
    | exact Side.mk (IntMulOk.of_left (intBits_le_64 (by omega) (by omega)))
    | exact ret_l hret N (by assumption) (by assumption) (by assumption) trivial
theorem c_edge (l : Addr) (vs : List Value) (ns : List Int) (j : Int) (t : Tok) (p0 : Side (IntsAre vs ns)) (p1 : Side (ns.length ≤ 24)) (p2 : Side (0 ≤ j)) (p3 : Side (j ≤ 10)) : Cl' w mean mg mb 287 4 [.ref l, .int j t] (RetL l vs (fun x => x ∈ AL)) := by
  dsimp only [Cl', Cl, Ret, Ret2, Ret3, RetO, RetP, RetL, RetE]
  k_fill
  intro dp un gd cn cs aF ccd cl outer A₀ base h₀ L mF news s Q E B F X N T hk hd hu hret
  have q0 := p0.out
  have q1 := p1.out
  have q2 := p2.out
  have q3 := p3.out
  k_with_none
  k_with "call ref" => cell_end (c_cell _ _ _ _ _ ?_ ?_ ?_ ?_) 259 "usel"
  k_with "call ref" => cell_end 280 0 "inl"
  obtain ⟨hl, hret0⟩ := id hret
  have hlg : ∀ g, s.heap.StaysIn g → g.IsList l vs.toArray := fun g k => stays_list k hl
  walk_at "my enter"
  (have hl9 := hlg _ (by assumption))
  k_steps
  all_goals first
    | exact Side.mk (by omega)
    | exact ret_l (P := fun x => x ∈ AL) hret N (by assumption) (by assumption) (by assumption) (edge_in1 (by assumption) (by assumption) (by assumption))
    | exact ret_l (P := fun x => x ∈ AL) hret N (by assumption) (by assumption) (by assumption) edge_in2
theorem c_exponent (l : Addr) (vs : List Value) (ns : List Int) (j : Int) (t : Tok) (p0 : Side (IntsAre vs ns)) (p1 : Side (ns.length ≤ 24)) (p2 : Side (0 ≤ j)) (p3 : Side (j ≤ 11)) : Cl' w mean mg mb 308 4 [.ref l, .int j t] (RetE l vs (fun x y => (x, y) ∈ EI) (fun x => x ∈ EN)) := by
  dsimp only [Cl', Cl, Ret, Ret2, Ret3, RetO, RetP, RetL, RetE]
  k_fill
  intro dp un gd cn cs aF ccd cl outer A₀ base h₀ L mF news s Q E B F X N T hk hd hu hret
  have q0 := p0.out
  have q1 := p1.out
  have q2 := p2.out
  have q3 := p3.out
  k_with_none
  k_with "call ref" => cell_end (c_cell _ _ _ _ _ ?_ ?_ ?_ ?_) 259 "usel"
  k_with "binaryOp Mod int int" => cell_end 15 0 "mod15"
  obtain ⟨hl, hret0⟩ := id hret
  have hlg : ∀ g, s.heap.StaysIn g → g.IsList l vs.toArray := fun g k => stays_list k hl
  walk_at "my enter"
  (have hl9 := hlg _ (by assumption))
  k_steps
  all_goals first
    | exact ret_e2 (P := fun x y => (x, y) ∈ EI) (P' := fun x => x ∈ EN) hret N (by assumption) (by assumption) (by assumption) (by assumption) (by k_mem) (by decide +kernel)
    | exact ret_e1 (P := fun x y => (x, y) ∈ EI) (P' := fun x => x ∈ EN) hret N (by assumption) (by assumption) (by assumption) (by assumption) (by k_mem) (by decide +kernel)
theorem c_WT (a : Int) (t : Tok) (h : Side (a ∈ AL)) : Cl' w mean mg mb 301 20 [.int a t] (Ret fun _ => .bool true) := by
  have q := inA h.out
  have k := okD_out q.1
  have c := c_wholeRight (w := w) (mean := mean) (mg := mg) (mb := mb) a t (Side.mk k.1) (Side.mk k.2.1) (Side.mk k.2.2.1) (Side.mk k.2.2.2.1) (Side.mk k.2.2.2.2) (Side.mk q.2.1)
  rw [q.2.2.1] at c
  exact c
theorem c_PI (a : Int) (t : Tok) (b : Int) (u : Tok) (k : Int) (v : Tok) (h : Side (a ∈ AL)) (h' : Side ((b, k) ∈ EI)) : Cl' w mean mg mb 322 30 [.int a t, .int b u, .int k v] (Ret fun _ => .bool true) := by
  have q := inA h.out
  have ka := okD_out q.1
  have r := inI h.out h'.out
  have rb := chkB_out r.1
  have kb := okD_out rb.1
  have c := c_powerI (w := w) (mean := mean) (mg := mg) (mb := mb) a t b u k v (Side.mk ka.1) (Side.mk ka.2.1) (Side.mk ka.2.2.1) (Side.mk ka.2.2.2.1) (Side.mk ka.2.2.2.2) (Side.mk kb.1) (Side.mk kb.2.1) (Side.mk kb.2.2.1) (Side.mk kb.2.2.2.1) (Side.mk kb.2.2.2.2)
    (Side.mk q.2.2.2.1) (Side.mk q.2.2.2.2.1) (Side.mk rb.2.1) (Side.mk rb.2.2) (Side.mk r.2.1) (Side.mk r.2.2.1) (Side.mk r.2.2.2.1)
  rw [r.2.2.2.2] at c
  exact c
theorem c_PN (a : Int) (t : Tok) (b : Int) (u : Tok) (h : Side (a ∈ AL)) (h' : Side (b ∈ EN)) : Cl' w mean mg mb 322 30 [.int a t, .int b u, .none] (Ret fun _ => .bool true) := by
  have q := inA h.out
  have ka := okD_out q.1
  have r := inN h.out h'.out
  have rb := chkB_out r.1
  have kb := okD_out rb.1
  have c := c_powerN (w := w) (mean := mean) (mg := mg) (mb := mb) a t b u (Side.mk ka.1) (Side.mk ka.2.1) (Side.mk ka.2.2.1) (Side.mk ka.2.2.2.1) (Side.mk ka.2.2.2.2) (Side.mk kb.1) (Side.mk kb.2.1) (Side.mk kb.2.2.1) (Side.mk kb.2.2.2.1) (Side.mk kb.2.2.2.2)
    (Side.mk q.2.2.2.1) (Side.mk q.2.2.2.2.1) (Side.mk rb.2.1) (Side.mk rb.2.2) (Side.mk r.2.1)
  rw [r.2.2] at c
  exact c
def PE (x : Int) (v : Value) : Prop := (∃ k u, v = .int k u ∧ (x, k) ∈ EI) ∨ (v = .none ∧ x ∈ EN)
abbrev RetV (l : Addr) (vs : List Value) : Post := fun h₀ L m news s Q =>
  s.heap.IsList l vs.toArray ∧
  ∀ (x : Int) (v : Value) (D : Addr) (t1 : Tok) (c : Nat) (h' : Heap) (tk' : Nat), PE x v → Fr h₀ L h' m → News h₀ L h' ((D, ({ cls := .type "tuple", data := .seq #[.int x t1, v] c } : Obj)) :: news) → Q (.ref D) { s with heap := h', toks := tk' }
theorem c_expV (l : Addr) (vs : List Value) (ns : List Int) (j : Int) (t : Tok) (p0 : Side (IntsAre vs ns)) (p1 : Side (ns.length ≤ 24)) (p2 : Side (0 ≤ j)) (p3 : Side (j ≤ 11)) : Cl' w mean mg mb 308 4 [.ref l, .int j t] (RetV l vs) := by
  intro dp un gd cn cs aF ccd cl outer A₀ base h₀ L mF news s Q E B F X N T hk hd hu hret
  refine c_exponent (w := w) (mean := mean) (mg := mg) (mb := mb) l vs ns j t p0 p1 p2 p3 dp un gd cn cs aF ccd cl outer A₀ base h₀ L mF news s Q E B F X N T hk hd hu ⟨hret.1, ?_, ?_⟩
  · intro x y D t1 t2 c h' tk' h F' N'
    exact hret.2 x _ D t1 c h' tk' (Or.inl ⟨y, t2, rfl, h⟩) F' N'
  · intro x D t1 c h' tk' h F' N'
    exact hret.2 x _ D t1 c h' tk' (Or.inr ⟨rfl, h⟩) F' N'
theorem c_PV (a : Int) (t : Tok) (b : Int) (u : Tok) (v : Value) (h : Side (a ∈ AL)) (h' : Side (PE b v)) : Cl' w mean mg mb 322 30 [.int a t, .int b u, v] (Ret fun _ => .bool true) := by
  rcases h'.out with ⟨k, u', rfl, e⟩ | ⟨rfl, e⟩
  · exact c_PI a t b u k u' h (Side.mk e)
  · exact c_PN a t b u h (Side.mk e)
end Mine
local macro_rules | `(tactic| walk_at "subscriptTail Call Name") => `(tactic| (k_here; k_dflt (refine kba_turn (value' := PySem.Expr.Name (PySem.Str.ofString "_") ⟨0, 0, 0, 0⟩) (fun _ => rfl) ?_)))
theorem PySem.Challenge.cw_nt0352_01_holds : PySem.Challenge.rw_nt0352_01.Holds := by
  refine Mine.hd0 ⟨Mine.left, ?_⟩
  k_with_none
  k_with "call ref" => cell_end (Mine.c_WT _ _ ?_) 301 "use"
  k_with "call ref" => cell_end (Mine.c_PV _ _ _ _ _ ?_ ?_) 322 "use"
  k_with "call ref" => cell_end (Mine.c_edge _ _ _ _ _ ?_ ?_ ?_ ?_) 287 "usel"
  k_with "call ref" => cell_end (Mine.c_expV _ _ _ _ _ ?_ ?_ ?_ ?_) 308 "usel"
  k_go0
  all_goals try k_fold
  k_steps
  all_goals first
    | exact Side.mk (Mine.inA (by assumption)).2.2.2.2.2
    | exact Side.mk (by rw [List.length_take]; exact Nat.min_le_left _ _)
