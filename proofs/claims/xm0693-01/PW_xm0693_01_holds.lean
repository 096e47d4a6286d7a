import PyProof.Rows.All
import Wide.All
import OpenK.AllK
import Wide.FinOn
import PySem.Challenge.RW_xm0693_01
set_option Elab.async false
set_option linter.unusedVariables false
set_option linter.unusedSimpArgs false
set_option maxRecDepth 100000
set_option maxHeartbeats 8000000
open PySem PySem.W PyProof.Rows PySem.Spec PySem.Calls
namespace Mine
section
variable {α : Type} {a b : α} {l r : List α} {i : Nat}
theorem Lz : (a :: l)[0]? = some a := rfl
theorem Ls : (a :: l)[i + 1]? = l[i]? := rfl
theorem Tz : (a :: l).set 0 b = b :: l := rfl
theorem Ts : (a :: l).set (i + 1) b = a :: l.set i b := rfl
theorem La : (a :: l) ++ r = a :: (l ++ r) := rfl
theorem Ln : [] ++ r = r := rfl
end
noncomputable section
noncomputable abbrev hP : Program := PySem.Challenge.pw_xm0693_01
noncomputable def hAt : List Stmt → Nat → Stmt
  | [], _ => .Pass ⟨0, 0, 0, 0⟩
  | s :: _, 0 => s
  | _ :: l, n + 1 => hAt l n
noncomputable def st (i : Nat) : Stmt := hAt hP.main.body i
noncomputable def me (i j : Nat) : Stmt := match st i with | .ClassDef _ _ _ b _ _ _ _ _ _ _ => hAt b j | s => s
noncomputable def fA (s : Stmt) : Arguments := match s with | .FunctionDef _ a _ _ _ _ _ _ _ _ => a | _ => ⟨[], [], none, [], [], none, []⟩
noncomputable def fB (s : Stmt) : List Stmt := match s with | .FunctionDef _ _ b _ _ _ _ _ _ _ => b | _ => []
noncomputable def fS (s : Stmt) : Scope := match s with | .FunctionDef _ _ _ _ _ _ c _ _ _ => c | _ => hP.main.scope
noncomputable def hT (l : List Value) : Obj := { cls := .type "tuple", data := .seq l.toArray }
noncomputable def hF (l : List Value) : Obj := { cls := .none, data := .fields l.toArray }
noncomputable def hD (l : List DictEntry) (n : Nat) : Obj := { cls := .type "dict", data := .dict l.toArray n }
noncomputable def hE (P : Params) (s : Str) (t : Nat) (v : Value) : DictEntry := ⟨PyData.keyHash P s, .str s t, v⟩
noncomputable def hC (a b : Str) (t u : Nat) (l1 l2 l3 l4 l5 l6 l7 l8 l9 l10 l11 l12 : Value) : Obj :=
  { cls := .type "code", data := .fields [.str a t, .str b (t + 1), .str "/claim/cut.py" (t + 2), l1, l2, .int 0 0, .int 0 0, l3, l4, l5, l6, l7, .none, l8, l9, l10, l11, l12, .str "/claim/cut.py" u].toArray }
noncomputable def hG (a b : Str) (t u l n i k : Nat) : Obj := hC a b t u (.int l 0) (.int n 0) (.int 3 0) (.ref i) (.bool true) (.int 181 0) (.ref (i + 1)) (.ref (i + 2)) (.ref (i + 3)) (.ref (i + 4)) (.int k 0) (.int l 0)
noncomputable def hB (c : Value) (s : Stmt) (n q : Str) (g : Nat) (d m co : Value) : Obj :=
  { cls := c, data := .func { name := n, qualname := q, params := fA s, body := .stmts (fB s), scope := fS s, globals := g, closure := [], defaults := d, kwdefaults := .none, pyModule := m, code := co } }
noncomputable def hSp (l : List Obj) : List Obj × List Obj := l.foldr (fun x p => (x :: p.2, p.1)) ([], [])
noncomputable def hBT : Nat → List Obj → BT
  | 0, _ => .nil
  | n + 1, l => match l with | [] => .nil | x :: r => .node x (hBT n (hSp r).1) (hBT n (hSp r).2)
noncomputable def E3 (P : Params) : List DictEntry := [hE P "__name__" 165 (.str "law_xm0693_01" 692),
 hE P "__doc__" 166 .none,
 hE P "__package__" 167 .none,
 hE P "__loader__" 168 (.builtin "__main__.__loader__#opaque"),
 hE P "__spec__" 169 .none,
 hE P "__annotations__" 170 (.ref 6),
 hE P "__builtins__" 171 (.ref 4),
 hE P "__file__" 173 (.str "/claim/cut.py" 172),
 hE P "__cached__" 174 .none,
 hE P "MillError" 217 (.ref 31),
 hE P "NumberFault" 233 (.ref 44),
 hE P "PathFault" 260 (.ref 63),
 hE P "DIGITS_exact" 264 (.str "0123456789" 263),
 hE P "MOST_EXPONENT" 266 (.int 300 265),
 hE P "MOST_FIGURES" 268 (.int 60 267),
 hE P "MOST_VALUE" 272 (.int 1000000000000000000000000000000000000000000000000000000000000 271),
 hE P "MOST_WRITTEN" 276 (.int 10000000000000000000000000000000000000000000000000000000000000000000000000000000000000000000000000000000000000000000000000000000000000000000000000000000000000000000000000000000000000000000000000000000000000000000000000000000000000000000000000000000000000000000000000000000000000000000000000000000000000000000000000000000000000000000000000000000000000000000000000000000000000000000000000000000000000000000000000000000000000000000000000000000000000000000000000000000000000000000000000000000000000000000000000000000000000000000000000000000000000000000000000000000000000000000000000000000000000000000000000000000000000000000000000000000000000000000000000000000000000000000000000000000000000000000000000000000000000000000000000000000000000000000000000000000000000000000000000000000000000000000000000000000000000000000000000000000000000000000000000000000000000000000000000000000000000000000000000000000000000000000000000000000000000000000000000000000000000000000000000000000000000000000000000000000000000000000000000000000000000000000000000000000000000000000000000000000000000000000000000000000000000000000000000000000000000000000000000000000000000000000000000000000000000000000000000000000000000000000000000000000000000000000000000000000000000000000000000000000000000000000000000000000000000000000000000000000000000000000000000000000000000000000000000000000000000000000000000000000000000000000000000000000000000000000000000000000000000000000000000000000000000000000000000000000000000000000000000000000000000000000000000000000000000000000000000000000000000000000000000000000000000000000000000000000000000000000000000000000000000000000000000000000000000000000000000000000000000000000000000000000000000000000000000000000000000000000000000000000000000000000000000000000000000000000000000000000000000000000000000000000000000000000000000000000000000000000000000000000000000000000000000000000000000000000000000000000000000000000000000000000000000000000000000000000000000000000000000000000000000000000000000000000000000000000000000000000000000000000000000000000000000000000000000000000000000000000000000000000000000000000000000000000000000000000000000000000000000000000000000000000000000000000000000000000000000000000000000000000000000000000000000000000000000000000000000000000000000000000000000000000000000000000000000000000000000000000000000000000000000000000000000000000000000000000000000000000000000000000000000000000000000000000000000000000000000000000000000000000000000000000000000000000000000000000000000000000000000000000000000000000000000000000000000000000000000000000000000000000000000000000000000000000000000000000000000000000000000000000000000000000000000000000000000000000000000000000000000000000000000000000000000000000000000000000000000000000000000000000000000000000000000000000000000000000000000000000000000000000000000000000000000000000000000000000000000000000000000000000000000000000000000000000000000000000000000000000000000000000000000000000000000000000000000000000000000000000000000000000000000000000000000000000000000000000000000000000000000000000000000000000000000000000000000000000000000000000000000000000000000000000000000000000000000000000000000000000000000000000000000000000000000000000000000000000000000000000000000000000000000000000000000000000000000000000000000000000000000000000000000000000000000000000000000000000000000000000000000000000000000000000000000000000000000000000000000000000000000000000000000000000000000000000000000000000000000000000000000000000000000000000000000000000000000000000000000000000000000000000000000000000000000000000000000000000000000000000000000000000000000000000000000000000000000000000000000000000000000000000000000000000000000000000000000000000000000000000000000000000000000000000000000000000000000000000000000000000000000000000000000000000000000000000000000000000000000000000000000000000000000000000000000000000000000000000000000000000000000000000000000000000000000000000000000000000000000000000000000000000000000000000000000000000000000000000000000000 275),
 hE P "common_divisor" 286 (.ref 72),
 hE P "fraction" 296 (.ref 80),
 hE P "NumberText" 350 (.ref 118),
 hE P "whole_of" 359 (.ref 129),
 hE P "read_exponent" 368 (.ref 136),
 hE P "read_decimal" 382 (.ref 143),
 hE P "write_decimal" 396 (.ref 151),
 hE P "BLANKS" 400 (.str " \t\n\x0d\x0c" 399),
 hE P "DIGITS_path_words" 402 (.str "0123456789" 401),
 hE P "LETTERS" 404 (.str "MmLlHhVvCcSsQqTtAaZz" 403),
 hE P "PathScanner" 520 (.ref 245),
 hE P "many_of" 529 (.ref 256),
 hE P "letter_behind" 536 (.ref 263),
 hE P "read_group" 546 (.ref 270),
 hE P "goes_on" 554 (.ref 277),
 hE P "read_into" 563 (.ref 284),
 hE P "read_commands" 571 (.ref 291),
 hE P "PLACES" 575 (.int 6 574),
 hE P "short" 583 (.ref 298),
 hE P "wants_blank" 591 (.ref 305),
 hE P "PathWriter" 656 (.ref 350),
 hE P "write_path" 666 (.ref 361),
 hE P "numbers_of" 676 (.ref 368),
 hE P "command_of" 685 (.ref 375),
 hE P "write_segments" 691 (.ref 380),
 hE P "_law_pool" 704 (.ref 387),
 hE P "_law_take" 713 (.ref 394),
 hE P "_law_one" 721 (.ref 401),
 hE P "_law_number" 728 (.ref 408),
 hE P "_law_command" 741 (.ref 415),
 hE P "_law_told" 752 (.ref 422),
 hE P "_law_text" 768 (.ref 429),
 hE P "_law_read" 775 (.ref 436),
 hE P "_law_segment" 781 (.ref 441),
 hE P "_law_written_right" 787 (.ref 446),
 hE P "law" 793 (.ref 451)]
noncomputable def hO2 (P : Params) : Obj := { cls := .none, dict := none, data := (.dict [hE P "type.__subclasses__.Exception.0" 214 (.int 31 0), hE P "type.__subclasses__.Exception.n" 215 (.int 1 0)].toArray 2), slots := #[] }
def hO3 (P : Params) : Obj := hD (E3 P) 53
def hO11 : Obj := hT []
def hO12 : Obj := hF [.int 2 0, .int 0 0, .ref 20, .int 6 0, .int 0 0, .ref 40, .int 8 0, .int 0 0, .ref 52, .int 19 0, .int 0 0, .ref 71, .int 24 0, .int 0 0, .ref 79, .int 31 0, .int 0 0, .ref 86, .int 51 0, .int 0 0, .ref 128, .int 56 0, .int 0 0, .ref 135, .int 63 0, .int 0 0, .ref 142, .int 79 0, .int 0 0, .ref 150, .int 95 0, .int 0 0, .ref 157, .int 176 0, .int 0 0, .ref 255, .int 178 0, .int 0 0, .ref 262, .int 180 0, .int 0 0, .ref 269, .int 190 0, .int 0 0, .ref 276, .int 197 0, .int 0 0, .ref 283, .int 212 0, .int 0 0, .ref 290, .int 218 0, .int 0 0, .ref 297, .int 225 0, .int 0 0, .ref 304, .int 229 0, .int 0 0, .ref 311, .int 262 0, .int 0 0, .ref 360, .int 267 0, .int 0 0, .ref 367, .int 272 0, .int 0 0, .ref 374, .int 280 0, .int 0 0, .ref 379, .int 283 0, .int 0 0, .ref 386, .int 288 0, .int 0 0, .ref 393, .int 295 0, .int 0 0, .ref 400, .int 297 0, .int 0 0, .ref 407, .int 299 0, .int 0 0, .ref 414, .int 307 0, .int 0 0, .ref 421, .int 312 0, .int 0 0, .ref 428, .int 326 0, .int 0 0, .ref 435, .int 331 0, .int 0 0, .ref 440, .int 339 0, .int 0 0, .ref 445, .int 351 0, .int 0 0, .ref 450]
def hO13 : Obj := hC "<module>" "<module>" 182 186 (.int 1 0) (.int 0 0) (.int 0 0) (.ref 11) (.bool false) (.int 181 0) (.ref 12) .none .none .none (.int 185 0) (.int 1 0)
noncomputable def hO14 : Obj := { cls := .type "frame", dict := none, data := .plain, slots := #[some (.ref 13), some (.ref 3), some (.ref 3), none, some (.str "__main__" 164), none, some (.ref 0)] }
def hO15 : Obj := hT [.type "Exception"]
noncomputable def hO16 : Obj := { cls := .type "builtin_function_or_method", dict := none, data := (.fields [.builtin "type.__prepare__", .type "type"].toArray), slots := #[] }
def hO17 (P : Params) : Obj := hD [hE P "__module__" 196 (.str "outlinemill.errors" 187), hE P "__qualname__" 198 (.str "MillError" 197), hE P "__firstlineno__" 200 (.int 2 199), hE P "__init__" 208 (.ref 28), hE P "__static_attributes__" 210 (.ref 29)] 5
def hO18 : Obj := hT []
def hO19 : Obj := hF [.int 4 0, .int 4 0, .ref 27]
def hO20 : Obj := hC "MillError" "MillError" 191 195 (.int 2 0) (.int 0 0) (.int 0 0) (.ref 18) (.bool false) (.int 181 0) (.ref 19) .none .none .none (.int 194 0) (.int 2 0)
noncomputable def hO21 : Obj := { cls := .type "frame", dict := none, data := .plain, slots := #[some (.ref 20), some (.ref 3), some (.ref 17), none, some (.str "outlinemill.errors" 187), none, some (.ref 0)] }
def hO22 : Obj := hT []
def hO23 : Obj := hF []
def hO24 : Obj := hT [.str "self" 204, .str "message" 205]
def hO25 : Obj := hT []
def hO26 : Obj := hB .none (me 1 0) "__init__" "MillError.__init__" 0 .none .none .none
def hO27 : Obj := hG "__init__" "MillError.__init__" 201 207 4 2 22 206
def hO28 : Obj := hB (.type "function") (me 1 0) "__init__" "MillError.__init__" 3 .none (.str "outlinemill.errors" 187) (.ref 27)
def hO29 : Obj := hT [.str "message" 209]
def hO30 (P : Params) : Obj := hD [hE P "__module__" 196 (.str "outlinemill.errors" 187), hE P "__firstlineno__" 200 (.int 2 199), hE P "__init__" 208 (.ref 28), hE P "__static_attributes__" 210 (.ref 29), hE P "__weakref__" 212 (.ref 32), hE P "__doc__" 213 .none] 3
noncomputable def hO31 : Obj := { cls := .type "type", dict := none, data := (.cls { name := "MillError", bases := [.type "Exception"], mro := [.ref 31, .type "Exception", .type "BaseException", .type "object"], ns := 30, qualname := "MillError", hasDict := true, slotNames := [], subclasses := [.ref 44, .ref 63], abstract := false, collection := none, hasDel := false }), slots := #[some (.ref 15), none, some (.str "MillError" 189), some (.str "MillError" 197), some (.builtin "Exception.__new__"), some (.bool true)] }
noncomputable def hO32 : Obj := { cls := .type "getset_descriptor", dict := none, data := (.fields [.str "__weakref__" 211, .ref 31, .builtin "ExceptionGroup.__weakref__", .none].toArray), slots := #[] }
noncomputable def hO33 : Obj := { cls := .type "super", dict := none, data := (.fields [.ref 31, .ref 31, .ref 31].toArray), slots := #[] }
noncomputable def hO34 : Obj := { cls := .type "builtin_function_or_method", dict := none, data := (.fields [.builtin "object.__init_subclass__", .ref 31].toArray), slots := #[] }
def hO35 : Obj := hT [.ref 31]
noncomputable def hO36 : Obj := { cls := .type "builtin_function_or_method", dict := none, data := (.fields [.builtin "type.__prepare__", .type "type"].toArray), slots := #[] }
def hO37 (P : Params) : Obj := hD [hE P "__module__" 225 (.str "outlinemill.errors" 187), hE P "__qualname__" 227 (.str "NumberFault" 226), hE P "__firstlineno__" 229 (.int 6 228), hE P "__static_attributes__" 230 (.ref 42)] 4
def hO38 : Obj := hT []
def hO39 : Obj := hF []
def hO40 : Obj := hC "NumberFault" "NumberFault" 220 224 (.int 6 0) (.int 0 0) (.int 0 0) (.ref 38) (.bool false) (.int 181 0) (.ref 39) .none .none .none (.int 223 0) (.int 6 0)
noncomputable def hO41 : Obj := { cls := .type "frame", dict := none, data := .plain, slots := #[some (.ref 40), some (.ref 3), some (.ref 37), none, some (.str "outlinemill.errors" 187), none, some (.ref 0)] }
def hO42 : Obj := hT []
def hO43 (P : Params) : Obj := hD [hE P "__module__" 225 (.str "outlinemill.errors" 187), hE P "__firstlineno__" 229 (.int 6 228), hE P "__static_attributes__" 230 (.ref 42), hE P "__doc__" 231 .none] 2
noncomputable def hO44 : Obj := { cls := .type "type", dict := none, data := (.cls { name := "NumberFault", bases := [.ref 31], mro := [.ref 44, .ref 31, .type "Exception", .type "BaseException", .type "object"], ns := 43, qualname := "NumberFault", hasDict := true, slotNames := [], subclasses := [], abstract := false, collection := none, hasDel := false }), slots := #[some (.ref 35), none, some (.str "NumberFault" 218), some (.str "NumberFault" 226), some (.builtin "Exception.__new__"), some (.bool true)] }
noncomputable def hO45 : Obj := { cls := .type "super", dict := none, data := (.fields [.ref 44, .ref 44, .ref 44].toArray), slots := #[] }
noncomputable def hO46 : Obj := { cls := .type "builtin_function_or_method", dict := none, data := (.fields [.builtin "object.__init_subclass__", .ref 44].toArray), slots := #[] }
def hO47 : Obj := hT [.ref 31]
noncomputable def hO48 : Obj := { cls := .type "builtin_function_or_method", dict := none, data := (.fields [.builtin "type.__prepare__", .type "type"].toArray), slots := #[] }
def hO49 (P : Params) : Obj := hD [hE P "__module__" 241 (.str "outlinemill.errors" 187), hE P "__qualname__" 243 (.str "PathFault" 242), hE P "__firstlineno__" 245 (.int 8 244), hE P "__init__" 254 (.ref 60), hE P "__static_attributes__" 257 (.ref 61)] 5
def hO50 : Obj := hT []
def hO51 : Obj := hF [.int 10 0, .int 4 0, .ref 59]
def hO52 : Obj := hC "PathFault" "PathFault" 236 240 (.int 8 0) (.int 0 0) (.int 0 0) (.ref 50) (.bool false) (.int 181 0) (.ref 51) .none .none .none (.int 239 0) (.int 8 0)
noncomputable def hO53 : Obj := { cls := .type "frame", dict := none, data := .plain, slots := #[some (.ref 52), some (.ref 3), some (.ref 49), none, some (.str "outlinemill.errors" 187), none, some (.ref 0)] }
def hO54 : Obj := hT []
def hO55 : Obj := hF []
def hO56 : Obj := hT [.str "self" 249, .str "message" 250, .str "place" 251]
def hO57 : Obj := hT []
def hO58 : Obj := hB .none (me 3 0) "__init__" "PathFault.__init__" 0 .none .none .none
def hO59 : Obj := hG "__init__" "PathFault.__init__" 246 253 10 3 54 252
def hO60 : Obj := hB (.type "function") (me 3 0) "__init__" "PathFault.__init__" 3 .none (.str "outlinemill.errors" 187) (.ref 59)
def hO61 : Obj := hT [.str "message" 255, .str "place" 256]
def hO62 (P : Params) : Obj := hD [hE P "__module__" 241 (.str "outlinemill.errors" 187), hE P "__firstlineno__" 245 (.int 8 244), hE P "__init__" 254 (.ref 60), hE P "__static_attributes__" 257 (.ref 61), hE P "__doc__" 258 .none] 2
noncomputable def hO63 : Obj := { cls := .type "type", dict := none, data := (.cls { name := "PathFault", bases := [.ref 31], mro := [.ref 63, .ref 31, .type "Exception", .type "BaseException", .type "object"], ns := 62, qualname := "PathFault", hasDict := true, slotNames := [], subclasses := [], abstract := false, collection := none, hasDel := false }), slots := #[some (.ref 47), none, some (.str "PathFault" 234), some (.str "PathFault" 242), some (.builtin "Exception.__new__"), some (.bool true)] }
noncomputable def hO64 : Obj := { cls := .type "super", dict := none, data := (.fields [.ref 63, .ref 63, .ref 63].toArray), slots := #[] }
noncomputable def hO65 : Obj := { cls := .type "builtin_function_or_method", dict := none, data := (.fields [.builtin "object.__init_subclass__", .ref 63].toArray), slots := #[] }
def hO66 : Obj := hT []
def hO67 : Obj := hF []
def hO68 : Obj := hT [.str "one" 280, .str "other" 281, .str "first" 282, .str "second" 283]
def hO69 : Obj := hT []
def hO70 : Obj := hB .none (st 10) "common_divisor" "common_divisor" 0 .none .none .none
def hO71 : Obj := hG "common_divisor" "common_divisor" 277 285 19 2 66 284
def hO72 : Obj := hB (.type "function") (st 10) "common_divisor" "common_divisor" 3 .none (.str "outlinemill.exact" 261) (.ref 71)
def hO73 : Obj := hT [.int 1 287]
def hO74 : Obj := hT []
def hO75 : Obj := hF []
def hO76 : Obj := hT [.str "top" 291, .str "bottom" 292, .str "common" 293]
def hO77 : Obj := hT []
def hO78 : Obj := hB .none (st 11) "fraction" "fraction" 0 .none .none .none
def hO79 : Obj := hG "fraction" "fraction" 288 295 24 2 74 294
def hO80 : Obj := hB (.type "function") (st 11) "fraction" "fraction" 3 (.ref 73) (.str "outlinemill.exact" 261) (.ref 79)
def hO81 : Obj := hT []
noncomputable def hO82 : Obj := { cls := .type "builtin_function_or_method", dict := none, data := (.fields [.builtin "type.__prepare__", .type "type"].toArray), slots := #[] }
def hO83 (P : Params) : Obj := hD [hE P "__module__" 304 (.str "outlinemill.exact" 261), hE P "__qualname__" 306 (.str "NumberText" 305), hE P "__firstlineno__" 308 (.int 31 307), hE P "__init__" 316 (.ref 94), hE P "is_one_of" 324 (.ref 101), hE P "skip" 332 (.ref 108), hE P "digits" 340 (.ref 115), hE P "__static_attributes__" 343 (.ref 116)] 8
def hO84 : Obj := hT []
def hO85 : Obj := hF [.int 33 0, .int 4 0, .ref 93, .int 37 0, .int 4 0, .ref 100, .int 40 0, .int 4 0, .ref 107, .int 46 0, .int 4 0, .ref 114]
def hO86 : Obj := hC "NumberText" "NumberText" 299 303 (.int 31 0) (.int 0 0) (.int 0 0) (.ref 84) (.bool false) (.int 181 0) (.ref 85) .none .none .none (.int 302 0) (.int 31 0)
noncomputable def hO87 : Obj := { cls := .type "frame", dict := none, data := .plain, slots := #[some (.ref 86), some (.ref 3), some (.ref 83), none, some (.str "outlinemill.exact" 261), none, some (.ref 0)] }
def hO88 : Obj := hT []
def hO89 : Obj := hF []
def hO90 : Obj := hT [.str "self" 312, .str "text" 313]
def hO91 : Obj := hT []
def hO92 : Obj := hB .none (me 12 0) "__init__" "NumberText.__init__" 0 .none .none .none
def hO93 : Obj := hG "__init__" "NumberText.__init__" 309 315 33 2 88 314
def hO94 : Obj := hB (.type "function") (me 12 0) "__init__" "NumberText.__init__" 3 .none (.str "outlinemill.exact" 261) (.ref 93)
def hO95 : Obj := hT []
def hO96 : Obj := hF []
def hO97 : Obj := hT [.str "self" 320, .str "signs" 321]
def hO98 : Obj := hT []
def hO99 : Obj := hB .none (me 12 1) "is_one_of" "NumberText.is_one_of" 0 .none .none .none
def hO100 : Obj := hG "is_one_of" "NumberText.is_one_of" 317 323 37 2 95 322
def hO101 : Obj := hB (.type "function") (me 12 1) "is_one_of" "NumberText.is_one_of" 3 .none (.str "outlinemill.exact" 261) (.ref 100)
def hO102 : Obj := hT []
def hO103 : Obj := hF []
def hO104 : Obj := hT [.str "self" 328, .str "signs" 329]
def hO105 : Obj := hT []
def hO106 : Obj := hB .none (me 12 2) "skip" "NumberText.skip" 0 .none .none .none
def hO107 : Obj := hG "skip" "NumberText.skip" 325 331 40 2 102 330
def hO108 : Obj := hB (.type "function") (me 12 2) "skip" "NumberText.skip" 3 .none (.str "outlinemill.exact" 261) (.ref 107)
def hO109 : Obj := hT []
def hO110 : Obj := hF []
def hO111 : Obj := hT [.str "self" 336, .str "begin" 337]
def hO112 : Obj := hT []
def hO113 : Obj := hB .none (me 12 3) "digits" "NumberText.digits" 0 .none .none .none
def hO114 : Obj := hG "digits" "NumberText.digits" 333 339 46 1 109 338
def hO115 : Obj := hB (.type "function") (me 12 3) "digits" "NumberText.digits" 3 .none (.str "outlinemill.exact" 261) (.ref 114)
def hO116 : Obj := hT [.str "at" 341, .str "text" 342]
def hO117 (P : Params) : Obj := hD [hE P "__module__" 304 (.str "outlinemill.exact" 261), hE P "__firstlineno__" 308 (.int 31 307), hE P "__init__" 316 (.ref 94), hE P "is_one_of" 324 (.ref 101), hE P "skip" 332 (.ref 108), hE P "digits" 340 (.ref 115), hE P "__static_attributes__" 343 (.ref 116), hE P "__dict__" 345 (.ref 119), hE P "__weakref__" 347 (.ref 120), hE P "__doc__" 348 .none] 4
noncomputable def hO118 : Obj := { cls := .type "type", dict := none, data := (.cls { name := "NumberText", bases := [.type "object"], mro := [.ref 118, .type "object"], ns := 117, qualname := "NumberText", hasDict := true, slotNames := [], subclasses := [], abstract := false, collection := none, hasDel := false }), slots := #[none, none, some (.str "NumberText" 297), some (.str "NumberText" 305), some (.builtin "object.__new__"), some (.bool true)] }
noncomputable def hO119 : Obj := { cls := .type "getset_descriptor", dict := none, data := (.fields [.str "__dict__" 344, .ref 118, .builtin "function.__dict__", .builtin "function.__dict__#set"].toArray), slots := #[] }
noncomputable def hO120 : Obj := { cls := .type "getset_descriptor", dict := none, data := (.fields [.str "__weakref__" 346, .ref 118, .builtin "ExceptionGroup.__weakref__", .none].toArray), slots := #[] }
noncomputable def hO121 : Obj := { cls := .type "super", dict := none, data := (.fields [.ref 118, .ref 118, .ref 118].toArray), slots := #[] }
noncomputable def hO122 : Obj := { cls := .type "builtin_function_or_method", dict := none, data := (.fields [.builtin "object.__init_subclass__", .ref 118].toArray), slots := #[] }
def hO123 : Obj := hT []
def hO124 : Obj := hF []
def hO125 : Obj := hT [.str "digits" 354, .str "number" 355, .str "digit" 356]
def hO126 : Obj := hT []
def hO127 : Obj := hB .none (st 13) "whole_of" "whole_of" 0 .none .none .none
def hO128 : Obj := hG "whole_of" "whole_of" 351 358 51 1 123 357
def hO129 : Obj := hB (.type "function") (st 13) "whole_of" "whole_of" 3 .none (.str "outlinemill.exact" 261) (.ref 128)
def hO130 : Obj := hT []
def hO131 : Obj := hF []
def hO132 : Obj := hT [.str "reader" 363, .str "sign" 364, .str "digits" 365]
def hO133 : Obj := hT []
def hO134 : Obj := hB .none (st 14) "read_exponent" "read_exponent" 0 .none .none .none
def hO135 : Obj := hG "read_exponent" "read_exponent" 360 367 56 1 130 366
def hO136 : Obj := hB (.type "function") (st 14) "read_exponent" "read_exponent" 3 .none (.str "outlinemill.exact" 261) (.ref 135)
def hO137 : Obj := hT []
def hO138 : Obj := hF []
def hO139 : Obj := hT [.str "text" 372, .str "reader" 373, .str "sign" 374, .str "whole" 375, .str "parts" 376, .str "exponent" 377, .str "top" 378, .str "bottom" 379]
def hO140 : Obj := hT []
def hO141 : Obj := hB .none (st 15) "read_decimal" "read_decimal" 0 .none .none .none
def hO142 : Obj := hG "read_decimal" "read_decimal" 369 381 63 1 137 380
def hO143 : Obj := hB (.type "function") (st 15) "read_decimal" "read_decimal" 3 .none (.str "outlinemill.exact" 261) (.ref 142)
def hO144 : Obj := hT [.int 6 383]
def hO145 : Obj := hT []
def hO146 : Obj := hF []
def hO147 : Obj := hT [.str "a" 387, .str "places" 388, .str "scale" 389, .str "scaled" 390, .str "told" 391, .str "rest" 392, .str "parts" 393]
def hO148 : Obj := hT []
def hO149 : Obj := hB .none (st 16) "write_decimal" "write_decimal" 0 .none .none .none
def hO150 : Obj := hG "write_decimal" "write_decimal" 384 395 79 2 145 394
def hO151 : Obj := hB (.type "function") (st 16) "write_decimal" "write_decimal" 3 (.ref 144) (.str "outlinemill.exact" 261) (.ref 150)
def hO152 : Obj := hT []
noncomputable def hO153 : Obj := { cls := .type "builtin_function_or_method", dict := none, data := (.fields [.builtin "type.__prepare__", .type "type"].toArray), slots := #[] }
def hO154 (P : Params) : Obj := hD [hE P "__module__" 412 (.str "outlinemill.path_words" 397), hE P "__qualname__" 414 (.str "PathScanner" 413), hE P "__firstlineno__" 416 (.int 95 415), hE P "__init__" 424 (.ref 165), hE P "is_over" 431 (.ref 172), hE P "peek" 438 (.ref 179), hE P "fault" 446 (.ref 186), hE P "spaces" 453 (.ref 193), hE P "separator" 460 (.ref 200), hE P "looks_number" 468 (.ref 207), hE P "digits" 476 (.ref 214), hE P "exponent" 484 (.ref 221), hE P "number" 494 (.ref 228), hE P "flag" 502 (.ref 235), hE P "command" 510 (.ref 242), hE P "__static_attributes__" 513 (.ref 243)] 16
def hO155 : Obj := hT []
def hO156 : Obj := hF [.int 97 0, .int 4 0, .ref 164, .int 101 0, .int 4 0, .ref 171, .int 104 0, .int 4 0, .ref 178, .int 107 0, .int 4 0, .ref 185, .int 110 0, .int 4 0, .ref 192, .int 114 0, .int 4 0, .ref 199, .int 122 0, .int 4 0, .ref 206, .int 126 0, .int 4 0, .ref 213, .int 132 0, .int 4 0, .ref 220, .int 142 0, .int 4 0, .ref 227, .int 159 0, .int 4 0, .ref 234, .int 166 0, .int 4 0, .ref 241]
def hO157 : Obj := hC "PathScanner" "PathScanner" 407 411 (.int 95 0) (.int 0 0) (.int 0 0) (.ref 155) (.bool false) (.int 181 0) (.ref 156) .none .none .none (.int 410 0) (.int 95 0)
noncomputable def hO158 : Obj := { cls := .type "frame", dict := none, data := .plain, slots := #[some (.ref 157), some (.ref 3), some (.ref 154), none, some (.str "outlinemill.path_words" 397), none, some (.ref 0)] }
def hO159 : Obj := hT []
def hO160 : Obj := hF []
def hO161 : Obj := hT [.str "self" 420, .str "text" 421]
def hO162 : Obj := hT []
def hO163 : Obj := hB .none (me 21 0) "__init__" "PathScanner.__init__" 0 .none .none .none
def hO164 : Obj := hG "__init__" "PathScanner.__init__" 417 423 97 2 159 422
def hO165 : Obj := hB (.type "function") (me 21 0) "__init__" "PathScanner.__init__" 3 .none (.str "outlinemill.path_words" 397) (.ref 164)
def hO166 : Obj := hT []
def hO167 : Obj := hF []
def hO168 : Obj := hT [.str "self" 428]
def hO169 : Obj := hT []
def hO170 : Obj := hB .none (me 21 1) "is_over" "PathScanner.is_over" 0 .none .none .none
def hO171 : Obj := hG "is_over" "PathScanner.is_over" 425 430 101 1 166 429
def hO172 : Obj := hB (.type "function") (me 21 1) "is_over" "PathScanner.is_over" 3 .none (.str "outlinemill.path_words" 397) (.ref 171)
def hO173 : Obj := hT []
def hO174 : Obj := hF []
def hO175 : Obj := hT [.str "self" 435]
def hO176 : Obj := hT []
def hO177 : Obj := hB .none (me 21 2) "peek" "PathScanner.peek" 0 .none .none .none
def hO178 : Obj := hG "peek" "PathScanner.peek" 432 437 104 1 173 436
def hO179 : Obj := hB (.type "function") (me 21 2) "peek" "PathScanner.peek" 3 .none (.str "outlinemill.path_words" 397) (.ref 178)
def hO180 : Obj := hT []
def hO181 : Obj := hF []
def hO182 : Obj := hT [.str "self" 442, .str "message" 443]
def hO183 : Obj := hT []
def hO184 : Obj := hB .none (me 21 3) "fault" "PathScanner.fault" 0 .none .none .none
def hO185 : Obj := hG "fault" "PathScanner.fault" 439 445 107 2 180 444
def hO186 : Obj := hB (.type "function") (me 21 3) "fault" "PathScanner.fault" 3 .none (.str "outlinemill.path_words" 397) (.ref 185)
def hO187 : Obj := hT []
def hO188 : Obj := hF []
def hO189 : Obj := hT [.str "self" 450]
def hO190 : Obj := hT []
def hO191 : Obj := hB .none (me 21 4) "spaces" "PathScanner.spaces" 0 .none .none .none
def hO192 : Obj := hG "spaces" "PathScanner.spaces" 447 452 110 1 187 451
def hO193 : Obj := hB (.type "function") (me 21 4) "spaces" "PathScanner.spaces" 3 .none (.str "outlinemill.path_words" 397) (.ref 192)
def hO194 : Obj := hT []
def hO195 : Obj := hF []
def hO196 : Obj := hT [.str "self" 457]
def hO197 : Obj := hT []
def hO198 : Obj := hB .none (me 21 5) "separator" "PathScanner.separator" 0 .none .none .none
def hO199 : Obj := hG "separator" "PathScanner.separator" 454 459 114 1 194 458
def hO200 : Obj := hB (.type "function") (me 21 5) "separator" "PathScanner.separator" 3 .none (.str "outlinemill.path_words" 397) (.ref 199)
def hO201 : Obj := hT []
def hO202 : Obj := hF []
def hO203 : Obj := hT [.str "self" 464, .str "sign" 465]
def hO204 : Obj := hT []
def hO205 : Obj := hB .none (me 21 6) "looks_number" "PathScanner.looks_number" 0 .none .none .none
def hO206 : Obj := hG "looks_number" "PathScanner.looks_number" 461 467 122 1 201 466
def hO207 : Obj := hB (.type "function") (me 21 6) "looks_number" "PathScanner.looks_number" 3 .none (.str "outlinemill.path_words" 397) (.ref 206)
def hO208 : Obj := hT []
def hO209 : Obj := hF []
def hO210 : Obj := hT [.str "self" 472, .str "begin" 473]
def hO211 : Obj := hT []
def hO212 : Obj := hB .none (me 21 7) "digits" "PathScanner.digits" 0 .none .none .none
def hO213 : Obj := hG "digits" "PathScanner.digits" 469 475 126 1 208 474
def hO214 : Obj := hB (.type "function") (me 21 7) "digits" "PathScanner.digits" 3 .none (.str "outlinemill.path_words" 397) (.ref 213)
def hO215 : Obj := hT []
def hO216 : Obj := hF []
def hO217 : Obj := hT [.str "self" 480, .str "ahead" 481]
def hO218 : Obj := hT []
def hO219 : Obj := hB .none (me 21 8) "exponent" "PathScanner.exponent" 0 .none .none .none
def hO220 : Obj := hG "exponent" "PathScanner.exponent" 477 483 132 1 215 482
def hO221 : Obj := hB (.type "function") (me 21 8) "exponent" "PathScanner.exponent" 3 .none (.str "outlinemill.path_words" 397) (.ref 220)
def hO222 : Obj := hT []
def hO223 : Obj := hF []
def hO224 : Obj := hT [.str "self" 488, .str "begin" 489, .str "many" 490, .str "fault" 491]
def hO225 : Obj := hT []
def hO226 : Obj := hB .none (me 21 9) "number" "PathScanner.number" 0 .none .none .none
def hO227 : Obj := hG "number" "PathScanner.number" 485 493 142 1 222 492
def hO228 : Obj := hB (.type "function") (me 21 9) "number" "PathScanner.number" 3 .none (.str "outlinemill.path_words" 397) (.ref 227)
def hO229 : Obj := hT []
def hO230 : Obj := hF []
def hO231 : Obj := hT [.str "self" 498, .str "sign" 499]
def hO232 : Obj := hT []
def hO233 : Obj := hB .none (me 21 10) "flag" "PathScanner.flag" 0 .none .none .none
def hO234 : Obj := hG "flag" "PathScanner.flag" 495 501 159 1 229 500
def hO235 : Obj := hB (.type "function") (me 21 10) "flag" "PathScanner.flag" 3 .none (.str "outlinemill.path_words" 397) (.ref 234)
def hO236 : Obj := hT []
def hO237 : Obj := hF []
def hO238 : Obj := hT [.str "self" 506, .str "letter" 507]
def hO239 : Obj := hT []
def hO240 : Obj := hB .none (me 21 11) "command" "PathScanner.command" 0 .none .none .none
def hO241 : Obj := hG "command" "PathScanner.command" 503 509 166 1 236 508
def hO242 : Obj := hB (.type "function") (me 21 11) "command" "PathScanner.command" 3 .none (.str "outlinemill.path_words" 397) (.ref 241)
def hO243 : Obj := hT [.str "at" 511, .str "text" 512]
def hO244 (P : Params) : Obj := hD [hE P "__module__" 412 (.str "outlinemill.path_words" 397), hE P "__firstlineno__" 416 (.int 95 415), hE P "__init__" 424 (.ref 165), hE P "is_over" 431 (.ref 172), hE P "peek" 438 (.ref 179), hE P "fault" 446 (.ref 186), hE P "spaces" 453 (.ref 193), hE P "separator" 460 (.ref 200), hE P "looks_number" 468 (.ref 207), hE P "digits" 476 (.ref 214), hE P "exponent" 484 (.ref 221), hE P "number" 494 (.ref 228), hE P "flag" 502 (.ref 235), hE P "command" 510 (.ref 242), hE P "__static_attributes__" 513 (.ref 243), hE P "__dict__" 515 (.ref 246), hE P "__weakref__" 517 (.ref 247), hE P "__doc__" 518 .none] 4
noncomputable def hO245 : Obj := { cls := .type "type", dict := none, data := (.cls { name := "PathScanner", bases := [.type "object"], mro := [.ref 245, .type "object"], ns := 244, qualname := "PathScanner", hasDict := true, slotNames := [], subclasses := [], abstract := false, collection := none, hasDel := false }), slots := #[none, none, some (.str "PathScanner" 405), some (.str "PathScanner" 413), some (.builtin "object.__new__"), some (.bool true)] }
noncomputable def hO246 : Obj := { cls := .type "getset_descriptor", dict := none, data := (.fields [.str "__dict__" 514, .ref 245, .builtin "function.__dict__", .builtin "function.__dict__#set"].toArray), slots := #[] }
noncomputable def hO247 : Obj := { cls := .type "getset_descriptor", dict := none, data := (.fields [.str "__weakref__" 516, .ref 245, .builtin "ExceptionGroup.__weakref__", .none].toArray), slots := #[] }
noncomputable def hO248 : Obj := { cls := .type "super", dict := none, data := (.fields [.ref 245, .ref 245, .ref 245].toArray), slots := #[] }
noncomputable def hO249 : Obj := { cls := .type "builtin_function_or_method", dict := none, data := (.fields [.builtin "object.__init_subclass__", .ref 245].toArray), slots := #[] }
def hO250 : Obj := hT []
def hO251 : Obj := hF []
def hO252 : Obj := hT [.str "letter" 526]
def hO253 : Obj := hT []
def hO254 : Obj := hB .none (st 23) "many_of" "many_of" 0 .none .none .none
def hO255 : Obj := hG "many_of" "many_of" 523 528 176 1 250 527
def hO256 : Obj := hB (.type "function") (st 23) "many_of" "many_of" 3 .none (.str "outlinemill.path_reader" 521) (.ref 255)
def hO257 : Obj := hT []
def hO258 : Obj := hF []
def hO259 : Obj := hT [.str "letter" 533]
def hO260 : Obj := hT []
def hO261 : Obj := hB .none (st 24) "letter_behind" "letter_behind" 0 .none .none .none
def hO262 : Obj := hG "letter_behind" "letter_behind" 530 535 178 1 257 534
def hO263 : Obj := hB (.type "function") (st 24) "letter_behind" "letter_behind" 3 .none (.str "outlinemill.path_reader" 521) (.ref 262)
def hO264 : Obj := hT []
def hO265 : Obj := hF []
def hO266 : Obj := hT [.str "scanner" 540, .str "letter" 541, .str "found" 542, .str "place" 543]
def hO267 : Obj := hT []
def hO268 : Obj := hB .none (st 25) "read_group" "read_group" 0 .none .none .none
def hO269 : Obj := hG "read_group" "read_group" 537 545 180 2 264 544
def hO270 : Obj := hB (.type "function") (st 25) "read_group" "read_group" 3 .none (.str "outlinemill.path_reader" 521) (.ref 269)
def hO271 : Obj := hT []
def hO272 : Obj := hF []
def hO273 : Obj := hT [.str "scanner" 550, .str "has_comma" 551]
def hO274 : Obj := hT []
def hO275 : Obj := hB .none (st 26) "goes_on" "goes_on" 0 .none .none .none
def hO276 : Obj := hG "goes_on" "goes_on" 547 553 190 1 271 552
def hO277 : Obj := hB (.type "function") (st 26) "goes_on" "goes_on" 3 .none (.str "outlinemill.path_reader" 521) (.ref 276)
def hO278 : Obj := hT []
def hO279 : Obj := hF []
def hO280 : Obj := hT [.str "scanner" 558, .str "found" 559, .str "letter" 560]
def hO281 : Obj := hT []
def hO282 : Obj := hB .none (st 27) "read_into" "read_into" 0 .none .none .none
def hO283 : Obj := hG "read_into" "read_into" 555 562 197 2 278 561
def hO284 : Obj := hB (.type "function") (st 27) "read_into" "read_into" 3 .none (.str "outlinemill.path_reader" 521) (.ref 283)
def hO285 : Obj := hT []
def hO286 : Obj := hF []
def hO287 : Obj := hT [.str "text" 567, .str "found" 568]
def hO288 : Obj := hT []
def hO289 : Obj := hB .none (st 28) "read_commands" "read_commands" 0 .none .none .none
def hO290 : Obj := hG "read_commands" "read_commands" 564 570 212 1 285 569
def hO291 : Obj := hB (.type "function") (st 28) "read_commands" "read_commands" 3 .none (.str "outlinemill.path_reader" 521) (.ref 290)
def hO292 : Obj := hT []
def hO293 : Obj := hF []
def hO294 : Obj := hT [.str "number" 579, .str "text" 580]
def hO295 : Obj := hT []
def hO296 : Obj := hB .none (st 31) "short" "short" 0 .none .none .none
def hO297 : Obj := hG "short" "short" 576 582 218 1 292 581
def hO298 : Obj := hB (.type "function") (st 31) "short" "short" 3 .none (.str "outlinemill.path_printer" 572) (.ref 297)
def hO299 : Obj := hT []
def hO300 : Obj := hF []
def hO301 : Obj := hT [.str "ahead" 587, .str "text" 588]
def hO302 : Obj := hT []
def hO303 : Obj := hB .none (st 32) "wants_blank" "wants_blank" 0 .none .none .none
def hO304 : Obj := hG "wants_blank" "wants_blank" 584 590 225 2 299 589
def hO305 : Obj := hB (.type "function") (st 32) "wants_blank" "wants_blank" 3 .none (.str "outlinemill.path_printer" 572) (.ref 304)
def hO306 : Obj := hT []
noncomputable def hO307 : Obj := { cls := .type "builtin_function_or_method", dict := none, data := (.fields [.builtin "type.__prepare__", .type "type"].toArray), slots := #[] }
def hO308 (P : Params) : Obj := hD [hE P "__module__" 599 (.str "outlinemill.path_printer" 572), hE P "__qualname__" 601 (.str "PathWriter" 600), hE P "__firstlineno__" 603 (.int 229 602), hE P "__init__" 610 (.ref 319), hE P "put_letter" 618 (.ref 326), hE P "put_number" 627 (.ref 333), hE P "put_flag" 635 (.ref 340), hE P "put" 645 (.ref 347), hE P "__static_attributes__" 649 (.ref 348)] 9
def hO309 : Obj := hT []
def hO310 : Obj := hF [.int 231 0, .int 4 0, .ref 318, .int 236 0, .int 4 0, .ref 325, .int 242 0, .int 4 0, .ref 332, .int 249 0, .int 4 0, .ref 339, .int 255 0, .int 4 0, .ref 346]
def hO311 : Obj := hC "PathWriter" "PathWriter" 594 598 (.int 229 0) (.int 0 0) (.int 0 0) (.ref 309) (.bool false) (.int 181 0) (.ref 310) .none .none .none (.int 597 0) (.int 229 0)
noncomputable def hO312 : Obj := { cls := .type "frame", dict := none, data := .plain, slots := #[some (.ref 311), some (.ref 3), some (.ref 308), none, some (.str "outlinemill.path_printer" 572), none, some (.ref 0)] }
def hO313 : Obj := hT []
def hO314 : Obj := hF []
def hO315 : Obj := hT [.str "self" 607]
def hO316 : Obj := hT []
def hO317 : Obj := hB .none (me 33 0) "__init__" "PathWriter.__init__" 0 .none .none .none
def hO318 : Obj := hG "__init__" "PathWriter.__init__" 604 609 231 1 313 608
def hO319 : Obj := hB (.type "function") (me 33 0) "__init__" "PathWriter.__init__" 3 .none (.str "outlinemill.path_printer" 572) (.ref 318)
def hO320 : Obj := hT []
def hO321 : Obj := hF []
def hO322 : Obj := hT [.str "self" 614, .str "letter" 615]
def hO323 : Obj := hT []
def hO324 : Obj := hB .none (me 33 1) "put_letter" "PathWriter.put_letter" 0 .none .none .none
def hO325 : Obj := hG "put_letter" "PathWriter.put_letter" 611 617 236 2 320 616
def hO326 : Obj := hB (.type "function") (me 33 1) "put_letter" "PathWriter.put_letter" 3 .none (.str "outlinemill.path_printer" 572) (.ref 325)
def hO327 : Obj := hT []
def hO328 : Obj := hF []
def hO329 : Obj := hT [.str "self" 622, .str "number" 623, .str "text" 624]
def hO330 : Obj := hT []
def hO331 : Obj := hB .none (me 33 2) "put_number" "PathWriter.put_number" 0 .none .none .none
def hO332 : Obj := hG "put_number" "PathWriter.put_number" 619 626 242 2 327 625
def hO333 : Obj := hB (.type "function") (me 33 2) "put_number" "PathWriter.put_number" 3 .none (.str "outlinemill.path_printer" 572) (.ref 332)
def hO334 : Obj := hT []
def hO335 : Obj := hF []
def hO336 : Obj := hT [.str "self" 631, .str "flag" 632]
def hO337 : Obj := hT []
def hO338 : Obj := hB .none (me 33 3) "put_flag" "PathWriter.put_flag" 0 .none .none .none
def hO339 : Obj := hG "put_flag" "PathWriter.put_flag" 628 634 249 2 334 633
def hO340 : Obj := hB (.type "function") (me 33 3) "put_flag" "PathWriter.put_flag" 3 .none (.str "outlinemill.path_printer" 572) (.ref 339)
def hO341 : Obj := hT []
def hO342 : Obj := hF []
def hO343 : Obj := hT [.str "self" 639, .str "letter" 640, .str "numbers" 641, .str "place" 642]
def hO344 : Obj := hT []
def hO345 : Obj := hB .none (me 33 4) "put" "PathWriter.put" 0 .none .none .none
def hO346 : Obj := hG "put" "PathWriter.put" 636 644 255 3 341 643
def hO347 : Obj := hB (.type "function") (me 33 4) "put" "PathWriter.put" 3 .none (.str "outlinemill.path_printer" 572) (.ref 346)
def hO348 : Obj := hT [.str "last" 646, .str "letter" 647, .str "parts" 648]
def hO349 (P : Params) : Obj := hD [hE P "__module__" 599 (.str "outlinemill.path_printer" 572), hE P "__firstlineno__" 603 (.int 229 602), hE P "__init__" 610 (.ref 319), hE P "put_letter" 618 (.ref 326), hE P "put_number" 627 (.ref 333), hE P "put_flag" 635 (.ref 340), hE P "put" 645 (.ref 347), hE P "__static_attributes__" 649 (.ref 348), hE P "__dict__" 651 (.ref 351), hE P "__weakref__" 653 (.ref 352), hE P "__doc__" 654 .none] 4
noncomputable def hO350 : Obj := { cls := .type "type", dict := none, data := (.cls { name := "PathWriter", bases := [.type "object"], mro := [.ref 350, .type "object"], ns := 349, qualname := "PathWriter", hasDict := true, slotNames := [], subclasses := [], abstract := false, collection := none, hasDel := false }), slots := #[none, none, some (.str "PathWriter" 592), some (.str "PathWriter" 600), some (.builtin "object.__new__"), some (.bool true)] }
noncomputable def hO351 : Obj := { cls := .type "getset_descriptor", dict := none, data := (.fields [.str "__dict__" 650, .ref 350, .builtin "function.__dict__", .builtin "function.__dict__#set"].toArray), slots := #[] }
noncomputable def hO352 : Obj := { cls := .type "getset_descriptor", dict := none, data := (.fields [.str "__weakref__" 652, .ref 350, .builtin "ExceptionGroup.__weakref__", .none].toArray), slots := #[] }
noncomputable def hO353 : Obj := { cls := .type "super", dict := none, data := (.fields [.ref 350, .ref 350, .ref 350].toArray), slots := #[] }
noncomputable def hO354 : Obj := { cls := .type "builtin_function_or_method", dict := none, data := (.fields [.builtin "object.__init_subclass__", .ref 350].toArray), slots := #[] }
def hO355 : Obj := hT []
def hO356 : Obj := hF []
def hO357 : Obj := hT [.str "commands" 660, .str "writer" 661, .str "letter" 662, .str "numbers" 663]
def hO358 : Obj := hT []
def hO359 : Obj := hB .none (st 34) "write_path" "write_path" 0 .none .none .none
def hO360 : Obj := hG "write_path" "write_path" 657 665 262 1 355 664
def hO361 : Obj := hB (.type "function") (st 34) "write_path" "write_path" 3 .none (.str "outlinemill.path_printer" 572) (.ref 360)
def hO362 : Obj := hT []
def hO363 : Obj := hF []
def hO364 : Obj := hT [.str "points" 670, .str "found" 671, .str "x" 672, .str "y" 673]
def hO365 : Obj := hT []
def hO366 : Obj := hB .none (st 35) "numbers_of" "numbers_of" 0 .none .none .none
def hO367 : Obj := hG "numbers_of" "numbers_of" 667 675 267 1 362 674
def hO368 : Obj := hB (.type "function") (st 35) "numbers_of" "numbers_of" 3 .none (.str "outlinemill.path_printer" 572) (.ref 367)
def hO369 : Obj := hT []
def hO370 : Obj := hF []
def hO371 : Obj := hT [.str "segment" 680, .str "kind" 681, .str "flags" 682]
def hO372 : Obj := hT []
def hO373 : Obj := hB .none (st 36) "command_of" "command_of" 0 .none .none .none
def hO374 : Obj := hG "command_of" "command_of" 677 684 272 1 369 683
def hO375 : Obj := hB (.type "function") (st 36) "command_of" "command_of" 3 .none (.str "outlinemill.path_printer" 572) (.ref 374)
def hO376 : Obj := hT []
def hO377 : Obj := hF []
def hO378 : Obj := hB .none (st 37) "write_segments" "write_segments" 0 .none .none .none
def hO379 : Obj := hC "write_segments" "write_segments" 686 690 (.int 280 0) (.int 1 0) (.int 3 0) (.ref 376) (.bool true) (.int 181 0) (.ref 377) .none .none (.ref 378) (.int 689 0) (.int 280 0)
def hO380 : Obj := hB (.type "function") (st 37) "write_segments" "write_segments" 3 .none (.str "outlinemill.path_printer" 572) (.ref 379)
def hO381 : Obj := hT []
def hO382 : Obj := hF []
def hO383 : Obj := hT [.str "script" 697, .str "k" 698, .str "cell" 699, .str "big" 700, .str "mixed" 701]
def hO384 : Obj := hT []
def hO385 : Obj := hB .none (st 39) "_law_pool" "_law_pool" 0 .none .none .none
def hO386 : Obj := hG "_law_pool" "_law_pool" 694 703 283 2 381 702
def hO387 : Obj := hB (.type "function") (st 39) "_law_pool" "_law_pool" 3 .none (.str "law_xm0693_01" 692) (.ref 386)
def hO388 : Obj := hT []
def hO389 : Obj := hF []
def hO390 : Obj := hT [.str "source" 708, .str "top" 709, .str "digit" 710]
def hO391 : Obj := hT []
def hO392 : Obj := hB .none (st 40) "_law_take" "_law_take" 0 .none .none .none
def hO393 : Obj := hG "_law_take" "_law_take" 705 712 288 2 388 711
def hO394 : Obj := hB (.type "function") (st 40) "_law_take" "_law_take" 3 .none (.str "law_xm0693_01" 692) (.ref 393)
def hO395 : Obj := hT []
def hO396 : Obj := hF []
def hO397 : Obj := hT [.str "source" 717, .str "things" 718]
def hO398 : Obj := hT []
def hO399 : Obj := hB .none (st 41) "_law_one" "_law_one" 0 .none .none .none
def hO400 : Obj := hG "_law_one" "_law_one" 714 720 295 2 395 719
def hO401 : Obj := hB (.type "function") (st 41) "_law_one" "_law_one" 3 .none (.str "law_xm0693_01" 692) (.ref 400)
def hO402 : Obj := hT []
def hO403 : Obj := hF []
def hO404 : Obj := hT [.str "source" 725]
def hO405 : Obj := hT []
def hO406 : Obj := hB .none (st 42) "_law_number" "_law_number" 0 .none .none .none
def hO407 : Obj := hG "_law_number" "_law_number" 722 727 297 1 402 726
def hO408 : Obj := hB (.type "function") (st 42) "_law_number" "_law_number" 3 .none (.str "law_xm0693_01" 692) (.ref 407)
def hO409 : Obj := hT []
def hO410 : Obj := hF []
def hO411 : Obj := hT [.str "source" 732, .str "letters" 733, .str "letter" 734, .str "many" 735, .str "numbers" 736, .str "place" 737, .str "is_flag" 738]
def hO412 : Obj := hT []
def hO413 : Obj := hB .none (st 43) "_law_command" "_law_command" 0 .none .none .none
def hO414 : Obj := hG "_law_command" "_law_command" 729 740 299 2 409 739
def hO415 : Obj := hB (.type "function") (st 43) "_law_command" "_law_command" 3 .none (.str "law_xm0693_01" 692) (.ref 414)
def hO416 : Obj := hT []
def hO417 : Obj := hF []
def hO418 : Obj := hT [.str "number" 745, .str "size" 746, .str "whole" 747, .str "parts" 748, .str "text" 749]
def hO419 : Obj := hT []
def hO420 : Obj := hB .none (st 44) "_law_told" "_law_told" 0 .none .none .none
def hO421 : Obj := hG "_law_told" "_law_told" 742 751 307 1 416 750
def hO422 : Obj := hB (.type "function") (st 44) "_law_told" "_law_told" 3 .none (.str "law_xm0693_01" 692) (.ref 421)
def hO423 : Obj := hT []
def hO424 : Obj := hF []
def hO425 : Obj := hT [.str "commands" 756, .str "text" 757, .str "letter" 758, .str "last" 759, .str "word" 760, .str "numbers" 761, .str "place" 762, .str "number" 763, .str "one" 764, .str "is_apart" 765]
def hO426 : Obj := hT []
def hO427 : Obj := hB .none (st 45) "_law_text" "_law_text" 0 .none .none .none
def hO428 : Obj := hG "_law_text" "_law_text" 753 767 312 1 423 766
def hO429 : Obj := hB (.type "function") (st 45) "_law_text" "_law_text" 3 .none (.str "law_xm0693_01" 692) (.ref 428)
def hO430 : Obj := hT []
def hO431 : Obj := hF []
def hO432 : Obj := hT [.str "text" 772]
def hO433 : Obj := hT []
def hO434 : Obj := hB .none (st 46) "_law_read" "_law_read" 0 .none .none .none
def hO435 : Obj := hG "_law_read" "_law_read" 769 774 326 1 430 773
def hO436 : Obj := hB (.type "function") (st 46) "_law_read" "_law_read" 3 .none (.str "law_xm0693_01" 692) (.ref 435)
def hO437 : Obj := hT []
def hO438 : Obj := hF []
def hO439 : Obj := hB .none (st 47) "_law_segment" "_law_segment" 0 .none .none .none
def hO440 : Obj := hC "_law_segment" "_law_segment" 776 780 (.int 331 0) (.int 1 0) (.int 3 0) (.ref 437) (.bool true) (.int 181 0) (.ref 438) .none .none (.ref 439) (.int 779 0) (.int 331 0)
def hO441 : Obj := hB (.type "function") (st 47) "_law_segment" "_law_segment" 3 .none (.str "law_xm0693_01" 692) (.ref 440)
def hO442 : Obj := hT []
def hO443 : Obj := hF []
def hO444 : Obj := hB .none (st 48) "_law_written_right" "_law_written_right" 0 .none .none .none
def hO445 : Obj := hC "_law_written_right" "_law_written_right" 782 786 (.int 339 0) (.int 2 0) (.int 3 0) (.ref 442) (.bool true) (.int 181 0) (.ref 443) .none .none (.ref 444) (.int 785 0) (.int 339 0)
def hO446 : Obj := hB (.type "function") (st 48) "_law_written_right" "_law_written_right" 3 .none (.str "law_xm0693_01" 692) (.ref 445)
def hO447 : Obj := hT []
def hO448 : Obj := hF []
def hO449 : Obj := hB .none (st 49) "law" "law" 0 .none .none .none
def hO450 : Obj := hC "law" "law" 788 792 (.int 351 0) (.int 1 0) (.int 3 0) (.ref 447) (.bool true) (.int 181 0) (.ref 448) .none .none (.ref 449) (.int 791 0) (.int 351 0)
def hO451 : Obj := hB (.type "function") (st 49) "law" "law" 3 .none (.str "law_xm0693_01" 692) (.ref 450)
def hO12v1 : Obj := hF []
def hO3v1 (P : Params) : Obj := hD (((E3 P).take 10).set 0 (hE P "__name__" 165 (.str "outlinemill.errors" 187))) 10
def hO12v2 : Obj := hF [.int 2 0, .int 0 0, .ref 20]
noncomputable def hO31v1 : Obj := { cls := .type "type", dict := none, data := (.cls { name := "MillError", bases := [.type "Exception"], mro := [.ref 31, .type "Exception", .type "BaseException", .type "object"], ns := 30, qualname := "MillError", hasDict := true, slotNames := [], subclasses := [], abstract := false, collection := none, hasDel := false }), slots := #[some (.ref 15), none, some (.str "MillError" 189), some (.str "MillError" 197), some (.builtin "Exception.__new__"), some (.bool true)] }
def hO3v2 (P : Params) : Obj := hD (((E3 P).take 11).set 0 (hE P "__name__" 165 (.str "outlinemill.errors" 187))) 11
def hO12v3 : Obj := hF [.int 2 0, .int 0 0, .ref 20, .int 6 0, .int 0 0, .ref 40]
noncomputable def hO31v2 : Obj := { cls := .type "type", dict := none, data := (.cls { name := "MillError", bases := [.type "Exception"], mro := [.ref 31, .type "Exception", .type "BaseException", .type "object"], ns := 30, qualname := "MillError", hasDict := true, slotNames := [], subclasses := [.ref 44], abstract := false, collection := none, hasDel := false }), slots := #[some (.ref 15), none, some (.str "MillError" 189), some (.str "MillError" 197), some (.builtin "Exception.__new__"), some (.bool true)] }
def hO3v3 (P : Params) : Obj := hD (((E3 P).take 19).set 0 (hE P "__name__" 165 (.str "outlinemill.exact" 261))) 19
def hO12v4 : Obj := hF [.int 2 0, .int 0 0, .ref 20, .int 6 0, .int 0 0, .ref 40, .int 8 0, .int 0 0, .ref 52, .int 19 0, .int 0 0, .ref 71, .int 24 0, .int 0 0, .ref 79]
def hO3v4 (P : Params) : Obj := hD (((E3 P).take 22).set 0 (hE P "__name__" 165 (.str "outlinemill.exact" 261))) 22
def hO12v5 : Obj := hF [.int 2 0, .int 0 0, .ref 20, .int 6 0, .int 0 0, .ref 40, .int 8 0, .int 0 0, .ref 52, .int 19 0, .int 0 0, .ref 71, .int 24 0, .int 0 0, .ref 79, .int 31 0, .int 0 0, .ref 86, .int 51 0, .int 0 0, .ref 128, .int 56 0, .int 0 0, .ref 135]
def hO3v5 (P : Params) : Obj := hD (((E3 P).take 27).set 0 (hE P "__name__" 165 (.str "outlinemill.path_words" 397))) 27
def hO12v6 : Obj := hF [.int 2 0, .int 0 0, .ref 20, .int 6 0, .int 0 0, .ref 40, .int 8 0, .int 0 0, .ref 52, .int 19 0, .int 0 0, .ref 71, .int 24 0, .int 0 0, .ref 79, .int 31 0, .int 0 0, .ref 86, .int 51 0, .int 0 0, .ref 128, .int 56 0, .int 0 0, .ref 135, .int 63 0, .int 0 0, .ref 142, .int 79 0, .int 0 0, .ref 150]
def hO3v6 (P : Params) : Obj := hD (((E3 P).take 28).set 0 (hE P "__name__" 165 (.str "outlinemill.path_words" 397))) 28
def hO12v7 : Obj := hF [.int 2 0, .int 0 0, .ref 20, .int 6 0, .int 0 0, .ref 40, .int 8 0, .int 0 0, .ref 52, .int 19 0, .int 0 0, .ref 71, .int 24 0, .int 0 0, .ref 79, .int 31 0, .int 0 0, .ref 86, .int 51 0, .int 0 0, .ref 128, .int 56 0, .int 0 0, .ref 135, .int 63 0, .int 0 0, .ref 142, .int 79 0, .int 0 0, .ref 150, .int 95 0, .int 0 0, .ref 157]
def hO3v7 (P : Params) : Obj := hD (((E3 P).take 37).set 0 (hE P "__name__" 165 (.str "outlinemill.path_printer" 572))) 37
def hO12v8 : Obj := hF [.int 2 0, .int 0 0, .ref 20, .int 6 0, .int 0 0, .ref 40, .int 8 0, .int 0 0, .ref 52, .int 19 0, .int 0 0, .ref 71, .int 24 0, .int 0 0, .ref 79, .int 31 0, .int 0 0, .ref 86, .int 51 0, .int 0 0, .ref 128, .int 56 0, .int 0 0, .ref 135, .int 63 0, .int 0 0, .ref 142, .int 79 0, .int 0 0, .ref 150, .int 95 0, .int 0 0, .ref 157, .int 176 0, .int 0 0, .ref 255, .int 178 0, .int 0 0, .ref 262, .int 180 0, .int 0 0, .ref 269, .int 190 0, .int 0 0, .ref 276, .int 197 0, .int 0 0, .ref 283, .int 212 0, .int 0 0, .ref 290, .int 218 0, .int 0 0, .ref 297, .int 225 0, .int 0 0, .ref 304]
def hO3v8 (P : Params) : Obj := hD (((E3 P).take 39).set 0 (hE P "__name__" 165 (.str "outlinemill.path_printer" 572))) 39
def hO12v9 : Obj := hF [.int 2 0, .int 0 0, .ref 20, .int 6 0, .int 0 0, .ref 40, .int 8 0, .int 0 0, .ref 52, .int 19 0, .int 0 0, .ref 71, .int 24 0, .int 0 0, .ref 79, .int 31 0, .int 0 0, .ref 86, .int 51 0, .int 0 0, .ref 128, .int 56 0, .int 0 0, .ref 135, .int 63 0, .int 0 0, .ref 142, .int 79 0, .int 0 0, .ref 150, .int 95 0, .int 0 0, .ref 157, .int 176 0, .int 0 0, .ref 255, .int 178 0, .int 0 0, .ref 262, .int 180 0, .int 0 0, .ref 269, .int 190 0, .int 0 0, .ref 276, .int 197 0, .int 0 0, .ref 283, .int 212 0, .int 0 0, .ref 290, .int 218 0, .int 0 0, .ref 297, .int 225 0, .int 0 0, .ref 304, .int 229 0, .int 0 0, .ref 311, .int 262 0, .int 0 0, .ref 360]
def hO3v9 (P : Params) : Obj := hD ((E3 P).take 51) 51
def hO12v10 : Obj := hF [.int 2 0, .int 0 0, .ref 20, .int 6 0, .int 0 0, .ref 40, .int 8 0, .int 0 0, .ref 52, .int 19 0, .int 0 0, .ref 71, .int 24 0, .int 0 0, .ref 79, .int 31 0, .int 0 0, .ref 86, .int 51 0, .int 0 0, .ref 128, .int 56 0, .int 0 0, .ref 135, .int 63 0, .int 0 0, .ref 142, .int 79 0, .int 0 0, .ref 150, .int 95 0, .int 0 0, .ref 157, .int 176 0, .int 0 0, .ref 255, .int 178 0, .int 0 0, .ref 262, .int 180 0, .int 0 0, .ref 269, .int 190 0, .int 0 0, .ref 276, .int 197 0, .int 0 0, .ref 283, .int 212 0, .int 0 0, .ref 290, .int 218 0, .int 0 0, .ref 297, .int 225 0, .int 0 0, .ref 304, .int 229 0, .int 0 0, .ref 311, .int 262 0, .int 0 0, .ref 360, .int 267 0, .int 0 0, .ref 367, .int 272 0, .int 0 0, .ref 374, .int 280 0, .int 0 0, .ref 379, .int 283 0, .int 0 0, .ref 386, .int 288 0, .int 0 0, .ref 393, .int 295 0, .int 0 0, .ref 400, .int 297 0, .int 0 0, .ref 407, .int 299 0, .int 0 0, .ref 414, .int 307 0, .int 0 0, .ref 421, .int 312 0, .int 0 0, .ref 428, .int 326 0, .int 0 0, .ref 435, .int 331 0, .int 0 0, .ref 440]
noncomputable def hLF (P : Params) : List Obj := PySem.W.boot_o_0 P :: PySem.W.boot_o_1 P :: hO2 P :: hO3 P :: PySem.W.boot_o_4 P :: PySem.W.boot_o_5 P :: PySem.W.boot_o_6 P :: PySem.W.boot_o_7 P :: PySem.W.boot_o_8 P :: PySem.W.boot_o_9 P :: PySem.W.boot_o_10 P :: hO11 :: hO12 :: hO13 :: hO14 :: hO15 :: hO16 :: hO17 P :: hO18 :: hO19 :: hO20 :: hO21 :: hO22 :: hO23 :: hO24 :: hO25 :: hO26 :: hO27 :: hO28 :: hO29 :: hO30 P :: hO31 :: hO32 :: hO33 :: hO34 :: hO35 :: hO36 :: hO37 P :: hO38 :: hO39 :: hO40 :: hO41 :: hO42 :: hO43 P :: hO44 :: hO45 :: hO46 :: hO47 :: hO48 :: hO49 P :: hO50 :: hO51 :: hO52 :: hO53 :: hO54 :: hO55 :: hO56 :: hO57 :: hO58 :: hO59 :: hO60 :: hO61 :: hO62 P :: hO63 :: hO64 :: hO65 :: hO66 :: hO67 :: hO68 :: hO69 :: hO70 :: hO71 :: hO72 :: hO73 :: hO74 :: hO75 :: hO76 :: hO77 :: hO78 :: hO79 :: hO80 :: hO81 :: hO82 :: hO83 P :: hO84 :: hO85 :: hO86 :: hO87 :: hO88 :: hO89 :: hO90 :: hO91 :: hO92 :: hO93 :: hO94 :: hO95 :: hO96 :: hO97 :: hO98 :: hO99 :: hO100 :: hO101 :: hO102 :: hO103 :: hO104 :: hO105 :: hO106 :: hO107 :: hO108 :: hO109 :: hO110 :: hO111 :: hO112 :: hO113 :: hO114 :: hO115 :: hO116 :: hO117 P :: hO118 :: hO119 :: hO120 :: hO121 :: hO122 :: hO123 :: hO124 :: hO125 :: hO126 :: hO127 :: hO128 :: hO129 :: hO130 :: hO131 :: hO132 :: hO133 :: hO134 :: hO135 :: hO136 :: hO137 :: hO138 :: hO139 :: hO140 :: hO141 :: hO142 :: hO143 :: hO144 :: hO145 :: hO146 :: hO147 :: hO148 :: hO149 :: hO150 :: hO151 :: hO152 :: hO153 :: hO154 P :: hO155 :: hO156 :: hO157 :: hO158 :: hO159 :: hO160 :: hO161 :: hO162 :: hO163 :: hO164 :: hO165 :: hO166 :: hO167 :: hO168 :: hO169 :: hO170 :: hO171 :: hO172 :: hO173 :: hO174 :: hO175 :: hO176 :: hO177 :: hO178 :: hO179 :: hO180 :: hO181 :: hO182 :: hO183 :: hO184 :: hO185 :: hO186 :: hO187 :: hO188 :: hO189 :: hO190 :: hO191 :: hO192 :: hO193 :: hO194 :: hO195 :: hO196 :: hO197 :: hO198 :: hO199 :: hO200 :: hO201 :: hO202 :: hO203 :: hO204 :: hO205 :: hO206 :: hO207 :: hO208 :: hO209 :: hO210 :: hO211 :: hO212 :: hO213 :: hO214 :: hO215 :: hO216 :: hO217 :: hO218 :: hO219 :: hO220 :: hO221 :: hO222 :: hO223 :: hO224 :: hO225 :: hO226 :: hO227 :: hO228 :: hO229 :: hO230 :: hO231 :: hO232 :: hO233 :: hO234 :: hO235 :: hO236 :: hO237 :: hO238 :: hO239 :: hO240 :: hO241 :: hO242 :: hO243 :: hO244 P :: hO245 :: hO246 :: hO247 :: hO248 :: hO249 :: hO250 :: hO251 :: hO252 :: hO253 :: hO254 :: hO255 :: hO256 :: hO257 :: hO258 :: hO259 :: hO260 :: hO261 :: hO262 :: hO263 :: hO264 :: hO265 :: hO266 :: hO267 :: hO268 :: hO269 :: hO270 :: hO271 :: hO272 :: hO273 :: hO274 :: hO275 :: hO276 :: hO277 :: hO278 :: hO279 :: hO280 :: hO281 :: hO282 :: hO283 :: hO284 :: hO285 :: hO286 :: hO287 :: hO288 :: hO289 :: hO290 :: hO291 :: hO292 :: hO293 :: hO294 :: hO295 :: hO296 :: hO297 :: hO298 :: hO299 :: hO300 :: hO301 :: hO302 :: hO303 :: hO304 :: hO305 :: hO306 :: hO307 :: hO308 P :: hO309 :: hO310 :: hO311 :: hO312 :: hO313 :: hO314 :: hO315 :: hO316 :: hO317 :: hO318 :: hO319 :: hO320 :: hO321 :: hO322 :: hO323 :: hO324 :: hO325 :: hO326 :: hO327 :: hO328 :: hO329 :: hO330 :: hO331 :: hO332 :: hO333 :: hO334 :: hO335 :: hO336 :: hO337 :: hO338 :: hO339 :: hO340 :: hO341 :: hO342 :: hO343 :: hO344 :: hO345 :: hO346 :: hO347 :: hO348 :: hO349 P :: hO350 :: hO351 :: hO352 :: hO353 :: hO354 :: hO355 :: hO356 :: hO357 :: hO358 :: hO359 :: hO360 :: hO361 :: hO362 :: hO363 :: hO364 :: hO365 :: hO366 :: hO367 :: hO368 :: hO369 :: hO370 :: hO371 :: hO372 :: hO373 :: hO374 :: hO375 :: hO376 :: hO377 :: hO378 :: hO379 :: hO380 :: hO381 :: hO382 :: hO383 :: hO384 :: hO385 :: hO386 :: hO387 :: hO388 :: hO389 :: hO390 :: hO391 :: hO392 :: hO393 :: hO394 :: hO395 :: hO396 :: hO397 :: hO398 :: hO399 :: hO400 :: hO401 :: hO402 :: hO403 :: hO404 :: hO405 :: hO406 :: hO407 :: hO408 :: hO409 :: hO410 :: hO411 :: hO412 :: hO413 :: hO414 :: hO415 :: hO416 :: hO417 :: hO418 :: hO419 :: hO420 :: hO421 :: hO422 :: hO423 :: hO424 :: hO425 :: hO426 :: hO427 :: hO428 :: hO429 :: hO430 :: hO431 :: hO432 :: hO433 :: hO434 :: hO435 :: hO436 :: hO437 :: hO438 :: hO439 :: hO440 :: hO441 :: hO442 :: hO443 :: hO444 :: hO445 :: hO446 :: hO447 :: hO448 :: hO449 :: hO450 :: hO451 :: []
noncomputable def hLA (P : Params) : List Obj := (((((hLF P).take 15).set 2 (PySem.W.boot_o_2 P)).set 3 (PySem.W.boot_o_3 P)).set 12 hO12v1)
noncomputable abbrev hEnv : Env := { scope := hP.main.scope, locals := mainNs, globals := mainNs, cells := [], code := .ref 13, frame := some 14 }
noncomputable abbrev qO : Code := .body (behindTheImports hP) hEnv
noncomputable abbrev hFr : List Frame := [topFrame ⟨0, 0, 0, 0⟩]
noncomputable def hL0 (P : Params) : List Obj := (((((hLF P).take 15).set 2 (PySem.W.boot_o_2 P)).set 3 (PySem.W.boot_o_3 P)).set 12 hO12v1)
noncomputable abbrev hT0 (w : World) (os : OsState) : SharedT := ⟨hBT 10 (hL0 w.params), 15, {}, ⟨[]⟩, {}, 187, os⟩
noncomputable def hL1 (P : Params) : List Obj := (((((hLF P).take 35).set 3 (hO3v1 P)).set 12 hO12v2).set 31 hO31v1)
noncomputable abbrev hT1 (w : World) (os : OsState) : SharedT := ⟨hBT 10 (hL1 w.params), 35, {}, ⟨[]⟩, {}, 218, os⟩
noncomputable def hL2 (P : Params) : List Obj := (((((hLF P).take 47).set 3 (hO3v2 P)).set 12 hO12v3).set 31 hO31v2)
noncomputable abbrev hT2 (w : World) (os : OsState) : SharedT := ⟨hBT 10 (hL2 w.params), 47, {}, ⟨[]⟩, {}, 234, os⟩
noncomputable def hL3 (P : Params) : List Obj := ((((hLF P).take 81).set 3 (hO3v3 P)).set 12 hO12v4)
noncomputable abbrev hT3 (w : World) (os : OsState) : SharedT := ⟨hBT 10 (hL3 w.params), 81, {}, ⟨[]⟩, {}, 297, os⟩
noncomputable def hL4 (P : Params) : List Obj := ((((hLF P).take 137).set 3 (hO3v4 P)).set 12 hO12v5)
noncomputable abbrev hT4 (w : World) (os : OsState) : SharedT := ⟨hBT 10 (hL4 w.params), 137, {}, ⟨[]⟩, {}, 369, os⟩
noncomputable def hL5 (P : Params) : List Obj := ((((hLF P).take 152).set 3 (hO3v5 P)).set 12 hO12v6)
noncomputable abbrev hT5 (w : World) (os : OsState) : SharedT := ⟨hBT 10 (hL5 w.params), 152, {}, ⟨[]⟩, {}, 405, os⟩
noncomputable def hL6 (P : Params) : List Obj := ((((hLF P).take 250).set 3 (hO3v6 P)).set 12 hO12v7)
noncomputable abbrev hT6 (w : World) (os : OsState) : SharedT := ⟨hBT 10 (hL6 w.params), 250, {}, ⟨[]⟩, {}, 521, os⟩
noncomputable def hL7 (P : Params) : List Obj := ((((hLF P).take 306).set 3 (hO3v7 P)).set 12 hO12v8)
noncomputable abbrev hT7 (w : World) (os : OsState) : SharedT := ⟨hBT 10 (hL7 w.params), 306, {}, ⟨[]⟩, {}, 592, os⟩
noncomputable def hL8 (P : Params) : List Obj := ((((hLF P).take 362).set 3 (hO3v8 P)).set 12 hO12v9)
noncomputable abbrev hT8 (w : World) (os : OsState) : SharedT := ⟨hBT 10 (hL8 w.params), 362, {}, ⟨[]⟩, {}, 667, os⟩
noncomputable def hL9 (P : Params) : List Obj := ((((hLF P).take 442).set 3 (hO3v9 P)).set 12 hO12v10)
noncomputable abbrev hT9 (w : World) (os : OsState) : SharedT := ⟨hBT 10 (hL9 w.params), 442, {}, ⟨[]⟩, {}, 782, os⟩
noncomputable def hL10 (P : Params) : List Obj := ((hLF P).take 452)
noncomputable abbrev hT10 (w : World) (os : OsState) : SharedT := ⟨hBT 10 (hL10 w.params), 452, {}, ⟨[]⟩, {}, 794, os⟩
noncomputable def hB0 : List Stmt := (hP.main.body.drop 0).take 2
theorem hp0 (w : World) : (fun os => segRunT treeTable hP w 11 (some (.ref 6)) 1 238 (hT0 w os) (piecesOf hB0 hEnv qO ⟨0, 0, 0, 0⟩ hFr)) = fun os => some (Flow.next, hT1 w os, qO, ⟨2, 0, 5, 30⟩) := by
  rw [PySem.W.Fast.te10110043849684766642, PySem.W.Fast.te14364793385576792824]
  kernel_rfl
noncomputable def hB1 : List Stmt := (hP.main.body.drop 2).take 1
theorem hp1 (w : World) : (fun os => segRunT treeTable hP w 11 (some (.ref 6)) 1 214 (hT1 w os) (piecesOf hB1 hEnv qO ⟨2, 0, 5, 30⟩ hFr)) = fun os => some (Flow.next, hT2 w os, qO, ⟨6, 0, 7, 8⟩) := by
  rw [PySem.W.Fast.te10110043849684766642, PySem.W.Fast.te14364793385576792824]
  kernel_rfl
noncomputable def hB2 : List Stmt := (hP.main.body.drop 3).take 9
theorem hp2 (w : World) : (fun os => segRunT treeTable hP w 11 (some (.ref 6)) 1 379 (hT2 w os) (piecesOf hB2 hEnv qO ⟨6, 0, 7, 8⟩ hFr)) = fun os => some (Flow.next, hT3 w os, qO, ⟨24, 0, 30, 44⟩) := by
  rw [PySem.W.Fast.te10110043849684766642, PySem.W.Fast.te14364793385576792824]
  kernel_rfl
noncomputable def hB3 : List Stmt := (hP.main.body.drop 12).take 3
theorem hp3 (w : World) : (fun os => segRunT treeTable hP w 11 (some (.ref 6)) 1 382 (hT3 w os) (piecesOf hB3 hEnv qO ⟨24, 0, 30, 44⟩ hFr)) = fun os => some (Flow.next, hT4 w os, qO, ⟨56, 0, 62, 65⟩) := by
  rw [PySem.W.Fast.te10110043849684766642, PySem.W.Fast.te14364793385576792824]
  kernel_rfl
noncomputable def hB4 : List Stmt := (hP.main.body.drop 15).take 6
theorem hp4 (w : World) : (fun os => segRunT treeTable hP w 11 (some (.ref 6)) 1 110 (hT4 w os) (piecesOf hB4 hEnv qO ⟨56, 0, 62, 65⟩ hFr)) = fun os => some (Flow.next, hT5 w os, qO, ⟨94, 0, 94, 7⟩) := by
  rw [PySem.W.Fast.te10110043849684766642, PySem.W.Fast.te14364793385576792824]
  kernel_rfl
noncomputable def hB5 : List Stmt := (hP.main.body.drop 21).take 1
theorem hp5 (w : World) : (fun os => segRunT treeTable hP w 11 (some (.ref 6)) 1 574 (hT5 w os) (piecesOf hB5 hEnv qO ⟨94, 0, 94, 7⟩ hFr)) = fun os => some (Flow.next, hT6 w os, qO, ⟨95, 0, 174, 21⟩) := by
  rw [PySem.W.Fast.te10110043849684766642, PySem.W.Fast.te14364793385576792824]
  kernel_rfl
noncomputable def hB6 : List Stmt := (hP.main.body.drop 22).take 11
theorem hp6 (w : World) : (fun os => segRunT treeTable hP w 11 (some (.ref 6)) 1 269 (hT6 w os) (piecesOf hB6 hEnv qO ⟨95, 0, 174, 21⟩ hFr)) = fun os => some (Flow.next, hT7 w os, qO, ⟨225, 0, 228, 48⟩) := by
  rw [PySem.W.Fast.te10110043849684766642, PySem.W.Fast.te14364793385576792824]
  kernel_rfl
noncomputable def hB7 : List Stmt := (hP.main.body.drop 33).take 2
theorem hp7 (w : World) : (fun os => segRunT treeTable hP w 11 (some (.ref 6)) 1 387 (hT7 w os) (piecesOf hB7 hEnv qO ⟨225, 0, 228, 48⟩ hFr)) = fun os => some (Flow.next, hT8 w os, qO, ⟨262, 0, 266, 32⟩) := by
  rw [PySem.W.Fast.te10110043849684766642, PySem.W.Fast.te14364793385576792824]
  kernel_rfl
noncomputable def hB8 : List Stmt := (hP.main.body.drop 35).take 13
theorem hp8 (w : World) : (fun os => segRunT treeTable hP w 11 (some (.ref 6)) 1 383 (hT8 w os) (piecesOf hB8 hEnv qO ⟨262, 0, 266, 32⟩ hFr)) = fun os => some (Flow.next, hT9 w os, qO, ⟨331, 0, 338, 84⟩) := by
  rw [PySem.W.Fast.te10110043849684766642, PySem.W.Fast.te14364793385576792824]
  kernel_rfl
noncomputable def hB9 : List Stmt := (hP.main.body.drop 48).take 2
theorem hp9 (w : World) : (fun os => segRunT treeTable hP w 11 (some (.ref 6)) 1 53 (hT9 w os) (piecesOf hB9 hEnv qO ⟨331, 0, 338, 84⟩ hFr)) = fun os => some (Flow.next, hT10 w os, qO, ⟨351, 0, 362, 92⟩) := by
  rw [PySem.W.Fast.te10110043849684766642, PySem.W.Fast.te14364793385576792824]
  kernel_rfl
noncomputable def KK (P : Params) : Frag := (nat_lit 2, hO2 P) :: (nat_lit 3, hO3 P) :: (nat_lit 15, hO15) :: (nat_lit 22, hO22) :: (nat_lit 24, hO24) :: (nat_lit 25, hO25) :: (nat_lit 27, hO27) :: (nat_lit 28, hO28) :: (nat_lit 29, hO29) :: (nat_lit 30, hO30 P) :: (nat_lit 31, hO31) :: (nat_lit 32, hO32) :: (nat_lit 35, hO35) :: (nat_lit 42, hO42) :: (nat_lit 43, hO43 P) :: (nat_lit 44, hO44) :: (nat_lit 47, hO47) :: (nat_lit 54, hO54) :: (nat_lit 56, hO56) :: (nat_lit 57, hO57) :: (nat_lit 59, hO59) :: (nat_lit 60, hO60) :: (nat_lit 61, hO61) :: (nat_lit 62, hO62 P) :: (nat_lit 63, hO63) :: (nat_lit 66, hO66) :: (nat_lit 68, hO68) :: (nat_lit 69, hO69) :: (nat_lit 71, hO71) :: (nat_lit 72, hO72) :: (nat_lit 73, hO73) :: (nat_lit 74, hO74) :: (nat_lit 76, hO76) :: (nat_lit 77, hO77) :: (nat_lit 79, hO79) :: (nat_lit 80, hO80) :: (nat_lit 88, hO88) :: (nat_lit 90, hO90) :: (nat_lit 91, hO91) :: (nat_lit 93, hO93) :: (nat_lit 94, hO94) :: (nat_lit 95, hO95) :: (nat_lit 97, hO97) :: (nat_lit 98, hO98) :: (nat_lit 100, hO100) :: (nat_lit 101, hO101) :: (nat_lit 102, hO102) :: (nat_lit 104, hO104) :: (nat_lit 105, hO105) :: (nat_lit 107, hO107) :: (nat_lit 108, hO108) :: (nat_lit 109, hO109) :: (nat_lit 111, hO111) :: (nat_lit 112, hO112) :: (nat_lit 114, hO114) :: (nat_lit 115, hO115) :: (nat_lit 116, hO116) :: (nat_lit 117, hO117 P) :: (nat_lit 118, hO118) :: (nat_lit 119, hO119) :: (nat_lit 120, hO120) :: (nat_lit 123, hO123) :: (nat_lit 125, hO125) :: (nat_lit 126, hO126) :: (nat_lit 128, hO128) :: (nat_lit 129, hO129) :: (nat_lit 130, hO130) :: (nat_lit 132, hO132) :: (nat_lit 133, hO133) :: (nat_lit 135, hO135) :: (nat_lit 136, hO136) :: (nat_lit 137, hO137) :: (nat_lit 139, hO139) :: (nat_lit 140, hO140) :: (nat_lit 142, hO142) :: (nat_lit 143, hO143) :: (nat_lit 144, hO144) :: (nat_lit 145, hO145) :: (nat_lit 147, hO147) :: (nat_lit 148, hO148) :: (nat_lit 150, hO150) :: (nat_lit 151, hO151) :: (nat_lit 159, hO159) :: (nat_lit 161, hO161) :: (nat_lit 162, hO162) :: (nat_lit 164, hO164) :: (nat_lit 165, hO165) :: (nat_lit 166, hO166) :: (nat_lit 168, hO168) :: (nat_lit 169, hO169) :: (nat_lit 171, hO171) :: (nat_lit 172, hO172) :: (nat_lit 173, hO173) :: (nat_lit 175, hO175) :: (nat_lit 176, hO176) :: (nat_lit 178, hO178) :: (nat_lit 179, hO179) :: (nat_lit 180, hO180) :: (nat_lit 182, hO182) :: (nat_lit 183, hO183) :: (nat_lit 185, hO185) :: (nat_lit 186, hO186) :: (nat_lit 187, hO187) :: (nat_lit 189, hO189) :: (nat_lit 190, hO190) :: (nat_lit 192, hO192) :: (nat_lit 193, hO193) :: (nat_lit 194, hO194) :: (nat_lit 196, hO196) :: (nat_lit 197, hO197) :: (nat_lit 199, hO199) :: (nat_lit 200, hO200) :: (nat_lit 201, hO201) :: (nat_lit 203, hO203) :: (nat_lit 204, hO204) :: (nat_lit 206, hO206) :: (nat_lit 207, hO207) :: (nat_lit 208, hO208) :: (nat_lit 210, hO210) :: (nat_lit 211, hO211) :: (nat_lit 213, hO213) :: (nat_lit 214, hO214) :: (nat_lit 215, hO215) :: (nat_lit 217, hO217) :: (nat_lit 218, hO218) :: (nat_lit 220, hO220) :: (nat_lit 221, hO221) :: (nat_lit 222, hO222) :: (nat_lit 224, hO224) :: (nat_lit 225, hO225) :: (nat_lit 227, hO227) :: (nat_lit 228, hO228) :: (nat_lit 229, hO229) :: (nat_lit 231, hO231) :: (nat_lit 232, hO232) :: (nat_lit 234, hO234) :: (nat_lit 235, hO235) :: (nat_lit 236, hO236) :: (nat_lit 238, hO238) :: (nat_lit 239, hO239) :: (nat_lit 241, hO241) :: (nat_lit 242, hO242) :: (nat_lit 243, hO243) :: (nat_lit 244, hO244 P) :: (nat_lit 245, hO245) :: (nat_lit 246, hO246) :: (nat_lit 247, hO247) :: (nat_lit 250, hO250) :: (nat_lit 252, hO252) :: (nat_lit 253, hO253) :: (nat_lit 255, hO255) :: (nat_lit 256, hO256) :: (nat_lit 257, hO257) :: (nat_lit 259, hO259) :: (nat_lit 260, hO260) :: (nat_lit 262, hO262) :: (nat_lit 263, hO263) :: (nat_lit 264, hO264) :: (nat_lit 266, hO266) :: (nat_lit 267, hO267) :: (nat_lit 269, hO269) :: (nat_lit 270, hO270) :: (nat_lit 271, hO271) :: (nat_lit 273, hO273) :: (nat_lit 274, hO274) :: (nat_lit 276, hO276) :: (nat_lit 277, hO277) :: (nat_lit 278, hO278) :: (nat_lit 280, hO280) :: (nat_lit 281, hO281) :: (nat_lit 283, hO283) :: (nat_lit 284, hO284) :: (nat_lit 285, hO285) :: (nat_lit 287, hO287) :: (nat_lit 288, hO288) :: (nat_lit 290, hO290) :: (nat_lit 291, hO291) :: (nat_lit 292, hO292) :: (nat_lit 294, hO294) :: (nat_lit 295, hO295) :: (nat_lit 297, hO297) :: (nat_lit 298, hO298) :: (nat_lit 299, hO299) :: (nat_lit 301, hO301) :: (nat_lit 302, hO302) :: (nat_lit 304, hO304) :: (nat_lit 305, hO305) :: (nat_lit 313, hO313) :: (nat_lit 315, hO315) :: (nat_lit 316, hO316) :: (nat_lit 318, hO318) :: (nat_lit 319, hO319) :: (nat_lit 320, hO320) :: (nat_lit 322, hO322) :: (nat_lit 323, hO323) :: (nat_lit 325, hO325) :: (nat_lit 326, hO326) :: (nat_lit 327, hO327) :: (nat_lit 329, hO329) :: (nat_lit 330, hO330) :: (nat_lit 332, hO332) :: (nat_lit 333, hO333) :: (nat_lit 334, hO334) :: (nat_lit 336, hO336) :: (nat_lit 337, hO337) :: (nat_lit 339, hO339) :: (nat_lit 340, hO340) :: (nat_lit 341, hO341) :: (nat_lit 343, hO343) :: (nat_lit 344, hO344) :: (nat_lit 346, hO346) :: (nat_lit 347, hO347) :: (nat_lit 348, hO348) :: (nat_lit 349, hO349 P) :: (nat_lit 350, hO350) :: (nat_lit 351, hO351) :: (nat_lit 352, hO352) :: (nat_lit 355, hO355) :: (nat_lit 357, hO357) :: (nat_lit 358, hO358) :: (nat_lit 360, hO360) :: (nat_lit 361, hO361) :: (nat_lit 362, hO362) :: (nat_lit 364, hO364) :: (nat_lit 365, hO365) :: (nat_lit 367, hO367) :: (nat_lit 368, hO368) :: (nat_lit 369, hO369) :: (nat_lit 371, hO371) :: (nat_lit 372, hO372) :: (nat_lit 374, hO374) :: (nat_lit 375, hO375) :: (nat_lit 376, hO376) :: (nat_lit 379, hO379) :: (nat_lit 380, hO380) :: (nat_lit 381, hO381) :: (nat_lit 383, hO383) :: (nat_lit 384, hO384) :: (nat_lit 386, hO386) :: (nat_lit 387, hO387) :: (nat_lit 388, hO388) :: (nat_lit 390, hO390) :: (nat_lit 391, hO391) :: (nat_lit 393, hO393) :: (nat_lit 394, hO394) :: (nat_lit 395, hO395) :: (nat_lit 397, hO397) :: (nat_lit 398, hO398) :: (nat_lit 400, hO400) :: (nat_lit 401, hO401) :: (nat_lit 402, hO402) :: (nat_lit 404, hO404) :: (nat_lit 405, hO405) :: (nat_lit 407, hO407) :: (nat_lit 408, hO408) :: (nat_lit 409, hO409) :: (nat_lit 411, hO411) :: (nat_lit 412, hO412) :: (nat_lit 414, hO414) :: (nat_lit 415, hO415) :: (nat_lit 416, hO416) :: (nat_lit 418, hO418) :: (nat_lit 419, hO419) :: (nat_lit 421, hO421) :: (nat_lit 422, hO422) :: (nat_lit 423, hO423) :: (nat_lit 425, hO425) :: (nat_lit 426, hO426) :: (nat_lit 428, hO428) :: (nat_lit 429, hO429) :: (nat_lit 430, hO430) :: (nat_lit 432, hO432) :: (nat_lit 433, hO433) :: (nat_lit 435, hO435) :: (nat_lit 436, hO436) :: (nat_lit 437, hO437) :: (nat_lit 440, hO440) :: (nat_lit 441, hO441) :: (nat_lit 442, hO442) :: (nat_lit 445, hO445) :: (nat_lit 446, hO446) :: (nat_lit 447, hO447) :: (nat_lit 450, hO450) :: (nat_lit 451, hO451) :: []
noncomputable abbrev hH (P : Params) : Heap := ⟨⟨hLF P⟩, {}⟩
noncomputable abbrev hZ (w : World) (os : OsState) : Shared := ⟨PySem.W.boot_heap w.params, ⟨[]⟩, PySem.W.boot_drawn, PySem.W.boot_toks, os⟩
noncomputable abbrev hA (w : World) (os : OsState) : Shared := ⟨⟨⟨hLA w.params⟩, {}⟩, ⟨[]⟩, {}, 187, os⟩
noncomputable abbrev hU (w : World) (os : OsState) : Shared := ⟨hH w.params, ⟨[]⟩, {}, 794, os⟩
theorem hpre (w : World) : (fun os => topGo treeTable hP w 11 (some (.ref 6)) 12 (hZ w os) (topStub hP)) = fun os => some (hA w os, ⟨denote treeTable qO, qO, ⟨0, 0, 0, 0⟩, hFr⟩) := by
  rw [PySem.W.Fast.te15667345088766844465, PySem.W.Fast.te11892475500146522536, PySem.W.Fast.te14364793385576792824]
  kernel_rfl
theorem hblk (w : World) : (fun os => segRun treeTable hP w 11 (some (.ref 6)) 1 1 (hA w os) (blockOf (behindTheImports hP) hEnv qO ⟨0, 0, 0, 0⟩ hFr)) = fun os => some (Flow.next, (hT0 w os).abs, qO, ⟨0, 0, 0, 0⟩) := by
  rw [PySem.W.Fast.te14374325043358763698, PySem.W.Fast.te14364793385576792824]
  kernel_rfl
theorem hfin (w : World) : (fun os => topRun treeTable hP w 11 (some (.ref 6)) 2 ((hT10 w os).abs) ⟨doneF .next, qO, ⟨351, 0, 362, 92⟩, hFr⟩) = fun os => some (hU w os) := by
  rw [PySem.W.Fast.te14082659384304107361, PySem.W.Fast.te14364793385576792824]
  kernel_rfl
theorem hbody : behindTheImports hP = hB0 ++ (hB1 ++ (hB2 ++ (hB3 ++ (hB4 ++ (hB5 ++ (hB6 ++ (hB7 ++ (hB8 ++ (hB9 ++ []))))))))) := by kernel_rfl
theorem hrun (w : World) (os : OsState) : topRun treeTable hP w 11 (some (.ref 6)) (12 + (1 + (238 + (214 + (379 + (382 + (110 + (574 + (269 + (387 + (383 + (53 + (2))))))))))))) (hZ w os) (topStub hP) = some (hU w os) := by
  refine go_top (congrFun (hpre w) os) (piece_block (congrFun (hblk w) os) ?_)
  have h := piece_app (segRun_of (congrFun (hp0 w) os)) (piece_app (segRun_of (congrFun (hp1 w) os)) (piece_app (segRun_of (congrFun (hp2 w) os)) (piece_app (segRun_of (congrFun (hp3 w) os)) (piece_app (segRun_of (congrFun (hp4 w) os)) (piece_app (segRun_of (congrFun (hp5 w) os)) (piece_app (segRun_of (congrFun (hp6 w) os)) (piece_app (segRun_of (congrFun (hp7 w) os)) (piece_app (segRun_of (congrFun (hp8 w) os)) (piece_app (segRun_of (congrFun (hp9 w) os)) (piece_nil (congrFun (hfin w) os)))))))))))
  rw [← hbody] at h
  exact h
end
noncomputable def hQ : Program := { hP with main := { hP.main with body := [st 49] } }
noncomputable def hLo : List Str := "MillError" :: "NumberFault" :: "PathFault" :: "DIGITS_exact" :: "MOST_EXPONENT" :: "MOST_FIGURES" :: "MOST_VALUE" :: "MOST_WRITTEN" :: "common_divisor" :: "fraction" :: "NumberText" :: "whole_of" :: "read_exponent" :: "read_decimal" :: "write_decimal" :: "BLANKS" :: "DIGITS_path_words" :: "LETTERS" :: "PathScanner" :: "many_of" :: "letter_behind" :: "read_group" :: "goes_on" :: "read_into" :: "read_commands" :: "PLACES" :: "short" :: "wants_blank" :: "PathWriter" :: "write_path" :: "numbers_of" :: "command_of" :: "write_segments" :: "_law_pool" :: "_law_take" :: "_law_one" :: "_law_number" :: "_law_command" :: "_law_told" :: "_law_text" :: "_law_read" :: "_law_segment" :: "_law_written_right" :: []
noncomputable def hAs : List Addr := [2, 3, 15, 22, 24, 25, 27, 28, 29, 30, 31, 32, 35, 42, 43, 44, 47, 54, 56, 57, 59, 60, 61, 62, 63, 66, 68, 69, 71, 72, 73, 74, 76, 77, 79, 80, 88, 90, 91, 93, 94, 95, 97, 98, 100, 101, 102, 104, 105, 107, 108, 109, 111, 112, 114, 115, 116, 117, 118, 119, 120, 123, 125, 126, 128, 129, 130, 132, 133, 135, 136, 137, 139, 140, 142, 143, 144, 145, 147, 148, 150, 151, 159, 161, 162, 164, 165, 166, 168, 169, 171, 172, 173, 175, 176, 178, 179, 180, 182, 183, 185, 186, 187, 189, 190, 192, 193, 194, 196, 197, 199, 200, 201, 203, 204, 206, 207, 208, 210, 211, 213, 214, 215, 217, 218, 220, 221, 222, 224, 225, 227, 228, 229, 231, 232, 234, 235, 236, 238, 239, 241, 242, 243, 244, 245, 246, 247, 250, 252, 253, 255, 256, 257, 259, 260, 262, 263, 264, 266, 267, 269, 270, 271, 273, 274, 276, 277, 278, 280, 281, 283, 284, 285, 287, 288, 290, 291, 292, 294, 295, 297, 298, 299, 301, 302, 304, 305, 313, 315, 316, 318, 319, 320, 322, 323, 325, 326, 327, 329, 330, 332, 333, 334, 336, 337, 339, 340, 341, 343, 344, 346, 347, 348, 349, 350, 351, 352, 355, 357, 358, 360, 361, 362, 364, 365, 367, 368, 369, 371, 372, 374, 375, 376, 379, 380, 381, 383, 384, 386, 387, 388, 390, 391, 393, 394, 395, 397, 398, 400, 401, 402, 404, 405, 407, 408, 409, 411, 412, 414, 415, 416, 418, 419, 421, 422, 423, 425, 426, 428, 429, 430, 432, 433, 435, 436, 437, 440, 441, 442, 445, 446, 447, 450, 451]
noncomputable abbrev hHk : Hook := kHook KK hAs (fun P => by kernel_rfl)
noncomputable abbrev hR : RowW := PySem.Challenge.rw_xm0693_01.row.toRowW
section
variable (w : World) (os : OsState)
theorem ha1 : (staticsOk (importedModules hP.main.body) (PySem.W.boot_heap w.params) (hH w.params) && namesBound hP (hH w.params) && gensDone (hU w os) && laidKept (PySem.W.boot_heap w.params) (hH w.params)) = true := by
  rw [PySem.W.Fast.te5923862056798008813]
  kernel_rfl
theorem ha2 : PyProof.Rows.seen ((recsOf hQ).map (·.name)) (ownsOf hQ) [] { hU w os with gens := #[] } = expectedOf hQ := by
  kernel_rfl
theorem ha3 : (hU w os).heap.bltView = bltViewBooted := by kernel_rfl
theorem ha4 : ((hU w os).heap.keysOk (looseW hQ hLo) ((recsOf hQ).map (·.name)) ((litsOf hQ).map (·.1)) ((clssOf hQ (looseW hQ hLo)).map (·.name)) && (hU w os).heap.accountedOkI (importedModules hP.main.body) && (hU w os).heap.isNs mainGlobals && (hU w os).heap.isNs builtinsNs && tablesOk hQ (hU w os).heap && (xlAt hQ [] (hU w os) && recOk (RowW.records hR) (hU w os)) && (if true then (hU w os).gens.size == 0 else !leftWithCleanup (hU w os).gens)) = true := by
  rw [PySem.W.Fast.te5923862056798008813, PySem.W.Fast.te10994771534591457954]
  kernel_rfl
theorem ha5 : tabsOk hQ (hU w os) = true := by
  rw [PySem.W.Fast.te479339242167458305]
  kernel_rfl
theorem ha6 : pinSeenD hQ (drecsOf hQ) (hU w os) = pinGoodD (drecsOf hQ) := by
  rw [PySem.W.Fast.te16090120013241838585, PySem.W.Fast.te3247288618530077131]
  kernel_rfl
theorem ha7 : plainSeenE hQ (looseW hQ hLo) (hU w os) = plainGoodE hQ (looseW hQ hLo) := by
  rw [PySem.W.Fast.te2386780881361962483, PySem.W.Fast.te821141287760084731]
  kernel_rfl
theorem ha8 : plainSeenD hQ hLo (hU w os) = plainGoodD hQ hLo := by
  rw [PySem.W.Fast.te11698064438423848299]
  kernel_rfl
theorem ha9 : wideSeen hQ (hU w os) = wideGood hQ := by
  rw [PySem.W.Fast.te7317090234206586261]
  kernel_rfl
theorem ha10 : clsSeenW hQ hLo (hU w os) = clsGoodW hQ hLo := by
  rw [PySem.W.Fast.te7369524293546568484]
  kernel_rfl
theorem ha11 : Hook.obs hHk (hU w os) = Hook.val hHk w := by kernel_rfl
end
theorem hsaid : PySem.Challenge.rw_xm0693_01.wellSaid = true := by kernel_rfl
theorem hfill : PySem.Challenge.rw_xm0693_01 = PySem.Challenge.rw_xm0693_01 ∧ KK = KK := by
  k_fill
  exact ⟨rfl, rfl⟩
theorem hopen : ∀ w : World, (fencedOpening treeTable hP w 6084).map (fun s => (s.heap, s.gens, s.drawn, s.toks)) = some (PySem.W.boot_heap w.params, ⟨[]⟩, PySem.W.boot_drawn, PySem.W.boot_toks) :=
  boot_open (by kernel_rfl) (by kernel_rfl) (fun s => by kernel_rfl)
theorem hsize (w : World) : ((PySem.W.boot_heap w.params).isNs mainGlobals && (⟨[]⟩ : Array GenState).size == 0, (PySem.W.boot_heap w.params).objs.size, (PySem.W.boot_heap w.params).nsMap mainGlobals "__annotations__") = (true, 11, some (.ref 6)) := by
  rw [PySem.W.Fast.te8920871248978507458]
  kernel_rfl
theorem hleft : LeftO hP hQ hLo (fun s => xlAt hQ [] s && recOk (RowW.records hR) s) (Hook.obs hHk) (Hook.val hHk) 6084 :=
  LeftO.of_pieces (H₁ := hH) hopen hsize hrun (by kernel_rfl) fun w => funext fun os =>
    looks_pair (ha1 w os) (looks_pair (looks_pair (ha2 w os) (looks_pair (ha3 w os) (looks_pair (ha4 w os) (looks_pair (ha5 w os) (looks_pair (ha6 w os) (looks_pair (ha7 w os) (looks_pair (ha8 w os) (looks_pair (ha9 w os) (ha10 w os))))))))) (ha11 w os))
set_option genSizeOf false
set_option genSizeOfSpec false
set_option genInjectivity false in
structure Gl where
  prog : Program
  w : World
  K : Frag
  p : Program
  loose : List Str
  mean : ExcName → Option Value
  mg : Str → Option Value
  mb : Str → Option Value
  srcA : Addr
  srcV : List Value
inductive MObj where
  | list (vs : List Value)
  | inst (C d : Addr)
  | dict (fs : List (Str × Value))
  | any (o : Obj)
noncomputable def kT (vs : List Value) : Obj := { cls := .type "tuple", data := .seq vs.toArray }
noncomputable def EntRep (f : Str × Value) (e : DictEntry) : Prop := e.val = f.2 ∧ ∃ t, e.key = .str f.1 t
inductive EntsRep : List (Str × Value) → List DictEntry → Prop
  | nil : EntsRep [] []
  | cons {f e fs es} : EntRep f e → EntsRep fs es → EntsRep (f :: fs) (e :: es)
noncomputable def RepM : MObj → Obj → Prop
  | .list vs, o => ∃ n, o = listOf vs.toArray n
  | .inst C d, o => o = instObj C d
  | .dict fs, o => ∃ es n, o = dictOf es n ∧ EntsRep fs es
  | .any o', o => o = o' ∧ o.cls ≠ .type "tuple"
structure AH where
  I : Addr → Option (List Value)
  M : Addr → Option MObj
noncomputable def PinOk (o : Obj) : Prop := o.cls ≠ .type "tuple" ∨ (∃ es ep, o.data = .dict es ep) ∨ ∃ v, o.data = .cell v
namespace AH
noncomputable def setM (H : AH) (a : Addr) (o : MObj) : AH := ⟨H.I, fun b => if b = a then some o else H.M b⟩
noncomputable def setI (H : AH) (a : Addr) (vs : List Value) : AH := ⟨fun b => if b = a then some vs else H.I b, H.M⟩
noncomputable def Le (H H' : AH) : Prop := (∀ a vs, H.I a = some vs → H'.I a = some vs) ∧ (∀ a mo, H.M a = some mo → H'.M a = some mo)
noncomputable def free (H : AH) (a : Addr) : Prop := H.I a = none ∧ H.M a = none
structure In (H : AH) (pin : List (Addr × Obj)) (news : List (Addr × Obj)) : Prop where
  tup : ∀ a vs, H.I a = some vs → (a, kT vs) ∈ news
  obs : ∀ a mo, H.M a = some mo → ∃ o, RepM mo o ∧ (a, o) ∈ news
  pins : ∀ q ∈ pin, q ∈ news ∧ PinOk q.2 ∧ H.free q.1
noncomputable def empty : AH := ⟨fun _ => none, fun _ => none⟩
theorem Le.refl (H : AH) : Le H H := ⟨fun _ _ h => h, fun _ _ h => h⟩
theorem Le.trans {H H₁ H₂ : AH} (x : Le H H₁) (y : Le H₁ H₂) : Le H H₂ := ⟨fun a v h => y.1 a v (x.1 a v h), fun a v h => y.2 a v (x.2 a v h)⟩
theorem free.le {H H' : AH} {a : Addr} (x : free H' a) (y : Le H H') : free H a := by
  constructor
  · cases q : H.I a with
    | none => rfl
    | some v => have := y.1 a v q; rw [x.1] at this; cases this
  · cases q : H.M a with
    | none => rfl
    | some v => have := y.2 a v q; rw [x.2] at this; cases this
theorem In.le {H H' : AH} {pin news : List (Addr × Obj)} (x : In H' pin news) (y : Le H H') : In H pin news := ⟨fun a v h => x.tup a v (y.1 a v h), fun a v h => x.obs a v (y.2 a v h), fun q h => ⟨(x.pins q h).1, (x.pins q h).2.1, (x.pins q h).2.2.le y⟩⟩
end AH
noncomputable def Led (pin : List (Addr × Obj)) (g : Heap) (L : Addr) (h : Heap) (H : AH) : Prop := ∃ news, News g L h news ∧ H.In pin news
noncomputable def uO (ns : List Str) (l : List (Option Value)) (m : Str → Option Value) : Prop :=
  l.length = ns.length ∧ ∀ (i : Nat) (x : Str), ns[i]? = some x → m x = (l[i]?).join
set_option genInjectivity false in
structure Fx where
  A₀ : Around
  base : Heap
  outer : List Env
  g₀ : Heap
  s₀ : Shared
  cn : Str
  cs : Scope
  L : Addr
  a : Addr
  ccd : Value
  ns : List Str
  pin : List (Addr × Obj)
noncomputable def Fx.env (c : Fx) : Env := envOf c.cn c.cs c.L c.a c.ccd
noncomputable def Fx.A (c : Fx) : Around := c.A₀.deeper c.env
noncomputable def Fx.fs (c : Fx) : List Addr := c.outer.filterMap (·.frame)
structure Fx.Ok (c : Fx) : Prop where
  kind : c.cs.kind = .function
  nd : c.ns.Nodup
  loc : ∀ x ∈ c.ns, c.cs.names.lookup x = some .local
structure Same (s s' : Shared) : Prop where
  gens : s'.gens = s.gens
  drawn : s'.drawn = s.drawn
  os : s'.os = s.os
theorem Same.refl (s : Shared) : Same s s := ⟨rfl, rfl, rfl⟩
theorem Same.trans {s s₁ s₂ : Shared} (x : Same s s₁) (y : Same s₁ s₂) : Same s s₂ := ⟨y.gens.trans x.gens, y.drawn.trans x.drawn, y.os.trans x.os⟩
structure XBs (G : Gl) (base : Heap) : Prop where
  X : G.K.In base
  src : base.IsList G.srcA G.srcV.toArray
structure FS (G : Gl) (c : Fx) (g : Heap) (s : Shared) (l : List (Option Value)) (H : AH) : Prop where
  B : Below c.A₀ c.base c.outer g
  F : ∃ m, Fr g c.L s.heap m ∧ uO c.ns l m
  XB : XBs G c.base
  TB : Top G.p G.loose G.mean G.mg G.mb c.base
  D : KtsDicts c.fs g
  T0 : KtsTurn c.fs c.g₀ g
  led : Led c.pin g c.L s.heap H
  same : Same c.s₀ s
theorem FS.opn {G : Gl} {c : Fx} {g : Heap} {s : Shared} {l : List (Option Value)} {H : AH} (S : FS G c g s l H) {P : Prop} (k : ∀ m news, Fr g c.L s.heap m → uO c.ns l m → News g c.L s.heap news → H.In c.pin news → P) : P :=
  let ⟨m, F, r⟩ := S.F; let ⟨news, N, i⟩ := S.led; k m news F r N i
theorem FS.X {G : Gl} {c : Fx} {g : Heap} {s : Shared} {l : List (Option Value)} {H : AH} (S : FS G c g s l H) : G.K.In g := S.XB.X.keeps S.B.stays
theorem FS.T {G : Gl} {c : Fx} {g : Heap} {s : Shared} {l : List (Option Value)} {H : AH} (S : FS G c g s l H) : Top G.p G.loose G.mean G.mg G.mb g := S.TB.keeps S.B.stays
theorem turn_lt {i n : Nat} (h : i < n) : n + 1 - (i + 1) < n + 1 - i := by
  rw [Nat.add_sub_add_right, Nat.succ_sub (Nat.le_of_lt h)]; exact Nat.lt_succ_self _
theorem fC {M : Model} {A : Around} {α : Type} {x : Sem α} {R : α → Shared → Prop} {E : Value → Shared → Prop} {s : Shared} (h : ∀ R' E', (∀ v s', R v s' → R' v s') → (∀ e s', E e s' → E' e s') → wpAny M A x R' E' s) : wpAny M A x R E s := h R E (fun _ _ y => y) fun _ _ y => y
structure Tri (G : Gl) (A : Around) (c : Fx) {α : Type} (t : Sem α) (l : List (Option Value)) (H : AH) (Q : α → List (Option Value) → AH → Prop) (E : Value → Shared → Prop) : Prop where
  go : ∀ g s, FS G c g s l H → wpAny (model G.prog G.w) A t (fun v s' => ∃ g' l' H', FS G c g' s' l' H' ∧ Q v l' H') E s
section
variable {G : Gl} {A : Around} {c : Fx} {α β : Type} {l : List (Option Value)} {H : AH} {E : Value → Shared → Prop}
theorem tri_pure {a : α} {Q : α → List (Option Value) → AH → Prop} (h : Q a l H) : Tri G A c (pure a) l H Q E := ⟨fun g _ S => wpAny_pure ⟨g, l, H, S, h⟩⟩
theorem tri_mono {t : Sem α} {Q Q' : α → List (Option Value) → AH → Prop} (h : Tri G A c t l H Q E) (k : ∀ v l' H', Q v l' H' → Q' v l' H') : Tri G A c t l H Q' E :=
  ⟨fun g s S => wpAny_mono (h.go g s S) (fun v _ ⟨g', l', H', S', q⟩ => ⟨g', l', H', S', k v l' H' q⟩) fun _ _ x => x⟩
theorem FS.heap_eq {g : Heap} {s s' : Shared} (S : FS G c g s l H) (e : s'.heap = s.heap) (k : Same s s') : FS G c g s' l H :=
  ⟨S.B, by rw [e]; exact S.F, S.XB, S.TB, S.D, S.T0, by rw [e]; exact S.led, S.same.trans k⟩
theorem FS.toks {g : Heap} {s : Shared} (S : FS G c g s l H) (n : Nat) : FS G c g { s with toks := n } l H := S.heap_eq rfl ⟨rfl, rfl, rfl⟩
theorem FS.le {g : Heap} {s : Shared} {H' : AH} (S : FS G c g s l H) (k : AH.Le H' H) : FS G c g s l H' :=
  ⟨S.B, S.F, S.XB, S.TB, S.D, S.T0, let ⟨n, N, i⟩ := S.led; ⟨n, N, i.le k⟩, S.same⟩
end
section
set_option genSizeOf false
set_option genSizeOfSpec false
set_option genInjectivity false
inductive BF where
  | len | int | str | abs | max | min | range | enumerate | tuple
noncomputable def BF.name : BF → Str
  | .len => "len" | .int => "int" | .str => "str" | .abs => "abs" | .max => "max" | .min => "min" | .range => "range" | .enumerate => "enumerate" | .tuple => "tuple"
noncomputable def BF.val : BF → Value
  | .len => .builtin "len" | .int => .type "int" | .str => .type "str" | .abs => .builtin "abs" | .max => .builtin "max" | .min => .builtin "min" | .range => .type "range" | .enumerate => .type "enumerate" | .tuple => .type "tuple"
inductive BM where
  | append | upper | join | index | rstrip
noncomputable def BM.name : BM → Str
  | .append => "append" | .upper => "upper" | .join => "join" | .index => "index" | .rstrip => "rstrip"
inductive RE where
  | cst (c : Const)
  | loc (i : Nat)
  | glb (v : Value)
  | attr (C : Addr) (e : RE) (f : Str)
  | call (f : Addr) (as : List RE)
  | new (C f : Addr) (as : List RE)
  | bcall (b : BF) (as : List RE)
  | meth (C f : Addr) (o : RE) (nm : Str) (as : List RE)
  | bmeth (b : BM) (o : RE) (as : List RE)
  | bin (op : Operator) (a b : RE)
  | neg (a : RE)
  | not (a : RE)
  | and (e : RE) (es : List RE)
  | or (e : RE) (es : List RE)
  | cmp (op : CmpOp) (a b : RE)
  | cmp2 (op op' : CmpOp) (a b d : RE)
  | ite (t a b : RE)
  | sub (e i : RE)
  | slc (e lo hi : RE)
  | tup (es : List RE)
  | lst (es : List RE)
  | dsub (ks : List Str) (vs : List Const) (i : RE)
  | dget (ks : List Str) (vs : List Const) (i : Nat)
  | slen (i : Nat)
  | sitem (i : Nat) (k : RE)
  | cmap (f : Addr) (i : Nat)
inductive RSrc where
  | range (e : RE)
  | seq (e : RE)
  | enum (e : RE)
inductive RS where
  | asg (i : Nat) (e : RE)
  | asgA (C : Addr) (o : RE) (f : Str) (e : RE)
  | asgI (o i e : RE)
  | asgT (is : List Nat) (e : RE)
  | asgS (is : List Nat) (e : RE)
  | aug (C : Addr) (o : RE) (f : Str) (e : RE)
  | exp (e : RE)
  | ite (t : RE) (b o : List RS)
  | whl (t : RE) (b : List RS)
  | for_ (is : List Nat) (src : RSrc) (b : List RS)
  | ret (e : RE)
  | tryN (b : List RS)
  | asgC (i j : Nat)
  | raise
end
set_option genSizeOf false
set_option genSizeOfSpec false
noncomputable def lk (f : Str) : List (Str × Value) → Option Value
  | [] => none
  | (k, v) :: r => if k = f then some v else lk f r
noncomputable def pt (f : Str) (v : Value) : List (Str × Value) → List (Str × Value)
  | [] => [(f, v)]
  | (k, u) :: r => if k = f then (k, v) :: r else (k, u) :: pt f v r
structure Room (n : Nat) (A : Around) : Prop where
  depth : A.depth + (3 * n + 3) < recursionLimit
  units : A.units + (40 * n + 100) < cLine
  hand : A.handled = none
inductive ExC (c : Fx) (C : Addr) (X : AH → Prop) (e : Value) (s' : Shared) : Prop
  | mk (ea : _) (t : _) (vs : _) (news : _) (g : _) (Gh : _) (m : _) (l : _) (H : _) (h1 : e = .ref ea) (h2 : Same c.s₀ s') (h3 : Below c.A₀ c.base c.outer g) (h4 : Fr g c.L Gh m) (h5 : uO c.ns l m) (h6 : KtsDicts c.fs g) (h7 : KtsTurn c.fs c.g₀ g)
    (h8 : RaisedS c.base Gh (c.env :: c.outer) ea (.ref C) t vs news s'.heap) (h9 : Gh.UpToSlots s'.heap) (h10 : AH.In H c.pin news) (h11 : X H) : ExC c C X e s'
noncomputable def HeldS (base G : Heap) (l : List Env) (e : Addr) (cls : Value) (t : Addr) (vs : List Value) (news : List (Addr × Obj)) (L : Addr) (h : Heap) : Prop :=
  (∃ B, base.StaysIn B ∧ (∀ b o, G.get? b = some o → b ∉ l.filterMap (·.frame) → B.get? b = some o) ∧ (∀ q ∈ news, B.get? q.1 = some q.2 ∧ G.get? q.1 = none ∧ base.get? q.1 = none) ∧ Heap.HeldW B l e cls (.ref t) L h ∧ B.get? t = none) ∧ h.TupAt t vs
inductive ExH (c : Fx) (C : Addr) (X : AH → Prop) (e : Value) (s' : Shared) : Prop
  | mk (ea : _) (t : _) (vs : _) (news : _) (g : _) (Gh : _) (m : _) (l : _) (H : _) (h1 : e = .ref ea) (h2 : Same c.s₀ s') (h3 : Below c.A₀ c.base c.outer g) (h4 : Fr g c.L Gh m) (h5 : uO c.ns l m) (h6 : KtsDicts c.fs g) (h7 : KtsTurn c.fs c.g₀ g)
    (h8 : HeldS c.base Gh (c.env :: c.outer) ea (.ref C) t vs news c.L s'.heap) (h9 : Gh.UpToSlots s'.heap) (h10 : AH.In H c.pin news) (h11 : X H) : ExH c C X e s'
noncomputable def ExF (c : Fx) (C : Addr) (X : AH → Prop) (e : Value) (s' : Shared) : Prop := ExC c C X e s' ∨ ExH c C X e s'
structure CallT (G : Gl) (C : Addr) (n : Nat) (f : Value) (vs : List Value) (H : AH) (Q : Value → AH → Prop) (X : AH → Prop) : Prop where
  go : ∀ (c : Fx) (A : Around), c.Ok → A.frames = some (c.env :: c.outer) → Room n A → ∀ g s l, FS G c g s l H →
    codeAny (model G.prog G.w) A (.call f ⟨vs, []⟩) (fun r s' => match r with | .ok (.ret v) => ∃ g' H', FS G c g' s' l H' ∧ Q v H' | .ok _ => False | .error e => ExC c C X e s') s
mutual
inductive VD (H : AH) : Value → PyData → Prop
  | none : VD H .none .none
  | int {i t} : VD H (.int i t) (.int i)
  | str {x t} : VD H (.str x t) (.str x)
  | tup {a vs ds} : H.I a = some vs → VDs H vs ds → VD H (.ref a) (.tuple ds)
  | lst {a vs ds} : H.M a = some (.list vs) → VDs H vs ds → VD H (.ref a) (.list ds)
inductive VDs (H : AH) : List Value → List PyData → Prop
  | nil : VDs H [] []
  | cons {v d vs ds} : VD H v d → VDs H vs ds → VDs H (v :: vs) (d :: ds)
end
noncomputable def yE (c : Const) (H : AH) (Q : Value → AH → Prop) : Prop := match c with
  | .none => Q .none H
  | .bool b => Q (.bool b) H
  | .int i => ∀ t, Q (.int i t) H
  | .str x => ∀ t, Q (.str x t) H
  | _ => False
noncomputable def qC (H : AH) (C : Addr) (v : Value) : Option (Addr × List (Str × Value)) := match v with
  | .ref x => match H.M x with
    | some (.inst C' d) => if C' = C then (match H.M d with | some (.dict fs) => some (d, fs) | _ => none) else none
    | _ => none
  | _ => none
noncomputable def jY (C : Addr) (v : Value) (f : Str) (H : AH) (Q : Value → AH → Prop) : Prop := match qC H C v with
  | some (_, fs) => (match lk f fs with | some u => handedIn u = true ∧ Q u H | none => False)
  | none => False
noncomputable def qT (C : Addr) (v : Value) (f : Str) (u : Value) (H : AH) (Q : AH → Prop) : Prop := match qC H C v with
  | some (d, fs) => fs.length ≤ 100 ∧ Q (H.setM d (.dict (pt f u fs)))
  | none => False
noncomputable def pL : Value → Option Bool
  | .bool b => some b
  | .none => some false
  | .int x _ => some (x != 0)
  | _ => none
noncomputable def jW (v : Value) (H : AH) (Q : Bool → AH → Prop) : Prop := match pL v with
  | some b => Q b H
  | none => False
noncomputable def kA (op : Operator) (a b : Value) (H : AH) (Q : Value → AH → Prop) : Prop := match op with
  | .Add => (match a with
    | .int x _ => (match b with | .int y _ => ∀ t, Q (.int (x + y) t) H | _ => False)
    | .str x _ => (match b with | .str y _ => x.length + y.length ≤ sizeLine ∧ ∀ t, Q (.str (x ++ y) t) H | _ => False)
    | .ref a => (match b with
      | .ref b => (match H.I a with
        | some xs => (match H.I b with
          | some ys => xs.length + ys.length ≤ 1000 ∧ (xs = [] → Q (.ref b) H) ∧ (xs ≠ [] → ys = [] → Q (.ref a) H) ∧ (xs ≠ [] → ys ≠ [] → ∀ r, H.free r → Q (.ref r) (H.setI r (xs ++ ys)))
          | none => False)
        | none => False)
      | _ => False)
    | _ => False)
  | .Sub => (match a with | .int x _ => (match b with | .int y _ => ∀ t, Q (.int (x - y) t) H | _ => False) | _ => False)
  | .Mult => (match a with
    | .int x _ => (match b with | .int y _ => IntMulOk x y ∧ ∀ t, Q (.int (x * y) t) H | _ => False)
    | .str x _ => (match b with | .int y _ => (x.length ≤ 16 ∧ -(2 ^ 63 : Int) ≤ y ∧ y ≤ 1048576) ∧ ∀ t, Q (.str (Txt.mul x y) t) H | _ => False)
    | _ => False)
  | .FloorDiv => (match a with | .int x _ => (match b with | .int y _ => (y ≠ 0 ∧ y.natAbs < 1073741824) ∧ ∀ t, Q (.int (x.fdiv y) t) H | _ => False) | _ => False)
  | .Mod => (match a with | .int x _ => (match b with | .int y _ => y ≠ 0 ∧ ∀ t, Q (.int (x.fmod y) t) H | _ => False) | _ => False)
  | .Pow => (match a with | .int x _ => (match b with | .int y _ => (0 ≤ y ∧ y ≤ 1000000 ∧ x.natAbs < 2 ^ 64) ∧ ∀ t, Q (.int (x ^ y.toNat) t) H | _ => False) | _ => False)
  | _ => False
noncomputable def kQ (a b : Value) : Option Bool := match a with
  | .int x _ => (match b with | .int y _ => some (x == y) | _ => none)
  | .str x _ => (match b with | .str y _ => some (x == y) | _ => none)
  | _ => none
noncomputable def yH (v : Value) : List Value → Option Bool
  | [] => some false
  | u :: r => match kQ u v with
    | some a => (match yH v r with | some b => some (a || b) | none => none)
    | none => none
noncomputable def vW (H : AH) (a : Addr) (vs : List Value) : Prop := H.I a = some vs ∨ H.M a = some (.list vs)
noncomputable def eqVC (a b : Value) (H : AH) (Q : Bool → Prop) : Prop := ∃ d d', VD H a d ∧ VD H b d' ∧ PySem.SeqAt.shaped d = true ∧ PySem.SeqAt.shaped d' = true ∧ Q (PyData.eqv d d')
noncomputable def yR (op : CmpOp) (a b : Value) (H : AH) (Q : Value → AH → Prop) : Prop := match op with
  | .Lt => (match a with | .int x _ => (match b with | .int y _ => Q (.bool (decide (x < y))) H | _ => False) | _ => False)
  | .Gt => (match a with | .int x _ => (match b with | .int y _ => Q (.bool (decide (y < x))) H | _ => False) | _ => False)
  | .LtE => (match a with | .int x _ => (match b with | .int y _ => Q (.bool (decide (x ≤ y))) H | _ => False) | _ => False)
  | .GtE => (match a with | .int x _ => (match b with | .int y _ => Q (.bool (decide (y ≤ x))) H | _ => False) | _ => False)
  | .Eq => (match a with
    | .int x _ => (match b with | .int y _ => Q (.bool (x == y)) H | b' => eqVC a b' H fun r => Q (.bool r) H)
    | .str x _ => (match b with | .str y _ => Q (.bool (x == y)) H | b' => eqVC a b' H fun r => Q (.bool r) H)
    | a' => eqVC a' b H fun r => Q (.bool r) H)
  | .NotEq => (match a with
    | .int x _ => (match b with | .int y _ => Q (.bool (x != y)) H | b' => eqVC a b' H fun r => Q (.bool (!r)) H)
    | .str x _ => (match b with | .str y _ => Q (.bool (x != y)) H | b' => eqVC a b' H fun r => Q (.bool (!r)) H)
    | a' => eqVC a' b H fun r => Q (.bool (!r)) H)
  | .In => (match b with
    | .str x _ => (match a with | .str y _ => Q (.bool (Txt.contains x y)) H | _ => False)
    | .ref r => ∃ vs, vW H r vs ∧ (match yH a vs with | some r => vs.length ≤ 100 ∧ Q (.bool r) H | none => False)
    | _ => False)
  | .NotIn => (match b with
    | .str x _ => (match a with | .str y _ => Q (.bool (!Txt.contains x y)) H | _ => False)
    | .ref r => ∃ vs, vW H r vs ∧ (match yH a vs with | some r => vs.length ≤ 100 ∧ Q (.bool (!r)) H | none => False)
    | _ => False)
  | .Is => (match b with | .none => Q (.bool (a == .none)) H | _ => False)
  | .IsNot => (match b with | .none => Q (.bool (!(a == .none))) H | _ => False)
noncomputable def nF (o i : Value) (H : AH) (Q : Value → AH → Prop) : Prop := match i with
  | .int k _ => (match o with
    | .str x _ => (x.length < 9223372036854775808 ∧ -(x.length : Int) ≤ k ∧ k < x.length) ∧ ∀ t, Q (.str (Txt.item x k) t) H
    | .ref a => ∃ vs, vW H a vs ∧ (0 ≤ k ∧ k < 2 ^ 62) ∧ (match vs[k.toNat]? with | some v => Q v H | none => False)
    | _ => False)
  | _ => False
noncomputable def gQ : Value → Option (Option Int)
  | .none => some none
  | .int k _ => some (some k)
  | _ => none
noncomputable def qZ (i : Option Int) : Nat := (i.getD 0).toNat
noncomputable def kF (n : Nat) : Option Int → Nat
  | none => n
  | some x => x.toNat
noncomputable def wP (o lo hi : Value) (H : AH) (Q : Value → AH → Prop) : Prop := match gQ lo with
  | some i => (match gQ hi with
    | some j => (match o with
      | .str x _ => x.length ≤ sizeLine ∧ ∀ t, Q (.str (Txt.slice x i j) t) H
      | .ref a => (match H.I a with
        | some vs => (0 ≤ i.getD 0 ∧ 0 ≤ j.getD 0 ∧ qZ i ≤ kF vs.length j ∧ kF vs.length j ≤ vs.length ∧ vs.length ≤ 1000) ∧
            (∀ r, H.free r → Q (.ref r) (H.setI r ((vs.take (kF vs.length j)).drop (qZ i)))) ∧ (qZ i = 0 → kF vs.length j = vs.length → Q (.ref a) H)
        | none => False)
      | _ => False)
    | none => False)
  | none => False
noncomputable abbrev xZ (i : Int) : Str := Str.ofString (toString i)
noncomputable def rF (b : BF) (vs : List Value) (H : AH) (Q : Value → AH → Prop) : Prop := match b with
  | .len => (match vs with | [v] => (match v with | .str x _ => x.length < 9223372036854775808 ∧ ∀ t, Q (.int x.length t) H | .ref a => ∃ vs, vW H a vs ∧ vs.length < 2 ^ 62 ∧ ∀ t, Q (.int vs.length t) H | _ => False) | _ => False)
  | .int => (match vs with | [v] => (match v with | .int x _ => ∀ t, Q (.int x t) H | .bool x => ∀ t, Q (.int (if x then 1 else 0) t) H | _ => False) | _ => False)
  | .str => (match vs with | [v] => (match v with | .int x _ => (-4611686018427387904 < x ∧ x < 4611686018427387904) ∧ ∀ t, Q (.str (xZ x) t) H | _ => False) | _ => False)
  | .abs => (match vs with | [v] => (match v with | .int x _ => ∀ t, Q (.int (if x < 0 then -x else x) t) H | _ => False) | _ => False)
  | .max => (match vs with | [v, u] => (match v with | .int x _ => (match u with | .int y _ => ∀ t, Q (.int (if y > x then y else x) t) H | _ => False) | _ => False) | _ => False)
  | .min => (match vs with | [v, u] => (match v with | .int x _ => (match u with | .int y _ => ∀ t, Q (.int (if y < x then y else x) t) H | _ => False) | _ => False) | _ => False)
  | .tuple => (match vs with | [v] => (match v with | .ref a => (match H.M a with | some (.list vs) => vs.length ≤ 1000 ∧ ∀ r, H.free r → Q (.ref r) (H.setI r vs) | _ => False) | _ => False) | _ => False)
  | _ => False
noncomputable def gG : List Value → Option (List Str)
  | [] => some []
  | .str x _ :: r => (gG r).map (x :: ·)
  | _ :: _ => none
noncomputable def bmVC (b : BM) (o : Value) (vs : List Value) (H : AH) (Q : Value → AH → Prop) : Prop := match b with
  | .append => (match o with | .ref a => (match vs with | [v] => (match H.M a with | some (.list xs) => xs.length + 1 ≤ 100000 ∧ Q .none (H.setM a (.list (xs ++ [v]))) | _ => False) | _ => False) | _ => False)
  | .upper => (match o with | .str x _ => (match vs with | [] => x.length ≤ 1000 ∧ ∀ t, Q (.str (Txt.upper x) t) H | _ => False) | _ => False)
  | .join => (match o with | .str x _ => (match vs with | [v] => (match v with | .ref a => (match H.M a with | some (.list xs) => (match gG xs with | some ys => JoinOk x ys = true ∧ ∀ t, Q (.str (Txt.join x ys) t) H | none => False) | _ => False) | _ => False) | _ => False) | _ => False)
  | .index => (match o with | .str x _ => (match vs with | [v] => (match v with | .str y _ => (x.length ≤ 1000 ∧ Txt.contains x y = true) ∧ ∀ t, Q (.int (Txt.find x y) t) H | _ => False) | _ => False) | _ => False)
  | .rstrip => (match o with | .str x _ => (match vs with | [v] => (match v with | .str y _ => x.length ≤ sizeLine ∧ ∀ t, Q (.str (Txt.rstripChars x y) t) H | _ => False) | _ => False) | _ => False)
noncomputable def bmOk (b : BM) (v : Value) (H : AH) : Prop := match b with
  | .append => (match v with | .ref a => (match H.M a with | some (.list _) => True | _ => False) | _ => False)
  | _ => (match v with | .str _ _ => True | _ => False)
noncomputable def lkC (x : Str) : List Str → List Const → Option Const
  | k :: ks, v :: vs => if k = x then some v else lkC x ks vs
  | _, _ => none
noncomputable def mapVC (call : Value → AH → (Value → AH → Prop) → Prop) (a D : Addr) (vs0 : List Value) : List Value → List Value → AH → (Value → AH → Prop) → Prop
  | [], ys, H, Q => H.M a = some (.list vs0) ∧ H.M D = some (.list ys) ∧ Q (.ref D) H
  | v :: r, ys, H, Q => H.M a = some (.list vs0) ∧ call v H fun y H' => H'.M D = some (.list ys) ∧ ys.length < 100000 ∧ mapVC call a D vs0 r (ys ++ [y]) (H'.setM D (.list (ys ++ [y]))) Q
noncomputable def blanks (x : Str) (i : Nat) : List Nat := (List.range i).filter fun j => decide (x.cps[j]? = some 32)
inductive NatsV : List Value → List Nat → Prop
  | nil : NatsV [] []
  | cons {n t vs ns} : NatsV vs ns → NatsV (.int (n : Nat) t :: vs) (n :: ns)
inductive Fu where
  | z
  | s (k : Fu)
noncomputable def vcL (ve : RE → AH → (Value → AH → Prop) → Prop) : List RE → AH → (List Value → AH → Prop) → Prop
  | [], H, Q => Q [] H
  | e :: es, H, Q => ve e H fun v H => vcL ve es H fun vs H => Q (v :: vs) H
noncomputable def vcAO (ve : RE → AH → (Value → AH → Prop) → Prop) (w : Bool) : RE → List RE → AH → (Value → AH → Prop) → Prop
  | e, [], H, Q => ve e H Q
  | e, e' :: es, H, Q => ve e H fun v H => jW v H fun b H => (b = w → vcAO ve w e' es H Q) ∧ (b = (!w) → Q v H)
noncomputable def vcE (G : Gl) (C₀ : Addr) (n : Nat) (X : AH → Prop) (l : List (Option Value)) : Fu → RE → AH → (Value → AH → Prop) → Prop
  | .z, _, _, _ => False
  | .s _, .cst c, H, Q => yE c H Q
  | .s _, .loc i, H, Q => (match l[i]? with | some (some v) => Q v H | _ => False)
  | .s _, .glb v, H, Q => Q v H
  | .s k, .attr C e f, H, Q => vcE G C₀ n X l k e H fun v H => jY C v f H Q
  | .s k, .call f as, H, Q => vcL (vcE G C₀ n X l k) as H fun vs H => CallT G C₀ n (.ref f) vs H Q X
  | .s k, .new C f as, H, Q => vcL (vcE G C₀ n X l k) as H fun vs H => ∀ x d, H.free x → H.free d → x ≠ d →
      (match n with | 0 => False | m + 1 => CallT G C₀ m (.ref f) (.ref x :: vs) ((H.setM d (.dict [])).setM x (.inst C d)) (fun v H => v = .none ∧ Q (.ref x) H) X)
  | .s k, .bcall b as, H, Q => vcL (vcE G C₀ n X l k) as H fun vs H => rF b vs H Q
  | .s k, .meth C f o nm as, H, Q => vcE G C₀ n X l k o H fun v H => (match qC H C v with
      | some (_, fs) => lk nm fs = none ∧ vcL (vcE G C₀ n X l k) as H fun vs H => CallT G C₀ n (.ref f) (v :: vs) H Q X
      | none => False)
  | .s k, .bmeth b o as, H, Q => vcE G C₀ n X l k o H fun v H => bmOk b v H ∧ vcL (vcE G C₀ n X l k) as H fun vs H => bmVC b v vs H Q
  | .s k, .bin op a b, H, Q => vcE G C₀ n X l k a H fun v H => vcE G C₀ n X l k b H fun u H => kA op v u H Q
  | .s k, .neg a, H, Q => vcE G C₀ n X l k a H fun v H => (match v with | .int x _ => ∀ t, Q (.int (-x) t) H | _ => False)
  | .s k, .not a, H, Q => vcE G C₀ n X l k a H fun v H => jW v H fun b H => Q (.bool (!b)) H
  | .s k, .and e es, H, Q => vcAO (vcE G C₀ n X l k) true e es H Q
  | .s k, .or e es, H, Q => vcAO (vcE G C₀ n X l k) false e es H Q
  | .s k, .cmp op a b, H, Q => vcE G C₀ n X l k a H fun v H => vcE G C₀ n X l k b H fun u H => yR op v u H Q
  | .s k, .cmp2 op op' a b d, H, Q => vcE G C₀ n X l k a H fun v H => vcE G C₀ n X l k b H fun u H => yR op v u H fun r H => jW r H fun t H =>
      (t = true → vcE G C₀ n X l k d H fun z H => yR op' u z H Q) ∧ (t = false → Q r H)
  | .s k, .ite t a b, H, Q => vcE G C₀ n X l k t H fun v H => jW v H fun r H => (r = true → vcE G C₀ n X l k a H Q) ∧ (r = false → vcE G C₀ n X l k b H Q)
  | .s k, .sub e i, H, Q => vcE G C₀ n X l k e H fun v H => vcE G C₀ n X l k i H fun u H => nF v u H Q
  | .s k, .slc e lo hi, H, Q => vcE G C₀ n X l k e H fun v H => vcE G C₀ n X l k lo H fun x H => vcE G C₀ n X l k hi H fun y H => wP v x y H Q
  | .s k, .tup es, H, Q => vcL (vcE G C₀ n X l k) es H fun vs H => vs.length ≤ sizeLine ∧ ∀ r, H.free r → Q (.ref r) (H.setI r vs)
  | .s k, .lst es, H, Q => vcL (vcE G C₀ n X l k) es H fun vs H => vs.length ≤ sizeLine ∧ ∀ r, H.free r → Q (.ref r) (H.setM r (.list vs))
  | .s k, .dsub ks vs i, H, Q => ∀ a o, H.free a → vcE G C₀ n X l k i (H.setM a (.any o)) fun u H' => H' = H.setM a (.any o) ∧ (match u with
      | .str x _ => (match lkC x ks vs with | some u => yE u H Q | none => False)
      | _ => False)
  | .s _, .dget ks vs i, H, Q => (match l[i]? with | some (some (.str x t)) => (match lkC x ks vs with | some w => yE w H Q | none => ∀ t, Q (.str x t) H) | _ => False)
  | .s _, .slen i, H, Q => (match l[i]? with | some (some (.ref a)) => a = G.srcA ∧ G.srcV.length < 2 ^ 62 ∧ ∀ t, Q (.int G.srcV.length t) H | _ => False)
  | .s k, .sitem i e, H, Q => (match l[i]? with | some (some (.ref a)) => vcE G C₀ n X l k e H fun u H => (match u with | .int j _ => a = G.srcA ∧ (0 ≤ j ∧ j < 2 ^ 62) ∧ (match G.srcV[j.toNat]? with | some v => Q v H | none => False) | _ => False) | _ => False)
  | .s _, .cmap f i, H, Q => (match l[i]? with | some (some (.ref a)) => ∃ vs, H.M a = some (.list vs) ∧ vs.length ≤ 100000 ∧ ∀ D, H.free D → mapVC (fun v H Q => CallT G C₀ n (.ref f) [v] H Q (fun _ => False)) a D vs vs [] (H.setM D (.list [])) Q | _ => False)
noncomputable def xQ : List (Option Value) → List Nat → List Value → List (Option Value)
  | l, i :: is, v :: vs => xQ (l.set i (some v)) is vs
  | l, _, _ => l
inductive Fl where
  | next
  | ret (v : Value)
inductive It where
  | val (v : Value)
  | int (i : Int)
  | chr (c : Nat)
  | pair (i : Int) (v : Value)
noncomputable def wO (is : List Nat) (v : Value) (l : List (Option Value)) (H : AH) (Q : List (Option Value) → AH → Prop) : Prop := match v with
  | .ref a => (match H.I a with | some vs => vs.length = is.length ∧ Q (xQ l is vs) H | none => False)
  | _ => False
noncomputable def itVC (is : List Nat) (i : It) (l : List (Option Value)) (H : AH) (Q : List (Option Value) → AH → Prop) : Prop := match i, is with
  | .val v, [j] => Q (l.set j (some v)) H
  | .val v, is => wO is v l H Q
  | .int i, [j] => ∀ t, Q (l.set j (some (.int i t))) H
  | .chr x, [j] => ∀ t, Q (l.set j (some (.str ⟨#[x]⟩ t))) H
  | .pair i v, [j, k] => ∀ t, Q ((l.set j (some (.int i t))).set k (some v)) H
  | _, _ => False
noncomputable abbrev uP := List (Option Value) → AH → (Fl → List (Option Value) → AH → Prop) → Prop
noncomputable def yJ (is : List Nat) (body : uP) (ok : AH → Prop) : List It → List (Option Value) → AH → (Fl → List (Option Value) → AH → Prop) → Prop
  | [], l, H, Q => ok H ∧ Q .next l H
  | i :: r, l, H, Q => ok H ∧ itVC is i l H fun l H => body l H fun f l H => match f with
    | .next => yJ is body ok r l H Q
    | .ret v => Q (.ret v) l H
noncomputable def kH (test : List (Option Value) → AH → (Bool → AH → Prop) → Prop) (body : uP) : Nat → List (Option Value) → AH → (Fl → List (Option Value) → AH → Prop) → Prop
  | 0, _, _, _ => False
  | m + 1, l, H, Q => test l H fun b H => (b = true → body l H fun f l H => match f with
      | .next => kH test body m l H Q
      | .ret v => Q (.ret v) l H) ∧ (b = false → Q .next l H)
noncomputable def vcB (vs : RS → uP) : List RS → uP
  | [], l, H, Q => Q .next l H
  | s :: r, l, H, Q => vs s l H fun f l H => match f with
    | .next => vcB vs r l H Q
    | .ret v => Q (.ret v) l H
noncomputable def seqVC (v : Value) (H : AH) (Q : List It → (AH → Prop) → Prop) : Prop := match v with
  | .str x _ => (x.length ≤ 100000 ∧ x.cps.all (· < 128) = true) ∧ Q (x.cps.toList.map .chr) (fun _ => True)
  | .ref a => (∃ vs, H.I a = some vs ∧ Q (vs.map .val) (fun H => H.I a = some vs)) ∨ (∃ vs, H.M a = some (.list vs) ∧ Q (vs.map .val) (fun H => H.M a = some (.list vs)))
  | _ => False
noncomputable def pK (n : Nat) (k : Nat) : List It := (List.range' k n).map fun i => .int (i : Nat)
noncomputable def pO : Nat → List Value → List It
  | _, [] => []
  | k, v :: vs => .pair k v :: pO (k + 1) vs
noncomputable def vcS (G : Gl) (C₀ : Addr) (n : Nat) (X : AH → Prop) : Fu → RS → uP
  | .z, _, _, _, _ => False
  | .s k, .asg i e, l, H, Q => vcE G C₀ n X l k e H fun v H => Q .next (l.set i (some v)) H
  | .s k, .asgA C o f e, l, H, Q => vcE G C₀ n X l k e H fun u H => vcE G C₀ n X l k o H fun v H => qT C v f u H (Q .next l)
  | .s k, .asgI o i e, l, H, Q => vcE G C₀ n X l k e H fun u H => vcE G C₀ n X l k o H fun v H => vcE G C₀ n X l k i H fun j H => (match v with
      | .ref a => (match j with
        | .int j _ => (match H.M a with
          | some (.list vs) => (0 ≤ j ∧ j < vs.length ∧ vs.length ≤ 1000) ∧ Q .next l (H.setM a (.list (vs.set j.toNat u)))
          | _ => False)
        | _ => False)
      | _ => False)
  | .s k, .asgT is e, l, H, Q => vcE G C₀ n X l k e H fun v H => wO is v l H (Q .next)
  | .s k, .asgS is e, l, H, Q => vcE G C₀ n X l k e H fun v H => (match v with
      | .ref a => (match H.I a with | some vs => vs.length = is.length ∧ Q .next (xQ l is.reverse vs.reverse) H | none => False)
      | _ => False)
  | .s k, .aug C o f e, l, H, Q => vcE G C₀ n X l k o H fun v H => jY C v f H fun old H => vcE G C₀ n X l k e H fun u H => (match old with
      | .int x _ => (match u with | .int y _ => ∀ t, qT C v f (.int (x + y) t) H (Q .next l) | _ => False)
      | _ => False)
  | .s k, .exp e, l, H, Q => vcE G C₀ n X l k e H fun _ H => Q .next l H
  | .s k, .ite t b o, l, H, Q => vcE G C₀ n X l k t H fun v H => jW v H fun r H => (r = true → vcB (vcS G C₀ n X k) b l H Q) ∧ (r = false → vcB (vcS G C₀ n X k) o l H Q)
  | .s k, .whl t b, l, H, Q => ∃ m, kH (fun l H Q => vcE G C₀ n X l k t H fun v H => jW v H Q) (vcB (vcS G C₀ n X k) b) m l H Q
  | .s k, .for_ is (.range e) b, l, H, Q => vcE G C₀ n X l k e H fun v H => (match v with
      | .int z _ => (-1000000 < z ∧ z < 1000000) ∧ yJ is (vcB (vcS G C₀ n X k) b) (fun _ => True) (pK z.toNat 0) l H Q
      | _ => False)
  | .s k, .for_ is (.seq e) b, l, H, Q => vcE G C₀ n X l k e H fun v H => ((∃ x t, v = .str x t) → ∃ j, is = [j]) ∧ seqVC v H fun its ok => yJ is (vcB (vcS G C₀ n X k) b) ok its l H Q
  | .s k, .for_ is (.enum e) b, l, H, Q => vcE G C₀ n X l k e H fun v H => (match v with
      | .ref a => (match H.I a with
        | some vs => vs.length ≤ 1000 ∧ yJ is (vcB (vcS G C₀ n X k) b) (fun H => H.I a = some vs) (pO 0 vs) l H Q
        | none => False)
      | _ => False)
  | .s k, .ret e, l, H, Q => vcE G C₀ n X l k e H fun v H => Q (.ret v) l H
  | .s k, .tryN b, l, H, Q => vcB (vcS G C₀ n (fun _ => False) k) b l H Q
  | .s _, .asgC i j, l, H, Q => (match l[j]? with | some (some (.str x _)) => (x.length ≤ 100000 ∧ x.cps.all (· < 128) = true) ∧ ∀ D ys, H.free D → NatsV ys (blanks x x.cps.size) → Q .next (l.set i (some (.ref D))) (H.setM D (.list ys)) | _ => False)
  | .s _, .raise, _, _, _ => False
section
variable {G : Gl} {C₀ C f : Addr} {n i j : Nat} {X : AH → Prop} {l : List (Option Value)} {k : Fu} {H : AH} {Q : Value → AH → Prop} {R : Fl → List (Option Value) → AH → Prop} {a b d e o t lo hi : RE} {es as : List RE} {c : Const} {v : Value} {nm : Str} {ks : List Str} {vs : List Const} {is : List Nat} {op op' : CmpOp}
theorem jH : vcE G C₀ n X l (.s k) (.cst c) H Q = (yE c H Q) := rfl
theorem jB : vcE G C₀ n X l (.s k) (.loc i) H Q = ((match l[i]? with | some (some v) => Q v H | _ => False)) := rfl
theorem fQ : vcE G C₀ n X l (.s k) (.glb v) H Q = (Q v H) := rfl
theorem zX : vcE G C₀ n X l (.s k) (.attr C e nm) H Q = (vcE G C₀ n X l k e H fun v H => jY C v nm H Q) := rfl
theorem zD : vcE G C₀ n X l (.s k) (.call f as) H Q = (vcL (vcE G C₀ n X l k) as H fun vs H => CallT G C₀ n (.ref f) vs H Q X) := rfl
theorem v_new : vcE G C₀ n X l (.s k) (.new C f as) H Q = (vcL (vcE G C₀ n X l k) as H fun vs H => ∀ x d, H.free x → H.free d → x ≠ d → (match n with | 0 => False | m + 1 => CallT G C₀ m (.ref f) (.ref x :: vs) ((H.setM d (.dict [])).setM x (.inst C d)) (fun v H => v = .none ∧ Q (.ref x) H) X)) := rfl
theorem zC {b : BF} : vcE G C₀ n X l (.s k) (.bcall b as) H Q = (vcL (vcE G C₀ n X l k) as H fun vs H => rF b vs H Q) := rfl
theorem zP : vcE G C₀ n X l (.s k) (.meth C f o nm as) H Q = (vcE G C₀ n X l k o H fun v H => (match qC H C v with | some (_, fs) => lk nm fs = none ∧ vcL (vcE G C₀ n X l k) as H fun vs H => CallT G C₀ n (.ref f) (v :: vs) H Q X | none => False)) := rfl
theorem yS {b : BM} : vcE G C₀ n X l (.s k) (.bmeth b o as) H Q = (vcE G C₀ n X l k o H fun v H => bmOk b v H ∧ vcL (vcE G C₀ n X l k) as H fun vs H => bmVC b v vs H Q) := rfl
theorem zB {op : Operator} : vcE G C₀ n X l (.s k) (.bin op a b) H Q = (vcE G C₀ n X l k a H fun v H => vcE G C₀ n X l k b H fun u H => kA op v u H Q) := rfl
theorem v_neg : vcE G C₀ n X l (.s k) (.neg a) H Q = (vcE G C₀ n X l k a H fun v H => (match v with | .int x _ => ∀ t, Q (.int (-x) t) H | _ => False)) := rfl
theorem v_not : vcE G C₀ n X l (.s k) (.not a) H Q = (vcE G C₀ n X l k a H fun v H => jW v H fun b H => Q (.bool (!b)) H) := rfl
theorem uQ : vcE G C₀ n X l (.s k) (.and e es) H Q = (vcAO (vcE G C₀ n X l k) true e es H Q) := rfl
theorem v_or : vcE G C₀ n X l (.s k) (.or e es) H Q = (vcAO (vcE G C₀ n X l k) false e es H Q) := rfl
theorem jQ : vcE G C₀ n X l (.s k) (.cmp op a b) H Q = (vcE G C₀ n X l k a H fun v H => vcE G C₀ n X l k b H fun u H => yR op v u H Q) := rfl
theorem v_cmp2 : vcE G C₀ n X l (.s k) (.cmp2 op op' a b d) H Q = (vcE G C₀ n X l k a H fun v H => vcE G C₀ n X l k b H fun u H => yR op v u H fun r H => jW r H fun t H => (t = true → vcE G C₀ n X l k d H fun z H => yR op' u z H Q) ∧ (t = false → Q r H)) := rfl
theorem uD : vcE G C₀ n X l (.s k) (.ite t a b) H Q = (vcE G C₀ n X l k t H fun v H => jW v H fun r H => (r = true → vcE G C₀ n X l k a H Q) ∧ (r = false → vcE G C₀ n X l k b H Q)) := rfl
theorem qL {i : RE} : vcE G C₀ n X l (.s k) (.sub e i) H Q = (vcE G C₀ n X l k e H fun v H => vcE G C₀ n X l k i H fun u H => nF v u H Q) := rfl
theorem gE : vcE G C₀ n X l (.s k) (.slc e lo hi) H Q = (vcE G C₀ n X l k e H fun v H => vcE G C₀ n X l k lo H fun x H => vcE G C₀ n X l k hi H fun y H => wP v x y H Q) := rfl
theorem yP : vcE G C₀ n X l (.s k) (.tup es) H Q = (vcL (vcE G C₀ n X l k) es H fun vs H => vs.length ≤ sizeLine ∧ ∀ r, H.free r → Q (.ref r) (H.setI r vs)) := rfl
theorem pJ : vcE G C₀ n X l (.s k) (.lst es) H Q = (vcL (vcE G C₀ n X l k) es H fun vs H => vs.length ≤ sizeLine ∧ ∀ r, H.free r → Q (.ref r) (H.setM r (.list vs))) := rfl
theorem v_dsub {i : RE} : vcE G C₀ n X l (.s k) (.dsub ks vs i) H Q = (∀ a o, H.free a → vcE G C₀ n X l k i (H.setM a (.any o)) fun u H' => H' = H.setM a (.any o) ∧ (match u with | .str x _ => (match lkC x ks vs with | some u => yE u H Q | none => False) | _ => False)) := rfl
theorem v_dget : vcE G C₀ n X l (.s k) (.dget ks vs i) H Q = ((match l[i]? with | some (some (.str x t)) => (match lkC x ks vs with | some w => yE w H Q | none => ∀ t, Q (.str x t) H) | _ => False)) := rfl
theorem v_slen : vcE G C₀ n X l (.s k) (.slen i) H Q = ((match l[i]? with | some (some (.ref a)) => a = G.srcA ∧ G.srcV.length < 2 ^ 62 ∧ ∀ t, Q (.int G.srcV.length t) H | _ => False)) := rfl
theorem v_sitem : vcE G C₀ n X l (.s k) (.sitem i e) H Q = ((match l[i]? with | some (some (.ref a)) => vcE G C₀ n X l k e H fun u H => (match u with | .int j _ => a = G.srcA ∧ (0 ≤ j ∧ j < 2 ^ 62) ∧ (match G.srcV[j.toNat]? with | some v => Q v H | none => False) | _ => False) | _ => False)) := rfl
theorem v_cmap : vcE G C₀ n X l (.s k) (.cmap f i) H Q = ((match l[i]? with | some (some (.ref a)) => ∃ vs, H.M a = some (.list vs) ∧ vs.length ≤ 100000 ∧ ∀ D, H.free D → mapVC (fun v H Q => CallT G C₀ n (.ref f) [v] H Q (fun _ => False)) a D vs vs [] (H.setM D (.list [])) Q | _ => False)) := rfl
theorem jV : vcS G C₀ n X (.s k) (.asg i e) l H R = (vcE G C₀ n X l k e H fun v H => R .next (l.set i (some v)) H) := rfl
theorem kZ : vcS G C₀ n X (.s k) (.asgA C o nm e) l H R = (vcE G C₀ n X l k e H fun u H => vcE G C₀ n X l k o H fun v H => qT C v nm u H (R .next l)) := rfl
theorem w_asgI {i : RE} : vcS G C₀ n X (.s k) (.asgI o i e) l H R = (vcE G C₀ n X l k e H fun u H => vcE G C₀ n X l k o H fun v H => vcE G C₀ n X l k i H fun j H => (match v with | .ref a => (match j with | .int j _ => (match H.M a with | some (.list vs) => (0 ≤ j ∧ j < vs.length ∧ vs.length ≤ 1000) ∧ R .next l (H.setM a (.list (vs.set j.toNat u))) | _ => False) | _ => False) | _ => False)) := rfl
theorem w_asgT : vcS G C₀ n X (.s k) (.asgT is e) l H R = (vcE G C₀ n X l k e H fun v H => wO is v l H (R .next)) := rfl
theorem uC : vcS G C₀ n X (.s k) (.asgS is e) l H R = (vcE G C₀ n X l k e H fun v H => (match v with | .ref a => (match H.I a with | some vs => vs.length = is.length ∧ R .next (xQ l is.reverse vs.reverse) H | none => False) | _ => False)) := rfl
theorem w_aug : vcS G C₀ n X (.s k) (.aug C o nm e) l H R = (vcE G C₀ n X l k o H fun v H => jY C v nm H fun old H => vcE G C₀ n X l k e H fun u H => (match old with | .int x _ => (match u with | .int y _ => ∀ t, qT C v nm (.int (x + y) t) H (R .next l) | _ => False) | _ => False)) := rfl
theorem qF : vcS G C₀ n X (.s k) (.exp e) l H R = (vcE G C₀ n X l k e H fun _ H => R .next l H) := rfl
theorem zT {b o : List RS} : vcS G C₀ n X (.s k) (.ite t b o) l H R = (vcE G C₀ n X l k t H fun v H => jW v H fun r H => (r = true → vcB (vcS G C₀ n X k) b l H R) ∧ (r = false → vcB (vcS G C₀ n X k) o l H R)) := rfl
theorem w_whl {b : List RS} : vcS G C₀ n X (.s k) (.whl t b) l H R = (∃ m, kH (fun l H Q => vcE G C₀ n X l k t H fun v H => jW v H Q) (vcB (vcS G C₀ n X k) b) m l H R) := rfl
theorem w_forr {b : List RS} : vcS G C₀ n X (.s k) (.for_ is (.range e) b) l H R = (vcE G C₀ n X l k e H fun v H => (match v with | .int z _ => (-1000000 < z ∧ z < 1000000) ∧ yJ is (vcB (vcS G C₀ n X k) b) (fun _ => True) (pK z.toNat 0) l H R | _ => False)) := rfl
theorem w_fors {b : List RS} : vcS G C₀ n X (.s k) (.for_ is (.seq e) b) l H R = (vcE G C₀ n X l k e H fun v H => ((∃ x t, v = .str x t) → ∃ j, is = [j]) ∧ seqVC v H fun its ok => yJ is (vcB (vcS G C₀ n X k) b) ok its l H R) := rfl
theorem w_fore {b : List RS} : vcS G C₀ n X (.s k) (.for_ is (.enum e) b) l H R = (vcE G C₀ n X l k e H fun v H => (match v with | .ref a => (match H.I a with | some vs => vs.length ≤ 1000 ∧ yJ is (vcB (vcS G C₀ n X k) b) (fun H => H.I a = some vs) (pO 0 vs) l H R | none => False) | _ => False)) := rfl
theorem zJ : vcS G C₀ n X (.s k) (.ret e) l H R = (vcE G C₀ n X l k e H fun v H => R (.ret v) l H) := rfl
theorem w_tryN {b : List RS} : vcS G C₀ n X (.s k) (.tryN b) l H R = (vcB (vcS G C₀ n (fun _ => False) k) b l H R) := rfl
theorem w_asgC : vcS G C₀ n X (.s k) (.asgC i j) l H R = ((match l[j]? with | some (some (.str x _)) => (x.length ≤ 100000 ∧ x.cps.all (· < 128) = true) ∧ ∀ D ys, H.free D → NatsV ys (blanks x x.cps.size) → R .next (l.set i (some (.ref D))) (H.setM D (.list ys)) | _ => False)) := rfl
theorem w_raise : vcS G C₀ n X (.s k) .raise l H R = (False) := rfl
end
section
variable {vs : RS → uP} {s : RS} {r : List RS} {l : List (Option Value)} {H : AH} {R : Fl → List (Option Value) → AH → Prop} {ve : RE → AH → (Value → AH → Prop) → Prop} {e e' : RE} {es : List RE} {S : List Value → AH → Prop} {w : Bool} {Q : Value → AH → Prop} {is : List Nat} {b : uP} {ok : AH → Prop} {i : It} {its : List It} {j m : Nat} {v u : Value} {us : List Value} {x y : Str} {ks : List Str} {c : Const} {cs : List Const} {fs : List (Str × Value)} {t : Tok} {q : List (Option Value) → AH → (Bool → AH → Prop) → Prop}
theorem vB0 : vcB vs [] l H R = R .next l H := rfl
theorem vB1 : vcB vs (s :: r) l H R = vs s l H fun f l H => match f with | .next => vcB vs r l H R | .ret v => R (.ret v) l H := rfl
theorem vL0 : vcL ve [] H S = S [] H := rfl
theorem vL1 : vcL ve (e :: es) H S = ve e H fun v H => vcL ve es H fun vs H => S (v :: vs) H := rfl
theorem vA0 : vcAO ve w e [] H Q = ve e H Q := rfl
theorem vA1 : vcAO ve w e (e' :: es) H Q = ve e H fun v H => jW v H fun b H => (b = w → vcAO ve w e' es H Q) ∧ (b = (!w) → Q v H) := rfl
theorem vF1 : yJ is b ok (i :: its) l H R = (ok H ∧ itVC is i l H fun l H => b l H fun f l H => match f with | .next => yJ is b ok its l H R | .ret v => R (.ret v) l H) := rfl
theorem vW1 : kH q b (m + 1) l H R = q l H fun p H => (p = true → b l H fun f l H => match f with | .next => kH q b m l H R | .ret v => R (.ret v) l H) ∧ (p = false → R .next l H) := rfl
theorem sA0 : xQ l [] us = l := rfl
theorem sA1 : xQ l (j :: is) (v :: us) = xQ (l.set j (some v)) is us := rfl
theorem lC1 : lkC x (y :: ks) (c :: cs) = if y = x then some c else lkC x ks cs := rfl
theorem lk1 : lk x ((y, v) :: fs) = if y = x then some v else lk x fs := rfl
theorem pt1 : pt x u ((y, v) :: fs) = if y = x then (y, u) :: fs else (y, v) :: pt x u fs := rfl
theorem aF0 : yH v [] = some false := rfl
theorem aF1 : yH v (u :: us) = match kQ u v with | some a => (match yH v us with | some b => some (a || b) | none => none) | none => none := rfl
theorem pr1 : pO j (v :: us) = .pair j v :: pO (j + 1) us := rfl
theorem so1 : gG (.str x t :: us) = (gG us).map (x :: ·) := rfl
end
section
variable {H : AH} {Q : Value → AH → Prop} {a b : Addr} {v : Value} {x y : Str} {t u : Tok}
theorem fV : bmVC .append (.ref a) [v] H Q = (match H.M a with | some (.list xs) => xs.length + 1 ≤ 100000 ∧ Q .none (H.setM a (.list (xs ++ [v]))) | _ => False) := rfl
theorem pA : bmVC .join (.str x t) [.ref a] H Q = (match H.M a with | some (.list xs) => (match gG xs with | some ys => JoinOk x ys = true ∧ ∀ t, Q (.str (Txt.join x ys) t) H | none => False) | _ => False) := rfl
theorem m_up : bmVC .upper (.str x t) [] H Q = (x.length ≤ 1000 ∧ ∀ t, Q (.str (Txt.upper x) t) H) := rfl
theorem fU : bmVC .index (.str x t) [.str y u] H Q = ((x.length ≤ 1000 ∧ Txt.contains x y = true) ∧ ∀ t, Q (.int (Txt.find x y) t) H) := rfl
theorem gK : bmVC .rstrip (.str x t) [.str y u] H Q = (x.length ≤ sizeLine ∧ ∀ t, Q (.str (Txt.rstripChars x y) t) H) := rfl
theorem f_len : rF .len [.ref a] H Q = ∃ vs, vW H a vs ∧ vs.length < 2 ^ 62 ∧ ∀ t, Q (.int vs.length t) H := rfl
theorem f_tup : rF .tuple [.ref a] H Q = (match H.M a with | some (.list vs) => vs.length ≤ 1000 ∧ ∀ r, H.free r → Q (.ref r) (H.setI r vs) | _ => False) := rfl
theorem b_ref : kA .Add (.ref a) (.ref b) H Q = (match H.I a with | some xs => (match H.I b with | some ys => xs.length + ys.length ≤ 1000 ∧ (xs = [] → Q (.ref b) H) ∧ (xs ≠ [] → ys = [] → Q (.ref a) H) ∧ (xs ≠ [] → ys ≠ [] → ∀ r, H.free r → Q (.ref r) (H.setI r (xs ++ ys))) | none => False) | none => False) := rfl
end
section
variable {m : Value → Prop} {m2 : Value → Value → Prop} {mv : List Value → Prop} {mo : Option MObj → Prop}
@[elab_as_elim] theorem zQ (a : Value) {P : Int → Tok → Prop} (h : match a with | .int x t => P x t | _ => False) (k : ∀ x t, P x t → m (.int x t)) : m a := by cases a <;> first | exact k _ _ h | exact h.elim
@[elab_as_elim] theorem xK (a : Value) {P : Str → Tok → Prop} (h : match a with | .str x t => P x t | _ => False) (k : ∀ x t, P x t → m (.str x t)) : m a := by cases a <;> first | exact k _ _ h | exact h.elim
@[elab_as_elim] theorem wD (a : Value) {P : Addr → Prop} (h : match a with | .ref x => P x | _ => False) (k : ∀ x, P x → m (.ref x)) : m a := by cases a <;> first | exact k _ h | exact h.elim
@[elab_as_elim] theorem isNone_ (a : Value) {P : Prop} (h : match a with | .none => P | _ => False) (k : P → m .none) : m a := by cases a <;> first | exact k h | exact h.elim
@[elab_as_elim] theorem pQ (a : Value) {P : Str → Tok → Prop} {R : Addr → Prop} (h : match a with | .str x t => P x t | .ref x => R x | _ => False) (k : ∀ x t, P x t → m (.str x t)) (k' : ∀ x, R x → m (.ref x)) : m a := by cases a <;> first | exact k _ _ h | exact k' _ h | exact h.elim
@[elab_as_elim] theorem isIntBool_ (a : Value) {P : Int → Tok → Prop} {R : Bool → Prop} (h : match a with | .int x t => P x t | .bool x => R x | _ => False) (k : ∀ x t, P x t → m (.int x t)) (k' : ∀ x, R x → m (.bool x)) : m a := by cases a <;> first | exact k _ _ h | exact k' _ h | exact h.elim
@[elab_as_elim] theorem isIntStr_ (a : Value) {P : Int → Tok → Prop} {R : Str → Tok → Prop} (h : match a with | .int x t => P x t | .str x t => R x t | _ => False) (k : ∀ x t, P x t → m (.int x t)) (k' : ∀ x t, R x t → m (.str x t)) : m a := by cases a <;> first | exact k _ _ h | exact k' _ _ h | exact h.elim
@[elab_as_elim] theorem isIntStrRef_ (a : Value) {P : Int → Tok → Prop} {R : Str → Tok → Prop} {S : Addr → Prop} (h : match a with | .int x t => P x t | .str x t => R x t | .ref x => S x | _ => False) (k : ∀ x t, P x t → m (.int x t)) (k' : ∀ x t, R x t → m (.str x t)) (k'' : ∀ x, S x → m (.ref x)) : m a := by
  cases a <;> first | exact k _ _ h | exact k' _ _ h | exact k'' _ h | exact h.elim
theorem isEq_ (a b : Value) {P : Int → Int → Prop} {R : Str → Str → Prop} {D : Value → Value → Prop} (h : match a with | .int x _ => (match b with | .int y _ => P x y | b' => D a b') | .str x _ => (match b with | .str y _ => R x y | b' => D a b') | a' => D a' b)
    (k : ∀ x t y u, P x y → m2 (.int x t) (.int y u)) (k' : ∀ x t y u, R x y → m2 (.str x t) (.str y u)) (d : ∀ a b, D a b → m2 a b) : m2 a b := by
  cases a <;> first | exact d _ _ h | (cases b <;> first | exact k _ _ _ _ h | exact k' _ _ _ _ h | exact d _ _ h)
@[elab_as_elim] theorem wE (vs : List Value) {P : Value → Prop} (h : match vs with | [v] => P v | _ => False) (k : ∀ v, P v → mv [v]) : mv vs := by
  rcases vs with _ | ⟨v, _ | ⟨u, r⟩⟩ <;> first | exact k _ h | exact h.elim
@[elab_as_elim] theorem isTwo_ (vs : List Value) {P : Value → Value → Prop} (h : match vs with | [v, u] => P v u | _ => False) (k : ∀ v u, P v u → mv [v, u]) : mv vs := by
  rcases vs with _ | ⟨v, _ | ⟨u, _ | ⟨w, r⟩⟩⟩ <;> first | exact k _ _ h | exact h.elim
@[elab_as_elim] theorem isNil_ (vs : List Value) {P : Prop} (h : match vs with | [] => P | _ => False) (k : P → mv []) : mv vs := by
  cases vs <;> first | exact k h | exact h.elim
theorem isLst_ {o : Option MObj} {P : List Value → Prop} {p : Prop} (h : match o with | some (.list vs) => P vs | _ => False) (k : ∀ vs, o = some (.list vs) → P vs → p) : p := by
  rcases o with _ | o
  · exact h.elim
  · cases o <;> first | exact k _ rfl h | exact h.elim
theorem isSomeV_ {o : Option Value} {P : Value → Prop} {p : Prop} (h : match o with | some v => P v | none => False) (k : ∀ v, o = some v → P v → p) : p := by
  cases o <;> first | exact k _ rfl h | exact h.elim
theorem rA {o : Option (List Value)} {P : List Value → Prop} {p : Prop} (h : match o with | some v => P v | none => False) (k : ∀ v, o = some v → P v → p) : p := by
  cases o <;> first | exact k _ rfl h | exact h.elim
theorem isSomeC_ {o : Option Const} {P : Const → Prop} {p : Prop} (h : match o with | some v => P v | none => False) (k : ∀ v, o = some v → P v → p) : p := by
  cases o <;> first | exact k _ rfl h | exact h.elim
theorem isSomeI_ {o : Option (Option Int)} {P : Option Int → Prop} {p : Prop} (h : match o with | some v => P v | none => False) (k : ∀ v, o = some v → P v → p) : p := by
  cases o <;> first | exact k _ rfl h | exact h.elim
theorem isSomeB_ {o : Option Bool} {P : Bool → Prop} {p : Prop} (h : match o with | some v => P v | none => False) (k : ∀ v, o = some v → P v → p) : p := by
  cases o <;> first | exact k _ rfl h | exact h.elim
theorem isInst_ {o : Option (Addr × List (Str × Value))} {P : Addr → List (Str × Value) → Prop} {p : Prop} (h : match o with | some (d, fs) => P d fs | none => False) (k : ∀ d fs, o = some (d, fs) → P d fs → p) : p := by
  cases o <;> first | exact k _ _ rfl h | exact h.elim
theorem isVal_ {o : Option (Option Value)} {P : Value → Prop} {p : Prop} (h : match o with | some (some v) => P v | _ => False) (k : ∀ v, o = some (some v) → P v → p) : p := by
  rcases o with _ | _ | v <;> first | exact k _ rfl h | exact h.elim
theorem isLoc_ {o : Option (Option Value)} {P : Addr → Prop} {p : Prop} (h : match o with | some (some (.ref a)) => P a | _ => False) (k : ∀ a, o = some (some (.ref a)) → P a → p) : p := by
  rcases o with _ | _ | v <;> first | exact h.elim | (cases v <;> first | exact k _ rfl h | exact h.elim)
theorem isLocS_ {o : Option (Option Value)} {P : Str → Tok → Prop} {p : Prop} (h : match o with | some (some (.str x t)) => P x t | _ => False) (k : ∀ x t, o = some (some (.str x t)) → P x t → p) : p := by
  rcases o with _ | _ | v <;> first | exact h.elim | (cases v <;> first | exact k _ _ rfl h | exact h.elim)
theorem isInstO_ {o : Option MObj} {α : Type} {F : Addr → Addr → Option α} {r : α} {p : Prop} (h : (match o with | some (.inst c d) => F c d | _ => none) = some r) (k : ∀ c d, o = some (.inst c d) → F c d = some r → p) : p := by
  rcases o with _ | o
  · cases h
  · cases o <;> first | exact k _ _ rfl h | cases h
theorem isDictO_ {o : Option MObj} {α : Type} {F : List (Str × Value) → Option α} {r : α} {p : Prop} (h : (match o with | some (.dict fs) => F fs | _ => none) = some r) (k : ∀ fs, o = some (.dict fs) → F fs = some r → p) : p := by
  rcases o with _ | o
  · cases h
  · cases o <;> first | exact k _ rfl h | cases h
theorem truVC_mk {v : Value} {H : AH} {P : Bool → AH → Prop} {b : Bool} (e : pL v = some b) (q : P b H) : jW v H P := by
  unfold jW; rw [e]; exact q
end
noncomputable def jF (G : Gl) (A : Around) (c : Fx) {α : Type} (t : Sem α) (l : List (Option Value)) (H : AH) (Q : α → AH → Prop) (E : Value → Shared → Prop) : Prop :=
  Tri G A c t l H (fun v l' H' => l' = l ∧ Q v H') E
section
variable {G : Gl} {A : Around} {c : Fx} {α β : Type} {l : List (Option Value)} {H : AH} {E : Value → Shared → Prop}
theorem triV_pure {a : α} {Q : α → AH → Prop} (h : Q a H) : jF G A c (pure a) l H Q E := tri_pure ⟨rfl, h⟩
theorem zA {t : Sem α} {Q Q' : α → AH → Prop} (h : jF G A c t l H Q E) (k : ∀ v H', Q v H' → Q' v H') : jF G A c t l H Q' E :=
  tri_mono h fun v _ H' ⟨e, q⟩ => ⟨e, k v H' q⟩
theorem jE {t : Sem α} {Q : α → AH → Prop} (h : ∀ g s, FS G c g s l H → wpAny (model G.prog G.w) A t (fun v s' => ∃ g' H', FS G c g' s' l H' ∧ Q v H') E s) : jF G A c t l H Q E :=
  ⟨fun g s S => wpAny_mono (h g s S) (fun _ _ ⟨g', H', S', q⟩ => ⟨g', l, H', S', rfl, q⟩) fun _ _ x => x⟩
theorem jU {t : Sem α} {Q : α → AH → Prop} (h : jF G A c t l H Q E) {g : Heap} {s : Shared} (S : FS G c g s l H) : wpAny (model G.prog G.w) A t (fun v s' => ∃ g' H', FS G c g' s' l H' ∧ Q v H') E s :=
  wpAny_mono (h.go g s S) (fun _ _ ⟨g', l', H', S', e, q⟩ => by subst e; exact ⟨g', H', S', q⟩) fun _ _ x => x
theorem jA {t : Sem α} {Q : α → AH → Prop} {g : Heap} {s : Shared} {R : α → Shared → Prop} (h : jF G A c t l H Q E) (S : FS G c g s l H) (k : ∀ v g' s' H', FS G c g' s' l H' → Q v H' → R v s') :
    wpAny (model G.prog G.w) A t R E s :=
  wpAny_mono (jU h S) (fun v s' ⟨g', H', S', q⟩ => k v g' s' H' S' q) fun _ _ x => x
theorem zO {t : Sem α} {v : Tok → α} {Q : α → AH → Prop} (h : ∀ tk, Q (v tk) H) (k : ∀ (s : Shared) (R : α → Shared → Prop), (∀ tk tk', R (v tk) { s with toks := tk' }) → wpAny (model G.prog G.w) A t R E s) : jF G A c t l H Q E :=
  jE fun g s S => k s _ fun tk tk' => ⟨g, H, S.toks tk', h tk⟩
theorem jT {t : Sem α} {v : α} {Q : α → AH → Prop} (h : Q v H) (k : ∀ (s : Shared) (R : α → Shared → Prop), R v s → wpAny (model G.prog G.w) A t R E s) : jF G A c t l H Q E :=
  jE fun g s S => k s _ ⟨g, H, S, h⟩
theorem yZ {x : Str} {pos : Pos} {i : Nat} {v : Value} {Q : Value → AH → Prop} (ok : c.Ok) (hx : c.ns[i]? = some x) (hd : (x == ("__debug__" : Str)) = false) (hv : l[i]? = some (some v)) (h : Q v H) :
    jF G A c (eval (.Name x pos) c.env) l H Q E := jE fun g s S => by
  obtain ⟨m, F, r⟩ := S.F
  refine ld F ?_ ⟨g, H, S, h⟩ ok.kind (ok.loc x (List.mem_of_getElem? hx)) hd
  rw [r.2 i x hx, hv]; rfl
theorem vB {x : Str} {pos : Pos} {v : Value} {Q : Value → AH → Prop} (ok : c.Ok) (e : nsIn G.K mainGlobals x = some (some v)) (hx : c.cs.names.lookup x = some .globalImplicit) (hd : (x == ("__debug__" : Str)) = false) (h : Q v H) :
    jF G A c (eval (.Name x pos) c.env) l H Q E := jE fun g s S => by
  obtain ⟨m, F, r⟩ := S.F
  exact name_K F S.X (topRead_of S.T) e ⟨g, H, S, h⟩ ok.kind hx hd
theorem xB {x : Str} {pos : Pos} {v : Value} {Q : Value → AH → Prop} (ok : c.Ok) (e : nsIn G.K mainGlobals x = some none) (hb : bootBuiltins x = some v) (hn : x ≠ "__name__") (hx : c.cs.names.lookup x = some .globalImplicit) (hd : (x == ("__debug__" : Str)) = false)
    (h : Q v H) : jF G A c (eval (.Name x pos) c.env) l H Q E := jE fun g s S => by
  obtain ⟨m, F, r⟩ := S.F
  exact name_B F S.X (topRead_of S.T) e hb hn ⟨g, H, S, h⟩ ok.kind hx hd
theorem triV_const {k : Const} {kk : Nat} {pos : Pos} {Q : Value → AH → Prop} (h : yE k H Q) : jF G A c (eval (.Constant k kk pos) c.env) l H Q E := by
  cases k with
  | none => exact jT h fun s R r => wpAny_Constant_none r
  | bool b => exact jT h fun s R r => wpAny_Constant_bool r
  | int i => exact zO h fun s R r => wpAny_Constant_int (r _ _)
  | str x => exact zO h fun s R r => wpAny_Constant_str (r _ _)
  | _ => exact h.elim
theorem triV_BinOp {x y : Expr} {op : Operator} {pos : Pos} {Q : Value → AH → Prop}
    (h : jF G A c (eval x c.env) l H (fun a H₁ => jF G A c (eval y c.env) l H₁ (fun b H₂ => jF G A c (binaryOp op a b) l H₂ Q E) E) E) : jF G A c (eval (.BinOp x op y pos) c.env) l H Q E :=
  jE fun _ _ S => wpAny_BinOp (jA h S fun _ _ _ _ S₁ h₁ => jA h₁ S₁ fun _ _ _ _ S₂ h₂ => jU h₂ S₂)
theorem triV_Compare1 {x y : Expr} {op : CmpOp} {pos : Pos} {Q : Value → AH → Prop} (hm : behindInMarks op y = false)
    (h : jF G A c (eval x c.env) l H (fun a H₁ => jF G A c (eval y c.env) l H₁ (fun b H₂ => jF G A c (compareOp op a b) l H₂ Q E) E) E) : jF G A c (eval (.Compare x [op] [y] pos) c.env) l H Q E :=
  jE fun _ _ S => wpAny_Compare1 (jA h S fun _ _ _ _ S₁ h₁ => jA h₁ S₁ fun _ _ _ _ S₂ h₂ => jU h₂ S₂) hm
theorem nB {x : Expr} {op : UnaryOp} {pos : Pos} {Q : Value → AH → Prop}
    (h : jF G A c (eval x c.env) l H (fun a H₁ => jF G A c (unaryOp op a) l H₁ Q E) E) : jF G A c (eval (.UnaryOp op x pos) c.env) l H Q E :=
  jE fun _ _ S => wpAny_UnaryOp (jA h S fun _ _ _ _ S₁ h₁ => jU h₁ S₁)
theorem gF {v : Expr} {f : Str} {pos : Pos} {Q : Value → AH → Prop} (hb : attributeBase v f c.env (eval v c.env) = eval v c.env)
    (h : jF G A c (eval v c.env) l H (fun o H₁ => jF G A c (getAttr o f true) l H₁ Q E) E) : jF G A c (eval (.Attribute v f pos) c.env) l H Q E :=
  jE fun _ _ S => by
    rw [arm_eval_Attribute, hb]
    exact wpAny_bind (jA h S fun o g₁ s₁ H₁ S₁ h₁ => wpAny_bind (wpAny_standAt (wpAny_bind (wpAny_holding (jA h₁ S₁ fun r g₂ s₂ H₂ S₂ h₂ => wpAny_bind (wpAny_letTemporaryGo (wpAny_pure ⟨g₂, H₂, S₂, h₂⟩)))))))
theorem uF {v i : Expr} {pos : Pos} {Q : Value → AH → Prop}
    (h : jF G A c (eval v c.env) l H (fun o H₁ => jF G A c (eval i c.env) l H₁ (fun u H₂ => jF G A c (subscriptTail v i o u) l H₂ Q E) E) E) : jF G A c (eval (.Subscript v i pos) c.env) l H Q E :=
  jE fun _ _ S => Subscript_ (jA h S fun _ _ _ _ S₁ h₁ => jA h₁ S₁ fun _ _ _ _ S₂ h₂ => jU h₂ S₂)
variable {x y : Int} {t u : Tok} {Q : Value → AH → Prop}
theorem triV_add_int (h : ∀ tk, Q (.int (x + y) tk) H) : jF G A c (binaryOp .Add (.int x t) (.int y u)) l H Q E := zO h fun _ _ r => by with_reducible exact PyProof.Rows.add_int (r _ _)
theorem triV_sub_int (h : ∀ tk, Q (.int (x - y) tk) H) : jF G A c (binaryOp .Sub (.int x t) (.int y u)) l H Q E := zO h fun _ _ r => by with_reducible exact PyProof.Rows.sub_int (r _ _)
theorem triV_mul_int (hm : IntMulOk x y) (h : ∀ tk, Q (.int (x * y) tk) H) : jF G A c (binaryOp .Mult (.int x t) (.int y u)) l H Q E := zO h fun _ _ r => by with_reducible exact PyProof.Rows.mul_int (r _ _) hm
theorem triV_mod_int (hy : y ≠ 0) (h : ∀ tk, Q (.int (x.fmod y) tk) H) : jF G A c (binaryOp .Mod (.int x t) (.int y u)) l H Q E := zO h fun _ _ r => by with_reducible exact PyProof.Rows.mod_int' hy (r _ _)
theorem triV_pow_int (h0 : 0 ≤ y) (h1 : y ≤ 1000000) (h2 : x.natAbs < 2 ^ 64) (h : ∀ tk, Q (.int (x ^ y.toNat) tk) H) : jF G A c (binaryOp .Pow (.int x t) (.int y u)) l H Q E := zO h fun _ _ r => by with_reducible exact PyProof.Rows.pow_int_small h0 h1 h2 (r _ _)
theorem triV_neg_int (h : ∀ tk, Q (.int (-x) tk) H) : jF G A c (unaryOp .USub (.int x t)) l H Q E := zO h fun _ _ r => by with_reducible exact PyProof.Rows.neg_int (r _ _)
end
theorem repM_not_tup {mo : MObj} {o : Obj} {vs : List Value} (r : RepM mo o) (e : o = kT vs) : False := by
  subst e
  cases mo with
  | list _ => obtain ⟨n, h⟩ := r; exact absurd (congrArg Obj.cls h) (by simp [kT])
  | inst _ _ => exact absurd (congrArg Obj.cls r) (by simp [kT])
  | dict _ => obtain ⟨es, n, h, _⟩ := r; exact absurd (congrArg Obj.cls h) (by simp [kT])
  | any _ => exact r.2 rfl
section
variable {pin : List (Addr × Obj)}
theorem kG {H : AH} {news : List (Addr × Obj)} {a : Addr} (i : H.In pin news) (hd : ∀ p ∈ news, p.1 ≠ a) : H.free a := by
  constructor
  · cases q : H.I a with
    | none => rfl
    | some vs => exact absurd rfl (hd _ (i.1 _ _ q))
  · cases q : H.M a with
    | none => rfl
    | some mo =>
      obtain ⟨o, _, hm⟩ := i.2 _ _ q
      exact absurd rfl (hd _ hm)
theorem wC {g h : Heap} {L : Addr} {news : List (Addr × Obj)} (N : News g L h news) : ∀ p ∈ news, p.1 ≠ h.objs.size := fun p hp => Nat.ne_of_lt (Heap.lt_size (N p hp).1)
theorem fG {H : AH} {g h : Heap} {L : Addr} {news : List (Addr × Obj)} (N : News g L h news) (i : H.In pin news) : H.free h.objs.size := kG i (wC N)
theorem free_setI {H : AH} {a b : Addr} {vs : List Value} (h : H.free b) (n : b ≠ a) : (H.setI a vs).free b := ⟨by simp only [AH.setI, if_neg n]; exact h.1, h.2⟩
theorem free_setM {H : AH} {a b : Addr} {mo : MObj} (h : H.free b) (n : b ≠ a) : (H.setM a mo).free b := ⟨h.1, by simp only [AH.setM, if_neg n]; exact h.2⟩
theorem fF {H : AH} {a : Addr} {vs : List Value} {news : List (Addr × Obj)} (hd : ∀ p ∈ news, p.1 ≠ a) (i : H.In pin news) : (H.setI a vs).In pin ((a, kT vs) :: news) := by
  refine ⟨fun b us h => ?_, fun b mo h => ?_, fun q h => ?_⟩
  · by_cases e : b = a
    · subst e; simp only [AH.setI, if_true] at h; cases h; exact .head _
    · simp only [AH.setI, if_neg e] at h; exact .tail _ (i.1 b us h)
  · obtain ⟨o, r, hm⟩ := i.2 b mo h
    exact ⟨o, r, .tail _ hm⟩
  · obtain ⟨x, y, z⟩ := i.pins q h
    exact ⟨.tail _ x, y, free_setI z (hd q x)⟩
theorem vX {H : AH} {a : Addr} {mo : MObj} {o : Obj} {news : List (Addr × Obj)} (hd : ∀ p ∈ news, p.1 ≠ a) (i : H.In pin news) (r : RepM mo o) : (H.setM a mo).In pin ((a, o) :: news) := by
  refine ⟨fun b us h => .tail _ (i.1 b us h), fun b mo' h => ?_, fun q h => ?_⟩
  · by_cases e : b = a
    · subst e; simp only [AH.setM, if_true] at h; cases h; exact ⟨o, r, .head _⟩
    · simp only [AH.setM, if_neg e] at h
      obtain ⟨o', r', hm⟩ := i.2 b mo' h
      exact ⟨o', r', .tail _ hm⟩
  · obtain ⟨x, y, z⟩ := i.pins q h
    exact ⟨.tail _ x, y, free_setM z (hd q x)⟩
theorem in_split {H : AH} {g h : Heap} {L d : Addr} {news : List (Addr × Obj)} {mo : MObj} (N : News g L h news) (i : H.In pin news) (hd : H.M d = some mo) :
    ∃ o rest, RepM mo o ∧ News g L h ((d, o) :: rest) ∧ (∀ p ∈ rest, p.1 ≠ d) ∧ (∀ mo' o', RepM mo' o' → (H.setM d mo').In pin ((d, o') :: rest)) ∧ H.In pin ((d, o) :: rest) := by
  obtain ⟨o, r, hm⟩ := i.2 d mo hd
  have one : ∀ {o' : Obj}, (d, o') ∈ news → o' = o := fun hm' => by
    have a := (N _ hm).1
    have b := (N _ hm').1
    exact Option.some.inj (b.symm.trans a)
  have key : ∀ (mo' : MObj) (o' : Obj), RepM mo' o' → (H.setM d mo').In pin ((d, o') :: news.filter (fun p => decide (p.1 ≠ d))) := fun mo' o' r' => by
    refine ⟨fun b us h => ?_, fun b mo'' h => ?_, fun q h => ?_⟩
    · have hb := i.1 b us h
      have ne : b ≠ d := fun e => by subst e; exact repM_not_tup r (one hb).symm
      exact .tail _ (List.mem_filter.mpr ⟨hb, decide_eq_true ne⟩)
    · by_cases e : b = d
      · subst e; simp only [AH.setM, if_true] at h; cases h; exact ⟨o', r', .head _⟩
      · simp only [AH.setM, if_neg e] at h
        obtain ⟨o'', r'', hm''⟩ := i.2 b mo'' h
        exact ⟨o'', r'', .tail _ (List.mem_filter.mpr ⟨hm'', decide_eq_true e⟩)⟩
    · obtain ⟨x, y, z⟩ := i.pins q h
      have ne : q.1 ≠ d := fun e => by rw [e] at z; rw [z.2] at hd; cases hd
      exact ⟨.tail _ (List.mem_filter.mpr ⟨x, decide_eq_true ne⟩), y, free_setM z ne⟩
  have self : H.setM d mo = H := by
    cases H
    simp only [AH.setM, AH.mk.injEq, true_and] at hd ⊢
    funext b
    by_cases e : b = d
    · subst e; rw [if_pos rfl]; exact hd.symm
    · rw [if_neg e]
  refine ⟨o, news.filter (fun p => decide (p.1 ≠ d)), r, fun p hp => ?_, fun p hp => of_decide_eq_true (List.mem_filter.mp hp).2, key, self ▸ key mo o r⟩
  rcases List.mem_cons.mp hp with rfl | hp
  · exact N _ hm
  · exact N _ (List.mem_filter.mp hp).1
end
section
variable {G : Gl} {A : Around} {c : Fx} {α β : Type} {l l' : List (Option Value)} {H H' : AH} {E : Value → Shared → Prop} {Q : Value → AH → Prop} {g : Heap} {s s' : Shared}
theorem FS.next (S : FS G c g s l H) {m : Str → Option Value} (F' : Fr g c.L s'.heap m) (r : uO c.ns l' m) {news : List (Addr × Obj)} (N' : News g c.L s'.heap news) (i : H'.In c.pin news) (k : Same s s') : FS G c g s' l' H' :=
  ⟨S.B, ⟨m, F', r⟩, S.XB, S.TB, S.D, S.T0, ⟨news, N', i⟩, S.same.trans k⟩
theorem kO {vs : List Value} (hz : vs.length ≤ sizeLine) (h : ∀ r, H.free r → Q (.ref r) (H.setI r vs)) : jF G A c (newTuple vs) l H Q E := jE fun g s S => by
  refine S.opn fun m news F r N i => ?_
  exact newTuple_N F N (fun h' F' N' => ⟨g, _, S.next F' r N' (fF (wC N) i) ⟨rfl, rfl, rfl⟩, h _ (fG N i)⟩) hz
theorem triV_newList {vs : List Value} (hz : vs.length ≤ sizeLine) (h : ∀ r, H.free r → Q (.ref r) (H.setM r (.list vs))) : jF G A c (newList vs) l H Q E := jE fun g s S => by
  refine S.opn fun m news F r N i => ?_
  exact newList_N F N (fun h' F' N' => ⟨g, _, S.next F' r N' (vX (mo := .list vs) (wC N) i ⟨0, rfl⟩) ⟨rfl, rfl, rfl⟩, h _ (fG N i)⟩) hz
theorem isStr_of {e : DictEntry} {f : Str × Value} (r : EntRep f e) (n : Str) : e.key.isStr n = (f.1 == n) := by
  obtain ⟨_, t, h⟩ := r
  rw [h]; rfl
theorem refKey_of {e : DictEntry} {f : Str × Value} (r : EntRep f e) : e.refKey = false := by
  obtain ⟨_, t, h⟩ := r
  simp [DictEntry.refKey, h]
theorem ents_refKey {fs : List (Str × Value)} {es : List DictEntry} (r : EntsRep fs es) : es.any (·.refKey) = false := by
  induction r with
  | nil => rfl
  | cons a _ ih => rw [List.any_cons, refKey_of a, ih]; rfl
theorem getL_of {fs : List (Str × Value)} {es : List DictEntry} (r : EntsRep fs es) (n : Str) : getL n es = some (lk n fs) := by
  have key : (match es.find? (·.key.isStr n) with | some e => some (some e.val) | none => some none) = some (lk n fs) := by
    induction r with
    | nil => rfl
    | @cons f e fs es a _ ih =>
      obtain ⟨k, u⟩ := f
      rw [List.find?_cons, isStr_of a n]
      by_cases hk : k = n
      · subst hk
        have : ((k, u).1 == k) = true := beq_self_eq_true k
        rw [this]
        simp only [lk1, if_true]
        rw [a.1]
      · have : ((k, u).1 == n) = false := beq_eq_false_iff_ne.mpr hk
        rw [this]
        simp only [lk1, if_neg hk]
        exact ih
  rw [← key]
  unfold getL
  rw [ents_refKey r]
  cases es.find? (·.key.isStr n) <;> rfl
theorem putL_of {fs : List (Str × Value)} {es : List DictEntry} (r : EntsRep fs es) (n : Str) (hs : Int) (t : Tok) (v : Value) : EntsRep (pt n v fs) (putL n hs (.str n t) v es) := by
  induction r with
  | nil => exact .cons ⟨rfl, t, rfl⟩ .nil
  | @cons f e fs es a rr ih =>
    obtain ⟨k, u⟩ := f
    unfold putL
    rw [isStr_of a n]
    by_cases hk : k = n
    · subst hk
      have : ((k, u).1 == k) = true := beq_self_eq_true k
      rw [if_pos this]
      simp only [pt1, if_true]
      exact .cons ⟨rfl, a.2⟩ rr
    · have : ¬ ((k, u).1 == n) = true := fun h => hk (eq_of_beq h)
      rw [if_neg this]
      simp only [pt1, if_neg hk]
      exact .cons a ih
theorem ents_length {fs : List (Str × Value)} {es : List DictEntry} (r : EntsRep fs es) : es.length = fs.length := by
  induction r with
  | nil => rfl
  | cons _ _ ih => rw [List.length_cons, List.length_cons, ih]
theorem pt_length (n : Str) (v : Value) : ∀ fs : List (Str × Value), (pt n v fs).length ≤ fs.length + 1
  | [] => Nat.le_refl _
  | (k, u) :: r => by
    unfold pt
    split
    · exact Nat.le_succ _
    · exact Nat.succ_le_succ (pt_length n v r)
theorem gP {C : Addr} {v : Value} {d : Addr} {fs : List (Str × Value)} (h : qC H C v = some (d, fs)) : ∃ x, v = .ref x ∧ H.M x = some (.inst C d) ∧ H.M d = some (.dict fs) := by
  cases v with
  | ref x =>
    dsimp only [qC] at h
    refine isInstO_ h fun C' d' hx h => ?_
    by_cases hC : C' = C
    · rw [if_pos hC] at h
      refine isDictO_ h fun fs' hd h => ?_
      cases h
      exact ⟨x, rfl, hC ▸ hx, hd⟩
    · rw [if_neg hC] at h; cases h
  | _ => cases h
noncomputable def getOk (K : Frag) (C : Addr) (f : Str) : Bool := plainGet K C f && hasDictIn K C && (match findIn K (.ref C) f with | some attr => noGet K attr | none => false)
noncomputable def setOk (K : Frag) (C : Addr) (f : Str) : Bool := findIn K (.ref C) "__setattr__" == some (some (.builtin "object.__setattr__")) && plainOver K C && takerIn K C f == some none && hasDictIn K C
noncomputable def methOk (K : Frag) (C : Addr) (n : Str) (f : Addr) : Bool := plainGet K C n && findIn K (.ref C) n == some (some (.ref f)) && isFn K (.ref f) && keepIn K (.ref f)
theorem pX {C : Addr} {v : Value} {f : Str} {b : Bool} (ok : getOk G.K C f = true) (h : jY C v f H Q) : jF G A c (getAttr v f b) l H Q E := jE fun g s S => by
  refine S.opn fun m news F r N i => ?_
  dsimp only [jY] at h
  refine isInst_ h fun d fs hi q => isSomeV_ q fun u hu q => ?_
  obtain ⟨x, rfl, hx, hd⟩ := gP hi
  obtain ⟨ox, rx, mx⟩ := i.2 _ _ hx
  obtain ⟨od, rd, md⟩ := i.2 _ _ hd
  obtain rfl : ox = instObj C d := rx
  obtain ⟨es, n, rfl, re⟩ := rd
  simp only [getOk, Bool.and_eq_true] at ok
  obtain ⟨⟨k1, k2⟩, k3⟩ := ok
  cases ha : findIn G.K (.ref C) f with
  | none => rw [ha] at k3; cases k3
  | some attr =>
    rw [ha] at k3
    exact get_own F S.X (InstAt.of_news N mx md) k1 k2 ha k3 (by rw [getL_of re, hu]) q.1 ⟨g, H, S.toks _, q.2⟩
theorem nA {C : Addr} {v u : Value} {f : Str} {Q : Unit → AH → Prop} (ok : setOk G.K C f = true) (h : qT C v f u H (Q ())) : jF G A c (setAttr v f u) l H Q E := jE fun g s S => by
  refine S.opn fun m news F r N i => ?_
  dsimp only [qT] at h
  refine isInst_ h fun d fs hi q => ?_
  obtain ⟨x, rfl, hx, hd⟩ := gP hi
  obtain ⟨od, rest, rd, N₁, ne, put, i₁⟩ := in_split N i hd
  obtain ⟨ox, rx, mx⟩ := i₁.2 _ _ hx
  obtain rfl : ox = instObj C d := rx
  obtain ⟨es, n, rfl, re⟩ := rd
  simp only [setOk, Bool.and_eq_true, beq_iff_eq] at ok
  obtain ⟨⟨⟨k1, k2⟩, k3⟩, k4⟩ := ok
  have re' := putL_of re f (PyData.keyHash G.w.params f) (s.toks + 1) u
  refine set_dict F S.X N₁ (InstAt.of_news N₁ mx (.head _)) rfl k1 k2 k3 k4 (by rw [getL_of re]; rfl) rfl (Upd.head ne) ?_ fun h' F' N' => ?_
  · rw [ents_length re']
    have := pt_length f u fs
    have := q.1
    lia
  · exact ⟨g, _, S.next F' r N' (put (.dict (pt f u fs)) _ ⟨_, _, rfl, re'⟩) ⟨rfl, rfl, rfl⟩, q.2⟩
end
section
variable {G : Gl} {A : Around} {c : Fx} {α β : Type} {l l' : List (Option Value)} {H H' : AH} {E : Value → Shared → Prop} {Q : Value → AH → Prop} {g : Heap} {s s' : Shared}
theorem kX {v : Value} {Q : Bool → AH → Prop} (h : jW v H Q) : jF G A c (truthy v) l H Q E := by
  unfold jW pL at h
  cases v with
  | bool b => exact jT h fun s R r => wpAny_truthy_bool r
  | none => exact jT h fun s R r => by with_reducible exact truthy_none r
  | int x t => exact jT h fun s R r => by with_reducible exact PyProof.Rows.truthy_int r
  | _ => exact h.elim
theorem FS.tup (S : FS G c g s l H) {a : Addr} {vs : List Value} (h : H.I a = some vs) : s.heap.get? a = some (kT vs) := by
  obtain ⟨news, N, i⟩ := S.led
  exact (N _ (i.1 _ _ h)).1
theorem FS.isTup (S : FS G c g s l H) {a : Addr} {vs : List Value} (h : H.I a = some vs) : IsTup s.heap a vs.toArray := ⟨_, S.tup h, rfl, 0, rfl⟩
theorem FS.lst (S : FS G c g s l H) {a : Addr} {vs : List Value} (h : H.M a = some (.list vs)) : ∃ n, s.heap.get? a = some (listOf vs.toArray n) := by
  obtain ⟨news, N, i⟩ := S.led
  obtain ⟨o, ⟨n, rfl⟩, hm⟩ := i.2 _ _ h
  exact ⟨n, (N _ hm).1⟩
theorem FS.isList (S : FS G c g s l H) {a : Addr} {vs : List Value} (h : H.M a = some (.list vs)) : s.heap.IsList a vs.toArray := by
  obtain ⟨n, e⟩ := S.lst h
  exact ⟨_, e, rfl, n, rfl⟩
theorem FS.items (S : FS G c g s l H) {a : Addr} {vs : List Value} (h : vW H a vs) : IsTup s.heap a vs.toArray ∨ s.heap.IsList a vs.toArray := h.elim (fun h => .inl (S.isTup h)) (fun h => .inr (S.isList h))
theorem add_refs {a b : Addr} {xs ys : List Value} (h1 : H.I a = some xs) (h2 : H.I b = some ys) (h : xs.length + ys.length ≤ 1000 ∧ (xs = [] → Q (.ref b) H) ∧ (xs ≠ [] → ys = [] → Q (.ref a) H) ∧ (xs ≠ [] → ys ≠ [] → ∀ r, H.free r → Q (.ref r) (H.setI r (xs ++ ys)))) : jF G A c (binaryOp .Add (.ref a) (.ref b)) l H Q E := by
      obtain ⟨hz, h0, h3, h4⟩ := h
      exact jE fun g s S => by
        refine S.opn fun m news F r N i => ?_
        with_reducible exact add_tuples F N (S.isTup h1) (S.isTup h2) (fun e => ⟨g, H, S, h0 e⟩) (fun e e' => ⟨g, H, S, h3 e e'⟩) (fun e e' h' F' N' => ⟨g, _, S.next F' r N' (fF (wC N) i) ⟨rfl, rfl, rfl⟩, h4 e e' _ (fG N i)⟩) (by rw [sizeLine_eq]; lia)
theorem pY {op : Operator} {a b : Value} (h : kA op a b H Q) : jF G A c (binaryOp op a b) l H Q E := by
  cases op <;> first | exact False.elim h | skip
  · refine isIntStrRef_ a h (fun x t h => zQ b h fun y u h => triV_add_int h) (fun x t h => xK b h fun y u h => zO h.2 fun _ _ r => by with_reducible exact PyProof.Rows.add_str (fun t' tk => r t' tk) h.1) fun a h => wD b h fun b h => ?_
    cases h1 : H.I a with
    | none => rw [h1] at h; exact h.elim
    | some xs => cases h2 : H.I b with
      | none => rw [h1, h2] at h; exact h.elim
      | some ys =>
        rw [h1, h2] at h
        exact add_refs h1 h2 h
  · exact zQ a h fun x t h => zQ b h fun y u h => triV_sub_int h
  · refine isIntStr_ a h (fun x t h => zQ b h fun y u h => triV_mul_int h.1 h.2) fun x t h => zQ b h fun y u h => ?_
    obtain ⟨⟨h1, h2, h3⟩, h⟩ := h
    exact zO h fun _ _ r => by with_reducible exact SB.mul (mulOk_of 16 1048576 (by lia) (by lia) h2 (by decide) (by decide)) fun t' tk => r t' tk
  · exact zQ a h fun x t h => zQ b h fun y u h => triV_mod_int h.1 h.2
  · exact zQ a h fun x t h => zQ b h fun y u h => triV_pow_int h.1.1 h.1.2.1 h.1.2.2 h.2
  · refine zQ a h fun x t h => zQ b h fun y u h => ?_
    obtain ⟨⟨h1, h2⟩, h⟩ := h
    exact zO h fun _ _ r => by with_reducible exact floordiv_int h1 (r _ _) (.inl (PyProof.noPylong_small h2))
end
section
variable {G : Gl} {A : Around} {c : Fx} {α β : Type} {l l' : List (Option Value)} {H H' : AH} {E : Value → Shared → Prop} {Q : Value → AH → Prop} {g : Heap} {s s' : Shared}
mutual
theorem gD (S : FS G c g s l H) : ∀ {v : Value} {d : PyData}, VD H v d → ∃ as, Reads s.heap v d as
  | _, _, .none => ⟨_, .none⟩
  | _, _, .int => ⟨_, .int _ _⟩
  | _, _, .str => ⟨_, .str _ _⟩
  | _, _, .tup (vs := vs) h r => by
    obtain ⟨as, R⟩ := rM S r
    exact ⟨_, .tuple (vs := vs.toArray) (S.tup h) rfl rfl (by simpa using R)⟩
  | _, _, .lst (vs := vs) h r => by
    obtain ⟨as, R⟩ := rM S r
    obtain ⟨n, e⟩ := S.lst h
    exact ⟨_, .list (vs := vs.toArray) e rfl rfl (by simpa using R)⟩
theorem rM (S : FS G c g s l H) : ∀ {vs : List Value} {ds : List PyData}, VDs H vs ds → ∃ as, ReadsAll s.heap vs ds as
  | _, _, .nil => ⟨_, .nil⟩
  | _, _, .cons a r => by
    obtain ⟨as, R⟩ := gD S a
    obtain ⟨bs, R'⟩ := rM S r
    exact ⟨_, .cons R R'⟩
end
theorem mY {v : Value} : ∀ {vs : List Value} {r : Bool}, yH v vs = some r → (∀ y ∈ vs, ∃ b, kQ y v = some b) ∧ r = vs.any (fun y => (kQ y v).getD false)
  | [], r, h => ⟨(fun _ h => nomatch h), by cases h; rfl⟩
  | u :: us, r, h => by
    rw [aF1] at h
    cases ha : kQ u v with
    | none => rw [ha] at h; cases h
    | some a =>
      cases hb : yH v us with
      | none => rw [ha, hb] at h; cases h
      | some b =>
        rw [ha, hb] at h
        have h := Option.some.inj h
        subst h
        obtain ⟨h1, h2⟩ := mY hb
        refine And.intro (fun y hy => ?_) ?_
        · rcases List.mem_cons.mp hy with rfl | hy
          · exact ⟨a, ha⟩
          · exact h1 y hy
        · rw [List.any_cons, ha, ← h2]; rfl
theorem flat_none {b : Bool} {p : Prop} (h : (none : Option Bool) = some b) : p := by cases h
theorem eqGives_flat {y v : Value} {b : Bool} (h : kQ y v = some b) : MeetsSeq.EqGives y v b := by
  cases y <;> first | exact flat_none h | skip
  · cases v <;> first | exact flat_none h | (cases h; exact MeetsSeq.EqGives.int _ _ _ _)
  · cases v <;> first | exact flat_none h | (cases h; exact eqGives_str _ _ _ _)
theorem uV {v : Value} {vs : List Value} {r : Bool} (h : yH v vs = some r) : ∀ y, y ∈ vs.toArray → MeetsSeq.EqGives y v ((kQ y v).getD false) := fun y hy => by
  obtain ⟨b, hb⟩ := (mY h).1 y (by simpa using hy)
  rw [hb]; exact eqGives_flat hb
theorem anyArr {v : Value} {vs : List Value} {r : Bool} (h : yH v vs = some r) : (vs.toArray.any fun y => (kQ y v).getD false) = r := by
  have e := (mY h).2
  rw [e]; simp
theorem triV_in {v : Value} {a : Addr} {vs : List Value} {r : Bool} (hi : vW H a vs) (hr : yH v vs = some r) (h : Q (.bool r) H) : jF G A c (compareOp .In v (.ref a)) l H Q E := jE fun g s S => by
  rcases hi with hI | hM
  · have q : s.heap.get? a = some { cls := .type "tuple", dict := none, data := .seq vs.toArray 0, slots := #[] } := S.tup hI
    with_reducible exact PySem.SeqRoads2.in_tuple _ (uV hr) q ((anyArr hr).symm ▸ ⟨g, H, S, h⟩)
  · obtain ⟨n, e'⟩ := S.lst hM
    with_reducible exact PySem.SeqRoads2.in_list _ (uV hr) e' ((anyArr hr).symm ▸ ⟨g, H, S, h⟩)
theorem triV_notIn {v : Value} {a : Addr} {vs : List Value} {r : Bool} (hi : vW H a vs) (hr : yH v vs = some r) (h : Q (.bool (!r)) H) : jF G A c (compareOp .NotIn v (.ref a)) l H Q E := jE fun g s S => by
  rcases hi with hI | hM
  · have q : s.heap.get? a = some { cls := .type "tuple", dict := none, data := .seq vs.toArray 0, slots := #[] } := S.tup hI
    with_reducible exact PySem.SeqRoads2.notIn_tuple _ (uV hr) q ((anyArr hr).symm ▸ ⟨g, H, S, h⟩)
  · obtain ⟨n, e'⟩ := S.lst hM
    with_reducible exact PySem.SeqRoads2.notIn_list _ (uV hr) e' ((anyArr hr).symm ▸ ⟨g, H, S, h⟩)
theorem triV_eq {a b : Value} (hu : A.units + 64 < cLine) (h : eqVC a b H fun r => Q (.bool r) H) : jF G A c (compareOp .Eq a b) l H Q E := by
  obtain ⟨d, d', h1, h2, h3, h4, h⟩ := h
  exact jE fun g s S => by
    obtain ⟨as, ra⟩ := gD S h1
    obtain ⟨bs, rb⟩ := gD S h2
    with_reducible exact eq_dataH ra rb h3 h4 hu ⟨g, H, S, h⟩
theorem triV_ne {a b : Value} (hu : A.units + 64 < cLine) (h : eqVC a b H fun r => Q (.bool (!r)) H) : jF G A c (compareOp .NotEq a b) l H Q E := by
  obtain ⟨d, d', h1, h2, h3, h4, h⟩ := h
  exact jE fun g s S => by
    obtain ⟨as, ra⟩ := gD S h1
    obtain ⟨bs, rb⟩ := gD S h2
    with_reducible exact ne_dataH ra rb h3 h4 hu ⟨g, H, S, h⟩
theorem yF {op : CmpOp} {a b : Value} (hu : A.units + 64 < cLine) (h : yR op a b H Q) : jF G A c (compareOp op a b) l H Q E := by
  cases op
  · dsimp only [yR] at h
    exact isEq_ (m2 := fun a b => jF G A c (compareOp .Eq a b) l H Q E) a b h (fun _ _ _ _ h => jT h fun s R r => by with_reducible exact PyProof.Rows.eq_int r) (fun _ _ _ _ h => jT h fun s R r => by with_reducible exact PyProof.Rows.eq_str r) fun _ _ h => triV_eq hu h
  · dsimp only [yR] at h
    exact isEq_ (m2 := fun a b => jF G A c (compareOp .NotEq a b) l H Q E) a b h (fun _ _ _ _ h => jT h fun s R r => by with_reducible exact PyProof.Rows.ne_int r) (fun _ _ _ _ h => jT h fun s R r => by with_reducible exact PyProof.Rows.ne_str r) fun _ _ h => triV_ne hu h
  · exact zQ a h fun x t h => zQ b h fun y u h => jT h fun s R r => by with_reducible exact PyProof.Rows.lt_int r
  · exact zQ a h fun x t h => zQ b h fun y u h => jT h fun s R r => by with_reducible exact PyProof.Rows.le_int r
  · exact zQ a h fun x t h => zQ b h fun y u h => jT h fun s R r => by with_reducible exact PyProof.Rows.gt_int r
  · exact zQ a h fun x t h => zQ b h fun y u h => jT h fun s R r => by with_reducible exact PyProof.Rows.ge_int r
  · exact isNone_ b h fun h => jT h fun s R r => by with_reducible exact is_none r
  · exact isNone_ b h fun h => jT h fun s R r => by with_reducible exact isNot_none r
  · refine pQ b h (fun x t h => xK a h fun y u h => jT (v := Value.bool !(Builtin.Str.occurrences _ _ 0 _ 1).isEmpty) h fun s R r => by with_reducible exact PyProof.Rows.in_str r) fun b h => ?_
    obtain ⟨vs, hi, h⟩ := h
    cases hr : yH a vs with
    | none => rw [hr] at h; exact h.elim
    | some r => rw [hr] at h; exact triV_in hi hr h.2
  · refine pQ b h (fun x t h => xK a h fun y u h => jT (v := Value.bool (!(!(Builtin.Str.occurrences _ _ 0 _ 1).isEmpty))) h fun s R r => by with_reducible exact PyProof.Rows.notIn_str r) fun b h => ?_
    obtain ⟨vs, hi, h⟩ := h
    cases hr : yH a vs with
    | none => rw [hr] at h; exact h.elim
    | some r => rw [hr] at h; exact triV_notIn hi hr h.2
end
theorem pP (value : Expr) (x : Str) (t : Tok) (r : Value) : letTemporaryGo value (.str x t) r = pure () := by cases value <;> rfl
theorem seqIndex_pos {k : Int} {n : Nat} (h0 : 0 ≤ k) (h : k.toNat < n) : seqIndex? k n = some k.toNat := by
  have e : (if k < 0 then k + (n : Int) else k) = k := if_neg (by lia)
  have a : decide (0 ≤ k) = true := decide_eq_true h0
  have b : decide (k < (n : Int)) = true := decide_eq_true (by lia)
  simp only [seqIndex?, e, a, b, Bool.and_self, if_true]
noncomputable def uT : Expr → Bool
  | .Slice .. => false
  | _ => true
theorem yV {slice : Expr} {o i : Value} (h : uT slice = true) : subscripted slice false o i = operate [o, i] (getItem o i) := by
  cases slice <;> first | rfl | cases h
section
variable {G : Gl} {A : Around} {c : Fx} {α β : Type} {l l' : List (Option Value)} {H H' : AH} {E : Value → Shared → Prop} {Q : Value → AH → Prop} {g : Heap} {s s' : Shared}
theorem triV_sub {value slice : Expr} {o i : Value} (hn : uT slice = true) (h : nF o i H Q) : jF G A c (subscriptTail value slice o i) l H Q E := by
  refine zQ i h fun k u h => pQ o h (fun x t h => ?_) fun a h => ?_
  · obtain ⟨⟨h1, h2, h3⟩, h⟩ := h
    exact zO h fun s R r => by with_reducible exact item_str (fitsSsize_of (N := 9223372036854775808) (by lia) (by lia) (Int.le_refl _)) h2 h3 (fun _ => r _ _) (yV hn) (pP _ _ _)
  · obtain ⟨vs, hi, ⟨h0, h1⟩, h⟩ := h
    refine isSomeV_ h fun v hv h => jE fun g s S => ?_
    have h63 : k < 2 ^ 63 := by lia
    rcases S.items hi with ht | hl
    · have hlt : k.toNat < vs.length := (List.getElem?_eq_some_iff.mp hv).1
      with_reducible exact item_tupleT ht (by lia) h63 (j := k.toNat) (seqIndex_pos h0 hlt) hv ⟨g, H, S, h⟩ (yV hn)
    · with_reducible exact tail_any hl.typeIs slot_list_getitem.lookup (wpAny_getItem_list hl h0 h63 (by simpa using hv) ⟨g, H, S, h⟩) (yV hn)
end
section
variable {prog : Program} {w : World} {A : Around} {E : Value → Shared → Prop} {s : Shared}
inductive IdxIs : Value → Option Int → Prop
  | none : IdxIs .none none
  | int {k : Int} {t : Tok} : IdxIs (.int k t) (some k)
theorem idx_is {v : Value} {i : Option Int} (h : gQ v = some i) : IdxIs v i := by cases v <;> first | (cases h; done) | (cases h; constructor)
theorem nH {v : Value} {i : Option Int} (hv : gQ v = some i) {Q : Option Int → Shared → Prop} (h : Q i s) : wpAny (model prog w) A (Builtin.Slice.slicePartIndex v) Q E s := by
  cases idx_is hv with
  | none => exact slicePart_none h
  | int => exact slicePart_int h
theorem min_to {x : Int} {n : Nat} (h0 : ¬ x < 0) (h : x.toNat ≤ n) : min x (n : Int) = (x.toNat : Int) := by
  have e := Int.toNat_of_nonneg (Int.not_lt.mp h0)
  rw [e]
  exact Int.min_eq_left (by rw [← e]; exact Int.ofNat_le.mpr h)
theorem adjust_of {i j : Option Int} {n : Nat} (hi : 0 ≤ i.getD 0) (hj : 0 ≤ j.getD 0) (h1 : qZ i ≤ kF n j) (h2 : kF n j ≤ n) : Builtin.Slice.sliceAdjust i j 1 (n : Int) = ((qZ i : Int), (kF n j : Int)) := by
  unfold Builtin.Slice.sliceAdjust
  have h0 : ¬ ((1 : Int) < 0) := by lia
  cases i with
  | none => cases j with
    | none => simp [h0, qZ, kF]
    | some y =>
      simp only [Option.getD_some, Option.getD_none, kF, qZ] at *
      have : ¬ y < 0 := by lia
      simp only [h0, this, if_false, Prod.mk.injEq]
      exact ⟨rfl, min_to this h2⟩
  | some x => cases j with
    | none =>
      simp only [Option.getD_some, kF, qZ] at *
      have : ¬ x < 0 := by lia
      simp only [h0, this, if_false, Prod.mk.injEq, and_true]
      exact min_to this h1
    | some y =>
      simp only [Option.getD_some, Option.getD_none, kF, qZ] at *
      have a : ¬ x < 0 := by lia
      have b : ¬ y < 0 := by lia
      simp only [h0, a, b, if_false, Prod.mk.injEq]
      exact ⟨min_to a (Nat.le_trans h1 h2), min_to b h2⟩
theorem places_of (a b : Nat) (h : a ≤ b) : Builtin.Slice.slicePlaces (a : Int) (b : Int) 1 = b - a := by
  unfold Builtin.Slice.slicePlaces
  have h1 : (1 : Int) > 0 := by lia
  simp only [h1, if_true, Int.ediv_one]
  split <;> lia
theorem sliceApplied_of {sl : Addr} {lo hi : Value} {i j : Option Int} {n : Nat} {Q : Int × Int × Nat → Shared → Prop} (hs : s.heap.IsSliceOf sl lo hi .none) (hl : gQ lo = some i) (hh : gQ hi = some j)
    (hi : 0 ≤ i.getD 0) (hj : 0 ≤ j.getD 0) (h1 : qZ i ≤ kF n j) (h2 : kF n j ≤ n) (h : Q ((qZ i : Int), 1, kF n j - qZ i) s) :
    wpAny (model prog w) A (Builtin.Slice.sliceApplied (.ref sl) (pure (n : Int))) Q E s := by
  obtain ⟨os, hos, hcs, hds⟩ := id hs
  unfold Builtin.Slice.sliceApplied Builtin.Slice.sliceFields
  refine wpAny_bind (wpAny_bind (wpAny_field hos hds (x := lo) rfl (wpAny_bind (wpAny_field hos hds rfl (wpAny_bind (wpAny_field hos hds (x := .none) rfl (wpAny_pure ?_)))))))
  refine wpAny_bind (slicePart_none ?_)
  show wpAny _ _ (if ((1 : Int) == 0) = true then _ else _) _ _ s
  rw [if_neg (by decide)]
  refine wpAny_bind (nH hl (wpAny_bind (nH hh (wpAny_bind (wpAny_pure ?_)))))
  show wpAny _ _ (match Builtin.Slice.sliceAdjust i j 1 (n : Int) with | (lo, hi) => pure (lo, (1 : Int), Builtin.Slice.slicePlaces lo hi 1)) _ _ s
  rw [adjust_of hi hj h1 h2]
  show wpAny _ _ (pure ((qZ i : Int), (1 : Int), Builtin.Slice.slicePlaces (qZ i : Int) (kF n j : Int) 1)) _ _ s
  rw [places_of _ _ h1]
  exact wpAny_pure h
theorem pick_of (xs : Array Value) (a b : Nat) (_h : a ≤ b) : ((List.range (b - a)).filterMap fun (k : Nat) => xs[((a : Int) + (k : Int) * 1).toNat]?).toArray = ((xs.toList.take b).drop a).toArray := by
  have e : (fun (k : Nat) => xs[((a : Int) + (k : Int) * 1).toNat]?) = fun k => xs[a + k]? := by
    funext k
    have : ((a : Int) + (k : Int) * 1).toNat = a + k := by lia
    rw [this]
  rw [e]
  have := pick_run xs a (b - a)
  rw [List.filterMap_map] at this
  have e2 : ((fun x => xs[x]?) ∘ fun x => a + x) = fun k => xs[a + k]? := rfl
  rw [e2] at this
  rw [this, List.drop_take]
theorem vP {t sl : Addr} {items : Array Value} {lo hi : Value} {i j : Option Int} {Q : Value → Shared → Prop} (ht : IsTup s.heap t items) (hs : s.heap.IsSliceOf sl lo hi .none) (hl : gQ lo = some i) (hh : gQ hi = some j)
    (hi : 0 ≤ i.getD 0) (hj : 0 ≤ j.getD 0) (h1 : qZ i ≤ kF items.size j) (h2 : kF items.size j ≤ items.size)
    (h : Q (.ref s.heap.objs.size) { s with heap := s.heap.push { cls := .type "tuple", data := .seq ((items.toList.take (kF items.size j)).drop (qZ i)).toArray } })
    (hsame : qZ i = 0 → kF items.size j = items.size → Q (.ref t) s)
    (hsz : items.size ≤ sizeLine) : wpAny (model prog w) A (getItem (.ref t) (.ref sl)) Q E s := by
  have hdrop : sizeOk (.seq ((items.toList.take (kF items.size j)).drop (qZ i)).toArray) := by
    show ((items.toList.take (kF items.size j)).drop (qZ i)).toArray.size ≤ sizeLine
    rw [List.size_toArray, List.length_drop, List.length_take, Array.length_toList]
    lia
  obtain ⟨os, hos, hcs, hds⟩ := id hs
  have hTs : s.TypeIs (.ref sl) "slice" := ⟨os, hos, hcs⟩
  unfold getItem
  try with_reducible refine wpAny_holding ?_
  first | refine wpAny_bind (wpAny_pure ?_) | skip
  refine wpAny_bind (wpAny_sequenceKey ht.typeIs (by decide) ?_)
  refine wpAny_bind (wpAny_callSpecial?_slot (name := Str.ofString "__getitem__") ht.typeIs slot_tuple_getitem
    (wpAny_call_entry slot_tuple_getitem ht.typeIs entry_tuple_getitem ?_ (args_tuple_getitem _ _)))
  show wpAny _ _ (Builtin.Tuple.tupleItemsOf (.ref t) >>= _) _ _ s
  refine wpAny_bind (tupleItemsOf_ ht ?_)
  refine wpAny_bind (wpAny_typeOf hTs ?_)
  rw [if_pos (by decide)]
  refine wpAny_bind (sliceApplied_of hs hl hh hi hj h1 h2 ?_)
  show wpAny _ _ (if ((qZ i : Int) == 0 && (1 : Int) == 1 && (kF items.size j - qZ i) == items.size) = true then _ else _) _ _ s
  by_cases hc : qZ i = 0 ∧ kF items.size j = items.size
  · have hyes : ((qZ i : Int) == 0 && (1 : Int) == 1 && (kF items.size j - qZ i) == items.size) = true := by
      rw [hc.1, hc.2]; simp
    rw [if_pos hyes]
    first
      | (refine wpAny_bind (m := Builtin.Tuple.tupleIsExact _) (wpAny_bind (wpAny_typeOf ht.typeIs (wpAny_pure ?_)))
         rw [if_pos (by decide)]
         refine wpAny_bind (wpAny_rule ?_)
         exact wpAny_pure ⟨_, rfl, wpAny_pure (hsame hc.1 hc.2)⟩)
  · have hno : ¬ (((qZ i : Int) == 0 && (1 : Int) == 1 && (kF items.size j - qZ i) == items.size) = true) := by
      simp only [Bool.and_eq_true, beq_iff_eq]
      rintro ⟨⟨a, _⟩, b⟩
      exact hc ⟨by lia, by lia⟩
    rw [if_neg hno, pick_of items _ _ h1]
    first
      | exact wpAny_bind (m := Builtin.Tuple.tupleExact _) (wpAny_newObj_type (wpAny_pure ⟨_, rfl, wpAny_pure h⟩) hdrop)
      | exact wpAny_bind (m := Builtin.Tuple.tupleExact _) (wpAny_newObj_type (wpAny_bind (wpAny_pure (wpAny_pure ⟨_, rfl, wpAny_pure h⟩))) hdrop)
      | exact wpAny_bind (wpAny_bind (m := Builtin.Tuple.tupleExact _) (wpAny_newObj_type (wpAny_pure (wpAny_pure ⟨_, rfl, wpAny_pure h⟩)) hdrop))
      | exact wpAny_bind (wpAny_bind (m := Builtin.Tuple.tupleExact _) (wpAny_newObj_type (wpAny_pure ⟨_, rfl, wpAny_pure h⟩) hdrop))
end
section
variable {G : Gl} {A : Around} {c : Fx} {l : List (Option Value)} {H : AH} {E : Value → Shared → Prop} {Q : Value → AH → Prop}
theorem slice_tail {value : Expr} {lo hi : Option Expr} {p : Pos} {o x y : Value} {g : Heap} {s : Shared} (S : FS G c g s l H) (h : wP o x y H Q) :
    wpAny (model G.prog G.w) A (subscriptTail value (.Slice lo hi none p) o (.ref s.heap.objs.size)) (fun v s' => ∃ g' H', FS G c g' s' l H' ∧ Q v H') E
      { s with heap := s.heap.push { cls := .type "slice", data := .fields #[x, y, .none] } } := by
  refine S.opn fun m news F r N i => ?_
  dsimp only [wP] at h
  refine isSomeI_ h fun ix hx h => isSomeI_ h fun iy hy h => pQ o h (fun u t h => ?_) fun a h => rA h fun vs hI h => ?_
  · obtain ⟨hz, h⟩ := h
    have fin : ∀ h' t' k, Fr g c.L h' m → News g c.L h' news → ∃ g' H', FS G c g' { s with heap := h', toks := k } l H' ∧ Q (.str (Txt.slice u ix iy) t') H' := fun h' t' k F' N' => ⟨g, H, S.next F' r N' i ⟨rfl, rfl, rfl⟩, h t'⟩
    cases idx_is hx with
    | none => cases idx_is hy with
      | none => with_reducible exact slice_strN_nn F N (fun h' t' k a b => fin h' t' k a b) rfl (pP _ _ _) hz
      | int => with_reducible exact slice_strN_ns F N (fun h' t' k a b => fin h' t' k a b) rfl (pP _ _ _) hz
    | int => cases idx_is hy with
      | none => with_reducible exact slice_strN_sn F N (fun h' t' k a b => fin h' t' k a b) rfl (pP _ _ _) hz
      | int => with_reducible exact slice_strN_ss F N (fun h' t' k a b => fin h' t' k a b) rfl (pP _ _ _) hz
  · obtain ⟨⟨h0, h1, h2, h3, h4⟩, hn, hs⟩ := h
    have ht := S.isTup hI
    have F1 := F.push { cls := .type "slice", data := .fields #[x, y, .none] }
    have N1 := N.grown (h' := s.heap.push { cls := .type "slice", data := .fields #[x, y, .none] }) fun _ _ e => Heap.get?_push_of_some _ e
    have ht' : IsTup (s.heap.push { cls := .type "slice", data := .fields #[x, y, .none] }) a vs.toArray := ht.keeps fun _ _ e => Heap.get?_push_of_some _ e
    have S1 : FS G c g { s with heap := s.heap.push { cls := .type "slice", data := .fields #[x, y, .none] } } l H := S.next F1 r N1 i ⟨rfl, rfl, rfl⟩
    have hsz : vs.toArray.size = vs.length := List.size_toArray
    refine tail_any (ops := [.ref s.heap.objs.size, .ref a]) (s := { s with heap := s.heap.push { cls := .type "slice", data := .fields #[x, y, .none] } }) ht'.typeIs slot_tuple_getitem.lookup
      (vP ht' (Heap.IsSliceOf.new ..) hx hy h0 h1 (by rw [hsz]; exact h2) (by rw [hsz]; exact h3) ?_ (fun e e' => ⟨g, H, S1, hs e (by rw [hsz] at e'; exact e')⟩) (by rw [hsz, sizeLine_eq]; lia)) rfl
    have N2 := News.push F1 N1 { cls := .type "tuple", data := .seq ((vs.toArray.toList.take (kF vs.toArray.size iy)).drop (qZ ix)).toArray }
    have e1 : vs.toArray.toList = vs := rfl
    rw [e1, hsz] at N2 ⊢
    exact ⟨g, _, S.next (F1.push _) r N2 (fF (wC N1) i) ⟨rfl, rfl, rfl⟩, hn _ (fG N1 i)⟩
theorem triV_slc {value : Expr} {lo hi : Option Expr} {p pos : Pos} (h : jF G A c (eval value c.env) l H (fun o H₁ => jF G A c (evalPart lo c.env) l H₁ (fun x H₂ => jF G A c (evalPart hi c.env) l H₂ (fun y H₃ => wP o x y H₃ Q) E) E) E) :
    jF G A c (eval (.Subscript value (.Slice lo hi none p) pos) c.env) l H Q E := jE fun _ _ S =>
  Subscript_ (jA h S fun _ _ _ _ S₁ h₁ => wpAny_Slice (jA h₁ S₁ fun _ _ _ _ S₂ h₂ => jA h₂ S₂ fun _ _ _ _ S₃ h₃ => wpAny_pure (slice_tail S₃ h₃)))
end
noncomputable def noStar : Expr → Bool
  | .Starred .. => false
  | _ => true
theorem qQ {e : Expr} {es : List Expr} {env : Env} (h : noStar e = true) : starEach (e :: es) env = (false, eval e env) :: starEach es env := by
  cases e <;> first | rfl | cases h
theorem nX (pos : Pos) (env : Env) : ∀ {as : List Expr}, as.all noStar = true → (backTo pos (starEach as env)).any (·.1) = false
  | [], _ => rfl
  | e :: es, h => by
    rw [List.all_cons, Bool.and_eq_true] at h
    rw [qQ h.1]
    show (false || (backTo pos (starEach es env)).any (·.1)) = false
    rw [nX pos env h.2]; rfl
section
variable {G : Gl} {A : Around} {c : Fx} {α β : Type} {l l' : List (Option Value)} {H H' : AH} {E : Value → Shared → Prop} {Q : Value → AH → Prop} {g : Heap} {s s' : Shared}
noncomputable def TL (G : Gl) (A : Around) (c : Fx) (l : List (Option Value)) (E : Value → Shared → Prop) : List Expr → AH → (List Value → AH → Prop) → Prop
  | [], H, Q => Q [] H
  | e :: es, H, Q => jF G A c (eval e c.env) l H (fun v H => TL G A c l E es H fun vs H => Q (v :: vs) H) E
theorem TL.mono : ∀ {as : List Expr} {H : AH} {Q Q' : List Value → AH → Prop}, TL G A c l E as H Q → (∀ vs H, Q vs H → Q' vs H) → TL G A c l E as H Q'
  | [], _, _, _, h, k => k _ _ h
  | _ :: _, _, _, _, h, k => zA h fun _ _ h => TL.mono h fun _ _ h => k _ _ h
theorem xA {pos : Pos} : ∀ {as : List Expr} {H : AH} {Q : List Value → AH → Prop}, as.all noStar = true → TL G A c l E as H Q → jF G A c (spliced (backTo pos (starEach as c.env))) l H Q E
  | [], H, Q, _, h => jT h fun _ _ r => wpAny_items_nil r
  | e :: es, H, Q, hn, h => by
    rw [List.all_cons, Bool.and_eq_true] at hn
    refine jE fun g s S => wpAny_items_cons ?_ (qQ hn.1)
    refine jA h S fun v g₁ s₁ H₁ S₁ h₁ => ?_
    exact jA (xA hn.2 h₁) S₁ fun vs g₂ s₂ H₂ S₂ q => ⟨g₂, H₂, S₂, q⟩
theorem triV_tuple {es : List Expr} {k : Nat} {pos : Pos} (hn : es.all noStar = true) (h : TL G A c l E es H fun vs H => jF G A c (newTuple vs) l H Q E) : jF G A c (eval (.Tuple es k pos) c.env) l H Q E :=
  jE fun g s S => Tuple_ (jA (xA hn h) S fun _ _ _ _ S₁ h₁ => jU h₁ S₁)
theorem triV_list {es : List Expr} {pos : Pos} (hn : es.all noStar = true) (h : TL G A c l E es H fun vs H => jF G A c (newList vs) l H Q E) : jF G A c (eval (.List es pos) c.env) l H Q E :=
  jE fun g s S => List_ (jA (xA hn h) S fun _ _ _ _ S₁ h₁ => jU h₁ S₁)
noncomputable def rH (G : Gl) (f : Value) : Prop := ∀ h, G.K.In h → ∃ k, (k = Keeper.frame ∨ k = Keeper.machine ∨ k = Keeper.boundFrame) ∧ Looks (model G.prog G.w) h (keeperOf f) k
theorem fE {f : Value} (h : keepIn G.K f = true) : rH G f := fun h' X => keeps_K h h' X
theorem vV {id : String} : rH G (.builtin id) := fun _ _ => ⟨.machine, .inr (.inl rfl), .now⟩
theorem uA {id : String} : rH G (.type id) := fun _ _ => ⟨.machine, .inr (.inl rfl), .now⟩
theorem fR {pos : Pos} {f : Value} {first : List Value} {as : List Expr} (hk : rH G f) (hn : as.all noStar = true)
    (h : TL G A c l E as H fun vs H => jF G A c (call f (first ++ vs)) l H Q E) : jF G A c (callWith pos f first (backTo pos (starEach as c.env)) []) l H Q E := jE fun g s S => by
  refine callWith_of (P := G.K.In) (by rw [nX pos c.env hn]; rfl) hk ?_
  cases as with
  | nil => exact evalArgs_nil3 ⟨S.X.keeps (let ⟨_, F, _⟩ := S.F; F.keep), jU h S⟩
  | cons e es =>
    have hn' := hn
    rw [List.all_cons, Bool.and_eq_true] at hn'
    have key := jA (R := fun vs s₁ => G.K.In s₁.heap ∧ wpAny (model G.prog G.w) A (call f (first ++ vs)) (fun v s' => ∃ g' H', FS G c g' s' l H' ∧ Q v H') E s₁) (xA (pos := pos) hn h) S
      fun vs g₁ s₁ H₁ S₁ h₁ => ⟨S₁.X.keeps (let ⟨_, F, _⟩ := S₁.F; F.keep), jU h₁ S₁⟩
    rw [qQ hn'.1] at key ⊢
    exact evalArgs_plain key
theorem vZ {x : Str} {p pos : Pos} {f : Value} {as : List Expr} (hn : as.all noStar = true) (hk : rH G f) (hf : ∀ {H : AH} {Q : Value → AH → Prop}, Q f H → jF G A c (eval (.Name x p) c.env) l H Q E)
    (h : TL G A c l E as H fun vs H => jF G A c (call f vs) l H Q E) : jF G A c (eval (.Call (.Name x p) as [] pos) c.env) l H Q E := jE fun g s S => by
  refine wpAny_bind ?_
  refine jA (hf (Q := fun v H₁ => v = f ∧ H₁ = H) ⟨rfl, rfl⟩) S fun v g₁ s₁ H₁ S₁ e => ?_
  obtain ⟨rfl, rfl⟩ := e
  exact jU (fR (first := []) hk hn h) S₁
noncomputable def mT : Expr → Bool
  | .Call .. => false
  | _ => true
theorem xW {o : Expr} {attr : Str} {env : Env} {whole : Sem Value} (h : mT o = true) : attributeBase o attr env whole = whole := by
  cases o <;> first | rfl | cases h
theorem nZ {n : Nat} {as : List Expr} {pos : Pos} {env : Env} (hn : as.all noStar = true) (h : n < 30) : methodCallForm n (backTo pos (starEach as env)) [] = true := by
  have e := nX pos env hn
  unfold methodCallForm
  have : (backTo pos (starEach as env)).all (fun x => !x.1) = true := by
    rw [List.all_eq_true]
    intro x hx
    rw [List.any_eq_false] at e
    have := e x hx
    simpa using this
  simp [this, h]
theorem vG {o : Expr} {nm : Str} {apos pos : Pos} {as : List Expr} (hb : mT o = true) (hn : as.all noStar = true) (hl : as.length < 30) (hp : (apos.endLine == pos.line) = true)
    (h : jF G A c (eval o c.env) l H (fun ov H₁ => jF G A c (getMethod ov nm (do return (← importBound o c.env).getD true)) l H₁ (fun fx H₂ => rH G fx.1 ∧ TL G A c l E as H₂ fun vs H₃ => jF G A c (call fx.1 (fx.2 ++ vs)) l H₃ Q E) E) E) :
    jF G A c (eval (.Call (.Attribute o nm apos) as [] pos) c.env) l H Q E := jE fun g s S => by
  rw [arm_eval_Call, xW hb]
  refine wpAny_bind (jA h S fun ov g₁ s₁ H₁ S₁ h₁ => wpAny_bind (wpAny_standAt ?_))
  unfold methodCall
  have e1 : backToKw pos (keywordEach [] c.env) = [] := rfl
  have e2 : as.length + ([] : List Keyword).length = as.length := rfl
  rw [e1, e2, nZ hn hl]
  refine wpAny_bind (wpAny_holding ?_)
  have e3 : calleeOf true o c.env ov nm = getMethod ov nm (do return (← importBound o c.env).getD true) := rfl
  rw [e3]
  refine jA h₁ S₁ fun fx g₂ s₂ H₂ S₂ h₂ => ?_
  obtain ⟨f, first⟩ := fx
  have e4 : methodCallPos true o c.env apos pos = pure pos := by
    unfold methodCallPos
    rw [hp]; rfl
  show wpAny _ _ (do let callPos ← methodCallPos true o c.env apos pos; callWith callPos f first _ _) _ _ _
  rw [e4]
  exact wpAny_bind (wpAny_pure (jU (fR h₂.1 hn h₂.2) S₂))
theorem fL {C f : Addr} {v : Value} {nm : Str} {d : Addr} {fs : List (Str × Value)} {pl : Sem Bool} {Q : Value × List Value → AH → Prop} (ok : methOk G.K C nm f = true) (hi : qC H C v = some (d, fs)) (hl : lk nm fs = none)
    (h : Q (.ref f, [v]) H) : jF G A c (getMethod v nm pl) l H Q E := jE fun g s S => by
  refine S.opn fun m news F r N i => ?_
  obtain ⟨x, rfl, hx, hd⟩ := gP hi
  obtain ⟨ox, rx, mx⟩ := i.2 _ _ hx
  obtain ⟨od, rd, md⟩ := i.2 _ _ hd
  obtain rfl : ox = instObj C d := rx
  obtain ⟨es, n, rfl, re⟩ := rd
  simp only [methOk, Bool.and_eq_true, beq_iff_eq] at ok
  obtain ⟨⟨⟨k1, k2⟩, k3⟩, k4⟩ := ok
  exact method_inst F S.X (InstAt.of_news N mx md) k1 k2 k3 (by rw [getL_of re, hl]) ⟨g, H, S, h⟩
theorem keep_meth {C f : Addr} {nm : Str} (ok : methOk G.K C nm f = true) : rH G (.ref f) := by
  simp only [methOk, Bool.and_eq_true] at ok
  exact fE ok.2
end
section
variable {G : Gl} {A : Around} {c : Fx} {α β : Type} {l l' : List (Option Value)} {H H' : AH} {E : Value → Shared → Prop} {Q : Value → AH → Prop} {g : Heap} {s s' : Shared}
theorem bf_len {a : Addr} {us : List Value} (hi : vW H a us) (hz : us.length < 2 ^ 62) (h : ∀ t, Q (.int us.length t) H) : jF G A c (call (.builtin "len") [.ref a]) l H Q E :=
    jE fun g s S => by
      have hsz : us.toArray.size = us.length := List.size_toArray
      rcases S.items hi with ht | hl
      · refine len_tuple ht (by rw [hsz]; lia) ?_
        rw [hsz]; exact ⟨g, H, S.toks _, h _⟩
      · refine PyProof.Rows.len_list hl (by rw [hsz]; lia) ?_
        rw [hsz]; exact ⟨g, H, S.toks _, h _⟩
theorem bf_tup {a : Addr} {us : List Value} (hM : H.M a = some (.list us)) (h : us.length ≤ 1000 ∧ ∀ r, H.free r → Q (.ref r) (H.setI r us)) : jF G A c (call (.type "tuple") [.ref a]) l H Q E := by
  obtain ⟨hz, h⟩ := h
  exact jE fun g s S => by
        refine S.opn fun m news F r N i => ?_
        refine kde_tupleOf F N (S.isList hM) (by rw [List.size_toArray]; lia) rfl (fun D h' F' N' lt => ⟨g, _, S.next F' r N' (fF (fun p hp => Nat.ne_of_lt (lt p hp)) i) ⟨rfl, rfl, rfl⟩, h _ ?_⟩)
        constructor
        · cases q : H.I D with
          | none => rfl
          | some vs => exact absurd (lt _ (i.1 _ _ q)) (Nat.lt_irrefl _)
        · cases q : H.M D with
          | none => rfl
          | some mo =>
            obtain ⟨o, _, hm⟩ := i.2 _ _ q
            exact absurd (lt _ hm) (Nat.lt_irrefl _)
theorem triV_bf {b : BF} {vs : List Value} (hh : A.handled = none) (h : rF b vs H Q) : jF G A c (call b.val vs) l H Q E := by
  cases b <;> dsimp only [BF.val]
  · exact wE vs h fun v h => pQ v h (fun x t h => zO h.2 fun s R r => by with_reducible exact SBL.len (by have := h.1; lia) (r _ _)) fun a h => (let ⟨us, hi, hz, h⟩ := h; bf_len hi hz h)
  · exact wE vs h fun v h => isIntBool_ v h (fun x t h => jT (h _) fun s R r => by with_reducible exact call_int_int r) fun x h => zO h fun s R r => by with_reducible exact call_int_bool (r _ _)
  · refine wE vs h fun v h => zQ v h fun x t h => ?_
    obtain ⟨⟨h1, h2⟩, h⟩ := h
    exact zO h fun s R r => by with_reducible exact str_of_int_fit (N := 4611686018427387904) (by split <;> lia) (Int.le_refl _) (fun _ => r _ _)
  · exact wE vs h fun v h => zQ v h fun x t h => zO h fun s R r => by with_reducible exact call_abs_int (fun u tk => r u tk)
  · refine isTwo_ vs h fun v u h => zQ v h fun x t h => zQ u h fun y t' h => jE fun g s S => ?_
    refine S.opn fun m news F r N i => ?_
    with_reducible exact max_two_N hh F N (fun h' tk F' N' => ⟨g, H, S.next F' r N' i ⟨rfl, rfl, rfl⟩, h _⟩)
  · refine isTwo_ vs h fun v u h => zQ v h fun x t h => zQ u h fun y t' h => jE fun g s S => ?_
    refine S.opn fun m news F r N i => ?_
    with_reducible exact min_two_N hh F N (fun h' tk F' N' => ⟨g, H, S.next F' r N' i ⟨rfl, rfl, rfl⟩, h _⟩)
  · exact False.elim h
  · exact False.elim h
  · exact wE vs h fun v h => wD v h fun a h => isLst_ h fun us hM h => bf_tup hM h
end
theorem strsOf_is : ∀ {vs : List Value} {ys : List Str}, gG vs = some ys → ∃ l : List (Str × Tok), vs = strValues l ∧ l.map (·.1) = ys
  | [], ys, h => ⟨[], rfl, by cases h; rfl⟩
  | v :: vs, ys, h => by
    cases v with
    | str x t =>
      obtain ⟨zs, hz, rfl⟩ := Option.map_eq_some_iff.mp h
      obtain ⟨l, rfl, rfl⟩ := strsOf_is hz
      exact ⟨(x, t) :: l, rfl, rfl⟩
    | _ => cases h
section
variable {G : Gl} {A : Around} {c : Fx} {α β : Type} {l l' : List (Option Value)} {H H' : AH} {E : Value → Shared → Prop} {Q : Value → AH → Prop} {g : Heap} {s s' : Shared}
noncomputable def BM.id : BM → String
  | .append => "list.append" | .upper => "str.upper" | .join => "str.join" | .index => "str.index" | .rstrip => "str.rstrip"
theorem triV_bmGet {b : BM} {v : Value} {pl : Sem Bool} {Q : Value × List Value → AH → Prop} (ok : bmOk b v H) (h : Q (.builtin b.id, [v]) H) : jF G A c (getMethod v b.name pl) l H Q E := by
  cases b with
  | append => exact wD (m := fun v => Q (.builtin (BM.id .append), [v]) H → jF G A c (getMethod v (BM.name .append) pl) l H Q E) v ok (fun a ok h => isLst_ ok fun xs hM _ => jE fun g s S => by
      obtain ⟨n, e⟩ := S.lst hM
      exact Calls.getMethod_list_append e rfl rfl ⟨g, H, S, h⟩) h
  | upper => exact xK (m := fun v => Q (.builtin (BM.id .upper), [v]) H → jF G A c (getMethod v (BM.name .upper) pl) l H Q E) v ok (fun x t _ h => jT h fun s R r => by dsimp only [BM.name, BM.id] at r ⊢; with_reducible exact GM.upper r) h
  | join => exact xK (m := fun v => Q (.builtin (BM.id .join), [v]) H → jF G A c (getMethod v (BM.name .join) pl) l H Q E) v ok (fun x t _ h => jT h fun s R r => by dsimp only [BM.name, BM.id] at r ⊢; with_reducible exact GM.join r) h
  | index => exact xK (m := fun v => Q (.builtin (BM.id .index), [v]) H → jF G A c (getMethod v (BM.name .index) pl) l H Q E) v ok (fun x t _ h => jT h fun s R r => by dsimp only [BM.name, BM.id] at r ⊢; with_reducible exact GM.index r) h
  | rstrip => exact xK (m := fun v => Q (.builtin (BM.id .rstrip), [v]) H → jF G A c (getMethod v (BM.name .rstrip) pl) l H Q E) v ok (fun x t _ h => jT h fun s R r => by dsimp only [BM.name, BM.id] at r ⊢; with_reducible exact GM.rstrip r) h
theorem triV_bm {b : BM} {o : Value} {vs : List Value} (hh : A.handled = none) (h : bmVC b o vs H Q) : jF G A c (call (.builtin b.id) (o :: vs)) l H Q E := by
  cases b <;> dsimp only [BM.id]
  · refine wD o h fun a h => wE vs h fun v h => isLst_ h fun xs hM h => jE fun g s S => ?_
    refine S.opn fun m news F r N i => ?_
    obtain ⟨od, rest, ⟨n, rfl⟩, N₁, ne, put, i₁⟩ := in_split N i hM
    refine append_K F N₁ (Upd.head ne) (fun h' F' N' => ?_) (by rw [List.size_toArray, sizeLine_eq]; lia)
    exact ⟨g, _, S.next F' r N' (put (.list (xs ++ [v])) _ ⟨n + 1, by rw [List.push_toArray]⟩) ⟨rfl, rfl, rfl⟩, h.2⟩
  · exact xK o h fun x t h => isNil_ vs h fun h => zO h.2 fun s R r => by with_reducible exact SCL.upper (by have := h.1; lia) (fun _ => r _ _)
  · refine xK o h fun x t h => wE vs h fun v h => wD v h fun a h => isLst_ h fun xs hM h => ?_
    cases hy : gG xs with
    | none => rw [hy] at h; exact h.elim
    | some ys =>
      rw [hy] at h
      obtain ⟨hj, h⟩ := h
      obtain ⟨ll, rfl, hl⟩ := strsOf_is hy
      exact jE fun g s S => by
        with_reducible exact SC.join (S.isList hM) hl hj (fun t' k => ⟨g, H, S.toks k, h t'⟩)
  · refine xK o h fun x t h => wE vs h fun v h => xK v h fun y u h => ?_
    obtain ⟨⟨h1, h2⟩, h⟩ := h
    exact zO h fun s R r => by with_reducible exact index_or hh (fun _ e => by rw [Txt.contains, e] at h2; exact absurd h2 (by decide)) (fun _ _ => r _ _)
  · exact xK o h fun x t h => wE vs h fun v h => xK v h fun y u h => zO h.2 fun s R r => by with_reducible exact SCL.rstripChars (fun t' k _ => r t' k) h.1
end
theorem setFlight_some {M : Model} {A : Around} {E : Value → Shared → Prop} {s : Shared} {base : Heap} {l : List Env} {e L : Addr} {cls a0 fl : Value} {Q : Unit → Shared → Prop}
    (hkb : base.StaysIn s.heap) (hl : s.heap.FunFrames base l) (ht : s.heap.TracedAtW base e cls a0 fl)
    (h : ∀ h', base.StaysIn h' → h'.FunFrames base l → h'.TracedAtW base e cls a0 (rawInt L) → (∀ b o, s.heap.get? b = some o → (∀ vs, o.data ≠ .fields vs) → h'.get? b = some o) → Q () { s with heap := h' }) :
    wpAny M A (setFlight (.ref e) (some L)) Q E s := by
  obtain ⟨oe, vs, T, oT, ts, he, hcls, hd, h1, hnT, hTe, hT, hdT, h3⟩ := ht
  have hsz3 : 3 < ts.size := (Array.getElem?_eq_some_iff.mp h3).1
  have other : ∀ b, b ≠ T → (s.heap.update T (Obj.mapFields (·.setIfInBounds 3 ((some L : Option Addr).elim Value.none fun f => rawInt f)))).get? b = s.heap.get? b :=
    fun b hb => Heap.get?_update_other _ _ (Ne.symm hb)
  have noRecord : ∀ b o, s.heap.get? b = some o → (∀ vs, o.data ≠ .fields vs) → b ≠ T := fun b o hb hnf q => by
    rw [q, hT] at hb; injection hb with hb; subst hb; exact hnf ts hdT
  unfold setFlight
  refine wpAny_bind (wpAny_field he hd h1 ?_)
  rw [if_pos (show (Value.ref T != Value.none) = true from by simp)]
  refine wpAny_setField hT hdT hsz3 (h _ (fun b o hbo => (other b fun q => by rw [q, hnT] at hbo; cases hbo).trans (hkb b o hbo))
    (hl.of_keeps fun b o hb hnf => ⟨o, (other b (noRecord b o hb hnf)).trans hb, rfl⟩) ?_ fun b o hb hnf => (other b (noRecord b o hb hnf)).trans hb)
  exact ⟨oe, vs, T, _, _, (other e (Ne.symm hTe)).trans he, hcls, hd, h1, hnT, hTe, Heap.get?_update_self _ hT (Obj.isFreed_of_fields (Obj.data_mapFields hdT _)), Obj.data_mapFields hdT _, by simp [hsz3]⟩
section
variable {G : Gl} {A : Around} {c : Fx} {α β : Type} {l l' : List (Option Value)} {H H' : AH} {E : Value → Shared → Prop} {Q : Value → AH → Prop} {g : Heap} {s s' : Shared} {C : Addr} {X : AH → Prop}
theorem gY (s : Shared) (h : Heap) : Same s { s with heap := h } := ⟨rfl, rfl, rfl⟩
theorem ExC.note {M : Model} {e : Value} {Q : Unit → Shared → Prop} (x : ExC c C X e s') (hA : A.frames = some (c.env :: c.outer)) (k : ∀ s'', ExH c C X e s'' → Q () s'') : wpAny M A (noteFrame e c.env) Q E s' := by
  obtain ⟨ea, t, vs, news, g, Gh, m, l, H, rfl, sm, B, F, lr, D, T0, ⟨⟨Bh, b1, b2, b3, fl, b4⟩, tp⟩, up, i, hx⟩ := x
  exact wpAny_looks_onW hA rfl fl fun h' hl u => k _ ⟨ea, t, vs, news, g, Gh, m, l, H, rfl, sm.trans (gY _ _), B, F, lr, D, T0, ⟨⟨Bh, b1, b2, b3, hl, b4⟩, tp.of_slots u⟩, up.trans u, i, hx⟩
theorem ExH.note {M : Model} {e : Value} {Q : Unit → Shared → Prop} (x : ExH c C X e s') (k : ExH c C X e s' → Q () s') : wpAny M A (noteFrame e c.env) Q E s' := by
  have x' := x
  obtain ⟨ea, t, vs, news, g, Gh, m, l, H, rfl, sm, B, F, lr, D, T0, ⟨⟨Bh, b1, b2, b3, fl, b4⟩, tp⟩, up, i, hx⟩ := x
  exact wpAny_noteFrame_againW rfl fl.2.2.2 (k x')
theorem ExH.back {M : Model} {e : Value} {Ef : Value → Shared → Prop} (x : ExH c C X e s') (k : ∀ s'', ExH c C X e s'' → Ef e s'') : cameBackBy M A c.env Ef e s' := by
  obtain ⟨ea, t, vs, news, g, Gh, m, l, H, rfl, sm, B, F, lr, D, T0, ⟨⟨Bh, b1, b2, b3, fl, b4⟩, tp⟩, up, i, hx⟩ := x
  unfold cameBackBy
  obtain ⟨f1, f2, f3, f4⟩ := fl
  have f4' := f4
  obtain ⟨oe, vs', T, oT, ts, he, hcls, hd, h1, hnT, hTe, hT, hdT, h3⟩ := f4'
  refine wpAny_bind (wpAny_field he hd h1 ?_)
  rw [if_neg (show ¬ ((Value.ref T == Value.none) = true) from by simp)]
  show wpAny M A (setFlight (.ref ea) (some c.L)) _ _ _
  refine setFlight_some f1 f3 f4 fun h' k1 k2 k3 k4 => k _ ?_
  have u : s'.heap.UpToSlots h' := fun b o hb hn => ⟨o.slots, k4 b o hb hn⟩
  exact ⟨ea, t, vs, news, g, Gh, m, l, H, rfl, sm.trans (gY _ _), B, F, lr, D, T0, ⟨⟨Bh, b1, b2, b3, ⟨k1, f2, k2, k3⟩, b4⟩, tp.of_slots u⟩, up.trans u, i, hx⟩
theorem exF_passes {M : Model} (hA : A.frames = some (c.env :: c.outer)) : PassesOwn M A c.env (ExF c C X) := fun e s' x => by
  unfold notedBy
  rcases x with x | x
  · exact x.note hA fun s'' y => y.back fun _ z => .inr z
  · exact x.note fun y => y.back fun _ z => .inr z
theorem ExF.leaves {M : Model} {c₁ : Fx} {e : Value} {Q : Unit → Shared → Prop} (x : ExF c₁ C X e s') (hb : c₁.base = c.base) (ho : c₁.outer = c.env :: c.outer) (hp : c₁.pin = c.pin) (hA : c₁.A₀.frames = some (c.env :: c.outer))
    {m₀ : Str → Option Value} {l₀ : List (Option Value)} (sm₀ : Same c.s₀ c₁.s₀) {h₀ : Heap} (B₀ : Below c.A₀ c.base c.outer h₀) (F₀ : Fr h₀ c.L c₁.g₀ m₀) (lr₀ : uO c.ns l₀ m₀) (D₀ : KtsDicts c.fs h₀) (T₀ : KtsTurn c.fs c.g₀ h₀)
    (k : ∀ s'', ExC c C X e s'' → Q () s'') : wpAny M (c₁.A₀.deeper c₁.env) (leaving c₁.env e) Q E s' := by
  have fin : ∀ {ea t vs news} {g₁ : Heap} {H : AH} {h' : Heap}, Same c₁.s₀ s' → Below c₁.A₀ c₁.base c₁.outer g₁ → KtsTurn c₁.fs c₁.g₀ g₁ → RaisedS c₁.base g₁ c₁.outer ea (.ref C) t vs news h' → g₁.UpToSlots h' → AH.In H c₁.pin news → X H →
      ExC c C X (.ref ea) { s' with heap := h' } := by
    intro ea t vs news g₁ H h' sm B T R u i hx
    have hfs : c₁.fs = (envOf c.cn c.cs c.L c.a c.ccd :: c.outer).filterMap (·.frame) := by unfold Fx.fs; rw [ho]; rfl
    obtain ⟨g', T', F', B'⟩ := kts_ground (B := g₁) (h₅ := g₁) (cd := c.ccd) (a := c.a) (name := c.cn) (scope := c.cs) B₀ F₀ (fun b o e nm => T.other b o e (by rw [hfs]; exact nm)) (fun b o e => e) (fun b o e _ => T.up e)
    exact ⟨ea, t, vs, news, g', g₁, m₀, l₀, H, rfl, (sm₀.trans sm).trans (gY _ _), B', F', lr₀, D₀.turn T', T₀.trans T', by rw [← hb, ← ho]; exact R, u, hp ▸ i, hx⟩
  rcases x with x | x
  · obtain ⟨ea, t, vs, news, g, Gh, m, l, H, rfl, sm, B, F, lr, D, T0, R, up, i, hx⟩ := x
    exact leave_onS B F R up fun h' R' _ u => k _ (fin sm B T0 R' u i hx)
  · obtain ⟨ea, t, vs, news, g, Gh, m, l, H, rfl, sm, B, F, lr, D, T0, ⟨⟨Bh, b1, b2, b3, fl, b4⟩, tp⟩, up, i, hx⟩ := x
    have hheld : Heap.HeldW Bh (envOf c₁.cn c₁.cs c₁.L c₁.a c₁.ccd :: c₁.outer) ea (.ref C) (.ref t) c₁.L s'.heap := fl
    unfold leaving
    refine wpAny_bind (wpAny_noteFrame_againW rfl hheld.2.2.2 ?_)
    refine wpAny_landsW hheld fun h' hfl u => ?_
    obtain ⟨k1, k2, ⟨_, _, k3⟩, k4⟩ := hfl
    refine k _ (fin sm B T0 ⟨⟨Bh, b1, fun b o q nm => b2 b o (F.keep b o q) (fun hm => by
      rcases kts_mem hm with z | z
      · rw [z, kts_self F] at q
        cases q
      · exact nm z), fun q hq => ⟨(b3 q hq).1, kts_none F.keep (b3 q hq).2.1, (b3 q hq).2.2⟩, ⟨k1, k2, k3, k4⟩, b4⟩, tp.of_slots u⟩ ((Heap.UpToSlots.of_keeps F.keep).trans (up.trans u)) i hx)
end
theorem Room.le {n n' : Nat} {A : Around} (h : Room n A) (k : n' ≤ n) : Room n' A := ⟨by have := h.depth; lia, by have := h.units; lia, h.hand⟩
theorem Room.deeper {n : Nat} {A : Around} (h : Room (n + 1) A) (env : Env) : Room n (A.deeper env) :=
  ⟨by have := h.depth; show A.depth + 1 + _ < _; lia, by have := h.units; show A.units + 3 + _ < _; lia, h.hand⟩
theorem mD {xs : List Str} {vs : List Value} (nd : xs.Nodup) (hl : vs.length = xs.length) (rest : List Str) (nr : (xs ++ rest).Nodup) :
    uO (xs ++ rest) (vs.map some ++ rest.map (fun _ => none)) (fun y => (xs.zip vs).reverse.lookup y) := by
  refine ⟨by simp [hl], fun i x hx => ?_⟩
  have key : ∀ (xs : List Str) (vs : List Value), vs.length = xs.length → xs.Nodup → ∀ y, ((xs.zip vs).reverse.lookup y) = (xs.zip vs).lookup y := by
    intro xs
    induction xs with
    | nil => intro vs _ _ y; rfl
    | cons x xs ih =>
      intro vs hl nd y
      cases vs with
      | nil => rfl
      | cons v vs =>
        simp only [List.zip_cons_cons, List.reverse_cons, List.lookup_append]
        rw [ih vs (by simpa using hl) (List.nodup_cons.mp nd).2 y]
        simp only [List.lookup_cons, List.lookup_nil]
        by_cases e : y = x
        · subst e
          have : (xs.zip vs).lookup y = none := by
            rw [List.lookup_eq_none_iff]
            intro p hp
            have := (List.of_mem_zip hp).1
            exact bne_iff_ne.mpr fun q => (List.nodup_cons.mp nd).1 (q ▸ this)
          simp [this]
        · have : (y == x) = false := beq_eq_false_iff_ne.mpr e
          rw [this]
          cases (xs.zip vs).lookup y <;> rfl
  show (xs.zip vs).reverse.lookup x = _
  rw [key xs vs hl nd x]
  clear key
  induction xs generalizing vs i with
  | nil =>
    cases vs with
    | nil =>
      simp only [Ln, List.map_nil] at hx ⊢
      rw [List.getElem?_map, hx]
      rfl
    | cons _ _ => cases hl
  | cons y xs ih =>
    cases vs with
    | nil => cases hl
    | cons v vs =>
      simp only [List.zip_cons_cons, List.lookup_cons]
      cases i with
      | zero =>
        simp only [La, Lz, Option.some.injEq] at hx
        subst hx
        simp
      | succ i =>
        simp only [La, Ls] at hx
        have ne : (x == y) = false := beq_eq_false_iff_ne.mpr (fun e => by
          subst e
          exact (List.nodup_cons.mp nr).1 (List.mem_of_getElem? hx))
        rw [ne]
        simp only [List.map_cons, La, Ls]
        exact ih (List.nodup_cons.mp nd).2 (by simpa using hl) (List.nodup_cons.mp nr).2 i hx
section
variable {G : Gl} {A : Around} {c : Fx} {α β : Type} {l l' : List (Option Value)} {H H' : AH} {E : Value → Shared → Prop} {Q : Value → AH → Prop} {g : Heap} {s s' : Shared} {C : Addr} {X : AH → Prop}
noncomputable def Flow.val : Flow → Value
  | .ret v => v
  | _ => .none
theorem callT_of {n : Nat} {f : Addr} {vs : List Value} {name qual : Str} {params : Arguments} {body : List Stmt} {scope : Scope} {dV kV doc pm cdv ct oc : Value} {an od : Option Addr} {osl : Array (Option Value)} (xs rest : List Str)
    (ho : G.K.lookup f = some ⟨oc, od, .func (fnOf name qual params body scope dV kV doc pm an cdv ct), osl⟩) (hcd : codeIn G.K cdv qual = true)
    (hbind : ∀ s : Shared, G.K.In s.heap → BindsTo s (fnOf name qual params body scope dV kV doc pm an cdv ct) ⟨vs, []⟩ (xs.zip vs)) (hl : vs.length = xs.length) (nd : (xs ++ rest).Nodup) (hloc : ∀ y ∈ xs ++ rest, scope.names.lookup y = some .local)
    (hco : scope.isCoroutine = false) (hgen : scope.isGenerator = false) (hk : scope.kind = .function) (hcell : ∀ x ∈ scope.names, x.2 ≠ .cell)
    (h : ∀ (c₁ : Fx), c₁.Ok → c₁.cn = qual → c₁.cs = scope → c₁.ns = xs ++ rest → c₁.A.frames = some (c₁.env :: c₁.outer) → Room n c₁.A →
      Tri G c₁.A c₁ (execs body c₁.env) (vs.map some ++ rest.map (fun _ => none)) H (fun fl _ H' => Q (Flow.val fl) H') (ExF c₁ C X)) :
    CallT G C (n + 1) (.ref f) vs H Q X := by
  refine ⟨fun c A ok hA room g s l S => ?_⟩
  refine S.opn fun m news F lr N i => ?_
  refine code_defS (cn := c.cn) (cs := c.cs) (a := c.a) (ccd := c.ccd) S.B F S.X N S.T S.XB.X S.TB S.D S.T0 hA ho hcd (by have := room.depth; lia) (hbind s (S.X.keeps F.keep)) (fun y hy => hloc _ (List.mem_append_left _ (List.of_mem_zip hy).1)) ?_ ok.kind hco hgen hk hcell
  intro g₁ L' h₁ F₀ F₁ N₁ B₁ X₁ T₁ D₁
  let c₁ : Fx := ⟨A, c.base, c.env :: c.outer, g₁, s, qual, scope, L', f, cdv, xs ++ rest, c.pin⟩
  have hst : c₁.A.frames = some (c₁.env :: c₁.outer) := Around.frames_deeper hA
  have key := (h c₁ ⟨hk, nd, hloc⟩ rfl rfl rfl hst (room.deeper c₁.env)).go g₁ { s with heap := h₁, toks := s.toks + (xs.zip vs).length }
    ⟨B₁, ⟨_, F₁, mD (List.nodup_append.mp nd).1 hl rest nd⟩, S.XB, S.TB, D₁, KtsTurn.refl, ⟨news, N₁, i⟩, ⟨rfl, rfl, rfl⟩⟩
  refine wpAny_mono key (fun fl s₂ h₂ => ?_) fun e s₂ x => ?_
  · obtain ⟨g', l', H', S', q⟩ := h₂
    refine S'.opn fun m' news' F' _ N' i' => ?_
    refine leaveS_r F' N' S'.T0 fun h₀' T' F'' N'' B'' X'' P'' D'' => ?_
    refine ⟨h₀', H', ⟨B'', ⟨m, F'', lr⟩, S.XB, S.TB, D'', T', ⟨news', N'', i'⟩, S.same.trans S'.same⟩, ?_⟩
    cases fl <;> exact q
  · exact x.leaves (c := c) rfl rfl rfl hA (Same.trans S.same (Same.refl _)) S.B F₀ lr S.D S.T0 fun s'' y => y
theorem triV_call {n : Nat} {f : Value} {vs : List Value} (ok : c.Ok) (hA : A.frames = some (c.env :: c.outer)) (room : Room n A) (h : CallT G C n f vs H Q X) : jF G A c (call f vs) l H Q (ExF c C X) :=
  jE fun g s S => wpAny_call (codeAny_mono (h.go c A ok hA room g s l S) fun r s' x => by
    cases r with
    | error e => exact .inl x
    | ok f => cases f with
      | ret v => exact x
      | _ => exact x.elim)
theorem triV_new {n : Nat} {K f : Addr} {vs : List Value} (ok : c.Ok) (hA : A.frames = some (c.env :: c.outer)) (room : Room (n + 1) A) (hm : makesIn G.K K = true) (hi : findIn G.K (.ref K) "__init__" = some (some (.ref f))) (hf : isFn G.K (.ref f) = true)
    (h : ∀ x d, H.free x → H.free d → x ≠ d → CallT G C n (.ref f) (.ref x :: vs) ((H.setM d (.dict [])).setM x (.inst K d)) (fun v H => v = .none ∧ Q (.ref x) H) X) : jF G A c (call (.ref K) vs) l H Q (ExF c C X) :=
  jE fun g s S => by
    refine S.opn fun m news F r N i => ?_
    refine call_cls F S.X N hm hi hf fun x dx h' F' N' lt dx_lt => ?_
    have ne : x ≠ dx := Nat.ne_of_gt dx_lt
    have hxf : ∀ p ∈ news, p.1 ≠ x := fun p hp => Nat.ne_of_lt (Nat.lt_trans (lt p hp) dx_lt)
    have hdf : ∀ p ∈ news, p.1 ≠ dx := fun p hp => Nat.ne_of_lt (lt p hp)
    have i₁ : (H.setM dx (.dict [])).In c.pin ((dx, dictOf [] 0) :: news) := vX hdf i ⟨[], 0, rfl, .nil⟩
    have i₂ : ((H.setM dx (.dict [])).setM x (.inst K dx)).In c.pin ((x, instObj K dx) :: (dx, dictOf [] 0) :: news) :=
      vX (fun p hp => (List.mem_cons.mp hp).elim (fun e => by rw [e]; exact Ne.symm ne) (hxf p)) i₁ rfl
    have S₁ : FS G c g { s with heap := h' } l ((H.setM dx (.dict [])).setM x (.inst K dx)) := S.next F' r N' i₂ ⟨rfl, rfl, rfl⟩
    have hfr : (A.under (.builtin "type.__call__" ⟨.ref K :: vs, []⟩)).frames = some (c.env :: c.outer) := by
      have e : (Code.builtin "type.__call__" ⟨.ref K :: vs, []⟩).envs = [] := rfl
      unfold Around.under
      rw [e]
      exact hA
    have w1 : (Code.builtin "type.__call__" ⟨.ref K :: vs, []⟩).weight = 1 := by rfl
    have w2 : (Code.builtin "type.__call__" ⟨.ref K :: vs, []⟩).cUnits = 1 := by rfl
    have hr : Room n (A.under (.builtin "type.__call__" ⟨.ref K :: vs, []⟩)) :=
      ⟨by have := room.depth; show A.depth + (Code.builtin "type.__call__" ⟨.ref K :: vs, []⟩).weight + _ < _; rw [w1]; lia,
       by have := room.units; show A.units + (Code.builtin "type.__call__" ⟨.ref K :: vs, []⟩).cUnits + _ < _; rw [w2]; lia, room.hand⟩
    refine codeAny_mono ((h x dx (kG i hxf) (kG i hdf) ne).go c _ ok hfr hr g _ l S₁) fun r s' z => ?_
    cases r with
    | error e => exact .inl z
    | ok f => cases f with
      | ret v =>
        obtain ⟨g', H', S', rfl, q⟩ := z
        exact ⟨rfl, g', H', S', q⟩
      | _ => exact z.elim
end
noncomputable def cdat : Const → PyData
  | .int i => .int i
  | .str x => .str x
  | _ => .none
noncomputable def fX : Const → Bool
  | .int _ => true
  | .str _ => true
  | _ => false
noncomputable def datC : List Str → List Const → List (PyData × PyData)
  | k :: ks, v :: vs => (.str k, cdat v) :: datC ks vs
  | _, _ => []
noncomputable def nU (e : Expr) (F : Const → Nat → Pos → Bool) : Bool := match e with | .Constant c k p => F c k p | _ => false
noncomputable def zZ (e : Expr) (F : Str → Pos → Bool) : Bool := match e with | .Name x p => F x p | _ => false
noncomputable def mB (e : Expr) (F : Expr → Str → Pos → Bool) : Bool := match e with | .Attribute o f p => F o f p | _ => false
noncomputable def vI (e : Expr) (F : Expr → List Expr → List Keyword → Pos → Bool) : Bool := match e with | .Call f as ks p => F f as ks p | _ => false
noncomputable def onBin (e : Expr) (F : Expr → Operator → Expr → Pos → Bool) : Bool := match e with | .BinOp a op b p => F a op b p | _ => false
noncomputable def onUn (e : Expr) (F : UnaryOp → Expr → Pos → Bool) : Bool := match e with | .UnaryOp op a p => F op a p | _ => false
noncomputable def onBool (e : Expr) (F : BoolOp → List Expr → Pos → Bool) : Bool := match e with | .BoolOp op es p => F op es p | _ => false
noncomputable def onCmp (e : Expr) (F : Expr → List CmpOp → List Expr → Pos → Bool) : Bool := match e with | .Compare a ops bs p => F a ops bs p | _ => false
noncomputable def onIf (e : Expr) (F : Expr → Expr → Expr → Pos → Bool) : Bool := match e with | .IfExp t a b p => F t a b p | _ => false
noncomputable def onSub (e : Expr) (F : Expr → Expr → Pos → Bool) : Bool := match e with | .Subscript o i p => F o i p | _ => false
noncomputable def onTup (e : Expr) (F : List Expr → Nat → Pos → Bool) : Bool := match e with | .Tuple es k p => F es k p | _ => false
noncomputable def onLst (e : Expr) (F : List Expr → Pos → Bool) : Bool := match e with | .List es p => F es p | _ => false
noncomputable def onDict (e : Expr) (F : List (Option Expr) → List Expr → Pos → Bool) : Bool := match e with | .Dict es fs p => F es fs p | _ => false
noncomputable def onComp (e : Expr) (F : Expr → List Comprehension → Scope → Pos → Bool) : Bool := match e with | .ListComp e_ gs sc p => F e_ gs sc p | _ => false
noncomputable def onSlice (e : Expr) (F : Option Expr → Option Expr → Option Expr → Pos → Bool) : Bool := match e with | .Slice a b d p => F a b d p | _ => false
noncomputable def kJ {α : Type} (l : List α) (b : Bool) : Bool := match l with | [] => b | _ :: _ => false
noncomputable def vH {α : Type} (l : List α) (F : α → List α → Bool) : Bool := match l with | [] => false | x :: l => F x l
noncomputable def vO {α : Type} (l : List α) (F : α → Bool) : Bool := vH l fun x l => kJ l (F x)
noncomputable def onTwo {α : Type} (l : List α) (F : α → α → Bool) : Bool := vH l fun x l => vO l (F x)
noncomputable def onNone {α : Type} (l : Option α) (b : Bool) : Bool := match l with | none => b | some _ => false
@[elab_as_elim] theorem nT (e : Expr) {F} {m : Expr → Prop} (h : nU e F = true) (k : ∀ c k p, F c k p = true → m (.Constant c k p)) : m e := by cases e <;> first | exact k _ _ _ h | exact (Bool.false_ne_true h).elim
@[elab_as_elim] theorem zK (e : Expr) {F} {m : Expr → Prop} (h : zZ e F = true) (k : ∀ x p, F x p = true → m (.Name x p)) : m e := by cases e <;> first | exact k _ _ h | exact (Bool.false_ne_true h).elim
@[elab_as_elim] theorem fD (e : Expr) {F} {m : Expr → Prop} (h : mB e F = true) (k : ∀ o f p, F o f p = true → m (.Attribute o f p)) : m e := by cases e <;> first | exact k _ _ _ h | exact (Bool.false_ne_true h).elim
@[elab_as_elim] theorem xH (e : Expr) {F} {m : Expr → Prop} (h : vI e F = true) (k : ∀ f as ks p, F f as ks p = true → m (.Call f as ks p)) : m e := by cases e <;> first | exact k _ _ _ _ h | exact (Bool.false_ne_true h).elim
@[elab_as_elim] theorem onBin_ (e : Expr) {F} {m : Expr → Prop} (h : onBin e F = true) (k : ∀ a op b p, F a op b p = true → m (.BinOp a op b p)) : m e := by cases e <;> first | exact k _ _ _ _ h | exact (Bool.false_ne_true h).elim
@[elab_as_elim] theorem onUn_ (e : Expr) {F} {m : Expr → Prop} (h : onUn e F = true) (k : ∀ op a p, F op a p = true → m (.UnaryOp op a p)) : m e := by cases e <;> first | exact k _ _ _ h | exact (Bool.false_ne_true h).elim
@[elab_as_elim] theorem onBool_ (e : Expr) {F} {m : Expr → Prop} (h : onBool e F = true) (k : ∀ op es p, F op es p = true → m (.BoolOp op es p)) : m e := by cases e <;> first | exact k _ _ _ h | exact (Bool.false_ne_true h).elim
@[elab_as_elim] theorem onCmp_ (e : Expr) {F} {m : Expr → Prop} (h : onCmp e F = true) (k : ∀ a ops bs p, F a ops bs p = true → m (.Compare a ops bs p)) : m e := by cases e <;> first | exact k _ _ _ _ h | exact (Bool.false_ne_true h).elim
@[elab_as_elim] theorem onIf_ (e : Expr) {F} {m : Expr → Prop} (h : onIf e F = true) (k : ∀ t a b p, F t a b p = true → m (.IfExp t a b p)) : m e := by cases e <;> first | exact k _ _ _ _ h | exact (Bool.false_ne_true h).elim
@[elab_as_elim] theorem onSub_ (e : Expr) {F} {m : Expr → Prop} (h : onSub e F = true) (k : ∀ o i p, F o i p = true → m (.Subscript o i p)) : m e := by cases e <;> first | exact k _ _ _ h | exact (Bool.false_ne_true h).elim
@[elab_as_elim] theorem onTup_ (e : Expr) {F} {m : Expr → Prop} (h : onTup e F = true) (k : ∀ es k p, F es k p = true → m (.Tuple es k p)) : m e := by cases e <;> first | exact k _ _ _ h | exact (Bool.false_ne_true h).elim
@[elab_as_elim] theorem onLst_ (e : Expr) {F} {m : Expr → Prop} (h : onLst e F = true) (k : ∀ es p, F es p = true → m (.List es p)) : m e := by cases e <;> first | exact k _ _ h | exact (Bool.false_ne_true h).elim
@[elab_as_elim] theorem onDict_ (e : Expr) {F} {m : Expr → Prop} (h : onDict e F = true) (k : ∀ es fs p, F es fs p = true → m (.Dict es fs p)) : m e := by cases e <;> first | exact k _ _ _ h | exact (Bool.false_ne_true h).elim
@[elab_as_elim] theorem onComp_ (e : Expr) {F} {m : Expr → Prop} (h : onComp e F = true) (k : ∀ e_ gs sc p, F e_ gs sc p = true → m (.ListComp e_ gs sc p)) : m e := by cases e <;> first | exact k _ _ _ _ h | exact (Bool.false_ne_true h).elim
@[elab_as_elim] theorem onSlice_ (e : Expr) {F} {m : Expr → Prop} (h : onSlice e F = true) (k : ∀ a b d p, F a b d p = true → m (.Slice a b d p)) : m e := by cases e <;> first | exact k _ _ _ _ h | exact (Bool.false_ne_true h).elim
@[elab_as_elim] theorem qA {α : Type} (l : List α) {b : Bool} {m : List α → Prop} (h : kJ l b = true) (k : b = true → m []) : m l := by cases l <;> first | exact k h | exact (Bool.false_ne_true h).elim
@[elab_as_elim] theorem xG {α : Type} (l : List α) {F} {m : List α → Prop} (h : vH l F = true) (k : ∀ x r, F x r = true → m (x :: r)) : m l := by cases l <;> first | exact k _ _ h | exact (Bool.false_ne_true h).elim
@[elab_as_elim] theorem kU {α : Type} (l : List α) {F} {m : List α → Prop} (h : vO l F = true) (k : ∀ x, F x = true → m [x]) : m l := xG l h fun x r h => qA r (m := fun r => m (x :: r)) h (k x)
@[elab_as_elim] theorem onTwo_ {α : Type} (l : List α) {F} {m : List α → Prop} (h : onTwo l F = true) (k : ∀ x y, F x y = true → m [x, y]) : m l := xG l h fun x r h => kU r (m := fun r => m (x :: r)) h (k x)
@[elab_as_elim] theorem onNone_ {α : Type} (l : Option α) {b : Bool} {m : Option α → Prop} (h : onNone l b = true) (k : b = true → m none) : m l := by cases l <;> first | exact k h | exact (Bool.false_ne_true h).elim
noncomputable def oneD (e : Option Expr) (f : Expr) (k : Str) (v : Const) : Bool := match e with | some e => nU e fun c _ _ => nU f fun d _ _ => c == .str k && d == v && fX v | none => false
@[elab_as_elim] theorem oneD_ (e : Option Expr) {f : Expr} {k : Str} {v : Const} {m : Option Expr → Prop} (h : oneD e f k v = true) (q : ∀ a b x y, f = .Constant v x y → fX v = true → m (some (.Constant (.str k) a b))) : m e := by
  cases e with
  | none => exact (Bool.false_ne_true h).elim
  | some e =>
    refine nT e (m := fun e => m (some e)) h fun c a b h => ?_
    revert q
    refine nT f (m := fun f => (∀ a b x y, f = .Constant v x y → fX v = true → m (some (.Constant (.str k) a b))) → m (some (.Constant c a b))) h fun d x y h2 q => ?_
    clear h
    simp only [Bool.and_eq_true, beq_iff_eq] at h2
    obtain ⟨⟨rfl, rfl⟩, h3⟩ := h2
    exact q a b x y rfl h3
theorem tab_flat {v : Const} {x : Nat} {y : Pos} (h : fX v = true) : tabLit (.Constant v x y) = some (cdat v) := by cases v <;> first | rfl | exact (Bool.false_ne_true h).elim
noncomputable def chkD (es : List (Option Expr)) (fs : List Expr) (ks : List Str) (vs : List Const) : Bool := match ks with
  | [] => kJ es (kJ fs (kJ vs true))
  | k :: ks => vH es fun e es => vH fs fun f fs => vH vs fun v vs => oneD e f k v && chkD es fs ks vs
theorem pV : ∀ {ks : List Str} {es : List (Option Expr)} {fs : List Expr} {vs : List Const}, chkD es fs ks vs = true →
    litPairs es fs = some (datC ks vs) ∧ strKeyed (datC ks vs) = true ∧ strKeysOf (datC ks vs) = ks ∧ es.all (·.isSome) = true ∧ es.length = fs.length ∧ es.length = ks.length ∧ vs.all fX = true
  | [], es, fs, vs, h => qA es h fun h => qA fs h fun h => qA vs h fun _ => ⟨rfl, rfl, rfl, rfl, rfl, rfl, rfl⟩
  | k :: ks, es, fs, vs, h => by
    refine xG es h fun e es h => xG fs h fun f fs h => xG vs h fun v vs h => ?_
    rw [Bool.and_eq_true] at h
    refine oneD_ e h.1 fun a b x y hf hv => ?_
    subst hf
    obtain ⟨a1, a2, a3, a4, a5, a6, a7⟩ := pV h.2
    refine ⟨?_, a2, congrArg (List.cons k) a3, a4, congrArg Nat.succ a5, congrArg Nat.succ a6, (by rw [List.all_cons, hv, a7]; rfl)⟩
    unfold litPairs
    rw [tab_flat hv, a1]
    rfl
theorem gM (x : Str) : ∀ (ks : List Str) (vs : List Const), lookup (.str x) (datC ks vs) = (lkC x ks vs).map cdat
  | [], _ => rfl
  | _ :: _, [] => rfl
  | k :: ks, v :: vs => by
    have e : Spec.same (.str k) (.str x) = decide (k = x) := PyProof.V.same_str k x
    simp only [datC, Spec.lookup, lC1, e, decide_eq_true_eq]
    split
    · rfl
    · exact gM x ks vs
theorem lkC_flat {x : Str} {u : Const} : ∀ {ks : List Str} {vs : List Const}, vs.all fX = true → lkC x ks vs = some u → fX u = true
  | [], _, _, h => by cases h
  | _ :: _, [], _, h => by cases h
  | k :: ks, v :: vs, ha, h => by
    rw [List.all_cons, Bool.and_eq_true] at ha
    simp only [lC1] at h
    split at h
    · cases h; exact ha.1
    · exact lkC_flat ha.2 h
theorem const_flat {u : Const} {v : Value} {H : AH} {Q : Value → AH → Prop} (hf : fX u = true) (h : PyProof.V.Flat v (cdat u)) (q : yE u H Q) : Q v H := by
  cases u with
  | int i => obtain ⟨t, rfl⟩ := h.int_inv; exact q t
  | str i => obtain ⟨t, rfl⟩ := h.str_inv; exact q t
  | _ => cases hf
theorem yN {H : AH} {a : Addr} {mo : MObj} (h : H.free a) : AH.Le H (H.setM a mo) := ⟨fun _ _ h => h, fun b mo' hb => by
  have : b ≠ a := fun e => by rw [e, h.2] at hb; cases hb
  simp only [AH.setM, if_neg this]; exact hb⟩
section
variable {G : Gl} {A : Around} {c : Fx} {α β : Type} {a : Addr} {o : Obj} {l l' : List (Option Value)} {H H' : AH} {E : Value → Shared → Prop} {Q : Value → AH → Prop} {g : Heap} {s s' : Shared} {C : Addr} {X : AH → Prop}
theorem triV_Dict {es : List (Option Expr)} {fs : List Expr} {ks : List Str} {vs : List Const} {pos : Pos} (hc : chkD es fs ks vs = true) (nd : ks.Nodup) (h0 : ks ≠ []) (hl : ks.length ≤ 15)
    (h : ∀ a o, H.free a → (a == sysModules) = false → TabObj (strKind G.prog G.w) PyData.str (datC ks vs) o → Q (.ref a) (H.setM a (.any o))) : jF G A c (eval (.Dict es fs pos) c.env) l H Q E := jE fun g s S => by
  refine S.opn fun m news F r N i => ?_
  obtain ⟨a1, a2, a3, a4, a5, a6, a7⟩ := pV hc
  refine Dict_lits_str a1 a2 (by rw [a3]; exact nd) a4 a5 (fun e => h0 (by rw [e] at a6; exact List.eq_nil_of_length_eq_zero a6.symm)) (by rw [a6]; exact hl) fun a o h₁ tk hsz ho ht hk => ?_
  have hne : ∀ p ∈ news, p.1 ≠ a := fun p hp e => absurd (Nat.lt_of_lt_of_le (e ▸ Heap.lt_size (N p hp).1) hsz) (Nat.lt_irrefl _)
  have hcls : o.cls ≠ .type "tuple" := by
    obtain ⟨_, ⟨_, _, hx, _⟩, _⟩ := ht
    rw [hx.1]; decide
  have F' : Fr g c.L h₁ m := ⟨(Heap.UpToSlots.of_keeps hk).ns F.ns, fun b o e => hk b o (F.keep b o e), F.above⟩
  have ga : g.get? a = none := by
    cases q : g.get? a with
    | none => rfl
    | some o' => exact absurd (Nat.lt_of_lt_of_le (Heap.lt_size (F.keep a o' q)) hsz) (Nat.lt_irrefl _)
  have La : a ≠ c.L := fun e => by
    obtain ⟨oL, _, _, hL, _⟩ := F.ns
    exact absurd (Nat.lt_of_lt_of_le (e ▸ Heap.lt_size hL) hsz) (Nat.lt_irrefl _)
  have N' : News g c.L h₁ ((a, o) :: news) := fun p hp => by
    rcases List.mem_cons.mp hp with rfl | hp
    · exact ⟨ho, La, ga⟩
    · exact ⟨hk _ _ (N p hp).1, (N p hp).2⟩
  refine ⟨g, H.setM a (.any o), S.next F' r N' (vX hne i ⟨rfl, hcls⟩) ⟨rfl, rfl, rfl⟩, h a o (kG i hne) ?_ ht⟩
  have : s.heap.NoLimit := S.T.nolimit.keeps F.keep
  have lo := modules_low this
  exact beq_eq_false_iff_ne.mpr fun e => by
    subst e
    exact absurd (Nat.lt_of_lt_of_le lo hsz) (Nat.lt_irrefl _)
theorem FS.tab (S : FS G c g s l (H.setM a (.any o))) (lo : (a == sysModules) = false) {D : List (PyData × PyData)} (t : TabObj (strKind G.prog G.w) PyData.str D o) : StrTab G.prog G.w s.heap a D := by
  obtain ⟨news, N, i⟩ := S.led
  obtain ⟨o', ⟨rfl, _⟩, hm⟩ := i.obs a (.any o) (by simp [AH.setM])
  obtain ⟨kvs, hd, hf⟩ := t
  exact TabAt.ofObj lo (N _ hm).1 hd hf
theorem triV_tabSub {es : List (Option Expr)} {fs : List Expr} {dpos : Pos} {slice : Expr} {a : Addr} {o : Obj} {x : Str} {t : Tok} {u : Const} {ks : List Str} {vs : List Const} (hn : uT slice = true) (hf : H.free a) (lo : (a == sysModules) = false)
    (ht : TabObj (strKind G.prog G.w) PyData.str (datC ks vs) o) (hv : vs.all fX = true) (hl : lkC x ks vs = some u) (h : yE u H Q) : jF G A c (subscriptTail (.Dict es fs dpos) slice (.ref a) (.str x t)) l (H.setM a (.any o)) Q E :=
  jE fun g s S => by
    have T := S.tab lo ht
    have T' := T
    obtain ⟨_, kvs, hd, _⟩ := T'
    refine tail_any hd.typeIs slot_dict_getitem.lookup (getItem_tab PyProof.V.same_str (strKind_is _ _ x t) T (dv := cdat u) (by rw [gM, hl]; rfl) (fun v fv => ?_)) (yV hn)
    exact ⟨g, H, (S.toks _).le (yN hf), const_flat (lkC_flat hv hl) fv h⟩
theorem triV_tabGet {a : Addr} {o : Obj} {x : Str} {t : Tok} {ks : List Str} {vs : List Const} (hf : H.free a) (lo : (a == sysModules) = false)
    (ht : TabObj (strKind G.prog G.w) PyData.str (datC ks vs) o) (hv : vs.all fX = true) (h : match lkC x ks vs with | some w => yE w H Q | none => ∀ t, Q (.str x t) H) :
    jF G A c (call (.builtin "dict.get") [.ref a, .str x t, .str x t]) l (H.setM a (.any o)) Q E :=
  jE fun g s S => by
    refine call_get2_strTab (S.tab lo ht) (PyProof.V.Flat.str x t) fun v fv => ?_
    refine ⟨g, H, (S.toks _).le (yN hf), ?_⟩
    rw [gM] at fv
    cases e : lkC x ks vs with
    | none =>
      rw [e] at fv h
      obtain ⟨t', rfl⟩ := PyProof.V.Flat.str_inv fv
      exact h t'
    | some w =>
      rw [e] at fv h
      exact const_flat (lkC_flat hv e) fv h
end
noncomputable def chkN (K : Frag) (cs : Scope) (x : Str) (v : Value) : Bool := nsIn K mainGlobals x == some (some v) && cs.names.lookup x == some .globalImplicit && x != "__debug__"
noncomputable def chkB (K : Frag) (cs : Scope) (x : Str) (v : Value) : Bool := nsIn K mainGlobals x == some none && bootBuiltins x == some v && x != "__name__" && cs.names.lookup x == some .globalImplicit && x != "__debug__"
noncomputable def fP (ns : List Str) (x : Str) (i : Nat) : Bool := ns[i]? == some x && x != "__debug__"
noncomputable def pG (ck : Expr → RE → Bool) : List Expr → List RE → Bool
  | [], [] => true
  | e :: es, r :: rs => noStar e && ck e r && pG ck es rs
  | _, _ => false
theorem chkL1 {ck : Expr → RE → Bool} {e : Expr} {es : List Expr} {r : RE} {rs : List RE} : pG ck (e :: es) (r :: rs) = (noStar e && ck e r && pG ck es rs) := rfl
noncomputable def isNoneC (r : RE) : Bool := match r with | .cst c => (match c with | .none => true | _ => false) | _ => false
@[elab_as_elim] theorem isNoneC_ (r : RE) {m : RE → Prop} (h : isNoneC r = true) (k : m (.cst .none)) : m r := by
  cases r <;> first | exact (Bool.false_ne_true h).elim | skip
  rename_i c
  cases c <;> first | exact k | exact (Bool.false_ne_true h).elim
noncomputable def chkP (ck : Expr → RE → Bool) (e : Option Expr) (r : RE) : Bool := match e with
  | none => isNoneC r
  | some e => ck e r
noncomputable def chkSc (sc : Scope) : Bool := sc.kind == .function && sc.names.all (fun y => y.2 != .free && y.2 != .cell) && sc.names.all (fun y => y.2 != .local || sc.names.lookup y.1 == some .local)
noncomputable def fY (sc : Scope) (x : Str) : Bool := sc.names.lookup x == some .local && x != "__debug__"
noncomputable def chkCG (K : Frag) (sc : Scope) (x : Str) (v : Value) : Bool := nsIn K mainGlobals x == some (some v) && sc.names.lookup x == some .globalImplicit && x != "__debug__"
noncomputable def chkE1 (K : Frag) (cs : Scope) (ns : List Str) (ck : Expr → RE → Bool) (e : Expr) (r : RE) : Bool := match r with
  | .cst c => nU e fun c' _ _ => c' == c
  | .loc i => zZ e fun x _ => fP ns x i
  | .glb v => zZ e fun x _ => chkN K cs x v
  | .attr C o f => mB e fun o' f' _ => f' == f && mT o' && getOk K C f && ck o' o
  | .call f as => vI e fun g as' ks _ => zZ g fun x _ => kJ ks (chkN K cs x (.ref f) && keepIn K (.ref f) && pG ck as' as)
  | .new C f as => vI e fun g as' ks _ => zZ g fun x _ => kJ ks (chkN K cs x (.ref C) && keepIn K (.ref C) && makesIn K C && findIn K (.ref C) "__init__" == some (some (.ref f)) && isFn K (.ref f) && pG ck as' as)
  | .bcall b as => vI e fun g as' ks _ => zZ g fun x _ => kJ ks (chkB K cs x b.val && pG ck as' as)
  | .meth C f o nm as => vI e fun g as' ks pos => mB g fun o' nm' ap => kJ ks (nm' == nm && mT o' && decide (as'.length < 30) && ap.endLine == pos.line && methOk K C nm f && ck o' o && pG ck as' as)
  | .bmeth b o as => vI e fun g as' ks pos => mB g fun o' nm' ap => kJ ks (nm' == b.name && mT o' && decide (as'.length < 30) && ap.endLine == pos.line && ck o' o && pG ck as' as)
  | .bin op a b => onBin e fun a' op' b' _ => op' == op && ck a' a && ck b' b
  | .neg a => onUn e fun op a' _ => op == .USub && ck a' a
  | .not a => onUn e fun op a' _ => op == .Not && ck a' a
  | .and r rs => onBool e fun op es _ => vH es fun e es => op == .And && ck e r && pG ck es rs
  | .or r rs => onBool e fun op es _ => vH es fun e es => op == .Or && ck e r && pG ck es rs
  | .cmp op a b => onCmp e fun a' ops bs _ => vO ops fun op' => vO bs fun b' => op' == op && !behindInMarks op b' && ck a' a && ck b' b
  | .cmp2 op q a b d => onCmp e fun a' ops bs _ => onTwo ops fun op' q' => onTwo bs fun b' d' => op' == op && q' == q && !lastMarks [op, q] [b', d'] && ck a' a && ck b' b && ck d' d
  | .ite t a b => onIf e fun t' a' b' _ => ck t' t && ck a' a && ck b' b
  | .slc o lo hi => onSub e fun o' i _ => onSlice i fun lo' hi' st _ => onNone st (ck o' o && chkP ck lo' lo && chkP ck hi' hi)
  | .sub o i => onSub e fun o' i' _ => uT i' && ck o' o && ck i' i
  | .tup rs => onTup e fun es _ _ => pG ck es rs
  | .lst rs => onLst e fun es _ => pG ck es rs
  | .dsub ks vs i => onSub e fun o' i' _ => onDict o' fun es fs _ => chkD es fs ks vs && decide ks.Nodup && !ks.isEmpty && decide (ks.length ≤ 15) && uT i' && ck i' i
  | .dget ks vs i => vI e fun g as kw pos => mB g fun o' nm ap => onDict o' fun es fs _ => onTwo as fun a b => zZ a fun x _ => zZ b fun y _ => kJ kw (nm == "get" && chkD es fs ks vs && decide ks.Nodup && !ks.isEmpty && decide (ks.length ≤ 15) && ap.endLine == pos.line && fP ns x i && fP ns y i)
  | .slen i => vI e fun g as kw _ => zZ g fun x _ => vO as fun a => zZ a fun y _ => kJ kw (chkB K cs x (.builtin "len") && fP ns y i)
  | .sitem i r => onSub e fun o' i' _ => zZ o' fun y _ => uT i' && fP ns y i && ck i' r
  | .cmap f i => onComp e fun el gs sc _ => vI el fun g as kw _ => zZ g fun fx _ => vO as fun a => zZ a fun x _ => kJ kw (vO gs fun q => zZ q.target fun y _ => zZ q.iter fun z _ => kJ q.ifs (q.is_async == 0 && y == x && chkSc sc && chkCG K sc fx (.ref f) && keepIn K (.ref f) && fY sc y && fP ns z i))
noncomputable def zE (K : Frag) (cs : Scope) (ns : List Str) : Fu → Expr → RE → Bool
  | .z => fun _ _ => false
  | .s k => chkE1 K cs ns (zE K cs ns k)
section
variable {G : Gl} {A : Around} {c : Fx} {n : Nat} {k : Fu} {l l' : List (Option Value)} {H H' : AH} {E : Value → Shared → Prop} {Q : Value → AH → Prop} {g : Heap} {s s' : Shared} {C : Addr} {X : AH → Prop}
structure At (c : Fx) (n : Nat) (A : Around) : Prop where
  ok : c.Ok
  fr : A.frames = some (c.env :: c.outer)
  room : Room n A
structure SE (G : Gl) (C : Addr) (n : Nat) (X : AH → Prop) (c : Fx) (A : Around) (l : List (Option Value)) (k : Fu) (e : Expr) (r : RE) : Prop where
  ev : ∀ H Q, vcE G C n X l k r H Q → jF G A c (eval e c.env) l H Q (ExF c C X)
  tr : ∀ H (Q : Value → Bool → AH → Prop), vcE G C n X l k r H (fun v H => jW v H (Q v)) → jF G A c (isTrue e c.env (eval e c.env)) l H (fun b H' => ∃ v, pL v = some b ∧ Q v b H') (ExF c C X)
theorem chkI_ {ns : List Str} {x : Str} {i : Nat} (h : fP ns x i = true) : ns[i]? = some x ∧ (x == ("__debug__" : Str)) = false := by
  simp only [fP, Bool.and_eq_true, beq_iff_eq, bne_iff_ne, ne_eq] at h
  exact ⟨h.1, beq_eq_false_iff_ne.mpr h.2⟩
theorem chkN_ {K : Frag} {cs : Scope} {x : Str} {v : Value} (h : chkN K cs x v = true) : nsIn K mainGlobals x = some (some v) ∧ cs.names.lookup x = some .globalImplicit ∧ (x == ("__debug__" : Str)) = false := by
  simp only [chkN, Bool.and_eq_true, beq_iff_eq, bne_iff_ne, ne_eq] at h
  exact ⟨h.1.1, h.1.2, beq_eq_false_iff_ne.mpr h.2⟩
theorem chkB_ {K : Frag} {cs : Scope} {x : Str} {v : Value} (h : chkB K cs x v = true) : nsIn K mainGlobals x = some none ∧ bootBuiltins x = some v ∧ x ≠ "__name__" ∧ cs.names.lookup x = some .globalImplicit ∧ (x == ("__debug__" : Str)) = false := by
  simp only [chkB, Bool.and_eq_true, beq_iff_eq, bne_iff_ne, ne_eq] at h
  exact ⟨h.1.1.1.1, h.1.1.1.2, h.1.1.2, h.1.2, beq_eq_false_iff_ne.mpr h.2⟩
theorem plainTrue {e : Expr} (he : ∀ env whole, isTrue e env whole = (do let v ← whole; standAt e.pos; holding [v] (truthy v))) {Q : Value → Bool → AH → Prop} (h : jF G A c (eval e c.env) l H (fun v H => jW v H (Q v)) E) :
    jF G A c (isTrue e c.env (eval e c.env)) l H (fun b H' => ∃ v, pL v = some b ∧ Q v b H') E := jE fun g s S => by
  refine isTrue_plain ?_ (he _ _)
  refine jA h S fun v g₁ s₁ H₁ S₁ h₁ => ?_
  refine jU (kX ?_) S₁
  dsimp only [jW] at h₁
  exact isSomeB_ h₁ fun b hb h₁ => truVC_mk hb ⟨v, hb, h₁⟩
end
section
variable {G : Gl} {A : Around} {c : Fx} {n : Nat} {k : Fu} {l l' : List (Option Value)} {H H' : AH} {E : Value → Shared → Prop} {Q : Value → AH → Prop} {g : Heap} {s s' : Shared} {C : Addr} {X : AH → Prop}
noncomputable abbrev Ih (G : Gl) (C : Addr) (n : Nat) (X : AH → Prop) (c : Fx) (A : Around) (l : List (Option Value)) (k : Fu) : Prop := ∀ e r, zE G.K c.cs c.ns k e r = true → SE G C n X c A l k e r
theorem listE (ih : Ih G C n X c A l k) : ∀ {es : List Expr} {rs : List RE} {H : AH} {Q : List Value → AH → Prop}, pG (zE G.K c.cs c.ns k) es rs = true → vcL (vcE G C n X l k) rs H Q → TL G A c l (ExF c C X) es H Q
  | [], [], _, _, _, h => h
  | [], _ :: _, _, _, hc, _ => (Bool.false_ne_true hc).elim
  | _ :: _, [], _, _, hc, _ => (Bool.false_ne_true hc).elim
  | e :: es, r :: rs, H, Q, hc, h => by
    simp only [chkL1, Bool.and_eq_true] at hc
    exact zA ((ih e r hc.1.2).ev H _ h) fun v H₁ h₁ => listE ih hc.2 h₁
theorem vD {ck : Expr → RE → Bool} : ∀ {es : List Expr} {rs : List RE}, pG ck es rs = true → es.all noStar = true
  | [], [], _ => rfl
  | [], _ :: _, hc => (Bool.false_ne_true hc).elim
  | _ :: _, [], hc => (Bool.false_ne_true hc).elim
  | e :: es, r :: rs, hc => by
    simp only [chkL1, Bool.and_eq_true] at hc
    rw [List.all_cons, hc.1.1, vD hc.2]; rfl
theorem aoE (ih : Ih G C n X c A l k) {pos : Pos} (w : Bool) : ∀ {es : List Expr} {rs : List RE} {e : Expr} {r : RE} {H : AH} {Q : Value → AH → Prop}, zE G.K c.cs c.ns k e r = true → pG (zE G.K c.cs c.ns k) es rs = true → vcAO (vcE G C n X l k) w r rs H Q →
    jF G A c (eval (.BoolOp (if w then .And else .Or) (e :: es) pos) c.env) l H Q (ExF c C X)
  | [], [], e, r, H, Q, he, _, h => jE fun g s S => BoolOp_one (jU ((ih e r he).ev H _ h) S)
  | [], _ :: _, _, _, _, _, _, hc, _ => (Bool.false_ne_true hc).elim
  | _ :: _, [], _, _, _, _, _, hc, _ => (Bool.false_ne_true hc).elim
  | e' :: es, r' :: rs, e, r, H, Q, he, hc, h => by
    simp only [chkL1, Bool.and_eq_true] at hc
    refine jE fun g s S => ?_
    cases w with
    | true =>
      refine BoolOp_and (jA ((ih e r he).ev H _ h) S fun v g₁ s₁ H₁ S₁ h₁ => ?_)
      refine jA (kX h₁) S₁ fun b g₂ s₂ H₂ S₂ h₂ => ?_
      cases b with
      | true => exact jU (aoE ih true (pos := pos) hc.1.2 hc.2 (h₂.1 rfl)) S₂
      | false => exact ⟨g₂, H₂, S₂, h₂.2 rfl⟩
    | false =>
      refine BoolOp_or (jA ((ih e r he).ev H _ h) S fun v g₁ s₁ H₁ S₁ h₁ => ?_)
      refine jA (kX h₁) S₁ fun b g₂ s₂ H₂ S₂ h₂ => ?_
      cases b with
      | false => exact jU (aoE ih false (pos := pos) hc.1.2 hc.2 (h₂.1 rfl)) S₂
      | true => exact ⟨g₂, H₂, S₂, h₂.2 rfl⟩
theorem truVC_is {v : Value} {P : Bool → AH → Prop} {b : Bool} (h : jW v H P) (e : pL v = some b) : P b H := by
  unfold jW at h
  rw [e] at h
  exact h
theorem aoT (ih : Ih G C n X c A l k) {pos : Pos} {whole : Sem Value} (w : Bool) : ∀ {es : List Expr} {rs : List RE} {e : Expr} {r : RE} {H : AH} {Q : Value → Bool → AH → Prop}, zE G.K c.cs c.ns k e r = true → pG (zE G.K c.cs c.ns k) es rs = true →
    vcAO (vcE G C n X l k) w r rs H (fun v H => jW v H (Q v)) →
    jF G A c (isTrue (.BoolOp (if w then .And else .Or) (e :: es) pos) c.env whole) l H (fun b H' => ∃ v, pL v = some b ∧ Q v b H') (ExF c C X)
  | [], [], e, r, H, Q, he, _, h => jE fun g s S => by
    cases w with
    | true =>
      refine isTrue_and (jA ((ih e r he).tr H _ h) S fun b g₁ s₁ H₁ S₁ h₁ => ?_)
      obtain ⟨v, hv, q⟩ := h₁
      cases b with
      | true => exact isTrue_and_nil ⟨g₁, H₁, S₁, v, hv, q⟩
      | false => exact ⟨g₁, H₁, S₁, v, hv, q⟩
    | false =>
      refine isTrue_or (jA ((ih e r he).tr H _ h) S fun b g₁ s₁ H₁ S₁ h₁ => ?_)
      obtain ⟨v, hv, q⟩ := h₁
      cases b with
      | true => exact ⟨g₁, H₁, S₁, v, hv, q⟩
      | false => exact isTrue_or_nil ⟨g₁, H₁, S₁, v, hv, q⟩
  | [], _ :: _, _, _, _, _, _, hc, _ => (Bool.false_ne_true hc).elim
  | _ :: _, [], _, _, _, _, _, hc, _ => (Bool.false_ne_true hc).elim
  | e' :: es, r' :: rs, e, r, H, Q, he, hc, h => by
    simp only [chkL1, Bool.and_eq_true] at hc
    refine jE fun g s S => ?_
    cases w with
    | true =>
      refine isTrue_and (jA ((ih e r he).tr H _ h) S fun b g₁ s₁ H₁ S₁ h₁ => ?_)
      obtain ⟨v, hv, q⟩ := h₁
      cases b with
      | true => exact jU (aoT ih true (pos := pos) hc.1.2 hc.2 (q.1 rfl)) S₁
      | false => exact ⟨g₁, H₁, S₁, v, hv, truVC_is (q.2 rfl) hv⟩
    | false =>
      refine isTrue_or (jA ((ih e r he).tr H _ h) S fun b g₁ s₁ H₁ S₁ h₁ => ?_)
      obtain ⟨v, hv, q⟩ := h₁
      cases b with
      | false => exact jU (aoT ih false (pos := pos) hc.1.2 hc.2 (q.1 rfl)) S₁
      | true => exact ⟨g₁, H₁, S₁, v, hv, truVC_is (q.2 rfl) hv⟩
theorem partE (ih : Ih G C n X c A l k) {e : Option Expr} {r : RE} {H : AH} {Q : Value → AH → Prop} (hc : chkP (zE G.K c.cs c.ns k) e r = true) (h : vcE G C n X l k r H Q) : jF G A c (evalPart e c.env) l H Q (ExF c C X) := by
  cases e with
  | none =>
    revert h
    refine isNoneC_ r hc fun h => ?_
    cases k with
    | z => exact h.elim
    | s k => exact triV_pure h
  | some e => exact (ih e r hc).ev H _ h
theorem keep_bf {b : BF} : rH G b.val := by cases b <;> first | exact vV | exact uA
end
section
variable {G : Gl} {A : Around} {c : Fx} {n : Nat} {k : Fu} {l l' : List (Option Value)} {H H' : AH} {E : Value → Shared → Prop} {Q : Value → AH → Prop} {g : Heap} {s s' : Shared} {C : Addr} {X : AH → Prop}
theorem e_call (ih : Ih G C n X c A l k) (at_ : At c n A) {x : Str} {p pos : Pos} {f : Addr} {es : List Expr} {rs : List RE} (hx : chkN G.K c.cs x (.ref f) = true) (hk : keepIn G.K (.ref f) = true) (hc : pG (zE G.K c.cs c.ns k) es rs = true)
    (h : vcL (vcE G C n X l k) rs H fun vs H => CallT G C n (.ref f) vs H Q X) : jF G A c (eval (.Call (.Name x p) es [] pos) c.env) l H Q (ExF c C X) := by
  obtain ⟨e1, e2, e3⟩ := chkN_ hx
  exact vZ (vD hc) (fE hk) (fun q => vB at_.ok e1 e2 e3 q) ((listE ih hc h).mono fun vs H h => triV_call at_.ok at_.fr at_.room h)
theorem e_new (ih : Ih G C n X c A l k) (at_ : At c n A) {x : Str} {p pos : Pos} {K f : Addr} {es : List Expr} {rs : List RE} (hx : chkN G.K c.cs x (.ref K) = true) (hk : keepIn G.K (.ref K) = true) (hm : makesIn G.K K = true)
    (hi : findIn G.K (.ref K) "__init__" = some (some (.ref f))) (hf : isFn G.K (.ref f) = true) (hc : pG (zE G.K c.cs c.ns k) es rs = true)
    (h : vcL (vcE G C n X l k) rs H fun vs H => ∀ x d, H.free x → H.free d → x ≠ d →
      (match (generalizing := false) n with | 0 => False | m + 1 => CallT G C m (.ref f) (.ref x :: vs) ((H.setM d (.dict [])).setM x (.inst K d)) (fun v H => v = .none ∧ Q (.ref x) H) X)) :
    jF G A c (eval (.Call (.Name x p) es [] pos) c.env) l H Q (ExF c C X) := by
  obtain ⟨e1, e2, e3⟩ := chkN_ hx
  refine vZ (vD hc) (fE hk) (fun q => vB at_.ok e1 e2 e3 q) ((listE ih hc h).mono fun vs H h => ?_)
  cases n with
  | zero =>
    exact jE fun g s S => by
      obtain ⟨news, N, i⟩ := S.led
      have f1 := fG N i
      have hs : ∀ p ∈ news, p.1 ≠ s.heap.objs.size + 1 := fun p hp e => by
        have hh := Heap.lt_size (N p hp).1
        rw [e] at hh
        exact Nat.lt_irrefl _ (Nat.lt_of_succ_lt hh)
      exact (h _ _ (kG i hs) f1 (Nat.succ_ne_self _)).elim
  | succ m => exact triV_new at_.ok at_.fr at_.room hm hi hf h
theorem e_bcall (ih : Ih G C n X c A l k) (at_ : At c n A) {x : Str} {p pos : Pos} {b : BF} {es : List Expr} {rs : List RE} (hx : chkB G.K c.cs x b.val = true) (hc : pG (zE G.K c.cs c.ns k) es rs = true)
    (h : vcL (vcE G C n X l k) rs H fun vs H => rF b vs H Q) : jF G A c (eval (.Call (.Name x p) es [] pos) c.env) l H Q (ExF c C X) := by
  obtain ⟨e1, e2, e3, e4, e5⟩ := chkB_ hx
  exact vZ (vD hc) keep_bf (fun q => xB at_.ok e1 e2 e3 e4 e5 q) ((listE ih hc h).mono fun vs H h => triV_bf at_.room.hand h)
theorem e_meth (ih : Ih G C n X c A l k) (at_ : At c n A) {nm : Str} {ap pos : Pos} {K f : Addr} {o : Expr} {r : RE} {es : List Expr} {rs : List RE} (hb : mT o = true) (hl : es.length < 30) (hp : (ap.endLine == pos.line) = true) (ok : methOk G.K K nm f = true)
    (ho : zE G.K c.cs c.ns k o r = true) (hc : pG (zE G.K c.cs c.ns k) es rs = true)
    (h : vcE G C n X l k r H fun v H => (match qC H K v with
      | some (_, fs) => lk nm fs = none ∧ vcL (vcE G C n X l k) rs H fun vs H => CallT G C n (.ref f) (v :: vs) H Q X
      | none => False)) : jF G A c (eval (.Call (.Attribute o nm ap) es [] pos) c.env) l H Q (ExF c C X) := by
  refine vG hb (vD hc) hl hp (zA ((ih o r ho).ev H _ h) fun v H₁ h₁ => ?_)
  exact isInst_ h₁ fun d fs hi h₁ => fL ok hi h₁.1 ⟨keep_meth ok, (listE ih hc h₁.2).mono fun vs H h => triV_call at_.ok at_.fr at_.room h⟩
theorem e_bmeth (ih : Ih G C n X c A l k) (at_ : At c n A) {ap pos : Pos} {b : BM} {o : Expr} {r : RE} {es : List Expr} {rs : List RE} (hb : mT o = true) (hl : es.length < 30) (hp : (ap.endLine == pos.line) = true)
    (ho : zE G.K c.cs c.ns k o r = true) (hc : pG (zE G.K c.cs c.ns k) es rs = true)
    (h : vcE G C n X l k r H fun v H => bmOk b v H ∧ vcL (vcE G C n X l k) rs H fun vs H => bmVC b v vs H Q) : jF G A c (eval (.Call (.Attribute o b.name ap) es [] pos) c.env) l H Q (ExF c C X) := by
  refine vG hb (vD hc) hl hp (zA ((ih o r ho).ev H _ h) fun v H₁ h₁ => ?_)
  exact triV_bmGet h₁.1 ⟨vV, (listE ih hc h₁.2).mono fun vs H h => triV_bm at_.room.hand h⟩
theorem e_neg (ih : Ih G C n X c A l k) {pos : Pos} {a : Expr} {r : RE} (ha : zE G.K c.cs c.ns k a r = true)
    (h : vcE G C n X l k r H fun v H => (match v with | .int x _ => ∀ t, Q (.int (-x) t) H | _ => False)) : jF G A c (eval (.UnaryOp .USub a pos) c.env) l H Q (ExF c C X) := by
  refine nB (zA ((ih a r ha).ev H _ h) fun v H₁ h₁ => ?_)
  cases v with
  | int x t => exact triV_neg_int h₁
  | _ => exact h₁.elim
theorem e_not (ih : Ih G C n X c A l k) {pos : Pos} {a : Expr} {r : RE} (ha : zE G.K c.cs c.ns k a r = true)
    (h : vcE G C n X l k r H fun v H => jW v H fun b H => Q (.bool (!b)) H) : jF G A c (eval (.UnaryOp .Not a pos) c.env) l H Q (ExF c C X) := by
  refine nB (zA ((ih a r ha).ev H _ h) fun v H₁ h₁ => ?_)
  exact jE fun g s S => not_of (jU (kX h₁) S)
theorem t_not (ih : Ih G C n X c A l k) {pos : Pos} {a : Expr} {r : RE} {whole : Sem Value} {Q : Value → Bool → AH → Prop} (ha : zE G.K c.cs c.ns k a r = true)
    (h : vcE G C n X l k r H fun v H => jW v H fun b H => jW (.bool (!b)) H (Q (.bool (!b)))) : jF G A c (isTrue (.UnaryOp .Not a pos) c.env whole) l H (fun b H' => ∃ v, pL v = some b ∧ Q v b H') (ExF c C X) :=
  jE fun g s S => isTrue_not (jA ((ih a r ha).tr H (fun v b H => Q (.bool (!b)) (!b) H) h) S fun b g₁ s₁ H₁ S₁ ⟨v, hv, q⟩ => ⟨g₁, H₁, S₁, .bool (!b), rfl, q⟩)
theorem e_cmp (ih : Ih G C n X c A l k) (at_ : At c n A) {pos : Pos} {op : CmpOp} {a b : Expr} {r q : RE} (hm : behindInMarks op b = false) (ha : zE G.K c.cs c.ns k a r = true) (hb : zE G.K c.cs c.ns k b q = true)
    (h : vcE G C n X l k r H fun v H => vcE G C n X l k q H fun u H => yR op v u H Q) : jF G A c (eval (.Compare a [op] [b] pos) c.env) l H Q (ExF c C X) :=
  triV_Compare1 hm (zA ((ih a r ha).ev H _ h) fun v H₁ h₁ => zA ((ih b q hb).ev H₁ _ h₁) fun u H₂ h₂ => yF (by have := at_.room.units; lia) h₂)
theorem truthyT {v : Value} {Q : Value → Bool → AH → Prop} (h : jW v H (Q v)) : jF G A c (truthy v) l H (fun b H' => ∃ v, pL v = some b ∧ Q v b H') E := by
  refine kX ?_
  dsimp only [jW] at h
  exact isSomeB_ h fun b hb h => truVC_mk hb ⟨v, hb, h⟩
theorem t_cmp (ih : Ih G C n X c A l k) (at_ : At c n A) {pos : Pos} {op : CmpOp} {a b : Expr} {r q : RE} {whole : Sem Value} {Q : Value → Bool → AH → Prop} (hm : behindInMarks op b = false) (ha : zE G.K c.cs c.ns k a r = true) (hb : zE G.K c.cs c.ns k b q = true)
    (h : vcE G C n X l k r H fun v H => vcE G C n X l k q H fun u H => yR op v u H fun v H => jW v H (Q v)) : jF G A c (isTrue (.Compare a [op] [b] pos) c.env whole) l H (fun b H' => ∃ v, pL v = some b ∧ Q v b H') (ExF c C X) :=
  jE fun g s S => wpAny_isTrue_Compare1 (jA ((ih a r ha).ev H _ h) S fun v g₁ s₁ H₁ S₁ h₁ => jA ((ih b q hb).ev H₁ _ h₁) S₁ fun u g₂ s₂ H₂ S₂ h₂ =>
    jA (yF (by have := at_.room.units; lia) h₂) S₂ fun z g₃ s₃ H₃ S₃ h₃ => jU (truthyT h₃) S₃) hm
theorem e_cmp2 (ih : Ih G C n X c A l k) (at_ : At c n A) {pos : Pos} {op op' : CmpOp} {a b d : Expr} {r q z : RE} (hm : lastMarks [op, op'] [b, d] = false) (ha : zE G.K c.cs c.ns k a r = true) (hb : zE G.K c.cs c.ns k b q = true) (hd : zE G.K c.cs c.ns k d z = true)
    (h : vcE G C n X l k r H fun v H => vcE G C n X l k q H fun u H => yR op v u H fun r H => jW r H fun t H => (t = true → vcE G C n X l k z H fun z H => yR op' u z H Q) ∧ (t = false → Q r H)) :
    jF G A c (eval (.Compare a [op, op'] [b, d] pos) c.env) l H Q (ExF c C X) :=
  jE fun g s S => Compare_chain (jA ((ih a r ha).ev H _ h) S fun v g₁ s₁ H₁ S₁ h₁ => chain_link (jA ((ih b q hb).ev H₁ _ h₁) S₁ fun u g₂ s₂ H₂ S₂ h₂ =>
    jA (yF (by have := at_.room.units; lia) h₂) S₂ fun z' g₃ s₃ H₃ S₃ h₃ => jA (kX h₃) S₃ fun t g₄ s₄ H₄ S₄ h₄ => by
      cases t with
      | true => exact chain_last (jA ((ih d z hd).ev H₄ _ (h₄.1 rfl)) S₄ fun y g₅ s₅ H₅ S₅ h₅ => jU (yF (by have := at_.room.units; lia) h₅) S₅)
      | false => exact ⟨g₄, H₄, S₄, h₄.2 rfl⟩)) hm
theorem t_cmp2 (ih : Ih G C n X c A l k) (at_ : At c n A) {pos : Pos} {op op' : CmpOp} {a b d : Expr} {r q z : RE} {whole : Sem Value} {Q : Value → Bool → AH → Prop} (hm : lastMarks [op, op'] [b, d] = false) (ha : zE G.K c.cs c.ns k a r = true) (hb : zE G.K c.cs c.ns k b q = true) (hd : zE G.K c.cs c.ns k d z = true)
    (h : vcE G C n X l k r H fun v H => vcE G C n X l k q H fun u H => yR op v u H fun r H => jW r H fun t H => (t = true → vcE G C n X l k z H fun z H => yR op' u z H fun v H => jW v H (Q v)) ∧ (t = false → jW r H (Q r))) :
    jF G A c (isTrue (.Compare a [op, op'] [b, d] pos) c.env whole) l H (fun b H' => ∃ v, pL v = some b ∧ Q v b H') (ExF c C X) :=
  jE fun g s S => isTrue_chain (jA ((ih a r ha).ev H _ h) S fun v g₁ s₁ H₁ S₁ h₁ => test_link (jA ((ih b q hb).ev H₁ _ h₁) S₁ fun u g₂ s₂ H₂ S₂ h₂ =>
    jA (yF (by have := at_.room.units; lia) h₂) S₂ fun z' g₃ s₃ H₃ S₃ h₃ => jA (truthyT (Q := fun r t H => (t = true → vcE G C n X l k z H fun z H => yR op' u z H fun v H => jW v H (Q v)) ∧ (t = false → jW r H (Q r))) h₃) S₃ fun t g₄ s₄ H₄ S₄ ⟨r', hr, h₄⟩ => by
      cases t with
      | true => exact test_last (jA ((ih d z hd).ev H₄ _ (h₄.1 rfl)) S₄ fun y g₅ s₅ H₅ S₅ h₅ => jA (yF (by have := at_.room.units; lia) h₅) S₅ fun z g₆ s₆ H₆ S₆ h₆ => jU (truthyT h₆) S₆)
      | false => exact ⟨g₄, H₄, S₄, r', hr, truVC_is (h₄.2 rfl) hr⟩)) hm
theorem e_ite (ih : Ih G C n X c A l k) {pos : Pos} {t a b : Expr} {rt ra rb : RE} (ht : zE G.K c.cs c.ns k t rt = true) (ha : zE G.K c.cs c.ns k a ra = true) (hb : zE G.K c.cs c.ns k b rb = true)
    (h : vcE G C n X l k rt H fun v H => jW v H fun r H => (r = true → vcE G C n X l k ra H Q) ∧ (r = false → vcE G C n X l k rb H Q)) : jF G A c (eval (.IfExp t a b pos) c.env) l H Q (ExF c C X) :=
  jE fun g s S => IfExp_ (jA ((ih t rt ht).tr H (fun _ r H => (r = true → vcE G C n X l k ra H Q) ∧ (r = false → vcE G C n X l k rb H Q)) h) S fun t g₁ s₁ H₁ S₁ ⟨_, _, h₁⟩ => by
    cases t with
    | true => exact jU ((ih a ra ha).ev H₁ _ (h₁.1 rfl)) S₁
    | false => exact jU ((ih b rb hb).ev H₁ _ (h₁.2 rfl)) S₁)
theorem t_ite (ih : Ih G C n X c A l k) {pos : Pos} {t a b : Expr} {rt ra rb : RE} {whole : Sem Value} {Q : Value → Bool → AH → Prop} (ht : zE G.K c.cs c.ns k t rt = true) (ha : zE G.K c.cs c.ns k a ra = true) (hb : zE G.K c.cs c.ns k b rb = true)
    (h : vcE G C n X l k rt H fun v H => jW v H fun r H => (r = true → vcE G C n X l k ra H fun v H => jW v H (Q v)) ∧ (r = false → vcE G C n X l k rb H fun v H => jW v H (Q v))) :
    jF G A c (isTrue (.IfExp t a b pos) c.env whole) l H (fun b H' => ∃ v, pL v = some b ∧ Q v b H') (ExF c C X) :=
  jE fun g s S => isTrue_IfExp (jA ((ih t rt ht).tr H (fun _ r H => (r = true → vcE G C n X l k ra H fun v H => jW v H (Q v)) ∧ (r = false → vcE G C n X l k rb H fun v H => jW v H (Q v))) h) S fun t g₁ s₁ H₁ S₁ ⟨_, _, h₁⟩ => by
    cases t with
    | true => exact jU ((ih a ra ha).tr H₁ _ (h₁.1 rfl)) S₁
    | false => exact jU ((ih b rb hb).tr H₁ _ (h₁.2 rfl)) S₁)
theorem e_dsub (ih : Ih G C n X c A l k) {es : List (Option Expr)} {fs : List Expr} {ks : List Str} {vs : List Const} {dpos pos : Pos} {i : Expr} {r : RE} (hd : chkD es fs ks vs = true) (nd : ks.Nodup) (h0 : ks ≠ []) (hl : ks.length ≤ 15) (hn : uT i = true) (hi : zE G.K c.cs c.ns k i r = true)
    (h : ∀ a o, H.free a → vcE G C n X l k r (H.setM a (.any o)) fun u H' => H' = H.setM a (.any o) ∧ (match u with
      | .str x _ => (match lkC x ks vs with | some u => yE u H Q | none => False)
      | _ => False)) : jF G A c (eval (.Subscript (.Dict es fs dpos) i pos) c.env) l H Q (ExF c C X) := by
  have hv := (pV hd).2.2.2.2.2.2
  refine uF (triV_Dict hd nd h0 hl fun a o hf lo ht => zA ((ih i r hi).ev _ _ (h a o hf)) fun u H₂ ⟨e, m⟩ => ?_)
  subst e
  exact xK u m fun x t m => isSomeC_ m fun u hu m => triV_tabSub hn hf lo ht hv hu m
theorem e_dget (at_ : At c n A) {es : List (Option Expr)} {fs : List Expr} {ks : List Str} {vs : List Const} {dpos ap p q pos : Pos} {x y : Str} {i : Nat} (hd : chkD es fs ks vs = true) (nd : ks.Nodup) (h0 : ks ≠ []) (hl : ks.length ≤ 15) (hp : (ap.endLine == pos.line) = true) (hx : fP c.ns x i = true) (hy : fP c.ns y i = true)
    (h : match l[i]? with | some (some (.str x t)) => (match lkC x ks vs with | some w => yE w H Q | none => ∀ t, Q (.str x t) H) | _ => False) :
    jF G A c (eval (.Call (.Attribute (.Dict es fs dpos) "get" ap) [.Name x p, .Name y q] [] pos) c.env) l H Q (ExF c C X) := by
  have hv := (pV hd).2.2.2.2.2.2
  obtain ⟨hx1, hx2⟩ := chkI_ hx
  obtain ⟨hy1, hy2⟩ := chkI_ hy
  refine isLocS_ h fun z t hz h => ?_
  refine vG rfl rfl (show 2 < 30 by decide) hp (triV_Dict hd nd h0 hl fun a o hf lo ht => ?_)
  refine jE fun g s S => getMethod_strTab_get (S.tab lo ht) ⟨g, _, S, ?_⟩
  refine ⟨vV, ?_⟩
  refine yZ at_.ok hx1 hx2 hz (yZ at_.ok hy1 hy2 hz ?_)
  exact triV_tabGet hf lo ht hv h
end
noncomputable def xR : Expr → Bool
  | .ListComp .. => false
  | .SetComp .. => false
  | .DictComp .. => false
  | _ => true
theorem xC {v : Expr} {t : Option Expr} {ln : Nat} {env : Env} (h : xR v = true) : swapsWith v t ln env = pure false := by
  cases v <;> first | rfl | cases h
noncomputable def noTup : Expr → Bool
  | .Tuple es _ _ => es.all (foldedForSure 8)
  | _ => true
theorem ite_same {α : Type} {p : Prop} [Decidable p] {a b : α} (h : b = a) : (if p then a else b) = a := by by_cases q : p <;> simp [q, h]
theorem stores_tt {ts vs : List Expr} {o : Option (List Expr × List Expr)} {env : Env} (e : o = some (ts, vs)) (h : vs.all (foldedForSure 8) = true) : (do
    let some (ts, vs) := o | return none
    if !(ts.length == 2 || ts.length == 3) || vs.length != ts.length || env.blockKind != .function then return none
    if vs.any fun | .Starred .. => true | _ => false then return none
    let line := (ts.head?.map (·.pos.line)).getD 0
    let names := ts.filterMap fun
      | .Name id pos => if env.kindOf id == some .local && pos.line == line then some id else none
      | _ => none
    if names.length != ts.length || names.eraseDups.length != names.length then return none
    if vs.all (foldedForSure 8) then return none
    if vs.all (constantsAlone 8) then unsupported "assign.tuple-of-constant-expressions:order-of-the-stores"
    return some names : Sem (Option (List Str))) = pure none := by
  subst e
  exact ite_same (ite_same (ite_same (if_pos h)))
theorem stores_no {t v : Expr} {env : Env} (h : noTup v = true) : swappedStores [t] v env = pure none := by
  cases t <;> first | rfl | (cases v <;> first | rfl | exact stores_tt rfl h)
section
variable {G : Gl} {A : Around} {c : Fx} {n : Nat} {k : Fu} {l l' : List (Option Value)} {H H' : AH} {E : Value → Shared → Prop} {Q : List (Option Value) → AH → Prop} {g : Heap} {s s' : Shared} {C : Addr} {X : AH → Prop} {α : Type}
theorem uE {t : Sem α} {P : α → List (Option Value) → AH → Prop} {R : α → Shared → Prop} (h : Tri G A c t l H P E) (S : FS G c g s l H) (k : ∀ v g' s' l' H', FS G c g' s' l' H' → P v l' H' → R v s') :
    wpAny (model G.prog G.w) A t R E s := wpAny_mono (h.go g s S) (fun v s' ⟨g', l', H', S', q⟩ => k v g' s' l' H' S' q) fun _ _ x => x
theorem mE {ns : List Str} {m : Str → Option Value} {i : Nat} {x : Str} {v : Value} (r : uO ns l m) (nd : ns.Nodup) (hx : ns[i]? = some x) : uO ns (l.set i (some v)) (fun y => if y = x then some v else m y) := by
  refine ⟨by rw [List.length_set]; exact r.1, fun j y hy => ?_⟩
  have hi : i < l.length := by rw [r.1]; exact (List.getElem?_eq_some_iff.mp hx).1
  by_cases e : y = x
  · subst e
    have hij : j = i := (List.getElem?_inj (List.getElem?_eq_some_iff.mp hy).1 nd).mp (hy.trans hx.symm)
    subst hij
    show (if y = y then some v else m y) = _
    rw [if_pos rfl, List.getElem?_set_self hi]; rfl
  · have hij : i ≠ j := fun q => by subst q; rw [hx] at hy; exact e (Option.some.inj hy).symm
    show (if y = x then some v else m y) = _
    rw [if_neg e, List.getElem?_set_ne hij]
    exact r.2 j y hy
theorem fZ {x : Str} {i : Nat} {v : Value} (ok : c.Ok) (hx : c.ns[i]? = some x) (h : Q (l.set i (some v)) H) : Tri G A c (storeName c.env x v) l H (fun _ => Q) E := ⟨fun g s S => by
  refine S.opn fun m news F r N i' => ?_
  refine stN F N (fun h' F' N' => ?_) ok.kind (ok.loc x (List.mem_of_getElem? hx))
  exact ⟨g, l.set i (some v), H, S.next F' (mE r ok.nd hx) N' i' ⟨rfl, rfl, rfl⟩, h⟩⟩
theorem triS_bind {x : Str} {i : Nat} {v : Value} (ok : c.Ok) (hx : c.ns[i]? = some x) (h : Q (l.set i (some v)) H) : Tri G A c (bindName c.env x v) l H (fun _ => Q) E := ⟨fun g s S => wpAny_bindName ((fZ ok hx h).go g s S)⟩
theorem qM {x : Str} {p : Pos} {i : Nat} {v : Value} (ok : c.Ok) (hx : c.ns[i]? = some x) (h : Q (l.set i (some v)) H) : Tri G A c (assign (.Name x p) c.env v) l H (fun _ => Q) E :=
  ⟨fun g s S => wpAny_assign_Name ((fZ ok hx h).go g s S)⟩
noncomputable def chkT (ns : List Str) (ts : List Expr) (is : List Nat) : Bool := match is with
  | [] => kJ ts true
  | i :: is => vH ts fun t ts => zZ t (fun x _ => ns[i]? == some x) && chkT ns ts is
theorem pU {ns : List Str} {m : List Expr → List Nat → Prop} (k0 : m [] []) (k : ∀ x p ts i is, ns[i]? = some x → m ts is → m (.Name x p :: ts) (i :: is)) : ∀ {is : List Nat} {ts : List Expr}, chkT ns ts is = true → m ts is
  | [], ts, h => qA ts h fun _ => k0
  | i :: is, ts, h => xG ts h fun t ts h => by
    rw [Bool.and_eq_true] at h
    refine zK t h.1 fun x p hx => k x p ts i is (beq_iff_eq.mp hx) (pU k0 k h.2)
theorem nE (ok : c.Ok) {ts : List Expr} {is : List Nat} {vs : List Value} {l : List (Option Value)} (hc : chkT c.ns ts is = true) (hl : vs.length = is.length) (h : Q (xQ l is vs) H) :
    Tri G A c (assignInOrder ((assignEach ts c.env).map (·.2)) vs) l H (fun _ => Q) E := by
  refine pU (m := fun ts is => ∀ vs l, vs.length = is.length → Q (xQ l is vs) H → Tri G A c (assignInOrder ((assignEach ts c.env).map (·.2)) vs) l H (fun _ => Q) E) (fun vs l hl h => ?_) (fun x p ts i is hx ih vs l hl h => ?_) hc vs l hl h
  · cases vs with
    | nil => exact ⟨fun g s S => wpAny_assignInOrder_none ⟨g, l, H, S, h⟩⟩
    | cons => cases hl
  · cases vs with
    | nil => cases hl
    | cons v vs => exact ⟨fun g s S => wpAny_assignInOrder_more (uE (qM (Q := fun l' H' => l' = l.set i (some v) ∧ H' = H) ok hx ⟨rfl, rfl⟩) S fun _ g₁ s₁ l₁ H₁ S₁ ⟨e1, e2⟩ => by
      rw [e1, e2] at S₁
      exact (ih vs _ (Nat.succ.inj hl) h).go g₁ s₁ S₁)⟩
theorem chkT_each {ns : List Str} {ts : List Expr} {is : List Nat} (env : Env) (h : chkT ns ts is = true) : (assignEach ts env).length = is.length ∧ (assignEach ts env).findIdx? (·.1) = none := by
  refine pU (m := fun ts is => (assignEach ts env).length = is.length ∧ (assignEach ts env).findIdx? (·.1) = none) ⟨rfl, rfl⟩ (fun x p ts i is _ ih => ?_) h
  have e : assignEach (.Name x p :: ts) env = (false, assign (.Name x p) env) :: assignEach ts env := rfl
  rw [e, List.findIdx?_cons, ih.2]
  exact ⟨congrArg Nat.succ ih.1, rfl⟩
theorem pM {ts : List Expr} {is : List Nat} {kk : Nat} {p : Pos} {v : Value} (ok : c.Ok) (hh : A.handled = none) (hc : chkT c.ns ts is = true) (h : wO is v l H Q) : Tri G A c (assign (.Tuple ts kk p) c.env v) l H (fun _ => Q) E := by
  refine wD v h fun a h => rA h fun vs hI h => ?_
  obtain ⟨e1, e2⟩ := chkT_each c.env hc
  refine ⟨fun g s S => ?_⟩
  refine S.opn fun m news F r N i => ?_
  refine unpackN_ F N (S.isTup hI) hh (by rw [e1, List.size_toArray, h.1]) e2 fun h' F' N' => ?_
  exact (nE ok hc h.1 h.2).go g _ (S.next F' r N' i ⟨rfl, rfl, rfl⟩)
end
noncomputable def Fx.pinned (c : Fx) (os : List (Addr × Obj)) : Fx := { c with pin := os ++ c.pin }
noncomputable def Fl.flow : Fl → Flow
  | .next => .next
  | .ret v => .ret v
section
variable {G : Gl} {A : Around} {c : Fx} {n : Nat} {k : Fu} {l l' : List (Option Value)} {H H' : AH} {E : Value → Shared → Prop} {g : Heap} {s s' : Shared} {C : Addr} {X : AH → Prop} {α : Type} {os os' : List (Addr × Obj)}
theorem FS.unpin (S : FS G (c.pinned os) g s l H) : FS G c g s l H :=
  ⟨S.B, S.F, S.XB, S.TB, S.D, S.T0, (let ⟨news, N, i⟩ := S.led; ⟨news, N, i.tup, i.obs, fun q h => i.pins q (List.mem_append_right _ h)⟩), S.same⟩
theorem ExF.unpin {e : Value} (x : ExF (c.pinned os) C X e s) : ExF c C X e s := by
  rcases x with x | x
  · obtain ⟨ea, t, vs, news, g, Gh, m, l, H, e, sm, B, F, lr, D, T0, R, up, i, hx⟩ := x
    exact .inl ⟨ea, t, vs, news, g, Gh, m, l, H, e, sm, B, F, lr, D, T0, R, up, ⟨i.tup, i.obs, fun q h => i.pins q (List.mem_append_right _ h)⟩, hx⟩
  · obtain ⟨ea, t, vs, news, g, Gh, m, l, H, e, sm, B, F, lr, D, T0, R, up, i, hx⟩ := x
    exact .inr ⟨ea, t, vs, news, g, Gh, m, l, H, e, sm, B, F, lr, D, T0, R, up, ⟨i.tup, i.obs, fun q h => i.pins q (List.mem_append_right _ h)⟩, hx⟩
theorem FS.pin0' (S : FS G c g s l H) {h' : Heap} {tk : Nat} (hk : ∀ b o, s.heap.get? b = some o → h'.get? b = some o) (ho : ∀ p ∈ os, h'.get? p.1 = some p.2 ∧ PinOk p.2 ∧ s.heap.objs.size ≤ p.1) :
    FS G (c.pinned os) g { s with heap := h', toks := tk } l H := by
  refine S.opn fun m news F r N i => ?_
  have F' : Fr g c.L h' m := ⟨(Heap.UpToSlots.of_keeps hk).ns F.ns, fun b o e => hk b o (F.keep b o e), F.above⟩
  have ga : ∀ a, s.heap.objs.size ≤ a → g.get? a = none := fun a hsz => by
    cases q : g.get? a with
    | none => rfl
    | some o' => exact absurd (Nat.lt_of_lt_of_le (Heap.lt_size (F.keep a o' q)) hsz) (Nat.lt_irrefl _)
  have La : ∀ a, s.heap.objs.size ≤ a → a ≠ c.L := fun a hsz e => by
    obtain ⟨oL, _, _, hL, _⟩ := F.ns
    exact absurd (Nat.lt_of_lt_of_le (e ▸ Heap.lt_size hL) hsz) (Nat.lt_irrefl _)
  refine ⟨S.B, ⟨m, F', r⟩, S.XB, S.TB, S.D, S.T0, ⟨os ++ news, fun p hp => ?_, fun a vs h => List.mem_append_right _ (i.tup a vs h), fun a mo h => ?_, fun q hq => ?_⟩, S.same.trans ⟨rfl, rfl, rfl⟩⟩
  · rcases List.mem_append.mp hp with hp | hp
    · exact ⟨(ho p hp).1, La _ (ho p hp).2.2, ga _ (ho p hp).2.2⟩
    · exact ⟨hk _ _ (N p hp).1, (N p hp).2⟩
  · obtain ⟨o, r, hm⟩ := i.obs a mo h
    exact ⟨o, r, List.mem_append_right _ hm⟩
  · rcases List.mem_append.mp hq with hq | hq
    · refine ⟨List.mem_append_left _ hq, (ho q hq).2.1, kG i fun p hp e => ?_⟩
      exact absurd (Nat.lt_of_lt_of_le (e ▸ Heap.lt_size (N p hp).1) (ho q hq).2.2) (Nat.lt_irrefl _)
    · obtain ⟨a, b, d⟩ := i.pins q hq
      exact ⟨List.mem_append_right _ a, b, d⟩
theorem FS.pin0 (S : FS G c g s l H) {h' : Heap} {tk : Nat} (hk : ∀ b o, s.heap.get? b = some o → h'.get? b = some o) (ho : ∀ p ∈ os, h'.get? p.1 = some p.2 ∧ p.2.cls ≠ .type "tuple" ∧ s.heap.objs.size ≤ p.1) :
    FS G (c.pinned os) g { s with heap := h', toks := tk } l H := S.pin0' hk fun p hp => ⟨(ho p hp).1, .inl (ho p hp).2.1, (ho p hp).2.2⟩
theorem FS.repin' (S : FS G (c.pinned os) g s l H) {h' : Heap} {tk : Nat} {wr : List Addr} (hw : os.map (·.1) = wr) (hw' : os'.map (·.1) = wr) (hpin : ∀ p ∈ c.pin, p.1 ∉ wr) (hk : ∀ b o, b ∉ wr → s.heap.get? b = some o → h'.get? b = some o)
    (ho : ∀ p ∈ os', h'.get? p.1 = some p.2 ∧ PinOk p.2) : FS G (c.pinned os') g { s with heap := h', toks := tk } l H := by
  refine S.opn fun m news F r N i => ?_
  have at_ : ∀ b ∈ wr, ∃ o, (b, o) ∈ news ∧ H.free b := fun b hb => by
    rw [← hw] at hb
    obtain ⟨q, hq, rfl⟩ := List.mem_map.mp hb
    obtain ⟨x, _, z⟩ := i.pins q (List.mem_append_left _ hq)
    exact ⟨q.2, x, z⟩
  have gn : ∀ b o, g.get? b = some o → b ∉ wr := fun b o e hb => by
    obtain ⟨o', hm, _⟩ := at_ b hb
    have := (N _ hm).2.2
    rw [e] at this; cases this
  have Lw : c.L ∉ wr := fun hb => by
    obtain ⟨o', hm, _⟩ := at_ _ hb
    exact (N _ hm).2.1 rfl
  have F' : Fr g c.L h' m := ⟨F.ns.at' fun o e => hk _ o Lw e, fun b o e => hk b o (gn b o e) (F.keep b o e), F.above⟩
  refine ⟨S.B, ⟨m, F', r⟩, S.XB, S.TB, S.D, S.T0, ⟨os' ++ news.filter (fun p => decide (p.1 ∉ wr)), fun p hp => ?_, fun a vs h => ?_, fun a mo h => ?_, fun q hq => ?_⟩, S.same.trans ⟨rfl, rfl, rfl⟩⟩
  · rcases List.mem_append.mp hp with hp | hp
    · obtain ⟨o, hm, _⟩ := at_ p.1 (hw' ▸ List.mem_map_of_mem hp)
      exact ⟨(ho p hp).1, (N _ hm).2⟩
    · obtain ⟨h1, h2⟩ := List.mem_filter.mp hp
      exact ⟨hk _ _ (of_decide_eq_true h2) (N p h1).1, (N p h1).2⟩
  · refine List.mem_append_right _ (List.mem_filter.mpr ⟨i.tup a vs h, decide_eq_true fun hb => ?_⟩)
    obtain ⟨_, _, z⟩ := at_ a hb
    rw [z.1] at h; cases h
  · obtain ⟨o, r, hm⟩ := i.obs a mo h
    refine ⟨o, r, List.mem_append_right _ (List.mem_filter.mpr ⟨hm, decide_eq_true fun hb => ?_⟩)⟩
    obtain ⟨_, _, z⟩ := at_ a hb
    rw [z.2] at h; cases h
  · rcases List.mem_append.mp hq with hq | hq
    · obtain ⟨_, _, z⟩ := at_ q.1 (hw' ▸ List.mem_map_of_mem hq)
      exact ⟨List.mem_append_left _ hq, (ho q hq).2, z⟩
    · obtain ⟨a, b, d⟩ := i.pins q (List.mem_append_right _ hq)
      exact ⟨List.mem_append_right _ (List.mem_filter.mpr ⟨a, decide_eq_true (hpin q hq)⟩), b, d⟩
theorem FS.repin (S : FS G (c.pinned os) g s l H) {h' : Heap} {tk : Nat} {wr : List Addr} (hw : os.map (·.1) = wr) (hw' : os'.map (·.1) = wr) (hpin : ∀ p ∈ c.pin, p.1 ∉ wr) (hk : ∀ b o, b ∉ wr → s.heap.get? b = some o → h'.get? b = some o)
    (ho : ∀ p ∈ os', h'.get? p.1 = some p.2 ∧ p.2.cls ≠ .type "tuple") : FS G (c.pinned os') g { s with heap := h', toks := tk } l H := S.repin' hw hw' hpin hk fun p hp => ⟨(ho p hp).1, .inl (ho p hp).2⟩
noncomputable def BodyOk (G : Gl) (A : Around) (c : Fx) (C : Addr) (X : AH → Prop) (body : List Stmt) (B : uP) : Prop :=
  ∀ os l H Q, B l H Q → Tri G A (c.pinned os) (execs body c.env) l H (fun f l' H' => ∃ fl : Fl, f = fl.flow ∧ Q fl l' H') (ExF (c.pinned os) C X)
structure Way (G : Gl) (A : Around) (c : Fx) (target : Expr) (is : List Nat) (I : Addr) (wr : List Addr) (ok : AH → Prop) (its : List It) (P Md : Nat → Value → Heap → Prop) (St : Nat → Heap → Prop) : Prop where
  item : ∀ i (s : Shared) (Q : Option Value → Shared → Prop) (E : Value → Shared → Prop), i < its.length → St i s.heap →
    (∀ v h' tk, Md i v h' → (∀ b o, b ∉ wr → s.heap.get? b = some o → h'.get? b = some o) → Q (some v) { s with heap := h', toks := tk }) → wpAny (model G.prog G.w) A (pyNext (.ref I)) Q E s
  go : ∀ i v (s : Shared) (Q : Unit → Shared → Prop) (E : Value → Shared → Prop), Md i v s.heap →
    (∀ h', P i v h' → St (i + 1) h' → (∀ b o, b ∉ wr → s.heap.get? b = some o → h'.get? b = some o) → Q () { s with heap := h' }) → wpAny (model G.prog G.w) A (letOwnedTupleGo target (.ref I) v) Q E s
  done : ∀ (s : Shared) (Q : Option Value → Shared → Prop) (E : Value → Shared → Prop), St its.length s.heap →
    (∀ h' tk, (∀ b o, b ∉ wr → s.heap.get? b = some o → h'.get? b = some o) → Q none { s with heap := h', toks := tk }) → wpAny (model G.prog G.w) A (pyNext (.ref I)) Q E s
  own : ∀ i h, St i h → ∃ os : List (Addr × Obj), os.map (·.1) = wr ∧ ∀ p ∈ os, h.get? p.1 = some p.2 ∧ p.2.cls ≠ .type "tuple"
  keep : ∀ i h os g (s : Shared) l H, St i h → os.map (·.1) = wr → (∀ p ∈ os, h.get? p.1 = some p.2 ∧ s.heap.get? p.1 = some p.2) → FS G (c.pinned os) g s l H → ok H → St i s.heap
  put : ∀ i it v os (g : Heap) (s : Shared) l H (Q : List (Option Value) → AH → Prop) (E : Value → Shared → Prop), its[i]? = some it → P i v s.heap → FS G (c.pinned os) g s l H → itVC is it l H Q →
    wpAny (model G.prog G.w) A (assign target c.env v) (fun _ s' => ∃ g' l' H', FS G (c.pinned os) g' s' l' H' ∧ Q l' H') E s
theorem for_k {prog : Program} {w : World} {A : Around} {target : Expr} {it : Value} {body : List Stmt} {env : Env} {R : Result → Shared → Prop} {s : Shared} (I : Nat → Shared → Prop)
    (turn : ∀ n s (P : Shared → Prop) E, I n s → (∀ e s', notedBy (model prog w) A env (fun e s' => R (.error e) s') e s' → E e s') → (∀ m s', m < n → I m s' → P s') → wpAny (model prog w) A (pyNext it) (fun r s₁ => match r with
      | none => wpAny (model prog w) A (execs [] env) (fun f s₃ => R (.ok f) s₃) E s₁
      | some v => wpAny (model prog w) A (letOwnedTupleGo target it v) (fun _ s₁' => wpAny (model prog w) A (assign target env v) (fun _ s₂ => wpAny (model prog w) A (execs body env) (fun f s₃ => match f with
        | .next | .cont => P s₃
        | .brk => R (.ok .next) s₃
        | .ret v => R (.ok (.ret v)) s₃) E s₂) E s₁') E s₁) E s) (n : Nat) (h : I n s) : codeAny (model prog w) A (.forLoop target it body [] env) R s :=
  codeAny_forLoop_any I (fun n s hI => turn n s (fun s' => ∃ m, m < n ∧ I m s') _ hI (fun _ _ x => x) fun m _ a b => ⟨m, a, b⟩) n h
inductive ForI (G : Gl) (c : Fx) (wr : List Addr) (is : List Nat) (B : uP) (ok : AH → Prop) (its : List It) (Q : Fl → List (Option Value) → AH → Prop) (St : Nat → Heap → Prop) (k : Nat) (s' : Shared) : Prop
  | mk (i : Nat) (g' : Heap) (l' : List (Option Value)) (H' : AH) (os' : List (Addr × Obj)) (S : FS G (c.pinned os') g' s' l' H') (hw : os'.map (·.1) = wr) (st : St i s'.heap) (h : yJ is B ok (its.drop i) l' H' Q) (hi : i ≤ its.length) (hk : k = its.length + 1 - i) : ForI G c wr is B ok its Q St k s'
theorem forLoop {target : Expr} {is : List Nat} {I : Addr} {wr : List Addr} {ok : AH → Prop} {its : List It} {P Md : Nat → Value → Heap → Prop} {St : Nat → Heap → Prop} {body : List Stmt} {B : uP} {Q : Fl → List (Option Value) → AH → Prop}
    (hA : A.frames = some (c.env :: c.outer)) (W : Way G A c target is I wr ok its P Md St) (hb : BodyOk G A c C X body B) (hpin : ∀ p ∈ c.pin, p.1 ∉ wr)
    (hw : os.map (·.1) = wr) (S : FS G (c.pinned os) g s l H) (st : St 0 s.heap) (h : yJ is B ok its l H Q) :
    codeAny (model G.prog G.w) A (.forLoop target (.ref I) body [] c.env) (fun r s' => match r with
      | .ok f => ∃ g' l' H', FS G c g' s' l' H' ∧ ∃ fl : Fl, f = fl.flow ∧ Q fl l' H'
      | .error e => cameBackBy (model G.prog G.w) A c.env (ExF c C X) e s') s := by
  have pass : ∀ e s', ExF c C X e s' → notedBy (model G.prog G.w) A c.env (fun e s' => cameBackBy (model G.prog G.w) A c.env (ExF c C X) e s') e s' := exF_passes hA
  refine for_k (ForI G c wr is B ok its Q St) ?_ (its.length + 1) ⟨0, g, l, H, os, S, hw, st, h, Nat.zero_le _, rfl⟩
  rintro k s₁ P₁ E₁ ⟨i, g₁, l₁, H₁, os₁, S₁, hw₁, st₁, h₁, hi, rfl⟩ kE kP
  by_cases hlt : i < its.length
  · refine W.item i _ _ _ hlt st₁ fun v h' tk hM hk => ?_
    refine W.go i v _ _ _ hM fun h'' hP st₂ hk₂ => ?_
    obtain ⟨os₂, hw₂, ho₂⟩ := W.own (i + 1) h'' st₂
    have S₂ : FS G (c.pinned os₂) g₁ { s₁ with heap := h'', toks := tk } l₁ H₁ := S₁.repin hw₁ hw₂ hpin (fun b o hb e => hk₂ b o hb (hk b o hb e)) ho₂
    have hd : its.drop i = its[i] :: its.drop (i + 1) := List.drop_eq_getElem_cons hlt
    rw [hd] at h₁
    refine wpAny_mono (W.put i its[i] v os₂ g₁ { s₁ with heap := h'', toks := tk } l₁ H₁ _ (fun _ _ => False) (List.getElem?_eq_getElem hlt) hP S₂ h₁.2) (fun _ s₃ ⟨g₃, l₃, H₃, S₃, h₃⟩ => ?_) fun _ _ x => x.elim
    refine wpAny_mono ((hb os₂ l₃ H₃ _ h₃).go g₃ s₃ S₃) (fun f s₄ ⟨g₄, l₄, H₄, S₄, fl, hf, h₄⟩ => ?_) fun e s₄ x => kE _ _ (pass e s₄ x.unpin)
    subst hf
    cases fl with
    | ret v => exact ⟨g₄, l₄, H₄, S₄.unpin, .ret v, rfl, h₄⟩
    | next =>
      have hok : ok H₄ := by
        cases hr : its.drop (i + 1) with
        | nil => rw [hr] at h₄; exact h₄.1
        | cons a r => rw [hr] at h₄; exact h₄.1
      obtain ⟨news, N, ii⟩ := S₄.led
      have st₄ : St (i + 1) s₄.heap := W.keep (i + 1) h'' os₂ g₄ s₄ l₄ H₄ st₂ hw₂ (fun p hp => ⟨(ho₂ p hp).1, (N _ (ii.pins p (List.mem_append_left _ hp)).1).1⟩) S₄ hok
      exact kP _ _ (turn_lt hlt) ⟨i + 1, g₄, l₄, H₄, os₂, S₄, hw₂, st₄, h₄, hlt, rfl⟩
  · have hin : i = its.length := by lia
    subst hin
    rw [List.drop_length] at h₁
    refine W.done _ _ _ st₁ fun h' tk hk => wpAny_execs_nil ?_
    have S₂ : FS G c g₁ { s₁ with heap := h', toks := tk } l₁ H₁ := by
      refine S₁.opn fun m news F r N ii => ?_
      have at_ : ∀ b ∈ wr, ∃ o, (b, o) ∈ news ∧ H₁.free b := fun b hb => by
        rw [← hw₁] at hb
        obtain ⟨q, hq, rfl⟩ := List.mem_map.mp hb
        obtain ⟨x, _, z⟩ := ii.pins q (List.mem_append_left _ hq)
        exact ⟨q.2, x, z⟩
      have Lw : c.L ∉ wr := fun hb => by
        obtain ⟨o', hm, _⟩ := at_ _ hb
        exact (N _ hm).2.1 rfl
      have F' : Fr g₁ c.L h' m := ⟨F.ns.at' fun o e => hk _ o Lw e, fun b o e => hk b o (fun hb => by
        obtain ⟨o', hm, _⟩ := at_ b hb
        have := (N _ hm).2.2
        rw [e] at this; cases this) (F.keep b o e), F.above⟩
      refine ⟨S₁.B, ⟨m, F', r⟩, S₁.XB, S₁.TB, S₁.D, S₁.T0, ⟨news.filter (fun p => decide (p.1 ∉ wr)), fun p hp => ?_, fun a vs h => ?_, fun a mo h => ?_, fun q hq => ?_⟩, S₁.same.trans ⟨rfl, rfl, rfl⟩⟩
      · obtain ⟨h1, h2⟩ := List.mem_filter.mp hp
        exact ⟨hk _ _ (of_decide_eq_true h2) (N p h1).1, (N p h1).2⟩
      · refine List.mem_filter.mpr ⟨ii.tup a vs h, decide_eq_true fun hb => ?_⟩
        obtain ⟨_, _, z⟩ := at_ a hb
        rw [z.1] at h; cases h
      · obtain ⟨o, r, hm⟩ := ii.obs a mo h
        refine ⟨o, r, List.mem_filter.mpr ⟨hm, decide_eq_true fun hb => ?_⟩⟩
        obtain ⟨_, _, z⟩ := at_ a hb
        rw [z.2] at h; cases h
      · obtain ⟨a, b, d⟩ := ii.pins q (List.mem_append_right _ hq)
        exact ⟨List.mem_filter.mpr ⟨a, decide_eq_true (hpin q hq)⟩, b, d⟩
    exact ⟨g₁, l₁, H₁, S₂, .next, rfl, h₁.2⟩
end
noncomputable def vF (ns : List Str) (t : Expr) (is : List Nat) : Bool := match is with
  | [] => false
  | i :: is => (match is with
    | [] => zZ t fun x _ => ns[i]? == some x
    | j :: is => onTup t fun ts _ _ => chkT ns ts (i :: j :: is))
theorem pT {ns : List Str} {target : Expr} {j : Nat} (h : vF ns target [j] = true) : ∃ x p, target = .Name x p ∧ ns[j]? = some x :=
  zK target h fun x p h => ⟨x, p, rfl, beq_iff_eq.mp h⟩
theorem mR {ns : List Str} {target : Expr} {is : List Nat} (h : vF ns target is = true) (hn : ∀ j, is ≠ [j]) : ∃ ts k p, target = .Tuple ts k p ∧ chkT ns ts is = true := by
  cases is with
  | nil => exact (Bool.false_ne_true h).elim
  | cons i is => cases is with
    | nil => exact absurd rfl (hn i)
    | cons j is => exact onTup_ target h fun ts k p h => ⟨ts, k, p, rfl, h⟩
section
variable {G : Gl} {A : Around} {c : Fx} {n : Nat} {k : Fu} {l l' : List (Option Value)} {H H' : AH} {E : Value → Shared → Prop} {g : Heap} {s s' : Shared} {C : Addr} {X : AH → Prop} {α : Type} {os os' : List (Addr × Obj)} {target : Expr} {is : List Nat}
theorem Fx.Ok.pinned (ok : c.Ok) (os : List (Addr × Obj)) : (c.pinned os).Ok := ⟨ok.kind, ok.nd, ok.loc⟩
theorem put_val {v : Value} {Q : List (Option Value) → AH → Prop} (ok : c.Ok) (hh : A.handled = none) (ht : vF c.ns target is = true) (S : FS G (c.pinned os) g s l H) (h : itVC is (.val v) l H Q) :
    wpAny (model G.prog G.w) A (assign target c.env v) (fun _ s' => ∃ g' l' H', FS G (c.pinned os) g' s' l' H' ∧ Q l' H') E s := by
  have more : wO is v l H Q → (∀ j, is ≠ [j]) → wpAny (model G.prog G.w) A (assign target c.env v) (fun _ s' => ∃ g' l' H', FS G (c.pinned os) g' s' l' H' ∧ Q l' H') E s := fun h hn => by
    obtain ⟨ts, kk, p, rfl, hc⟩ := mR ht hn
    exact (pM (c := c.pinned os) (ok.pinned os) hh hc h).go g s S
  cases is with
  | nil => exact more h fun j e => by cases e
  | cons j r => cases r with
    | nil =>
      obtain ⟨x, p, rfl, hx⟩ := pT ht
      exact (qM (c := c.pinned os) (ok.pinned os) hx h).go g s S
    | cons j' r => exact more h fun j e => by cases e
theorem put_int {i : Int} {t : Tok} {Q : List (Option Value) → AH → Prop} (ok : c.Ok) (ht : vF c.ns target is = true) (S : FS G (c.pinned os) g s l H) (h : itVC is (.int i) l H Q) :
    wpAny (model G.prog G.w) A (assign target c.env (.int i t)) (fun _ s' => ∃ g' l' H', FS G (c.pinned os) g' s' l' H' ∧ Q l' H') E s := by
  cases is with
  | nil => exact h.elim
  | cons j r => cases r with
    | nil =>
      obtain ⟨x, p, rfl, hx⟩ := pT ht
      exact (qM (c := c.pinned os) (ok.pinned os) hx (h t)).go g s S
    | cons _ _ => exact h.elim
theorem put_chr {i : Nat} {t : Tok} {Q : List (Option Value) → AH → Prop} (ok : c.Ok) (ht : vF c.ns target is = true) (S : FS G (c.pinned os) g s l H) (h : itVC is (.chr i) l H Q) :
    wpAny (model G.prog G.w) A (assign target c.env (.str ⟨#[i]⟩ t)) (fun _ s' => ∃ g' l' H', FS G (c.pinned os) g' s' l' H' ∧ Q l' H') E s := by
  cases is with
  | nil => exact h.elim
  | cons j r => cases r with
    | nil =>
      obtain ⟨x, p, rfl, hx⟩ := pT ht
      exact (qM (c := c.pinned os) (ok.pinned os) hx (h t)).go g s S
    | cons _ _ => exact h.elim
theorem put_pair {i : Int} {v : Value} {T : Addr} {t : Tok} {Q : List (Option Value) → AH → Prop} (ok : c.Ok) (hh : A.handled = none) (ht : vF c.ns target is = true) (hT : IsTup s.heap T #[.int i t, v]) (S : FS G (c.pinned os) g s l H) (h : itVC is (.pair i v) l H Q) :
    wpAny (model G.prog G.w) A (assign target c.env (.ref T)) (fun _ s' => ∃ g' l' H', FS G (c.pinned os) g' s' l' H' ∧ Q l' H') E s := by
  cases is with
  | nil => exact h.elim
  | cons j r => cases r with
    | nil => exact h.elim
    | cons j' r => cases r with
      | nil =>
        obtain ⟨ts, _, p, rfl, hc⟩ := mR ht fun j e => by cases e
        obtain ⟨e1, e2⟩ := chkT_each c.env hc
        refine S.opn fun m news F r N i => ?_
        refine unpackN_ F N hT hh (by rw [e1]; rfl) e2 fun h' F' N' => ?_
        exact (nE (c := c.pinned os) (ok.pinned os) hc rfl (h t)).go g _ (S.next F' r N' i ⟨rfl, rfl, rfl⟩)
      | cons _ _ => exact h.elim
theorem way_of {I : Addr} {ok : AH → Prop} {its : List It} {fp : List Addr} {P : Nat → Value → Prop} {St : Nat → Heap → Prop} (W : Walks G.prog G.w A I fp [I] its.length P St)
    (hgo : ∀ i v (s : Shared) (Q : Unit → Shared → Prop) (E : Value → Shared → Prop), St i s.heap → Q () s → wpAny (model G.prog G.w) A (letOwnedTupleGo target (.ref I) v) Q E s)
    (own : ∀ i h, St i h → ∃ o, h.get? I = some o ∧ o.cls ≠ .type "tuple")
    (keep : ∀ i h g (s : Shared) l H os, St i h → (∀ o, h.get? I = some o → s.heap.get? I = some o) → FS G (c.pinned os) g s l H → ok H → St i s.heap)
    (put : ∀ i it v os (g : Heap) (s : Shared) l H (Q : List (Option Value) → AH → Prop) (E : Value → Shared → Prop), its[i]? = some it → P i v → FS G (c.pinned os) g s l H → itVC is it l H Q →
      wpAny (model G.prog G.w) A (assign target c.env v) (fun _ s' => ∃ g' l' H', FS G (c.pinned os) g' s' l' H' ∧ Q l' H') E s) :
    Way G A c target is I [I] ok its (fun i v _ => P i v) (fun i v h => P i v ∧ St (i + 1) h) St where
  item := fun i s Q E hi st hQ => W.item i s Q E hi st fun v h' tk hP st' hk => hQ v h' tk ⟨hP, st'⟩ hk
  go := fun i v s Q E hm hQ => hgo (i + 1) v s Q E hm.2 (hQ s.heap hm.1 hm.2 fun _ _ _ e => e)
  done := W.done
  own := fun i h st => let ⟨o, ho, hc⟩ := own i h st; ⟨[(I, o)], rfl, fun p hp => by rw [List.mem_singleton.mp hp]; exact ⟨ho, hc⟩⟩
  keep := fun i h os g s l H st hw ho S hk => keep i h g s l H os st (fun o e => by
    cases os with
    | nil => cases hw
    | cons p r =>
      have hp : p.1 = I := by simpa using congrArg List.head? hw
      have q := ho p (.head _)
      rw [hp] at q
      rw [e] at q
      have e' : o = p.2 := Option.some.inj q.1
      rw [e']; exact q.2) S hk
  put := fun i it v os g s l H Q E hi hP S h => put i it v os g s l H Q E hi hP S h
theorem way_list {ax I : Addr} {vs : List Value} (okc : c.Ok) (hh : A.handled = none) (hne : ax ≠ I) (ht : vF c.ns target is = true) :
    Way G A c target is I [I] (fun H => H.M ax = some (.list vs)) (vs.map .val) (fun i v _ => vs.toArray[i]? = some v) (fun i v h => vs.toArray[i]? = some v ∧ (h.IsListIter I ax (i + 1) ∧ h.IsList ax vs.toArray)) (fun i h => h.IsListIter I ax i ∧ h.IsList ax vs.toArray) := by
  have W := Walks.list (prog := G.prog) (w := G.w) hh I ax hne vs.toArray
  have hn : vs.toArray.size = (vs.map It.val).length := by simp
  have W' : Walks G.prog G.w A I [I, ax] [I] (vs.map It.val).length (fun i v => vs.toArray[i]? = some v) (fun i h => h.IsListIter I ax i ∧ h.IsList ax vs.toArray) := hn ▸ W
  refine way_of W' (fun i v s Q E st q => letGo_listiter st.1 q) (fun i h st => ?_) (fun i h g s l H os st ho S hk => ?_) (fun i it v os g s l H Q E hi hP S h => ?_)
  · obtain ⟨o, ho, hc, _⟩ := st.1
    exact ⟨o, ho, by rw [hc]; decide⟩
  · obtain ⟨o, h1, h2⟩ := st.1
    exact ⟨⟨o, ho o h1, h2⟩, S.isList hk⟩
  · have hv : vs[i]? = some v := by simpa using hP
    have : it = .val v := by rw [List.getElem?_map, hv] at hi; exact (Option.some.inj hi).symm
    subst this
    exact put_val okc hh ht S h
theorem way_tuple {ax I : Addr} {vs : List Value} (okc : c.Ok) (hh : A.handled = none) (hne : ax ≠ I) (ht : vF c.ns target is = true) :
    Way G A c target is I [I] (fun H => H.I ax = some vs) (vs.map .val) (fun i v _ => vs.toArray[i]? = some v) (fun i v h => vs.toArray[i]? = some v ∧ (h.IsTupleIter I ax (i + 1) ∧ h.IsTuple ax vs.toArray)) (fun i h => h.IsTupleIter I ax i ∧ h.IsTuple ax vs.toArray) := by
  have W := Walks.tuple (prog := G.prog) (w := G.w) hh I ax hne vs.toArray
  have hn : vs.toArray.size = (vs.map It.val).length := by simp
  have W' : Walks G.prog G.w A I [I, ax] [I] (vs.map It.val).length (fun i v => vs.toArray[i]? = some v) (fun i h => h.IsTupleIter I ax i ∧ h.IsTuple ax vs.toArray) := hn ▸ W
  refine way_of W' (fun i v s Q E st q => letGo_tupleiter st.1 q) (fun i h st => ?_) (fun i h g s l H os st ho S hk => ?_) (fun i it v os g s l H Q E hi hP S h => ?_)
  · obtain ⟨o, ho, hc, _⟩ := st.1
    exact ⟨o, ho, by rw [hc]; decide⟩
  · obtain ⟨o, h1, h2⟩ := st.1
    exact ⟨⟨o, ho o h1, h2⟩, S.isTup hk⟩
  · have hv : vs[i]? = some v := by simpa using hP
    have : it = .val v := by rw [List.getElem?_map, hv] at hi; exact (Option.some.inj hi).symm
    subst this
    exact put_val okc hh ht S h
theorem upTo_length (n k : Nat) : (pK n k).length = n := by simp [pK]
theorem upTo_get {n k i : Nat} (h : i < n) : (pK n k)[i]? = some (.int ((k + i : Nat) : Int)) := by
  simp [pK, List.getElem?_range', h]
theorem way_range {I : Addr} {n : Nat} {j : Nat} (okc : c.Ok) (hh : A.handled = none) (ht : vF c.ns target [j] = true) :
    Way G A c target [j] I [I] (fun _ => True) (pK n 0) (fun i v _ => i < n ∧ ∃ t, v = .int (0 + i * 1) t) (fun i v h => (i < n ∧ ∃ t, v = .int (0 + i * 1) t) ∧ IsRangeIter h I (0 + ((i + 1 : Nat) : Int) * 1) ((n : Int) - ((i + 1 : Nat) : Int)) 1) (fun i h => IsRangeIter h I (0 + (i : Nat) * 1) ((n : Int) - (i : Nat)) 1) := by
  have W := (Walks.range (prog := G.prog) (w := G.w) hh I 0 1 n).bound
  have hn : n = (pK n 0).length := (upTo_length n 0).symm
  obtain ⟨x, p, rfl, hx⟩ := pT ht
  refine way_of (P := fun i v => i < n ∧ ∃ t, v = .int (0 + i * 1) t) (St := fun i h => IsRangeIter h I (0 + (i : Nat) * 1) ((n : Int) - (i : Nat)) 1) (by rw [← hn]; exact W) (fun i v s Q E st q => wpAny_pure q) (fun i h st => ⟨_, st, fun e => absurd (Value.type.inj e) (by decide)⟩) (fun i h g s l H os st ho S hk => ho _ st) (fun i it v os g s l H Q E hi hP S h => ?_)
  obtain ⟨hlt, t, rfl⟩ := hP
  rw [upTo_get hlt] at hi
  cases hi
  have e : (0 : Int) + (i : Int) * 1 = ((0 + i : Nat) : Int) := by simp
  rw [e]
  exact put_int okc ht S h
theorem way_str {I : Addr} {x : Str} {t : Tok} {j : Nat} (okc : c.Ok) (hh : A.handled = none) (ht : vF c.ns target [j] = true) :
    Way G A c target [j] I [I] (fun _ => True) (x.cps.toList.map .chr) (fun i v _ => SignAt x i v) (fun i v h => SignAt x i v ∧ h.IsStrIter I "str_ascii_iterator" x t (i + 1)) (fun i h => h.IsStrIter I "str_ascii_iterator" x t i) := by
  have W := Walks.strAscii (prog := G.prog) (w := G.w) hh I x t
  have hn : x.cps.size = (x.cps.toList.map It.chr).length := by simp
  obtain ⟨y, p, rfl, hx⟩ := pT ht
  refine way_of (P := SignAt x) (St := fun i h => h.IsStrIter I "str_ascii_iterator" x t i) (hn ▸ W) (fun i v s Q E st q => wpAny_pure q) (fun i h st => ?_) (fun i h g s l H os st ho S hk => ?_) (fun i it v os g s l H Q E hi hP S h => ?_)
  · obtain ⟨o, ho, hc, _⟩ := st
    exact ⟨o, ho, by rw [hc]; decide⟩
  · obtain ⟨o, h1, h2⟩ := st
    exact ⟨o, ho o h1, h2⟩
  · obtain ⟨d, u, hd, rfl⟩ := hP
    have : it = .chr d := by rw [List.getElem?_map, Array.getElem?_toList, hd] at hi; exact (Option.some.inj hi).symm
    subst this
    exact put_chr okc ht S h
end
open AutoSeq1 (wpAny_loadPart')
theorem called_any {M : Model} {A : Around} {E : Value → Shared → Prop} {cls : Value} {R : Bool → Shared → Prop} {s : Shared} (h : ∀ b, R b s) : wpAny M A (Builtin.SmallTypes.calledThroughType cls) R E s := wpAny_bind (wpAny_stack_any fun _ => wpAny_pure (h _))
theorem enumNew (l : Addr) (items : List Value) :
    Meets (Builtin.«enumerate.__new__» ⟨[.type "enumerate", .ref l], []⟩) (fun _ R s => s.heap.get? l = some (kT items) ∧
      R (.ok (.ret (.ref (s.heap.push { cls := .type "tuple_iterator", data := .fields #[.ref l, .int 0 0] }).objs.size)))
        { s with heap := (s.heap.push { cls := .type "tuple_iterator", data := .fields #[.ref l, .int 0 0] }).push { cls := .type "enumerate", data := .fields #[.none, .bool false, .ref s.heap.objs.size, rawInt 0, .none, .none] } }) :=
  .of_wp fun prog w A R s h => by
    obtain ⟨hp, g, d, tk, os⟩ := s; obtain ⟨hl, h⟩ := h
    have hsub := sub_enumerate
    have hL : Heap.IsTuple (Shared.heap ⟨hp, g, d, tk, os⟩) l items.toArray := ⟨_, hl, rfl, 0, rfl⟩
    wp_walk using wpAny_loadPart' hl, called_any
    intro b
    cases b
    · wp_walk using wpAny_loadPart' hl, wpAny_pyIter_tuple hL
      exact ⟨_, rfl, h⟩
    · wp_walk using wpAny_loadPart' hl, wpAny_pyIter_tuple hL
      exact ⟨_, rfl, h⟩
section
variable {prog : Program} {w : World} {A : Around} {E : Value → Shared → Prop} {s : Shared}
theorem callEnum {l : Addr} {items : List Value} {Q : Value → Shared → Prop} (hl : s.heap.get? l = some (kT items))
    (h : ∀ h', IsEnum h' (s.heap.objs.size + 1) s.heap.objs.size 0 .none → h'.IsTupleIter s.heap.objs.size l 0 → h'.objs.size = s.heap.objs.size + 2 →
      (∀ b o, s.heap.get? b = some o → h'.get? b = some o) → Q (.ref (s.heap.objs.size + 1)) { s with heap := h' }) :
    wpAny (model prog w) A (call (.type "enumerate") [.ref l]) Q E s := by
  refine callType_new F.called_enumerate (by decide) (F.typeCall_enumerate_1 _) (F.newCall_enumerate_1 _) (fun obj => F.args_object_init_2 obj _) F.entry_enumerate_new
    (enumNew l items) ⟨hl, ?_⟩
  have hz : (s.heap.push { cls := .type "tuple_iterator", data := .fields #[.ref l, .int 0 0] }).objs.size = s.heap.objs.size + 1 := Heap.size_push ..
  show _ ∧ _
  rw [hz]
  have he : IsEnum ((s.heap.push { cls := .type "tuple_iterator", data := .fields #[.ref l, .int 0 0] }).push
      { cls := .type "enumerate", data := .fields #[.none, .bool false, .ref s.heap.objs.size, rawInt 0, .none, .none] }) (s.heap.objs.size + 1) s.heap.objs.size 0 .none := by
    have := Heap.get?_push_size (s.heap.push { cls := .type "tuple_iterator", data := .fields #[.ref l, .int 0 0] })
      (o := { cls := .type "enumerate", data := .fields #[.none, .bool false, .ref s.heap.objs.size, rawInt 0, .none, .none] }) rfl
    rw [hz] at this; exact this
  refine ⟨⟨_, he, rfl⟩, h _ he ⟨_, Heap.get?_push_of_some _ (Heap.get?_push_size _ rfl), rfl, rfl⟩ (by rw [Heap.size_push, hz]) fun b o x => Heap.get?_push_of_some _ (Heap.get?_push_of_some _ x)⟩
theorem nextTup_item {it l : Addr} {i : Nat} {items : Array Value} {x : Value} {Q : Value → Shared → Prop} (hit : s.heap.IsTupleIter it l i)
    (hl : s.heap.IsTuple l items) (hx : items[i]? = some x)
    (hQ : ∀ h', h'.IsTupleIter it l (i + 1) → Heap.SameBut it s.heap h' → Q x { s with heap := h' }) :
    wpAny (model prog w) A (Builtin.SmallTypes.nextOf (.ref it)) Q E s := by
  obtain ⟨o, ho, hc, hd⟩ := id hit
  obtain ⟨ol, hol, _, nl, hdl⟩ := hl
  have hT : s.TypeIs (.ref it) "tuple_iterator" := ⟨o, ho, hc⟩
  unfold Builtin.SmallTypes.nextOf
  refine wpAny_bind (wpAny_callSpecial?_slot (name := Str.ofString "__next__") hT F.slot_tuple_iterator_next
    (wpAny_call_entry F.slot_tuple_iterator_next hT F.entry_tuple_iterator_next ?_ (F.args_tuple_iterator_next_1 _)))
  show wpAny _ _ (field (.ref it) 0 >>= _) _ _ s
  refine wpAny_bind (wpAny_field ho hd (x := .ref l) rfl ?_)
  show wpAny _ _ (if (Value.ref l == Value.none) = true then _ else _) _ _ s
  rw [if_neg (show ¬ ((Value.ref l == Value.none) = true) from Bool.false_ne_true)]
  show wpAny _ _ (field (.ref it) 1 >>= _) _ _ s
  refine wpAny_bind (wpAny_field ho hd (x := .int i 0) rfl ?_)
  show wpAny _ _ (seqItems? (.ref l) >>= _) _ _ s
  refine wpAny_bind (wpAny_seqItems hol hdl ?_)
  simp only [Int.toNat_natCast, hx]
  refine wpAny_bind (wpAny_setField ho hd (by simp) (wpAny_pure ⟨x, rfl, wpAny_pure (hQ _ ?_ (Heap.SameBut.update ..))⟩))
  exact ⟨_, Heap.get?_update_self _ ho (Obj.isFreed_of_fields (Obj.data_mapFields hd _)), (Obj.cls_mapFields ..).trans hc, by
    rw [Obj.data_mapFields hd]; simp [rawInt]⟩
theorem nextTup_end {it l : Addr} {i : Nat} {items : Array Value} {Q : Value → Shared → Prop} (hh : A.handled = none)
    (hit : s.heap.IsTupleIter it l i) (hl : s.heap.IsTuple l items) (hx : items[i]? = none)
    (hE : ∀ h' e, Heap.ExtBut it s.heap h' → (∃ o, h'.get? e = some o ∧ o.cls = .type "StopIteration") → E (.ref e) { s with heap := h' }) :
    wpAny (model prog w) A (Builtin.SmallTypes.nextOf (.ref it)) Q E s := by
  obtain ⟨o, ho, hc, hd⟩ := id hit
  obtain ⟨ol, hol, _, nl, hdl⟩ := hl
  have hT : s.TypeIs (.ref it) "tuple_iterator" := ⟨o, ho, hc⟩
  unfold Builtin.SmallTypes.nextOf
  refine wpAny_bind (wpAny_callSpecial?_slot (name := Str.ofString "__next__") hT F.slot_tuple_iterator_next
    (wpAny_call_entry F.slot_tuple_iterator_next hT F.entry_tuple_iterator_next ?_ (F.args_tuple_iterator_next_1 _)))
  show wpAny _ _ (field (.ref it) 0 >>= _) _ _ s
  refine wpAny_bind (wpAny_field ho hd (x := .ref l) rfl ?_)
  show wpAny _ _ (if (Value.ref l == Value.none) = true then _ else _) _ _ s
  rw [if_neg (show ¬ ((Value.ref l == Value.none) = true) from Bool.false_ne_true)]
  show wpAny _ _ (field (.ref it) 1 >>= _) _ _ s
  refine wpAny_bind (wpAny_field ho hd (x := .int i 0) rfl ?_)
  show wpAny _ _ (seqItems? (.ref l) >>= _) _ _ s
  refine wpAny_bind (wpAny_seqItems hol hdl ?_)
  simp only [Int.toNat_natCast, hx]
  refine wpAny_bind (wpAny_rule (wpAny_bind (wpAny_setField ho hd (by simp) ?_)))
  show wpAny _ _ (newExc (.type "StopIteration") [] >>= _) _ _ _
  refine wpAny_bind ?_
  simp only [newExc, newTuple]
  refine wpAny_bind (wpAny_newObj_type ?_ (by size_fits))
  refine wpAny_bind (m := firstArgMember _ _) (wpAny_of_eq (a := Value.none) (by first | rfl | (simp only [firstArgMember]; rfl)) ?_)
  refine wpAny_newObj_type ?_ (by size_fits)
  simp only [raiseNew]
  refine wpAny_bind (wpAny_handled ?_)
  first | rw [show A.in1.handled = none from hh] | rw [hh]
  refine wpAny_bind (wpAny_pure (wpAny_throw ?_))
  exact hE _ _ (((Heap.SameBut.update ..).extBut.push _).push _) ⟨_, Heap.get?_push_size _ rfl, rfl⟩
end
theorem drawsTup {prog : Program} {w : World} {A : Around} (hh : A.handled = none) (it l : Addr) (hne : l ≠ it) (items : Array Value) :
    Draws prog w A it [it, l] items.size (fun i v => items[i]? = some v) (fun i h => h.IsTupleIter it l i ∧ h.IsTuple l items) where
  live := fun _ _ st => let ⟨o, ho, _⟩ := st.1; ⟨o, ho⟩
  frame := fun _ _ _ st hk => ⟨st.1.at fun o e => hk it (by simp) o e, st.2.at fun o e => hk l (by simp) o e⟩
  item := fun i s Q E hi st hQ => by
    refine nextTup_item st.1 st.2 (x := items[i]) (by simp [hi]) fun h' hit' hs' => ?_
    exact hQ _ h' s.toks (by simp [hi]) ⟨hit', st.2.extBut hs'.extBut hne⟩ hs'
  done := fun s Q E st hE => nextTup_end hh st.1 st.2 (by simp) hE
section
variable {G : Gl} {A : Around} {c : Fx} {l : List (Option Value)} {H H' : AH} {E : Value → Shared → Prop} {g : Heap} {s s' : Shared} {target : Expr} {is : List Nat}
theorem nS : ∀ (vs : List Value) (k : Nat), (pO k vs).length = vs.length
  | [], _ => rfl
  | _ :: r, k => congrArg (· + 1) (nS r (k + 1))
theorem pairs_get : ∀ (vs : List Value) (k i : Nat) {v : Value}, vs[i]? = some v → (pO k vs)[i]? = some (.pair ((k + i : Nat) : Int) v)
  | [], _, _, _, h => by simp at h
  | x :: r, k, 0, v, h => by
    have e : x = v := by simpa using h
    subst e; rfl
  | x :: r, k, i + 1, v, h => by
    have h' : r[i]? = some v := by simpa using h
    have q := pairs_get r (k + 1) i h'
    have e : k + 1 + i = k + (i + 1) := by lia
    rw [e] at q
    simpa [pO] using q
theorem way_enum {ax it e : Addr} {vs : List Value} (okc : c.Ok) (hh : A.handled = none) (hei : e ≠ it) (hea : e ≠ ax) (hia : ax ≠ it) (ht : vF c.ns target is = true) (hm : ∀ j, is ≠ [j]) :
    Way G A c target is e [e, it] (fun H => H.I ax = some vs) (pO 0 vs) (fun i v h => ∃ T t x, v = .ref T ∧ vs.toArray[i]? = some x ∧ IsTup h T #[.int i t, x])
      (fun i v h => ∃ T vals, v = .ref T ∧ (∃ t x, vs.toArray[i]? = some x ∧ vals = #[.int i t, x]) ∧ h.IsTuple T vals ∧ (∃ x, IsEnumOut h e it ((i : Int) + 1) x T) ∧ (h.IsTupleIter it ax (i + 1) ∧ h.IsTuple ax vs.toArray) ∧ T ≠ e ∧ T ≠ it)
      (fun i h => (∃ old, IsEnum h e it i old) ∧ h.IsTupleIter it ax i ∧ h.IsTuple ax vs.toArray) := by
  have D := (drawsTup (prog := G.prog) (w := G.w) (A := A.in1) hh it ax hia vs.toArray)
  have W := WalksT.enumerateD D e hei (by simp [hei, hea]) (by simp)
  have hn : vs.toArray.size = (pO 0 vs).length := by rw [nS]; simp
  obtain ⟨ts, kk, p, rfl, hc⟩ := mR ht hm
  refine ⟨fun i s Q E hi st hQ => ?_, fun i v s Q E hM hQ => ?_, fun s Q E st hQ => ?_, fun i h st => ?_, fun i h os g s l H st hw ho S hk => ?_, fun i it' v os g s l H Q E hi hP S h => ?_⟩
  · exact W.item i s Q E (hn ▸ hi) st fun T vals h' tk hP hsz hT hMid hk => hQ (.ref T) h' tk ⟨T, vals, rfl, hP, hT, hMid.1, hMid.2.1, hMid.2.2⟩ hk
  · obtain ⟨T, vals, rfl, ⟨t, x, hx, rfl⟩, hT, hMid⟩ := hM
    refine W.go ts kk p i T s Q E hMid fun h' st' hk => hQ h' ⟨T, t, x, rfl, hx, ?_⟩ st' hk
    exact hT.at fun o y => hk T o (by simp [hMid.2.2.1, hMid.2.2.2]) y
  · exact W.done s Q E (hn ▸ st) hQ
  · obtain ⟨⟨old, he⟩, ⟨o, ho, hco, _⟩, _⟩ := st
    obtain ⟨oe, h1, h2⟩ : ∃ oe : Obj, h.get? e = some oe ∧ oe.cls = .type "enumerate" := ⟨_, he, rfl⟩
    refine ⟨[(e, oe), (it, o)], rfl, fun q hq => ?_⟩
    rcases List.mem_cons.mp hq with rfl | hq
    · exact ⟨h1, by rw [h2]; decide⟩
    · rw [List.mem_singleton.mp hq]
      exact ⟨ho, by rw [hco]; decide⟩
  · obtain ⟨⟨old, he⟩, ⟨o, hio, hco⟩, _⟩ := st
    have up : ∀ b ∈ [e, it], ∀ o, h.get? b = some o → s.heap.get? b = some o := fun b hb o hbo => by
      rw [← hw] at hb
      obtain ⟨q, hq, rfl⟩ := List.mem_map.mp hb
      have z := ho q hq
      rw [hbo] at z
      have e' : o = q.2 := Option.some.inj z.1
      rw [e']; exact z.2
    exact ⟨⟨old, up e (by simp) _ he⟩, ⟨o, up it (by simp) o hio, hco⟩, S.isTup hk⟩
  · obtain ⟨T, t, x, rfl, hx, hT⟩ := hP
    have hv : vs[i]? = some x := by simpa using hx
    rw [pairs_get vs 0 i hv] at hi
    cases hi
    have e0 : ((0 + i : Nat) : Int) = (i : Int) := by simp
    rw [e0] at h
    exact put_pair okc hh ht hT S h
end
section
variable {G : Gl} {A : Around} {c : Fx} {n : Nat} {k : Fu} {l l' : List (Option Value)} {H H' : AH} {E : Value → Shared → Prop} {Q : Value → AH → Prop} {g : Heap} {s s' : Shared} {C : Addr} {X : AH → Prop} {os : List (Addr × Obj)}
theorem mQ {sc : Scope} {Cn : Addr} {x : Str} {pos : Pos} {v : Value} {m : Str → Option Value} {R : Value → Shared → Prop} (hk : sc.kind = .function) (hx : sc.names.lookup x = some .local) (hd : (x == ("__debug__" : Str)) = false) (hn : s.heap.Ns Cn m) (hv : m x = some v) (h : R v s) :
    wpAny (model G.prog G.w) A (eval (.Name x pos) (compEnv sc Cn c.env)) R E s :=
  wpAny_Name (wpAny_loadName_local (env := compEnv sc Cn c.env) hk hx hn hv h) hd
theorem comp_global {sc : Scope} {Cn : Addr} {x : Str} {pos : Pos} {v : Value} {R : Value → Shared → Prop} (S : FS G c g s l H) (hk : sc.kind = .function) (e : nsIn G.K mainGlobals x = some (some v)) (hx : sc.names.lookup x = some .globalImplicit) (hd : (x == ("__debug__" : Str)) = false) (h : R v s) :
    wpAny (model G.prog G.w) A (eval (.Name x pos) (compEnv sc Cn c.env)) R E s := by
  obtain ⟨m, F, r⟩ := S.F
  exact Name_function_global (env := compEnv sc Cn c.env) hk hx (loadGlobal_global (env := compEnv sc Cn c.env) ((topRead_of S.T).g.keeps F.keep) (mg_of S.X (topRead_of S.T).g e) h) hd
theorem comp_call {sc : Scope} {Cn : Addr} {fx x : Str} {p1 p2 pos : Pos} {f : Addr} {v : Value} {m : Str → Option Value} {R : Value → Shared → Prop} (S : FS G c g s l H) (hk : sc.kind = .function) (e : nsIn G.K mainGlobals fx = some (some (.ref f))) (hf : sc.names.lookup fx = some .globalImplicit) (hfd : (fx == ("__debug__" : Str)) = false)
    (keep : rH G (.ref f)) (hx : sc.names.lookup x = some .local) (hd : (x == ("__debug__" : Str)) = false) (hn : s.heap.Ns Cn m) (hv : m x = some v) (h : wpAny (model G.prog G.w) A (call (.ref f) [v]) R E s) :
    wpAny (model G.prog G.w) A (eval (.Call (.Name fx p1) [.Name x p2] [] pos) (compEnv sc Cn c.env)) R E s := by
  refine wpAny_bind ?_
  refine comp_global S hk e hf hfd ?_
  refine callWith_of (P := G.K.In) (by rfl) keep ?_
  refine evalArgs_plain ?_
  refine wpAny_items_cons (pos := pos) (e := .Name x p2) (rest := []) ?_
  refine mQ hk hx hd hn hv ?_
  refine wpAny_items_nil ?_
  exact ⟨S.X.keeps (let ⟨_, F, _⟩ := S.F; F.keep), h⟩
theorem FS.drop (S : FS G (c.pinned os) g s l H) {h' : Heap} {tk : Nat} {wr : List Addr} (hw : os.map (·.1) = wr) (hpin : ∀ p ∈ c.pin, p.1 ∉ wr) (hk : ∀ b o, b ∉ wr → s.heap.get? b = some o → h'.get? b = some o) : FS G c g { s with heap := h', toks := tk } l H := by
  refine S.opn fun m news F r N ii => ?_
  have at_ : ∀ b ∈ wr, ∃ o, (b, o) ∈ news ∧ H.free b := fun b hb => by
    rw [← hw] at hb
    obtain ⟨q, hq, rfl⟩ := List.mem_map.mp hb
    obtain ⟨x, _, z⟩ := ii.pins q (List.mem_append_left _ hq)
    exact ⟨q.2, x, z⟩
  have Lw : c.L ∉ wr := fun hb => by
    obtain ⟨o', hm, _⟩ := at_ _ hb
    exact (N _ hm).2.1 rfl
  have F' : Fr g c.L h' m := ⟨F.ns.at' fun o e => hk _ o Lw e, fun b o e => hk b o (fun hb => by
    obtain ⟨o', hm, _⟩ := at_ b hb
    have := (N _ hm).2.2
    rw [e] at this; cases this) (F.keep b o e), F.above⟩
  refine ⟨S.B, ⟨m, F', r⟩, S.XB, S.TB, S.D, S.T0, ⟨news.filter (fun p => decide (p.1 ∉ wr)), fun p hp => ?_, fun a vs h => ?_, fun a mo h => ?_, fun q hq => ?_⟩, S.same.trans ⟨rfl, rfl, rfl⟩⟩
  · obtain ⟨h1, h2⟩ := List.mem_filter.mp hp
    exact ⟨hk _ _ (of_decide_eq_true h2) (N p h1).1, (N p h1).2⟩
  · refine List.mem_filter.mpr ⟨ii.tup a vs h, decide_eq_true fun hb => ?_⟩
    obtain ⟨_, _, z⟩ := at_ a hb
    rw [z.1] at h; cases h
  · obtain ⟨o, r, hm⟩ := ii.obs a mo h
    refine ⟨o, r, List.mem_filter.mpr ⟨hm, decide_eq_true fun hb => ?_⟩⟩
    obtain ⟨_, _, z⟩ := at_ a hb
    rw [z.2] at h; cases h
  · obtain ⟨a, b, d⟩ := ii.pins q (List.mem_append_right _ hq)
    exact ⟨List.mem_filter.mpr ⟨a, decide_eq_true (hpin q hq)⟩, b, d⟩
theorem FS.newM (S : FS G c g s l H) {D : Addr} {o : Obj} {mo : MObj} (r : RepM mo o) (ho : s.heap.get? D = some o) (hL : D ≠ c.L) (hg : g.get? D = none) (hf : H.free D) (hp : ∀ p ∈ c.pin, p.1 ≠ D) : FS G c g s l (H.setM D mo) := by
  refine S.opn fun m news F lr N i => ?_
  have i' : H.In c.pin (news.filter fun p => decide (p.1 ≠ D)) := ⟨fun a vs h => List.mem_filter.mpr ⟨i.tup a vs h, decide_eq_true fun e => (by rw [show a = D from e, hf.1] at h; cases h)⟩,
    fun a mo h => let ⟨o, r, hm⟩ := i.obs a mo h; ⟨o, r, List.mem_filter.mpr ⟨hm, decide_eq_true fun e => (by rw [show a = D from e, hf.2] at h; cases h)⟩⟩,
    fun q hq => let ⟨x, y, z⟩ := i.pins q hq; ⟨List.mem_filter.mpr ⟨x, decide_eq_true (hp q hq)⟩, y, z⟩⟩
  refine S.next F lr (news := (D, o) :: news.filter fun p => decide (p.1 ≠ D)) (fun p hp => ?_) (vX (fun p hp => of_decide_eq_true (List.mem_filter.mp hp).2) i' r) ⟨rfl, rfl, rfl⟩
  rcases List.mem_cons.mp hp with rfl | hp
  · exact ⟨ho, hL, hg⟩
  · exact N p (List.mem_filter.mp hp).1
theorem keep_append {hh : A.handled = none} (S : FS G c g s l H) {D : Addr} {ys : List Value} {y : Value} (hM : H.M D = some (.list ys)) (hl : ys.length < 100000) {R : Value → Shared → Prop} (h : ∀ g' s', FS G c g' s' l (H.setM D (.list (ys ++ [y]))) → R .none s') :
    wpAny (model G.prog G.w) A (call (.builtin "list.append") [.ref D, y]) R E s := by
  have key := (triV_bm (G := G) (A := A) (c := c) (l := l) (H := H) (E := E) (b := .append) (o := .ref D) (vs := [y]) (Q := fun v H' => v = .none ∧ H' = H.setM D (.list (ys ++ [y]))) hh (by simp only [fV, pA, m_up, fU, gK, hM]; exact ⟨by lia, trivial, trivial⟩))
  exact wpAny_mono (jU key S) (fun v s' ⟨g', H', S', e1, e2⟩ => by subst e1; subst e2; exact h g' s' S') fun _ _ x => x
inductive CmapI (G : Gl) (C : Addr) (n : Nat) (f : Addr) (c : Fx) (l : List (Option Value)) (a I D Cn : Addr) (vs : List Value) (Q : Value → AH → Prop) (k : Nat) (s' : Shared) : Prop
  | mk (i : Nat) (g' : Heap) (H' : AH) (oI oC : Obj) (ys : List Value) (m' : Str → Option Value) (S : FS G (c.pinned [(I, oI), (Cn, oC)]) g' s' l H') (it : s'.heap.IsListIter I a i) (ns : LCg.NsObj oC m')
    (hm : mapVC (fun v H Q => CallT G C n (.ref f) [v] H Q (fun _ => False)) a D vs (vs.drop i) ys H' Q) (hi : i ≤ vs.length) (hk : k = vs.length + 1 - i) : CmapI G C n f c l a I D Cn vs Q k s'
theorem tests_k {prog : Program} {w : World} {A : Around} {elt target iter : Expr} {scope : Scope} {pos : Pos} {it acc : Value} {env : Env} {R : Result → Shared → Prop} {s : Shared} (I : Nat → Shared → Prop)
    (turn : ∀ n s (P : Shared → Prop) E, I n s → (∀ m s', m < n → I m s' → P s') → wpAny (model prog w) A (pyNext it) (fun r s₁ => match r with
      | none => R (.ok .next) s₁
      | some v => wpAny (model prog w) A (assign target env v) (fun _ s₂ => wpAny (model prog w) A (eval elt env) (fun x s₄ => wpAny (model prog w) A (call (.builtin "list.append") [acc, x]) (fun _ s₅ => P s₅) E s₄) E s₂) E s₁) E s)
    (n : Nat) (h : I n s) (ht : ∀ v, letOwnedTupleGo target it v = pure ()) : codeAny (model prog w) A (.compLoop (.ListComp elt [⟨target, iter, [], 0⟩] scope pos) 0 it acc env) R s :=
  codeAny_compLoop_tests I (fun n s hI => wpAny_mono (turn n s (fun s' => ∃ m, m < n ∧ I m s') _ hI fun m _ a b => ⟨m, a, b⟩) (fun r s₁ h₁ => by
    cases r with
    | none => exact h₁
    | some v => exact wpAny_mono h₁ (fun _ s₂ h₂ => wpAny_tests_nil h₂) fun _ _ x => x) fun _ _ x => x) n h ht
theorem cmap_loop {iter : Expr} {fx x : Str} {p1 p2 p3 px pos : Pos} {sc : Scope} {f : Addr} (at_ : At c n A) (hk : sc.kind = .function) (hall : ∀ y ∈ sc.names, y.2 ≠ .free ∧ y.2 ≠ .cell) (hnames : ∀ y ∈ sc.names, y.2 = .local → sc.names.lookup y.1 = some .local)
    (e : nsIn G.K mainGlobals fx = some (some (.ref f))) (hf : sc.names.lookup fx = some .globalImplicit) (hfd : (fx == ("__debug__" : Str)) = false) (keep : rH G (.ref f)) (hx : sc.names.lookup x = some .local) (hd : (x == ("__debug__" : Str)) = false)
    {a I D Cn : Addr} {vs : List Value} {oI oC : Obj} {g₁ : Heap} {s₁ : Shared} {H₁ : AH} {m₀ : Str → Option Value} (nIC : I ≠ Cn) (hpin : ∀ p ∈ c.pin, p.1 ∉ [I, Cn])
    (S₃ : FS G (c.pinned [(I, oI), (Cn, oC)]) g₁ s₁ l H₁) (hIit : s₁.heap.IsListIter I a 0) (hoC : LCg.NsObj oC m₀) (hV : mapVC (fun v H Q => CallT G C n (.ref f) [v] H Q (fun _ => False)) a D vs vs [] H₁ Q) :
    codeAny (model G.prog G.w) A (.compLoop (.ListComp (.Call (.Name fx p1) [.Name x p2] [] p3) [⟨.Name x px, iter, [], 0⟩] sc pos) 0 (.ref I) (.ref D) (compEnv sc Cn c.env))
        (fun r s' => ∃ m, s'.heap.Ns Cn m ∧ ∀ h', Heap.SameBut Cn s'.heap h' → match r with
          | .ok _ => ∃ g' H', FS G c g' { s' with heap := h' } l H' ∧ Q (.ref D) H'
          | .error x => wpAny (model G.prog G.w) A (passOn "comprehension.variables-let-go" x (compEnv sc Cn c.env)) (fun v s' => ∃ g' H', FS G c g' s' l H' ∧ Q v H') E { s' with heap := h' }) s₁ := by
  have hh := at_.room.hand
  have okC : ∀ {o : Obj} {m : Str → Option Value}, LCg.NsObj o m → PinOk o := fun ⟨es, ep, hd, _⟩ => .inr (.inl ⟨es, ep, hd⟩)
  have kI : ∀ {os : List (Addr × Obj)} {g : Heap} {s : Shared} {H : AH}, FS G (c.pinned os) g s l H → ∀ p ∈ os, s.heap.get? p.1 = some p.2 := fun S p hp => by
    obtain ⟨news, N, i⟩ := S.led
    exact (N _ (i.pins p (List.mem_append_left _ hp)).1).1
  refine tests_k (CmapI G C n f c l a I D Cn vs Q) ?_ (vs.length + 1) ⟨0, g₁, _, _, oC, [], _, S₃, hIit, hoC, hV, Nat.zero_le _, rfl⟩ fun _ => rfl
  rintro k s' P' E' ⟨i, g', H', oI, oC', ys, m', S', hit, hns, hm, hi, rfl⟩ kP
  have hget := kI S'
  have hCg : s'.heap.get? Cn = some oC' := hget (Cn, oC') (.tail _ (.head _))
  have hM' : H'.M a = some (.list vs) := by
    cases hd : vs.drop i with
    | nil => rw [hd] at hm; exact hm.1
    | cons v r => rw [hd] at hm; exact hm.1
  have hl' := S'.isList hM'
  by_cases hlt : i < vs.length
  · have hv : vs.toArray[i]? = some vs[i] := by simp [hlt]
    refine wpAny_pyNext_list_item hit hl' hv fun h₂ hit₂ hs₂ => ?_
    have hns₂ : h₂.Ns (compEnv sc Cn c.env).locals m' := LCg.NsObj.ns hns (hs₂.extBut _ _ nIC.symm hCg)
    refine wpAny_assign_Name (wpAny_storeName_local (env := compEnv sc Cn c.env) hx hns₂ (fun h₃ hns₃ hs₃ => ?_) (by show (sc.kind == .class || (sc.kind == .module && _)) = false; rw [hk]; rfl))
    have hns₃' : h₃.Ns Cn (fun z => if z = x then some vs[i] else m' z) := hns₃
    obtain ⟨oC₃, heC₃, hoC₃⟩ := LCg.ns_obj hns₃'
    have hit₃ : h₃.IsListIter I a (i + 1) := by
      obtain ⟨o, ho, r⟩ := hit₂
      exact ⟨o, hs₃.extBut _ _ nIC ho, r⟩
    obtain ⟨oI₃, heI₃, hcI₃, rI₃⟩ := id hit₃
    have S₄ : FS G (c.pinned [(I, oI₃), (Cn, oC₃)]) g' { s' with heap := h₃, toks := s'.toks + 1 } l H' := S'.repin' (wr := [I, Cn]) rfl rfl hpin (fun b o hb e => hs₃.extBut b o (fun q => hb (by rw [q]; exact .tail _ (.head _))) (hs₂.extBut b o (fun q => hb (by rw [q]; exact .head _)) e)) (fun p hp => by
      rcases List.mem_cons.mp hp with q | q
      · rw [q]; exact ⟨heI₃, .inl (by rw [hcI₃]; exact fun e => absurd (Value.type.inj e) (by decide))⟩
      · rw [List.mem_singleton.mp q]; exact ⟨heC₃, okC hoC₃⟩)
    have hd' : vs.drop i = vs[i] :: vs.drop (i + 1) := List.drop_eq_getElem_cons hlt
    rw [hd'] at hm
    refine comp_call S₄.unpin hk e hf hfd keep hx hd hns₃' (if_pos rfl) ?_
    have okp : (c.pinned [(I, oI₃), (Cn, oC₃)]).Ok := at_.ok.pinned _
    refine wpAny_call (codeAny_mono (hm.2.go (c.pinned [(I, oI₃), (Cn, oC₃)]) A okp at_.fr at_.room g' _ l S₄) fun r s₅ z => ?_)
    cases r with
    | error e =>
      obtain ⟨ea, t, vs', news, g'', Gh, m'', l'', H'', _, _, _, _, _, _, _, _, _, _, hfalse⟩ := z
      exact hfalse.elim
    | ok fl => cases fl with
      | ret y =>
        obtain ⟨g₅, H₅, S₅, hD₅, hl₅, hm₅⟩ := z
        show wpAny _ _ _ _ _ s₅
        refine keep_append (hh := hh) S₅ hD₅ hl₅ fun g₆ s₆ S₆ => ?_
        have hget₆ := kI S₆
        have hI₆ : s₆.heap.get? I = some oI₃ := hget₆ (I, oI₃) (.head _)
        exact kP _ _ (turn_lt hlt) ⟨i + 1, g₆, _, oI₃, oC₃, ys ++ [y], _, S₆, ⟨oI₃, hI₆, hcI₃, rI₃⟩, hoC₃, hm₅, hlt, rfl⟩
      | _ => exact z.elim
  · have hin : i = vs.length := by lia
    subst hin
    rw [List.drop_length] at hm
    refine wpAny_pyNext_list_end hh hit hl' (by simp) fun h₂ hs₂ => ?_
    refine ⟨m', LCg.NsObj.ns hns (hs₂ _ _ nIC.symm hCg), fun h₃ hs₃ => ?_⟩
    refine ⟨g', H', S'.drop (wr := [I, Cn]) rfl hpin fun b o hb e => hs₃.extBut b o (fun q => hb (by rw [q]; exact .tail _ (.head _))) (hs₂ b o (fun q => hb (by rw [q]; exact .head _)) e), hm.2.2⟩
theorem triV_cmap {iter : Expr} {fx x : Str} {p1 p2 p3 px pos : Pos} {sc : Scope} {f : Addr} (at_ : At c n A) (hk : sc.kind = .function) (hall : ∀ y ∈ sc.names, y.2 ≠ .free ∧ y.2 ≠ .cell) (hnames : ∀ y ∈ sc.names, y.2 = .local → sc.names.lookup y.1 = some .local)
    (e : nsIn G.K mainGlobals fx = some (some (.ref f))) (hf : sc.names.lookup fx = some .globalImplicit) (hfd : (fx == ("__debug__" : Str)) = false) (keep : rH G (.ref f)) (hx : sc.names.lookup x = some .local) (hd : (x == ("__debug__" : Str)) = false)
    (h : jF G A c (eval iter c.env) l H (fun v H => match v with
      | .ref a => ∃ vs, H.M a = some (.list vs) ∧ vs.length ≤ 100000 ∧ ∀ D, H.free D → mapVC (fun v H Q => CallT G C n (.ref f) [v] H Q (fun _ => False)) a D vs vs [] (H.setM D (.list [])) Q
      | _ => False) E) (hs : ∀ x, foldedSetIterable iter c.env x = pure x) :
    jF G A c (eval (.ListComp (.Call (.Name fx p1) [.Name x p2] [] p3) [⟨.Name x px, iter, [], 0⟩] sc pos) c.env) l H Q E := jE fun g s S => by
  have hh := at_.room.hand
  refine wpAny_ListComp (fun y hy => (hall y hy).1) hk hnames (jA h S fun v g₁ s₁ H₁ S₁ hv => ?_) hs
  cases v with
  | ref a =>
    obtain ⟨vs, hM, hlen, hV⟩ := hv
    have hL := S₁.isList hM
    refine wpAny_pyIter_list hL ?_
    have halt : a < s₁.heap.objs.size := by obtain ⟨o, ho, _⟩ := hL; exact Heap.lt_size ho
    generalize hP1 : s₁.heap.push { cls := .type "list_iterator", data := .fields #[.ref a, .int 0 0] } = P1
    have hI1 : P1.objs.size = s₁.heap.objs.size + 1 := by rw [← hP1, Heap.size_push]
    refine wpAny_newObj_type (wpAny_newFunctionEnv (fun y hy => (hall y hy).2) (by intro y hy; simp at hy) (fun h₁ hns₁ hsb₁ => ?_) hk)
    dsimp only at hns₁ hsb₁ ⊢
    generalize hP2 : P1.push { cls := .type "list", dict := none, data := .seq ([] : List Value).toArray } = P2 at hns₁ hsb₁ ⊢
    have hD1 : P2.objs.size = P1.objs.size + 1 := by rw [← hP2, Heap.size_push]
    refine S₁.opn fun mF news₁ F₁ lr₁ N₁ i₁ => ?_
    have below : ∀ b, b < s₁.heap.objs.size → b ≠ s₁.heap.objs.size ∧ b ≠ P1.objs.size ∧ b ≠ P2.objs.size := fun b hb => ⟨by lia, by lia, by lia⟩
    have nIC : (s₁.heap.objs.size : Addr) ≠ P2.objs.size := by show (s₁.heap.objs.size : Nat) ≠ P2.objs.size; lia
    have nID : (s₁.heap.objs.size : Addr) ≠ P1.objs.size := by show (s₁.heap.objs.size : Nat) ≠ P1.objs.size; lia
    have nDC : (P1.objs.size : Addr) ≠ P2.objs.size := by show (P1.objs.size : Nat) ≠ P2.objs.size; lia
    have e1 : ∀ b o, s₁.heap.get? b = some o → P1.get? b = some o := fun b o e => by rw [← hP1]; exact Heap.get?_push_of_some _ e
    have e2 : ∀ b o, P1.get? b = some o → P2.get? b = some o := fun b o e => by rw [← hP2]; exact Heap.get?_push_of_some _ e
    have e3 : ∀ b o, b ≠ P2.objs.size → P2.get? b = some o → h₁.get? b = some o := fun b o hb e => hsb₁.extBut b o hb (Heap.get?_push_of_some _ e)
    have old : ∀ b o, s₁.heap.get? b = some o → h₁.get? b = some o := fun b o e => e3 b o (below b (Heap.lt_size e)).2.2 (e2 b o (e1 b o e))
    have hI : h₁.get? s₁.heap.objs.size = some { cls := .type "list_iterator", data := .fields #[.ref a, .int 0 0] } := e3 _ _ nIC (e2 _ _ (by rw [← hP1]; exact Heap.get?_push_size _ rfl))
    have hDo : h₁.get? P1.objs.size = some { cls := .type "list", dict := none, data := .seq ([] : List Value).toArray } := e3 _ _ nDC (by rw [← hP2]; exact Heap.get?_push_size _ rfl)
    obtain ⟨oC, heC, hoC⟩ := LCg.ns_obj hns₁
    have okC : ∀ {o : Obj} {m : Str → Option Value}, LCg.NsObj o m → PinOk o := fun ⟨es, ep, hd, _⟩ => .inr (.inl ⟨es, ep, hd⟩)
    have pinlt : ∀ p ∈ c.pin, p.1 < s₁.heap.objs.size := fun p hp => Heap.lt_size (N₁ _ (i₁.pins p hp).1).1
    have hpin : ∀ p ∈ c.pin, p.1 ∉ [(s₁.heap.objs.size : Addr), P2.objs.size] := fun p hp hb => by
      have := below _ (pinlt p hp)
      rcases List.mem_cons.mp hb with q | q
      · exact this.1 q
      · exact this.2.2 (List.mem_singleton.mp q)
    have ga : ∀ a : Addr, s₁.heap.objs.size ≤ a → g₁.get? a = none := fun a hsz => by
      cases q : g₁.get? a with
      | none => rfl
      | some o' => exact absurd (Nat.lt_of_lt_of_le (Heap.lt_size (F₁.keep a o' q)) hsz) (Nat.lt_irrefl _)
    have hfree : H₁.free P1.objs.size := kG i₁ fun p hp => (below _ (Heap.lt_size (N₁ p hp).1)).2.1
    have S₂ : FS G (c.pinned [(s₁.heap.objs.size, _), (P2.objs.size, oC)]) g₁ { s₁ with heap := h₁, toks := s₁.toks + ([] : List (Str × Value)).length } l H₁ := S₁.pin0' old fun p hp => by
      rcases List.mem_cons.mp hp with q | q
      · rw [q]
        exact ⟨hI, .inl (fun e => absurd (Value.type.inj e) (by decide)), Nat.le_refl _⟩
      · rw [List.mem_singleton.mp q]
        exact ⟨heC, okC hoC, by show s₁.heap.objs.size ≤ P2.objs.size; lia⟩
    have S₃ := S₂.newM (D := P1.objs.size) (mo := .list []) ⟨0, rfl⟩ hDo (Ne.symm (below _ F₁.ns.lt).2.1) (ga _ (by show s₁.heap.objs.size ≤ P1.objs.size; lia)) hfree (fun p hp => by
      rcases List.mem_append.mp hp with hp | hp
      · rcases List.mem_cons.mp hp with q | q
        · rw [q]; exact nID
        · rw [List.mem_singleton.mp q]; exact nDC.symm
      · exact (below _ (pinlt p hp)).2.1)
    have hIit : h₁.IsListIter s₁.heap.objs.size a 0 := ⟨_, hI, rfl, rfl⟩
    have loop := cmap_loop (pos := pos) (p1 := p1) (p2 := p2) (p3 := p3) (px := px) (iter := iter) (E := E) (Q := Q) at_ hk hall hnames e hf hfd keep hx hd nIC hpin S₃ hIit hoC (hV _ hfree)
    exact codeAny_compStart_list loop (wpAny_pyIter_listiter hIit loop)
  | _ => exact hv.elim
end
theorem blanks_succ (x : Str) (i : Nat) : blanks x (i + 1) = blanks x i ++ if x.cps[i]? = some 32 then [i] else [] := by
  unfold blanks
  rw [List.range_succ, List.filter_append]
  by_cases h : x.cps[i]? = some 32
  · simp [h]
  · simp [h]
theorem blanks_len (x : Str) (i : Nat) : (blanks x i).length ≤ i := by
  unfold blanks
  have := List.length_filter_le (fun j => decide (x.cps[j]? = some 32)) (List.range i)
  simpa using this
theorem NatsV.snoc {n : Nat} {t : Tok} {vs : List Value} {ns : List Nat} : NatsV vs ns → NatsV (vs ++ [.int (n : Nat) t]) (ns ++ [n])
  | .nil => .cons .nil
  | .cons h => .cons h.snoc
theorem NatsV.len {vs : List Value} {ns : List Nat} : NatsV vs ns → vs.length = ns.length
  | .nil => rfl
  | .cons h => by simp [h.len]
section
variable {prog : Program} {w : World} {A : Around} {s : Shared}
theorem compLoop_pt {elt iter : Expr} {elts : List Expr} {x1} {tp : Pos} {ifs : List Expr} {scope : Scope} {pos : Pos} {it acc : Value} {env : Env} {R : Result → Shared → Prop} (I : Nat → Shared → Prop)
    (turn : ∀ n s (P : Shared → Prop) E, I n s → (∀ m s', m < n → I m s' → P s') → wpAny (model prog w) A (pyNext it) (fun r s₁ => match r with
      | none => R (.ok .next) s₁
      | some v => wpAny (model prog w) A (letOwnedTupleGo (.Tuple elts x1 tp) it v) (fun _ s₁' => wpAny (model prog w) A (assign (.Tuple elts x1 tp) env v) (fun _ s₂ =>
          wpAny (model prog w) A (forIn ifs true fun c r => if r = true then do let ok ← isTrue c env (eval c env); pure (ForInStep.yield ok) else pure (ForInStep.yield r)) (fun ok s₃ =>
            if ok = true then wpAny (model prog w) A (eval elt env) (fun x s₄ => wpAny (model prog w) A (call (.builtin "list.append") [acc, x]) (fun _ s₅ => P s₅) E s₄) E s₃ else P s₃) E s₂) E s₁') E s₁) E s)
    (n : Nat) (h : I n s) : codeAny (model prog w) A (.compLoop (.ListComp elt [⟨.Tuple elts x1 tp, iter, ifs, 0⟩] scope pos) 0 it acc env) R s := by
  refine codeAny_loop rfl I (fun n s hI => ?_) n h
  show wpAny _ A ((compTurn (.ListComp elt [⟨.Tuple elts x1 tp, iter, ifs, 0⟩] scope pos) 0 it acc env).onRaise (fun x => do noteFrame x env; theTreesLotGoes x)) _ _ s
  refine wpAny_noted ?_
  rw [compTurn_list]
  refine wpAny_bind (wpAny_standAt (wpAny_bind (wpAny_mono (turn n s (fun s' => ∃ m, m < n ∧ I m s') _ hI fun m _ a b => ⟨m, a, b⟩) (fun r s₁ h₁ => ?_) fun _ _ h' => h')))
  cases r with
  | none => exact wpAny_pure h₁
  | some v =>
    refine wpAny_bind (wpAny_mono h₁ (fun _ s₁' h₁' => ?_) fun _ _ h' => h')
    refine wpAny_bind (wpAny_mono h₁' (fun _ s₂ h₂ => wpAny_bind (wpAny_mono h₂ (fun ok s₃ h₃ => ?_) fun _ _ h' => h')) fun _ _ h' => h')
    cases ok with
    | false => exact wpAny_pure ⟨rfl, h₃⟩
    | true =>
      exact wpAny_bind (wpAny_bind (wpAny_mono h₃ (fun x s₄ h₄ => wpAny_bind (wpAny_mono h₄ (fun _ s₅ h₅ => wpAny_pure (wpAny_pure ⟨rfl, h₅⟩)) fun _ _ h' => h')) fun _ _ h' => h'))
end
section
variable {G : Gl} {A : Around} {c : Fx} {n : Nat} {k : Fu} {l l' : List (Option Value)} {H H' : AH} {E : Value → Shared → Prop} {Q : Value → AH → Prop} {g : Heap} {s s' : Shared} {C : Addr} {X : AH → Prop} {os : List (Addr × Obj)}
theorem comp_blank {sc : Scope} {Cn : Addr} {x : Str} {p2 p3 p4 : Pos} {kk : Nat} {ch : Nat} {t : Tok} {m : Str → Option Value} {R : Bool → Shared → Prop} (hu : A.units + 64 < cLine) (hk : sc.kind = .function) (hx : sc.names.lookup x = some .local) (hd : (x == ("__debug__" : Str)) = false) (hn : s.heap.Ns Cn m) (hv : m x = some (.str ⟨#[ch]⟩ t))
    (h : ∀ tk, R (decide (ch = 32)) { s with toks := tk }) :
    wpAny (model G.prog G.w) A (forIn [(.Compare (.Name x p2) [.Eq] [.Constant (.str " ") kk p3] p4 : Expr)] true fun c' r => if r = true then do let ok ← isTrue c' (compEnv sc Cn c.env) (eval c' (compEnv sc Cn c.env)); pure (ForInStep.yield ok) else pure (ForInStep.yield r)) R E s := by
  refine wpAny_tests_one ?_
  refine wpAny_isTrue_Compare1 ?_ (by rfl)
  refine mQ hk hx hd hn hv ?_
  refine wpAny_Constant_str ?_
  refine PyProof.Rows.eq_str ?_
  have e : ((⟨#[ch]⟩ : Str) == (" " : Str)) = decide (ch = 32) := by
    have : (" " : Str) = ⟨#[32]⟩ := by rfl
    rw [this, Bool.eq_iff_iff]
    simp
  rw [e]
  refine wpAny_truthy_bool ?_
  exact h _
inductive CblI (G : Gl) (c : Fx) (l : List (Option Value)) (H : AH) (En I D Cn : Addr) (x : Str) (t : Tok) (k : Nat) (s' : Shared) : Prop
  | mk (i : Nat) (g' : Heap) (oE oI oC : Obj) (ys : List Value) (m' : Str → Option Value) (S : FS G (c.pinned [(En, oE), (I, oI), (Cn, oC)]) g' s' l (H.setM D (.list ys))) (en : ∃ old, IsEnum s'.heap En I i old) (it : s'.heap.IsStrIter I "str_ascii_iterator" x t i) (ns : LCg.NsObj oC m')
    (hy : NatsV ys (blanks x i)) (hi : i ≤ x.cps.size) (hk : k = x.cps.size + 1 - i) : CblI G c l H En I D Cn x t k s'
theorem cblank_loop {xt : Str} {pt : Pos} {xa xb : Str} {kt kk : Nat} {pa pb tp pe pc p1 p2 p3 p4 pos : Pos} {sc : Scope} {RR : Value → Env → Result → Shared → Prop} (at_ : At c n A) (hk : sc.kind = .function) (hall : ∀ y ∈ sc.names, y.2 ≠ .free ∧ y.2 ≠ .cell)
    (e0 : nsIn G.K mainGlobals "enumerate" = some none) (hx0 : c.cs.names.lookup ("enumerate" : Str) = some .globalImplicit) (hxa : sc.names.lookup xa = some .local) (hda : (xa == ("__debug__" : Str)) = false) (hxb : sc.names.lookup xb = some .local) (hdb : (xb == ("__debug__" : Str)) = false) (hab : xa ≠ xb)
    {En I D Cn : Addr} {x : Str} {t : Tok} {oE oI oC : Obj} {g₁ : Heap} {s₁ : Shared} {H₁ : AH} {m₀ : Str → Option Value} {old₀ : Value} (hlen : x.length ≤ 100000) (nEI : En ≠ I) (nEC : En ≠ Cn) (nIC : I ≠ Cn) (hpin : ∀ p ∈ c.pin, p.1 ∉ [En, I, Cn]) (hfree : H₁.free D)
    (S₃ : FS G (c.pinned [(En, oE), (I, oI), (Cn, oC)]) g₁ s₁ l (H₁.setM D (.list []))) (hE : IsEnum s₁.heap En I ((0 : Nat) : Int) old₀) (hI : s₁.heap.IsStrIter I "str_ascii_iterator" x t 0) (hoC : LCg.NsObj oC m₀)
    (hV : ∀ D ys Cn oC m' g' s', H₁.free D → NatsV ys (blanks x x.cps.size) → (∀ p ∈ c.pin, p.1 ≠ Cn) → LCg.NsObj oC m' → s'.heap.get? Cn = some oC → FS G (c.pinned [(Cn, oC)]) g' s' l (H₁.setM D (.list ys)) → RR (.ref D) (compEnv sc Cn c.env) (.ok .next) s') :
    codeAny (model G.prog G.w) A (.compLoop (.ListComp (.Name xa p1) [⟨.Tuple [.Name xa pa, .Name xb pb] kt tp, .Call (.Name "enumerate" pe) [.Name xt pt] [] pc, [.Compare (.Name xb p2) [.Eq] [.Constant (.str " ") kk p3] p4], 0⟩] sc pos) 0 (.ref En) (.ref D) (compEnv sc Cn c.env))
        (RR (.ref D) (compEnv sc Cn c.env)) s₁ := by
  have hh := at_.room.hand
  have okC : ∀ {o : Obj} {m : Str → Option Value}, LCg.NsObj o m → PinOk o := fun ⟨es, ep, hd, _⟩ => .inr (.inl ⟨es, ep, hd⟩)
  have two3 : ∀ {b e i c : Addr}, b ∈ [e, i] → b ∈ [e, i, c] := fun q => by
    rcases List.mem_cons.mp q with q | q
    · rw [q]; exact .head _
    · rw [List.mem_singleton.mp q]; exact .tail _ (.head _)
  have kI : ∀ {os : List (Addr × Obj)} {g : Heap} {s : Shared} {H : AH}, FS G (c.pinned os) g s l H → ∀ p ∈ os, s.heap.get? p.1 = some p.2 := fun S p hp => by
    obtain ⟨news, N, i⟩ := S.led
    exact (N _ (i.pins p (List.mem_append_left _ hp)).1).1
  have Dr := (Draws.strAscii (prog := G.prog) (w := G.w) (A := A.in1) hh I x t)
  have W := WalksT.enumerateD Dr En nEI (by simp [nEI]) (by simp)
  refine compLoop_pt (CblI G c l H₁ En I D Cn x t) ?_ (x.cps.size + 1) ⟨0, g₁, _, oI, oC, [], _, S₃, ⟨_, hE⟩, hI, hoC, .nil, Nat.zero_le _, rfl⟩
  rintro k s' P E' ⟨i, g', oE', oI', oC', ys, m', S', hen', hit', hns, hys, hi, rfl⟩ kP
  have hget := kI S'
  have hCg : s'.heap.get? Cn = some oC' := hget (Cn, oC') (.tail _ (.tail _ (.head _)))
  have hst : (∃ old, IsEnum s'.heap En I i old) ∧ s'.heap.IsStrIter I "str_ascii_iterator" x t i := ⟨hen', hit'⟩
  by_cases hlt : i < x.cps.size
  · refine W.item i _ _ _ hlt hst fun T vals h₂ tk₂ hP hsz hT hMid hk₂ => ?_
    obtain ⟨ti, xv, ⟨ch, u, hch, rfl⟩, rfl⟩ := hP
    refine W.go [.Name xa pa, .Name xb pb] kt tp i T _ _ _ hMid fun h₃ st₃ hk₃ => ?_
    dsimp only
    have hT₃ : IsTup h₃ T #[.int i ti, .str ⟨#[ch]⟩ u] := hT.at fun o y => hk₃ T o (by simp [hMid.2.2.1, hMid.2.2.2]) y
    have nC : Cn ∉ [En, I] := fun hb => by
      rcases List.mem_cons.mp hb with q | q
      · exact nEC q.symm
      · exact nIC (List.mem_singleton.mp q).symm
    have hns₃ : h₃.Ns (compEnv sc Cn c.env).locals m' := LCg.NsObj.ns hns (hk₃ _ _ nC (hk₂ _ _ nC hCg))
    refine assign_Tuple_tuple hh hT₃ rfl rfl fun h₄ he₄ => ?_
    have k₄ : ∀ b o, h₃.get? b = some o → h₄.get? b = some o := fun b o e => he₄ b o (Nat.ne_of_lt (Heap.lt_size e)) e
    refine assignInOrder_cons (wpAny_assign_Name (wpAny_storeName_local (env := compEnv sc Cn c.env) hxa (hns₃.at' fun o e => k₄ _ o e) (fun h₅ hns₅ hs₅ => ?_) (by show (sc.kind == .class || (sc.kind == .module && _)) = false; rw [hk]; rfl)))
    refine assignInOrder_cons (wpAny_assign_Name (wpAny_storeName_local (env := compEnv sc Cn c.env) hxb hns₅ (fun h₆ hns₆ hs₆ => ?_) (by show (sc.kind == .class || (sc.kind == .module && _)) = false; rw [hk]; rfl)))
    refine assignInOrder_nil ?_
    dsimp only
    have hns₆' : h₆.Ns Cn (fun z => if z = xb then some (.str ⟨#[ch]⟩ u) else (fun z => if z = xa then some (.int i ti) else m' z) z) := hns₆
    obtain ⟨oC₆, heC₆, hoC₆⟩ := LCg.ns_obj hns₆'
    have up₆ : ∀ b o, b ≠ Cn → h₃.get? b = some o → h₆.get? b = some o := fun b o hb e => hs₆.extBut b o hb (hs₅.extBut b o hb (k₄ b o e))
    obtain ⟨⟨old₃, hE₃⟩, hI₃⟩ := st₃
    have hE₆ : IsEnum h₆ En I ((i + 1 : Nat) : Int) old₃ := up₆ _ _ nEC hE₃
    have hI₆ : h₆.IsStrIter I "str_ascii_iterator" x t (i + 1) := by
      obtain ⟨o, ho, r⟩ := hI₃
      exact ⟨o, up₆ _ _ nIC ho, r⟩
    obtain ⟨oI₆, heI₆, hcI₆, rI₆⟩ := id hI₆
    have S₄ : FS G (c.pinned [(En, _), (I, oI₆), (Cn, oC₆)]) g' { s' with heap := h₆, toks := tk₂ + 1 + 1 } l (H₁.setM D (.list ys)) := S'.repin' (wr := [En, I, Cn]) rfl rfl hpin (fun b o hb e => up₆ b o (fun q => hb (by rw [q]; exact .tail _ (.tail _ (.head _)))) (hk₃ b o (fun q => hb (two3 q)) (hk₂ b o (fun q => hb (two3 q)) e))) (fun p hp => by
      rcases List.mem_cons.mp hp with q | q
      · rw [q]; exact ⟨hE₆, .inl (fun e => absurd (Value.type.inj e) (by decide))⟩
      · rcases List.mem_cons.mp q with q | q
        · rw [q]; exact ⟨heI₆, .inl (by rw [hcI₆]; exact fun e => absurd (Value.type.inj e) (by decide))⟩
        · rw [List.mem_singleton.mp q]; exact ⟨heC₆, okC hoC₆⟩)
    refine comp_blank (c := c) (by have := at_.room.units; lia) hk hxb hdb hns₆' (if_pos rfl) fun tk => ?_
    have S₅ := S₄.toks tk
    by_cases hb : ch = 32
    · subst hb
      simp only [decide_true, if_true]
      refine mQ hk hxa hda (s := { s' with heap := h₆, toks := tk }) hns₆' (v := .int i ti) (by rw [if_neg hab]; exact if_pos rfl) ?_
      have hl := hys.len
      have hbl := blanks_len x i
      have hlx : x.cps.size ≤ 100000 := hlen
      refine keep_append (hh := hh) (D := D) (ys := ys) S₅ (by simp [AH.setM]) (by lia) fun g₆ s₆ S₆ => ?_
      have two : (H₁.setM D (.list ys)).setM D (.list (ys ++ [.int i ti])) = H₁.setM D (.list (ys ++ [.int i ti])) := by
        unfold AH.setM
        congr 1
        funext b
        by_cases q : b = D
        · simp [q]
        · simp [q]
      rw [two] at S₆
      have hget₆ := kI S₆
      have hI₇ : s₆.heap.get? I = some oI₆ := hget₆ (I, oI₆) (.tail _ (.head _))
      have hE₇ := hget₆ _ (.head _)
      have hbs : blanks x (i + 1) = blanks x i ++ [i] := by rw [blanks_succ, hch, if_pos rfl]
      exact kP _ _ (turn_lt hlt) ⟨i + 1, g₆, _, oI₆, oC₆, ys ++ [.int i ti], _, S₆, ⟨old₃, hE₇⟩, ⟨oI₆, hI₇, hcI₆, rI₆⟩, hoC₆, hbs ▸ hys.snoc, hlt, rfl⟩
    · have e : decide (ch = 32) = false := decide_eq_false hb
      simp only [e, Bool.false_eq_true, if_false]
      refine kP _ _ (turn_lt hlt) ⟨i + 1, g', _, oI₆, oC₆, ys, _, S₅, ⟨old₃, hE₆⟩, hI₆, hoC₆, ?_, hlt, rfl⟩
      have : blanks x (i + 1) = blanks x i := by
        rw [blanks_succ, hch, if_neg (by simp [hb]), List.append_nil]
      rw [this]
      exact hys
  · have hin : i = x.cps.size := by lia
    subst hin
    refine W.done _ _ _ hst fun h₂ tk₂ hk₂ => ?_
    have nC : Cn ∉ [En, I] := fun hb => by
      rcases List.mem_cons.mp hb with q | q
      · exact nEC q.symm
      · exact nIC (List.mem_singleton.mp q).symm
    have S₆ : FS G (c.pinned [(Cn, oC')]) g' { s' with heap := h₂, toks := tk₂ } l (H₁.setM D (.list ys)) := FS.drop (c := c.pinned [(Cn, oC')]) (os := [(En, oE'), (I, oI')]) (wr := [En, I]) S' rfl (fun p hp => by
      rcases List.mem_append.mp hp with hp | hp
      · rw [List.mem_singleton.mp hp]; exact nC
      · exact fun q => hpin p hp (two3 q)) hk₂
    exact hV D ys Cn oC' m' g' _ hfree hys (fun p hp q => hpin p hp (by rw [q]; exact .tail _ (.tail _ (.head _)))) hns (hk₂ _ _ nC hCg) S₆
theorem cblank_core {xt : Str} {pt : Pos} {xa xb : Str} {kt kk : Nat} {pa pb tp pe pc p1 p2 p3 p4 pos : Pos} {sc : Scope} {RR : Value → Env → Result → Shared → Prop} (at_ : At c n A) (hk : sc.kind = .function) (hall : ∀ y ∈ sc.names, y.2 ≠ .free ∧ y.2 ≠ .cell)
    (e0 : nsIn G.K mainGlobals "enumerate" = some none) (hx0 : c.cs.names.lookup ("enumerate" : Str) = some .globalImplicit) (hxa : sc.names.lookup xa = some .local) (hda : (xa == ("__debug__" : Str)) = false) (hxb : sc.names.lookup xb = some .local) (hdb : (xb == ("__debug__" : Str)) = false) (hab : xa ≠ xb) (S : FS G c g s l H)
    (h : jF G A c (eval (.Name xt pt) c.env) l H (fun v H => match v with
      | .str x _ => (x.length ≤ 100000 ∧ x.cps.all (· < 128) = true) ∧ ∀ D ys Cn oC m' g' s', H.free D → NatsV ys (blanks x x.cps.size) → (∀ p ∈ c.pin, p.1 ≠ Cn) → LCg.NsObj oC m' → s'.heap.get? Cn = some oC → FS G (c.pinned [(Cn, oC)]) g' s' l (H.setM D (.list ys)) → RR (.ref D) (compEnv sc Cn c.env) (.ok .next) s'
      | _ => False) E) :
    wpAny (model G.prog G.w) A (eval (.Call (.Name "enumerate" pe) [.Name xt pt] [] pc) c.env) (fun xv s₁ => wpAny (model G.prog G.w) A (pyIter xv) (fun itv s₂ => wpAny (model G.prog G.w) A (newList []) (fun acc s₃ =>
      wpAny (model G.prog G.w) A (newFunctionEnv sc c.env.globals [] [] c.env.qual none .none (some c.env)) (fun cenv s₄ =>
        codeAny (model G.prog G.w) A (.compStart (.ListComp (.Name xa p1) [⟨.Tuple [.Name xa pa, .Name xb pb] kt tp, .Call (.Name "enumerate" pe) [.Name xt pt] [] pc, [.Compare (.Name xb p2) [.Eq] [.Constant (.str " ") kk p3] p4], 0⟩] sc pos) 0 itv acc { cenv with scope := sc })
          (RR acc { cenv with scope := sc }) s₄) E s₃) E s₂) E s₁) E s := by
  have hh := at_.room.hand
  refine wpAny_bind ?_
  refine jA (xB (c := c) (v := .type "enumerate") (Q := fun v H' => v = .type "enumerate" ∧ H' = H) at_.ok e0 (by rfl) (by decide) hx0 (by decide) ⟨rfl, rfl⟩) S fun v0 g0 s0 H0 S0 e00 => ?_
  obtain ⟨rfl, rfl⟩ := e00
  refine callWith_of (P := G.K.In) (by rfl) (uA (G := G)) ?_
  refine evalArgs_plain ?_
  refine wpAny_items_cons (pos := pc) (e := .Name xt pt) (rest := []) ?_
  refine jA h S0 fun v g₁ s₁ H₁ S₁ hv => ?_
  refine wpAny_items_nil ?_
  refine ⟨S₁.X.keeps (let ⟨_, F, _⟩ := S₁.F; F.keep), ?_⟩
  cases v with
  | str x t =>
    obtain ⟨⟨hlen, hasc⟩, hV⟩ := hv
    refine call_enumerate_str fun P1 hen hit hP1 e1 => ?_
    have hty : strIterType x = "str_ascii_iterator" := by simp [strIterType, hasc]
    rw [hty] at hit
    refine wpAny_pyIter_enum hen ?_
    refine wpAny_newObj_type (wpAny_newFunctionEnv (fun y hy => (hall y hy).2) (by intro y hy; simp at hy) (fun h₁ hns₁ hsb₁ => ?_) hk)
    dsimp only at hns₁ hsb₁ ⊢
    generalize hP2 : P1.push { cls := .type "list", dict := none, data := .seq ([] : List Value).toArray } = P2 at hns₁ hsb₁ ⊢
    have hD1 : P2.objs.size = P1.objs.size + 1 := by rw [← hP2, Heap.size_push]
    refine S₁.opn fun mF news₁ F₁ lr₁ N₁ i₁ => ?_
    have below : ∀ b, b < s₁.heap.objs.size → b ≠ s₁.heap.objs.size ∧ b ≠ s₁.heap.objs.size + 1 ∧ b ≠ P1.objs.size ∧ b ≠ P2.objs.size := fun b hb => ⟨by lia, by lia, by lia, by lia⟩
    have nEI : (s₁.heap.objs.size + 1 : Addr) ≠ s₁.heap.objs.size := Nat.succ_ne_self _
    have nEC : (s₁.heap.objs.size + 1 : Addr) ≠ P2.objs.size := by show (s₁.heap.objs.size + 1 : Nat) ≠ P2.objs.size; lia
    have nIC : (s₁.heap.objs.size : Addr) ≠ P2.objs.size := by show (s₁.heap.objs.size : Nat) ≠ P2.objs.size; lia
    have nED : (s₁.heap.objs.size + 1 : Addr) ≠ P1.objs.size := by show (s₁.heap.objs.size + 1 : Nat) ≠ P1.objs.size; lia
    have nID : (s₁.heap.objs.size : Addr) ≠ P1.objs.size := by show (s₁.heap.objs.size : Nat) ≠ P1.objs.size; lia
    have nDC : (P1.objs.size : Addr) ≠ P2.objs.size := by show (P1.objs.size : Nat) ≠ P2.objs.size; lia
    have e2 : ∀ b o, P1.get? b = some o → P2.get? b = some o := fun b o e => by rw [← hP2]; exact Heap.get?_push_of_some _ e
    have e3 : ∀ b o, b ≠ P2.objs.size → P2.get? b = some o → h₁.get? b = some o := fun b o hb e => hsb₁.extBut b o hb (Heap.get?_push_of_some _ e)
    have old : ∀ b o, s₁.heap.get? b = some o → h₁.get? b = some o := fun b o e => e3 b o (below b (Heap.lt_size e)).2.2.2 (e2 b o (e1 b o e))
    have hE : IsEnum h₁ (s₁.heap.objs.size + 1) s₁.heap.objs.size 0 .none := e3 _ _ nEC (e2 _ _ hen)
    have hI : h₁.IsStrIter s₁.heap.objs.size "str_ascii_iterator" x t 0 := by
      obtain ⟨o, ho, r⟩ := hit
      exact ⟨o, e3 _ _ nIC (e2 _ _ ho), r⟩
    obtain ⟨oI, heI, hcI, rI⟩ := id hI
    have hDo : h₁.get? P1.objs.size = some { cls := .type "list", dict := none, data := .seq ([] : List Value).toArray } := e3 _ _ nDC (by rw [← hP2]; exact Heap.get?_push_size _ rfl)
    obtain ⟨oC, heC, hoC⟩ := LCg.ns_obj hns₁
    have okC : ∀ {o : Obj} {m : Str → Option Value}, LCg.NsObj o m → PinOk o := fun ⟨es, ep, hd, _⟩ => .inr (.inl ⟨es, ep, hd⟩)
    have pinlt : ∀ p ∈ c.pin, p.1 < s₁.heap.objs.size := fun p hp => Heap.lt_size (N₁ _ (i₁.pins p hp).1).1
    have hpin : ∀ p ∈ c.pin, p.1 ∉ [(s₁.heap.objs.size + 1 : Addr), s₁.heap.objs.size, P2.objs.size] := fun p hp hb => by
      have := below _ (pinlt p hp)
      rcases List.mem_cons.mp hb with q | q
      · exact this.2.1 q
      · rcases List.mem_cons.mp q with q | q
        · exact this.1 q
        · exact this.2.2.2 (List.mem_singleton.mp q)
    have ga : ∀ a : Addr, s₁.heap.objs.size ≤ a → g₁.get? a = none := fun a hsz => by
      cases q : g₁.get? a with
      | none => rfl
      | some o' => exact absurd (Nat.lt_of_lt_of_le (Heap.lt_size (F₁.keep a o' q)) hsz) (Nat.lt_irrefl _)
    have hfree : H₁.free P1.objs.size := kG i₁ fun p hp => (below _ (Heap.lt_size (N₁ p hp).1)).2.2.1
    have S₂ : FS G (c.pinned [(s₁.heap.objs.size + 1, _), (s₁.heap.objs.size, oI), (P2.objs.size, oC)]) g₁ { s₁ with heap := h₁, toks := s₁.toks + ([] : List (Str × Value)).length } l H₁ := S₁.pin0' old fun p hp => by
      rcases List.mem_cons.mp hp with q | q
      · rw [q]
        exact ⟨hE, .inl (fun e => absurd (Value.type.inj e) (by decide)), Nat.le_succ _⟩
      · rcases List.mem_cons.mp q with q | q
        · rw [q]
          exact ⟨heI, .inl (by rw [hcI]; exact fun e => absurd (Value.type.inj e) (by decide)), Nat.le_refl _⟩
        · rw [List.mem_singleton.mp q]
          exact ⟨heC, okC hoC, by show s₁.heap.objs.size ≤ P2.objs.size; lia⟩
    have S₃ := S₂.newM (D := P1.objs.size) (mo := .list []) ⟨0, rfl⟩ hDo (Ne.symm (below _ F₁.ns.lt).2.2.1) (ga _ (by show s₁.heap.objs.size ≤ P1.objs.size; lia)) hfree (fun p hp => by
      rcases List.mem_append.mp hp with hp | hp
      · rcases List.mem_cons.mp hp with q | q
        · rw [q]; exact nED
        · rcases List.mem_cons.mp q with q | q
          · rw [q]; exact nID
          · rw [List.mem_singleton.mp q]; exact nDC.symm
      · exact (below _ (pinlt p hp)).2.2.1)
    have loop := cblank_loop (RR := RR) (pos := pos) (p1 := p1) (p2 := p2) (p3 := p3) (p4 := p4) (pa := pa) (pb := pb) (tp := tp) (pe := pe) (pc := pc) (pt := pt) (xt := xt) (kt := kt) (kk := kk) at_ hk hall e0 hx0 hxa hda hxb hdb hab hlen nEI nEC nIC hpin hfree S₃ hE hI hoC hV
    exact codeAny_compStart_list loop (wpAny_pyIter_enum hE loop)
  | _ => exact hv.elim
theorem triS_cblank {y xt : Str} {py pt : Pos} {xa xb : Str} {i kt kk : Nat} {pa pb tp pe pc p1 p2 p3 p4 pos spos : Pos} {sc : Scope} {Ql : List (Option Value) → AH → Prop} (at_ : At c n A) (hy : c.ns[i]? = some y) (hline : (py.line == pos.line) = true) (hno : (sc.names.any fun (n, k) => n == y && (k == .local || k == .cell)) = false) (hk : sc.kind = .function) (hall : ∀ y ∈ sc.names, y.2 ≠ .free ∧ y.2 ≠ .cell) (hnames : ∀ y ∈ sc.names, y.2 = .local → sc.names.lookup y.1 = some .local)
    (e0 : nsIn G.K mainGlobals "enumerate" = some none) (hx0 : c.cs.names.lookup ("enumerate" : Str) = some .globalImplicit) (hxa : sc.names.lookup xa = some .local) (hda : (xa == ("__debug__" : Str)) = false) (hxb : sc.names.lookup xb = some .local) (hdb : (xb == ("__debug__" : Str)) = false) (hab : xa ≠ xb)
    (h : jF G A c (eval (.Name xt pt) c.env) l H (fun v H => match v with
      | .str x _ => (x.length ≤ 100000 ∧ x.cps.all (· < 128) = true) ∧ ∀ D ys, H.free D → NatsV ys (blanks x x.cps.size) → Ql (l.set i (some (.ref D))) (H.setM D (.list ys))
      | _ => False) E) :
    Tri G A c (exec (.Assign [.Name y py] (.ListComp (.Name xa p1) [⟨.Tuple [.Name xa pa, .Name xb pb] kt tp, .Call (.Name "enumerate" pe) [.Name xt pt] [] pc, [.Compare (.Name xb p2) [.Eq] [.Constant (.str " ") kk p3] p4], 0⟩] sc pos) spos) c.env) l H (fun f l' H' => f = .next ∧ Ql l' H') E := ⟨fun g s S => by
  have hsw : swapsWith (.ListComp (.Name xa p1) [⟨.Tuple [.Name xa pa, .Name xb pb] kt tp, .Call (.Name "enumerate" pe) [.Name xt pt] [] pc, [.Compare (.Name xb p2) [.Eq] [.Constant (.str " ") kk p3] p4], 0⟩] sc pos) (some (.Name y py)) spos.line c.env = pure true := by
    have e1 : (c.env.blockKind == .function) = true := by
      show ((if c.cs.kind.isAnnotationScope then ScopeKind.function else c.cs.kind) == .function) = true
      rw [at_.ok.kind]; rfl
    have e2 : (c.env.kindOf y == some .local) = true := by
      show (c.cs.names.lookup y == some .local) = true
      rw [at_.ok.loc y (List.mem_of_getElem? hy)]; rfl
    show (pure (c.env.blockKind == .function && c.env.kindOf y == some .local && py.line == pos.line && !(sc.names.any fun (n, k) => n == y && (k == .local || k == .cell))) : Sem Bool) = pure true
    rw [e1, e2, hline, hno]; rfl
  rw [exec_Assign_Name_used _ _ _ _ hsw]
  refine wpAny_bind (wpAny_standAt (wpAny_bind ?_))
  show wpAny _ A (do let _ ← comprehension (.ListComp (.Name xa p1) [⟨.Tuple [.Name xa pa, .Name xb pb] kt tp, .Call (.Name "enumerate" pe) [.Name xt pt] [] pc, [.Compare (.Name xb p2) [.Eq] [.Constant (.str " ") kk p3] p4], 0⟩] sc pos) sc c.env _ (newList []) false (eval (.Call (.Name "enumerate" pe) [.Name xt pt] [] pc) c.env) (some (assign (.Name y py) c.env))) _ _ s
  refine wpAny_bind (wpAny_mono (wpAny_comprehension_use (Q := fun _ s' => ∃ g' l' H', FS G c g' s' l' H' ∧ Ql l' H') rfl (fun _ => rfl) (fun y hy => (hall y hy).1) hk hnames
    (cblank_core (RR := fun acc cenv r s' => match r with
      | .ok _ => wpAny (model G.prog G.w) A (assign (.Name y py) c.env acc) (fun _ s'' => ∃ m, s''.heap.Ns cenv.locals m ∧ ∀ h', Heap.SameBut cenv.locals s''.heap h' → ∃ g' l' H', FS G c g' { s'' with heap := h' } l' H' ∧ Ql l' H') E s'
      | .error x => ∃ m, s'.heap.Ns cenv.locals m ∧ ∀ h', Heap.SameBut cenv.locals s'.heap h' → wpAny (model G.prog G.w) A (passOn "comprehension.variables-let-go" x cenv) (fun _ s' => ∃ g' l' H', FS G c g' s' l' H' ∧ Ql l' H') E { s' with heap := h' }) at_ hk hall e0 hx0 hxa hda hxb hdb hab S (zA h fun v H₁ hv => ?_)))
    (fun _ s' ⟨g', l', H', S', q⟩ => wpAny_pure (wpAny_pure ⟨g', l', H', S', rfl, q⟩)) fun _ _ e => e)
  cases v with
  | str x t =>
    refine ⟨hv.1, fun D ys Cn oC m' g' s' hD hys hp hns hC S' => ?_⟩
    have key := (qM (G := G) (A := A) (c := c.pinned [(Cn, oC)]) (v := .ref D) (Q := fun l' H' => l' = l.set i (some (.ref D)) ∧ H' = H₁.setM D (.list ys)) (E := E) (p := py) (at_.ok.pinned _) hy ⟨rfl, rfl⟩).go g' s' S'
    refine wpAny_mono key (fun _ s₂ ⟨g₂, l₂, H₂, S₂, e1, e2⟩ => ?_) fun _ _ x => x
    subst e1
    subst e2
    have hC₂ : s₂.heap.get? Cn = some oC := by
      obtain ⟨news, N, ii⟩ := S₂.led
      exact (N _ (ii.pins (Cn, oC) (.head _)).1).1
    exact ⟨m', LCg.NsObj.ns hns hC₂, fun h' hs' => ⟨g₂, _, _, S₂.drop (wr := [Cn]) rfl (fun p hp' q => hp p hp' (List.mem_singleton.mp q)) (fun b o hb e => hs'.extBut b o (fun q => hb (by rw [q]; exact .head _)) e), hv.2 D ys hD hys⟩⟩
  | _ => exact hv.elim⟩
end
section
variable {G : Gl} {A : Around} {c : Fx} {n : Nat} {k : Fu} {l l' : List (Option Value)} {H H' : AH} {E : Value → Shared → Prop} {Q : Value → AH → Prop} {g : Heap} {s s' : Shared} {C : Addr} {X : AH → Prop}
theorem chkSc_ {sc : Scope} (h : chkSc sc = true) : sc.kind = .function ∧ (∀ y ∈ sc.names, y.2 ≠ .free ∧ y.2 ≠ .cell) ∧ (∀ y ∈ sc.names, y.2 = .local → sc.names.lookup y.1 = some .local) := by
  simp only [chkSc, Bool.and_eq_true, beq_iff_eq, List.all_eq_true, bne_iff_ne, ne_eq, Bool.or_eq_true] at h
  exact ⟨h.1.1, fun y hy => h.1.2 y hy, fun y hy e => (h.2 y hy).resolve_left fun q => q e⟩
theorem chkCN_ {sc : Scope} {x : Str} (h : fY sc x = true) : sc.names.lookup x = some .local ∧ (x == ("__debug__" : Str)) = false := by
  simp only [fY, Bool.and_eq_true, beq_iff_eq, bne_iff_ne, ne_eq] at h
  exact ⟨h.1, beq_eq_false_iff_ne.mpr h.2⟩
theorem chkCG_ {K : Frag} {sc : Scope} {x : Str} {v : Value} (h : chkCG K sc x v = true) : nsIn K mainGlobals x = some (some v) ∧ sc.names.lookup x = some .globalImplicit ∧ (x == ("__debug__" : Str)) = false := by
  simp only [chkCG, Bool.and_eq_true, beq_iff_eq, bne_iff_ne, ne_eq] at h
  exact ⟨h.1.1, h.1.2, beq_eq_false_iff_ne.mpr h.2⟩
theorem FS.src (S : FS G c g s l H) : s.heap.IsList G.srcA G.srcV.toArray := by
  obtain ⟨m, F, r⟩ := S.F
  obtain ⟨o, ho, q⟩ := S.XB.src
  exact ⟨o, F.keep _ _ (S.B.stays _ _ ho), q⟩
theorem e_slen (at_ : At c n A) {x y : Str} {p p' pos : Pos} {i : Nat} (hx : chkB G.K c.cs x (.builtin "len") = true) (hy : fP c.ns y i = true)
    (h : match l[i]? with | some (some (.ref a)) => a = G.srcA ∧ G.srcV.length < 2 ^ 62 ∧ ∀ t, Q (.int G.srcV.length t) H | _ => False) : jF G A c (eval (.Call (.Name x p) [.Name y p'] [] pos) c.env) l H Q (ExF c C X) := by
  obtain ⟨e1, e2, e3, e4, e5⟩ := chkB_ hx
  obtain ⟨h1, h2⟩ := chkI_ hy
  refine isLoc_ h fun a ha h => ?_
  obtain ⟨rfl, hlt, hq⟩ := h
  refine vZ (by rfl) (keep_bf (b := .len)) (fun q => xB at_.ok e1 e2 e3 e4 e5 q) ?_
  refine yZ at_.ok h1 h2 ha ?_
  exact jE fun g s S => by
    have hsz : G.srcV.toArray.size = G.srcV.length := List.size_toArray
    refine PyProof.Rows.len_list S.src (by rw [hsz]; lia) ?_
    rw [hsz]; exact ⟨g, H, S.toks _, hq _⟩
theorem e_sitem (ih : Ih G C n X c A l k) (at_ : At c n A) {y : Str} {p pos : Pos} {i : Nat} {sl : Expr} {r : RE} (hn : uT sl = true) (hy : fP c.ns y i = true) (hr : zE G.K c.cs c.ns k sl r = true)
    (h : match l[i]? with | some (some (.ref a)) => vcE G C n X l k r H fun u H => (match u with | .int j _ => a = G.srcA ∧ (0 ≤ j ∧ j < 2 ^ 62) ∧ (match G.srcV[j.toNat]? with | some v => Q v H | none => False) | _ => False) | _ => False) : jF G A c (eval (.Subscript (.Name y p) sl pos) c.env) l H Q (ExF c C X) := by
  obtain ⟨h1, h2⟩ := chkI_ hy
  refine isLoc_ h fun a ha h => ?_
  refine uF (yZ at_.ok h1 h2 ha (zA ((ih sl r hr).ev H _ h) fun u H₂ h₂ => ?_))
  refine zQ u h₂ fun j t h₂ => ?_
  obtain ⟨rfl, ⟨h0, h62⟩, h₂⟩ := h₂
  refine isSomeV_ h₂ fun v hv h₂ => jE fun g s S => ?_
  have h63 : j < 2 ^ 63 := by lia
  have hl := S.src
  with_reducible exact tail_any hl.typeIs slot_list_getitem.lookup (wpAny_getItem_list hl h0 h63 (by simpa using hv) ⟨g, H₂, S, h₂⟩) (yV hn)
theorem e_cmap (at_ : At c n A) {fx x z : Str} {p1 p2 p3 px pz pos : Pos} {sc : Scope} {f : Addr} {i : Nat} (hs : chkSc sc = true) (hf : chkCG G.K sc fx (.ref f) = true) (hk : keepIn G.K (.ref f) = true) (hx : fY sc x = true) (hz : fP c.ns z i = true)
    (h : match l[i]? with | some (some (.ref a)) => ∃ vs, H.M a = some (.list vs) ∧ vs.length ≤ 100000 ∧ ∀ D, H.free D → mapVC (fun v H Q => CallT G C n (.ref f) [v] H Q (fun _ => False)) a D vs vs [] (H.setM D (.list [])) Q | _ => False) :
    jF G A c (eval (.ListComp (.Call (.Name fx p1) [.Name x p2] [] p3) [⟨.Name x px, .Name z pz, [], 0⟩] sc pos) c.env) l H Q (ExF c C X) := by
  obtain ⟨s1, s2, s3⟩ := chkSc_ hs
  obtain ⟨f1, f2, f3⟩ := chkCG_ hf
  obtain ⟨x1, x2⟩ := chkCN_ hx
  obtain ⟨z1, z2⟩ := chkI_ hz
  exact isLoc_ h fun a ha h => triV_cmap at_ s1 s2 s3 f1 f2 f3 (fE hk) x1 x2 (yZ at_.ok z1 z2 ha h) (fun _ => rfl)
theorem SE.plain {e : Expr} {r : RE} (he : ∀ env whole, isTrue e env whole = (do let v ← whole; standAt e.pos; holding [v] (truthy v))) (ev : ∀ H Q, vcE G C n X l k r H Q → jF G A c (eval e c.env) l H Q (ExF c C X)) : SE G C n X c A l k e r :=
  ⟨ev, fun H Q hv => plainTrue he (ev _ _ hv)⟩
theorem e_loc (at_ : At c n A) {x : Str} {p : Pos} {i : Nat} (h1 : c.ns[i]? = some x) (h2 : (x == ("__debug__" : Str)) = false) (hv : vcE G C n X l (.s k) (.loc i) H Q) : jF G A c (eval (.Name x p) c.env) l H Q (ExF c C X) := by
  dsimp only [jB] at hv
  exact isVal_ hv fun v hl hv => yZ at_.ok h1 h2 hl hv
theorem qR (at_ : At c n A) : ∀ k, Ih G C n X c A l k
  | .z => fun e r h => (Bool.false_ne_true h).elim
  | .s k => fun e r h => by
    have ih : Ih G C n X c A l k := qR at_ k
    replace h : chkE1 G.K c.cs c.ns (zE G.K c.cs c.ns k) e r = true := h
    cases r with
    | cst _ =>
      refine nT e h fun c' _ _ h => ?_
      rw [beq_iff_eq] at h
      subst h
      exact SE.plain (fun _ _ => rfl) (fun H Q hv => triV_const hv)
    | loc _ =>
      refine zK e h fun x _ h => ?_
      obtain ⟨h1, h2⟩ := chkI_ h
      exact SE.plain (fun _ _ => rfl) (fun H Q hv => e_loc at_ h1 h2 hv)
    | glb _ =>
      refine zK e h fun x _ h => ?_
      obtain ⟨h1, h2, h3⟩ := chkN_ h
      exact SE.plain (fun _ _ => rfl) (fun H Q hv => vB at_.ok h1 h2 h3 hv)
    | attr _ _ _ =>
      refine fD e h fun o' f' _ h => ?_
      simp only [Bool.and_eq_true, beq_iff_eq] at h
      obtain ⟨⟨⟨rfl, h2⟩, h3⟩, h4⟩ := h
      exact SE.plain (fun _ _ => rfl) (fun H Q hv =>
        gF (xW h2) (zA ((ih _ _ h4).ev H _ hv) fun v H₁ h₁ => pX h3 h₁))
    | call _ _ =>
      refine xH e h fun g as' ks _ h => zK g h fun x _ h => qA ks h fun h => ?_
      simp only [Bool.and_eq_true] at h
      exact SE.plain (fun _ _ => rfl) (fun H Q hv => e_call ih at_ h.1.1 h.1.2 h.2 hv)
    | new _ _ _ =>
      refine xH e h fun g as' ks _ h => zK g h fun x _ h => qA ks h fun h => ?_
      simp only [Bool.and_eq_true, beq_iff_eq] at h
      exact SE.plain (fun _ _ => rfl) (fun H Q hv => e_new ih at_ h.1.1.1.1.1 h.1.1.1.1.2 h.1.1.1.2 h.1.1.2 h.1.2 h.2 hv)
    | bcall _ _ =>
      refine xH e h fun g as' ks _ h => zK g h fun x _ h => qA ks h fun h => ?_
      simp only [Bool.and_eq_true] at h
      exact SE.plain (fun _ _ => rfl) (fun H Q hv => e_bcall ih at_ h.1 h.2 hv)
    | meth _ _ _ _ _ =>
      refine xH e h fun g as' ks pos h => fD g h fun o' nm' ap h => qA ks h fun h => ?_
      simp only [Bool.and_eq_true, beq_iff_eq, decide_eq_true_eq] at h
      obtain ⟨⟨⟨⟨⟨⟨rfl, h2⟩, h3⟩, h4⟩, h5⟩, h6⟩, h7⟩ := h
      exact SE.plain (fun _ _ => rfl) (fun H Q hv => e_meth ih at_ h2 h3 (beq_iff_eq.mpr h4) h5 h6 h7 hv)
    | bmeth _ _ _ =>
      refine xH e h fun g as' ks pos h => fD g h fun o' nm' ap h => qA ks h fun h => ?_
      simp only [Bool.and_eq_true, beq_iff_eq, decide_eq_true_eq] at h
      obtain ⟨⟨⟨⟨⟨rfl, h2⟩, h3⟩, h4⟩, h6⟩, h7⟩ := h
      exact SE.plain (fun _ _ => rfl) (fun H Q hv => e_bmeth ih at_ h2 h3 (beq_iff_eq.mpr h4) h6 h7 hv)
    | bin _ _ _ =>
      refine onBin_ e h fun a' op' b' _ h => ?_
      simp only [Bool.and_eq_true, beq_iff_eq] at h
      obtain ⟨⟨rfl, h2⟩, h3⟩ := h
      exact SE.plain (fun _ _ => rfl) (fun H Q hv =>
        triV_BinOp (zA ((ih _ _ h2).ev H _ hv) fun v H₁ h₁ => zA ((ih _ _ h3).ev H₁ _ h₁) fun u H₂ h₂ => pY h₂))
    | neg _ =>
      refine onUn_ e h fun op a' _ h => ?_
      simp only [Bool.and_eq_true, beq_iff_eq] at h
      obtain ⟨rfl, h⟩ := h
      exact SE.plain (fun _ _ => rfl) (fun H Q hv => e_neg ih h hv)
    | not _ =>
      refine onUn_ e h fun op a' _ h => ?_
      simp only [Bool.and_eq_true, beq_iff_eq] at h
      obtain ⟨rfl, h⟩ := h
      exact ⟨fun H Q hv => e_not ih h hv, fun H Q hv => t_not ih h hv⟩
    | and _ _ =>
      refine onBool_ e h fun op es _ h => xG es h fun e es h => ?_
      simp only [Bool.and_eq_true, beq_iff_eq] at h
      obtain ⟨⟨rfl, h1⟩, h2⟩ := h
      exact ⟨fun H Q hv => aoE ih true h1 h2 hv, fun H Q hv => aoT ih true h1 h2 hv⟩
    | or _ _ =>
      refine onBool_ e h fun op es _ h => xG es h fun e es h => ?_
      simp only [Bool.and_eq_true, beq_iff_eq] at h
      obtain ⟨⟨rfl, h1⟩, h2⟩ := h
      exact ⟨fun H Q hv => aoE ih false h1 h2 hv, fun H Q hv => aoT ih false h1 h2 hv⟩
    | cmp _ _ _ =>
      refine onCmp_ e h fun a' ops bs _ h => kU ops h fun op' h => kU bs h fun b' h => ?_
      simp only [Bool.and_eq_true, beq_iff_eq, Bool.not_eq_true'] at h
      obtain ⟨⟨⟨rfl, h2⟩, h3⟩, h4⟩ := h
      exact ⟨fun H Q hv => e_cmp ih at_ h2 h3 h4 hv, fun H Q hv => t_cmp ih at_ h2 h3 h4 hv⟩
    | cmp2 _ _ _ _ _ =>
      refine onCmp_ e h fun a' ops bs _ h => onTwo_ ops h fun op' q' h => onTwo_ bs h fun b' d' h => ?_
      simp only [Bool.and_eq_true, beq_iff_eq, Bool.not_eq_true'] at h
      obtain ⟨⟨⟨⟨⟨rfl, rfl⟩, h2⟩, h3⟩, h4⟩, h5⟩ := h
      exact ⟨fun H Q hv => e_cmp2 ih at_ h2 h3 h4 h5 hv, fun H Q hv => t_cmp2 ih at_ h2 h3 h4 h5 hv⟩
    | ite _ _ _ =>
      refine onIf_ e h fun t' a' b' _ h => ?_
      simp only [Bool.and_eq_true] at h
      exact ⟨fun H Q hv => e_ite ih h.1.1 h.1.2 h.2 hv, fun H Q hv => t_ite ih h.1.1 h.1.2 h.2 hv⟩
    | slc _ _ _ =>
      refine onSub_ e h fun o' i _ h => onSlice_ i h fun lo' hi' st _ h => onNone_ st h fun h => ?_
      simp only [Bool.and_eq_true] at h
      exact SE.plain (fun _ _ => rfl) (fun H Q hv =>
        triV_slc (zA ((ih _ _ h.1.1).ev H _ hv) fun v H₁ h₁ => zA (partE ih h.1.2 h₁) fun x H₂ h₂ => zA (partE ih h.2 h₂) fun y H₃ h₃ => h₃))
    | sub _ _ =>
      refine onSub_ e h fun o' i _ h => ?_
      simp only [Bool.and_eq_true] at h
      exact SE.plain (fun _ _ => rfl) (fun H Q hv =>
        uF (zA ((ih _ _ h.1.2).ev H _ hv) fun v H₁ h₁ => zA ((ih _ _ h.2).ev H₁ _ h₁) fun u H₂ h₂ => triV_sub h.1.1 h₂))
    | tup _ =>
      refine onTup_ e h fun es _ _ h => ?_
      exact SE.plain (fun _ _ => rfl) (fun H Q hv =>
        triV_tuple (vD h) ((listE ih h hv).mono fun vs H h => kO h.1 h.2))
    | lst _ =>
      refine onLst_ e h fun es _ h => ?_
      exact SE.plain (fun _ _ => rfl) (fun H Q hv =>
        triV_list (vD h) ((listE ih h hv).mono fun vs H h => triV_newList h.1 h.2))
    | dsub _ _ _ =>
      refine onSub_ e h fun o' i _ h => onDict_ o' h fun es fs _ h => ?_
      simp only [Bool.and_eq_true, decide_eq_true_eq, Bool.not_eq_true', List.isEmpty_eq_false_iff] at h
      exact SE.plain (fun _ _ => rfl) (fun H Q hv => e_dsub ih h.1.1.1.1.1 h.1.1.1.1.2 h.1.1.1.2 h.1.1.2 h.1.2 h.2 hv)
    | dget _ _ _ =>
      refine xH e h fun g as kw pos h => fD g h fun o' nm ap h => onDict_ o' h fun es fs _ h => onTwo_ as h fun a b h => zK a h fun x _ h => zK b h fun y _ h => qA kw h fun h => ?_
      simp only [Bool.and_eq_true, decide_eq_true_eq, Bool.not_eq_true', List.isEmpty_eq_false_iff, beq_iff_eq] at h
      obtain ⟨⟨⟨⟨⟨⟨⟨rfl, h1⟩, h2⟩, h3⟩, h4⟩, h5⟩, h6⟩, h7⟩ := h
      exact SE.plain (fun _ _ => rfl) (fun H Q hv => e_dget at_ h1 h2 h3 h4 (beq_iff_eq.mpr h5) h6 h7 hv)
    | slen _ =>
      refine xH e h fun g as kw _ h => zK g h fun x _ h => kU as h fun a h => zK a h fun y _ h => qA kw h fun h => ?_
      simp only [Bool.and_eq_true] at h
      exact SE.plain (fun _ _ => rfl) (fun H Q hv => e_slen at_ h.1 h.2 hv)
    | sitem _ _ =>
      refine onSub_ e h fun o' i _ h => zK o' h fun y _ h => ?_
      simp only [Bool.and_eq_true] at h
      exact SE.plain (fun _ _ => rfl) (fun H Q hv => e_sitem ih at_ h.1.1 h.1.2 h.2 hv)
    | cmap _ _ =>
      refine onComp_ e h fun el gs sc _ h => xH el h fun g as kw _ h => zK g h fun fx _ h => kU as h fun a h => zK a h fun x _ h => qA kw h fun h => kU gs h fun q h => ?_
      obtain ⟨qt, qi, qf, qa⟩ := q
      refine zK qt h fun y _ h => zK qi h fun z _ h => qA qf h fun h => ?_
      simp only [Bool.and_eq_true, beq_iff_eq] at h
      obtain ⟨⟨⟨⟨⟨⟨rfl, rfl⟩, h2⟩, h3⟩, h4⟩, h5⟩, h6⟩ := h
      exact SE.plain (fun _ _ => rfl) (fun H Q hv => e_cmap at_ h2 h3 h4 h5 h6 hv)
end
noncomputable def qI : List Expr → List Str
  | .Name x _ :: r => x :: qI r
  | _ => []
noncomputable def wB (ln : Nat) : List Expr → Bool
  | .Name _ p :: r => p.line == ln && wB ln r
  | [] => true
  | _ => false
noncomputable def lineOf : List Expr → Nat
  | .Name _ p :: _ => p.line
  | _ => 0
noncomputable def chkSw (ns : List Str) (ts vs : List Expr) (is : List Nat) : Bool :=
  (ts.length == 2 || ts.length == 3) && vs.length == ts.length && vs.all noStar && wB (lineOf ts) ts && chkT ns ts is && ((qI ts).eraseDups.length == (qI ts).length) && !(vs.all (foldedForSure 8)) && !(vs.all (constantsAlone 8))
theorem names_of {ns : List Str} {ts : List Expr} {is : List Nat} (h : chkT ns ts is = true) : (qI ts).map some = is.map (ns[·]?) ∧ (qI ts).length = ts.length := by
  refine pU (m := fun ts is => (qI ts).map some = is.map (ns[·]?) ∧ (qI ts).length = ts.length) ⟨rfl, rfl⟩ (fun x p ts i is hx ih => ?_) h
  show some x :: (qI ts).map some = ns[i]? :: is.map (ns[·]?) ∧ (qI ts).length + 1 = ts.length + 1
  rw [ih.1, hx, ih.2]
  exact ⟨rfl, rfl⟩
section
variable {G : Gl} {A : Around} {c : Fx} {n : Nat} {k : Fu} {l l' : List (Option Value)} {H H' : AH} {E : Value → Shared → Prop} {Q : List (Option Value) → AH → Prop} {g : Heap} {s s' : Shared} {C : Addr} {X : AH → Prop} {α : Type}
theorem star_not (v : Expr) : (match v with | .Starred .. => true | _ => false) = !noStar v := by cases v <;> rfl
theorem stores_sw {ts vs : List Expr} {is : List Nat} {kk kv : Nat} {p pv : Pos} (ok : c.Ok) (h : chkSw c.ns ts vs is = true) : swappedStores [.Tuple ts kk p] (.Tuple vs kv pv) c.env = pure (some (qI ts)) := by
  simp only [chkSw, Bool.and_eq_true, Bool.not_eq_true', beq_iff_eq] at h
  obtain ⟨⟨⟨⟨⟨⟨⟨h1, h2⟩, h3⟩, h4⟩, h5⟩, h6⟩, h7⟩, h8⟩ := h
  have hbk : c.env.blockKind = .function := by
    show (if c.cs.kind.isAnnotationScope then ScopeKind.function else c.cs.kind) = _
    rw [ok.kind]; rfl
  have hstar : (vs.any fun | .Starred .. => true | _ => false) = false := by
    rw [List.any_eq_false]
    intro v hv
    rw [star_not v, List.all_eq_true.mp h3 v hv]
    exact Bool.false_ne_true
  have hline : ((ts.head?.map (·.pos.line)).getD 0) = lineOf ts := pU (m := fun ts _ => ((ts.head?.map (·.pos.line)).getD 0) = lineOf ts) rfl (fun _ _ _ _ _ _ _ => rfl) h5
  have hnames : ∀ (ts : List Expr) (is : List Nat), wB (lineOf ts) ts = wB (lineOf ts) ts → ∀ ln, wB ln ts = true → chkT c.ns ts is = true →
      (ts.filterMap fun | .Name id pos => if (c.env.kindOf id == some .local && pos.line == ln) = true then some id else none | _ => none) = qI ts := by
    intro ts is _ ln hl hc
    refine pU (m := fun ts _ => wB ln ts = true → (ts.filterMap fun | .Name id pos => if (c.env.kindOf id == some .local && pos.line == ln) = true then some id else none | _ => none) = qI ts) (fun _ => rfl) (fun x p ts i is hx ih hl => ?_) hc hl
    replace hl : (p.line == ln && wB ln ts) = true := hl
    simp only [Bool.and_eq_true, beq_iff_eq] at hl
    have hk : c.env.kindOf x = some .local := ok.loc x (List.mem_of_getElem? hx)
    simp only [List.filterMap_cons, hk, hl.1, BEq.rfl, Bool.and_self, if_true, ih hl.2]
    rfl
  have hn := hnames ts is rfl (lineOf ts) h4 h5
  have hl := (names_of h5).2
  have c1 : ¬ ((!(ts.length == 2 || ts.length == 3) || vs.length != ts.length || c.env.blockKind != .function) = true) := by
    rw [h1, h2, hbk]; simp
  have c2 : ¬ ((vs.any fun | .Starred .. => true | _ => false) = true) := by rw [hstar]; exact Bool.false_ne_true
  unfold swappedStores
  refine (if_neg c1).trans ?_
  refine (if_neg c2).trans ?_
  refine (if_neg ?_).trans ?_
  · show ¬ (((ts.filterMap fun | .Name id pos => if (c.env.kindOf id == some .local && pos.line == (ts.head?.map (·.pos.line)).getD 0) = true then some id else none | _ => none).length != ts.length ||
      (ts.filterMap fun | .Name id pos => if (c.env.kindOf id == some .local && pos.line == (ts.head?.map (·.pos.line)).getD 0) = true then some id else none | _ => none).eraseDups.length !=
      (ts.filterMap fun | .Name id pos => if (c.env.kindOf id == some .local && pos.line == (ts.head?.map (·.pos.line)).getD 0) = true then some id else none | _ => none).length) = true)
    rw [hline, hn, hl, h6, hl]; simp
  refine (if_neg (by rw [h7]; exact Bool.false_ne_true)).trans ?_
  refine (if_neg (by rw [h8]; exact Bool.false_ne_true)).trans ?_
  show (pure (some (ts.filterMap fun | .Name id pos => if (c.env.kindOf id == some .local && pos.line == (ts.head?.map (·.pos.line)).getD 0) = true then some id else none | _ => none)) : Sem _) = _
  rw [hline, hn]
theorem triS_binds (ok : c.Ok) : ∀ {xs : List Str} {is : List Nat} {vs : List Value} {l : List (Option Value)}, xs.map some = is.map (c.ns[·]?) → vs.length = is.length → Q (xQ l is vs) H →
    Tri G A c (assignInOrder (xs.map fun n => bindName c.env n) vs) l H (fun _ => Q) E
  | [], [], [], l, _, _, h => ⟨fun g s S => wpAny_assignInOrder_none ⟨g, l, H, S, h⟩⟩
  | [], [], _ :: _, _, _, hl, _ => by cases hl
  | [], _ :: _, _, _, hc, _, _ => by simp at hc
  | _ :: _, [], _, _, hc, _, _ => by simp at hc
  | x :: xs, i :: is, [], _, _, hl, _ => by cases hl
  | x :: xs, i :: is, v :: vs, l, hc, hl, h => by
    simp only [List.map_cons, List.cons.injEq] at hc
    exact ⟨fun g s S => wpAny_assignInOrder_more (uE (triS_bind (Q := fun l' H' => l' = l.set i (some v) ∧ H' = H) ok hc.1.symm ⟨rfl, rfl⟩) S fun _ g₁ s₁ l₁ H₁ S₁ ⟨e1, e2⟩ => by
      rw [e1, e2] at S₁
      exact (triS_binds ok hc.2 (by simpa using hl) h).go g₁ s₁ S₁)⟩
noncomputable abbrev kR (Q : Fl → List (Option Value) → AH → Prop) : Flow → List (Option Value) → AH → Prop := fun f l' H' => ∃ fl : Fl, f = fl.flow ∧ Q fl l' H'
variable {Qf : Fl → List (Option Value) → AH → Prop}
theorem s_asg (at_ : At c n A) {x : Str} {p pos : Pos} {v : Expr} {i : Nat} {r : RE} (hx : c.ns[i]? = some x) (hn : xR v = true) (hc : zE G.K c.cs c.ns k v r = true)
    (h : vcE G C n X l k r H fun v H => Qf .next (l.set i (some v)) H) : Tri G A c (exec (.Assign [.Name x p] v pos) c.env) l H (kR Qf) (ExF c C X) :=
  ⟨fun g s S => wpAny_Assign_Name (jA ((qR at_ k v r hc).ev H _ h) S fun v g₁ s₁ H₁ S₁ h₁ => uE (fZ at_.ok hx h₁) S₁ fun _ g₂ s₂ l₂ H₂ S₂ q => ⟨g₂, l₂, H₂, S₂, .next, rfl, q⟩) (xC hn)⟩
theorem s_asgA (at_ : At c n A) {f : Str} {p pos : Pos} {v o : Expr} {K : Addr} {r ro : RE} (hn : xR v = true) (hs : setOk G.K K f = true) (ho : zE G.K c.cs c.ns k o ro = true) (hc : zE G.K c.cs c.ns k v r = true)
    (h : vcE G C n X l k r H fun u H => vcE G C n X l k ro H fun v H => qT K v f u H (Qf .next l)) : Tri G A c (exec (.Assign [.Attribute o f p] v pos) c.env) l H (kR Qf) (ExF c C X) :=
  ⟨fun g s S => plainObj_wpAny_Assign_Attribute (jA ((qR at_ k v r hc).ev H _ h) S fun v g₁ s₁ H₁ S₁ h₁ => jA ((qR at_ k o ro ho).ev H₁ _ h₁) S₁ fun ov g₂ s₂ H₂ S₂ h₂ =>
    jA (nA (Q := fun _ => Qf .next l) hs h₂) S₂ fun _ g₃ s₃ H₃ S₃ q => ⟨g₃, l, H₃, S₃, .next, rfl, q⟩) (xC hn)⟩
theorem setL_eq : ∀ {vs : List Value} {j : Nat} {v : Value}, j < vs.length → ki_setL vs j v = some (vs.set j v)
  | [], _, _, h => by cases h
  | x :: r, 0, v, _ => rfl
  | x :: r, j + 1, v, h => by
    have := setL_eq (vs := r) (j := j) (v := v) (by simpa using h)
    simp [ki_setL, this]
theorem s_asgI (at_ : At c n A) {p pos : Pos} {v o i : Expr} {r ro ri : RE} (hn : xR v = true) (hc : zE G.K c.cs c.ns k v r = true) (ho : zE G.K c.cs c.ns k o ro = true) (hi : zE G.K c.cs c.ns k i ri = true)
    (h : vcE G C n X l k r H fun u H => vcE G C n X l k ro H fun v H => vcE G C n X l k ri H fun j H => (match v with
      | .ref a => (match j with
        | .int j _ => (match H.M a with
          | some (.list vs) => (0 ≤ j ∧ j < vs.length ∧ vs.length ≤ 1000) ∧ Qf .next l (H.setM a (.list (vs.set j.toNat u)))
          | _ => False)
        | _ => False)
      | _ => False)) : Tri G A c (exec (.Assign [.Subscript o i p] v pos) c.env) l H (kR Qf) (ExF c C X) :=
  ⟨fun g s S => wpAny_Assign_Subscript (jA ((qR at_ k v r hc).ev H _ h) S fun u g₁ s₁ H₁ S₁ h₁ => jA ((qR at_ k o ro ho).ev H₁ _ h₁) S₁ fun ov g₂ s₂ H₂ S₂ h₂ =>
    jA ((qR at_ k i ri hi).ev H₂ _ h₂) S₂ fun iv g₃ s₃ H₃ S₃ h₃ => by
      refine wD ov h₃ fun a h₃ => zQ iv h₃ fun j t h₃ => isLst_ h₃ fun vs hM h₃ => ?_
      obtain ⟨⟨h0, h1, h2⟩, q⟩ := h₃
      refine S₃.opn fun m news F rr N ii => ?_
      obtain ⟨od, rest, ⟨nn, rfl⟩, N₁, ne, put, i₁⟩ := in_split N ii hM
      refine ki_set F N₁ h0 (by lia) (q := vs.set j.toNat u) (setL_eq (vs := vs) (j := j.toNat) (v := u) (by lia)) (Upd.head ne) fun h' F' N' => ?_
      exact ⟨g₃, l, _, S₃.next F' rr N' (put (.list (vs.set j.toNat u)) _ ⟨nn, rfl⟩) ⟨rfl, rfl, rfl⟩, .next, rfl, q⟩) (xC hn)⟩
theorem s_aug (at_ : At c n A) {f : Str} {p pos : Pos} {v o : Expr} {K : Addr} {r ro : RE} (hg : getOk G.K K f = true) (hs : setOk G.K K f = true) (ho : zE G.K c.cs c.ns k o ro = true) (hc : zE G.K c.cs c.ns k v r = true)
    (h : vcE G C n X l k ro H fun v H => jY K v f H fun old H => vcE G C n X l k r H fun u H => (match old with
      | .int x _ => (match u with | .int y _ => ∀ t, qT K v f (.int (x + y) t) H (Qf .next l) | _ => False)
      | _ => False)) : Tri G A c (exec (.AugAssign (.Attribute o f p) .Add v pos) c.env) l H (kR Qf) (ExF c C X) :=
  ⟨fun g s S => wpAny_AugAssign_AttributeAny (jA ((qR at_ k o ro ho).ev H _ h) S fun ov g₁ s₁ H₁ S₁ h₁ => jA (pX hg h₁) S₁ fun old g₂ s₂ H₂ S₂ h₂ =>
    jA ((qR at_ k v r hc).ev H₂ _ h₂) S₂ fun u g₃ s₃ H₃ S₃ h₃ => by
      refine zQ old h₃ fun x t h₃ => zQ u h₃ fun y t' h₃ => iadd_int ?_
      exact jA (nA (Q := fun _ => Qf .next l) hs (h₃ _)) (S₃.toks _) fun _ g₄ s₄ H₄ S₄ q => ⟨g₄, l, H₄, S₄, .next, rfl, q⟩)⟩
theorem s_exp (at_ : At c n A) {pos : Pos} {v : Expr} {r : RE} (hn : xR v = true) (hc : zE G.K c.cs c.ns k v r = true) (h : vcE G C n X l k r H fun _ H => Qf .next l H) : Tri G A c (exec (.Expr v pos) c.env) l H (kR Qf) (ExF c C X) :=
  ⟨fun g s S => wpAny_Expr_any (jA ((qR at_ k v r hc).ev H _ h) S fun _ g₁ s₁ H₁ S₁ q => ⟨g₁, l, H₁, S₁, .next, rfl, q⟩) (by
    show (c.cs.kind == .module && _) = false
    rw [at_.ok.kind]; rfl) (xC hn)⟩
theorem s_ret (at_ : At c n A) {pos : Pos} {v : Expr} {r : RE} (hc : zE G.K c.cs c.ns k v r = true) (h : vcE G C n X l k r H fun v H => Qf (.ret v) l H) : Tri G A c (exec (.Return (some v) pos) c.env) l H (kR Qf) (ExF c C X) :=
  ⟨fun g s S => wpAny_Return_some (jA ((qR at_ k v r hc).ev H _ h) S fun v g₁ s₁ H₁ S₁ q => ⟨g₁, l, H₁, S₁, .ret v, rfl, q⟩)⟩
theorem s_ret0 {pos : Pos} (h : Qf (.ret .none) l H) : Tri G A c (exec (.Return none pos) c.env) l H (kR Qf) (ExF c C X) :=
  ⟨fun g s S => wpAny_Return_none ⟨g, l, H, S, .ret .none, rfl, h⟩⟩
theorem assign1 {t v : Expr} {pos : Pos} {R : Flow → Shared → Prop} {sw : Option (List Str)} (hn : xR v = true) (hs : swappedStores [t] v c.env = pure sw)
    (h : wpAny (model G.prog G.w) A (eval v c.env) (fun u s₁ => wpAny (model G.prog G.w) A (assignStores c.env u sw ((assignEach [t] c.env).map (·.2))) R E s₁) E s) : wpAny (model G.prog G.w) A (exec (.Assign [t] v pos) c.env) R E s := by
  rw [arm_exec_Assign]
  refine wpAny_bind (wpAny_standAt ?_)
  have e : swapsWithSole [t] v pos.line c.env = pure false := xC hn
  rw [e]
  refine wpAny_bind (wpAny_pure ?_)
  simp only [Bool.false_eq_true, if_false]
  refine wpAny_bind (wpAny_mono h (fun u s₁ h₁ => ?_) fun _ _ x => x)
  rw [hs]
  exact wpAny_bind (wpAny_pure h₁)
theorem s_asgT (at_ : At c n A) {ts : List Expr} {is : List Nat} {kk : Nat} {p pos : Pos} {v : Expr} {r : RE} (hn : xR v = true) (ht : noTup v = true) (hts : chkT c.ns ts is = true) (hc : zE G.K c.cs c.ns k v r = true)
    (h : vcE G C n X l k r H fun v H => wO is v l H (Qf .next)) : Tri G A c (exec (.Assign [.Tuple ts kk p] v pos) c.env) l H (kR Qf) (ExF c C X) :=
  ⟨fun g s S => assign1 hn (stores_no ht) (jA ((qR at_ k v r hc).ev H _ h) S fun u g₁ s₁ H₁ S₁ h₁ => by
    show wpAny _ _ (do assignAll u [assign (.Tuple ts kk p) c.env]; (pure Flow.next : Sem Flow)) _ _ _
    refine wpAny_bind ?_
    exact uE (pM at_.ok at_.room.hand hts h₁) S₁ fun _ g₂ s₂ l₂ H₂ S₂ q => wpAny_pure ⟨g₂, l₂, H₂, S₂, .next, rfl, q⟩)⟩
theorem s_asgS (at_ : At c n A) {ts vs : List Expr} {is : List Nat} {kk kv : Nat} {p pv pos : Pos} {r : RE} (ht : chkSw c.ns ts vs is = true) (hc : zE G.K c.cs c.ns k (.Tuple vs kv pv) r = true)
    (h : vcE G C n X l k r H fun v H => (match v with
      | .ref a => (match H.I a with | some vs => vs.length = is.length ∧ Qf .next (xQ l is.reverse vs.reverse) H | none => False)
      | _ => False)) : Tri G A c (exec (.Assign [.Tuple ts kk p] (.Tuple vs kv pv) pos) c.env) l H (kR Qf) (ExF c C X) :=
  ⟨fun g s S => assign1 rfl (stores_sw at_.ok ht) (jA ((qR at_ k _ r hc).ev H _ h) S fun u g₁ s₁ H₁ S₁ h₁ => by
    refine wD u h₁ fun a h₁ => rA h₁ fun us hI h₁ => ?_
    have hts : chkT c.ns ts is = true := by
      simp only [chkSw, Bool.and_eq_true] at ht
      exact ht.1.1.1.2
    obtain ⟨n1, n2⟩ := names_of hts
    have n3 : (qI ts).length = is.length := by simpa using congrArg List.length n1
    show wpAny _ _ (do rule "assign.swapped-stores"; let items ← unpackItems (.ref a) (qI ts).length none; assignInOrder ((qI ts).reverse.map fun n => bindName c.env n) items.reverse; (pure Flow.next : Sem Flow)) _ _ _
    refine S₁.opn fun m news F rr N ii => ?_
    refine wpAny_bind (wpAny_rule (wpAny_bind (unpackItemsN_ F N (S₁.isTup hI) at_.room.hand (by rw [n3, List.size_toArray, h₁.1]) fun h' F' N' => ?_)))
    refine wpAny_bind ?_
    refine uE (triS_binds (is := is.reverse) (vs := us.reverse) at_.ok (by rw [List.map_reverse, List.map_reverse, n1]) (by simp [h₁.1]) h₁.2) (S₁.next F' rr N' ii ⟨rfl, rfl, rfl⟩) fun _ g₂ s₂ l₂ H₂ S₂ q => wpAny_pure ⟨g₂, l₂, H₂, S₂, .next, rfl, q⟩)⟩
end
section
variable {G : Gl} {A : Around} {c : Fx} {n : Nat} {k : Fu} {l l' : List (Option Value)} {H H' : AH} {E : Value → Shared → Prop} {g : Heap} {s s' : Shared} {C : Addr} {X : AH → Prop} {α : Type} {Qf : Fl → List (Option Value) → AH → Prop}
theorem At.pinned (a : At c n A) (os : List (Addr × Obj)) : At (c.pinned os) n A := ⟨a.ok.pinned os, a.fr, a.room⟩
noncomputable def StOk (G : Gl) (A : Around) (n : Nat) (C : Addr) (cs : Scope) (ns : List Str) (st : Stmt) (B : (AH → Prop) → uP) : Prop :=
  ∀ (c : Fx) (X : AH → Prop), At c n A → c.cs = cs → c.ns = ns → ∀ l H Q, B X l H Q → Tri G A c (exec st c.env) l H (kR Q) (ExF c C X)
noncomputable def BdOk (G : Gl) (A : Around) (n : Nat) (C : Addr) (cs : Scope) (ns : List Str) (b : List Stmt) (B : (AH → Prop) → uP) : Prop :=
  ∀ (c : Fx) (X : AH → Prop), At c n A → c.cs = cs → c.ns = ns → ∀ l H Q, B X l H Q → Tri G A c (execs b c.env) l H (kR Q) (ExF c C X)
theorem BdOk.body {cs : Scope} {ns : List Str} {b : List Stmt} {B : (AH → Prop) → uP} (h : BdOk G A n C cs ns b B) (at_ : At c n A) (e1 : c.cs = cs) (e2 : c.ns = ns) : BodyOk G A c C X b (B X) :=
  fun os l H Q hq => h (c.pinned os) X (at_.pinned os) e1 e2 l H Q hq
noncomputable def pW (ck : Stmt → RS → Bool) : List Stmt → List RS → Bool
  | [], [] => true
  | s :: r, t :: q => ck s t && pW ck r q
  | _, _ => false
theorem chkBd1 {ck : Stmt → RS → Bool} {s : Stmt} {r : List Stmt} {t : RS} {q : List RS} : pW ck (s :: r) (t :: q) = (ck s t && pW ck r q) := rfl
theorem bdOk {cs : Scope} {ns : List Str} {ck : Stmt → RS → Bool} {vs : (AH → Prop) → RS → uP} (h : ∀ st rs, ck st rs = true → StOk G A n C cs ns st (fun X => vs X rs)) : ∀ {b : List Stmt} {r : List RS}, pW ck b r = true → BdOk G A n C cs ns b (fun X => vcB (vs X) r)
  | [], [], _ => fun c X at_ e1 e2 l H Q hq => ⟨fun g s S => wpAny_execs_nil ⟨g, l, H, S, .next, rfl, hq⟩⟩
  | [], _ :: _, hc => (Bool.false_ne_true hc).elim
  | _ :: _, [], hc => (Bool.false_ne_true hc).elim
  | st :: b, r :: rs, hc => by
    simp only [chkBd1, Bool.and_eq_true] at hc
    intro c X at_ e1 e2 l H Q hq
    refine ⟨fun g s S => wpAny_execs_cons (uE (h st r hc.1 c X at_ e1 e2 l H _ hq) S fun f g₁ s₁ l₁ H₁ S₁ ⟨fl, hf, q⟩ => ?_)⟩
    subst hf
    cases fl with
    | next => exact (bdOk h hc.2 c X at_ e1 e2 l₁ H₁ Q q).go g₁ s₁ S₁
    | ret v => exact ⟨g₁, l₁, H₁, S₁, .ret v, rfl, q⟩
variable {cs : Scope} {ns : List Str}
theorem s_if (at_ : At c n A) {t : Expr} {b o : List Stmt} {pos : Pos} {rt : RE} {Bb Bo : (AH → Prop) → uP} (e1 : c.cs = cs) (e2 : c.ns = ns) (ht : zE G.K c.cs c.ns k t rt = true) (hb : BdOk G A n C cs ns b Bb) (ho : BdOk G A n C cs ns o Bo)
    (h : vcE G C n X l k rt H fun v H => jW v H fun r H => (r = true → Bb X l H Qf) ∧ (r = false → Bo X l H Qf)) : Tri G A c (exec (.If t b o pos) c.env) l H (kR Qf) (ExF c C X) :=
  ⟨fun g s S => wpAny_If (jA ((qR at_ k t rt ht).tr H (fun _ r H => (r = true → Bb X l H Qf) ∧ (r = false → Bo X l H Qf)) h) S fun r g₁ s₁ H₁ S₁ ⟨_, _, h₁⟩ => by
    cases r with
    | true => exact (hb c X at_ e1 e2 l H₁ Qf (h₁.1 rfl)).go g₁ s₁ S₁
    | false => exact (ho c X at_ e1 e2 l H₁ Qf (h₁.2 rfl)).go g₁ s₁ S₁)⟩
theorem whileLoop (at_ : At c n A) {t : Expr} {b : List Stmt} {rt : RE} {Bb : (AH → Prop) → uP} (e1 : c.cs = cs) (e2 : c.ns = ns) (ht : zE G.K c.cs c.ns k t rt = true) (hb : BdOk G A n C cs ns b Bb) :
    ∀ (m : Nat) {l : List (Option Value)} {H : AH} {g : Heap} {s : Shared}, FS G c g s l H → kH (fun l H Q => vcE G C n X l k rt H fun v H => jW v H Q) (Bb X) m l H Qf →
      WhlRest G.prog G.w A (ExF c C X) c.env t b [] (fun f s' => ∃ g' l' H', FS G c g' s' l' H' ∧ kR Qf f l' H') m s
  | 0, _, _, _, _, _, h => h.elim
  | m + 1, l, H, g, s, S, h => by
    refine whl_turn (exF_passes at_.fr) (jA ((qR at_ k t rt ht).tr H (fun _ r H => (r = true → Bb X l H fun f l H => match f with
      | .next => kH (fun l H Q => vcE G C n X l k rt H fun v H => jW v H Q) (Bb X) m l H Qf
      | .ret v => Qf (.ret v) l H) ∧ (r = false → Qf .next l H)) h) S fun r g₁ s₁ H₁ S₁ ⟨_, _, h₁⟩ => ?_)
    cases r with
    | true =>
      refine WhlIf.yes rfl ?_
      refine uE (hb c X at_ e1 e2 l H₁ _ (h₁.1 rfl)) S₁ fun f g₂ s₂ l₂ H₂ S₂ ⟨fl, hf, q⟩ => ?_
      subst hf
      cases fl with
      | next => exact whileLoop at_ e1 e2 ht hb m S₂ q
      | ret v => exact ⟨g₂, l₂, H₂, S₂, .ret v, rfl, q⟩
    | false => exact WhlIf.no rfl (wpAny_execs_nil ⟨g₁, l, H₁, S₁, .next, rfl, h₁.2 rfl⟩)
theorem s_while (at_ : At c n A) {t : Expr} {b : List Stmt} {pos : Pos} {rt : RE} {Bb : (AH → Prop) → uP} (e1 : c.cs = cs) (e2 : c.ns = ns) (ht : zE G.K c.cs c.ns k t rt = true) (hb : BdOk G A n C cs ns b Bb)
    (h : ∃ m, kH (fun l H Q => vcE G C n X l k rt H fun v H => jW v H Q) (Bb X) m l H Qf) : Tri G A c (exec (.While t b [] pos) c.env) l H (kR Qf) (ExF c C X) := by
  obtain ⟨m, h⟩ := h
  exact ⟨fun g s S => whl_start m (whileLoop at_ e1 e2 ht hb m S h)⟩
noncomputable def noSet : Expr → Bool
  | .Set .. => false
  | _ => true
theorem folded_no {it : Expr} {env : Env} (h : noSet it = true) (x : Value) : foldedSetIterable it env x = pure x := by
  cases it <;> first | rfl | cases h
theorem uB {S : FS G c g s l H} {I : Addr} (h : s.heap.objs.size ≤ I) : ∀ p ∈ c.pin, p.1 ≠ I := fun p hp e => by
  obtain ⟨news, N, i⟩ := S.led
  exact absurd (Nat.lt_of_lt_of_le (e ▸ Heap.lt_size (N _ (i.pins p hp).1).1) h) (Nat.lt_irrefl _)
theorem s_forSeq (at_ : At c n A) {tg it : Expr} {b : List Stmt} {pos : Pos} {is : List Nat} {ri : RE} {Bb : (AH → Prop) → uP} (e1 : c.cs = cs) (e2 : c.ns = ns) (hs : noSet it = true) (ht : vF c.ns tg is = true) (hi : zE G.K c.cs c.ns k it ri = true) (hb : BdOk G A n C cs ns b Bb)
    (h : vcE G C n X l k ri H fun v H => ((∃ x t, v = .str x t) → ∃ j, is = [j]) ∧ seqVC v H fun its ok => yJ is (Bb X) ok its l H Qf) : Tri G A c (exec (.For tg it b [] pos) c.env) l H (kR Qf) (ExF c C X) := by
  have hh := at_.room.hand
  refine ⟨fun g s S => wpAny_For (jA ((qR at_ k it ri hi).ev H _ h) S fun v g₁ s₁ H₁ S₁ hq => ?_) (folded_no hs)⟩
  obtain ⟨hj, h₁⟩ := hq
  cases v with
  | str x t =>
    obtain ⟨⟨hx, ha⟩, h₁⟩ := h₁
    obtain ⟨j, rfl⟩ := hj ⟨x, t, rfl⟩
    refine wpAny_pyIter_ascii ha ?_
    refine codeAny_mono (forLoop at_.fr (way_str (I := s₁.heap.objs.size) at_.ok hh ht) (hb.body at_ e1 e2) (fun p hp => by simpa using uB (S := S₁) (Nat.le_refl _) p hp) (os := [(s₁.heap.objs.size, _)]) rfl
      (S₁.pin0 (tk := s₁.toks) (fun b o e => Heap.get?_push_of_some _ e) (fun p hp => by rw [List.mem_singleton.mp hp]; exact ⟨Heap.get?_push_size _ rfl, (fun e => absurd (Value.type.inj e) (by decide)), Nat.le_refl _⟩))
      ⟨_, Heap.get?_push_size _ rfl, rfl, rfl⟩ h₁) fun r s' hr => hr
  | ref ax =>
    simp only [seqVC] at h₁
    rcases h₁ with ⟨vs, hI, h₁⟩ | ⟨vs, hM, h₁⟩
    · have hT : s₁.heap.IsTuple ax vs.toArray := S₁.isTup hI
      have hlt : ax < s₁.heap.objs.size := by obtain ⟨o, ho, _⟩ := hT; exact Heap.lt_size ho
      refine wpAny_pyIter_tuple hT ?_
      refine codeAny_mono (forLoop at_.fr (way_tuple (I := s₁.heap.objs.size) (ax := ax) at_.ok hh (Nat.ne_of_lt hlt) ht) (hb.body at_ e1 e2) (fun p hp => by simpa using uB (S := S₁) (Nat.le_refl _) p hp) (os := [(s₁.heap.objs.size, _)]) rfl
        (S₁.pin0 (tk := s₁.toks) (fun b o e => Heap.get?_push_of_some _ e) (fun p hp => by rw [List.mem_singleton.mp hp]; exact ⟨Heap.get?_push_size _ rfl, (fun e => absurd (Value.type.inj e) (by decide)), Nat.le_refl _⟩))
        ⟨⟨_, Heap.get?_push_size _ rfl, rfl, rfl⟩, hT.at fun o e => Heap.get?_push_of_some _ e⟩ h₁) fun r s' hr => hr
    · have hL := S₁.isList hM
      have hlt : ax < s₁.heap.objs.size := by obtain ⟨o, ho, _⟩ := hL; exact Heap.lt_size ho
      refine wpAny_pyIter_list hL ?_
      refine codeAny_mono (forLoop at_.fr (way_list (I := s₁.heap.objs.size) (ax := ax) at_.ok hh (Nat.ne_of_lt hlt) ht) (hb.body at_ e1 e2) (fun p hp => by simpa using uB (S := S₁) (Nat.le_refl _) p hp) (os := [(s₁.heap.objs.size, _)]) rfl
        (S₁.pin0 (tk := s₁.toks) (fun b o e => Heap.get?_push_of_some _ e) (fun p hp => by rw [List.mem_singleton.mp hp]; exact ⟨Heap.get?_push_size _ rfl, (fun e => absurd (Value.type.inj e) (by decide)), Nat.le_refl _⟩))
        ⟨⟨_, Heap.get?_push_size _ rfl, rfl, rfl⟩, hL.at fun o e => Heap.get?_push_of_some _ e⟩ h₁) fun r s' hr => hr
  | _ => exact h₁.elim
theorem small_range {z : Int} (hz : -1000000 < z) (h : z < 1000000) : Builtin.Range.small 0 z 1 = true := by
  unfold Builtin.Range.small
  rw [rangeSize_nat]
  have f : ∀ x : Int, -2000000 ≤ x → x ≤ 2000000 → Builtin.Range.rangeFitsLong x = true := fun x h1 h2 => by
    unfold Builtin.Range.rangeFitsLong
    simp only [Bool.and_eq_true, decide_eq_true_eq]
    lia
  rw [f 0 (by lia) (by lia), f z (by lia) (by lia), f 1 (by lia) (by lia), f _ (by lia) (by lia)]
  simp only [Bool.true_and, Bool.or_eq_true]
  right
  rw [if_pos (by decide)]
  exact f _ (by lia) (by lia)
theorem next_call1 {x : Str} {p cp : Pos} {v : Expr} {f : Value} {Qv : Value → AH → Prop} {R : Value → Shared → Prop} (hv : noStar v = true) (hk : rH G f) (hf : ∀ {H : AH} {Q : Value → AH → Prop}, Q f H → jF G A c (eval (.Name x p) c.env) l H Q E)
    (h : jF G A c (eval v c.env) l H Qv E) (S : FS G c g s l H) (k : ∀ u g' s' H', FS G c g' s' l H' → Qv u H' → wpAny (model G.prog G.w) A (call f [u]) R E s') :
    wpAny (model G.prog G.w) A (eval (.Call (.Name x p) [v] [] cp) c.env) R E s := by
  refine wpAny_bind ?_
  refine jA (hf (Q := fun v H₁ => v = f ∧ H₁ = H) ⟨rfl, rfl⟩) S fun fv g₁ s₁ H₁ S₁ e => ?_
  obtain ⟨rfl, rfl⟩ := e
  have hn : [v].all noStar = true := by simp [hv]
  refine callWith_of (P := G.K.In) (by rw [nX _ c.env hn]; rfl) hk ?_
  have key := jA (R := fun vs s₁ => G.K.In s₁.heap ∧ wpAny (model G.prog G.w) A (call fv ([] ++ vs)) R E s₁) (xA (pos := cp) (Q := fun vs H => ∃ u, vs = [u] ∧ Qv u H) hn (zA h fun u H₂ q => ⟨u, rfl, q⟩)) S₁
    fun vs g₁ s₁ H₁ S₁ ⟨u, e, q⟩ => ⟨S₁.X.keeps (let ⟨_, F, _⟩ := S₁.F; F.keep), by rw [e]; exact k u g₁ s₁ H₁ S₁ q⟩
  rw [qQ hv] at key ⊢
  exact evalArgs_plain key
end
section
variable {G : Gl} {A : Around} {c : Fx} {n : Nat} {k : Fu} {l l' : List (Option Value)} {H H' : AH} {E : Value → Shared → Prop} {g : Heap} {s s' : Shared} {C : Addr} {X : AH → Prop} {α : Type} {Qf : Fl → List (Option Value) → AH → Prop} {cs : Scope} {ns : List Str}
theorem s_asgC (at_ : At c n A) {y xa xb xt : Str} {i j kt kk : Nat} {py pa pb tp pe pt pc p1 p2 p3 p4 pos spos : Pos} {sc : Scope} (hy : c.ns[i]? = some y) (hline : (py.line == pos.line) = true) (hno : (sc.names.any fun (n, k) => n == y && (k == .local || k == .cell)) = false) (hs : chkSc sc = true) (ha : fY sc xa = true) (hb : fY sc xb = true) (hab : ¬ xa = xb) (he : chkB G.K c.cs "enumerate" (.type "enumerate") = true) (ht : fP c.ns xt j = true)
    (h : match l[j]? with | some (some (.str x _)) => (x.length ≤ 100000 ∧ x.cps.all (· < 128) = true) ∧ ∀ D ys, H.free D → NatsV ys (blanks x x.cps.size) → Qf .next (l.set i (some (.ref D))) (H.setM D (.list ys)) | _ => False) :
    Tri G A c (exec (.Assign [.Name y py] (.ListComp (.Name xa p1) [⟨.Tuple [.Name xa pa, .Name xb pb] kt tp, .Call (.Name "enumerate" pe) [.Name xt pt] [] pc, [.Compare (.Name xb p2) [.Eq] [.Constant (.str " ") kk p3] p4], 0⟩] sc pos) spos) c.env) l H (kR Qf) (ExF c C X) := by
  obtain ⟨s1, s2, s3⟩ := chkSc_ hs
  obtain ⟨a1, a2⟩ := chkCN_ ha
  obtain ⟨b1, b2⟩ := chkCN_ hb
  obtain ⟨e1, e2, e3, e4, e5⟩ := chkB_ he
  obtain ⟨t1, t2⟩ := chkI_ ht
  exact isLocS_ h fun x t hx h => tri_mono (triS_cblank (Ql := Qf .next) at_ hy hline hno s1 s2 s3 e1 e4 a1 a2 b1 b2 hab (yZ at_.ok t1 t2 hx h)) fun f l' H' ⟨e, q⟩ => ⟨.next, e, q⟩
theorem s_asgC2 (at_ : At c n A) {y xa xa' xb xb' en xt : Str} {i j kt kk : Nat} {py pa pb tp pe pt pc p1 p2 p3 p4 pos spos : Pos} {sc : Scope} {op : CmpOp} {b : Const} {qa : Int}
    (h : (((((((((((((qa = 0 ∧ op = .Eq) ∧ b = .str " ") ∧ c.ns[i]? = some y) ∧ py.line = pos.line) ∧ (sc.names.any fun (n, k) => n == y && (k == .local || k == .cell)) = false) ∧ xa' = xa) ∧ xb' = xb) ∧ en = "enumerate") ∧ chkSc sc = true) ∧ fY sc xa = true) ∧ fY sc xb = true) ∧ ¬ xa = xb) ∧ chkB G.K c.cs "enumerate" (.type "enumerate") = true) ∧ fP c.ns xt j = true)
    (hv : match l[j]? with | some (some (.str x _)) => (x.length ≤ 100000 ∧ x.cps.all (· < 128) = true) ∧ ∀ D ys, H.free D → NatsV ys (blanks x x.cps.size) → Qf .next (l.set i (some (.ref D))) (H.setM D (.list ys)) | _ => False) :
    Tri G A c (exec (.Assign [.Name y py] (.ListComp (.Name xa p1) [⟨.Tuple [.Name xa' pa, .Name xb pb] kt tp, .Call (.Name en pe) [.Name xt pt] [] pc, [.Compare (.Name xb' p2) [op] [.Constant b kk p3] p4], qa⟩] sc pos) spos) c.env) l H (kR Qf) (ExF c C X) := by
  obtain ⟨⟨⟨⟨⟨⟨⟨⟨⟨⟨⟨⟨⟨⟨rfl, rfl⟩, rfl⟩, h1⟩, h2⟩, h3⟩, rfl⟩, rfl⟩, rfl⟩, h5⟩, h6⟩, h7⟩, h8⟩, h9⟩, h10⟩ := h
  exact s_asgC at_ h1 (beq_iff_eq.mpr h2) h3 h5 h6 h7 h8 h9 h10 hv
theorem s_forRange (at_ : At c n A) {tg v : Expr} {x : Str} {b : List Stmt} {p cp pos : Pos} {j : Nat} {ri : RE} {Bb : (AH → Prop) → uP} (e1 : c.cs = cs) (e2 : c.ns = ns) (hx : chkB G.K c.cs x (.type "range") = true) (hv : noStar v = true) (ht : vF c.ns tg [j] = true) (hi : zE G.K c.cs c.ns k v ri = true) (hb : BdOk G A n C cs ns b Bb)
    (h : vcE G C n X l k ri H fun v H => (match v with
      | .int z _ => (-1000000 < z ∧ z < 1000000) ∧ yJ [j] (Bb X) (fun _ => True) (pK z.toNat 0) l H Qf
      | _ => False)) : Tri G A c (exec (.For tg (.Call (.Name x p) [v] [] cp) b [] pos) c.env) l H (kR Qf) (ExF c C X) := by
  have hh := at_.room.hand
  obtain ⟨b1, b2, b3, b4, b5⟩ := chkB_ hx
  refine ⟨fun g s S => wpAny_For (next_call1 hv uA (fun q => xB at_.ok b1 b2 b3 b4 b5 q) ((qR at_ k v ri hi).ev H _ h) S fun u g₁ s₁ H₁ S₁ h₁ => ?_) (folded_no rfl)⟩
  refine zQ u h₁ fun z t h₁ => ?_
  obtain ⟨⟨hz0, hz⟩, h₁⟩ := h₁
  have hsm := small_range hz0 hz
  have hsz : Builtin.Range.rangeSize 0 z 1 = (z.toNat : Int) := by rw [rangeSize_nat, Int.sub_zero]
  refine call_range_1 ?_
  have fin : ∀ (s₂ : Shared), FS G c g₁ s₂ l H₁ → ∀ r t u v', IsRange s₂.heap r 0 z 1 t u v' →
      wpAny (model G.prog G.w) A (pyIter (.ref r)) (fun it s₂ => codeAny (model G.prog G.w) A (.forLoop tg it b [] c.env) (fun r s' => match r with
        | .ok f => ∃ g' l' H', FS G c g' s' l' H' ∧ kR Qf f l' H'
        | .error e => cameBackBy (model G.prog G.w) A c.env (ExF c C X) e s') s₂) (ExF c C X) s₂ := fun s₂ S₂ r t u v' hr => by
    refine wpAny_pyIter_range hr hsm ?_
    rw [hsz]
    exact forLoop at_.fr (way_range (I := s₂.heap.objs.size) (n := z.toNat) at_.ok hh ht) (hb.body at_ e1 e2) (fun p hp => by simpa using uB (S := S₂) (Nat.le_refl _) p hp) (os := [(s₂.heap.objs.size, _)]) rfl
      (S₂.pin0 (tk := s₂.toks) (fun b o e => Heap.get?_push_of_some _ e) (fun p hp => by rw [List.mem_singleton.mp hp]; exact ⟨Heap.get?_push_size _ rfl, (fun e => absurd (Value.type.inj e) (by decide)), Nat.le_refl _⟩))
      (by show IsRangeIter _ _ _ _ _; simpa using Heap.get?_push_size _ rfl) h₁
  exact fin _ ((S₁.pin0 (os := []) (tk := s₁.toks + 1 + 1) (fun b o e => Heap.get?_push_of_some _ e) (fun _ hp => nomatch hp)).unpin) _ _ _ _ (Heap.get?_push_size _ rfl)
theorem s_forEnum (at_ : At c n A) {tg v : Expr} {x : Str} {b : List Stmt} {p cp pos : Pos} {is : List Nat} {ri : RE} {Bb : (AH → Prop) → uP} (e1 : c.cs = cs) (e2 : c.ns = ns) (hx : chkB G.K c.cs x (.type "enumerate") = true) (hv : noStar v = true) (ht : vF c.ns tg is = true) (hm : ∀ j, is ≠ [j]) (hi : zE G.K c.cs c.ns k v ri = true) (hb : BdOk G A n C cs ns b Bb)
    (h : vcE G C n X l k ri H fun v H => (match v with
      | .ref a => (match H.I a with
        | some vs => vs.length ≤ 1000 ∧ yJ is (Bb X) (fun H => H.I a = some vs) (pO 0 vs) l H Qf
        | none => False)
      | _ => False)) : Tri G A c (exec (.For tg (.Call (.Name x p) [v] [] cp) b [] pos) c.env) l H (kR Qf) (ExF c C X) := by
  have hh := at_.room.hand
  obtain ⟨b1, b2, b3, b4, b5⟩ := chkB_ hx
  refine ⟨fun g s S => wpAny_For (next_call1 hv uA (fun q => xB at_.ok b1 b2 b3 b4 b5 q) ((qR at_ k v ri hi).ev H _ h) S fun u g₁ s₁ H₁ S₁ h₁ => ?_) (folded_no rfl)⟩
  refine wD u h₁ fun a h₁ => rA h₁ fun vs hI h₁ => ?_
  have ho := S₁.tup hI
  have hlt := Heap.lt_size ho
  refine callEnum ho fun h' hE hit hsz hk => ?_
  refine wpAny_pyIter_enum hE ?_
  obtain ⟨oe, o1, o2⟩ : ∃ oe : Obj, h'.get? (s₁.heap.objs.size + 1) = some oe ∧ oe.cls = .type "enumerate" := ⟨_, hE, rfl⟩
  obtain ⟨oi, i1, i2, i3⟩ := hit
  have n1 : s₁.heap.objs.size + 1 ≠ s₁.heap.objs.size := Nat.succ_ne_self _
  have n2 : s₁.heap.objs.size + 1 ≠ a := fun e => absurd (e ▸ hlt) (Nat.not_lt_of_lt (Nat.lt_succ_self _))
  refine codeAny_mono (forLoop at_.fr (way_enum (ax := a) (it := s₁.heap.objs.size) (e := s₁.heap.objs.size + 1) (vs := vs) at_.ok hh n1 n2 (Nat.ne_of_lt hlt) ht hm) (hb.body at_ e1 e2)
    (fun p hp => by
      have q1 := uB (S := S₁) (Nat.le_refl _) p hp
      have q2 := uB (S := S₁) (Nat.le_succ _) p hp
      simp only [List.mem_cons, List.not_mem_nil, or_false, not_or]
      exact ⟨q2, q1⟩) (os := [(s₁.heap.objs.size + 1, oe), (s₁.heap.objs.size, oi)]) rfl
    (S₁.pin0 (tk := s₁.toks) hk (fun p hp => ?_)) ⟨⟨_, hE⟩, ⟨oi, i1, i2, i3⟩, ⟨_, hk _ _ ho, rfl, 0, rfl⟩⟩ h₁.2) fun r s' hr => hr
  rcases List.mem_cons.mp hp with rfl | hp
  · exact ⟨o1, by rw [o2]; decide, Nat.le_succ _⟩
  · rw [List.mem_singleton.mp hp]
    exact ⟨i1, by rw [i2]; decide, Nat.le_refl _⟩
theorem exF_never {e : Value} (x : ExF c C (fun _ => False) e s) : False := by
  rcases x with x | x
  · obtain ⟨_, _, _, _, _, _, _, _, _, _, _, _, _, _, _, _, _, _, _, f⟩ := x
    exact f
  · obtain ⟨_, _, _, _, _, _, _, _, _, _, _, _, _, _, _, _, _, _, _, f⟩ := x
    exact f
theorem s_tryN (at_ : At c n A) {b : List Stmt} {h₀ : ExceptHandler} {hs : List ExceptHandler} {pos : Pos} {Bb : (AH → Prop) → uP} (e1 : c.cs = cs) (e2 : c.ns = ns) (hb : BdOk G A n C cs ns b Bb)
    (h : Bb (fun _ => False) l H Qf) : Tri G A c (exec (.Try b (h₀ :: hs) [] [] pos) c.env) l H (kR Qf) (ExF c C X) :=
  ⟨fun g s S => wpAny_Try_except (wpAny_mono ((hb c (fun _ => False) at_ e1 e2 l H Qf h).go g s S) (fun f s₁ ⟨g₁, l₁, H₁, S₁, fl, hf, q⟩ => by
    subst hf
    cases fl with
    | next => exact wpAny_execs_nil ⟨g₁, l₁, H₁, S₁, .next, rfl, q⟩
    | ret v => exact ⟨g₁, l₁, H₁, S₁, .ret v, rfl, q⟩) fun e s₁ x => (exF_never x).elim)⟩
noncomputable def onAsg (st : Stmt) (F : Expr → Expr → Pos → Bool) : Bool := match st with | .Assign ts v p => vO ts fun t => F t v p | _ => false
noncomputable def onAug (st : Stmt) (F : Expr → Operator → Expr → Bool) : Bool := match st with | .AugAssign t op v _ => F t op v | _ => false
noncomputable def onExp (st : Stmt) (F : Expr → Bool) : Bool := match st with | .Expr v _ => F v | _ => false
noncomputable def onIte (st : Stmt) (F : Expr → List Stmt → List Stmt → Bool) : Bool := match st with | .If t b o _ => F t b o | _ => false
noncomputable def onWhl (st : Stmt) (F : Expr → List Stmt → Bool) : Bool := match st with | .While t b o _ => kJ o (F t b) | _ => false
noncomputable def onFor (st : Stmt) (F : Expr → Expr → List Stmt → Bool) : Bool := match st with | .For t it b o _ => kJ o (F t it b) | _ => false
noncomputable def onRet (st : Stmt) (F : Expr → Bool) (d : Bool) : Bool := match st with | .Return v _ => (match v with | some v => F v | none => d) | _ => false
noncomputable def onTry (st : Stmt) (F : List Stmt → Bool) : Bool := match st with | .Try b hs o f _ => vH hs (fun _ _ => kJ o (kJ f (F b))) | _ => false
noncomputable def onRaise (st : Stmt) : Bool := match st with | .Raise .. => true | _ => false
@[elab_as_elim] theorem onAsg_ (st : Stmt) {F} {m : Stmt → Prop} (h : onAsg st F = true) (k : ∀ t v p, F t v p = true → m (.Assign [t] v p)) : m st := by cases st <;> first | exact kU _ (m := fun ts => m (.Assign ts _ _)) h fun t h => k _ _ _ h | exact (Bool.false_ne_true h).elim
@[elab_as_elim] theorem onAug_ (st : Stmt) {F} {m : Stmt → Prop} (h : onAug st F = true) (k : ∀ t op v p, F t op v = true → m (.AugAssign t op v p)) : m st := by cases st <;> first | exact k _ _ _ _ h | exact (Bool.false_ne_true h).elim
@[elab_as_elim] theorem onExp_ (st : Stmt) {F} {m : Stmt → Prop} (h : onExp st F = true) (k : ∀ v p, F v = true → m (.Expr v p)) : m st := by cases st <;> first | exact k _ _ h | exact (Bool.false_ne_true h).elim
@[elab_as_elim] theorem onIte_ (st : Stmt) {F} {m : Stmt → Prop} (h : onIte st F = true) (k : ∀ t b o p, F t b o = true → m (.If t b o p)) : m st := by cases st <;> first | exact k _ _ _ _ h | exact (Bool.false_ne_true h).elim
@[elab_as_elim] theorem onWhl_ (st : Stmt) {F} {m : Stmt → Prop} (h : onWhl st F = true) (k : ∀ t b p, F t b = true → m (.While t b [] p)) : m st := by cases st <;> first | exact qA _ (m := fun o => m (.While _ _ o _)) h fun h => k _ _ _ h | exact (Bool.false_ne_true h).elim
@[elab_as_elim] theorem onFor_ (st : Stmt) {F} {m : Stmt → Prop} (h : onFor st F = true) (k : ∀ t it b p, F t it b = true → m (.For t it b [] p)) : m st := by cases st <;> first | exact qA _ (m := fun o => m (.For _ _ _ o _)) h fun h => k _ _ _ _ h | exact (Bool.false_ne_true h).elim
@[elab_as_elim] theorem onRet_ (st : Stmt) {F d} {m : Stmt → Prop} (h : onRet st F d = true) (k : ∀ v p, F v = true → m (.Return (some v) p)) (k0 : ∀ p, d = true → m (.Return none p)) : m st := by
  cases st with
  | Return v p => cases v with
    | some v => exact k _ _ h
    | none => exact k0 _ h
  | _ => exact (Bool.false_ne_true h).elim
@[elab_as_elim] theorem onTry_ (st : Stmt) {F} {m : Stmt → Prop} (h : onTry st F = true) (k : ∀ b x hs p, F b = true → m (.Try b (x :: hs) [] [] p)) : m st := by cases st <;> first | exact xG _ (m := fun hs => m (.Try _ hs _ _ _)) h fun x hs h => qA _ (m := fun o => m (.Try _ _ o _ _)) h fun h => qA _ (m := fun f => m (.Try _ _ _ f _)) h fun h => k _ _ _ _ h | exact (Bool.false_ne_true h).elim
noncomputable def notZ (k : Fu) : Bool := match k with | .z => false | .s _ => true
noncomputable def chkS1 (K : Frag) (cs : Scope) (ns : List Str) (k : Fu) (cb : List Stmt → List RS → Bool) (st : Stmt) (r : RS) : Bool := match r with
  | .asg i e => onAsg st fun t v _ => zZ t fun x _ => ns[i]? == some x && xR v && zE K cs ns k v e
  | .asgA C o f e => onAsg st fun t v _ => mB t fun o' f' _ => f' == f && xR v && setOk K C f && zE K cs ns k o' o && zE K cs ns k v e
  | .asgI o i e => onAsg st fun t v _ => onSub t fun o' i' _ => xR v && zE K cs ns k v e && zE K cs ns k o' o && zE K cs ns k i' i
  | .asgT is e => onAsg st fun t v _ => onTup t fun ts _ _ => xR v && noTup v && chkT ns ts is && zE K cs ns k v e
  | .asgS is e => onAsg st fun t v _ => onTup t fun ts _ _ => onTup v fun vs kv pv => chkSw ns ts vs is && zE K cs ns k (.Tuple vs kv pv) e
  | .aug C o f e => onAug st fun t op v => mB t fun o' f' _ => op == .Add && f' == f && getOk K C f && setOk K C f && zE K cs ns k o' o && zE K cs ns k v e
  | .exp e => onExp st fun v => xR v && zE K cs ns k v e
  | .ite t b o => onIte st fun t' b' o' => zE K cs ns k t' t && cb b' b && cb o' o
  | .whl t b => onWhl st fun t' b' => zE K cs ns k t' t && cb b' b
  | .for_ is src b => onFor st fun tg it b' => (match src with
    | .range e => vO is fun j => vI it fun g as kw _ => zZ g fun x _ => vO as fun v => kJ kw (chkB K cs x (.type "range") && noStar v && vF ns tg [j] && zE K cs ns k v e && cb b' b)
    | .seq e => noSet it && vF ns tg is && zE K cs ns k it e && cb b' b
    | .enum e => vH is fun i is => vH is fun j is => vI it fun g as kw _ => zZ g fun x _ => vO as fun v => kJ kw (chkB K cs x (.type "enumerate") && noStar v && vF ns tg (i :: j :: is) && zE K cs ns k v e && cb b' b))
  | .ret e => onRet st (fun v => zE K cs ns k v e) (isNoneC e && notZ k)
  | .tryN b => onTry st fun b' => cb b' b
  | .raise => onRaise st
  | .asgC i j => onAsg st fun t v _ => zZ t fun y py => onComp v fun el gs sc pos => zZ el fun xa _ => vO gs fun q =>
      onTup q.target fun ts _ _ => onTwo ts fun ta tb => zZ ta fun xa' _ => zZ tb fun xb _ => vI q.iter fun g as kw _ => zZ g fun en _ => vO as fun a => zZ a fun xt _ => kJ kw (
      vO q.ifs fun t => onCmp t fun tl ops bs _ => zZ tl fun xb' _ => vO ops fun op => vO bs fun cb => nU cb fun b _ _ =>
        q.is_async == 0 && op == .Eq && b == .str " " && ns[i]? == some y && py.line == pos.line && !(sc.names.any fun (n, k) => n == y && (k == .local || k == .cell)) && xa' == xa && xb' == xb && en == "enumerate" && chkSc sc && fY sc xa && fY sc xb && xa != xb && chkB K cs "enumerate" (.type "enumerate") && fP ns xt j)
noncomputable def chkS (K : Frag) (cs : Scope) (ns : List Str) : Fu → Stmt → RS → Bool
  | .z => fun _ _ => false
  | .s k => chkS1 K cs ns k (pW (chkS K cs ns k))
theorem soundS : ∀ (k : Fu) (st : Stmt) (r : RS), chkS G.K cs ns k st r = true → StOk G A n C cs ns st (fun X => vcS G C n X k r)
  | .z => fun st r h => (Bool.false_ne_true h).elim
  | .s k => fun st r h => by
    have ih : ∀ st r, chkS G.K cs ns k st r = true → StOk G A n C cs ns st (fun X => vcS G C n X k r) := soundS k
    have ihb : ∀ {b : List Stmt} {r : List RS}, pW (chkS G.K cs ns k) b r = true → BdOk G A n C cs ns b (fun X => vcB (vcS G C n X k) r) := fun hc => bdOk (vs := fun X => vcS G C n X k) ih hc
    intro c X at_ e1 e2 l H Q hv
    have E1 := e1
    have E2 := e2
    subst e1
    subst e2
    replace h : chkS1 G.K c.cs c.ns k (pW (chkS G.K c.cs c.ns k)) st r = true := h
    cases r with
    | asg _ _ =>
      refine onAsg_ st h fun t v p h => zK t h fun x _ h => ?_
      simp only [Bool.and_eq_true, beq_iff_eq] at h
      exact s_asg at_ h.1.1 h.1.2 h.2 hv
    | asgA _ _ _ _ =>
      refine onAsg_ st h fun t v p h => fD t h fun o' f' _ h => ?_
      simp only [Bool.and_eq_true, beq_iff_eq] at h
      obtain ⟨⟨⟨⟨rfl, h1⟩, h2⟩, h3⟩, h4⟩ := h
      exact s_asgA at_ h1 h2 h3 h4 hv
    | asgI _ _ _ =>
      refine onAsg_ st h fun t v p h => onSub_ t h fun o' i' _ h => ?_
      simp only [Bool.and_eq_true] at h
      exact s_asgI at_ h.1.1.1 h.1.1.2 h.1.2 h.2 hv
    | asgT _ _ =>
      refine onAsg_ st h fun t v p h => onTup_ t h fun ts _ _ h => ?_
      simp only [Bool.and_eq_true] at h
      exact s_asgT at_ h.1.1.1 h.1.1.2 h.1.2 h.2 hv
    | asgS _ _ =>
      refine onAsg_ st h fun t v p h => onTup_ t h fun ts _ _ h => onTup_ v h fun vs kv pv h => ?_
      simp only [Bool.and_eq_true] at h
      exact s_asgS at_ h.1 h.2 hv
    | aug _ _ _ _ =>
      refine onAug_ st h fun t op v _ h => fD t h fun o' f' _ h => ?_
      simp only [Bool.and_eq_true, beq_iff_eq] at h
      obtain ⟨⟨⟨⟨⟨rfl, rfl⟩, h1⟩, h2⟩, h3⟩, h4⟩ := h
      exact s_aug at_ h1 h2 h3 h4 hv
    | exp _ =>
      refine onExp_ st h fun v p h => ?_
      simp only [Bool.and_eq_true] at h
      exact s_exp at_ h.1 h.2 hv
    | ite _ _ _ =>
      refine onIte_ st h fun t b o p h => ?_
      simp only [Bool.and_eq_true] at h
      exact s_if at_ rfl rfl h.1.1 (ihb h.1.2) (ihb h.2) hv
    | whl _ _ =>
      refine onWhl_ st h fun t b p h => ?_
      simp only [Bool.and_eq_true] at h
      exact s_while at_ rfl rfl h.1 (ihb h.2) hv
    | for_ is src _ =>
      refine onFor_ st h fun tg it b p h => ?_
      cases src with
      | range _ =>
        refine kU is (m := fun is => vcS G C n X (.s k) (.for_ is _ _) l H Q → _) h (fun j h hv => ?_) hv
        refine xH it h fun g as kw _ h => zK g h fun x _ h => kU as h fun v h => qA kw h fun h => ?_
        simp only [Bool.and_eq_true] at h
        exact s_forRange at_ rfl rfl h.1.1.1.1 h.1.1.1.2 h.1.1.2 h.1.2 (ihb h.2) hv
      | seq _ =>
        simp only [Bool.and_eq_true] at h
        exact s_forSeq at_ rfl rfl h.1.1.1 h.1.1.2 h.1.2 (ihb h.2) hv
      | enum _ =>
        refine xG is (m := fun is => vcS G C n X (.s k) (.for_ is _ _) l H Q → _) h (fun i is h => xG is (m := fun js => vcS G C n X (.s k) (.for_ (i :: js) _ _) l H Q → _) h fun j is h hv => ?_) hv
        refine xH it h fun g as kw _ h => zK g h fun x _ h => kU as h fun v h => qA kw h fun h => ?_
        simp only [Bool.and_eq_true] at h
        exact s_forEnum at_ rfl rfl h.1.1.1.1 h.1.1.1.2 h.1.1.2 (fun j e => by cases e) h.1.2 (ihb h.2) hv
    | ret e =>
      refine onRet_ st h (fun v p h => s_ret at_ h hv) fun p h => ?_
      simp only [Bool.and_eq_true] at h
      refine isNoneC_ e (m := fun e => vcS G C n X (.s k) (.ret e) l H Q → _) h.1 (fun hv => ?_) hv
      cases k with
      | z => exact (Bool.false_ne_true h.2).elim
      | s k => exact s_ret0 hv
    | tryN _ => exact onTry_ st h fun b x hs p h => s_tryN at_ rfl rfl (ihb h) hv
    | raise => exact hv.elim
    | asgC _ _ =>
      refine onAsg_ st h fun t v _ h => zK t h fun y py h => onComp_ v h fun el gs sc pos h => zK el h fun xa _ h => kU gs h fun q h => ?_
      obtain ⟨qt, qi, qf, qa⟩ := q
      refine onTup_ qt h fun ts _ _ h => onTwo_ ts h fun ta tb h => zK ta h fun xa' _ h => zK tb h fun xb _ h => xH qi h fun g as kw _ h => zK g h fun en _ h => kU as h fun a h => zK a h fun xt _ h => qA kw h fun h => ?_
      refine kU qf h fun t h => onCmp_ t h fun tl ops bs _ h => zK tl h fun xb' _ h => kU ops h fun op h => kU bs h fun cb h => nT cb h fun b _ _ h => ?_
      simp only [Bool.and_eq_true, beq_iff_eq, bne_iff_ne, ne_eq, Bool.not_eq_true'] at h
      exact s_asgC2 at_ h hv
theorem soundB {k : Fu} {b : List Stmt} {r : List RS} (h : pW (chkS G.K cs ns k) b r = true) : BdOk G A n C cs ns b (fun X => vcB (vcS G C n X k) r) := bdOk (vs := fun X => vcS G C n X k) (soundS k) h
end
noncomputable def Fl.val : Fl → Value
  | .next => .none
  | .ret v => v
inductive FnIs (G : Gl) (f : Addr) (xs rest : List Str) (k : Fu) (rb : List RS) : Prop
  | mk (name qual : Str) (params : Arguments) (body : List Stmt) (scope : Scope) (dV kV doc pm cdv ct oc : Value) (an od : Option Addr) (osl : Array (Option Value))
    (h1 : G.K.lookup f = some ⟨oc, od, .func (fnOf name qual params body scope dV kV doc pm an cdv ct), osl⟩) (h2 : codeIn G.K cdv qual = true)
    (h3 : ∀ (s : Shared) vs, G.K.In s.heap → vs.length = xs.length → BindsTo s (fnOf name qual params body scope dV kV doc pm an cdv ct) ⟨vs, []⟩ (xs.zip vs))
    (h4 : (xs ++ rest).Nodup ∧ (∀ y ∈ xs ++ rest, scope.names.lookup y = some .local) ∧ scope.isCoroutine = false ∧ scope.isGenerator = false ∧ scope.kind = .function ∧ (∀ x ∈ scope.names, x.2 ≠ .cell))
    (h5 : pW (chkS G.K scope (xs ++ rest) k) body rb = true) : FnIs G f xs rest k rb
theorem FnIs.of {G : Gl} {f : Addr} {xs rest : List Str} {k : Fu} {rb : List RS} {name qual : Str} {params : Arguments} {body : List Stmt} {scope : Scope} {dV kV doc pm cdv ct oc : Value} {an od : Option Addr} {osl : Array (Option Value)} {K : Frag} (hK : G.K = K)
    (h1 : K.lookup f = some ⟨oc, od, .func (fnOf name qual params body scope dV kV doc pm an cdv ct), osl⟩) (h2 : codeIn K cdv qual = true)
    (h3 : ∀ (s : Shared) vs, K.In s.heap → vs.length = xs.length → BindsTo s (fnOf name qual params body scope dV kV doc pm an cdv ct) ⟨vs, []⟩ (xs.zip vs))
    (h4 : (xs ++ rest).Nodup ∧ (∀ y ∈ xs ++ rest, scope.names.lookup y = some .local) ∧ scope.isCoroutine = false ∧ scope.isGenerator = false ∧ scope.kind = .function ∧ (∀ x ∈ scope.names, x.2 ≠ .cell))
    (h5 : pW (chkS K scope (xs ++ rest) k) body rb = true) : FnIs G f xs rest k rb := by
  subst hK
  exact ⟨_, _, _, _, _, _, _, _, _, _, _, _, _, _, _, h1, h2, h3, h4, h5⟩
section
variable {G : Gl} {H : AH} {Q : Value → AH → Prop} {C : Addr} {X : AH → Prop}
theorem jL {n : Nat} {f : Addr} {xs rest : List Str} {k : Fu} {rb : List RS} {vs : List Value} (F : FnIs G f xs rest k rb) (hl : vs.length = xs.length)
    (h : vcB (vcS G C n X k) rb (vs.map some ++ rest.map (fun _ => none)) H (fun fl _ H' => Q fl.val H')) : CallT G C (n + 1) (.ref f) vs H Q X := by
  obtain ⟨name, qual, params, body, scope, dV, kV, doc, pm, cdv, ct, oc, an, od, osl, h1, h2, h3, ⟨h4, h5, h6, h7, h8, h9⟩, h10⟩ := F
  refine callT_of xs rest h1 h2 (fun s X => h3 s vs X hl) hl h4 h5 h6 h7 h8 h9 fun c₁ ok e1 e2 e3 hA room => ?_
  have key := soundB (A := c₁.A) (n := n) (C := C) h10 c₁ X ⟨ok, hA, room⟩ e2 e3 _ _ _ h
  exact tri_mono key fun f l' H' ⟨fl, hf, q⟩ => by
    subst hf
    cases fl <;> exact q
theorem CallT.mono {n n' : Nat} {f : Value} {vs : List Value} {Q' : Value → AH → Prop} (h : CallT G C n f vs H Q X) (hn : n ≤ n') (k : ∀ v H', Q v H' → Q' v H') : CallT G C n' f vs H Q' X :=
  ⟨fun c A ok hA room g s l S => codeAny_mono (h.go c A ok hA (room.le hn) g s l S) fun r s' x => by
    cases r with
    | error e => exact x
    | ok f => cases f with
      | ret v =>
        obtain ⟨g', H', S', q⟩ := x
        exact ⟨g', H', S', k v H' q⟩
      | _ => exact x.elim⟩
theorem len0 {α : Type} {l : List α} (h : l.length = 0) : l = [] := List.eq_nil_of_length_eq_zero h
theorem len1 {α : Type} {l : List α} (h : l.length = 1) : ∃ a, l = [a] := by
  cases l with
  | nil => cases h
  | cons a r =>
    have hr : r = [] := len0 (by simpa using h)
    exact ⟨a, by rw [hr]⟩
theorem len2 {α : Type} {l : List α} (h : l.length = 2) : ∃ a b, l = [a, b] := by
  cases l with
  | nil => cases h
  | cons a r =>
    obtain ⟨b, hb⟩ := len1 (l := r) (by simpa using h)
    exact ⟨a, b, by rw [hb]⟩
theorem FnIs.of1 {G : Gl} {f : Addr} {x : Str} {rest : List Str} {k : Fu} {rb : List RS} {name qual : Str} {params : Arguments} {body : List Stmt} {scope : Scope} {dV kV doc pm cdv ct oc : Value} {an od : Option Addr} {osl : Array (Option Value)} {K : Frag} (hK : G.K = K)
    (h1 : K.lookup f = some ⟨oc, od, .func (fnOf name qual params body scope dV kV doc pm an cdv ct), osl⟩) (h2 : codeIn K cdv qual = true)
    (h3 : ∀ (s : Shared) a, K.In s.heap → BindsTo s (fnOf name qual params body scope dV kV doc pm an cdv ct) ⟨[a], []⟩ ([x].zip [a]))
    (h4 : ([x] ++ rest).Nodup ∧ (∀ y ∈ [x] ++ rest, scope.names.lookup y = some .local) ∧ scope.isCoroutine = false ∧ scope.isGenerator = false ∧ scope.kind = .function ∧ (∀ x ∈ scope.names, x.2 ≠ .cell))
    (h5 : pW (chkS K scope ([x] ++ rest) k) body rb = true) : FnIs G f [x] rest k rb :=
  FnIs.of hK h1 h2 (fun s vs X hl => by obtain ⟨a, rfl⟩ := len1 hl; exact h3 s a X) h4 h5
theorem FnIs.of2 {G : Gl} {f : Addr} {x y : Str} {rest : List Str} {k : Fu} {rb : List RS} {name qual : Str} {params : Arguments} {body : List Stmt} {scope : Scope} {dV kV doc pm cdv ct oc : Value} {an od : Option Addr} {osl : Array (Option Value)} {K : Frag} (hK : G.K = K)
    (h1 : K.lookup f = some ⟨oc, od, .func (fnOf name qual params body scope dV kV doc pm an cdv ct), osl⟩) (h2 : codeIn K cdv qual = true)
    (h3 : ∀ (s : Shared) a b, K.In s.heap → BindsTo s (fnOf name qual params body scope dV kV doc pm an cdv ct) ⟨[a, b], []⟩ ([x, y].zip [a, b]))
    (h4 : ([x, y] ++ rest).Nodup ∧ (∀ z ∈ [x, y] ++ rest, scope.names.lookup z = some .local) ∧ scope.isCoroutine = false ∧ scope.isGenerator = false ∧ scope.kind = .function ∧ (∀ x ∈ scope.names, x.2 ≠ .cell))
    (h5 : pW (chkS K scope ([x, y] ++ rest) k) body rb = true) : FnIs G f [x, y] rest k rb :=
  FnIs.of hK h1 h2 (fun s vs X hl => by obtain ⟨a, b, rfl⟩ := len2 hl; exact h3 s a b X) h4 h5
theorem len3 {α : Type} {l : List α} (h : l.length = 3) : ∃ a b c, l = [a, b, c] := by
  cases l with
  | nil => cases h
  | cons a r =>
    obtain ⟨b, c, hb⟩ := len2 (l := r) (by simpa using h)
    exact ⟨a, b, c, by rw [hb]⟩
end
noncomputable def fu : Fu := .s (.s (.s (.s (.s (.s (.s (.s (.s (.s (.s (.s (.s (.s (.s (.s .z)))))))))))))))
noncomputable def yT : RE := (.cmp .Gt (.loc 3) (.cst (.int 0)))
noncomputable def xJ : List RS := [
 .asgS [2, 3] (.tup [(.loc 3), (.bin .Mod (.loc 2) (.loc 3))])]
noncomputable def yK : List RS := [
 .asgS [2, 3] (.tup [(.bcall .abs [(.loc 0)]), (.loc 1)]),
 .whl yT xJ,
 .ret (.loc 2)]
noncomputable def uM : List RS := [
 .ite (.cmp .Eq (.loc 1) (.cst (.int 0))) [
   .raise] [],
 .ite (.cmp .Lt (.loc 1) (.cst (.int 0))) [
   .asgS [0, 1] (.tup [(.neg (.loc 0)), (.neg (.loc 1))])] [],
 .asg 2 (.call 72 [(.loc 0), (.loc 1)]),
 .ret (.tup [(.bin .FloorDiv (.loc 0) (.loc 2)), (.bin .FloorDiv (.loc 1) (.loc 2))])]
noncomputable def yY : List RS := [
 .asgA 118 (.loc 0) "text" (.loc 1),
 .asgA 118 (.loc 0) "at" (.cst (.int 0))]
noncomputable def jK : List RS := [
 .ret (.and (.cmp .Lt (.attr 118 (.loc 0) "at") (.bcall .len [(.attr 118 (.loc 0) "text")])) [(.cmp .In (.sub (.attr 118 (.loc 0) "text") (.attr 118 (.loc 0) "at")) (.loc 1))])]
noncomputable def zM : List RS := [
 .ite (.not (.meth 118 101 (.loc 0) "is_one_of" [(.loc 1)])) [
   .ret (.cst (.str ""))] [],
 .aug 118 (.loc 0) "at" (.cst (.int 1)),
 .ret (.sub (.attr 118 (.loc 0) "text") (.bin .Sub (.attr 118 (.loc 0) "at") (.cst (.int 1))))]
noncomputable def yU : RE := (.meth 118 101 (.loc 0) "is_one_of" [(.glb (.str "0123456789" 263))])
noncomputable def yW : List RS := [
 .aug 118 (.loc 0) "at" (.cst (.int 1))]
noncomputable def zW : List RS := [
 .asg 1 (.attr 118 (.loc 0) "at"),
 .whl yU yW,
 .ret (.slc (.attr 118 (.loc 0) "text") (.loc 1) (.attr 118 (.loc 0) "at"))]
noncomputable def gN : List RS := [
 .asg 1 (.bin .Add (.bin .Mult (.loc 1) (.cst (.int 10))) (.bmeth .index (.glb (.str "0123456789" 263)) [(.loc 2)]))]
noncomputable def uL : List RS := [
 .asg 1 (.cst (.int 0)),
 .for_ [2] (.seq (.loc 0)) gN,
 .ret (.loc 1)]
noncomputable def qP : List RS := [
 .ite (.cmp .Eq (.meth 118 108 (.loc 0) "skip" [(.cst (.str "eE"))]) (.cst (.str ""))) [
   .ret (.cst (.int 0))] [],
 .asgS [1, 2] (.tup [(.meth 118 108 (.loc 0) "skip" [(.cst (.str "+-"))]), (.meth 118 115 (.loc 0) "digits" [])]),
 .ite (.or (.cmp .Eq (.loc 2) (.cst (.str ""))) [(.cmp .Gt (.bcall .len [(.loc 2)]) (.cst (.int 9))), (.cmp .Gt (.call 129 [(.loc 2)]) (.glb (.int 300 265)))]) [
   .raise] [],
 .ret (.ite (.cmp .Eq (.loc 1) (.cst (.str "-"))) (.neg (.call 129 [(.loc 2)])) (.call 129 [(.loc 2)]))]
noncomputable def xN : List RS := [
 .asg 1 (.new 118 94 [(.loc 0)]),
 .asgS [3, 4, 5] (.tup [(.meth 118 108 (.loc 1) "skip" [(.cst (.str "+-"))]), (.meth 118 115 (.loc 1) "digits" []), (.cst (.str ""))]),
 .ite (.cmp .NotEq (.meth 118 108 (.loc 1) "skip" [(.cst (.str "."))]) (.cst (.str ""))) [
   .asg 5 (.meth 118 115 (.loc 1) "digits" [])] [],
 .ite (.cmp .Eq (.bin .Add (.loc 4) (.loc 5)) (.cst (.str ""))) [
   .raise] [],
 .ite (.cmp .Gt (.bcall .len [(.bin .Add (.loc 4) (.loc 5))]) (.glb (.int 60 267))) [
   .raise] [],
 .asg 2 (.bin .Sub (.call 136 [(.loc 1)]) (.bcall .len [(.loc 5)])),
 .ite (.cmp .Lt (.attr 118 (.loc 1) "at") (.bcall .len [(.loc 0)])) [
   .raise] [],
 .asgS [6, 7] (.tup [(.bin .Mult (.call 129 [(.bin .Add (.loc 4) (.loc 5))]) (.bin .Pow (.cst (.int 10)) (.bcall .max [(.cst (.int 0)), (.loc 2)]))), (.bin .Pow (.cst (.int 10)) (.bcall .max [(.cst (.int 0)), (.neg (.loc 2))]))]),
 .ite (.or (.cmp .GtE (.loc 6) (.bin .Mult (.glb (.int (10 ^ 60) 271)) (.loc 7))) [(.cmp2 .Lt .Lt (.cst (.int 0)) (.bin .Mult (.loc 6) (.glb (.int (10 ^ 60) 271))) (.loc 7))]) [
   .raise] [],
 .ret (.call 80 [(.ite (.cmp .Eq (.loc 3) (.cst (.str "-"))) (.neg (.loc 6)) (.loc 6)), (.loc 7)])]
noncomputable def kC : RE := (.cmp .Eq (.sub (.loc 6) (.neg (.cst (.int 1)))) (.cst (.str "0")))
noncomputable def kD : List RS := [
 .asg 6 (.slc (.loc 6) (.cst .none) (.neg (.cst (.int 1))))]
noncomputable def vJ : List RS := [
 .asg 2 (.bin .Pow (.cst (.int 10)) (.loc 1)),
 .asg 3 (.bin .FloorDiv (.bin .Add (.bin .Mult (.bin .Mult (.cst (.int 2)) (.bcall .abs [(.sub (.loc 0) (.cst (.int 0)))])) (.loc 2)) (.sub (.loc 0) (.cst (.int 1)))) (.bin .Mult (.cst (.int 2)) (.sub (.loc 0) (.cst (.int 1))))),
 .ite (.cmp .GtE (.loc 3) (.bin .Mult (.glb (.int (10 ^ 4000) 275)) (.loc 2))) [
   .raise] [],
 .asgS [4, 5] (.tup [(.bcall .str [(.bin .FloorDiv (.loc 3) (.loc 2))]), (.bin .Mod (.loc 3) (.loc 2))]),
 .ite (.cmp .Gt (.loc 5) (.cst (.int 0))) [
   .asg 6 (.slc (.bcall .str [(.bin .Add (.loc 2) (.loc 5))]) (.cst (.int 1)) (.cst .none)),
   .whl kC kD,
   .asg 4 (.bin .Add (.bin .Add (.loc 4) (.cst (.str "."))) (.loc 6))] [],
 .ret (.ite (.and (.cmp .Lt (.sub (.loc 0) (.cst (.int 0))) (.cst (.int 0))) [(.cmp .Gt (.loc 3) (.cst (.int 0)))]) (.bin .Add (.cst (.str "-")) (.loc 4)) (.loc 4))]
noncomputable def qJ : List RS := [
 .asgA 245 (.loc 0) "text" (.loc 1),
 .asgA 245 (.loc 0) "at" (.cst (.int 0))]
noncomputable def zY : List RS := [
 .ret (.cmp .GtE (.attr 245 (.loc 0) "at") (.bcall .len [(.attr 245 (.loc 0) "text")]))]
noncomputable def jN : List RS := [
 .ret (.slc (.attr 245 (.loc 0) "text") (.attr 245 (.loc 0) "at") (.bin .Add (.attr 245 (.loc 0) "at") (.cst (.int 1))))]
noncomputable def wU : RE := (.and (.cmp .Lt (.attr 245 (.loc 0) "at") (.bcall .len [(.attr 245 (.loc 0) "text")])) [(.cmp .In (.sub (.attr 245 (.loc 0) "text") (.attr 245 (.loc 0) "at")) (.glb (.str ⟨#[32, 9, 10, 13, 12]⟩ 399)))])
noncomputable def wW : List RS := [
 .asgA 245 (.loc 0) "at" (.bin .Add (.attr 245 (.loc 0) "at") (.cst (.int 1)))]
noncomputable def zG : List RS := [
 .whl wU wW]
noncomputable def zR : List RS := [
 .exp (.meth 245 193 (.loc 0) "spaces" []),
 .ite (.cmp .NotEq (.meth 245 179 (.loc 0) "peek" []) (.cst (.str ","))) [
   .ret (.cst (.bool false))] [],
 .asgA 245 (.loc 0) "at" (.bin .Add (.attr 245 (.loc 0) "at") (.cst (.int 1))),
 .exp (.meth 245 193 (.loc 0) "spaces" []),
 .ret (.cst (.bool true))]
noncomputable def zH : List RS := [
 .asg 1 (.meth 245 179 (.loc 0) "peek" []),
 .ret (.and (.cmp .NotEq (.loc 1) (.cst (.str ""))) [(.cmp .In (.loc 1) (.bin .Add (.cst (.str "+-.")) (.glb (.str "0123456789" 401))))])]
noncomputable def wV : RE := (.and (.cmp .Lt (.attr 245 (.loc 0) "at") (.bcall .len [(.attr 245 (.loc 0) "text")])) [(.cmp .In (.sub (.attr 245 (.loc 0) "text") (.attr 245 (.loc 0) "at")) (.glb (.str "0123456789" 401)))])
noncomputable def wX : List RS := [
 .asgA 245 (.loc 0) "at" (.bin .Add (.attr 245 (.loc 0) "at") (.cst (.int 1)))]
noncomputable def zS : List RS := [
 .asg 1 (.attr 245 (.loc 0) "at"),
 .whl wV wX,
 .ret (.bin .Sub (.attr 245 (.loc 0) "at") (.loc 1))]
noncomputable def zV : List RS := [
 .asg 1 (.attr 245 (.loc 0) "at"),
 .ite (.cmp .NotIn (.meth 245 179 (.loc 0) "peek" []) (.tup [(.cst (.str "e")), (.cst (.str "E"))])) [
   .ret (.cst .none)] [],
 .asgA 245 (.loc 0) "at" (.bin .Add (.attr 245 (.loc 0) "at") (.cst (.int 1))),
 .ite (.cmp .In (.meth 245 179 (.loc 0) "peek" []) (.tup [(.cst (.str "+")), (.cst (.str "-"))])) [
   .asgA 245 (.loc 0) "at" (.bin .Add (.attr 245 (.loc 0) "at") (.cst (.int 1)))] [],
 .ite (.cmp .Eq (.meth 245 214 (.loc 0) "digits" []) (.cst (.int 0))) [
   .asgA 245 (.loc 0) "at" (.loc 1)] []]
noncomputable def yX : List RS := [
 .asg 1 (.attr 245 (.loc 0) "at"),
 .ite (.cmp .In (.meth 245 179 (.loc 0) "peek" []) (.tup [(.cst (.str "+")), (.cst (.str "-"))])) [
   .asgA 245 (.loc 0) "at" (.bin .Add (.attr 245 (.loc 0) "at") (.cst (.int 1)))] [],
 .asg 2 (.meth 245 214 (.loc 0) "digits" []),
 .ite (.cmp .Eq (.meth 245 179 (.loc 0) "peek" []) (.cst (.str "."))) [
   .asgA 245 (.loc 0) "at" (.bin .Add (.attr 245 (.loc 0) "at") (.cst (.int 1))),
   .asg 2 (.bin .Add (.loc 2) (.meth 245 214 (.loc 0) "digits" []))] [],
 .ite (.cmp .Eq (.loc 2) (.cst (.int 0))) [
   .asgA 245 (.loc 0) "at" (.loc 1),
   .exp (.meth 245 186 (.loc 0) "fault" [(.cst (.str "a number is missing"))])] [],
 .exp (.meth 245 221 (.loc 0) "exponent" []),
 .tryN [
   .ret (.call 143 [(.slc (.attr 245 (.loc 0) "text") (.loc 1) (.attr 245 (.loc 0) "at"))])]]
noncomputable def qK : List RS := [
 .asg 1 (.meth 245 179 (.loc 0) "peek" []),
 .ite (.and (.cmp .NotEq (.loc 1) (.cst (.str "0"))) [(.cmp .NotEq (.loc 1) (.cst (.str "1")))]) [
   .exp (.meth 245 186 (.loc 0) "fault" [(.cst (.str "a flag is missing"))])] [],
 .asgA 245 (.loc 0) "at" (.bin .Add (.attr 245 (.loc 0) "at") (.cst (.int 1))),
 .ret (.ite (.cmp .Eq (.loc 1) (.cst (.str "0"))) (.cst (.int 0)) (.cst (.int 1)))]
noncomputable def yO : List RS := [
 .exp (.meth 245 193 (.loc 0) "spaces" []),
 .ite (.meth 245 172 (.loc 0) "is_over" []) [
   .ret (.cst .none)] [],
 .asg 1 (.meth 245 179 (.loc 0) "peek" []),
 .ite (.cmp .NotIn (.loc 1) (.glb (.str "MmLlHhVvCcSsQqTtAaZz" 403))) [
   .exp (.meth 245 186 (.loc 0) "fault" [(.cst (.str "a command is missing"))])] [],
 .asgA 245 (.loc 0) "at" (.bin .Add (.attr 245 (.loc 0) "at") (.cst (.int 1))),
 .ret (.loc 1)]
noncomputable def fJ : List RS := [
 .ret (.dsub ["M", "L", "H", "V", "C", "S", "Q", "T", "A", "Z"] [(.int 2), (.int 2), (.int 1), (.int 1), (.int 6), (.int 4), (.int 4), (.int 2), (.int 7), (.int 0)] (.bmeth .upper (.loc 0) []))]
noncomputable def kS : List RS := [
 .ret (.dget ["M", "m"] [(.str "L"), (.str "l")] 0)]
noncomputable def vA : List RS := [
 .ite (.cmp .Gt (.loc 3) (.cst (.int 0))) [
   .exp (.meth 245 200 (.loc 0) "separator" [])] [],
 .ite (.and (.cmp .In (.loc 1) (.cst (.str "Aa"))) [(.cmp .In (.loc 3) (.tup [(.cst (.int 3)), (.cst (.int 4))]))]) [
   .exp (.bmeth .append (.loc 2) [(.meth 245 235 (.loc 0) "flag" [])])] [
   .exp (.bmeth .append (.loc 2) [(.meth 245 228 (.loc 0) "number" [])])]]
noncomputable def wK : List RS := [
 .asg 2 (.lst []),
 .for_ [3] (.range (.call 256 [(.loc 1)])) vA,
 .ret (.bcall .tuple [(.loc 2)])]
noncomputable def fK : List RS := [
 .asg 1 (.meth 245 200 (.loc 0) "separator" []),
 .ite (.meth 245 207 (.loc 0) "looks_number" []) [
   .ret (.cst (.bool true))] [],
 .ite (.loc 1) [
   .exp (.meth 245 186 (.loc 0) "fault" [(.cst (.str "a number is missing behind a comma"))])] [],
 .ret (.cst (.bool false))]
noncomputable def vR : RE := (.call 277 [(.loc 0)])
noncomputable def vU : List RS := [
 .exp (.bmeth .append (.loc 1) [(.tup [(.loc 2), (.call 270 [(.loc 0), (.loc 2)])])])]
noncomputable def kB : RE := (.cmp .IsNot (.loc 2) (.cst .none))
noncomputable def vT : List RS := [
 .ite (.and (.cmp .Eq (.loc 1) (.lst [])) [(.cmp .NotIn (.loc 2) (.cst (.str "Mm")))]) [
   .asgA 245 (.loc 0) "at" (.bin .Sub (.attr 245 (.loc 0) "at") (.cst (.int 1))),
   .exp (.meth 245 186 (.loc 0) "fault" [(.cst (.str "a path begins with a move"))])] [],
 .ite (.cmp .In (.loc 2) (.cst (.str "Zz"))) [
   .exp (.bmeth .append (.loc 1) [(.tup [(.loc 2), (.tup [])])])] [
   .exp (.meth 245 193 (.loc 0) "spaces" []),
   .exp (.bmeth .append (.loc 1) [(.tup [(.loc 2), (.call 270 [(.loc 0), (.loc 2)])])]),
   .asg 2 (.call 263 [(.loc 2)]),
   .whl vR vU],
 .asg 2 (.meth 245 242 (.loc 0) "command" [])]
noncomputable def gW : List RS := [
 .asg 2 (.meth 245 242 (.loc 0) "command" []),
 .whl kB vT]
noncomputable def vK : List RS := [
 .asg 1 (.lst []),
 .exp (.call 284 [(.new 245 165 [(.loc 0)]), (.loc 1)]),
 .ret (.loc 1)]
noncomputable def b_short : List RS := [
 .asg 1 (.call 151 [(.loc 0), (.glb (.int 6 574))]),
 .ite (.cmp .Eq (.slc (.loc 1) (.cst .none) (.cst (.int 2))) (.cst (.str "0."))) [
   .ret (.slc (.loc 1) (.cst (.int 1)) (.cst .none))] [],
 .ite (.cmp .Eq (.slc (.loc 1) (.cst .none) (.cst (.int 3))) (.cst (.str "-0."))) [
   .ret (.bin .Add (.cst (.str "-")) (.slc (.loc 1) (.cst (.int 2)) (.cst .none)))] [],
 .ret (.loc 1)]
noncomputable def pH : List RS := [
 .ite (.or (.cmp .Eq (.loc 0) (.cst (.str ""))) [(.cmp .Eq (.sub (.loc 1) (.cst (.int 0))) (.cst (.str "-")))]) [
   .ret (.cst (.bool false))] [],
 .ret (.not (.and (.cmp .Eq (.sub (.loc 1) (.cst (.int 0))) (.cst (.str "."))) [(.cmp .In (.cst (.str ".")) (.loc 0))]))]
noncomputable def xO : List RS := [
 .asgA 350 (.loc 0) "parts" (.lst []),
 .asgA 350 (.loc 0) "letter" (.cst (.str "")),
 .asgA 350 (.loc 0) "last" (.cst (.str ""))]
noncomputable def qE : List RS := [
 .ite (.or (.cmp .NotEq (.loc 1) (.attr 350 (.loc 0) "letter")) [(.cmp .In (.loc 1) (.cst (.str "Zz")))]) [
   .exp (.bmeth .append (.attr 350 (.loc 0) "parts") [(.loc 1)]),
   .asgA 350 (.loc 0) "last" (.cst (.str ""))] [],
 .asgA 350 (.loc 0) "letter" (.ite (.cmp .In (.loc 1) (.cst (.str "Zz"))) (.cst (.str "")) (.call 263 [(.loc 1)]))]
noncomputable def qD : List RS := [
 .asg 2 (.call 298 [(.loc 1)]),
 .ite (.call 305 [(.attr 350 (.loc 0) "last"), (.loc 2)]) [
   .exp (.bmeth .append (.attr 350 (.loc 0) "parts") [(.cst (.str " "))])] [],
 .exp (.bmeth .append (.attr 350 (.loc 0) "parts") [(.loc 2)]),
 .asgA 350 (.loc 0) "last" (.loc 2)]
noncomputable def qS : List RS := [
 .ite (.cmp .NotEq (.attr 350 (.loc 0) "last") (.cst (.str ""))) [
   .exp (.bmeth .append (.attr 350 (.loc 0) "parts") [(.cst (.str " "))])] [],
 .exp (.bmeth .append (.attr 350 (.loc 0) "parts") [(.bcall .str [(.loc 1)])]),
 .asgA 350 (.loc 0) "last" (.cst (.str ""))]
noncomputable def qU : List RS := [
 .ite (.and (.cmp .In (.loc 1) (.cst (.str "Aa"))) [(.cmp .In (.loc 3) (.tup [(.cst (.int 3)), (.cst (.int 4))]))]) [
   .exp (.meth 350 340 (.loc 0) "put_flag" [(.sub (.loc 2) (.loc 3))])] [
   .exp (.meth 350 333 (.loc 0) "put_number" [(.sub (.loc 2) (.loc 3))])]]
noncomputable def xV : List RS := [
 .exp (.meth 350 326 (.loc 0) "put_letter" [(.loc 1)]),
 .for_ [3] (.range (.bcall .len [(.loc 2)])) qU]
noncomputable def fW : List RS := [
 .exp (.meth 350 347 (.loc 1) "put" [(.loc 2), (.loc 3)])]
noncomputable def wJ : List RS := [
 .asg 1 (.new 350 319 []),
 .for_ [2, 3] (.seq (.loc 0)) fW,
 .ret (.bmeth .join (.cst (.str "")) [(.attr 350 (.loc 1) "parts")])]
noncomputable def pB : List RS := [
 .asg 1 (.bin .Add (.loc 1) (.tup [(.loc 2), (.loc 3)]))]
noncomputable def wL : List RS := [
 .asg 1 (.tup []),
 .for_ [2, 3] (.seq (.loc 0)) pB,
 .ret (.loc 1)]
noncomputable def wN : List RS := [
 .asg 1 (.sub (.loc 0) (.cst (.int 0))),
 .ite (.cmp .Eq (.loc 1) (.cst (.str "close"))) [
   .ret (.tup [(.cst (.str "Z")), (.tup [])])] [],
 .ite (.cmp .Eq (.loc 1) (.cst (.str "arc"))) [
   .asg 2 (.tup [(.ite (.sub (.loc 0) (.cst (.int 4))) (.cst (.int 1)) (.cst (.int 0))), (.ite (.sub (.loc 0) (.cst (.int 5))) (.cst (.int 1)) (.cst (.int 0)))]),
   .ret (.tup [(.cst (.str "A")), (.bin .Add (.bin .Add (.tup [(.sub (.loc 0) (.cst (.int 1))), (.sub (.loc 0) (.cst (.int 2))), (.sub (.loc 0) (.cst (.int 3)))]) (.loc 2)) (.sub (.loc 0) (.cst (.int 6))))])] [],
 .ret (.tup [(.dsub ["move", "line", "quad", "cubic"] [(.str "M"), (.str "L"), (.str "Q"), (.str "C")] (.loc 1)), (.call 368 [(.slc (.loc 0) (.cst (.int 1)) (.cst .none))])])]
noncomputable def xU : List RS := [
 .ret (.call 361 [(.cmap 375 0)])]
noncomputable def mX : List RS := [
 .asg 2 (.ite (.cmp .Lt (.loc 1) (.slen 0)) (.sitem 0 (.loc 1)) (.cst (.int 0))),
 .asg 3 (.bcall .max [(.bcall .int [(.loc 2)]), (.bcall .int [(.bin .Sub (.neg (.cst (.int 1))) (.loc 2))])]),
 .asg 4 (.bin .Mod (.bcall .int [(.bin .Mult (.bin .Add (.bin .Add (.bin .Add (.bin .Mod (.bcall .int [(.loc 3)]) (.cst (.int 2147483629))) (.bin .Mult (.bin .Mult (.cst (.int 7919)) (.loc 1)) (.loc 1))) (.bin .Mult (.cst (.int 31)) (.loc 1))) (.cst (.int 17))) (.cst (.int 48271)))]) (.cst (.int 2147483647))),
 .ret (.lst [(.bin .Mult (.loc 3) (.bcall .int [(.cmp .GtE (.loc 3) (.bin .Pow (.cst (.int 10)) (.cst (.int 18))))])), (.loc 4)])]
noncomputable def mW : List RS := [
 .ite (.cmp .Gt (.sub (.loc 0) (.cst (.int 0))) (.cst (.int 0))) [
   .asg 2 (.bin .Mod (.bcall .int [(.sub (.loc 0) (.cst (.int 0)))]) (.loc 1)),
   .asgI (.loc 0) (.cst (.int 0)) (.bin .FloorDiv (.sub (.loc 0) (.cst (.int 0))) (.loc 1)),
   .ret (.loc 2)] [],
 .asgI (.loc 0) (.cst (.int 1)) (.bin .Mod (.bcall .int [(.bin .Add (.bin .Mult (.sub (.loc 0) (.cst (.int 1))) (.cst (.int 39373))) (.cst (.int 7)))]) (.cst (.int 2147483647))),
 .ret (.bin .Mod (.bcall .int [(.bin .FloorDiv (.bin .Mod (.bcall .int [(.bin .Mult (.sub (.loc 0) (.cst (.int 1))) (.sub (.loc 0) (.cst (.int 1))))]) (.cst (.int 2147483629))) (.cst (.int 32)))]) (.loc 1))]
noncomputable def b_law_one : List RS := [
 .ret (.sub (.loc 1) (.call 394 [(.loc 0), (.bcall .len [(.loc 1)])]))]
noncomputable def wM : List RS := [
 .ret (.call 80 [(.bin .Sub (.call 394 [(.loc 0), (.cst (.int 41))]) (.cst (.int 20))), (.call 401 [(.loc 0), (.lst [(.cst (.int 1)), (.cst (.int 2)), (.cst (.int 4)), (.cst (.int 8)), (.cst (.int 5))])])])]
noncomputable def xI : List RS := [
 .asg 6 (.and (.cmp .Eq (.loc 3) (.cst (.int 7))) [(.cmp .In (.loc 5) (.lst [(.cst (.int 3)), (.cst (.int 4))]))]),
 .exp (.bmeth .append (.loc 4) [(.ite (.loc 6) (.call 394 [(.loc 0), (.cst (.int 2))]) (.call 408 [(.loc 0)]))])]
noncomputable def pI : List RS := [
 .asg 2 (.call 401 [(.loc 0), (.loc 1)]),
 .asg 3 (.dsub ["M", "L", "H", "V", "C", "S", "Q", "T", "A", "Z"] [(.int 2), (.int 2), (.int 1), (.int 1), (.int 6), (.int 4), (.int 4), (.int 2), (.int 7), (.int 0)] (.bmeth .upper (.loc 2) [])),
 .asg 4 (.lst []),
 .for_ [5] (.range (.loc 3)) xI,
 .ret (.tup [(.loc 2), (.bcall .tuple [(.loc 4)])])]
noncomputable def mU : List RS := [
 .asg 1 (.bin .FloorDiv (.bin .Mult (.bcall .abs [(.sub (.loc 0) (.cst (.int 0)))]) (.cst (.int 1000))) (.sub (.loc 0) (.cst (.int 1)))),
 .asgS [3, 4] (.tup [(.bcall .str [(.bin .FloorDiv (.loc 1) (.cst (.int 1000)))]), (.bmeth .rstrip (.slc (.bcall .str [(.bin .Add (.cst (.int 1000)) (.bin .Mod (.loc 1) (.cst (.int 1000))))]) (.cst (.int 1)) (.cst .none)) [(.cst (.str "0"))])]),
 .asg 2 (.bin .Add (.ite (.or (.cmp .NotEq (.loc 3) (.cst (.str "0"))) [(.cmp .Eq (.loc 4) (.cst (.str "")))]) (.loc 3) (.cst (.str ""))) (.ite (.cmp .NotEq (.loc 4) (.cst (.str ""))) (.bin .Add (.cst (.str ".")) (.loc 4)) (.cst (.str "")))),
 .ret (.ite (.cmp .Lt (.sub (.loc 0) (.cst (.int 0))) (.cst (.int 0))) (.bin .Add (.cst (.str "-")) (.loc 2)) (.loc 2))]
noncomputable def qG : List RS := [
 .ite (.and (.cmp .Eq (.bcall .len [(.loc 5)]) (.cst (.int 7))) [(.cmp .In (.loc 6) (.lst [(.cst (.int 3)), (.cst (.int 4))]))]) [
   .asgS [1, 3] (.tup [(.bin .Add (.bin .Add (.loc 1) (.bin .Mult (.cst (.str " ")) (.bcall .int [(.cmp .Eq (.loc 6) (.cst (.int 3)))]))) (.bcall .str [(.loc 7)])), (.cst (.str ""))])] [
   .asg 8 (.call 422 [(.loc 7)]),
   .asg 9 (.or (.cmp .Eq (.sub (.loc 8) (.cst (.int 0))) (.cst (.str "-"))) [(.and (.cmp .Eq (.sub (.loc 8) (.cst (.int 0))) (.cst (.str "."))) [(.cmp .In (.cst (.str ".")) (.loc 3))])]),
   .asgS [1, 3] (.tup [(.bin .Add (.bin .Add (.loc 1) (.bin .Mult (.cst (.str " ")) (.bcall .int [(.and (.cmp .NotEq (.loc 3) (.cst (.str ""))) [(.not (.loc 9))])]))) (.loc 8)), (.loc 8)])]]
noncomputable def uU : List RS := [
 .ite (.or (.cmp .NotEq (.loc 4) (.loc 2)) [(.cmp .In (.loc 4) (.cst (.str "Zz")))]) [
   .asgS [1, 3] (.tup [(.bin .Add (.loc 1) (.loc 4)), (.cst (.str ""))])] [],
 .asg 2 (.ite (.cmp .In (.loc 4) (.cst (.str "Zz"))) (.cst (.str "")) (.ite (.cmp .Eq (.loc 4) (.cst (.str "M"))) (.cst (.str "L")) (.ite (.cmp .Eq (.loc 4) (.cst (.str "m"))) (.cst (.str "l")) (.loc 4)))),
 .for_ [6, 7] (.enum (.loc 5)) qG]
noncomputable def mV : List RS := [
 .asgT [1, 2, 3] (.tup [(.cst (.str "")), (.cst (.str "")), (.cst (.str ""))]),
 .for_ [4, 5] (.seq (.loc 0)) uU,
 .ret (.tup [(.loc 1), (.loc 2), (.loc 3)])]
noncomputable def vE : List RS := [
 .exp (.meth 350 347 (.loc 2) "put" [(.loc 5), (.loc 6)])]
noncomputable def kM : List RS := [
 .asg 2 (.new 350 319 []),
 .for_ [5, 6] (.seq (.loc 1)) vE,
 .asgT [7, 5, 8] (.call 429 [(.loc 1)]),
 .ite (.or (.cmp .NotEq (.tup [(.bmeth .join (.cst (.str "")) [(.attr 350 (.loc 2) "parts")]), (.attr 350 (.loc 2) "letter"), (.attr 350 (.loc 2) "last")]) (.tup [(.loc 7), (.loc 5), (.loc 8)])) [(.cmp .NotEq (.call 436 [(.loc 7)]) (.loc 1))]) [
   .ret (.cst (.bool false))] [],
 .asgC 3 7,
 .ite (.cmp .Eq (.loc 3) (.lst [])) [
   .ret (.cst (.bool true))] [],
 .asg 4 (.call 401 [(.loc 0), (.loc 3)]),
 .ret (.cmp .NotEq (.call 436 [(.bin .Add (.slc (.loc 7) (.cst .none) (.loc 4)) (.slc (.loc 7) (.bin .Add (.loc 4) (.cst (.int 1))) (.cst .none)))]) (.loc 1))]
noncomputable def l1_law : List RS := [
 .exp (.bmeth .append (.loc 3) [(.call 415 [(.loc 1), (.lst [(.cst (.str "l")), (.cst (.str "a")), (.cst (.str "h")), (.cst (.str "z")), (.cst (.str "M")), (.cst (.str "c")), (.cst (.str "V")), (.cst (.str "s")), (.cst (.str "q")), (.cst (.str "T")), (.cst (.str "L")), (.cst (.str "m"))])])])]
noncomputable def l2_law : List RS := [
 .exp (.bmeth .append (.loc 5) [(.call 415 [(.loc 1), (.lst [(.cst (.str "L")), (.cst (.str "A")), (.cst (.str "Q")), (.cst (.str "Z")), (.cst (.str "C")), (.cst (.str "M"))])])])]
noncomputable def b_law : List RS := [
 .asg 1 (.call 387 [(.loc 0), (.cst (.int 0))]),
 .asg 2 (.bin .Add (.cst (.int 1)) (.ite (.cmp .Gt (.sub (.loc 1) (.cst (.int 0))) (.cst (.int 0))) (.call 394 [(.loc 1), (.cst (.int 4))]) (.cst (.int 0)))),
 .asg 3 (.lst [(.tup [(.cst (.str "m")), (.tup [(.call 80 [(.cst (.int 1)), (.cst (.int 2))]), (.call 80 [(.cst (.int 1)), (.cst (.int 4))])])])]),
 .for_ [4] (.range (.loc 2)) l1_law,
 .ite (.not (.call 446 [(.loc 1), (.loc 3)])) [
   .ret (.cst (.bool false))] [],
 .asg 5 (.lst [(.tup [(.cst (.str "M")), (.tup [(.call 408 [(.loc 1)]), (.call 408 [(.loc 1)])])])]),
 .for_ [4] (.range (.bcall .min [(.loc 2), (.cst (.int 3))])) l2_law,
 .ret (.cmp .Eq (.call 380 [(.cmap 441 5)]) (.sub (.call 429 [(.loc 5)]) (.cst (.int 0))))]
theorem rC {G : Gl} (hK : G.K = KK G.w.params) : FnIs G 72 ["one", "other"] ["first", "second"] fu yK := by
  refine FnIs.of2 hK (by k_is) (by k_is) ?_ (by decide) (by kernel_rfl)
  intro s a b X
  first | exact BindsTo.of_eq rfl | exact binds_K X rfl (by k_is) rfl rfl rfl
theorem fn_fraction {G : Gl} (hK : G.K = KK G.w.params) : FnIs G 80 ["top", "bottom"] ["common"] fu uM := by
  refine FnIs.of2 hK (by k_is) (by k_is) ?_ (by decide) (by kernel_rfl)
  intro s a b X
  first | exact BindsTo.of_eq rfl | exact binds_K X rfl (by k_is) rfl rfl rfl
theorem mM {G : Gl} (hK : G.K = KK G.w.params) : FnIs G 94 ["self", "text"] [] fu yY := by
  refine FnIs.of2 hK (by k_is) (by k_is) ?_ (by decide) (by kernel_rfl)
  intro s a b X
  first | exact BindsTo.of_eq rfl | exact binds_K X rfl (by k_is) rfl rfl rfl
theorem pS {G : Gl} (hK : G.K = KK G.w.params) : FnIs G 101 ["self", "signs"] [] fu jK := by
  refine FnIs.of2 hK (by k_is) (by k_is) ?_ (by decide) (by kernel_rfl)
  intro s a b X
  first | exact BindsTo.of_eq rfl | exact binds_K X rfl (by k_is) rfl rfl rfl
theorem mL {G : Gl} (hK : G.K = KK G.w.params) : FnIs G 108 ["self", "signs"] [] fu zM := by
  refine FnIs.of2 hK (by k_is) (by k_is) ?_ (by decide) (by kernel_rfl)
  intro s a b X
  first | exact BindsTo.of_eq rfl | exact binds_K X rfl (by k_is) rfl rfl rfl
theorem gT {G : Gl} (hK : G.K = KK G.w.params) : FnIs G 115 ["self"] ["begin"] fu zW := by
  refine FnIs.of1 hK (by k_is) (by k_is) ?_ (by decide) (by kernel_rfl)
  intro s a X
  first | exact BindsTo.of_eq rfl | exact binds_K X rfl (by k_is) rfl rfl rfl
theorem fn_whole_of {G : Gl} (hK : G.K = KK G.w.params) : FnIs G 129 ["digits"] ["number", "digit"] fu uL := by
  refine FnIs.of1 hK (by k_is) (by k_is) ?_ (by decide) (by kernel_rfl)
  intro s a X
  first | exact BindsTo.of_eq rfl | exact binds_K X rfl (by k_is) rfl rfl rfl
theorem fn_read_exponent {G : Gl} (hK : G.K = KK G.w.params) : FnIs G 136 ["reader"] ["sign", "digits"] fu qP := by
  refine FnIs.of1 hK (by k_is) (by k_is) ?_ (by decide) (by kernel_rfl)
  intro s a X
  first | exact BindsTo.of_eq rfl | exact binds_K X rfl (by k_is) rfl rfl rfl
theorem fn_read_decimal {G : Gl} (hK : G.K = KK G.w.params) : FnIs G 143 ["text"] ["reader", "exponent", "sign", "whole", "parts", "top", "bottom"] fu xN := by
  refine FnIs.of1 hK (by k_is) (by k_is) ?_ (by decide) (by kernel_rfl)
  intro s a X
  first | exact BindsTo.of_eq rfl | exact binds_K X rfl (by k_is) rfl rfl rfl
theorem fn_write_decimal {G : Gl} (hK : G.K = KK G.w.params) : FnIs G 151 ["a", "places"] ["scale", "scaled", "told", "rest", "parts"] fu vJ := by
  refine FnIs.of2 hK (by k_is) (by k_is) ?_ (by decide) (by kernel_rfl)
  intro s a b X
  first | exact BindsTo.of_eq rfl | exact binds_K X rfl (by k_is) rfl rfl rfl
theorem fN {G : Gl} (hK : G.K = KK G.w.params) : FnIs G 165 ["self", "text"] [] fu qJ := by
  refine FnIs.of2 hK (by k_is) (by k_is) ?_ (by decide) (by kernel_rfl)
  intro s a b X
  first | exact BindsTo.of_eq rfl | exact binds_K X rfl (by k_is) rfl rfl rfl
theorem wG {G : Gl} (hK : G.K = KK G.w.params) : FnIs G 172 ["self"] [] fu zY := by
  refine FnIs.of1 hK (by k_is) (by k_is) ?_ (by decide) (by kernel_rfl)
  intro s a X
  first | exact BindsTo.of_eq rfl | exact binds_K X rfl (by k_is) rfl rfl rfl
theorem fM {G : Gl} (hK : G.K = KK G.w.params) : FnIs G 179 ["self"] [] fu jN := by
  refine FnIs.of1 hK (by k_is) (by k_is) ?_ (by decide) (by kernel_rfl)
  intro s a X
  first | exact BindsTo.of_eq rfl | exact binds_K X rfl (by k_is) rfl rfl rfl
theorem wY {G : Gl} (hK : G.K = KK G.w.params) : FnIs G 193 ["self"] [] fu zG := by
  refine FnIs.of1 hK (by k_is) (by k_is) ?_ (by decide) (by kernel_rfl)
  intro s a X
  first | exact BindsTo.of_eq rfl | exact binds_K X rfl (by k_is) rfl rfl rfl
theorem pE {G : Gl} (hK : G.K = KK G.w.params) : FnIs G 200 ["self"] [] fu zR := by
  refine FnIs.of1 hK (by k_is) (by k_is) ?_ (by decide) (by kernel_rfl)
  intro s a X
  first | exact BindsTo.of_eq rfl | exact binds_K X rfl (by k_is) rfl rfl rfl
theorem vY {G : Gl} (hK : G.K = KK G.w.params) : FnIs G 207 ["self"] ["sign"] fu zH := by
  refine FnIs.of1 hK (by k_is) (by k_is) ?_ (by decide) (by kernel_rfl)
  intro s a X
  first | exact BindsTo.of_eq rfl | exact binds_K X rfl (by k_is) rfl rfl rfl
theorem gA {G : Gl} (hK : G.K = KK G.w.params) : FnIs G 214 ["self"] ["begin"] fu zS := by
  refine FnIs.of1 hK (by k_is) (by k_is) ?_ (by decide) (by kernel_rfl)
  intro s a X
  first | exact BindsTo.of_eq rfl | exact binds_K X rfl (by k_is) rfl rfl rfl
theorem pR {G : Gl} (hK : G.K = KK G.w.params) : FnIs G 221 ["self"] ["ahead"] fu zV := by
  refine FnIs.of1 hK (by k_is) (by k_is) ?_ (by decide) (by kernel_rfl)
  intro s a X
  first | exact BindsTo.of_eq rfl | exact binds_K X rfl (by k_is) rfl rfl rfl
theorem wZ {G : Gl} (hK : G.K = KK G.w.params) : FnIs G 228 ["self"] ["begin", "many"] fu yX := by
  refine FnIs.of1 hK (by k_is) (by k_is) ?_ (by decide) (by kernel_rfl)
  intro s a X
  first | exact BindsTo.of_eq rfl | exact binds_K X rfl (by k_is) rfl rfl rfl
theorem fO {G : Gl} (hK : G.K = KK G.w.params) : FnIs G 235 ["self"] ["sign"] fu qK := by
  refine FnIs.of1 hK (by k_is) (by k_is) ?_ (by decide) (by kernel_rfl)
  intro s a X
  first | exact BindsTo.of_eq rfl | exact binds_K X rfl (by k_is) rfl rfl rfl
theorem wH {G : Gl} (hK : G.K = KK G.w.params) : FnIs G 242 ["self"] ["letter"] fu yO := by
  refine FnIs.of1 hK (by k_is) (by k_is) ?_ (by decide) (by kernel_rfl)
  intro s a X
  first | exact BindsTo.of_eq rfl | exact binds_K X rfl (by k_is) rfl rfl rfl
theorem fn_many_of {G : Gl} (hK : G.K = KK G.w.params) : FnIs G 256 ["letter"] [] fu fJ := by
  refine FnIs.of1 hK (by k_is) (by k_is) ?_ (by decide) (by kernel_rfl)
  intro s a X
  first | exact BindsTo.of_eq rfl | exact binds_K X rfl (by k_is) rfl rfl rfl
theorem fn_letter_behind {G : Gl} (hK : G.K = KK G.w.params) : FnIs G 263 ["letter"] [] fu kS := by
  refine FnIs.of1 hK (by k_is) (by k_is) ?_ (by decide) (by kernel_rfl)
  intro s a X
  first | exact BindsTo.of_eq rfl | exact binds_K X rfl (by k_is) rfl rfl rfl
theorem fn_read_group {G : Gl} (hK : G.K = KK G.w.params) : FnIs G 270 ["scanner", "letter"] ["found", "place"] fu wK := by
  refine FnIs.of2 hK (by k_is) (by k_is) ?_ (by decide) (by kernel_rfl)
  intro s a b X
  first | exact BindsTo.of_eq rfl | exact binds_K X rfl (by k_is) rfl rfl rfl
theorem fn_goes_on {G : Gl} (hK : G.K = KK G.w.params) : FnIs G 277 ["scanner"] ["has_comma"] fu fK := by
  refine FnIs.of1 hK (by k_is) (by k_is) ?_ (by decide) (by kernel_rfl)
  intro s a X
  first | exact BindsTo.of_eq rfl | exact binds_K X rfl (by k_is) rfl rfl rfl
theorem fn_read_into {G : Gl} (hK : G.K = KK G.w.params) : FnIs G 284 ["scanner", "found"] ["letter"] fu gW := by
  refine FnIs.of2 hK (by k_is) (by k_is) ?_ (by decide) (by kernel_rfl)
  intro s a b X
  first | exact BindsTo.of_eq rfl | exact binds_K X rfl (by k_is) rfl rfl rfl
theorem fn_read_commands {G : Gl} (hK : G.K = KK G.w.params) : FnIs G 291 ["text"] ["found"] fu vK := by
  refine FnIs.of1 hK (by k_is) (by k_is) ?_ (by decide) (by kernel_rfl)
  intro s a X
  first | exact BindsTo.of_eq rfl | exact binds_K X rfl (by k_is) rfl rfl rfl
theorem fn_short {G : Gl} (hK : G.K = KK G.w.params) : FnIs G 298 ["number"] ["text"] fu b_short := by
  refine FnIs.of1 hK (by k_is) (by k_is) ?_ (by decide) (by kernel_rfl)
  intro s a X
  first | exact BindsTo.of_eq rfl | exact binds_K X rfl (by k_is) rfl rfl rfl
theorem fn_wants_blank {G : Gl} (hK : G.K = KK G.w.params) : FnIs G 305 ["ahead", "text"] [] fu pH := by
  refine FnIs.of2 hK (by k_is) (by k_is) ?_ (by decide) (by kernel_rfl)
  intro s a b X
  first | exact BindsTo.of_eq rfl | exact binds_K X rfl (by k_is) rfl rfl rfl
theorem mK {G : Gl} (hK : G.K = KK G.w.params) : FnIs G 319 ["self"] [] fu xO := by
  refine FnIs.of1 hK (by k_is) (by k_is) ?_ (by decide) (by kernel_rfl)
  intro s a X
  first | exact BindsTo.of_eq rfl | exact binds_K X rfl (by k_is) rfl rfl rfl
theorem pD {G : Gl} (hK : G.K = KK G.w.params) : FnIs G 326 ["self", "letter"] [] fu qE := by
  refine FnIs.of2 hK (by k_is) (by k_is) ?_ (by decide) (by kernel_rfl)
  intro s a b X
  first | exact BindsTo.of_eq rfl | exact binds_K X rfl (by k_is) rfl rfl rfl
theorem pC {G : Gl} (hK : G.K = KK G.w.params) : FnIs G 333 ["self", "number"] ["text"] fu qD := by
  refine FnIs.of2 hK (by k_is) (by k_is) ?_ (by decide) (by kernel_rfl)
  intro s a b X
  first | exact BindsTo.of_eq rfl | exact binds_K X rfl (by k_is) rfl rfl rfl
theorem wF {G : Gl} (hK : G.K = KK G.w.params) : FnIs G 340 ["self", "flag"] [] fu qS := by
  refine FnIs.of2 hK (by k_is) (by k_is) ?_ (by decide) (by kernel_rfl)
  intro s a b X
  first | exact BindsTo.of_eq rfl | exact binds_K X rfl (by k_is) rfl rfl rfl
theorem rD {G : Gl} (hK : G.K = KK G.w.params) : FnIs G 347 ["self", "letter", "numbers"] ["place"] fu xV := by
  refine FnIs.of hK (by k_is) (by k_is) ?_ (by decide) (by kernel_rfl)
  intro s vs X hl
  obtain ⟨a, b, c, rfl⟩ := len3 hl
  first | exact BindsTo.of_eq rfl | exact binds_K X rfl (by k_is) rfl rfl rfl
theorem fn_write_path {G : Gl} (hK : G.K = KK G.w.params) : FnIs G 361 ["commands"] ["writer", "letter", "numbers"] fu wJ := by
  refine FnIs.of1 hK (by k_is) (by k_is) ?_ (by decide) (by kernel_rfl)
  intro s a X
  first | exact BindsTo.of_eq rfl | exact binds_K X rfl (by k_is) rfl rfl rfl
theorem fn_numbers_of {G : Gl} (hK : G.K = KK G.w.params) : FnIs G 368 ["points"] ["found", "x", "y"] fu wL := by
  refine FnIs.of1 hK (by k_is) (by k_is) ?_ (by decide) (by kernel_rfl)
  intro s a X
  first | exact BindsTo.of_eq rfl | exact binds_K X rfl (by k_is) rfl rfl rfl
theorem fn_command_of {G : Gl} (hK : G.K = KK G.w.params) : FnIs G 375 ["segment"] ["kind", "flags"] fu wN := by
  refine FnIs.of1 hK (by k_is) (by k_is) ?_ (by decide) (by kernel_rfl)
  intro s a X
  first | exact BindsTo.of_eq rfl | exact binds_K X rfl (by k_is) rfl rfl rfl
theorem fn_law_pool {G : Gl} (hK : G.K = KK G.w.params) : FnIs G 387 ["script", "k"] ["cell", "big", "mixed"] fu mX := by
  refine FnIs.of2 hK (by k_is) (by k_is) ?_ (by decide) (by kernel_rfl)
  intro s a b X
  first | exact BindsTo.of_eq rfl | exact binds_K X rfl (by k_is) rfl rfl rfl
theorem fn_law_take {G : Gl} (hK : G.K = KK G.w.params) : FnIs G 394 ["source", "top"] ["digit"] fu mW := by
  refine FnIs.of2 hK (by k_is) (by k_is) ?_ (by decide) (by kernel_rfl)
  intro s a b X
  first | exact BindsTo.of_eq rfl | exact binds_K X rfl (by k_is) rfl rfl rfl
theorem fn_law_one {G : Gl} (hK : G.K = KK G.w.params) : FnIs G 401 ["source", "things"] [] fu b_law_one := by
  refine FnIs.of2 hK (by k_is) (by k_is) ?_ (by decide) (by kernel_rfl)
  intro s a b X
  first | exact BindsTo.of_eq rfl | exact binds_K X rfl (by k_is) rfl rfl rfl
theorem fn_law_number {G : Gl} (hK : G.K = KK G.w.params) : FnIs G 408 ["source"] [] fu wM := by
  refine FnIs.of1 hK (by k_is) (by k_is) ?_ (by decide) (by kernel_rfl)
  intro s a X
  first | exact BindsTo.of_eq rfl | exact binds_K X rfl (by k_is) rfl rfl rfl
theorem fn_law_command {G : Gl} (hK : G.K = KK G.w.params) : FnIs G 415 ["source", "letters"] ["letter", "many", "numbers", "place", "is_flag"] fu pI := by
  refine FnIs.of2 hK (by k_is) (by k_is) ?_ (by decide) (by kernel_rfl)
  intro s a b X
  first | exact BindsTo.of_eq rfl | exact binds_K X rfl (by k_is) rfl rfl rfl
theorem fn_law_told {G : Gl} (hK : G.K = KK G.w.params) : FnIs G 422 ["number"] ["size", "text", "whole", "parts"] fu mU := by
  refine FnIs.of1 hK (by k_is) (by k_is) ?_ (by decide) (by kernel_rfl)
  intro s a X
  first | exact BindsTo.of_eq rfl | exact binds_K X rfl (by k_is) rfl rfl rfl
theorem fn_law_text {G : Gl} (hK : G.K = KK G.w.params) : FnIs G 429 ["commands"] ["text", "letter", "last", "word", "numbers", "place", "number", "one", "is_apart"] fu mV := by
  refine FnIs.of1 hK (by k_is) (by k_is) ?_ (by decide) (by kernel_rfl)
  intro s a X
  first | exact BindsTo.of_eq rfl | exact binds_K X rfl (by k_is) rfl rfl rfl
theorem rB {G : Gl} (hK : G.K = KK G.w.params) : FnIs G 380 ["segments"] [] fu xU := by
  refine FnIs.of1 hK (by k_is) (by k_is) ?_ (by decide) (by kernel_rfl)
  intro s a X
  first | exact BindsTo.of_eq rfl | exact binds_K X rfl (by k_is) rfl rfl rfl
theorem gS {G : Gl} (hK : G.K = KK G.w.params) : FnIs G 446 ["source", "commands"] ["writer", "blanks", "at", "letter", "numbers", "text", "last"] fu kM := by
  refine FnIs.of2 hK (by k_is) (by k_is) ?_ (by decide) (by kernel_rfl)
  intro s a b X
  first | exact BindsTo.of_eq rfl | exact binds_K X rfl (by k_is) rfl rfl rfl
theorem fn_law {G : Gl} (hK : G.K = KK G.w.params) : FnIs G 451 ["script"] ["source", "many", "commands", "turn", "path"] fu b_law := by
  refine FnIs.of1 hK (by k_is) (by k_is) ?_ (by decide) (by kernel_rfl)
  intro s a X
  first | exact BindsTo.of_eq rfl | exact binds_K X rfl (by k_is) rfl rfl rfl
section
variable {H : AH} {Q : Value → AH → Prop} {Qb : Bool → AH → Prop} {Ql : List (Option Value) → AH → Prop} {x y : Int} {X Y : Str} {t u : Tok} {a b : Addr} {vs : List Value}
theorem q_lt : yR .Lt (.int x t) (.int y u) H Q = Q (.bool (decide (x < y))) H := rfl
theorem q_gt : yR .Gt (.int x t) (.int y u) H Q = Q (.bool (decide (y < x))) H := rfl
theorem q_ge : yR .GtE (.int x t) (.int y u) H Q = Q (.bool (decide (y ≤ x))) H := rfl
theorem q_eq : yR .Eq (.int x t) (.int y u) H Q = Q (.bool (x == y)) H := rfl
theorem uS : yR .Eq (.str X t) (.str Y u) H Q = Q (.bool (X == Y)) H := rfl
theorem nQ : yR .NotEq (.str X t) (.str Y u) H Q = Q (.bool (X != Y)) H := rfl
theorem q_in : yR .In (.str Y u) (.str X t) H Q = Q (.bool (Txt.contains X Y)) H := rfl
theorem q_nin : yR .NotIn (.str Y u) (.str X t) H Q = Q (.bool (!Txt.contains X Y)) H := rfl
theorem wQ : kA .Add (.int x t) (.int y u) H Q = ∀ t, Q (.int (x + y) t) H := rfl
theorem q_sub : kA .Sub (.int x t) (.int y u) H Q = ∀ t, Q (.int (x - y) t) H := rfl
theorem gI : kA .Mult (.int x t) (.int y u) H Q = (IntMulOk x y ∧ ∀ t, Q (.int (x * y) t) H) := rfl
theorem q_div : kA .FloorDiv (.int x t) (.int y u) H Q = ((y ≠ 0 ∧ y.natAbs < 1073741824) ∧ ∀ t, Q (.int (x.fdiv y) t) H) := rfl
theorem q_mod : kA .Mod (.int x t) (.int y u) H Q = (y ≠ 0 ∧ ∀ t, Q (.int (x.fmod y) t) H) := rfl
theorem q_pow : kA .Pow (.int x t) (.int y u) H Q = ((0 ≤ y ∧ y ≤ 1000000 ∧ x.natAbs < 2 ^ 64) ∧ ∀ t, Q (.int (x ^ y.toNat) t) H) := rfl
theorem nR : kA .Add (.str X t) (.str Y u) H Q = (X.length + Y.length ≤ sizeLine ∧ ∀ t, Q (.str (X ++ Y) t) H) := rfl
theorem q_rep : kA .Mult (.str X t) (.int y u) H Q = ((X.length ≤ 16 ∧ -(2 ^ 63 : Int) ≤ y ∧ y ≤ 1048576) ∧ ∀ t, Q (.str (Txt.mul X y) t) H) := rfl
theorem jI {r : Bool} : jW (.bool r) H Qb = Qb r H := rfl
theorem q_abs : rF .abs [.int x t] H Q = ∀ t, Q (.int (if x < 0 then -x else x) t) H := rfl
theorem q_max : rF .max [.int x t, .int y u] H Q = ∀ t, Q (.int (if y > x then y else x) t) H := rfl
theorem q_min : rF .min [.int x t, .int y u] H Q = ∀ t, Q (.int (if y < x then y else x) t) H := rfl
theorem q_int : rF .int [.int x t] H Q = ∀ t, Q (.int x t) H := rfl
theorem q_intb {r : Bool} : rF .int [.bool r] H Q = ∀ t, Q (.int (if r then 1 else 0) t) H := rfl
theorem q_str : rF .str [.int x t] H Q = ((-4611686018427387904 < x ∧ x < 4611686018427387904) ∧ ∀ t, Q (.str (xZ x) t) H) := rfl
theorem q_len : rF .len [.str X t] H Q = (X.length < 9223372036854775808 ∧ ∀ t, Q (.int X.length t) H) := rfl
theorem jJ : yE (.int x) H Q = ∀ t, Q (.int x t) H := rfl
theorem jM : yE (.str X) H Q = ∀ t, Q (.str X t) H := rfl
theorem q_cbool {r : Bool} : yE (.bool r) H Q = Q (.bool r) H := rfl
theorem xF : yE .none H Q = Q .none H := rfl
theorem q_idx {k : Int} : nF (.str X t) (.int k u) H Q = ((X.length < 9223372036854775808 ∧ -(X.length : Int) ≤ k ∧ k < X.length) ∧ ∀ t, Q (.str (Txt.item X k) t) H) := rfl
theorem yC {v : Value} : (Fl.ret v).val = v := rfl
theorem q_slc {i j : Int} {t' : Tok} : wP (.str X t) (.int i u) (.int j t') H Q = (X.length ≤ sizeLine ∧ ∀ t, Q (.str (Txt.slice X (some i) (some j)) t) H) := rfl
theorem q_slcf {i : Int} : wP (.str X t) (.int i u) .none H Q = (X.length ≤ sizeLine ∧ ∀ t, Q (.str (Txt.slice X (some i) none) t) H) := rfl
theorem q_slct {j : Int} : wP (.str X t) .none (.int j u) H Q = (X.length ≤ sizeLine ∧ ∀ t, Q (.str (Txt.slice X none (some j)) t) H) := rfl
theorem jS : (H.setI a vs).I a = some vs := by simp [AH.setI]
theorem jP {o : MObj} : (H.setM a o).M a = some o := by simp [AH.setM]
theorem jC {o : MObj} (h : b ≠ a) : (H.setM a o).M b = H.M b := by simp [AH.setM, h]
end
theorem jG {vs : RS → uP} {s : RS} {r : List RS} {l : List (Option Value)} {H : AH} {Q : Fl → List (Option Value) → AH → Prop} (h : vs s l H fun f l H => match f with | .next => vcB vs r l H Q | .ret v => Q (.ret v) l H) : vcB vs (s :: r) l H Q := h
theorem vcB_e {vs : RS → uP} {l : List (Option Value)} {Q : Fl → List (Option Value) → AH → Prop} (h : Q .next l H) : vcB vs [] l H Q := h
noncomputable abbrev S (l : List Nat) : Str := ⟨l.toArray⟩
theorem yA (l : List Nat) : (S l).length = l.length := rfl
theorem s101 : ("e" : Str) = S [101] := rfl
theorem s101_69 : ("eE" : Str) = S [101, 69] := rfl
theorem s108 : ("l" : Str) = S [108] := rfl
theorem s109 : ("m" : Str) = S [109] := rfl
theorem s32 : (" " : Str) = S [32] := rfl
theorem s43 : ("+" : Str) = S [43] := rfl
theorem s43_45 : ("+-" : Str) = S [43, 45] := rfl
theorem s43_45_46 : ("+-." : Str) = S [43, 45, 46] := rfl
theorem s44 : ("," : Str) = S [44] := rfl
theorem s45 : ("-" : Str) = S [45] := rfl
theorem s45_48_46 : ("-0." : Str) = S [45, 48, 46] := rfl
theorem s46 : ("." : Str) = S [46] := rfl
theorem s48 : ("0" : Str) = S [48] := rfl
theorem s48_46 : ("0." : Str) = S [48, 46] := rfl
theorem s49 : ("1" : Str) = S [49] := rfl
theorem s65 : ("A" : Str) = S [65] := rfl
theorem s65_97 : ("Aa" : Str) = S [65, 97] := rfl
theorem s69 : ("E" : Str) = S [69] := rfl
theorem s76 : ("L" : Str) = S [76] := rfl
theorem s77 : ("M" : Str) = S [77] := rfl
theorem s77_109 : ("Mm" : Str) = S [77, 109] := rfl
theorem s90 : ("Z" : Str) = S [90] := rfl
theorem nK : ("Zz" : Str) = S [90, 122] := rfl
theorem s_n : ("" : Str) = S [] := rfl
theorem wT (l m : List Nat) : S l ++ S m = S (l ++ m) := by
  show Str.mk (l.toArray ++ m.toArray) = _
  simp
theorem S_inj {l m : List Nat} : S l = S m ↔ l = m := ⟨fun h => by
  have := congrArg (fun s : Str => s.cps.toList) h
  simpa using this, fun h => by rw [h]⟩
theorem mZ (l m : List Nat) : (S l == S m) = (l == m) := by
  by_cases h : l = m
  · subst h; simp
  · have : S l ≠ S m := fun e => h (S_inj.mp e)
    rw [beq_eq_false_iff_ne.mpr this, beq_eq_false_iff_ne.mpr h]
theorem cat_S {H : AH} {Q : Value → AH → Prop} {l m : List Nat} {t u : Tok} (h : l.length + m.length ≤ sizeLine) (q : ∀ t, Q (.str (S (l ++ m)) t) H) : kA .Add (.str (S l) t) (.str (S m) u) H Q := ⟨h, fun t => by rw [wT]; exact q t⟩
theorem S_yes {l m : List Nat} (h : (S l == S m) = true) : l = m := by rw [mZ] at h; exact eq_of_beq h
theorem gR {H : AH} {a : Addr} {vs : List Value} {P : List Value → Prop} (h : P vs) : match (H.setI a vs).I a with | some vs => P vs | none => False := by rw [jS]; exact h
theorem gB (l : List Nat) (c : Nat) : Txt.contains (S l) (S [c]) = decide (c ∈ l) := by
  have := StrLaws.found_one (S l) c
  simpa [Txt.contains] using this
theorem S_item {l : List Nat} {k : Nat} (h : k < l.length) : Txt.item (S l) (k : Int) = S [l[k]] := by
  have e : seqIndex? (k : Int) (S l).length = some k := by
    have := StrLaws.seqIndex_nonneg (i := (k : Int)) (n := (S l).length) (by lia) (by rw [yA]; lia)
    simpa using this
  simp [Txt.item, Txt.charAt, e, h]
theorem idx_clip (i j n : Nat) : Builtin.Str.strSliceIndices (some (i : Int)) (some (j : Int)) 1 n = Builtin.Str.strSliceIndices (some ((min i n : Nat) : Int)) (some ((min j n : Nat) : Int)) 1 n := by
  unfold Builtin.Str.strSliceIndices
  have h : ∀ k : Nat, (max (0 : Int) (min (if (k : Int) < 0 then (k : Int) + (n : Int) else (k : Int)) (n : Int))) = ((min k n : Nat) : Int) := fun k => by
    rw [if_neg (Int.not_lt.mpr (Int.natCast_nonneg k)), Int.max_eq_right (Int.le_min.mpr ⟨Int.natCast_nonneg k, Int.natCast_nonneg n⟩)]
    rcases Nat.le_total k n with h | h
    · rw [Nat.min_eq_left h, Int.min_eq_left (Int.ofNat_le.mpr h)]
    · rw [Nat.min_eq_right h, Int.min_eq_right (Int.ofNat_le.mpr h)]
  simp only [show (1 : Int) > 0 by decide, if_true, h, Nat.min_assoc, Nat.min_self]
theorem rG {l : List Nat} {i j : Nat} (h : i ≤ j) : Txt.slice (S l) (some (i : Int)) (some (j : Int)) = S ((l.drop i).take (j - i)) := by
  have e : Txt.slice (S l) (some (i : Int)) (some (j : Int)) = StrLaws.sliceText (S l) (some ((min i l.length : Nat) : Int)) (some ((min j l.length : Nat) : Int)) := by
    show StrLaws.sliceText _ _ _ = _
    unfold StrLaws.sliceText
    have := idx_clip i j (S l).length
    rw [yA] at this ⊢
    rw [this]
  rw [e, StrLaws.sliceText_plain ⟨by lia, by lia, by simp; lia⟩]
  apply S_inj.mpr
  have e1 : ((min i l.length : Nat) : Int).toNat = min i l.length := Int.toNat_natCast _
  have e2 : (((min j l.length : Nat) : Int) - ((min i l.length : Nat) : Int)).toNat = min j l.length - min i l.length := Int.toNat_sub _ _
  rw [e1, e2]
  show (l.drop (min i l.length)).take (min j l.length - min i l.length) = _
  by_cases hi : i ≤ l.length
  · rw [Nat.min_eq_left hi]
    by_cases hj : j ≤ l.length
    · rw [Nat.min_eq_left hj]
    · rw [Nat.min_eq_right (by lia), List.take_of_length_le (by simp), List.take_of_length_le (by simp; lia)]
  · have hm : min i l.length = l.length := Nat.min_eq_right (by lia)
    rw [hm, List.drop_of_length_le (Nat.le_refl _), List.drop_of_length_le (by lia)]
    simp
theorem S_from {l : List Nat} {i : Nat} (h : i ≤ l.length) : Txt.slice (S l) (some (i : Int)) none = S (l.drop i) := by
  have e : Txt.slice (S l) (some (i : Int)) none = Txt.slice (S l) (some (i : Int)) (some (l.length : Int)) := by
    unfold Txt.slice
    rw [StrLaws.sliceIdx_none_hi, yA]
  rw [e, rG h, List.take_of_length_le (by simp)]
theorem S_to {l : List Nat} {j : Nat} : Txt.slice (S l) none (some (j : Int)) = S (l.take j) := by
  have e : Txt.slice (S l) none (some (j : Int)) = Txt.slice (S l) (some ((0 : Nat) : Int)) (some (j : Int)) := by
    unfold Txt.slice
    rw [StrLaws.sliceIdx_none_lo]
    rfl
  rw [e, rG (Nat.zero_le _)]
  simp
theorem S_init {l : List Nat} (h : l ≠ []) : Txt.slice (S l) none (some (-1)) = S l.dropLast := by
  have hl : 0 < l.length := List.length_pos_iff.mpr h
  have e : Txt.slice (S l) none (some (-1)) = StrLaws.sliceText (S l) none (some (-1)) := rfl
  rw [e, StrLaws.sliceText_to_neg (by decide) (by rw [yA]; lia)]
  apply S_inj.mpr
  rw [yA, List.dropLast_eq_take]
  show (l.drop 0).take (-1 + (l.length : Int) - 0).toNat = _
  rw [List.drop_zero]
  congr 1
  have q : ((l.length - 1 : Nat) : Int) = (l.length : Int) - 1 := Int.ofNat_sub hl
  rw [Int.sub_zero, Int.add_comm, ← Int.sub_eq_add_neg, ← q]
  exact Int.toNat_natCast _
theorem zN : 2 ≤ sizeLine := by rw [sizeLine_eq]; lia
theorem jD {H : AH} {a : Addr} {vs : List Value} (h : H.free a) : AH.Le H (H.setI a vs) := ⟨fun b us hb => by
  have : b ≠ a := fun e => by rw [e, h.1] at hb; cases hb
  simp only [AH.setI, if_neg this]; exact hb, fun _ _ h => h⟩
theorem nat_fmod (a b : Nat) : Int.fmod (a : Int) (b : Int) = ((a % b : Nat) : Int) := by
  rw [Int.fmod_eq_emod_of_nonneg _ (Int.natCast_nonneg b)]; rfl
theorem gJ (a b : Nat) : Int.fdiv (a : Int) (b : Int) = ((a / b : Nat) : Int) := by
  rw [Int.fdiv_eq_ediv_of_nonneg _ (Int.natCast_nonneg b)]; rfl
section
variable {G : Gl} {H : AH} {Q : Value → AH → Prop} {C : Addr} {X : AH → Prop} {n : Nat}
theorem loop_gcd {k : Fu} : ∀ (N b a : Nat), b ≤ N → ∃ m, ∀ (l0 l1 : Option Value) (t u : Tok) (H : AH) (Qf : Fl → List (Option Value) → AH → Prop),
    (∀ l t H', AH.Le H H' → l[2]? = some (some (.int (Nat.gcd a b : Nat) t)) → Qf .next l H') →
    kH (fun l H Q => vcE G C n X l (.s (.s (.s (.s k)))) yT H fun v H => jW v H Q) (vcB (vcS G C n X (.s (.s (.s (.s k))))) xJ) m [l0, l1, some (.int a t), some (.int b u)] H Qf
  | 0, b, a, hb => ⟨1, fun l0 l1 t u H Qf h => by
    obtain rfl : b = 0 := Nat.le_zero.mp hb
    simp only [vW1, yT, jH, jB, jQ, Lz, Ls, jJ, q_gt, jI]
    intro t'
    refine ⟨fun e => by simp at e, fun _ => h _ t H (AH.Le.refl H) (by simp)⟩⟩
  | N + 1, b, a, hb => by
    by_cases h0 : b = 0
    · subst h0
      refine ⟨1, fun l0 l1 t u H Qf h => ?_⟩
      simp only [vW1, yT, jH, jB, jQ, Lz, Ls, jJ, q_gt, jI]
      intro t'
      exact ⟨fun e => by simp at e, fun _ => h _ t H (AH.Le.refl H) (by simp)⟩
    · have hlt : a % b < b := Nat.mod_lt _ (Nat.pos_of_ne_zero h0)
      obtain ⟨m, hm⟩ := loop_gcd (k := k) N (a % b) b (by lia)
      refine ⟨m + 1, fun l0 l1 t u H Qf h => ?_⟩
      rw [vW1]
      generalize kH _ _ m = W at hm ⊢
      simp only [yT, xJ, vB0, vB1, uC, jH, jB, zB, jQ, yP, vL0, vL1, Lz, Ls, jJ, q_gt, jI, q_mod, jS, List.length_cons, List.length_nil, List.reverse_cons, List.reverse_nil, Ln, La, sA0, sA1, Ts, Tz, true_and]
      intro t'
      refine ⟨fun _ => ⟨by lia, fun t'' => ⟨zN, fun r hr => ?_⟩⟩, fun e => by simp at e; lia⟩
      rw [nat_fmod]
      refine hm l0 l1 u t'' _ _ fun l t H' le hl => h l t H' ((jD hr).trans le) ?_
      rw [hl, Nat.gcd_comm b (a % b), ← Nat.gcd_rec, Nat.gcd_comm]
theorem c_common_divisor (F : FnIs G 72 ["one", "other"] ["first", "second"] fu yK) {a : Int} {b : Nat} {t u : Tok} (h : ∀ t H', AH.Le H H' → Q (.int (Nat.gcd a.natAbs b : Nat) t) H') : CallT G C (n + 1) (.ref 72) [.int a t, .int b u] H Q X := by
  refine jL F rfl ?_
  simp only [yK, fu, vB0, vB1, uC, w_whl, zJ, jB, zC, yP, vL0, vL1, List.map, La, Ln, Lz, Ls, q_abs, jS, List.length_cons, List.length_nil, List.reverse_cons, List.reverse_nil, sA0, sA1, Ts, Tz, true_and]
  intro t'
  refine ⟨zN, fun r hr => ?_⟩
  obtain ⟨m, hm⟩ := loop_gcd (G := G) (C := C) (n := n) (X := X) (k := .s (.s (.s (.s (.s (.s (.s (.s (.s (.s (.s .z))))))))))) b b a.natAbs (Nat.le_refl _)
  refine ⟨m, ?_⟩
  have e : (if a < 0 then -a else a) = (a.natAbs : Int) := by split <;> lia
  rw [e]
  refine hm _ _ _ _ _ _ fun l t H' le hl => ?_
  simp only [hl]
  exact h t H' ((jD hr).trans le)
theorem mS (F1 : FnIs G 72 ["one", "other"] ["first", "second"] fu yK) (F : FnIs G 80 ["top", "bottom"] ["common"] fu uM) {a : Int} {b : Nat} {t u : Tok} (h0 : 0 < b) (h1 : b < 1073741824)
    (h : ∀ r t' u' H', AH.Le H H' → H'.I r = some [.int (a.fdiv (Nat.gcd a.natAbs b : Nat)) t', .int ((b / Nat.gcd a.natAbs b : Nat) : Int) u'] → Q (.ref r) H') : CallT G C (n + 2) (.ref 80) [.int a t, .int b u] H Q X := by
  refine jL F rfl ?_
  have hg0 : 0 < Nat.gcd a.natAbs b := Nat.gcd_pos_of_pos_right _ h0
  have hg1 : Nat.gcd a.natAbs b ≤ b := Nat.le_of_dvd h0 (Nat.gcd_dvd_right _ _)
  simp only [uM, fu, vB0, vB1, jV, uC, zT, zJ, w_raise, jH, jB, zD, zB, v_neg, jQ, yP, vL0, vL1, List.map, La, Ln, Lz, Ls, q_eq, q_lt, jJ, jI]
  intro t1
  have e1 : ((b : Int) == 0) = false := by simp; lia
  refine ⟨fun e => absurd e (by rw [e1]; exact Bool.false_ne_true), fun _ t2 => ⟨fun e => absurd e (by simp), fun _ => ?_⟩⟩
  refine c_common_divisor F1 fun t3 H' le => ?_
  simp only [Ts, Tz, Lz, Ls, q_div]
  refine ⟨⟨by lia, by lia⟩, fun t4 => ⟨⟨by lia, by lia⟩, fun t5 => ⟨zN, fun r hr => ?_⟩⟩⟩
  refine h r t4 t5 _ (le.trans (jD hr)) ?_
  rw [jS, gJ]
end
section
variable {G : Gl} {H : AH} {Q : Value → AH → Prop} {C : Addr} {X : AH → Prop} {n : Nat}
theorem ins_k {H : AH} {C d : Addr} {v : Value} {nm : Str} {fs : List (Str × Value)} {P : Prop} (e : qC H C v = some (d, fs)) (n : lk nm fs = none) (h : P) : match qC H C v with | some (_, fs) => lk nm fs = none ∧ P | none => False := by
  rw [e]; exact ⟨n, h⟩
structure Rd (K : Addr) (H : AH) (x d : Addr) (l : List Nat) (i : Nat) : Prop where
  obj : H.M x = some (.inst K d)
  dct : ∃ tx ta, H.M d = some (.dict [("text", .str (S l) tx), ("at", .int i ta)])
  ne : x ≠ d
  small : l.length < 100000
theorem Rd.dk {K : Addr} {H : AH} {x d : Addr} {l : List Nat} {i : Nat} (r : Rd K H x d l i) {P : Prop} (k : ∀ tx ta, H.M d = some (.dict [("text", .str (S l) tx), ("at", .int i ta)]) → P) : P := let ⟨tx, ta, h⟩ := r.dct; k tx ta h
structure LeX (d : Addr) (H H' : AH) : Prop where
  I : ∀ a vs, H.I a = some vs → H'.I a = some vs
  M : ∀ a mo, a ≠ d → H.M a = some mo → H'.M a = some mo
theorem LeX.of_le {d : Addr} {H H' : AH} (h : AH.Le H H') : LeX d H H' := ⟨h.1, fun a mo _ e => h.2 a mo e⟩
theorem LeX.trans {d : Addr} {H H₁ H₂ : AH} (x : LeX d H H₁) (y : LeX d H₁ H₂) : LeX d H H₂ := ⟨fun a v h => y.I a v (x.I a v h), fun a v n h => y.M a v n (x.M a v n h)⟩
theorem Rd.le {K : Addr} {H H' : AH} {x d : Addr} {l : List Nat} {i : Nat} (r : Rd K H x d l i) (h : AH.Le H H') : Rd K H' x d l i :=
  ⟨h.2 _ _ r.obj, let ⟨tx, ta, e⟩ := r.dct; ⟨tx, ta, h.2 _ _ e⟩, r.ne, r.small⟩
theorem yL {K : Addr} {x d : Addr} {fs : List (Str × Value)} {f : Str} {u : Value} (h1 : H.M x = some (.inst K d)) (h2 : H.M d = some (.dict fs)) (h3 : lk f fs = some u) (h4 : handedIn u = true) : jY K (.ref x) f H Q = Q u H := by
  have e : qC H K (.ref x) = some (d, fs) := by simp [qC, h1, h2]
  simp [jY, e, h3, h4]
theorem qW {K : Addr} {x d : Addr} {fs : List (Str × Value)} {f : Str} {u : Value} {Q : AH → Prop} (h1 : H.M x = some (.inst K d)) (h2 : H.M d = some (.dict fs)) : qT K (.ref x) f u H Q = (fs.length ≤ 100 ∧ Q (H.setM d (.dict (pt f u fs)))) := by
  have e : qC H K (.ref x) = some (d, fs) := by simp [qC, h1, h2]
  simp [qT, e]
noncomputable def yD (l sg : List Nat) (i : Nat) : Bool := match l[i]? with
  | some c => decide (c ∈ sg)
  | none => false
theorem uK (F : FnIs G 101 ["self", "signs"] [] fu jK) {x d : Addr} {l sg : List Nat} {i : Nat} {t : Tok} (r : Rd 118 H x d l i) (h : Q (.bool (yD l sg i)) H) : CallT G C (n + 1) (.ref 101) [.ref x, .str (S sg) t] H Q X := by
  obtain ⟨h1, ⟨tx, ta, h2⟩, ne, sm⟩ := r
  refine jL F rfl ?_
  have ea : ∀ Q, jY 118 (.ref x) "at" H Q = Q (.int i ta) H := fun Q => yL h1 h2 rfl rfl
  have et : ∀ Q, jY 118 (.ref x) "text" H Q = Q (.str (S l) tx) H := fun Q => yL h1 h2 rfl rfl
  simp only [jK, fu, vB0, vB1, zJ, jB, zX, zC, uQ, jQ, qL, vL0, vL1, vA0, vA1, List.map, La, Ln, Lz, Ls, ea, et, q_len, q_lt, jI, q_idx, q_in, yC, yA]
  refine ⟨by lia, fun t1 => ⟨fun e => ?_, fun e => ?_⟩⟩
  · have hi : i < l.length := by simpa using e
    refine ⟨⟨by lia, by lia, by lia⟩, fun t2 => ?_⟩
    rw [S_item hi, gB]
    have : yD l sg i = decide (l[i] ∈ sg) := by simp [yD, hi]
    rw [← this]
    exact h
  · have hi : ¬ i < l.length := by simpa using e
    have : yD l sg i = false := by
      have : l[i]? = none := List.getElem?_eq_none (by lia)
      simp [yD, this]
    rw [this] at h
    simpa [hi] using h
end
theorem pt_at (u w v : Value) : pt "at" v [(("text" : Str), u), (("at" : Str), w)] = [(("text" : Str), u), (("at" : Str), v)] := by rfl
section
variable {G : Gl} {H : AH} {Q : Value → AH → Prop} {C : Addr} {X : AH → Prop} {n : Nat}
theorem leX_set {d : Addr} {mo : MObj} : LeX d H (H.setM d mo) := ⟨fun _ _ h => h, fun a mo' ne h => by rw [jC ne]; exact h⟩
theorem Rd.set {K : Addr} {x d : Addr} {l : List Nat} {i j : Nat} (r : Rd K H x d l i) (tx t : Tok) : Rd K (H.setM d (.dict [("text", .str (S l) tx), ("at", .int j t)])) x d l j :=
  ⟨by rw [jC r.ne]; exact r.obj, ⟨tx, t, jP⟩, r.ne, r.small⟩
theorem meth_of {K x d : Addr} {l : List Nat} {i : Nat} (r : Rd K H x d l i) : ∃ fs, qC H K (.ref x) = some (d, fs) ∧ ∀ nm : Str, nm ≠ "text" → nm ≠ "at" → lk nm fs = none := by
  refine r.dk fun tx ta h2 => ?_
  refine ⟨_, by simp [qC, r.obj, h2]; rfl, fun nm n1 n2 => ?_⟩
  simp [lk, Ne.symm n1, Ne.symm n2]
theorem zU {K x d : Addr} {l : List Nat} {i : Nat} (r : Rd K H x d l i) {P : Prop} (k : ∀ fs, qC H K (.ref x) = some (d, fs) → (∀ nm : Str, nm ≠ "text" → nm ≠ "at" → lk nm fs = none) → P) : P := let ⟨fs, e, h⟩ := meth_of r; k fs e h
theorem c_nt_skip (F1 : FnIs G 101 ["self", "signs"] [] fu jK) (F : FnIs G 108 ["self", "signs"] [] fu zM) {x d : Addr} {l sg : List Nat} {i : Nat} {t : Tok} (r : Rd 118 H x d l i)
    (h0 : yD l sg i = false → ∀ t, Q (.str (S []) t) H) (h1 : ∀ hi : i < l.length, yD l sg i = true → ∀ t H', LeX d H H' → Rd 118 H' x d l (i + 1) → Q (.str (S [l[i]]) t) H') : CallT G C (n + 2) (.ref 108) [.ref x, .str (S sg) t] H Q X := by
  refine jL F rfl ?_
  refine zU r fun fs ei hl => ?_
  refine r.dk fun tx ta h2 => ?_
  have ea : ∀ Q, jY 118 (.ref x) "at" H Q = Q (.int i ta) H := fun Q => yL r.obj h2 rfl rfl
  have es : ∀ u Q, qT 118 (.ref x) "at" u H Q = (_ ∧ Q _) := fun u Q => qW r.obj h2
  simp only [zM, fu, vB0, vB1, w_aug, zT, zJ, jH, jB, zX, zP, zB, v_not, qL, vL0, vL1, List.map, La, Ln, Lz, Ls, ei, jI, jM, jJ, yC]
  refine ⟨hl "is_one_of" (by decide) (by decide), ?_⟩
  refine uK F1 r ?_
  simp only [jI, ea, es, jJ]
  refine ⟨fun e t1 => h0 (by simpa using e) t1, fun e t1 t2 => ⟨by simp, ?_⟩⟩
  have e1 : yD l sg i = true := by simpa using e
  have hi : i < l.length := by
    by_cases hi : i < l.length
    · exact hi
    · have : l[i]? = none := List.getElem?_eq_none (by lia)
      simp [yD, this] at e1
  rw [pt_at]
  have r2 := r.set (j := i + 1) tx t2
  have ei1 : ((i : Int) + 1) = ((i + 1 : Nat) : Int) := by lia
  rw [ei1]
  have ea2 : ∀ Q, jY 118 (.ref x) "at" (H.setM d (.dict [("text", .str (S l) tx), ("at", .int ((i + 1 : Nat) : Int) t2)])) Q = Q (.int ((i + 1 : Nat) : Int) t2) _ := fun Q => yL r2.obj jP rfl rfl
  have et2 : ∀ Q, jY 118 (.ref x) "text" (H.setM d (.dict [("text", .str (S l) tx), ("at", .int ((i + 1 : Nat) : Int) t2)])) Q = Q (.str (S l) tx) _ := fun Q => yL r2.obj jP rfl rfl
  simp only [ea2, et2, jJ, q_sub, q_idx, yA]
  refine fun t3 t4 => ⟨⟨by have := r.small; lia, by lia, by lia⟩, fun t5 => ?_⟩
  have e5 : (((i + 1 : Nat) : Int) - 1) = (i : Int) := by lia
  rw [e5, S_item hi]
  exact h1 hi e1 t5 _ leX_set r2
end
noncomputable def run (sg : List Nat) : List Nat → Nat
  | c :: r => if c ∈ sg then run sg r + 1 else 0
  | [] => 0
theorem run_le (sg : List Nat) : ∀ l, run sg l ≤ l.length
  | [] => Nat.le_refl _
  | c :: r => by
    unfold run
    split
    · exact Nat.succ_le_succ (run_le sg r)
    · exact Nat.zero_le _
theorem pN {sg l : List Nat} {i : Nat} : (yD l sg i = true → ∃ hi : i < l.length, run sg (l.drop i) = run sg (l.drop (i + 1)) + 1) ∧ (yD l sg i = false → run sg (l.drop i) = 0) := by
  by_cases hi : i < l.length
  · have e : l.drop i = l[i] :: l.drop (i + 1) := List.drop_eq_getElem_cons hi
    have eo : yD l sg i = decide (l[i] ∈ sg) := by simp [yD, hi]
    rw [eo, e]
    constructor
    · intro h
      exact ⟨hi, by rw [run, if_pos (of_decide_eq_true h)]⟩
    · intro h
      rw [run, if_neg (of_decide_eq_false h)]
  · have e : l.drop i = [] := List.drop_of_length_le (by lia)
    have eo : yD l sg i = false := by
      have : l[i]? = none := List.getElem?_eq_none (by lia)
      simp [yD, this]
    rw [eo, e]
    exact ⟨fun h => (by cases h), fun _ => rfl⟩
section
variable {G : Gl} {H : AH} {Q : Value → AH → Prop} {C : Addr} {X : AH → Prop} {n : Nat}
noncomputable abbrev DG : List Nat := [48, 49, 50, 51, 52, 53, 54, 55, 56, 57]
theorem DG_is : ("0123456789" : Str) = S DG := rfl
theorem gL (F1 : FnIs G 101 ["self", "signs"] [] fu jK) {k : Fu} {x d : Addr} {l : List Nat} (b : Option Value) : ∀ (m i : Nat) (H : AH) (Qf : Fl → List (Option Value) → AH → Prop), Rd 118 H x d l i → run DG (l.drop i) = m →
    (∀ H', LeX d H H' → Rd 118 H' x d l (i + m) → Qf .next [some (.ref x), b] H') →
    kH (fun l H Q => vcE G C (n + 1) X l (.s (.s (.s k))) yU H fun v H => jW v H Q) (vcB (vcS G C (n + 1) X (.s (.s (.s k)))) yW) (m + 1) [some (.ref x), b] H Qf
  | 0, i, H, Qf, r, hm, h => by
    rw [vW1]
    refine zU r fun fs ei hl => ?_
    generalize kH _ _ 0 = W
    simp only [yU, yW, vB0, vB1, w_aug, jH, jB, fQ, zP, vL0, vL1, Lz, ei, DG_is]
    refine ⟨hl "is_one_of" (by decide) (by decide), uK F1 r ?_⟩
    simp only [jI]
    refine ⟨fun e => ?_, fun _ => h H (LeX.of_le (AH.Le.refl H)) r⟩
    obtain ⟨_, q⟩ := (pN (sg := DG) (l := l) (i := i)).1 e
    lia
  | m + 1, i, H, Qf, r, hm, h => by
    rw [vW1]
    have ih := gL F1 (k := k) (x := x) (d := d) (l := l) b m (i + 1)
    refine zU r fun fs ei hl => ?_
    refine r.dk fun tx ta h2 => ?_
    have ea : ∀ Q, jY 118 (.ref x) "at" H Q = Q (.int i ta) H := fun Q => yL r.obj h2 rfl rfl
    have es : ∀ u Q, qT 118 (.ref x) "at" u H Q = (_ ∧ Q _) := fun u Q => qW r.obj h2
    generalize kH _ _ (m + 1) = W at ih ⊢
    simp only [yU, yW, vB0, vB1, w_aug, jH, jB, fQ, zP, vL0, vL1, Lz, ei, DG_is]
    refine ⟨hl "is_one_of" (by decide) (by decide), uK F1 r ?_⟩
    simp only [jI, ea, es, jJ]
    refine ⟨fun e t1 t2 => ⟨by simp, ?_⟩, fun e => ?_⟩
    · obtain ⟨hi, q⟩ := (pN (sg := DG) (l := l) (i := i)).1 e
      rw [pt_at]
      have r2 := r.set (j := i + 1) tx t2
      have ei1 : ((i : Int) + 1) = ((i + 1 : Nat) : Int) := by lia
      rw [ei1]
      refine ih _ _ r2 (by lia) fun H' le r' => h H' (leX_set.trans le) ?_
      have e3 : i + 1 + m = i + (m + 1) := by lia
      rw [e3] at r'
      exact r'
    · have := (pN (sg := DG) (l := l) (i := i)).2 e
      lia
theorem c_nt_digits (F1 : FnIs G 101 ["self", "signs"] [] fu jK) (F : FnIs G 115 ["self"] ["begin"] fu zW) {x d : Addr} {l : List Nat} {i : Nat} (r : Rd 118 H x d l i)
    (h : ∀ t H', LeX d H H' → Rd 118 H' x d l (i + run DG (l.drop i)) → Q (.str (S ((l.drop i).take (run DG (l.drop i)))) t) H') : CallT G C (n + 2) (.ref 115) [.ref x] H Q X := by
  refine jL F rfl ?_
  refine r.dk fun tx ta h2 => ?_
  have ea : ∀ Q, jY 118 (.ref x) "at" H Q = Q (.int i ta) H := fun Q => yL r.obj h2 rfl rfl
  simp only [zW, fu, vB0, vB1, jV, w_whl, zJ, jB, zX, gE, List.map, La, Ln, Lz, ea, Ts, Tz]
  refine ⟨run DG (l.drop i) + 1, ?_⟩
  refine gL F1 (k := .s (.s (.s (.s (.s (.s (.s (.s (.s (.s (.s (.s .z)))))))))))) (some (.int i ta)) _ i H _ r rfl fun H' le r' => ?_
  refine r'.dk fun tx' ta' h2' => ?_
  have ea' : ∀ Q, jY 118 (.ref x) "at" H' Q = Q (.int ((i + run DG (l.drop i) : Nat) : Int) ta') H' := fun Q => yL r'.obj h2' rfl rfl
  have et' : ∀ Q, jY 118 (.ref x) "text" H' Q = Q (.str (S l) tx') H' := fun Q => yL r'.obj h2' rfl rfl
  simp only [Lz, Ls, ea', et', q_slc, yC, yA]
  refine ⟨by have := r.small; rw [sizeLine_eq]; lia, fun t => ?_⟩
  rw [rG (Nat.le_add_right _ _), Nat.add_sub_cancel_left]
  exact h t H' le r'
end
theorem find_DG {c : Nat} (h : c ∈ DG) : Txt.contains (S DG) (S [c]) = true ∧ Txt.find (S DG) (S [c]) = ((c - 48 : Nat) : Int) := by
  refine ⟨by rw [gB]; exact decide_eq_true h, ?_⟩
  have key : ∀ c ∈ DG, Txt.find (S DG) (S [c]) = ((c - 48 : Nat) : Int) := by decide +kernel
  exact key c h
noncomputable def num (a : Nat) : List Nat → Nat
  | [] => a
  | c :: r => num (a * 10 + (c - 48)) r
theorem mulOk10 (x : Int) : IntMulOk x 10 := IntMulOk.of_right (intBits_le_64 (by decide) (by decide))
section
variable {G : Gl} {H : AH} {Q : Value → AH → Prop} {C : Addr} {X : AH → Prop} {n : Nat}
theorem loop_whole {k : Fu} {ok : AH → Prop} (hk : ok H) {Qf : Fl → List (Option Value) → AH → Prop} : ∀ (ds : List Nat) (a : Nat) (v0 : Option Value) (ta : Tok) (v2 : Option Value), (∀ c ∈ ds, c ∈ DG) →
    (∀ t v2, Qf .next [v0, some (.int (num a ds : Nat) t), v2] H) → yJ [2] (vcB (vcS G C n X (.s (.s (.s (.s k))))) gN) ok (ds.map .chr) [v0, some (.int (a : Nat) ta), v2] H Qf
  | [], a, v0, ta, v2, hd, h => ⟨hk, h ta v2⟩
  | c :: ds, a, v0, ta, v2, hd, h => by
    have hc := find_DG (hd c (.head _))
    rw [List.map_cons, vF1]
    refine ⟨hk, ?_⟩
    have ih := loop_whole hk (Qf := Qf) (k := k) ds (a * 10 + (c - 48)) v0
    generalize yJ [2] _ ok (ds.map It.chr) = W at ih ⊢
    intro t
    simp only [gN, vB0, vB1, jV, jH, jB, fQ, yS, zB, vL0, vL1, Lz, Ls, Ts, Tz, jJ, gI, DG_is]
    refine fun t1 => ⟨mulOk10 _, fun t2 => ⟨trivial, ?_⟩⟩
    refine ⟨⟨by simp [yA], hc.1⟩, fun t3 t4 => ?_⟩
    have e : ((a : Int) * 10 + Txt.find (S DG) (S [c])) = ((a * 10 + (c - 48) : Nat) : Int) := by rw [hc.2]; simp
    have e' : (⟨#[c]⟩ : Str) = S [c] := rfl
    rw [e', e]
    exact ih t4 (some (.str (S [c]) t)) (fun d hd' => hd d (.tail _ hd')) h
theorem c_whole_of (F : FnIs G 129 ["digits"] ["number", "digit"] fu uL) {ds : List Nat} {t : Tok} (hd : ∀ c ∈ ds, c ∈ DG) (hl : ds.length ≤ 100000) (h : ∀ t, Q (.int (num 0 ds : Nat) t) H) : CallT G C (n + 1) (.ref 129) [.str (S ds) t] H Q X := by
  refine jL F rfl ?_
  have asc : (S ds).cps.all (· < 128) = true := by
    rw [Array.all_eq_true']
    intro c hc
    have hm : c ∈ DG := hd c (by simpa using hc)
    have key : ∀ c ∈ DG, decide (c < 128) = true := by decide
    exact key c hm
  simp only [uL, fu, vB0, vB1, jV, w_fors, zJ, jH, jB, List.map, La, Ln, Lz, Ts, Tz, jJ, seqVC, yA]
  refine fun t1 => ⟨fun _ => ⟨2, rfl⟩, ⟨hl, asc⟩, ?_⟩
  exact loop_whole (k := .s (.s (.s (.s (.s (.s (.s (.s (.s (.s (.s .z))))))))))) trivial ds 0 _ t1 _ hd fun t2 v2 => h t2
end
section
variable {G : Gl} {H : AH} {Q : Value → AH → Prop} {C : Addr} {X : AH → Prop} {n : Nat}
noncomputable abbrev BL : List Nat := [32, 9, 10, 13, 12]
theorem c_ps_is_over (F : FnIs G 172 ["self"] [] fu zY) {x d : Addr} {l : List Nat} {i : Nat} (r : Rd 245 H x d l i) (h : Q (.bool (decide (l.length ≤ i))) H) : CallT G C (n + 1) (.ref 172) [.ref x] H Q X := by
  refine jL F rfl ?_
  refine r.dk fun tx ta h2 => ?_
  have sm := r.small
  have ea : ∀ Q, jY 245 (.ref x) "at" H Q = Q (.int i ta) H := fun Q => yL r.obj h2 rfl rfl
  have et : ∀ Q, jY 245 (.ref x) "text" H Q = Q (.str (S l) tx) H := fun Q => yL r.obj h2 rfl rfl
  simp only [zY, fu, vB0, vB1, zJ, jB, zX, zC, jQ, vL0, vL1, List.map, La, Ln, Lz, ea, et, q_len, q_ge, yC, yA]
  refine ⟨by lia, fun t => ?_⟩
  have e : decide ((l.length : Int) ≤ (i : Int)) = decide (l.length ≤ i) := by simp
  rw [e]
  exact h
theorem xT (F : FnIs G 179 ["self"] [] fu jN) {x d : Addr} {l : List Nat} {i : Nat} (r : Rd 245 H x d l i) (h : ∀ t, Q (.str (S ((l.drop i).take 1)) t) H) : CallT G C (n + 1) (.ref 179) [.ref x] H Q X := by
  refine jL F rfl ?_
  refine r.dk fun tx ta h2 => ?_
  have sm := r.small
  have ea : ∀ Q, jY 245 (.ref x) "at" H Q = Q (.int i ta) H := fun Q => yL r.obj h2 rfl rfl
  have et : ∀ Q, jY 245 (.ref x) "text" H Q = Q (.str (S l) tx) H := fun Q => yL r.obj h2 rfl rfl
  simp only [jN, fu, vB0, vB1, zJ, jH, jB, zX, zB, gE, List.map, La, Ln, Lz, ea, et, jJ, wQ, q_slc, yC, yA]
  refine fun t1 t2 => ⟨by rw [sizeLine_eq]; lia, fun t3 => ?_⟩
  have e : ((i : Int) + 1) = ((i + 1 : Nat) : Int) := by lia
  rw [e, rG (Nat.le_succ i)]
  have e2 : i.succ - i = 1 := by lia
  have e3 : i + 1 - i = 1 := by lia
  rw [e3]
  exact h t3
theorem cond_loop {k : Fu} {sg : List Nat} {tk : Tok} {te : RE} (hte : te = .and (.cmp .Lt (.attr 245 (.loc 0) "at") (.bcall .len [(.attr 245 (.loc 0) "text")])) [(.cmp .In (.sub (.attr 245 (.loc 0) "text") (.attr 245 (.loc 0) "at")) (.glb (.str (S sg) tk)))])
    {x d : Addr} {l : List Nat} {i : Nat} {ll : List (Option Value)} {Q : Bool → AH → Prop} (r : Rd 245 H x d l i) (hl : ll[0]? = some (some (.ref x))) (h : Q (yD l sg i) H) :
    vcE G C n X ll (.s (.s (.s (.s (.s k))))) te H fun v H => jW v H Q := by
  subst hte
  refine r.dk fun tx ta h2 => ?_
  have sm := r.small
  have ea : ∀ Q, jY 245 (.ref x) "at" H Q = Q (.int i ta) H := fun Q => yL r.obj h2 rfl rfl
  have et : ∀ Q, jY 245 (.ref x) "text" H Q = Q (.str (S l) tx) H := fun Q => yL r.obj h2 rfl rfl
  simp only [jB, fQ, zX, zC, uQ, jQ, qL, vL0, vL1, vA0, vA1, hl, ea, et, q_len, q_lt, jI, q_idx, q_in, yA]
  refine ⟨by lia, fun t1 => ⟨fun e => ?_, fun e => ?_⟩⟩
  · have hi : i < l.length := by simpa using e
    refine ⟨⟨by lia, by lia, by lia⟩, fun t2 => ?_⟩
    rw [S_item hi, gB]
    have : yD l sg i = decide (l[i] ∈ sg) := by simp [yD, hi]
    rw [← this]
    exact h
  · have hi : ¬ i < l.length := by simpa using e
    have : yD l sg i = false := by
      have : l[i]? = none := List.getElem?_eq_none (by lia)
      simp [yD, this]
    rw [this] at h
    simpa [hi] using h
theorem body_loop {k : Fu} {x d : Addr} {l : List Nat} {i : Nat} {ll : List (Option Value)} {Qf : Fl → List (Option Value) → AH → Prop} (r : Rd 245 H x d l i) (hl : ll[0]? = some (some (.ref x)))
    (h : ∀ H', LeX d H H' → Rd 245 H' x d l (i + 1) → Qf .next ll H') :
    vcB (vcS G C n X (.s (.s (.s (.s (.s k)))))) [.asgA 245 (.loc 0) "at" (.bin .Add (.attr 245 (.loc 0) "at") (.cst (.int 1)))] ll H Qf := by
  refine r.dk fun tx ta h2 => ?_
  have ea : ∀ Q, jY 245 (.ref x) "at" H Q = Q (.int i ta) H := fun Q => yL r.obj h2 rfl rfl
  have es : ∀ u Q, qT 245 (.ref x) "at" u H Q = (_ ∧ Q _) := fun u Q => qW r.obj h2
  simp only [vB0, vB1, kZ, jH, jB, zX, zB, hl, ea, es, jJ, wQ]
  refine fun t1 t2 => ⟨by simp, ?_⟩
  rw [pt_at]
  have e : ((i : Int) + 1) = ((i + 1 : Nat) : Int) := by lia
  rw [e]
  exact h _ leX_set (r.set tx t2)
theorem loop_ps {k : Fu} {sg : List Nat} {tk : Tok} {te : RE} {bo : List RS} (hte : te = .and (.cmp .Lt (.attr 245 (.loc 0) "at") (.bcall .len [(.attr 245 (.loc 0) "text")])) [(.cmp .In (.sub (.attr 245 (.loc 0) "text") (.attr 245 (.loc 0) "at")) (.glb (.str (S sg) tk)))])
    (hbo : bo = [.asgA 245 (.loc 0) "at" (.bin .Add (.attr 245 (.loc 0) "at") (.cst (.int 1)))]) {x d : Addr} {l : List Nat} {ll : List (Option Value)} (hl : ll[0]? = some (some (.ref x))) {Qf : Fl → List (Option Value) → AH → Prop} :
    ∀ (m i : Nat) (H : AH), Rd 245 H x d l i → run sg (l.drop i) = m → (∀ H', LeX d H H' → Rd 245 H' x d l (i + m) → Qf .next ll H') →
    kH (fun l H Q => vcE G C n X l (.s (.s (.s (.s (.s k))))) te H fun v H => jW v H Q) (vcB (vcS G C n X (.s (.s (.s (.s (.s k)))))) bo) (m + 1) ll H Qf
  | 0, i, H, r, hm, h => by
    rw [vW1]
    refine cond_loop hte r hl ⟨fun e => ?_, fun _ => h H (LeX.of_le (AH.Le.refl H)) r⟩
    obtain ⟨_, q⟩ := (pN (sg := sg) (l := l) (i := i)).1 e
    lia
  | m + 1, i, H, r, hm, h => by
    rw [vW1]
    refine cond_loop hte r hl ⟨fun e => ?_, fun e => ?_⟩
    · obtain ⟨hi, q⟩ := (pN (sg := sg) (l := l) (i := i)).1 e
      rw [hbo]
      refine body_loop r hl fun H' le r' => ?_
      show kH _ _ (m + 1) ll H' Qf
      rw [← hbo]
      refine loop_ps hte hbo hl m (i + 1) H' r' (by lia) fun H'' le' r'' => h H'' (le.trans le') ?_
      have e3 : i + 1 + m = i + (m + 1) := by lia
      rw [e3] at r''
      exact r''
    · have := (pN (sg := sg) (l := l) (i := i)).2 e
      lia
theorem uW (F : FnIs G 193 ["self"] [] fu zG) {x d : Addr} {l : List Nat} {i : Nat} (r : Rd 245 H x d l i) (h : ∀ H', LeX d H H' → Rd 245 H' x d l (i + run BL (l.drop i)) → Q .none H') : CallT G C (n + 1) (.ref 193) [.ref x] H Q X := by
  refine jL F rfl ?_
  simp only [zG, fu, vB0, vB1, w_whl, List.map, La, Ln]
  exact ⟨_, loop_ps (k := .s (.s (.s (.s (.s (.s (.s (.s (.s (.s .z)))))))))) (sg := BL) (tk := 399) rfl rfl rfl _ i H r rfl fun H' le r' => h H' le r'⟩
theorem c_ps_digits (F : FnIs G 214 ["self"] ["begin"] fu zS) {x d : Addr} {l : List Nat} {i : Nat} (r : Rd 245 H x d l i) (h : ∀ t H', LeX d H H' → Rd 245 H' x d l (i + run DG (l.drop i)) → Q (.int (run DG (l.drop i) : Nat) t) H') : CallT G C (n + 1) (.ref 214) [.ref x] H Q X := by
  refine jL F rfl ?_
  refine r.dk fun tx ta h2 => ?_
  have ea : ∀ Q, jY 245 (.ref x) "at" H Q = Q (.int i ta) H := fun Q => yL r.obj h2 rfl rfl
  simp only [zS, fu, vB0, vB1, jV, w_whl, zJ, jB, zX, zB, List.map, La, Ln, Lz, ea, Ts, Tz]
  refine ⟨_, loop_ps (k := .s (.s (.s (.s (.s (.s (.s (.s (.s (.s .z)))))))))) (sg := DG) (tk := 401) rfl rfl rfl _ i H r rfl fun H' le r' => ?_⟩
  refine r'.dk fun tx' ta' h2' => ?_
  have ea' : ∀ Q, jY 245 (.ref x) "at" H' Q = Q (.int ((i + run DG (l.drop i) : Nat) : Int) ta') H' := fun Q => yL r'.obj h2' rfl rfl
  simp only [Lz, Ls, ea', q_sub, yC]
  intro t
  have e : (((i + run DG (l.drop i) : Nat) : Int) - (i : Int)) = ((run DG (l.drop i) : Nat) : Int) := by lia
  rw [e]
  exact h t H' le r'
end
noncomputable abbrev pk (l : List Nat) (i : Nat) : List Nat := (l.drop i).take 1
noncomputable def sp (l : List Nat) (i : Nat) : Nat := i + run BL (l.drop i)
noncomputable def nJ (l : List Nat) (i : Nat) : Nat := if pk l (sp l i) = [44] then sp l (sp l i + 1) else sp l i
noncomputable def uJ (l : List Nat) (i : Nat) : Bool := decide (pk l (sp l i) = [44])
section
variable {G : Gl} {H : AH} {Q : Value → AH → Prop} {C : Addr} {X : AH → Prop} {n : Nat}
theorem S_ne (l m : List Nat) : (S l != S m) = !decide (l = m) := by
  show (!(S l == S m)) = _
  rw [mZ]
  by_cases h : l = m
  · subst h; simp
  · rw [beq_eq_false_iff_ne.mpr h, decide_eq_false h]
theorem c_ps_sep (F1 : FnIs G 193 ["self"] [] fu zG) (F2 : FnIs G 179 ["self"] [] fu jN) (F : FnIs G 200 ["self"] [] fu zR) {x d : Addr} {l : List Nat} {i : Nat} (r : Rd 245 H x d l i)
    (h : ∀ H', LeX d H H' → Rd 245 H' x d l (nJ l i) → Q (.bool (uJ l i)) H') : CallT G C (n + 2) (.ref 200) [.ref x] H Q X := by
  refine jL F rfl ?_
  refine zU r fun fs ei hl => ?_
  simp only [zR, fu, vB0, vB1, kZ, qF, zT, zJ, jH, jB, zX, zP, zB, jQ, vL0, List.map, La, Ln, Lz, ei]
  refine ⟨hl "spaces" (by decide) (by decide), uW F1 r fun H' le r' => ?_⟩
  obtain ⟨fs', ei', hl'⟩ := meth_of r'
  refine r'.dk fun tx ta h2 => ?_
  have ea : ∀ Q, jY 245 (.ref x) "at" H' Q = Q (.int ((i + run BL (l.drop i) : Nat) : Int) ta) H' := fun Q => yL r'.obj h2 rfl rfl
  have es : ∀ u Q, qT 245 (.ref x) "at" u H' Q = (_ ∧ Q _) := fun u Q => qW r'.obj h2
  simp only [ei']
  refine ⟨hl' "peek" (by decide) (by decide), xT F2 r' fun t1 => ?_⟩
  simp only [s44, jM, nQ, jI, S_ne, q_cbool, yC, ea, es, jJ, wQ]
  refine fun t2 => ⟨fun e => ?_, fun e t3 t4 => ⟨by simp, ?_⟩⟩
  · have e' : ¬ pk l (sp l i) = [44] := by simpa [pk, sp] using e
    have q := h H' le
    simp only [nJ, uJ, if_neg e', decide_eq_false e'] at q
    exact q r'
  · have e' : pk l (sp l i) = [44] := by simpa [pk, sp] using e
    rw [pt_at]
    have r2 := r'.set (j := sp l i + 1) tx t4
    have ei1 : (((i + run BL (l.drop i) : Nat) : Int) + 1) = ((sp l i + 1 : Nat) : Int) := by unfold sp; lia
    rw [ei1]
    refine zU r2 fun fs2 ei2 hl2 => ?_
    simp only [ei2]
    refine ⟨hl2 "spaces" (by decide) (by decide), uW F1 r2 fun H'' le' r'' => ?_⟩
    have q := h H'' (le.trans (leX_set.trans le'))
    simp only [nJ, uJ, if_pos e', decide_eq_true e'] at q
    exact q r''
noncomputable def qY (l : List Nat) (i : Nat) : Bool := match l[i]? with
  | some c => decide (c ∈ ([43, 45, 46] ++ DG))
  | none => false
theorem c_ps_looks (F2 : FnIs G 179 ["self"] [] fu jN) (F : FnIs G 207 ["self"] ["sign"] fu zH) {x d : Addr} {l : List Nat} {i : Nat} (r : Rd 245 H x d l i)
    (h : Q (.bool (qY l i)) H) : CallT G C (n + 2) (.ref 207) [.ref x] H Q X := by
  refine jL F rfl ?_
  refine zU r fun fs ei hl => ?_
  simp only [zH, fu, vB0, vB1, jV, zJ, jH, jB, fQ, zP, zB, uQ, jQ, vL0, vA0, vA1, List.map, La, Ln, Lz, ei]
  refine ⟨hl "peek" (by decide) (by decide), xT F2 r fun t1 => ?_⟩
  simp only [Ts, Tz, Lz, Ls, s_n, s43_45_46, DG_is, jM, nQ, jI, S_ne, yC, nR, q_in, wT, yA]
  refine fun t2 => ⟨fun e t3 => ⟨by rw [sizeLine_eq]; simp, fun t4 => ?_⟩, fun e => ?_⟩
  · have e' : ¬ (l.drop i).take 1 = [] := by simpa using e
    by_cases hi : i < l.length
    · have e5 : (l.drop i).take 1 = [l[i]] := by rw [List.drop_eq_getElem_cons hi]; rfl
      rw [e5, gB]
      have : qY l i = decide (l[i] ∈ ([43, 45, 46] ++ DG)) := by simp [qY, hi]
      rw [← this]
      exact h
    · exact absurd (by rw [List.drop_of_length_le (by lia)]; rfl) e'
  · have e' : (l.drop i).take 1 = [] := by simpa using e
    have hi : ¬ i < l.length := fun hi => by
      rw [List.drop_eq_getElem_cons hi] at e'
      cases e'
    have : qY l i = false := by
      have : l[i]? = none := List.getElem?_eq_none (by lia)
      simp [qY, this]
    rw [this] at h
    simp only [e', decide_true, Bool.not_true]
    exact h
end
noncomputable abbrev LT : List Nat := [77, 109, 76, 108, 72, 104, 86, 118, 67, 99, 83, 115, 81, 113, 84, 116, 65, 97, 90, 122]
theorem LT_is : ("MmLlHhVvCcSsQqTtAaZz" : Str) = S LT := rfl
noncomputable def zF : Nat → Nat
  | 77 => 2 | 109 => 2 | 76 => 2 | 108 => 2 | 72 => 1 | 104 => 1 | 86 => 1 | 118 => 1 | 67 => 6 | 99 => 6 | 83 => 4 | 115 => 4 | 81 => 4 | 113 => 4 | 84 => 2 | 116 => 2 | 65 => 7 | 97 => 7
  | _ => 0
noncomputable def behind (c : Nat) : Nat := if c = 77 then 76 else if c = 109 then 108 else c
theorem behind_no {c : Nat} (h1 : c ≠ 77) (h2 : c ≠ 109) : behind c = c := by unfold behind; rw [if_neg h1, if_neg h2]
noncomputable def mkeys : List Str := ["M", "L", "H", "V", "C", "S", "Q", "T", "A", "Z"]
noncomputable def mvals : List Const := [(.int 2), (.int 2), (.int 1), (.int 1), (.int 6), (.int 4), (.int 4), (.int 2), (.int 7), (.int 0)]
theorem lk_many : ∀ c ∈ LT, lkC (Txt.upper (S [c])) mkeys mvals = some (.int (zF c)) := by decide +kernel
theorem lk_behind : ∀ c ∈ LT, lkC (S [c]) ["M", "m"] [(.str "L"), (.str "l")] = if c = 77 ∨ c = 109 then some (.str (S [behind c])) else none := by decide +kernel
section
variable {G : Gl} {H : AH} {Q : Value → AH → Prop} {C : Addr} {X : AH → Prop} {n : Nat}
theorem c_many_of (F : FnIs G 256 ["letter"] [] fu fJ) {c : Nat} {t : Tok} (hc : c ∈ LT) (h : ∀ t, Q (.int (zF c : Nat) t) H) : CallT G C (n + 1) (.ref 256) [.str (S [c]) t] H Q X := by
  refine jL F rfl ?_
  simp only [fJ, fu, vB0, vB1, zJ, jB, yS, v_dsub, vL0, List.map, La, Ln, Lz]
  refine fun a o hf => ⟨trivial, ⟨by simp [yA], fun t1 => ⟨rfl, ?_⟩⟩⟩
  show (match lkC (Txt.upper (S [c])) mkeys mvals with | some u => yE u H _ | none => False)
  rw [lk_many c hc]
  exact h
theorem wR (F : FnIs G 263 ["letter"] [] fu kS) {c : Nat} {t : Tok} (hc : c ∈ LT) (h : ∀ t, Q (.str (S [behind c]) t) H) : CallT G C (n + 1) (.ref 263) [.str (S [c]) t] H Q X := by
  refine jL F rfl ?_
  simp only [kS, fu, vB0, vB1, zJ, v_dget, List.map, La, Ln, Lz]
  rw [lk_behind c hc]
  by_cases e : c = 77 ∨ c = 109
  · rw [if_pos e]
    exact h
  · rw [if_neg e]
    rw [behind_no (fun q => e (.inl q)) fun q => e (.inr q)] at h
    exact h
end
section
variable {G : Gl} {H : AH} {Q : Value → AH → Prop} {C : Addr} {X : AH → Prop} {n : Nat}
theorem nY {p : Prop} [Decidable p] (h : (!decide p) = false) : p := of_decide_eq_true (by cases e : decide p <;> simp [e] at h ⊢)
theorem nd_true {p : Prop} [Decidable p] (h : (!decide p) = true) : ¬ p := of_decide_eq_false (by cases e : decide p <;> simp [e] at h ⊢)
noncomputable def FaultC (G : Gl) (C : Addr) (n : Nat) (X : AH → Prop) (x d : Addr) : Prop := ∀ {H : AH} {Q : Value → AH → Prop} {l : List Nat} {i : Nat} {m : Str} {t : Tok}, Rd 245 H x d l i → X H → CallT G C n (.ref 186) [.ref x, .str m t] H Q X
theorem pk_is {l : List Nat} {i : Nat} : (∃ hi : i < l.length, pk l i = [l[i]]) ∨ (¬ i < l.length ∧ pk l i = []) := by
  by_cases hi : i < l.length
  · exact .inl ⟨hi, by unfold pk; rw [List.drop_eq_getElem_cons hi]; rfl⟩
  · exact .inr ⟨hi, by unfold pk; rw [List.drop_of_length_le (by lia)]; rfl⟩
theorem c_ps_flag (F2 : FnIs G 179 ["self"] [] fu jN) (F : FnIs G 235 ["self"] ["sign"] fu qK) {x d : Addr} {l : List Nat} {i : Nat} (fa : FaultC G C (n + 1) X x d) (r : Rd 245 H x d l i)
    (h : ∀ hi : i < l.length, (l[i] = 48 ∨ l[i] = 49) → ∀ t H', LeX d H H' → Rd 245 H' x d l (i + 1) → Q (.int (l[i] - 48 : Nat) t) H') (hx : pk l i ≠ [48] → pk l i ≠ [49] → X H) : CallT G C (n + 2) (.ref 235) [.ref x] H Q X := by
  refine jL F rfl ?_
  refine zU r fun fs ei hl => ?_
  refine r.dk fun tx ta h2 => ?_
  have ea : ∀ {Q}, Q (.int i ta) H → jY 245 (.ref x) "at" H Q := fun q => (yL r.obj h2 rfl rfl).mpr q
  have es : ∀ {u Q}, Q (H.setM d (.dict (pt "at" u [("text", .str (S l) tx), ("at", .int i ta)]))) → qT 245 (.ref x) "at" u H Q := fun q => (qW r.obj h2).mpr ⟨by simp, q⟩
  simp only [qK, fu, vB0, vB1, jV, kZ, qF, zT, zJ, jH, jB, zX, zP, zB, uQ, jQ, uD, vL0, vL1, vA0, vA1, List.map, La, Ln, Lz]
  refine ins_k ei (hl "peek" (by decide) (by decide)) (xT F2 r fun t1 => ?_)
  simp only [Ts, Tz, Lz, Ls, s48, s49, jM, nQ, uS, jI, yC, jJ]
  have stp : (pk l i = [48] ∨ pk l i = [49]) → ∃ hi : i < l.length, pk l i = [l[i]] ∧ (l[i] = 48 ∨ l[i] = 49) := fun hp => by
    rcases pk_is (l := l) (i := i) with ⟨hi, e⟩ | ⟨_, e⟩
    · refine ⟨hi, e, ?_⟩
      rw [e] at hp
      rcases hp with hp | hp
      · exact .inl (by simpa using hp)
      · exact .inr (by simpa using hp)
    · rw [e] at hp
      rcases hp with hp | hp <;> cases hp
  have good : (pk l i = [48] ∨ pk l i = [49]) → ∀ t5 t6 : Tok, ∀ (H' : AH), H' = H.setM d (.dict (pt "at" (.int ((i : Int) + 1) t6) [("text", .str (S l) tx), ("at", .int i ta)])) →
      (∀ t7 : Tok, ((S (pk l i) == S [48]) = true → ∀ t8, Q (.int 0 t8) H') ∧ ((S (pk l i) == S [48]) = false → ∀ t8, Q (.int 1 t8) H')) := fun hp t5 t6 H' eH t7 => by
    obtain ⟨hi, e, hc⟩ := stp hp
    rw [pt_at] at eH
    have ei1 : ((i : Int) + 1) = ((i + 1 : Nat) : Int) := by lia
    rw [ei1] at eH
    have r2 : Rd 245 H' x d l (i + 1) := eH ▸ r.set (j := i + 1) tx t6
    have le : LeX d H H' := eH ▸ leX_set
    have q := fun t => h hi hc t H' le r2
    rw [e]
    refine ⟨fun e8 t8 => ?_, fun e8 t8 => ?_⟩
    · have : l[i] = 48 := by simpa using e8
      have q' := q t8
      rw [this] at q'
      exact q'
    · have : l[i] = 49 := by
        rcases hc with hc | hc
        · rw [hc] at e8; simp at e8
        · exact hc
      have q' := q t8
      rw [this] at q'
      exact q'
  have ne : ∀ {k : Nat}, (S (pk l i) != S [k]) = true → pk l i ≠ [k] := fun e q => by rw [q] at e; simp at e
  have eq : ∀ {k : Nat}, (S (pk l i) != S [k]) = false → pk l i = [k] := fun e => by rw [S_ne] at e; simpa using e
  refine fun t2 => ⟨fun e t3 => ⟨fun e' => ins_k ei (hl "fault" (by decide) (by decide)) fun t4 => fa r (hx (ne e) (ne e')), fun e' => ea fun t4 t5 => es (good (.inr (eq e')) t5 t5 _ rfl)⟩,
    fun e => ⟨fun e' => absurd (e.symm.trans e') (by decide), fun e' => ea fun t4 t5 => es (good (.inl (eq e)) t5 t5 _ rfl)⟩⟩
theorem c_ps_command (F1 : FnIs G 193 ["self"] [] fu zG) (F2 : FnIs G 179 ["self"] [] fu jN) (F3 : FnIs G 172 ["self"] [] fu zY) (F : FnIs G 242 ["self"] ["letter"] fu yO)
    {x d : Addr} {l : List Nat} {i : Nat} (fa : FaultC G C (n + 1) X x d) (r : Rd 245 H x d l i)
    (h0 : l.length ≤ sp l i → ∀ H', LeX d H H' → Rd 245 H' x d l (sp l i) → Q .none H')
    (h1 : ∀ hi : sp l i < l.length, l[sp l i] ∈ LT → ∀ t H', LeX d H H' → Rd 245 H' x d l (sp l i + 1) → Q (.str (S [l[sp l i]]) t) H') (hx : ∀ hi : sp l i < l.length, l[sp l i] ∉ LT → ∀ H', LeX d H H' → X H') : CallT G C (n + 2) (.ref 242) [.ref x] H Q X := by
  refine jL F rfl ?_
  refine zU r fun fs ei hl => ?_
  simp only [yO, fu, vB0, vB1, jV, kZ, qF, zT, zJ, jH, jB, fQ, zX, zP, zB, jQ, vL0, vL1, List.map, La, Ln, Lz]
  refine ins_k ei (hl "spaces" (by decide) (by decide)) (uW F1 r fun H' le r' => ?_)
  change Rd 245 H' x d l (sp l i) at r'
  refine zU r' fun fs' ei' hl' => r'.dk fun tx ta h2 => ins_k ei' (hl' "is_over" (by decide) (by decide)) (c_ps_is_over F3 r' ?_)
  simp only [jI, xF, yC]
  refine ⟨fun e => h0 (by simpa using e) H' le r', fun e => ins_k ei' (hl' "peek" (by decide) (by decide)) (xT F2 r' fun t1 => ?_)⟩
  have ea : ∀ {Q}, Q (.int (sp l i : Nat) ta) H' → jY 245 (.ref x) "at" H' Q := fun q => (yL r'.obj h2 rfl rfl).mpr q
  have es : ∀ {u Q}, Q (H'.setM d (.dict (pt "at" u [("text", .str (S l) tx), ("at", .int (sp l i : Nat) ta)]))) → qT 245 (.ref x) "at" u H' Q := fun q => (qW r'.obj h2).mpr ⟨by simp, q⟩
  have hi : sp l i < l.length := by simpa using e
  have e5 : (l.drop (sp l i)).take 1 = [l[sp l i]] := by rw [List.drop_eq_getElem_cons hi]; rfl
  have ct : Txt.contains (S LT) (S ((l.drop (sp l i)).take 1)) = decide (l[sp l i] ∈ LT) := by rw [e5, gB]
  simp only [Ts, Tz, Lz, Ls, LT_is, q_nin, jI, jJ, jM, yC]
  refine ⟨fun e6 => ins_k ei' (hl' "fault" (by decide) (by decide)) fun t2 => fa r' (hx hi (nd_true (ct ▸ e6)) H' le), fun e6 => ea fun t2 t3 => es ?_⟩
  have q := h1 hi (nY (ct ▸ e6)) t1 _ (le.trans leX_set) (r'.set (j := sp l i + 1) tx t3)
  rw [← e5] at q
  rw [pt_at]
  exact q
end
section
variable {G : Gl} {H : AH} {Q : Value → AH → Prop} {C : Addr} {X : AH → Prop} {n : Nat}
theorem q_inT {v : Value} {a : Addr} {vs : List Value} {b : Bool} (h : H.I a = some vs) (e : yH v vs = some b) (hl : vs.length ≤ 100) (q : Q (.bool b) H) : yR .In v (.ref a) H Q := by
  cases v <;> exact ⟨vs, .inl h, by rw [e]; exact ⟨hl, q⟩⟩
theorem q_ninT {v : Value} {a : Addr} {vs : List Value} {b : Bool} (h : H.I a = some vs) (e : yH v vs = some b) (hl : vs.length ≤ 100) (q : Q (.bool (!b)) H) : yR .NotIn v (.ref a) H Q := by
  cases v <;> exact ⟨vs, .inl h, by rw [e]; exact ⟨hl, q⟩⟩
theorem any2 {a b x : List Nat} {t u w : Tok} : yH (.str (S x) w) [.str (S a) t, .str (S b) u] = some ((a == x) || ((b == x) || false)) := by
  simp only [aF0, aF1, kQ, mZ]
theorem c_ps_exponent (F2 : FnIs G 179 ["self"] [] fu jN) (F : FnIs G 221 ["self"] ["ahead"] fu zV) {x d : Addr} {l : List Nat} {i : Nat} (r : Rd 245 H x d l i)
    (hp : pk l i ≠ [101] ∧ pk l i ≠ [69]) (h : ∀ H', AH.Le H H' → Q .none H') : CallT G C (n + 2) (.ref 221) [.ref x] H Q X := by
  refine jL F rfl ?_
  refine zU r fun fs ei hl => ?_
  refine r.dk fun tx ta h2 => ?_
  have ea : ∀ Q, jY 245 (.ref x) "at" H Q = Q (.int i ta) H := fun Q => yL r.obj h2 rfl rfl
  simp only [zV, fu]
  refine jG ?_
  simp only [jV, zX, jB, List.map, La, Ln, Lz, ea]
  refine jG ?_
  simp only [zT, jQ, zP, jB, Ts, Tz, Lz, ei, vL0]
  refine ⟨hl "peek" (by decide) (by decide), xT F2 r fun t1 => ?_⟩
  rw [yP]
  simp only [vL0, vL1, jH, jM, s101, s69]
  refine fun t2 t3 => ⟨zN, fun a ha => ?_⟩
  refine q_ninT jS any2 (by simp) ?_
  have f1 : ([101] == (l.drop i).take 1) = false := beq_eq_false_iff_ne.mpr fun e => hp.1 e.symm
  have f2 : ([69] == (l.drop i).take 1) = false := beq_eq_false_iff_ne.mpr fun e => hp.2 e.symm
  rw [f1, f2]
  simp only [jI, vB0, vB1, kZ, zT, zJ, jH, jB, zX, zP, zB, jQ, yP, xF, yC]
  exact ⟨fun _ => h _ (jD ha), fun e => absurd e (by decide)⟩
end
section
variable {G : Gl} {H : AH} {Q : Value → AH → Prop} {C : Addr} {X : AH → Prop} {n : Nat}
theorem c_goes_on (F1 : FnIs G 193 ["self"] [] fu zG) (F2 : FnIs G 179 ["self"] [] fu jN) (F3 : FnIs G 200 ["self"] [] fu zR) (F4 : FnIs G 207 ["self"] ["sign"] fu zH)
    (F : FnIs G 277 ["scanner"] ["has_comma"] fu fK) {x d : Addr} {l : List Nat} {i : Nat} (fa : FaultC G C (n + 2) X x d) (r : Rd 245 H x d l i)
    (h : (qY l (nJ l i) = true ∨ uJ l i = false) → ∀ H', LeX d H H' → Rd 245 H' x d l (nJ l i) → Q (.bool (qY l (nJ l i))) H')
    (hx : qY l (nJ l i) = false → uJ l i = true → ∀ H', LeX d H H' → X H') : CallT G C (n + 3) (.ref 277) [.ref x] H Q X := by
  refine jL F rfl ?_
  refine zU r fun fs ei hl => ?_
  simp only [fK, fu, vB0, vB1, jV, qF, zT, zJ, jH, jB, zP, vL0, vL1, List.map, La, Ln, Lz, ei]
  refine ⟨hl "separator" (by decide) (by decide), c_ps_sep F1 F2 F3 r fun H' le r' => ?_⟩
  obtain ⟨fs', ei', hl'⟩ := meth_of r'
  simp only [Ts, Tz, Lz, Ls, ei', jI, q_cbool, jM, yC]
  refine ⟨hl' "looks_number" (by decide) (by decide), c_ps_looks F2 F4 r' ?_⟩
  simp only [jI, ei']
  refine ⟨fun e => ?_, fun e => ⟨fun e' => ⟨hl' "fault" (by decide) (by decide), fun t => fa r' (hx e e' H' le)⟩, fun e' => ?_⟩⟩
  · have q := h (.inl e) H' le r'
    rw [e] at q
    exact q
  · have q := h (.inr e') H' le r'
    rw [e] at q
    exact q
end
section
variable {G : Gl} {H : AH} {Q : Value → AH → Prop} {C : Addr} {X : AH → Prop} {n : Nat}
theorem c_read_exponent (F1 : FnIs G 101 ["self", "signs"] [] fu jK) (F2 : FnIs G 108 ["self", "signs"] [] fu zM) (F : FnIs G 136 ["reader"] ["sign", "digits"] fu qP) {x d : Addr} {l : List Nat} {i : Nat} (r : Rd 118 H x d l i)
    (hp : yD l [101, 69] i = false) (h : ∀ t, Q (.int 0 t) H) : CallT G C (n + 3) (.ref 136) [.ref x] H Q X := by
  refine jL F rfl ?_
  refine zU r fun fs ei hl => ?_
  simp only [qP, fu]
  refine jG ?_
  simp only [zT, jQ, zP, jB, vL0, vL1, jH, List.map, La, Ln, Lz, ei, jM, s101_69]
  refine ⟨hl "skip" (by decide) (by decide), fun t1 => ?_⟩
  refine c_nt_skip F1 F2 r (fun _ t2 => ?_) (fun hi e => absurd (hp.symm.trans e) (by decide))
  simp only [jM, s_n, uS, jI, mZ, vB0, vB1, uC, zT, zJ, w_raise, jH, jB, zD, v_neg, v_or, jQ, uD, yP, jJ, yC]
  exact fun t3 => ⟨fun _ t4 => h t4, fun e => absurd e (by decide)⟩
theorem c_nt_init (F : FnIs G 94 ["self", "text"] [] fu yY) {x d : Addr} {l : List Nat} {t : Tok} (h0 : H.M x = some (.inst 118 d)) (h1 : H.M d = some (.dict [])) (ne : x ≠ d) (sm : l.length < 100000)
    (h : ∀ H', LeX d H H' → Rd 118 H' x d l 0 → Q .none H') : CallT G C (n + 1) (.ref 94) [.ref x, .str (S l) t] H Q X := by
  refine jL F rfl ?_
  have es : ∀ u Q, qT 118 (.ref x) "text" u H Q = (_ ∧ Q _) := fun u Q => qW h0 h1
  simp only [yY, fu, vB0, vB1, kZ, jH, jB, List.map, La, Ln, Lz, Ls, es, jJ]
  refine ⟨by simp, fun t1 => ?_⟩
  have es2 : ∀ u Q, qT 118 (.ref x) "at" u (H.setM d (.dict (pt "text" (.str (S l) t) []))) Q = (_ ∧ Q _) := fun u Q => qW (by rw [jC ne]; exact h0) jP
  rw [es2]
  refine ⟨by simp [pt], h _ (leX_set.trans leX_set) ⟨by rw [jC ne, jC ne]; exact h0, ⟨t, t1, by rw [jP]; rfl⟩, ne, sm⟩⟩
theorem c_ps_init (F : FnIs G 165 ["self", "text"] [] fu qJ) {x d : Addr} {l : List Nat} {t : Tok} (h0 : H.M x = some (.inst 245 d)) (h1 : H.M d = some (.dict [])) (ne : x ≠ d) (sm : l.length < 100000)
    (h : ∀ H', LeX d H H' → Rd 245 H' x d l 0 → Q .none H') : CallT G C (n + 1) (.ref 165) [.ref x, .str (S l) t] H Q X := by
  refine jL F rfl ?_
  have es : ∀ u Q, qT 245 (.ref x) "text" u H Q = (_ ∧ Q _) := fun u Q => qW h0 h1
  simp only [qJ, fu, vB0, vB1, kZ, jH, jB, List.map, La, Ln, Lz, Ls, es, jJ]
  refine ⟨by simp, fun t1 => ?_⟩
  have es2 : ∀ u Q, qT 245 (.ref x) "at" u (H.setM d (.dict (pt "text" (.str (S l) t) []))) Q = (_ ∧ Q _) := fun u Q => qW (by rw [jC ne]; exact h0) jP
  rw [es2]
  refine ⟨by simp [pt], h _ (leX_set.trans leX_set) ⟨by rw [jC ne, jC ne]; exact h0, ⟨t, t1, by rw [jP]; rfl⟩, ne, sm⟩⟩
end
set_option genSizeOf false
set_option genSizeOfSpec false
structure Dec where
  neg : Bool
  whole : List Nat
  parts : Option (List Nat)
noncomputable def Dec.fig (z : Dec) : List Nat := z.whole ++ z.parts.getD []
noncomputable def Dec.tail (z : Dec) : List Nat := match z.parts with
  | some p => 46 :: p
  | none => []
noncomputable def Dec.text (z : Dec) : List Nat := (if z.neg then [45] else []) ++ z.whole ++ z.tail
structure Dec.Ok (z : Dec) : Prop where
  whole : ∀ c ∈ z.whole, c ∈ DG
  parts : ∀ c ∈ z.parts.getD [], c ∈ DG
  some_ : z.fig ≠ []
  few : z.fig.length ≤ 19
  low : (z.parts.getD []).length ≤ 9
theorem dg_le : ∀ c ∈ DG, c - 48 ≤ 9 := by decide
theorem num_lt (ds : List Nat) : ∀ a : Nat, (∀ c ∈ ds, c ∈ DG) → num a ds < (a + 1) * 10 ^ ds.length := by
  induction ds with
  | nil =>
    intro a _
    show a < (a + 1) * 10 ^ 0
    lia
  | cons c ds ih =>
    intro a h
    have hc : c - 48 ≤ 9 := dg_le c (h c (.head _))
    have ih := ih (a * 10 + (c - 48)) fun c hc => h c (.tail _ hc)
    show num (a * 10 + (c - 48)) ds < (a + 1) * 10 ^ (ds.length + 1)
    refine Nat.lt_of_lt_of_le ih ?_
    rw [Nat.pow_succ, Nat.mul_comm (10 ^ ds.length) 10, ← Nat.mul_assoc]
    exact Nat.mul_le_mul_right _ (by lia)
theorem nN {sg : List Nat} : ∀ {a b : List Nat}, (∀ c ∈ a, c ∈ sg) → (∀ c ∈ b.head?, c ∉ sg) → run sg (a ++ b) = a.length
  | [], [], _, _ => rfl
  | [], c :: b, _, h => by
    have : c ∉ sg := h c (by simp)
    simp [run, this]
  | c :: a, b, h, hb => by
    have : c ∈ sg := h c (.head _)
    simp [run, this, nN (sg := sg) (a := a) (b := b) (fun c hc => h c (.tail _ hc)) hb]
theorem dg_no (c : Nat) (h : c ∈ DG) : c ≠ 43 ∧ c ≠ 45 ∧ c ≠ 46 := by
  have key : ∀ c ∈ DG, c ≠ 43 ∧ c ≠ 45 ∧ c ≠ 46 := by decide
  exact key c h
noncomputable def Dec.i0 (z : Dec) : Nat := if z.neg then 1 else 0
theorem Dec.drop0 (z : Dec) : z.text.drop z.i0 = z.whole ++ z.tail := by
  unfold Dec.text Dec.i0
  cases z.neg <;> simp
theorem Dec.run0 (z : Dec) (h : z.Ok) : run DG (z.text.drop z.i0) = z.whole.length := by
  rw [z.drop0]
  refine nN h.whole fun c hc => ?_
  unfold Dec.tail at hc
  cases hp : z.parts with
  | none => rw [hp] at hc; cases hc
  | some p =>
    rw [hp] at hc
    simp at hc
    subst hc
    decide
theorem Dec.sign (z : Dec) (h : z.Ok) : yD z.text [43, 45] 0 = z.neg ∧ (z.neg = true → ∃ hi : 0 < z.text.length, z.text[0] = 45) := by
  unfold Dec.text
  cases hn : z.neg with
  | true => exact ⟨by simp [yD], fun _ => ⟨by simp, by simp⟩⟩
  | false =>
    refine ⟨?_, fun e => by cases e⟩
    cases hw : z.whole with
    | nil =>
      cases hp : z.parts with
      | none => exact absurd (by simp [Dec.fig, hw, hp]) h.some_
      | some p => simp [yD, Dec.tail, hp]
    | cons c r =>
      have hc := dg_no c (h.whole c (by rw [hw]; exact .head _))
      simp [yD, hc.1, hc.2.1]
theorem Dec.drop1 (z : Dec) : z.text.drop (z.i0 + z.whole.length) = z.tail := by
  rw [← List.drop_drop, z.drop0, List.drop_left]
section
variable {G : Gl} {H : AH} {Q : Value → AH → Prop} {C : Addr} {X : AH → Prop} {n : Nat}
theorem c_nt_skip' (F1 : FnIs G 101 ["self", "signs"] [] fu jK) (F : FnIs G 108 ["self", "signs"] [] fu zM) {x d : Addr} {l sg : List Nat} {i : Nat} {t : Tok} (r : Rd 118 H x d l i)
    (h : ∀ t H', LeX d H H' → Rd 118 H' x d l (i + if yD l sg i then 1 else 0) → Q (.str (S (if yD l sg i then pk l i else [])) t) H') : CallT G C (n + 2) (.ref 108) [.ref x, .str (S sg) t] H Q X := by
  refine c_nt_skip F1 F r (fun e t => ?_) (fun hi e t H' le r' => ?_)
  · have q := h t H (LeX.of_le (AH.Le.refl H))
    rw [e] at q
    exact q r
  · have q := h t H' le
    rw [e] at q
    have : pk l i = [l[i]] := by unfold pk; rw [List.drop_eq_getElem_cons hi]; rfl
    simp only [if_true, this] at q
    exact q r'
theorem Dec.len (z : Dec) : z.text.length = z.i0 + z.whole.length + z.tail.length := by
  unfold Dec.text Dec.i0
  cases z.neg <;> simp <;> lia
theorem Dec.small (z : Dec) (ok : z.Ok) : z.text.length < 100000 := by
  have h1 : z.tail.length ≤ 1 + (z.parts.getD []).length := by
    unfold Dec.tail
    cases z.parts <;> simp
    lia
  have h2 := ok.few
  have h3 : z.fig.length = z.whole.length + (z.parts.getD []).length := by simp [Dec.fig]
  have h4 : z.i0 ≤ 1 := by unfold Dec.i0; split <;> lia
  have := z.len
  lia
theorem Dec.at1 (z : Dec) : (∀ p, z.parts = some p → yD z.text [46] (z.i0 + z.whole.length) = true ∧ pk z.text (z.i0 + z.whole.length) = [46] ∧ z.text.drop (z.i0 + z.whole.length + 1) = p ∧ z.i0 + z.whole.length + 1 + p.length = z.text.length) ∧
    (z.parts = none → yD z.text [46] (z.i0 + z.whole.length) = false ∧ z.i0 + z.whole.length = z.text.length) := by
  have hd := z.drop1
  have hl := z.len
  generalize z.i0 + z.whole.length = i at hd hl ⊢
  refine ⟨fun p hp => ?_, fun hp => ?_⟩
  · have ht : z.tail = 46 :: p := by simp [Dec.tail, hp]
    rw [ht] at hd hl
    have hi : i < z.text.length := by rw [hl]; simp
    have hg : z.text[i] = 46 := by
      have := congrArg List.head? hd
      rw [List.head?_drop, List.getElem?_eq_getElem hi] at this
      simpa using this
    refine ⟨by simp [yD, hi, hg], by unfold pk; rw [hd]; rfl, ?_, by rw [hl]; simp; lia⟩
    rw [← List.drop_drop, hd]
    rfl
  · have ht : z.tail = [] := by simp [Dec.tail, hp]
    rw [ht] at hl
    have hi : z.text.length ≤ i := by rw [hl]; simp
    have : z.text[i]? = none := List.getElem?_eq_none hi
    exact ⟨by simp [yD, this], by rw [hl]; rfl⟩
theorem step_point (F1 : FnIs G 101 ["self", "signs"] [] fu jK) (F2 : FnIs G 108 ["self", "signs"] [] fu zM)
    (F3 : FnIs G 115 ["self"] ["begin"] fu zW) {k : Fu} {z : Dec} (ok : z.Ok) {x d : Addr} (r : Rd 118 H x d z.text (z.i0 + z.whole.length)) {v0 v2 v3 v4 v6 v7 : Option Value} {t : Tok} {K : Fl → List (Option Value) → AH → Prop}
    (h : ∀ t H', LeX d H H' → Rd 118 H' x d z.text z.text.length → K .next [v0, some (.ref x), v2, v3, v4, some (.str (S (z.parts.getD [])) t), v6, v7] H') :
    vcS G C (n + 2) X (.s (.s (.s (.s k)))) (.ite (.cmp .NotEq (.meth 118 108 (.loc 1) "skip" [(.cst (.str "."))]) (.cst (.str (S [])))) [.asg 5 (.meth 118 115 (.loc 1) "digits" [])] [])
      [v0, some (.ref x), v2, v3, v4, some (.str (S []) t), v6, v7] H K := by
  refine zU r fun fs ei hl => ?_
  simp only [jV, zT, vL0, vL1, jH, jB, zP, jQ, vB0, vB1, Lz, Ls, ei, jM, s46]
  refine ⟨hl "skip" (by decide) (by decide), fun t1 => ?_⟩
  refine c_nt_skip' F1 F2 r fun t2 H2 le2 r2 => ?_
  simp only [jM, nQ, jI, S_ne]
  obtain ⟨a1, a2⟩ := z.at1
  cases hp : z.parts with
  | none =>
    obtain ⟨o, e⟩ := a2 hp
    rw [hp] at h
    rw [o] at r2 ⊢
    refine fun t3 => ⟨fun e => by simp at e, fun _ => h _ _ le2 ?_⟩
    rw [← e]
    exact r2
  | some p =>
    obtain ⟨o, ep, ed, el⟩ := a1 p hp
    rw [hp] at h
    rw [o] at r2 ⊢
    simp only [if_true] at r2 ⊢
    rw [ep]
    refine fun t3 => ⟨fun _ => ?_, fun e => absurd e (by decide)⟩
    refine zU r2 fun fs2 ei2 hl2 => ?_
    simp only [ei2]
    refine ⟨hl2 "digits" (by decide) (by decide), c_nt_digits F1 F3 r2 fun t4 H3 le3 r3 => ?_⟩
    have er : run DG p = p.length := by
      have := nN (sg := DG) (a := p) (b := []) (fun c hc => ok.parts c (by rw [hp]; exact hc)) (by simp)
      simpa using this
    rw [ed, er, el] at r3
    rw [ed, er, List.take_length]
    exact h _ _ (le2.trans le3) r3
noncomputable def frac (a : Int) (b : Nat) : Int × Nat := (a.fdiv (Nat.gcd a.natAbs b : Nat), b / Nat.gcd a.natAbs b)
noncomputable def Dec.top (z : Dec) : Int := if z.neg then -((num 0 z.fig : Nat) : Int) else ((num 0 z.fig : Nat) : Int)
noncomputable def Dec.bot (z : Dec) : Nat := 10 ^ (z.parts.getD []).length
noncomputable def Dec.val (z : Dec) : Int × Nat := frac z.top z.bot
theorem le_new {H H' : AH} {x d : Addr} {mo mo' : MObj} (hx : H.free x) (hd : H.free d) (h : LeX d ((H.setM d mo).setM x mo') H') : AH.Le H H' :=
  ⟨fun a vs e => h.I a vs e, fun a m e => by
    have h1 : a ≠ d := fun q => by rw [q, hd.2] at e; cases e
    have h2 : a ≠ x := fun q => by rw [q, hx.2] at e; cases e
    exact h.M a m h1 (by rw [jC h2, jC h1]; exact e)⟩
theorem Dec.figs (z : Dec) (ok : z.Ok) : ∀ c ∈ z.fig, c ∈ DG := fun c h => by
  unfold Dec.fig at h
  rcases List.mem_append.mp h with h | h
  · exact ok.whole c h
  · exact ok.parts c h
theorem Dec.num_small (z : Dec) (ok : z.Ok) : num 0 z.fig < 10 ^ 19 := by
  have := num_lt z.fig 0 (z.figs ok)
  refine Nat.lt_of_lt_of_le this ?_
  rw [Nat.zero_add, Nat.one_mul]
  exact Nat.pow_le_pow_right (by decide) ok.few
theorem Dec.bot_small (z : Dec) (ok : z.Ok) : z.bot < 1073741824 ∧ 0 < z.bot := by
  refine ⟨Nat.lt_of_le_of_lt (Nat.pow_le_pow_right (by decide) ok.low) (by decide), Nat.pow_pos (by decide)⟩
theorem out_many {N B : Nat} (h1 : N < 10 ^ 19) (h2 : B < 1073741824) (h3 : 0 < B) : ¬ ((10 ^ 60 : Int) * (B : Int) ≤ (N : Int)) ∧ (0 < N → ¬ ((N : Int) * (10 ^ 60 : Int) < (B : Int))) := by
  refine ⟨?_, fun h => ?_⟩
  · have e : ((10 : Int) ^ 60) = ((10 ^ 60 : Nat) : Int) := by norm_cast
    rw [e]
    lia
  · have e : ((10 : Int) ^ 60) = ((10 ^ 60 : Nat) : Int) := by norm_cast
    rw [e]
    lia
theorem c_read_decimal (Fg : FnIs G 72 ["one", "other"] ["first", "second"] fu yK) (Ff : FnIs G 80 ["top", "bottom"] ["common"] fu uM) (F0 : FnIs G 94 ["self", "text"] [] fu yY) (F1 : FnIs G 101 ["self", "signs"] [] fu jK) (F2 : FnIs G 108 ["self", "signs"] [] fu zM)
    (F3 : FnIs G 115 ["self"] ["begin"] fu zW) (F4 : FnIs G 129 ["digits"] ["number", "digit"] fu uL) (F5 : FnIs G 136 ["reader"] ["sign", "digits"] fu qP)
    (F : FnIs G 143 ["text"] ["reader", "exponent", "sign", "whole", "parts", "top", "bottom"] fu xN) {z : Dec} {t : Tok} (ok : z.Ok)
    (h : ∀ (r : Addr) (t' u' : Tok) (H' : AH), AH.Le H H' → H'.I r = some [.int z.val.1 t', .int (z.val.2 : Nat) u'] → Q (.ref r) H') : CallT G C (n + 5) (.ref 143) [.str (S z.text) t] H Q X := by
  refine jL F rfl ?_
  simp only [xN, fu]
  refine jG ?_
  simp only [jV, v_new, vL0, vL1, jB, List.map, La, Ln, Lz]
  intro x d hx hd ne
  refine c_nt_init F0 jP (by rw [jC ne.symm]; exact jP) ne (z.small ok) fun H1 le1 r1 => ⟨rfl, ?_⟩
  simp only [Ts, Tz]
  refine jG ?_
  simp only [uC, yP, vL0, vL1, jH, jB, zP, Lz, Ls, jM, s43_45, s_n]
  refine zU r1 fun fs1 ei1 hl1 => ins_k ei1 (hl1 "skip" (by decide) (by decide)) fun t1 => c_nt_skip' F1 F2 r1 fun t2 H2 le2 r2 => ?_
  have hs := z.sign ok
  have ep : (0 + if yD z.text [43, 45] 0 = true then 1 else 0) = z.i0 := by rw [hs.1]; unfold Dec.i0; simp
  rw [ep] at r2
  refine zU r2 fun fs2 ei2 hl2 => ins_k ei2 (hl2 "digits" (by decide) (by decide)) (c_nt_digits F1 F3 r2 fun t3 H3 le3 r3 => ?_)
  have ew : (z.text.drop z.i0).take (run DG (z.text.drop z.i0)) = z.whole := by rw [z.run0 ok, z.drop0, List.take_left]
  rw [z.run0 ok] at r3
  rw [ew]
  refine fun t4 => ⟨by rw [sizeLine_eq]; simp, fun a ha => gR ⟨rfl, ?_⟩⟩
  simp only [List.reverse, List.reverseAux, sA0, sA1, Ts, Tz]
  refine jG (step_point F1 F2 F3 ok (r3.le (jD ha)) fun t5 H4 le4 r4 => ?_)
  have le : AH.Le H H4 := le_new hx hd (((le1.trans le2).trans le3).trans ((LeX.of_le (jD ha)).trans le4))
  have hf := ok.few
  have hsz : (19 : Nat) ≤ sizeLine := by rw [sizeLine_eq]; lia
  have hwp : z.whole.length + (z.parts.getD []).length = z.fig.length := by simp [Dec.fig]
  have hlf : ((S z.fig).length : Nat) = z.fig.length := rfl
  have hn := z.num_small ok
  have hb := z.bot_small ok
  have cat : ∀ {A B : Tok} {P : Value → AH → Prop}, (∀ t, P (.str (S z.fig) t) H4) → kA .Add (.str (S z.whole) A) (.str (S (z.parts.getD [])) B) H4 P := fun q => cat_S (by lia) q
  refine jG ?_
  simp only [zT, jQ, jH, jB, zB, Lz, Ls, jM, s_n]
  refine cat fun t6 t7 => ⟨fun e => absurd (S_yes e) ok.some_, fun _ => vcB_e (jG ?_)⟩
  simp only [zT, jQ, vL0, vL1, jB, fQ, zC, zB, Lz, Ls]
  refine cat fun t8 => ⟨by lia, fun t9 => ⟨fun e => absurd (of_decide_eq_true e) (by lia), fun _ => vcB_e (jG ?_)⟩⟩
  simp only [jV, vL0, vL1, jB, zD, zC, zB, Lz, Ls]
  refine c_read_exponent F1 F2 F5 r4 (by simp [yD]) fun t10 => ?_
  simp only [q_len, q_sub, yA]
  refine ⟨by lia, fun t11 t12 => jG ?_⟩
  refine r4.dk fun tx ta h2 => ?_
  simp only [zT, jQ, vL0, vL1, jB, zX, zC, Ts, Tz, Lz, Ls]
  refine (yL (u := .int (z.text.length : Nat) ta) r4.obj h2 rfl rfl).mpr ?_
  simp only [q_len, q_lt, jI, yA]
  refine ⟨by have := r4.small; lia, fun t13 => ⟨fun e => absurd (of_decide_eq_true e) (by lia), fun _ => vcB_e (jG ?_)⟩⟩
  simp only [uC, yP, vL0, vL1, jH, jB, zD, zC, zB, v_neg, Lz, Ls]
  refine cat fun t14 => c_whole_of F4 (z.figs ok) (by lia) fun t15 => ?_
  simp only [jJ, q_max, q_pow, gI]
  have e1 : (if (0 - ((z.parts.getD []).length : Int)) > 0 then (0 - ((z.parts.getD []).length : Int)) else 0) = 0 := if_neg (by lia)
  have e2 : (if -(0 - ((z.parts.getD []).length : Int)) > 0 then -(0 - ((z.parts.getD []).length : Int)) else 0) = ((z.parts.getD []).length : Int) := by split <;> lia
  have low := ok.low
  refine fun t16 t17 t18 => ⟨⟨by rw [e1]; lia, by rw [e1]; lia, by decide⟩, fun t19 => ⟨by rw [e1]; exact IntMulOk.of_right (intBits_le_64 (by decide) (by decide)), fun t20 t21 t22 t23 t24' => ⟨⟨by rw [e2]; lia, by rw [e2]; lia, by decide⟩, fun t24 => ⟨zN, fun a2 ha2 => gR ⟨rfl, ?_⟩⟩⟩⟩⟩
  have e3 : ((10 : Int) ^ (if -(0 - ((z.parts.getD []).length : Int)) > 0 then -(0 - ((z.parts.getD []).length : Int)) else 0).toNat) = ((z.bot : Nat) : Int) := by rw [e2]; unfold Dec.bot; simp
  have e4 : (((num 0 z.fig : Nat) : Int) * (10 : Int) ^ (if (0 - ((z.parts.getD []).length : Int)) > 0 then (0 - ((z.parts.getD []).length : Int)) else 0).toNat) = ((num 0 z.fig : Nat) : Int) := by rw [e1]; simp
  rw [e3, e4]
  obtain ⟨o1, o2⟩ := out_many hn hb.1 hb.2
  simp only [List.reverse, List.reverseAux, sA0, sA1, Ts, Tz]
  refine jG ?_
  simp only [zT, v_or, vA1, vA0, jH, jB, fQ, zB, jQ, v_cmp2, Lz, Ls, jJ, gI, q_ge, q_lt, jI]
  refine ⟨IntMulOk.of_right (intBits_le_64 (by lia) (by lia)), fun t25 => ⟨fun e => ?_, fun e => absurd (of_decide_eq_true e) o1⟩⟩
  refine fun t26 => ⟨IntMulOk.of_left (intBits_le_64 (by lia) (by lia)), fun t27 => ?_⟩
  generalize hK : vcB _ [] _ _ _ = P
  have hP : P := by
    subst hK
    refine vcB_e (jG ?_)
    simp only [zJ, vL0, vL1, jH, jB, zD, v_neg, jQ, uD, Lz, Ls, jM, s45, uS, jI]
    have es : (S (if yD z.text [43, 45] 0 = true then pk z.text 0 else []) == S [45]) = z.neg := by
      rw [mZ, hs.1]
      cases hn : z.neg with
      | true =>
        obtain ⟨hi, e⟩ := hs.2 hn
        have : pk z.text 0 = [z.text[0]] := by unfold pk; rw [List.drop_eq_getElem_cons hi]; rfl
        simp [this, e]
      | false => rfl
    have fin : ∀ (a : Int) (ta : Tok), a = z.top → CallT G C (n + 4) (.ref 80) [.int a ta, .int (z.bot : Nat) t24] (H4.setI a2 [.int (num 0 z.fig : Nat) t20, .int (z.bot : Nat) t24]) (fun v H => Q v H) X := fun a ta ea => by
      rw [ea]
      refine (mS Fg Ff hb.2 hb.1 (n := n + 2) fun r t' u' H' le' ei => ?_)
      exact h r t' u' H' (le.trans ((jD ha2).trans le')) ei
    exact fun t28 => ⟨fun e t29 => fin _ _ (by rw [Dec.top, if_pos (es.symm.trans e)]), fun e => fin _ _ (by rw [Dec.top, if_neg (by rw [← es, e]; exact Bool.false_ne_true)])⟩
  refine ⟨fun e0 => ⟨fun e => ?_, fun _ => hP⟩, fun e0 => ⟨fun e => absurd (e0.symm.trans e) (by decide), fun _ => hP⟩⟩
  have p0 := of_decide_eq_true e0
  exact absurd (of_decide_eq_true e) (o2 (by lia))
end
noncomputable abbrev AL : List Nat := [32, 45, 46] ++ DG ++ LT
noncomputable def Al (l : List Nat) : Prop := ∀ c ∈ l, c ∈ AL
noncomputable def Lim (l : List Nat) : Prop := ∀ i, run DG (l.drop i) ≤ 9
theorem al_no {l : List Nat} (h : Al l) (i : Nat) : pk l i ≠ [43] ∧ pk l i ≠ [101] ∧ pk l i ≠ [69] ∧ pk l i ≠ [44] := by
  have key : ∀ c ∈ AL, c ≠ 43 ∧ c ≠ 101 ∧ c ≠ 69 ∧ c ≠ 44 := by decide
  rcases pk_is (l := l) (i := i) with ⟨hi, e⟩ | ⟨_, e⟩
  · have := key l[i] (h _ (List.getElem_mem hi))
    rw [e]
    simpa using this
  · rw [e]; simp
noncomputable def jO (s : List Nat) : Bool × List Nat := if s.head? = some 45 then (true, s.tail) else (false, s)
noncomputable def kL (s : List Nat) : Option (List Nat) × List Nat := if s.head? = some 46 then (some (s.tail.take (run DG s.tail)), s.tail.drop (run DG s.tail)) else (none, s)
noncomputable def vL (s : List Nat) : Option (Dec × List Nat) :=
  let a := jO s
  let b := kL (a.2.drop (run DG a.2))
  let z : Dec := ⟨a.1, a.2.take (run DG a.2), b.1⟩
  if z.fig = [] then none else some (z, b.2)
theorem take_run (sg : List Nat) : ∀ l : List Nat, ∀ c ∈ l.take (run sg l), c ∈ sg
  | [], c, h => by simp at h
  | d :: l, c, h => by
    rw [run] at h
    split at h
    · rename_i hd
      rw [List.take_succ_cons] at h
      rcases List.mem_cons.mp h with h | h
      · rw [h]; exact hd
      · exact take_run sg l c h
    · simp at h
theorem vS (sg l : List Nat) : (l.take (run sg l)).length = run sg l := by
  rw [List.length_take, Nat.min_eq_left (run_le sg l)]
theorem gZ (s : List Nat) : s = (if (jO s).1 then [45] else []) ++ (jO s).2 ∧ ((jO s).1 = true ↔ s.take 1 = [45]) := by
  unfold jO
  cases s with
  | nil => simp
  | cons c r => by_cases h : c = 45 <;> simp [h]
theorem rdPart_is (s : List Nat) : (∃ p r, kL s = (some p, r) ∧ s = 46 :: p ++ r ∧ (∀ c ∈ p, c ∈ DG) ∧ p.length = run DG s.tail) ∨ (kL s = (none, s) ∧ s.take 1 ≠ [46]) := by
  unfold kL
  cases s with
  | nil => exact .inr ⟨rfl, by simp⟩
  | cons c r =>
    by_cases h : c = 46
    · subst h; exact .inl ⟨_, _, rfl, by simp, take_run DG r, vS DG r⟩
    · exact .inr ⟨if_neg (by simpa using h), by simpa using h⟩
theorem pZ {s r : List Nat} {z : Dec} (h : vL s = some (z, r)) : s = z.text ++ r ∧ (∀ c ∈ z.whole, c ∈ DG) ∧ (∀ c ∈ z.parts.getD [], c ∈ DG) ∧ z.fig ≠ [] ∧ z.text ≠ [] := by
  simp only [vL] at h
  split at h
  · cases h
  · rename_i hf
    have h := Option.some.inj h
    obtain ⟨hz, hr⟩ := Prod.mk.inj h
    have h1 := (gZ s).1
    have e1 : (jO s).2 = (jO s).2.take (run DG (jO s).2) ++ (jO s).2.drop (run DG (jO s).2) := (List.take_append_drop _ _).symm
    have hw := take_run DG (jO s).2
    rcases rdPart_is ((jO s).2.drop (run DG (jO s).2)) with ⟨p, q, e2, e3, e4, _⟩ | ⟨e2, _⟩
    · rw [e2] at hz hr hf
      have et : s = z.text ++ r := by
        rw [← hz, ← hr]
        simp only [Dec.text, Dec.tail]
        rw [e3] at e1
        simp only [List.append_assoc, La] at e1 ⊢
        rw [← e1]
        exact h1
      refine ⟨et, by rw [← hz]; exact hw, by rw [← hz]; exact e4, by rw [← hz]; exact hf, ?_⟩
      rw [← hz]
      simp [Dec.text, Dec.tail]
    · rw [e2] at hz hr hf
      have et : s = z.text ++ r := by
        rw [← hz, ← hr]
        simp only [Dec.text, Dec.tail]
        simp only [List.append_assoc, Ln] at e1 ⊢
        rw [← e1]
        exact h1
      refine ⟨et, by rw [← hz]; exact hw, by rw [← hz]; simp, by rw [← hz]; exact hf, ?_⟩
      rw [← hz]
      simp only [Dec.fig, Option.getD_none, List.append_nil] at hf
      intro e
      exact hf (List.append_eq_nil_iff.mp (List.append_eq_nil_iff.mp e).1).2
section
variable {G : Gl} {H : AH} {Q : Value → AH → Prop} {C : Addr} {X : AH → Prop} {n : Nat}
theorem num_sign (F2 : FnIs G 179 ["self"] [] fu jN) {k : Fu} {x d : Addr} {l : List Nat} {i : Nat} (al : Al l) (r : Rd 245 H x d l i) {ll : List (Option Value)} (hl : ll[0]? = some (some (.ref x))) {K : Fl → List (Option Value) → AH → Prop}
    (h : ∀ H', LeX d H H' → Rd 245 H' x d l (i + if (jO (l.drop i)).1 then 1 else 0) → K .next ll H') :
    vcS G C (n + 1) X (.s (.s (.s (.s (.s (.s k)))))) (.ite (.cmp .In (.meth 245 179 (.loc 0) "peek" []) (.tup [(.cst (.str "+")), (.cst (.str "-"))])) [.asgA 245 (.loc 0) "at" (.bin .Add (.attr 245 (.loc 0) "at") (.cst (.int 1)))] []) ll H K := by
  refine zU r fun fs ei hn => ?_
  rw [zT, jQ, zP, jB]
  simp only [hl, ei, vL0]
  refine ⟨hn "peek" (by decide) (by decide), xT F2 r fun t1 => ?_⟩
  simp only [vL0, vL1, jH, yP, jM, s43, s45]
  refine fun t2 t3 => ⟨zN, fun a ha => ?_⟩
  refine q_inT jS any2 (by simp) ?_
  have f1 : ([43] == (l.drop i).take 1) = false := beq_eq_false_iff_ne.mpr fun e => (al_no al i).1 e.symm
  have hs := (gZ (l.drop i)).2
  rw [f1]
  simp only [jI]
  cases hc : (jO (l.drop i)).1 with
  | true =>
    rw [hc] at hs h
    have e : (l.drop i).take 1 = [45] := hs.mp rfl
    rw [e]
    refine ⟨fun _ => body_loop (r.le (jD ha)) hl fun H' le r' => h H' ((LeX.of_le (jD ha)).trans le) r', fun e => absurd e (by decide)⟩
  | false =>
    rw [hc] at hs h
    have e : (l.drop i).take 1 ≠ [45] := fun e => by have := hs.mpr e; cases this
    have f2 : ([45] == (l.drop i).take 1) = false := beq_eq_false_iff_ne.mpr fun q => e q.symm
    rw [f2]
    exact ⟨fun e => absurd e (by decide), fun _ => h _ (LeX.of_le (jD ha)) (r.le (jD ha))⟩
theorem num_point (F2 : FnIs G 179 ["self"] [] fu jN) (F3 : FnIs G 214 ["self"] ["begin"] fu zS) {k : Fu} {x d : Addr} {l : List Nat} {i w : Nat} {t : Tok} (r : Rd 245 H x d l i) {v1 : Option Value} {K : Fl → List (Option Value) → AH → Prop}
    (h : ∀ t H' j, LeX d H H' → Rd 245 H' x d l j → l.drop j = (kL (l.drop i)).2 → j = i + (match (kL (l.drop i)).1 with | some p => 1 + p.length | none => 0) → K .next [some (.ref x), v1, some (.int (w + ((kL (l.drop i)).1.getD []).length : Nat) t)] H') :
    vcS G C (n + 1) X (.s (.s (.s (.s (.s (.s k)))))) (.ite (.cmp .Eq (.meth 245 179 (.loc 0) "peek" []) (.cst (.str "."))) [
   .asgA 245 (.loc 0) "at" (.bin .Add (.attr 245 (.loc 0) "at") (.cst (.int 1))),
   .asg 2 (.bin .Add (.loc 2) (.meth 245 214 (.loc 0) "digits" []))] []) [some (.ref x), v1, some (.int (w : Nat) t)] H K := by
  refine zU r fun fs ei hn => ?_
  rw [zT, jQ, zP, jB]
  simp only [Lz, ei, vL0]
  refine ⟨hn "peek" (by decide) (by decide), xT F2 r fun t1 => ?_⟩
  simp only [jH, jM, s46, uS, mZ, jI]
  refine fun t2 => ?_
  rcases rdPart_is (l.drop i) with ⟨p, q, ep, es, ed, el⟩ | ⟨ep, en⟩
  · have e : (l.drop i).take 1 = [46] := by rw [es]; rfl
    rw [e]
    refine ⟨fun _ => ?_, fun e => absurd e (by decide)⟩
    have sp : ∀ (s : RS) (rest : List RS) (ll : List (Option Value)) (K : Fl → List (Option Value) → AH → Prop), vcB (vcS G C (n + 1) X (.s (.s (.s (.s (.s k)))))) [s] ll H (fun f l H => match f with | .next => vcB (vcS G C (n + 1) X (.s (.s (.s (.s (.s k)))))) rest l H K | .ret v => K (.ret v) l H) → vcB (vcS G C (n + 1) X (.s (.s (.s (.s (.s k)))))) (s :: rest) ll H K := fun s rest ll K hh => hh
    refine sp _ _ _ _ (body_loop r rfl fun H1 le1 r1 => ?_)
    refine zU r1 fun fs1 ei1 hn1 => ?_
    simp only [vB0, vB1, jV, jB, zP, zB, vL0, Lz, Ls, ei1]
    refine ⟨hn1 "digits" (by decide) (by decide), c_ps_digits F3 r1 fun t3 H2 le2 r2 => ?_⟩
    have e5 : l.drop (i + 1) = p ++ q := by rw [← List.drop_drop, es]; rfl
    have e6 : run DG (l.drop (i + 1)) = p.length := by
      rw [el, ← List.drop_one, List.drop_drop]
    rw [e6] at r2 ⊢
    simp only [wQ, Ts, Tz]
    intro t4
    rw [ep] at h
    have e7 : ((w : Int) + ((p.length : Nat) : Int)) = ((w + p.length : Nat) : Int) := by lia
    rw [e7]
    refine h t4 H2 _ (le1.trans le2) r2 ?_ (by simp; lia)
    rw [← List.drop_drop, e5, List.drop_left]
  · have f : ((l.drop i).take 1 == [46]) = false := beq_eq_false_iff_ne.mpr en
    have h' := h t H i (LeX.of_le (AH.Le.refl H)) r
    rw [ep] at h'
    rw [f]
    exact ⟨fun e => absurd e (by decide), fun _ => h' rfl rfl⟩
theorem c_ps_number (F2 : FnIs G 179 ["self"] [] fu jN) (F3 : FnIs G 214 ["self"] ["begin"] fu zS) (F4 : FnIs G 221 ["self"] ["ahead"] fu zV)
    (RD : ∀ {H : AH} {Q : Value → AH → Prop} {X : AH → Prop} {z : Dec} {t : Tok}, z.Ok → (∀ (r : Addr) (t' u' : Tok) (H' : AH), AH.Le H H' → H'.I r = some [.int z.val.1 t', .int (z.val.2 : Nat) u'] → Q (.ref r) H') → CallT G C (n + 5) (.ref 143) [.str (S z.text) t] H Q X)
    (F : FnIs G 228 ["self"] ["begin", "many"] fu yX) {x d : Addr} {l : List Nat} {i : Nat} (fa : FaultC G C (n + 5) X x d) (al : Al l) (lim : Lim l) (r : Rd 245 H x d l i)
    (h : ∀ z s, vL (l.drop i) = some (z, s) → ∀ rr t' u' H' j, LeX d H H' → Rd 245 H' x d l j → l.drop j = s → H'.I rr = some [.int z.val.1 t', .int (z.val.2 : Nat) u'] → Q (.ref rr) H')
    (hx : vL (l.drop i) = none → ∀ H', LeX d H H' → X H') : CallT G C (n + 6) (.ref 228) [.ref x] H Q X := by
  refine jL F rfl ?_
  refine r.dk fun tx ta h2 => ?_
  have ea : ∀ Q, jY 245 (.ref x) "at" H Q = Q (.int i ta) H := fun Q => yL r.obj h2 rfl rfl
  simp only [yX, fu, vB0, vB1]
  rw [jV, zX, jB]
  simp only [List.map, La, Ln, Lz, ea, Ts, Tz]
  refine num_sign F2 al r rfl fun H1 le1 r1 => ?_
  have d1 : l.drop (i + if (jO (l.drop i)).1 = true then 1 else 0) = (jO (l.drop i)).2 := by
    have := (gZ (l.drop i)).1
    rw [← List.drop_drop]
    cases hs : (jO (l.drop i)).1 with
    | true =>
      rw [hs] at this
      rw [this]
      rfl
    | false =>
      rw [hs] at this
      simpa using this
  have hi : (if (jO (l.drop i)).1 = true then [45] else ([] : List Nat)).length = if (jO (l.drop i)).1 = true then 1 else 0 := by split <;> rfl
  have ht := (gZ (l.drop i)).1
  have hnum : vL (l.drop i) = (if (⟨(jO (l.drop i)).1, (jO (l.drop i)).2.take (run DG (jO (l.drop i)).2), (kL ((jO (l.drop i)).2.drop (run DG (jO (l.drop i)).2))).1⟩ : Dec).fig = [] then none else some (_, _)) := rfl
  generalize hi1 : i + (if (jO (l.drop i)).1 = true then 1 else 0) = i1 at r1 d1
  refine zU r1 fun fs1 ei1 hn1 => ?_
  rw [jV, zP, jB]
  simp only [vL0, Lz, ei1]
  refine ⟨hn1 "digits" (by decide) (by decide), c_ps_digits F3 r1 fun t2 H2 le2 r2 => ?_⟩
  simp only [Ts, Tz]
  refine num_point F2 F3 r2 fun t3 H3 j le3 r3 dj ej => ?_
  have d2 : l.drop (i1 + run DG (l.drop i1)) = (jO (l.drop i)).2.drop (run DG (jO (l.drop i)).2) := by rw [← List.drop_drop, d1]
  have lw := lim i1
  have lp := lim (i1 + run DG (l.drop i1) + 1)
  rw [d2] at dj ej
  rw [d1] at lw
  have lpar : ((kL ((jO (l.drop i)).2.drop (run DG (jO (l.drop i)).2))).1.getD []).length ≤ 9 := by
    rw [← d2]
    rcases rdPart_is (l.drop (i1 + run DG (l.drop i1))) with ⟨p, q, ep, es, ed, el⟩ | ⟨ep, en⟩
    · rw [ep]
      show p.length ≤ 9
      rw [el, ← List.drop_one, List.drop_drop]
      exact lp
    · rw [ep]; exact Nat.zero_le _
  have many : run DG (l.drop i1) + ((kL (l.drop (i1 + run DG (l.drop i1)))).1.getD []).length = (⟨(jO (l.drop i)).1, (jO (l.drop i)).2.take (run DG (jO (l.drop i)).2), (kL ((jO (l.drop i)).2.drop (run DG (jO (l.drop i)).2))).1⟩ : Dec).fig.length := by
    rw [d2, d1]
    simp only [Dec.fig, List.length_append, vS]
  rw [many]
  have hlen : j = i1 + run DG (l.drop i1) + (match (kL ((jO (l.drop i)).2.drop (run DG (jO (l.drop i)).2))).1 with | some p => 1 + p.length | none => 0) := ej
  generalize hz : (⟨(jO (l.drop i)).1, (jO (l.drop i)).2.take (run DG (jO (l.drop i)).2), (kL ((jO (l.drop i)).2.drop (run DG (jO (l.drop i)).2))).1⟩ : Dec) = z at hnum ⊢
  have hj : j = i + z.text.length := by
    rw [z.len, hlen, d1, ← hi1, ← hz]
    simp only [Dec.i0, Dec.tail, vS]
    cases (kL ((jO (l.drop i)).2.drop (run DG (jO (l.drop i)).2))).1 <;> simp <;> lia
  have zw : z.whole.length ≤ 9 := by rw [← hz]; simp only [vS]; exact lw
  have zp : (z.parts.getD []).length ≤ 9 := by rw [← hz]; exact lpar
  have hc : decide ((z.fig.length : Int) = 0) = decide (z.fig = []) := by
    by_cases e : z.fig = []
    · simp [e]
    · simp [e]
  have le : LeX d H H3 := (le1.trans le2).trans le3
  have hb : (((z.fig.length : Nat) : Int) == 0) = decide (z.fig = []) := by
    rw [← hc]
    rfl
  refine r3.dk fun tx3 ta3 h3 => ?_
  rw [zT, jQ]
  simp only [jH, jB, Lz, Ls, jJ, q_eq, jI, hb]
  refine fun t4 => ⟨fun e => ?_, fun e => ?_⟩
  · -- nothing: a fault
    have hf : z.fig = [] := of_decide_eq_true e
    rw [if_pos hf] at hnum
    have es : ∀ u Q, qT 245 (.ref x) "at" u H3 Q = (_ ∧ Q _) := fun u Q => qW r3.obj h3
    simp only [vB0, vB1, kZ, qF, zJ, w_tryN, jH, jB, zX, zD, zP, gE, vL0, vL1, Lz, Ls, es, jM]
    refine ⟨by simp, ?_⟩
    rw [pt_at]
    have r4 := r3.set (j := i) tx3 ta
    refine zU r4 fun fs4 ei4 hn4 => ?_
    simp only [ei4]
    exact ⟨hn4 "fault" (by decide) (by decide), fun t5 => fa r4 (hx hnum _ (le.trans leX_set))⟩
  · have hf : ¬ z.fig = [] := of_decide_eq_false e
    rw [if_neg hf] at hnum
    obtain ⟨zt, zwh, zpa, zf, _⟩ := pZ hnum
    have ok : z.Ok := ⟨zwh, zpa, zf, by have : z.fig.length = z.whole.length + (z.parts.getD []).length := by simp [Dec.fig]
                                        lia, zp⟩
    rw [vB0]
    show vcS _ _ _ _ _ _ _ _ _
    refine zU r3 fun fs3 ei3 hn3 => ?_
    simp only [qF, w_tryN, jB, zP, vL0, Lz, ei3]
    have hp := al_no al j
    refine ⟨hn3 "exponent" (by decide) (by decide), c_ps_exponent F2 F4 r3 ⟨hp.2.1, hp.2.2.1⟩ fun H4 le4 => ?_⟩
    have r4 := r3.le le4
    refine r4.dk fun tx4 ta4 h4 => ?_
    have ea4 : ∀ Q, jY 245 (.ref x) "at" H4 Q = Q (.int j ta4) H4 := fun Q => yL r4.obj h4 rfl rfl
    have et4 : ∀ Q, jY 245 (.ref x) "text" H4 Q = Q (.str (S l) tx4) H4 := fun Q => yL r4.obj h4 rfl rfl
    simp only [zJ, vB0, vB1, jB, zX, zD, gE, vL0, vL1, Lz, Ls, ea4, et4, q_slc, yA]
    refine ⟨by have := r.small; rw [sizeLine_eq]; lia, fun t5 => ?_⟩
    rw [rG (by lia), hj, Nat.add_sub_cancel_left, zt, List.take_left]
    refine RD ok fun rr t' u' H5 le5 e5 => ?_
    refine h z _ hnum rr t' u' H5 j (le.trans ((LeX.of_le le4).trans (LeX.of_le le5))) (r4.le le5) dj e5
end
set_option genSizeOf false
set_option genSizeOfSpec false
structure Fn (G : Gl) : Prop where
  common_divisor : FnIs G 72 ["one", "other"] ["first", "second"] fu yK
  fraction : FnIs G 80 ["top", "bottom"] ["common"] fu uM
  NumberText_init : FnIs G 94 ["self", "text"] [] fu yY
  NumberText_is_one_of : FnIs G 101 ["self", "signs"] [] fu jK
  NumberText_skip : FnIs G 108 ["self", "signs"] [] fu zM
  NumberText_digits : FnIs G 115 ["self"] ["begin"] fu zW
  whole_of : FnIs G 129 ["digits"] ["number", "digit"] fu uL
  read_exponent : FnIs G 136 ["reader"] ["sign", "digits"] fu qP
  read_decimal : FnIs G 143 ["text"] ["reader", "exponent", "sign", "whole", "parts", "top", "bottom"] fu xN
  write_decimal : FnIs G 151 ["a", "places"] ["scale", "scaled", "told", "rest", "parts"] fu vJ
  PathScanner_init : FnIs G 165 ["self", "text"] [] fu qJ
  PathScanner_is_over : FnIs G 172 ["self"] [] fu zY
  PathScanner_peek : FnIs G 179 ["self"] [] fu jN
  PathScanner_spaces : FnIs G 193 ["self"] [] fu zG
  PathScanner_separator : FnIs G 200 ["self"] [] fu zR
  PathScanner_looks_number : FnIs G 207 ["self"] ["sign"] fu zH
  PathScanner_digits : FnIs G 214 ["self"] ["begin"] fu zS
  PathScanner_exponent : FnIs G 221 ["self"] ["ahead"] fu zV
  PathScanner_number : FnIs G 228 ["self"] ["begin", "many"] fu yX
  PathScanner_flag : FnIs G 235 ["self"] ["sign"] fu qK
  PathScanner_command : FnIs G 242 ["self"] ["letter"] fu yO
  many_of : FnIs G 256 ["letter"] [] fu fJ
  letter_behind : FnIs G 263 ["letter"] [] fu kS
  read_group : FnIs G 270 ["scanner", "letter"] ["found", "place"] fu wK
  goes_on : FnIs G 277 ["scanner"] ["has_comma"] fu fK
  read_into : FnIs G 284 ["scanner", "found"] ["letter"] fu gW
  read_commands : FnIs G 291 ["text"] ["found"] fu vK
  short : FnIs G 298 ["number"] ["text"] fu b_short
  wants_blank : FnIs G 305 ["ahead", "text"] [] fu pH
  PathWriter_init : FnIs G 319 ["self"] [] fu xO
  PathWriter_put_letter : FnIs G 326 ["self", "letter"] [] fu qE
  PathWriter_put_number : FnIs G 333 ["self", "number"] ["text"] fu qD
  PathWriter_put_flag : FnIs G 340 ["self", "flag"] [] fu qS
  PathWriter_put : FnIs G 347 ["self", "letter", "numbers"] ["place"] fu xV
  write_path : FnIs G 361 ["commands"] ["writer", "letter", "numbers"] fu wJ
  numbers_of : FnIs G 368 ["points"] ["found", "x", "y"] fu wL
  command_of : FnIs G 375 ["segment"] ["kind", "flags"] fu wN
  law_pool : FnIs G 387 ["script", "k"] ["cell", "big", "mixed"] fu mX
  law_take : FnIs G 394 ["source", "top"] ["digit"] fu mW
  law_one : FnIs G 401 ["source", "things"] [] fu b_law_one
  law_number : FnIs G 408 ["source"] [] fu wM
  law_command : FnIs G 415 ["source", "letters"] ["letter", "many", "numbers", "place", "is_flag"] fu pI
  law_told : FnIs G 422 ["number"] ["size", "text", "whole", "parts"] fu mU
  law_text : FnIs G 429 ["commands"] ["text", "letter", "last", "word", "numbers", "place", "number", "one", "is_apart"] fu mV
inductive Arg where
  | num (p : Int) (q : Nat)
  | flag (k : Nat)
  deriving DecidableEq
structure Cmd where
  c : Nat
  args : List Arg
  deriving DecidableEq
inductive Alls {α β : Type} (R : α → β → Prop) : List α → List β → Prop
  | nil : Alls R [] []
  | cons {a b as bs} : R a b → Alls R as bs → Alls R (a :: as) (b :: bs)
theorem Alls.mono {α β : Type} {R R' : α → β → Prop} (h : ∀ a b, R a b → R' a b) {as : List α} {bs : List β} : Alls R as bs → Alls R' as bs
  | .nil => .nil
  | .cons x y => .cons (h _ _ x) (y.mono h)
theorem Alls.snoc {α β : Type} {R : α → β → Prop} {as : List α} {bs : List β} {a : α} {b : β} (r : R a b) : Alls R as bs → Alls R (as ++ [a]) (bs ++ [b])
  | .nil => .cons r .nil
  | .cons x y => .cons x (y.snoc r)
theorem Alls.len {α β : Type} {R : α → β → Prop} {as : List α} {bs : List β} : Alls R as bs → as.length = bs.length
  | .nil => rfl
  | .cons x y => by simp [y.len]
noncomputable def ArgV (H : AH) (v : Value) : Arg → Prop
  | .num p q => ∃ r t u, v = .ref r ∧ H.I r = some [.int p t, .int (q : Nat) u]
  | .flag k => ∃ t, v = .int (k : Nat) t
theorem ArgV.up {H H' : AH} (h : ∀ a vs, H.I a = some vs → H'.I a = some vs) {v : Value} {a : Arg} (x : ArgV H v a) : ArgV H' v a := by
  cases a with
  | num p q => obtain ⟨r, t, u, e, i⟩ := x; exact ⟨r, t, u, e, h _ _ i⟩
  | flag k => exact x
theorem yG {H H' : AH} (h : ∀ a vs, H.I a = some vs → H'.I a = some vs) {vs : List Value} {as : List Arg} (x : Alls (ArgV H) vs as) : Alls (ArgV H') vs as := x.mono fun _ _ => ArgV.up h
noncomputable def spS (s : List Nat) : List Nat := s.drop (run BL s)
theorem drop_sp (l : List Nat) (i : Nat) : l.drop (sp l i) = spS (l.drop i) := by unfold sp spS; rw [List.drop_drop]
theorem sep_al {l : List Nat} (al : Al l) (i : Nat) : nJ l i = sp l i ∧ uJ l i = false := by
  have := (al_no al (sp l i)).2.2.2
  exact ⟨by simp [nJ, this], by simp [uJ, this]⟩
noncomputable def wA (s : List Nat) : Option (Nat × List Nat) := if s.head? = some 48 then some (0, s.tail) else if s.head? = some 49 then some (1, s.tail) else none
theorem rdFlag_some {s : List Nat} {y : Nat × List Nat} (h : wA s = some y) : s = (48 + y.1) :: y.2 ∧ y.1 ≤ 1 := by
  unfold wA at h
  cases s with
  | nil => cases h
  | cons c r =>
    split at h
    · rename_i e; cases h; cases e; exact ⟨rfl, Nat.zero_le _⟩
    split at h
    · rename_i e; cases h; cases e; exact ⟨rfl, Nat.le_refl _⟩
    · cases h
noncomputable def vN (f : Bool) (s : List Nat) : Option (Arg × List Nat) := if f then (wA s).map fun x => (.flag x.1, x.2) else (vL s).map fun x => (.num x.1.val.1 x.1.val.2, x.2)
noncomputable def qX (arc : Bool) : Nat → Nat → List Nat → Option (List Arg × List Nat)
  | 0, _, s => some ([], s)
  | n + 1, p, s => match vN (arc && (p == 3 || p == 4)) (if p = 0 then s else spS s) with
    | none => none
    | some (a, r) => match qX arc n (p + 1) r with
      | none => none
      | some (as, r') => some (a :: as, r')
theorem rdA1 {arc : Bool} {n p : Nat} {s : List Nat} : qX arc (n + 1) p s = match vN (arc && (p == 3 || p == 4)) (if p = 0 then s else spS s) with
    | none => none
    | some (a, r) => match qX arc n (p + 1) r with
      | none => none
      | some (as, r') => some (a :: as, r') := rfl
theorem optA_ {o : Option (Arg × List Nat)} {F : Arg → List Nat → Option (List Arg × List Nat)} {y : List Arg × List Nat} {p : Prop} (h : (match o with | none => none | some (a, r) => F a r) = some y) (k : ∀ a r, o = some (a, r) → F a r = some y → p) : p := by
  cases o <;> first | exact k _ _ rfl h | cases h
theorem optL_ {o : Option (List Arg × List Nat)} {β : Type} {F : List Arg → List Nat → Option β} {y : β} {p : Prop} (h : (match o with | none => none | some (a, r) => F a r) = some y) (k : ∀ a r, o = some (a, r) → F a r = some y → p) : p := by
  cases o <;> first | exact k _ _ rfl h | cases h
theorem rdFlag_is {l : List Nat} {i : Nat} : (∀ hi : i < l.length, (l[i] = 48 ∨ l[i] = 49) → wA (l.drop i) = some (l[i] - 48, l.drop (i + 1))) ∧ (pk l i ≠ [48] → pk l i ≠ [49] → wA (l.drop i) = none) := by
  refine ⟨fun hi h => ?_, fun h1 h2 => ?_⟩
  · rw [List.drop_eq_getElem_cons hi]
    rcases h with h | h <;> rw [h] <;> rfl
  · unfold pk at h1 h2
    generalize l.drop i = s at h1 h2
    cases s with
    | nil => rfl
    | cons c r =>
      have n1 : c ≠ 48 := by simpa using h1
      have n2 : c ≠ 49 := by simpa using h2
      simp [wA, n1, n2]
structure LeY (d f : Addr) (H H' : AH) : Prop where
  I : ∀ a vs, H.I a = some vs → H'.I a = some vs
  M : ∀ a mo, a ≠ d → a ≠ f → H.M a = some mo → H'.M a = some mo
theorem LeY.of_le {d f : Addr} {H H' : AH} (h : AH.Le H H') : LeY d f H H' := ⟨h.1, fun a mo _ _ e => h.2 a mo e⟩
theorem LeX.y {d f : Addr} {H H' : AH} (h : LeX d H H') : LeY d f H H' := ⟨h.1, fun a mo n _ e => h.2 a mo n e⟩
theorem LeY.trans {d f : Addr} {H H₁ H₂ : AH} (x : LeY d f H H₁) (y : LeY d f H₁ H₂) : LeY d f H H₂ := ⟨fun a v h => y.I a v (x.I a v h), fun a v n m h => y.M a v n m (x.M a v n m h)⟩
theorem LeY.set {d f : Addr} {H : AH} {mo : MObj} : LeY d f H (H.setM f mo) := ⟨fun _ _ h => h, fun a mo' _ ne h => by rw [jC ne]; exact h⟩
theorem Rd.setf {K : Addr} {H : AH} {x d f : Addr} {l : List Nat} {i : Nat} {mo : MObj} (r : Rd K H x d l i) (n1 : x ≠ f) (n2 : d ≠ f) : Rd K (H.setM f mo) x d l i :=
  ⟨by rw [jC n1]; exact r.obj, let ⟨tx, ta, e⟩ := r.dct; ⟨tx, ta, by rw [jC n2]; exact e⟩, r.ne, r.small⟩
section
variable {G : Gl} {H : AH} {Q : Value → AH → Prop} {C : Addr} {X : AH → Prop} {n : Nat}
theorem Fn.number (F : Fn G) {x d : Addr} {l : List Nat} {i : Nat} (fa : FaultC G C (n + 5) X x d) (al : Al l) (lim : Lim l) (r : Rd 245 H x d l i)
    (h : ∀ z s, vL (l.drop i) = some (z, s) → ∀ rr t' u' H' j, LeX d H H' → Rd 245 H' x d l j → l.drop j = s → H'.I rr = some [.int z.val.1 t', .int (z.val.2 : Nat) u'] → Q (.ref rr) H')
    (hx : vL (l.drop i) = none → ∀ H', LeX d H H' → X H') : CallT G C (n + 6) (.ref 228) [.ref x] H Q X :=
  c_ps_number F.PathScanner_peek F.PathScanner_digits F.PathScanner_exponent (fun ok h => c_read_decimal F.common_divisor F.fraction F.NumberText_init F.NumberText_is_one_of F.NumberText_skip F.NumberText_digits F.whole_of F.read_exponent F.read_decimal ok h) F.PathScanner_number fa al lim r h hx
theorem any2i {a b x : Int} {t u w : Tok} : yH (.int x w) [.int a t, .int b u] = some ((a == x) || ((b == x) || false)) := by
  simp only [aF0, aF1, kQ]
end
noncomputable def zL (c : Nat) : Bool := decide (c ∈ [65, 97])
theorem gX (m p : Nat) : pK (m + 1) p = .int (p : Nat) :: pK m (p + 1) := by
  unfold pK
  rw [List.range'_succ, List.map_cons]
theorem rdNum_drop {l : List Nat} {i : Nat} {z : Dec} {s : List Nat} (h : vL (l.drop i) = some (z, s)) : s.length < (l.drop i).length := by
  obtain ⟨e, _, _, _, ne⟩ := pZ h
  have := List.length_pos_iff.mpr ne
  rw [e, List.length_append]
  lia
section
variable {G : Gl} {H : AH} {Q : Value → AH → Prop} {C : Addr} {X : AH → Prop} {n : Nat}
theorem group_sep (F : Fn G) {k : Fu} {x d : Addr} {l : List Nat} {i p : Nat} {tp : Tok} (al : Al l) (r : Rd 245 H x d l i) {v1 v2 : Option Value} {K : Fl → List (Option Value) → AH → Prop}
    (h : ∀ H1 i1, LeX d H H1 → Rd 245 H1 x d l i1 → l.drop i1 = (if p = 0 then l.drop i else spS (l.drop i)) → K .next [some (.ref x), v1, v2, some (.int (p : Nat) tp)] H1) :
    vcS G C (n + 6) X (.s (.s (.s (.s (.s (.s k)))))) (.ite (.cmp .Gt (.loc 3) (.cst (.int 0))) [.exp (.meth 245 200 (.loc 0) "separator" [])] []) [some (.ref x), v1, v2, some (.int (p : Nat) tp)] H K := by
  refine zU r fun fs ei hn => ?_
  simp only [vB0, vB1, qF, zT, jH, jB, zP, jQ, vL0, Lz, Ls, jJ, q_gt, jI, ei]
  refine fun t1 => ⟨fun e => ⟨hn "separator" (by decide) (by decide), ?_⟩, fun e => ?_⟩
  · have hp : ¬ p = 0 := by have := of_decide_eq_true e; lia
    rw [if_neg hp] at h
    refine c_ps_sep (n := n + 4) F.PathScanner_spaces F.PathScanner_peek F.PathScanner_separator r fun H1 le1 r1 => ?_
    have hs := sep_al al i
    rw [hs.1] at r1
    exact h H1 _ le1 r1 (drop_sp l i)
  · have hp : p = 0 := by have := of_decide_eq_false e; lia
    rw [if_pos hp] at h
    exact h H i (LeX.of_le (AH.Le.refl H)) r rfl
theorem group_body (F : Fn G) {k : Fu} {x d f : Addr} {l : List Nat} {i c p : Nat} {t tp : Tok} (fa : FaultC G C (n + 5) X x d) (al : Al l) (lim : Lim l) (n1 : x ≠ f) (n2 : d ≠ f) {vs : List Value} {as : List Arg} {Qf : Fl → List (Option Value) → AH → Prop}
    (r : Rd 245 H x d l i) (hf : H.M f = some (.list vs)) (hv : Alls (ArgV H) vs as) (hl : vs.length ≤ 10)
    (h : ∀ a s, vN (zL c && (p == 3 || p == 4)) (if p = 0 then l.drop i else spS (l.drop i)) = some (a, s) → ∀ H' vs' j, LeY d f H H' → Rd 245 H' x d l j → l.drop j = s → H'.M f = some (.list vs') → vs'.length = vs.length + 1 → Alls (ArgV H') vs' (as ++ [a]) →
      Qf .next [some (.ref x), some (.str (S [c]) t), some (.ref f), some (.int (p : Nat) tp)] H')
    (hx : vN (zL c && (p == 3 || p == 4)) (if p = 0 then l.drop i else spS (l.drop i)) = none → ∀ H', LeY d f H H' → X H') :
    vcB (vcS G C (n + 6) X (.s (.s (.s (.s (.s (.s k))))))) vA [some (.ref x), some (.str (S [c]) t), some (.ref f), some (.int (p : Nat) tp)] H Qf := by
  rw [vA, vB1]
  refine group_sep F al r fun H1 i1 le1' r1 d1 => ?_
  have le1 : LeY d f H H1 := le1'.y
  have f1 := le1'.M f _ n2.symm hf
  rw [← d1] at h hx
  have hv1 := yG le1.I hv
  have done : ∀ (a : Arg) (s : List Nat), vN (zL c && (p == 3 || p == 4)) (l.drop i1) = some (a, s) → ∀ (v : Value) (H2 : AH) (j : Nat), LeY d f H1 H2 → Rd 245 H2 x d l j → l.drop j = s → H2.M f = some (.list vs) → ArgV H2 v a →
      Qf .next [some (.ref x), some (.str (S [c]) t), some (.ref f), some (.int (p : Nat) tp)] (H2.setM f (.list (vs ++ [v]))) := fun a s ha v H2 j le2 r2 d2 f2 va =>
    h a s ha _ (vs ++ [v]) j ((le1.trans le2).trans LeY.set) (r2.setf n1 n2) d2 jP (by simp) ((yG le2.I hv1).snoc va)
  have flagged : (zL c && (p == 3 || p == 4)) = true → ∀ (Kf : Fl → List (Option Value) → AH → Prop), (∀ ll H, Qf .next ll H → Kf .next ll H) → ∀ H2, AH.Le H1 H2 → vcB (vcS G C (n + 6) X (.s (.s (.s (.s (.s k)))))) [.exp (.bmeth .append (.loc 2) [(.meth 245 235 (.loc 0) "flag" [])])] [some (.ref x), some (.str (S [c]) t), some (.ref f), some (.int (p : Nat) tp)] H2 Kf := fun ht Kf hKf H2 le2 => by
    rw [ht] at hx done
    have r2 := r1.le le2
    refine zU r2 fun fs ei hn => ?_
    simp only [vB0, vB1, qF, jB, zP, yS, vL0, vL1, Lz, Ls, ei, bmOk, le2.2 _ _ f1]
    refine ⟨trivial, hn "flag" (by decide) (by decide), ?_⟩
    refine c_ps_flag (n := n + 4) F.PathScanner_peek F.PathScanner_flag fa r2 (fun hi h01 t5 H3 le3 r3 => ?_) (fun e1 e2 => hx (by simp [vN, rdFlag_is.2 e1 e2]) _ (le1.trans (LeY.of_le le2)))
    have f3 := le3.M f _ n2.symm (le2.2 _ _ f1)
    simp only [fV, pA, m_up, fU, gK, f3]
    refine ⟨by lia, ?_⟩
    refine hKf _ _ <| done (.flag (l[i1] - 48)) (l.drop (i1 + 1)) (by simp [vN, rdFlag_is.1 hi h01]) _ H3 (i1 + 1) ((LeY.of_le le2).trans le3.y) r3 rfl f3 ⟨t5, rfl⟩
  have told : (zL c && (p == 3 || p == 4)) = false → ∀ (Kf : Fl → List (Option Value) → AH → Prop), (∀ ll H, Qf .next ll H → Kf .next ll H) → ∀ H2, AH.Le H1 H2 → vcB (vcS G C (n + 6) X (.s (.s (.s (.s (.s k)))))) [.exp (.bmeth .append (.loc 2) [(.meth 245 228 (.loc 0) "number" [])])] [some (.ref x), some (.str (S [c]) t), some (.ref f), some (.int (p : Nat) tp)] H2 Kf := fun ht Kf hKf H2 le2 => by
    rw [ht] at hx done
    have r2 := r1.le le2
    refine zU r2 fun fs ei hn => ?_
    simp only [vB0, vB1, qF, jB, zP, yS, vL0, vL1, Lz, Ls, ei, bmOk, le2.2 _ _ f1]
    refine ⟨trivial, hn "number" (by decide) (by decide), ?_⟩
    refine F.number fa al lim r2 (fun z s ez rr t' u' H3 j le3 r3 d3 e3 => ?_) (fun ez H3 le3 => hx (by simp [vN, ez]) _ (le1.trans ((LeY.of_le le2).trans le3.y)))
    have f3 := le3.M f _ n2.symm (le2.2 _ _ f1)
    simp only [fV, pA, m_up, fU, gK, f3]
    refine ⟨by lia, ?_⟩
    refine hKf _ _ <| done (.num z.val.1 z.val.2) s (by simp [vN, ez]) _ H3 j ((LeY.of_le le2).trans le3.y) r3 d3 f3 ⟨rr, t', u', rfl, e3⟩
  show vcB _ _ _ _ _
  refine jG ?_
  simp only [zT, jH, jB, uQ, jQ, yP, vA0, vA1, Lz, Ls, jM, s65_97, q_in, jI, gB]
  refine fun t1 => ⟨fun e t2 t3 => ?_, fun e => ?_⟩
  · have hc : zL c = true := e
    simp only [vL0]
    refine ⟨zN, fun a ha => ?_⟩
    refine q_inT jS any2i (by simp) ?_
    have hp : ((3 : Int) == (p : Int) || ((4 : Int) == (p : Int) || false)) = (p == 3 || p == 4) := by
      rw [Bool.eq_iff_iff]
      simp
      lia
    rw [hp]
    simp only [jI]
    refine ⟨fun e2 => flagged (by rw [hc, e2]; rfl) _ (fun _ _ q => q) _ (jD ha), fun e2 => told (by rw [hc, e2]; rfl) _ (fun _ _ q => q) _ (jD ha)⟩
  · have hc : zL c = false := e
    refine ⟨fun e2 => absurd (hc.symm.trans e2) (by decide), fun e2 => told (by rw [hc]; rfl) _ (fun _ _ q => q) _ (AH.Le.refl _)⟩
end
section
variable {G : Gl} {H : AH} {Q : Value → AH → Prop} {C : Addr} {X : AH → Prop} {n : Nat}
theorem loop_group (F : Fn G) {k : Fu} {x d f : Addr} {l : List Nat} {c : Nat} {t : Tok} (fa : FaultC G C (n + 5) X x d) (al : Al l) (lim : Lim l) (n1 : x ≠ f) (n2 : d ≠ f) {Qf : Fl → List (Option Value) → AH → Prop} : ∀ (m p i : Nat) (H : AH) (vs : List Value) (as : List Arg) (v3 : Option Value),
    Rd 245 H x d l i → H.M f = some (.list vs) → Alls (ArgV H) vs as → vs.length + m ≤ 10 →
    (∀ bs s, qX (zL c) m p (l.drop i) = some (bs, s) → ∀ H' vs' j v3, LeY d f H H' → Rd 245 H' x d l j → l.drop j = s → H'.M f = some (.list vs') → vs'.length ≤ 10 → Alls (ArgV H') vs' (as ++ bs) →
      Qf .next [some (.ref x), some (.str (S [c]) t), some (.ref f), v3] H') →
    (qX (zL c) m p (l.drop i) = none → ∀ H', LeY d f H H' → X H') →
    yJ [3] (vcB (vcS G C (n + 6) X (.s (.s (.s (.s (.s (.s k))))))) vA) (fun _ => True) (pK m p) [some (.ref x), some (.str (S [c]) t), some (.ref f), v3] H Qf
  | 0, p, i, H, vs, as, v3, r, hf, hv, hl, h, hx => ⟨trivial, h [] _ rfl H vs i v3 (LeY.of_le (AH.Le.refl H)) r rfl hf (by lia) (by rw [List.append_nil]; exact hv)⟩
  | m + 1, p, i, H, vs, as, v3, r, hf, hv, hl, h, hx => by
    rw [gX, vF1]
    refine ⟨trivial, fun tp => ?_⟩
    have ih := loop_group F (k := k) (c := c) (t := t) fa al lim n1 n2 (Qf := Qf) m (p + 1)
    generalize yJ [3] _ (fun _ => True) (pK m (p + 1)) = W at ih ⊢
    simp only [Ts, Tz]
    refine group_body F fa al lim n1 n2 r hf hv (by lia) (fun a s ea H1 vs1 j le1 r1 d1 f1 l1 hv1 => ?_) (fun ea H' le => hx (by rw [rdA1, ea]) H' le)
    refine ih j H1 vs1 _ _ r1 f1 hv1 (by lia) (fun bs s2 eb H2 vs2 j2 v3 le2 r2 d2 f2 l2 hv2 => ?_) (fun eb H' le => hx ?_ H' (le1.trans le))
    · refine h (a :: bs) s2 (by rw [d1] at eb; rw [rdA1, ea]; dsimp only; rw [eb]) H2 vs2 j2 v3 (le1.trans le2) r2 d2 f2 l2 ?_
      rw [List.append_assoc] at hv2
      exact hv2
    · rw [d1] at eb
      rw [rdA1, ea]; dsimp only; rw [eb]
theorem kW : ∀ c ∈ LT, zF c ≤ 7 := by decide
theorem Fn.group (F : Fn G) {x d : Addr} {l : List Nat} {i c : Nat} {t : Tok} (fa : FaultC G C (n + 5) X x d) (al : Al l) (lim : Lim l) (r : Rd 245 H x d l i) (hc : c ∈ LT)
    (h : ∀ bs s, qX (zL c) (zF c) 0 (l.drop i) = some (bs, s) → ∀ rr H' vs j, LeX d H H' → Rd 245 H' x d l j → l.drop j = s → H'.I rr = some vs → Alls (ArgV H') vs bs → Q (.ref rr) H')
    (hx : qX (zL c) (zF c) 0 (l.drop i) = none → ∀ H', LeX d H H' → X H') : CallT G C (n + 7) (.ref 270) [.ref x, .str (S [c]) t] H Q X := by
  refine jL F.read_group rfl ?_
  simp only [wK, fu, vB0, vB1]
  rw [jV, pJ]
  simp only [vL0, List.map, La, Ln, Ts, Tz]
  refine ⟨Nat.zero_le _, fun f hf => ?_⟩
  have n1 : x ≠ f := fun e => by have := r.obj; rw [e, hf.2] at this; cases this
  have n2 : d ≠ f := fun e => by obtain ⟨_, _, e2⟩ := r.dct; rw [e, hf.2] at e2; cases e2
  have back : ∀ H', LeY d f (H.setM f (.list [])) H' → LeX d H H' := fun H' le => ⟨le.I, fun a mo na e => by
    have : a ≠ f := fun q => by rw [q, hf.2] at e; cases e
    exact le.M a mo na this (by rw [jC this]; exact e)⟩
  rw [w_forr]
  simp only [jB, zD, vL0, vL1, Lz, Ls]
  refine c_many_of F.many_of hc fun t2 => ?_
  have hm := kW c hc
  refine ⟨⟨by lia, by lia⟩, ?_⟩
  have e : ((zF c : Nat) : Int).toNat = zF c := by simp
  rw [e]
  refine loop_group F fa al lim n1 n2 _ 0 i _ [] [] _ (r.setf n1 n2) jP .nil (by simp; lia) (fun bs s eb H2 vs j v3 le r2 d2 f2 l2 hv => ?_) (fun eb H' le => hx eb H' (back H' le))
  simp only [zJ, jB, zC, vL0, vL1, Lz, Ls, f_tup, f2, yC]
  refine ⟨by lia, fun rr hr => ?_⟩
  refine h bs s eb rr _ vs j ((back _ le).trans (LeX.of_le (jD hr))) (r2.le (jD hr)) d2 jS (yG (jD hr).1 hv)
end
noncomputable def Arg.d : Arg → PyData
  | .num p q => .tuple [.int p, .int (q : Nat)]
  | .flag k => .int (k : Nat)
noncomputable def Cmd.d (c : Cmd) : PyData := .tuple [.str (S [c.c]), .tuple (c.args.map Arg.d)]
noncomputable def CmdV (H : AH) (v : Value) (c : Cmd) : Prop := ∃ r t r2 vs, v = .ref r ∧ H.I r = some [.str (S [c.c]) t, .ref r2] ∧ H.I r2 = some vs ∧ Alls (ArgV H) vs c.args
theorem CmdV.up {H H' : AH} (h : ∀ a vs, H.I a = some vs → H'.I a = some vs) {v : Value} {c : Cmd} (x : CmdV H v c) : CmdV H' v c := by
  obtain ⟨r, t, r2, vs, e, i, i2, q⟩ := x
  exact ⟨r, t, r2, vs, e, h _ _ i, h _ _ i2, yG h q⟩
theorem qV {H H' : AH} (h : ∀ a vs, H.I a = some vs → H'.I a = some vs) {vs : List Value} {cs : List Cmd} (x : Alls (CmdV H) vs cs) : Alls (CmdV H') vs cs := x.mono fun _ _ => CmdV.up h
noncomputable def Cms (H : AH) (f : Addr) (cs : List Cmd) : Prop := ∃ vs, H.M f = some (.list vs) ∧ Alls (CmdV H) vs cs
theorem argV_d {H : AH} {v : Value} {a : Arg} (h : ArgV H v a) : VD H v a.d := by
  cases a with
  | num p q =>
    obtain ⟨r, t, u, e, i⟩ := h
    subst e
    exact .tup i (.cons .int (.cons .int .nil))
  | flag k =>
    obtain ⟨t, e⟩ := h
    subst e
    exact .int
theorem args_d {H : AH} {vs : List Value} {as : List Arg} : Alls (ArgV H) vs as → VDs H vs (as.map Arg.d)
  | .nil => .nil
  | .cons x y => .cons (argV_d x) (args_d y)
theorem cmdV_d {H : AH} {v : Value} {c : Cmd} (h : CmdV H v c) : VD H v c.d := by
  obtain ⟨r, t, r2, vs, e, i, i2, q⟩ := h
  subst e
  exact .tup i (.cons .str (.cons (.tup i2 (args_d q)) .nil))
theorem cmds_d {H : AH} {vs : List Value} {cs : List Cmd} : Alls (CmdV H) vs cs → VDs H vs (cs.map Cmd.d)
  | .nil => .nil
  | .cons x y => .cons (cmdV_d x) (cmds_d y)
theorem Cms.d {H : AH} {f : Addr} {cs : List Cmd} (h : Cms H f cs) : VD H (.ref f) (.list (cs.map Cmd.d)) := by
  obtain ⟨vs, e, q⟩ := h
  exact .lst e (cmds_d q)
theorem arg_eqv (a b : Arg) : PyData.eqv a.d b.d = decide (a = b) := by
  rw [Bool.eq_iff_iff]
  cases a <;> cases b <;> simp [Arg.d, PyData.eqv, PyData.eqvAll]
  all_goals (try intro _)
  all_goals exact Int.ofNat_inj
theorem args_eqv : ∀ as bs : List Arg, PyData.eqvAll (as.map Arg.d) (bs.map Arg.d) = decide (as = bs)
  | [], [] => by simp [PyData.eqvAll]
  | [], _ :: _ => by simp [PyData.eqvAll]
  | _ :: _, [] => by simp [PyData.eqvAll]
  | a :: as, b :: bs => by
    simp only [List.map_cons, PyData.eqvAll, arg_eqv, args_eqv as bs]
    rw [Bool.eq_iff_iff]
    simp
theorem cmd_eqv (a b : Cmd) : PyData.eqv a.d b.d = decide (a = b) := by
  obtain ⟨c, as⟩ := a
  obtain ⟨c', bs⟩ := b
  simp only [Cmd.d, PyData.eqv, PyData.eqvAll, args_eqv, mZ]
  rw [Bool.eq_iff_iff]
  simp
theorem rE : ∀ as bs : List Cmd, PyData.eqvAll (as.map Cmd.d) (bs.map Cmd.d) = decide (as = bs)
  | [], [] => by simp [PyData.eqvAll]
  | [], _ :: _ => by simp [PyData.eqvAll]
  | _ :: _, [] => by simp [PyData.eqvAll]
  | a :: as, b :: bs => by
    simp only [List.map_cons, PyData.eqvAll, cmd_eqv, rE as bs]
    rw [Bool.eq_iff_iff]
    simp
theorem arg_lay (a : Arg) : a.d.canLay0 = true ∧ a.d.depth ≤ 1 := by
  cases a <;> simp [Arg.d, PyData.canLay0, PyData.canLayAll0, PyData.depth, PyData.depthAll]
theorem args_lay : ∀ as : List Arg, PyData.canLayAll0 (as.map Arg.d) = true ∧ PyData.depthAll (as.map Arg.d) ≤ 1
  | [] => ⟨rfl, Nat.zero_le _⟩
  | a :: as => by
    have h1 := arg_lay a
    have h2 := args_lay as
    simp only [List.map_cons, PyData.canLayAll0, PyData.depthAll, h1.1, h2.1]
    exact ⟨rfl, by lia⟩
theorem lt_ok : ∀ c ∈ LT, PyData.strOk (S [c]) = true := by decide +kernel
noncomputable def Lets (cs : List Cmd) : Prop := ∀ c ∈ cs, c.c ∈ LT
theorem cmds_lay : ∀ cs : List Cmd, Lets cs → PyData.canLayAll0 (cs.map Cmd.d) = true ∧ PyData.depthAll (cs.map Cmd.d) ≤ 3
  | [], _ => ⟨rfl, Nat.zero_le _⟩
  | c :: cs, h => by
    have h1 := args_lay c.args
    have h2 := cmds_lay cs fun x hx => h x (.tail _ hx)
    have h3 := lt_ok c.c (h c (.head _))
    simp only [List.map_cons, PyData.canLayAll0, PyData.depthAll, Cmd.d, PyData.canLay0, PyData.depth, h1.1, h2.1, h3]
    have := h1.2
    have := h2.2
    exact ⟨rfl, by lia⟩
theorem gU {cs : List Cmd} (h : Lets cs) : SeqAt.shaped (.list (cs.map Cmd.d)) = true := by
  have := cmds_lay cs h
  simp only [SeqAt.shaped, PyData.canLay0, PyData.depth, this.1, Bool.true_and, decide_eq_true_eq]
  have := this.2
  exact decide_eq_true (by lia)
noncomputable def uH (s : List Nat) : Bool := match s with
  | c :: _ => decide (c ∈ ([43, 45, 46] ++ DG))
  | [] => false
theorem looks_is (l : List Nat) (i : Nat) : qY l i = uH (l.drop i) := by
  by_cases hi : i < l.length
  · rw [List.drop_eq_getElem_cons hi]
    simp [qY, uH, hi]
  · rw [List.drop_of_length_le (by lia)]
    have : l[i]? = none := List.getElem?_eq_none (by lia)
    simp [qY, uH, this]
noncomputable def uY : Nat → Nat → List Nat → Option (List Cmd × List Nat)
  | 0, _, _ => none
  | k + 1, c, s => if uH (spS s) then (match qX (zL c) (zF c) 0 (spS s) with
      | none => none
      | some (as, s2) => match uY k c s2 with
        | none => none
        | some (cs, s3) => some (⟨c, as⟩ :: cs, s3))
    else some ([], spS s)
theorem rdM1 {k c : Nat} {s : List Nat} : uY (k + 1) c s = if uH (spS s) then (match qX (zL c) (zF c) 0 (spS s) with
      | none => none
      | some (as, s2) => match uY k c s2 with
        | none => none
        | some (cs, s3) => some (⟨c, as⟩ :: cs, s3))
    else some ([], spS s) := rfl
theorem optC_ {o : Option (List Cmd × List Nat)} {β : Type} {F : List Cmd → List Nat → Option β} {y : β} {p : Prop} (h : (match o with | none => none | some (a, r) => F a r) = some y) (k : ∀ a r, o = some (a, r) → F a r = some y → p) : p := by
  cases o <;> first | exact k _ _ rfl h | cases h
noncomputable def vM (s : List Nat) : Option (Option (Nat × List Nat)) := match spS s with
  | [] => some none
  | c :: s2 => if c ∈ LT then some (some (c, s2)) else none
noncomputable def xE (c : Nat) (s : List Nat) : Option (List Cmd × List Nat) := if c = 90 ∨ c = 122 then some ([⟨c, []⟩], s) else match qX (zL c) (zF c) 0 (spS s) with
  | none => none
  | some (as, s3) => match uY (s3.length + 1) (behind c) s3 with
    | none => none
    | some (cs, s4) => some (⟨c, as⟩ :: cs, s4)
noncomputable def uZ : Nat → Bool → Nat → List Nat → Option (List Cmd)
  | 0, _, _, _ => none
  | k + 1, first, c, s => if first && !decide (c ∈ [77, 109]) then none else match xE c s with
    | none => none
    | some (cs, s4) => match vM s4 with
      | none => none
      | some none => some cs
      | some (some (c', s5)) => match uZ k false c' s5 with
        | none => none
        | some cs' => some (cs ++ cs')
theorem optT_ {o : Option (Option (Nat × List Nat))} {β : Type} {F0 : Option β} {F : Nat → List Nat → Option β} {y : β} {p : Prop} (h : (match o with | none => none | some none => F0 | some (some (c, s)) => F c s) = some y) (k0 : F0 = some y → p) (k : ∀ c s, o = some (some (c, s)) → F c s = some y → p) : p := by
  rcases o with _ | _ | _ <;> first | exact k0 h | exact k _ _ rfl h | cases h
theorem optS_ {o : Option (List Cmd)} {β : Type} {F : List Cmd → Option β} {y : β} {p : Prop} (h : (match o with | none => none | some c => F c) = some y) (k : ∀ c, o = some c → F c = some y → p) : p := by
  cases o <;> first | exact k _ rfl h | cases h
theorem rdF1 {k c : Nat} {first : Bool} {s : List Nat} : uZ (k + 1) first c s = if first && !decide (c ∈ [77, 109]) then none else match xE c s with
    | none => none
    | some (cs, s4) => match vM s4 with
      | none => none
      | some none => some cs
      | some (some (c', s5)) => match uZ k false c' s5 with
        | none => none
        | some cs' => some (cs ++ cs') := rfl
noncomputable def rd (s : List Nat) : Option (List Cmd) := match vM s with
  | none => none
  | some none => some []
  | some (some (c, s2)) => uZ (s2.length + 1) true c s2
theorem xY (s : List Nat) : (spS s).length ≤ s.length := by unfold spS; rw [List.length_drop]; lia
theorem rdArg_len {f : Bool} {s r : List Nat} {a : Arg} (h : vN f s = some (a, r)) : r.length < s.length := by
  unfold vN at h
  split at h
  · cases hf : wA s with
    | none => rw [hf] at h; cases h
    | some y =>
      rw [hf] at h
      have e : y.2 = r := (Prod.mk.inj (Option.some.inj h)).2
      rw [← e, (rdFlag_some hf).1]
      simp
  · cases hf : vL s with
    | none => rw [hf] at h; cases h
    | some y =>
      rw [hf] at h
      have e : y.2 = r := (Prod.mk.inj (Option.some.inj h)).2
      have := rdNum_drop (l := s) (i := 0) (z := y.1) (s := y.2) hf
      rw [← e]
      simpa using this
theorem uG {arc : Bool} : ∀ {m p : Nat} {s r : List Nat} {as : List Arg}, qX arc m p s = some (as, r) → r.length + m ≤ s.length
  | 0, p, s, r, as, h => by
    have := (Prod.mk.inj (Option.some.inj h)).2
    rw [← this]
    exact Nat.le_refl _
  | m + 1, p, s, r, as, h => by
    rw [rdA1] at h
    refine optA_ h fun a r1 e1 h => ?_
    refine optL_ h fun as' r2 e2 h => ?_
    have h1 := rdArg_len e1
    have h2 := uG e2
    have e := (Prod.mk.inj (Option.some.inj h)).2
    have h3 : (if p = 0 then s else spS s).length ≤ s.length := by
      split
      · exact Nat.le_refl _
      · exact xY s
    rw [← e]
    lia
theorem rdMore_len : ∀ {k c : Nat} {s r : List Nat} {cs : List Cmd}, 1 ≤ zF c → uY k c s = some (cs, r) → cs.length + r.length ≤ s.length
  | 0, c, s, r, cs, hc, h => by cases h
  | k + 1, c, s, r, cs, hc, h => by
    rw [rdM1] at h
    have h0 := xY s
    split at h
    · refine optL_ h fun as s2 e1 h => ?_
      refine optC_ h fun cs' s3 e2 h => ?_
      have h1 := uG e1
      have h2 := rdMore_len hc e2
      obtain ⟨q1, q2⟩ := Prod.mk.inj (Option.some.inj h)
      rw [← q1, ← q2, List.length_cons]
      lia
    · obtain ⟨q1, q2⟩ := Prod.mk.inj (Option.some.inj h)
      rw [← q1, ← q2]
      simpa using h0
section
variable {G : Gl} {H : AH} {Q : Value → AH → Prop} {C : Addr} {X : AH → Prop} {n : Nat}
theorem Fn.goes (F : Fn G) {x d : Addr} {l : List Nat} {i : Nat} (fa : FaultC G C (n + 2) X x d) (al : Al l) (r : Rd 245 H x d l i)
    (h : ∀ H' j, LeX d H H' → Rd 245 H' x d l j → l.drop j = spS (l.drop i) → Q (.bool (uH (spS (l.drop i)))) H') : CallT G C (n + 3) (.ref 277) [.ref x] H Q X := by
  have hs := sep_al al i
  have hd := drop_sp l i
  refine c_goes_on F.PathScanner_spaces F.PathScanner_peek F.PathScanner_separator F.PathScanner_looks_number F.goes_on fa r (fun _ H' le r' => ?_) (fun _ hc => absurd (hs.2.symm.trans hc) (by decide))
  rw [hs.1] at r' ⊢
  rw [looks_is, hd]
  exact h H' _ le r' hd
theorem Fn.letter (F : Fn G) {x d : Addr} {l : List Nat} {i : Nat} (fa : FaultC G C (n + 1) X x d) (r : Rd 245 H x d l i)
    (h0 : vM (l.drop i) = some none → ∀ H' j, LeX d H H' → Rd 245 H' x d l j → Q .none H')
    (h1 : ∀ c s, vM (l.drop i) = some (some (c, s)) → c ∈ LT → ∀ t H' j, LeX d H H' → Rd 245 H' x d l j → l.drop j = s → (s.length + 1 ≤ (l.drop i).length ∧ 1 ≤ j) → Q (.str (S [c]) t) H')
    (hx : vM (l.drop i) = none → ∀ H', LeX d H H' → X H') : CallT G C (n + 2) (.ref 242) [.ref x] H Q X := by
  have hd := drop_sp l i
  refine c_ps_command F.PathScanner_spaces F.PathScanner_peek F.PathScanner_is_over F.PathScanner_command fa r (fun ho H' le r' => ?_) (fun hi hc t H' le r' => ?_) (fun hi hc H' le => ?_)
  · refine h0 ?_ H' _ le r'
    rw [vM, ← hd, List.drop_of_length_le ho]
  · have e : spS (l.drop i) = l[sp l i] :: l.drop (sp l i + 1) := by rw [← hd, List.drop_eq_getElem_cons hi]
    refine h1 _ (l.drop (sp l i + 1)) ?_ hc t H' _ le r' rfl ?_
    · rw [vM, e]
      exact if_pos hc
    · have := xY (l.drop i)
      rw [e, List.length_cons] at this
      exact ⟨this, by lia⟩
  · refine hx ?_ H' le
    have e : spS (l.drop i) = l[sp l i] :: l.drop (sp l i + 1) := by rw [← hd, List.drop_eq_getElem_cons hi]
    rw [vM, e]
    exact if_neg hc
end
section
variable {G : Gl} {H : AH} {Q : Value → AH → Prop} {C : Addr} {X : AH → Prop} {n : Nat}
theorem FaultC.mono {n' : Nat} {x d : Addr} (fa : FaultC G C n X x d) (hn : n ≤ n') : FaultC G C n' X x d := fun r hx => (fa r hx).mono hn fun _ _ q => q
theorem Cms.up {H H' : AH} {d f : Addr} {cs : List Cmd} (h : Cms H f cs) (le : LeX d H H') (ne : f ≠ d) : Cms H' f cs := by
  obtain ⟨vs, e, q⟩ := h
  exact ⟨vs, le.M f _ ne e, qV le.I q⟩
theorem Cms.le {H H' : AH} {f : Addr} {cs : List Cmd} (h : Cms H f cs) (le : AH.Le H H') : Cms H' f cs := by
  obtain ⟨vs, e, q⟩ := h
  exact ⟨vs, le.2 f _ e, qV le.1 q⟩
theorem Cms.push {H H' : AH} {f : Addr} {cs : List Cmd} {vs : List Value} {v : Value} {c : Cmd} (q : Alls (CmdV H) vs cs) (w : CmdV H v c) : Cms (H.setM f (.list (vs ++ [v]))) f (cs ++ [c]) :=
  ⟨_, jP, qV (H := H) (fun _ _ h => h) (q.snoc w)⟩
theorem put_group (F : Fn G) {k : Fu} {x d f : Addr} {l : List Nat} {i c : Nat} {t : Tok} (fa : FaultC G C (n + 5) X x d) (al : Al l) (lim : Lim l) (n1 : x ≠ f) (n2 : d ≠ f) (hc : c ∈ LT) {cs : List Cmd} {K : Fl → List (Option Value) → AH → Prop}
    (r : Rd 245 H x d l i) (hf : Cms H f cs) (hl : cs.length < 100000)
    (h : ∀ as s, qX (zL c) (zF c) 0 (l.drop i) = some (as, s) → ∀ H' j, LeY d f H H' → Rd 245 H' x d l j → l.drop j = s → Cms H' f (cs ++ [⟨c, as⟩]) → K .next [some (.ref x), some (.ref f), some (.str (S [c]) t)] H')
    (hx : qX (zL c) (zF c) 0 (l.drop i) = none → ∀ H', LeY d f H H' → X H') :
    vcS G C (n + 7) X (.s (.s (.s (.s (.s k))))) (.exp (.bmeth .append (.loc 1) [(.tup [(.loc 2), (.call 270 [(.loc 0), (.loc 2)])])])) [some (.ref x), some (.ref f), some (.str (S [c]) t)] H K := by
  obtain ⟨vs, hv, q⟩ := hf
  simp only [qF, jB, zD, yS, yP, vL0, vL1, Lz, Ls, bmOk, hv]
  refine ⟨trivial, F.group fa al lim r hc (fun as s ea rr H1 us j le1 r1 d1 e1 ha => ⟨zN, fun r2 hr2 => ?_⟩) (fun ea H' le => hx ea H' le.y)⟩
  have hv1 := le1.M f _ n2.symm hv
  have q1 := qV le1.I q
  have hv2 : (H1.setI r2 [.str (S [c]) t, .ref rr]).M f = some (.list vs) := hv1
  simp only [fV, pA, m_up, fU, gK, hv2]
  refine ⟨by have := q.len; lia, ?_⟩
  refine h as s ea _ j ((le1.y.trans (LeY.of_le (jD hr2))).trans LeY.set) ((r1.le (jD hr2)).setf n1 n2) d1 ?_
  refine Cms.push (H' := H1) (qV (jD hr2).1 q1) ⟨r2, t, rr, us, rfl, jS, (jD hr2).1 _ _ e1, yG (jD hr2).1 ha⟩
theorem loop_more (F : Fn G) {k : Fu} {x d f : Addr} {l : List Nat} {c : Nat} {t : Tok} (fa : FaultC G C (n + 5) X x d) (al : Al l) (lim : Lim l) (n1 : x ≠ f) (n2 : d ≠ f) (hc : c ∈ LT) (hm : 1 ≤ zF c) {Qf : Fl → List (Option Value) → AH → Prop} : ∀ (m i : Nat) (H : AH) (cs : List Cmd),
    (l.drop i).length < m → Rd 245 H x d l i → Cms H f cs → cs.length + (l.drop i).length ≤ l.length →
    (∀ cs' s', uY m c (l.drop i) = some (cs', s') → ∀ H' j, LeY d f H H' → Rd 245 H' x d l j → l.drop j = s' → Cms H' f (cs ++ cs') → Qf .next [some (.ref x), some (.ref f), some (.str (S [c]) t)] H') →
    (uY m c (l.drop i) = none → ∀ H', LeY d f H H' → X H') →
    kH (fun l H Q => vcE G C (n + 7) X l (.s (.s (.s (.s (.s (.s k)))))) vR H fun v H => jW v H Q) (vcB (vcS G C (n + 7) X (.s (.s (.s (.s (.s (.s k)))))))  vU) m [some (.ref x), some (.ref f), some (.str (S [c]) t)] H Qf
  | 0, i, H, cs, hlt, r, hf, hl, h, hx => absurd hlt (Nat.not_lt_zero _)
  | m + 1, i, H, cs, hlt, r, hf, hl, h, hx => by
    rw [vW1]
    have ih := loop_more F (k := k) (t := t) fa al lim n1 n2 hc hm (Qf := Qf) m
    generalize kH _ _ m = W at ih ⊢
    rw [vR]
    simp only [jB, zD, vL0, vL1, Lz]
    refine F.goes (n := n + 4) (fa.mono (by lia)) al r fun H1 j le1 r1 d1 => ?_
    simp only [jI]
    have f1 := hf.up le1 n2.symm
    have hs := xY (l.drop i)
    refine ⟨fun e => ?_, fun e => ?_⟩
    · rw [vU, vB1]
      refine put_group F fa al lim n1 n2 hc r1 f1 (by have := r.small; lia) (fun as s ea H2 j2 le2 r2 d2 f2 => ?_) (fun ea H' le => hx (by rw [rdM1, if_pos e, ← d1, ea]) H' (le1.y.trans le))
      have hlen := uG ea
      rw [d1] at hlen
      refine ih j2 H2 _ (by rw [d2]; lia) r2 f2 (by rw [d2, List.length_append, List.length_singleton]; lia) (fun cs' s' ec H3 j3 le3 r3 d3 f3 => ?_) (fun ec H' le => ?_)
      · rw [d2] at ec
        refine h (⟨c, as⟩ :: cs') s' (by rw [rdM1, if_pos e, ← d1, ea]; dsimp only; rw [ec]) H3 j3 (le1.y.trans (le2.trans le3)) r3 d3 ?_
        rw [List.append_assoc] at f3
        exact f3
      · rw [d2] at ec
        exact hx (by rw [rdM1, if_pos e, ← d1, ea]; dsimp only; rw [ec]) H' (le1.y.trans (le2.trans le))
    · have e' : ¬ (uH (spS (l.drop i)) = true) := by rw [e]; decide
      exact h [] (spS (l.drop i)) (by rw [rdM1, if_neg e']) H1 j le1.y r1 d1 (by rw [List.append_nil]; exact f1)
end
theorem run_lets {c : Nat} {s r : List Nat} {cs : List Cmd} (h : xE c s = some (cs, r)) : ∀ x ∈ cs, x.c = c ∨ x.c = behind c := by
  have more : ∀ (k c : Nat) (s r : List Nat) (cs : List Cmd), uY k c s = some (cs, r) → ∀ x ∈ cs, x.c = c := by
    intro k
    induction k with
    | zero => intro c s r cs h; cases h
    | succ k ih =>
      intro c s r cs h
      rw [rdM1] at h
      split at h
      · split at h
        · cases h
        · refine optC_ h fun cs' s3 e2 h => ?_
          rw [← (Prod.mk.inj (Option.some.inj h)).1]
          intro x hx
          rcases List.mem_cons.mp hx with e | e
          · rw [e]
          · exact ih _ _ _ _ e2 x e
      · rw [← (Prod.mk.inj (Option.some.inj h)).1]
        intro x hx
        cases hx
  unfold xE at h
  split at h
  · rw [← (Prod.mk.inj (Option.some.inj h)).1]
    intro x hx
    rw [List.mem_singleton.mp hx]
    exact .inl rfl
  · split at h
    · cases h
    · refine optC_ h fun cs' s4 e2 h => ?_
      rw [← (Prod.mk.inj (Option.some.inj h)).1]
      intro x hx
      rcases List.mem_cons.mp hx with e | e
      · rw [e]; exact .inl rfl
      · exact .inr (more _ _ _ _ _ e2 x e)
theorem fH : ∀ c ∈ LT, behind c ∈ LT := by decide
theorem gV : ∀ c ∈ LT, ¬ (c = 90 ∨ c = 122) → 1 ≤ zF c ∧ 1 ≤ zF (behind c) := by decide
theorem run_len {c : Nat} {s r : List Nat} {cs : List Cmd} (hc : c ∈ LT) (h : xE c s = some (cs, r)) : cs.length + r.length ≤ s.length + 1 := by
  unfold xE at h
  split at h
  · obtain ⟨q1, q2⟩ := Prod.mk.inj (Option.some.inj h)
    rw [← q1, ← q2, List.length_singleton]
    lia
  · rename_i hz
    have hm := gV c hc hz
    refine optL_ h fun as s3 e1 h => ?_
    refine optC_ h fun cs' s4 e2 h => ?_
    obtain ⟨q1, q2⟩ := Prod.mk.inj (Option.some.inj h)
    have h1 := uG e1
    have h2 := rdMore_len hm.2 e2
    have h3 := xY s
    rw [← q1, ← q2, List.length_cons]
    lia
section
variable {G : Gl} {H : AH} {Q : Value → AH → Prop} {C : Addr} {X : AH → Prop} {n : Nat}
theorem q_eqr {a b : Addr} : yR .Eq (.ref a) (.ref b) H Q = ∃ d d', VD H (.ref a) d ∧ VD H (.ref b) d' ∧ PySem.SeqAt.shaped d = true ∧ PySem.SeqAt.shaped d' = true ∧ Q (.bool (PyData.eqv d d')) H := rfl
theorem q_isNot {v : Value} : yR .IsNot v .none H Q = Q (.bool (!(v == .none))) H := rfl
theorem cms_empty (cs : List Cmd) : PyData.eqv (.list (cs.map Cmd.d)) (.list []) = decide (cs = []) := by
  have := rE cs []
  simpa [PyData.eqv] using this
theorem into_guard (F : Fn G) {k : Fu} {x d f : Addr} {l : List Nat} {i c : Nat} {t : Tok} (fa : FaultC G C (n + 7) X x d) {cs : List Cmd} {K : Fl → List (Option Value) → AH → Prop}
    (r : Rd 245 H x d l i) (n1 : x ≠ f) (n2 : d ≠ f) (hf : Cms H f cs) (lets : Lets cs) (i1 : 1 ≤ i)
    (h : (decide (cs = []) && !decide (c ∈ [77, 109])) = false → ∀ H', AH.Le H H' → K .next [some (.ref x), some (.ref f), some (.str (S [c]) t)] H')
    (hx : (decide (cs = []) && !decide (c ∈ [77, 109])) = true → ∀ H', LeY d f H H' → X H') :
    vcS G C (n + 7) X (.s (.s (.s (.s (.s (.s (.s k))))))) (.ite (.and (.cmp .Eq (.loc 1) (.lst [])) [(.cmp .NotIn (.loc 2) (.cst (.str "Mm")))]) [
   .asgA 245 (.loc 0) "at" (.bin .Sub (.attr 245 (.loc 0) "at") (.cst (.int 1))),
   .exp (.meth 245 186 (.loc 0) "fault" [(.cst (.str "a path begins with a move"))])] []) [some (.ref x), some (.ref f), some (.str (S [c]) t)] H K := by
  simp only [zT, jH, jB, uQ, jQ, pJ, vL0, vA0, vA1, Lz, Ls]
  refine ⟨Nat.zero_le _, fun a ha => ?_⟩
  have hfa : ∃ vs, H.M f = some (.list vs) := by obtain ⟨vs, e, _⟩ := hf; exact ⟨vs, e⟩
  have nf : f ≠ a := fun e => by obtain ⟨vs, q⟩ := hfa; rw [e, ha.2] at q; cases q
  have nx : x ≠ a := fun e => by have q := r.obj; rw [e, ha.2] at q; cases q
  have nd : d ≠ a := fun e => by obtain ⟨_, _, q⟩ := r.dct; rw [e, ha.2] at q; cases q
  have le : AH.Le H (H.setM a (.list [])) := ⟨fun _ _ h => h, fun b mo e => by
    have : b ≠ a := fun q => by rw [q, ha.2] at e; cases e
    rw [jC this]; exact e⟩
  have hd := (hf.le le).d
  rw [q_eqr]
  refine ⟨_, .list [], hd, .lst jP .nil, gU lets, rfl, ?_⟩
  rw [cms_empty]
  have r2 := r.le le
  refine r2.dk fun tx ta h2 => ?_
  have ea : ∀ Q, jY 245 (.ref x) "at" (H.setM a (.list [])) Q = Q (.int i ta) (H.setM a (.list [])) := fun Q => yL r2.obj h2 rfl rfl
  have es : ∀ u Q, qT 245 (.ref x) "at" u (H.setM a (.list [])) Q = (_ ∧ Q _) := fun u Q => qW r2.obj h2
  simp only [jI, jM, s77_109, q_nin, gB]
  refine ⟨fun e t1 => ⟨fun e2 => ?_, fun e2 => h (by rw [e, e2]; rfl) _ le⟩, fun e => ⟨fun e2 => absurd (e.symm.trans e2) (by decide), fun e2 => h (by rw [e]; rfl) _ le⟩⟩
  simp only [vB0, vB1, kZ, qF, jH, jB, zX, zP, zB, vL0, vL1, Lz, ea, es, jJ, q_sub, jM]
  refine fun t2 t3 => ⟨by simp, ?_⟩
  rw [pt_at]
  have ej : ((i : Int) - 1) = ((i - 1 : Nat) : Int) := by lia
  rw [ej]
  have r3 := r2.set (j := i - 1) tx t3
  refine zU r3 fun fs ei hn => ?_
  simp only [ei]
  exact ⟨hn "fault" (by decide) (by decide), fun t4 => fa r3 (hx (by rw [e, e2]; rfl) _ ((LeY.of_le le).trans leX_set.y))⟩
theorem into_run (F : Fn G) {k : Fu} {x d f : Addr} {l : List Nat} {i c : Nat} {t : Tok} (fa : FaultC G C (n + 5) X x d) (al : Al l) (lim : Lim l) (n1 : x ≠ f) (n2 : d ≠ f) (hc : c ∈ LT) {cs : List Cmd} {K : Fl → List (Option Value) → AH → Prop}
    (r : Rd 245 H x d l i) (hf : Cms H f cs) (hl : cs.length + 1 + (l.drop i).length ≤ l.length)
    (h : ∀ cs' s, xE c (l.drop i) = some (cs', s) → ∀ H' j v, LeY d f H H' → Rd 245 H' x d l j → l.drop j = s → Cms H' f (cs ++ cs') → K .next [some (.ref x), some (.ref f), v] H')
    (hx : xE c (l.drop i) = none → ∀ H', LeY d f H H' → X H') :
    vcS G C (n + 7) X (.s (.s (.s (.s (.s (.s (.s (.s k)))))))) (.ite (.cmp .In (.loc 2) (.cst (.str "Zz"))) [
   .exp (.bmeth .append (.loc 1) [(.tup [(.loc 2), (.tup [])])])] [
   .exp (.meth 245 193 (.loc 0) "spaces" []),
   .exp (.bmeth .append (.loc 1) [(.tup [(.loc 2), (.call 270 [(.loc 0), (.loc 2)])])]),
   .asg 2 (.call 263 [(.loc 2)]),
   .whl vR vU]) [some (.ref x), some (.ref f), some (.str (S [c]) t)] H K := by
  have sm := r.small
  simp only [zT, jH, jB, jQ, Lz, Ls, jM, nK, q_in, gB, jI]
  refine fun t1 => ⟨fun e => ?_, fun e => ?_⟩
  · have hz : c = 90 ∨ c = 122 := by simpa using of_decide_eq_true e
    obtain ⟨vs, hv, q⟩ := hf
    simp only [vB0, vB1, qF, jB, yS, yP, vL0, vL1, Lz, Ls, bmOk, hv]
    refine ⟨trivial, Nat.zero_le _, fun a ha => ⟨zN, fun b hb => ?_⟩⟩
    have hv2 : ((H.setI a []).setI b [.str (S [c]) t, .ref a]).M f = some (.list vs) := hv
    simp only [fV, pA, m_up, fU, gK, hv2]
    refine ⟨by have := q.len; lia, ?_⟩
    have le := (jD (vs := []) ha).trans (jD (vs := [.str (S [c]) t, .ref a]) hb)
    refine h [⟨c, []⟩] _ (by rw [xE, if_pos hz]) _ i _ ((LeY.of_le le).trans LeY.set) ((r.le le).setf n1 n2) rfl ?_
    exact Cms.push (H' := H) (qV le.1 q) ⟨b, t, a, [], rfl, jS, (jD hb).1 _ _ jS, .nil⟩
  · have hz : ¬ (c = 90 ∨ c = 122) := by have := of_decide_eq_false e; simpa using this
    have hm := gV c hc hz
    refine zU r fun fs ei hn => ?_
    refine jG ?_
    simp only [qF, vL0, jB, zP, Lz, ei]
    refine ⟨hn "spaces" (by decide) (by decide), uW F.PathScanner_spaces r fun H1 le1 r1 => ?_⟩
    have d1 : l.drop (i + run BL (l.drop i)) = spS (l.drop i) := by rw [← drop_sp]; rfl
    generalize i + run BL (l.drop i) = i1 at r1 d1
    have f1 := hf.up le1 n2.symm
    have h0 := xY (l.drop i)
    show vcB _ _ _ _ _
    rw [vB1]
    refine put_group F fa al lim n1 n2 hc r1 f1 (by lia) (fun as s ea H2 j2 le2 r2 d2 f2 => ?_) (fun ea H' le => hx (by rw [xE, if_neg hz, ← d1, ea]) H' (le1.y.trans le))
    have hlen := uG ea
    rw [d1] at hlen
    show vcB _ _ _ _ _
    refine jG ?_
    simp only [jV, vL0, vL1, jB, zD, Lz, Ls]
    refine wR F.letter_behind hc fun t2 => ?_
    show vcB _ _ _ _ _
    refine jG ?_
    simp only [w_whl]
    refine ⟨(l.drop j2).length + 1, ?_⟩
    simp only [Tz, Ts]
    refine loop_more F fa al lim n1 n2 (fH c hc) hm.2 _ j2 H2 (cs ++ [⟨c, as⟩]) (by lia) r2 f2 (by rw [d2, List.length_append, List.length_singleton]; lia) (fun cs' s' em H3 j3 le3 r3 d3 f3 => ?_) (fun em H' le => ?_)
    · rw [d2] at em
      refine h (⟨c, as⟩ :: cs') s' (by rw [xE, if_neg hz, ← d1, ea]; dsimp only; rw [em]) H3 j3 _ (le1.y.trans (le2.trans le3)) r3 d3 ?_
      rw [List.append_assoc] at f3
      exact f3
    · rw [d2] at em
      exact hx (by rw [xE, if_neg hz, ← d1, ea]; dsimp only; rw [em]) H' (le1.y.trans (le2.trans le))
end
theorem run_lt {c : Nat} {s r : List Nat} {cs : List Cmd} (hc : c ∈ LT) (h : xE c s = some (cs, r)) : Lets cs ∧ cs ≠ [] := by
  refine ⟨fun x hx => ?_, ?_⟩
  · rcases run_lets h x hx with e | e
    · rw [e]; exact hc
    · rw [e]; exact fH c hc
  · unfold xE at h
    split at h
    · rw [← (Prod.mk.inj (Option.some.inj h)).1]; simp
    · split at h
      · cases h
      · split at h
        · cases h
        · rw [← (Prod.mk.inj (Option.some.inj h)).1]; simp
theorem nO {s r : List Nat} {c : Nat} (h : vM s = some (some (c, r))) : c ∈ LT := by
  unfold vM at h
  split at h
  · cases h
  · split at h
    · rename_i hc
      have := (Prod.mk.inj (Option.some.inj (Option.some.inj h))).1
      rw [← this]; exact hc
    · cases h
theorem from_lets : ∀ (k : Nat) (first : Bool) (c : Nat) (s : List Nat) (cs : List Cmd), c ∈ LT → uZ k first c s = some cs → Lets cs
  | 0, first, c, s, cs, hc, h => by cases h
  | k + 1, first, c, s, cs, hc, h => by
    rw [rdF1] at h
    split at h
    · cases h
    · refine optC_ h fun cs1 s4 e1 h => ?_
      have h1 := (run_lt hc e1).1
      refine optT_ h (fun h => ?_) fun c' s5 e2 h => optS_ h fun cs' e3 h => ?_
      · rw [← Option.some.inj h]; exact h1
      · rw [← Option.some.inj h]
        intro x hx
        rcases List.mem_append.mp hx with e | e
        · exact h1 x e
        · exact from_lets k false c' s5 cs' (nO e2) e3 x e
theorem rd_lets {s : List Nat} {cs : List Cmd} (h : rd s = some cs) : Lets cs := by
  unfold rd at h
  refine optT_ h (fun h => ?_) fun c s2 e h => from_lets _ _ _ _ _ (nO e) h
  rw [← Option.some.inj h]; intro x hx; cases hx
section
variable {G : Gl} {H : AH} {Q : Value → AH → Prop} {C : Addr} {X : AH → Prop} {n : Nat}
theorem loop_into (F : Fn G) {k : Fu} {x d f : Addr} {l : List Nat} (fa : FaultC G C (n + 5) X x d) (al : Al l) (lim : Lim l) (n1 : x ≠ f) (n2 : d ≠ f) {Qf : Fl → List (Option Value) → AH → Prop} : ∀ (m i c : Nat) (t : Tok) (H : AH) (cs : List Cmd),
    (l.drop i).length < m → 1 ≤ i → Rd 245 H x d l i → Cms H f cs → cs.length + 1 + (l.drop i).length ≤ l.length → c ∈ LT → Lets cs →
    (∀ cs', uZ m (decide (cs = [])) c (l.drop i) = some cs' → ∀ H' v, LeY d f H H' → Cms H' f (cs ++ cs') → Qf .next [some (.ref x), some (.ref f), v] H') →
    (uZ m (decide (cs = [])) c (l.drop i) = none → ∀ H', LeY d f H H' → X H') →
    kH (fun l H Q => vcE G C (n + 7) X l (.s (.s (.s (.s (.s (.s (.s (.s (.s k))))))))) kB H fun v H => jW v H Q) (vcB (vcS G C (n + 7) X (.s (.s (.s (.s (.s (.s (.s (.s (.s k))))))))))  vT) (m + 1) [some (.ref x), some (.ref f), some (.str (S [c]) t)] H Qf
  | 0, i, c, t, H, cs, hlt, hi, r, hf, hl, hc, lets, h, hx => absurd hlt (Nat.not_lt_zero _)
  | m + 1, i, c, t, H, cs, hlt, hi, r, hf, hl, hc, lets, h, hx => by
    rw [vW1]
    have ih := loop_into F (k := k) fa al lim n1 n2 (Qf := Qf) m
    have fin : ∀ H' v0 v1, Qf .next [v0, v1, some .none] H' → kH (fun l H Q => vcE G C (n + 7) X l (.s (.s (.s (.s (.s (.s (.s (.s (.s k))))))))) kB H fun v H => jW v H Q) (vcB (vcS G C (n + 7) X (.s (.s (.s (.s (.s (.s (.s (.s (.s k))))))))))  vT) (m + 1) [v0, v1, some .none] H' Qf := fun H' v0 v1 q => by
      rw [vW1]
      rw [kB]
      simp only [jH, jB, jQ, Lz, Ls, xF, q_isNot, jI]
      exact ⟨fun e => absurd e (by decide), fun _ => q⟩
    generalize kH _ _ (m + 1) = W at ih fin ⊢
    rw [kB]
    simp only [jH, jB, jQ, Lz, Ls, xF, q_isNot, jI]
    refine ⟨fun _ => ?_, fun e => absurd e (by simp)⟩
    rw [vT, vB1]
    refine into_guard F (fa.mono (by lia)) r n1 n2 hf lets hi (fun eg H1 le1 => ?_) (fun eg H' le => hx (by rw [rdF1, eg]; rfl) H' le)
    show vcB _ _ _ _ _
    rw [vB1]
    refine into_run F fa al lim n1 n2 hc (r.le le1) (hf.le le1) hl (fun cs1 s1 e1 H2 j v le2 r2 d2 f2 => ?_) (fun e1 H' le => hx (by rw [rdF1, eg, e1]; rfl) H' ((LeY.of_le le1).trans le))
    have le12 := (LeY.of_le (d := d) (f := f) le1).trans le2
    show vcB _ _ _ _ _
    refine jG ?_
    simp only [jV, zP]
    refine zU r2 fun fs ei hn => ?_
    simp only [vL0, jB, Lz, ei]
    have hlen := run_len hc e1
    have hlt1 := run_lt hc e1
    have hpos := List.length_pos_iff.mpr hlt1.2
    refine ⟨hn "command" (by decide) (by decide), F.letter (n := n + 5) (fa.mono (by lia)) r2 (fun e2 H3 j3 le3 r3 => ?_) (fun c' s' e2 hc' t' H3 j3 le3 r3 d3 q3 => ?_) (fun e2 H' le => hx (by rw [d2] at e2; rw [rdF1, eg, e1]; dsimp only; rw [e2]; rfl) H' (le12.trans le.y))⟩
    · rw [d2] at e2
      refine fin H3 _ _ (h cs1 (by rw [rdF1, eg, e1]; dsimp only; rw [e2]; rfl) H3 _ (le12.trans le3.y) (f2.up le3 n2.symm))
    · rw [d2] at e2 q3
      have hne : decide (cs ++ cs1 = []) = false := decide_eq_false fun e => hlt1.2 (List.append_eq_nil_iff.mp e).2
      have ih := ih j3 c' t' H3 (cs ++ cs1) (by rw [d3]; lia) q3.2 r3 (f2.up le3 n2.symm) (by rw [d3, List.length_append]; lia) hc' (fun x hx => (List.mem_append.mp hx).elim (lets x) (hlt1.1 x))
      rw [hne, d3] at ih
      refine ih (fun cs' e3 H4 v4 le4 f4 => ?_) (fun e3 H' le => ?_)
      · refine h (cs1 ++ cs') (by rw [rdF1, eg, e1]; dsimp only; rw [e2]; dsimp only; rw [e3]; rfl) H4 v4 ((le12.trans le3.y).trans le4) ?_
        rw [List.append_assoc] at f4
        exact f4
      · exact hx (by rw [rdF1, eg, e1]; dsimp only; rw [e2]; dsimp only; rw [e3]; rfl) H' ((le12.trans le3.y).trans le)
theorem Fn.into (F : Fn G) {x d f : Addr} {l : List Nat} (fa : FaultC G C (n + 5) X x d) (al : Al l) (lim : Lim l) (n1 : x ≠ f) (n2 : d ≠ f) (r : Rd 245 H x d l 0) (hf : Cms H f [])
    (h : ∀ cs, rd l = some cs → ∀ H', LeY d f H H' → Cms H' f cs → Q .none H') (hx : rd l = none → ∀ H', LeY d f H H' → X H') : CallT G C (n + 8) (.ref 284) [.ref x, .ref f] H Q X := by
  refine jL F.read_into rfl ?_
  simp only [gW, fu]
  refine jG ?_
  simp only [jV, zP]
  refine zU r fun fs ei hn => ?_
  simp only [vL0, jB, List.map, La, Ln, Lz, ei]
  refine ⟨hn "command" (by decide) (by decide), F.letter (n := n + 5) (fa.mono (by lia)) r (fun e2 H3 j3 le3 r3 => ?_) (fun c' s' e2 hc' t' H3 j3 le3 r3 d3 q3 => ?_) (fun e2 H' le => hx (by rw [List.drop_zero] at e2; rw [rd, e2]) H' le.y)⟩
  · rw [List.drop_zero] at e2
    simp only [Ts, Tz]
    refine jG ?_
    simp only [w_whl]
    refine ⟨1, ?_⟩
    rw [vW1, kB]
    simp only [jH, jB, jQ, Lz, Ls, xF, q_isNot, jI]
    refine ⟨fun e => absurd e (by decide), fun _ => h [] (by rw [rd, e2]) H3 le3.y (hf.up le3 n2.symm)⟩
  · rw [List.drop_zero] at e2 q3
    simp only [Ts, Tz]
    refine jG ?_
    simp only [w_whl]
    refine ⟨s'.length + 1 + 1, ?_⟩
    have ih := loop_into (C := C) (X := X) (n := n) F (k := .s (.s (.s (.s (.s (.s .z)))))) fa al lim n1 n2 (Qf := fun fl l H' => match fl with | .next => Q Fl.next.val H' | .ret v => Q (Fl.ret v).val H') (s'.length + 1) j3 c' t' H3 [] (by rw [d3]; lia) q3.2 r3 (hf.up le3 n2.symm) (by rw [d3]; simp; lia) hc' (fun x hx => by cases hx)
    rw [d3] at ih
    refine ih (fun cs' e3 H4 v4 le4 f4 => h cs' (by rw [rd, e2]; exact e3) H4 (le3.y.trans le4) f4) (fun e3 H' le => hx (by rw [rd, e2]; exact e3) H' (le3.y.trans le))
end
section
variable {G : Gl} {H : AH} {Q : Value → AH → Prop} {C : Addr} {X : AH → Prop} {n : Nat}
theorem Fn.commands (F : Fn G) {l : List Nat} {t : Tok} (fa : ∀ (X : AH → Prop) x d, FaultC G C (n + 5) X x d) (al : Al l) (lim : Lim l) (sm : l.length < 100000)
    (h : ∀ cs, rd l = some cs → ∀ f H', AH.Le H H' → Cms H' f cs → Q (.ref f) H') (hx : rd l = none → ∀ H', AH.Le H H' → X H') : CallT G C (n + 9) (.ref 291) [.str (S l) t] H Q X := by
  refine jL F.read_commands rfl ?_
  simp only [vK, fu, vB0, vB1]
  rw [jV, pJ]
  simp only [vL0, List.map, La, Ln, Ts, Tz]
  refine ⟨Nat.zero_le _, fun f hf => ?_⟩
  rw [qF, zD]
  simp only [vL0, vL1, jB, v_new, Lz, Ls]
  intro x d hx0 hd0 ne
  have nfx : f ≠ x := fun e => by have q := hx0.2; rw [← e, jP] at q; cases q
  have nfd : f ≠ d := fun e => by have q := hd0.2; rw [← e, jP] at q; cases q
  have hx1 : H.free x := ⟨hx0.1, by have q := hx0.2; rw [jC nfx.symm] at q; exact q⟩
  have hd1 : H.free d := ⟨hd0.1, by have q := hd0.2; rw [jC nfd.symm] at q; exact q⟩
  refine c_ps_init (n := n + 6) F.PathScanner_init jP (by rw [jC ne.symm]; exact jP) ne sm fun H1 le1 r1 => ⟨rfl, ?_⟩
  have f1 : H1.M f = some (.list []) := le1.M f _ nfd (by rw [jC nfx, jC nfd]; exact jP)
  have back : ∀ H', LeY d f H1 H' → AH.Le H H' := fun H' le => ⟨fun a vs e => le.I a vs (le1.I a vs e), fun a mo e => by
    have a1 : a ≠ d := fun q => by rw [q, hd1.2] at e; cases e
    have a2 : a ≠ f := fun q => by rw [q, hf.2] at e; cases e
    have a3 : a ≠ x := fun q => by rw [q, hx1.2] at e; cases e
    exact le.M a mo a1 a2 (le1.M a mo a1 (by rw [jC a3, jC a1, jC a2]; exact e))⟩
  refine F.into (fa X x d) al lim nfx.symm nfd.symm r1 ⟨[], f1, .nil⟩ (fun cs e H' le hc => ?_) (fun e H' le => hx e H' (back H' le))
  simp only [zJ, jB, Lz, Ls, yC]
  exact h cs e f H' (back H' le) hc
end
noncomputable def tab : List (Int × Nat) := (List.range 41).flatMap fun k : Nat => [1, 2, 4, 8, 5].map fun q => frac ((k : Int) - 20) q
noncomputable def dig (n : Nat) : List Nat := (xZ (n : Int)).cps.toList
noncomputable def gH (l : List Nat) : List Nat := (l.reverse.dropWhile (· == 48)).reverse
noncomputable def qB (p : Int) (q : Nat) : List Nat := dig (p.natAbs * 1000 / q / 1000)
noncomputable def jX (p : Int) (q : Nat) : List Nat := gH ((dig (1000 + p.natAbs * 1000 / q % 1000)).drop 1)
noncomputable def tz (p : Int) (q : Nat) : Dec := ⟨decide (p < 0), if qB p q ≠ [48] ∨ jX p q = [] then qB p q else [], if jX p q = [] then none else some (jX p q)⟩
noncomputable def told (p : Int) (q : Nat) : List Nat := (tz p q).text
noncomputable def yQ (p : Int) (q : Nat) : List Nat := (if p < 0 then [45] else []) ++ qB p q ++ (if jX p q = [] then [] else 46 :: jX p q)
noncomputable def six (p : Int) (q : Nat) : List Nat := (dig (1000000 + p.natAbs * 1000000 / q % 1000000)).drop 1
structure RowA (p : Int) (q : Nat) : Prop where
  ok1 : ∀ c ∈ (tz p q).whole, c ∈ DG
  ok2 : ∀ c ∈ (tz p q).parts.getD [], c ∈ DG
  ok3 : (tz p q).fig ≠ []
  len1 : (tz p q).whole.length ≤ 2
  len2 : ((tz p q).parts.getD []).length ≤ 3
  val : (tz p q).val = (p, q)
  nz : ((tz p q).parts.getD [1]).head? ≠ some 48 ∧ (tz p q).parts ≠ some []
  q0 : 0 < q ∧ q ≤ 8
  p0 : p.natAbs ≤ 20
structure RowB (p : Int) (q : Nat) : Prop where
  whole : xZ (((p.natAbs * 1000 / q / 1000 : Nat)) : Int) = S (qB p q)
  parts : Txt.rstripChars (S ((dig (1000 + p.natAbs * 1000 / q % 1000)).drop 1)) (S [48]) = S (jX p q)
  thou : xZ ((1000 + p.natAbs * 1000 / q % 1000 : Nat) : Int) = S (dig (1000 + p.natAbs * 1000 / q % 1000)) ∧ 1 ≤ (dig (1000 + p.natAbs * 1000 / q % 1000)).length ∧ (dig (1000 + p.natAbs * 1000 / q % 1000)).length ≤ 100
  short : (qB p q).length ≤ 20 ∧ (jX p q).length ≤ 20
structure RowC (p : Int) (q : Nat) : Prop where
  scaled : (2 * p.natAbs * 1000000 + q) / (2 * q) = p.natAbs * 1000000 / q
  whole : p.natAbs * 1000000 / q / 1000000 = p.natAbs * 1000 / q / 1000
  sev : xZ ((1000000 + p.natAbs * 1000000 / q % 1000000 : Nat) : Int) = S (dig (1000000 + p.natAbs * 1000000 / q % 1000000)) ∧ (dig (1000000 + p.natAbs * 1000000 / q % 1000000)).length = 7
  parts : gH (six p q) = jX p q
  none : p.natAbs * 1000000 / q % 1000000 = 0 ↔ jX p q = []
  neg : p < 0 → 0 < p.natAbs * 1000000 / q
structure RowD (p : Int) (q : Nat) : Prop where
  a : (yQ p q).take 2 = [48, 46] → (yQ p q).drop 1 = told p q
  b : (yQ p q).take 2 ≠ [48, 46] → (yQ p q).take 3 = [45, 48, 46] → 45 :: (yQ p q).drop 2 = told p q
  c : (yQ p q).take 2 ≠ [48, 46] → (yQ p q).take 3 ≠ [45, 48, 46] → yQ p q = told p q
  len : 3 ≤ (yQ p q).length ∨ (yQ p q).length ≤ 3
theorem fT : ∀ x ∈ tab, RowA x.1 x.2 := by
  have h : ∀ x ∈ tab, (∀ c ∈ (tz x.1 x.2).whole, c ∈ DG) ∧ (∀ c ∈ (tz x.1 x.2).parts.getD [], c ∈ DG) ∧ ((tz x.1 x.2).fig ≠ []) ∧ ((tz x.1 x.2).whole.length ≤ 2) ∧ (((tz x.1 x.2).parts.getD []).length ≤ 3) ∧ ((tz x.1 x.2).val = (x.1, x.2)) ∧
      ((((tz x.1 x.2).parts.getD [1]).head? ≠ some 48) ∧ (tz x.1 x.2).parts ≠ some []) ∧ (0 < x.2 ∧ x.2 ≤ 8) ∧ (x.1.natAbs ≤ 20) := by decide +kernel
  intro x hx
  obtain ⟨a, b, c, d, e, f, g, i, j⟩ := h x hx
  exact ⟨a, b, c, d, e, f, g, i, j⟩
theorem rowsB : ∀ x ∈ tab, RowB x.1 x.2 := by
  have h : ∀ x ∈ tab, (xZ (((x.1.natAbs * 1000 / x.2 / 1000 : Nat)) : Int) = S (qB x.1 x.2)) ∧ (Txt.rstripChars (S ((dig (1000 + x.1.natAbs * 1000 / x.2 % 1000)).drop 1)) (S [48]) = S (jX x.1 x.2)) ∧
      (xZ ((1000 + x.1.natAbs * 1000 / x.2 % 1000 : Nat) : Int) = S (dig (1000 + x.1.natAbs * 1000 / x.2 % 1000)) ∧ 1 ≤ (dig (1000 + x.1.natAbs * 1000 / x.2 % 1000)).length ∧ (dig (1000 + x.1.natAbs * 1000 / x.2 % 1000)).length ≤ 100) ∧ ((qB x.1 x.2).length ≤ 20 ∧ (jX x.1 x.2).length ≤ 20) := by decide +kernel
  intro x hx
  obtain ⟨a, b, c, d⟩ := h x hx
  exact ⟨a, b, c, d⟩
theorem rowsC : ∀ x ∈ tab, RowC x.1 x.2 := by
  have h : ∀ x ∈ tab, ((2 * x.1.natAbs * 1000000 + x.2) / (2 * x.2) = x.1.natAbs * 1000000 / x.2) ∧ (x.1.natAbs * 1000000 / x.2 / 1000000 = x.1.natAbs * 1000 / x.2 / 1000) ∧
      (xZ ((1000000 + x.1.natAbs * 1000000 / x.2 % 1000000 : Nat) : Int) = S (dig (1000000 + x.1.natAbs * 1000000 / x.2 % 1000000)) ∧ (dig (1000000 + x.1.natAbs * 1000000 / x.2 % 1000000)).length = 7) ∧ (gH (six x.1 x.2) = jX x.1 x.2) ∧
      (x.1.natAbs * 1000000 / x.2 % 1000000 = 0 ↔ jX x.1 x.2 = []) ∧ (x.1 < 0 → 0 < x.1.natAbs * 1000000 / x.2) := by decide +kernel
  intro x hx
  obtain ⟨a, b, c, d, e, f⟩ := h x hx
  exact ⟨a, b, c, d, e, f⟩
theorem rowsD : ∀ x ∈ tab, RowD x.1 x.2 := by
  have h : ∀ x ∈ tab, ((yQ x.1 x.2).take 2 = [48, 46] → (yQ x.1 x.2).drop 1 = told x.1 x.2) ∧ ((yQ x.1 x.2).take 2 ≠ [48, 46] → (yQ x.1 x.2).take 3 = [45, 48, 46] → 45 :: (yQ x.1 x.2).drop 2 = told x.1 x.2) ∧
      ((yQ x.1 x.2).take 2 ≠ [48, 46] → (yQ x.1 x.2).take 3 ≠ [45, 48, 46] → yQ x.1 x.2 = told x.1 x.2) := by decide +kernel
  intro x hx
  obtain ⟨a, b, c⟩ := h x hx
  exact ⟨a, b, c, by lia⟩
theorem S_last {l : List Nat} {c : Nat} : Txt.item (S (l ++ [c])) (-1) = S [c] := by
  have e : seqIndex? (-1) (S (l ++ [c])).length = some l.length := by
    rw [StrLaws.seqIndex_neg (by decide) (by rw [yA]; simp; lia), yA]
    simp
    lia
  simp [Txt.item, Txt.charAt, e]
theorem strip0_snoc (l : List Nat) (c : Nat) : gH (l ++ [c]) = if c = 48 then gH l else l ++ [c] := by
  unfold gH
  rw [List.reverse_append, List.reverse_singleton, List.singleton_append, List.dropWhile_cons]
  by_cases h : c = 48
  · simp [h]
  · simp [h]
theorem snoc_cases {α : Type} (l : List α) : l = [] ∨ ∃ m c, l = m ++ [c] := by
  rcases List.eq_nil_or_concat l with h | ⟨m, c, h⟩
  · exact .inl h
  · exact .inr ⟨m, c, by rw [h, List.concat_eq_append]⟩
section
variable {G : Gl} {H : AH} {Q : Value → AH → Prop} {C : Addr} {X : AH → Prop} {n : Nat}
theorem loop_strip {k : Fu} {v0 v1 v2 v3 v4 v5 : Option Value} {Qf : Fl → List (Option Value) → AH → Prop} : ∀ (m : Nat) (l : List Nat) (t : Tok), l.length < m → l.length ≤ 100 → gH l ≠ [] →
    (∀ t, Qf .next [v0, v1, v2, v3, v4, v5, some (.str (S (gH l)) t)] H) →
    kH (fun l H Q => vcE G C n X l (.s (.s (.s (.s (.s k))))) kC H fun v H => jW v H Q) (vcB (vcS G C n X (.s (.s (.s (.s (.s k)))))) kD) m [v0, v1, v2, v3, v4, v5, some (.str (S l) t)] H Qf
  | 0, l, t, hm, hl, hs, h => absurd hm (Nat.not_lt_zero _)
  | m + 1, l, t, hm, hl, hs, h => by
    rw [vW1]
    have ih := loop_strip (k := k) (v0 := v0) (v1 := v1) (v2 := v2) (v3 := v3) (v4 := v4) (v5 := v5) (Qf := Qf) m
    generalize kH _ _ m = W at ih ⊢
    rcases snoc_cases l with e | ⟨r, c, e⟩
    · subst e; exact absurd rfl hs
    subst e
    have hlen : (r ++ [c]).length = r.length + 1 := by simp
    have hsz : (100 : Nat) ≤ sizeLine := by rw [sizeLine_eq]; lia
    simp only [kC, kD, vB0, vB1, jV, jH, jB, v_neg, jQ, qL, gE, Lz, Ls, jJ, jM, xF, q_idx, uS, jI, q_slct, yA, s48, S_last, mZ, Ts, Tz]
    refine fun t1 t2 => ⟨⟨by lia, by lia, by lia⟩, fun t3 t4 => ⟨fun e t5 t6 => ⟨by lia, fun t7 => ?_⟩, fun e => ?_⟩⟩
    · have ec : c = 48 := by simpa using e
      rw [strip0_snoc, if_pos ec] at hs h
      rw [S_init (by simp), List.dropLast_concat]
      exact ih r t7 (by lia) (by lia) hs h
    · have ec : ¬ c = 48 := by simpa using e
      rw [strip0_snoc, if_neg ec] at h
      exact h t
theorem big4000 {B : Int} (hB : B = 10 ^ 4000) : (10 : Int) ^ 9 ≤ B := by
  have h : (10 : Nat) ^ 9 ≤ 10 ^ 4000 := by decide +kernel
  rw [hB]
  exact_mod_cast h
theorem b_wd : ∃ B : Int, B = 10 ^ 4000 ∧ vJ = [
 .asg 2 (.bin .Pow (.cst (.int 10)) (.loc 1)),
 .asg 3 (.bin .FloorDiv (.bin .Add (.bin .Mult (.bin .Mult (.cst (.int 2)) (.bcall .abs [(.sub (.loc 0) (.cst (.int 0)))])) (.loc 2)) (.sub (.loc 0) (.cst (.int 1)))) (.bin .Mult (.cst (.int 2)) (.sub (.loc 0) (.cst (.int 1))))),
 .ite (.cmp .GtE (.loc 3) (.bin .Mult (.glb (.int B 275)) (.loc 2))) [
   .raise] [],
 .asgS [4, 5] (.tup [(.bcall .str [(.bin .FloorDiv (.loc 3) (.loc 2))]), (.bin .Mod (.loc 3) (.loc 2))]),
 .ite (.cmp .Gt (.loc 5) (.cst (.int 0))) [
   .asg 6 (.slc (.bcall .str [(.bin .Add (.loc 2) (.loc 5))]) (.cst (.int 1)) (.cst .none)),
   .whl kC kD,
   .asg 4 (.bin .Add (.bin .Add (.loc 4) (.cst (.str "."))) (.loc 6))] [],
 .ret (.ite (.and (.cmp .Lt (.sub (.loc 0) (.cst (.int 0))) (.cst (.int 0))) [(.cmp .Gt (.loc 3) (.cst (.int 0)))]) (.bin .Add (.cst (.str "-")) (.loc 4)) (.loc 4))] := ⟨_, rfl, rfl⟩
theorem uR {a : Addr} {v : Value} {vs : List Value} {t : Tok} (h : H.I a = some (v :: vs)) (q : Q v H) : nF (.ref a) (.int 0 t) H Q := ⟨_, .inl h, by decide, q⟩
theorem q_item1 {a : Addr} {u v : Value} {vs : List Value} {t : Tok} (h : H.I a = some (u :: v :: vs)) (q : Q v H) : nF (.ref a) (.int 1 t) H Q := ⟨_, .inl h, by decide, q⟩
theorem Fn.wd (F : Fn G) {r : Addr} {p : Int} {q : Nat} {t t1 t2 : Tok} (hr : H.I r = some [.int p t1, .int (q : Nat) t2]) (ht : (p, q) ∈ tab) (h : ∀ t H', AH.Le H H' → Q (.str (S (yQ p q)) t) H') : CallT G C (n + 1) (.ref 151) [.ref r, .int 6 t] H Q X := by
  obtain ⟨B, hB, e⟩ := b_wd
  have hB9 := big4000 hB
  have F1 := F.write_decimal
  rw [e] at F1
  refine jL F1 rfl ?_
  have ra := fT _ ht
  have rb := rowsB _ ht
  have rc := rowsC _ ht
  simp only at ra rb rc
  have pb := ra.p0
  have qb := ra.q0
  have habs : (if p < 0 then -p else p) = (p.natAbs : Int) := by split <;> lia
  simp only [fu]
  refine jG ?_
  simp only [jV, zB, jH, jB, List.map, La, Ln, Lz, Ls, Ts, Tz, jJ, q_pow]
  refine fun t3 => ⟨by decide, fun t4 => ?_⟩
  have e6 : ((10 : Int) ^ (6 : Int).toNat) = ((1000000 : Nat) : Int) := by decide
  rw [e6]
  refine jG ?_
  simp only [jV, zB, vL0, vL1, jH, jB, zC, qL, Lz, Ls, Ts, Tz, jJ]
  refine fun t5 t6 => uR hr ?_
  simp only [q_abs, gI, habs]
  refine fun t7 => ⟨IntMulOk.of_left (intBits_le_64 (by decide) (by decide)), fun t8 => ⟨IntMulOk.of_right (intBits_le_64 (by decide) (by decide)), fun t9 t10 => q_item1 hr ?_⟩⟩
  simp only [wQ]
  refine fun t11 t12 t13 => q_item1 hr ?_
  simp only [gI, q_div]
  refine ⟨IntMulOk.of_left (intBits_le_64 (by decide) (by decide)), fun t14 => ⟨⟨by lia, by lia⟩, fun t15 => ?_⟩⟩
  have e7 : Int.fdiv (2 * (p.natAbs : Int) * ((1000000 : Nat) : Int) + (q : Int)) (2 * (q : Int)) = ((p.natAbs * 1000000 / q : Nat) : Int) := by
    have x1 : 2 * (p.natAbs : Int) * ((1000000 : Nat) : Int) + (q : Int) = ((2 * p.natAbs * 1000000 + q : Nat) : Int) := by
      generalize p.natAbs = a
      lia
    have x2 : 2 * (q : Int) = ((2 * q : Nat) : Int) := by lia
    rw [← rc.scaled, ← gJ, x1, x2]
  rw [e7]
  have hsm : p.natAbs * 1000000 / q ≤ 20000000 := Nat.le_trans (Nat.div_le_self _ _) (by lia)
  generalize hsc : p.natAbs * 1000000 / q = sc at rc hsm ⊢
  refine jG ?_
  simp only [zT, jQ, jB, fQ, zB, Lz, Ls, gI, q_ge, jI]
  refine ⟨IntMulOk.of_right (intBits_le_64 (by decide) (by decide)), fun t16 => ⟨fun e => absurd (of_decide_eq_true e) (by lia), fun _ => ?_⟩⟩
  refine vcB_e (jG ?_)
  simp only [uC, yP, vL0, vL1, jB, zC, zB, Lz, Ls, q_div, q_str, q_mod]
  rw [gJ, nat_fmod]
  have e8 := rc.whole
  have e9 := rb.whole
  rw [hsc] at e8
  rw [← e8] at e9
  rw [e9]
  refine ⟨⟨by decide, by decide⟩, fun t17 => ⟨⟨by lia, by lia⟩, fun t18 => ⟨by decide, fun t19 => ⟨zN, fun a ha => ?_⟩⟩⟩⟩
  refine gR ⟨rfl, ?_⟩
  simp only [List.reverse, List.reverseAux, sA0, sA1, Ts, Tz]
  have le := jD (vs := [.str (S (qB p q)) t18, .int ((sc % 1000000 : Nat) : Int) t19]) ha
  have hr2 := le.1 _ _ hr
  generalize H.setI a _ = H2 at le hr2 ⊢
  have lw := rb.short
  have hsz : (1000 : Nat) ≤ sizeLine := by rw [sizeLine_eq]; lia
  have done : ∀ (v6 : Option Value) (x : List Nat) (t20 : Tok), x = qB p q ++ (if jX p q = [] then [] else 46 :: jX p q) → x.length ≤ 900 →
      vcS G C n X (.s (.s (.s (.s (.s (.s (.s (.s (.s (.s (.s (.s (.s (.s (.s (.s .z)))))))))))))))) (.ret (.ite (.and (.cmp .Lt (.sub (.loc 0) (.cst (.int 0))) (.cst (.int 0))) [(.cmp .Gt (.loc 3) (.cst (.int 0)))]) (.bin .Add (.cst (.str "-")) (.loc 4)) (.loc 4)))
        [some (.ref r), some (.int 6 t), some (.int (1000000 : Nat) t4), some (.int (sc : Nat) t15), some (.str (S x) t20), some (.int ((sc % 1000000 : Nat) : Int) t19), v6] H2 (fun f l H => match f with | .next => Q Fl.next.val H | .ret v => Q (Fl.ret v).val H) := by
    intro v6 x t20 ex hx
    simp only [zJ, jH, jB, zB, uQ, jQ, uD, qL, vA0, vA1, Lz, Ls, jJ, jM]
    refine fun t21 => uR hr2 ?_
    simp only [q_lt, q_gt, jI, nR, s45, wT, yA, yC]
    have et : yQ p q = (if p < 0 then [45] else []) ++ x := by rw [ex]; simp only [yQ, List.append_assoc]
    rw [et] at h
    refine fun t22 => ⟨fun e t23 => ⟨fun e2 t24 => ⟨by simp; lia, fun t25 => ?_⟩, fun e2 => ?_⟩, fun e => ⟨fun e2 => absurd (e.symm.trans e2) (by decide), fun _ => ?_⟩⟩
    · have hp := of_decide_eq_true e
      rw [if_pos hp] at h
      exact h t25 H2 le
    · have hp := of_decide_eq_true e
      have := of_decide_eq_false e2
      have := rc.neg hp
      rw [hsc] at this
      lia
    · have hp := of_decide_eq_false e
      rw [if_neg hp] at h
      exact h t20 H2 le
  refine jG ?_
  simp only [zT, jQ, jH, jB, Lz, Ls, jJ, q_gt, jI]
  refine fun t20 => ⟨fun e => ?_, fun e => ?_⟩
  · have hp := of_decide_eq_true e
    have hne : ¬ jX p q = [] := fun q' => by
      have := rc.none.mpr q'
      rw [hsc] at this
      lia
    have sv := rc.sev
    rw [hsc] at sv
    have e10 : (((1000000 : Nat) : Int) + ((sc % 1000000 : Nat) : Int)) = ((1000000 + sc % 1000000 : Nat) : Int) := by lia
    have hd : (dig (1000000 + sc % 1000000)).drop 1 = six p q := by unfold six; rw [hsc]
    have hl6 : (six p q).length = 6 := by rw [← hd, List.length_drop, sv.2]
    have hsx := rc.parts
    refine jG ?_
    simp only [jV, gE, vL0, vL1, jH, jB, zC, zB, Lz, Ls, jJ, xF, wQ, q_str, e10, sv.1, q_slcf, yA]
    have e11 : (1 : Int) = ((1 : Nat) : Int) := rfl
    refine fun t21 => ⟨⟨by lia, by lia⟩, fun t22 t23 => ⟨by lia, fun t24 => ?_⟩⟩
    rw [e11, S_from (by lia), hd]
    simp only [Ts, Tz]
    show vcB _ _ _ _ _
    refine jG ?_
    simp only [w_whl]
    refine ⟨7, ?_⟩
    refine loop_strip 7 (six p q) t24 (by lia) (by lia) (by rw [hsx]; exact hne) fun t25 => ?_
    rw [hsx]
    simp only [vB0, vB1, jV, zJ, jH, jB, zB, uQ, uD, Lz, Ls, jM, nR, s46, wT, yA]
    refine fun t26 => ⟨by simp; lia, fun t27 => ⟨by simp; lia, fun t28 => ?_⟩⟩
    simp only [Ts, Tz]
    exact done _ _ _ (by rw [if_neg hne, List.append_assoc]; rfl) (by simp; lia)
  · have hp := of_decide_eq_false e
    have hne : jX p q = [] := rc.none.mp (by rw [hsc]; lia)
    simp only [vB0]
    exact done _ _ _ (by rw [if_pos hne, List.append_nil]) (by lia)
end
noncomputable def kN (last text : List Nat) : Bool := !(decide (last = []) || decide (text.head? = some 45)) && !(decide (text.head? = some 46) && decide (46 ∈ last))
theorem S_first {c : Nat} {r : List Nat} : Txt.item (S (c :: r)) (0 : Int) = S [c] := S_item (l := c :: r) (k := 0) (by simp)
section
variable {G : Gl} {H : AH} {Q : Value → AH → Prop} {C : Addr} {X : AH → Prop} {n : Nat}
theorem toldL_len {p : Int} {q : Nat} (ht : (p, q) ∈ tab) : (yQ p q).length ≤ 60 := by
  have := (rowsB _ ht).short
  simp only at this
  unfold yQ
  simp only [List.length_append]
  have h1 : (if p < 0 then [45] else ([] : List Nat)).length ≤ 1 := by split <;> simp
  have h2 : (if jX p q = [] then [] else 46 :: jX p q).length ≤ 21 := by
    split
    · simp
    · simp; lia
  lia
theorem Fn.sh (F : Fn G) {r : Addr} {p : Int} {q : Nat} {t1 t2 : Tok} (hr : H.I r = some [.int p t1, .int (q : Nat) t2]) (ht : (p, q) ∈ tab) (h : ∀ t H', AH.Le H H' → Q (.str (S (told p q)) t) H') : CallT G C (n + 2) (.ref 298) [.ref r] H Q X := by
  refine jL F.short rfl ?_
  have rd := rowsD _ ht
  simp only at rd
  have hl := toldL_len ht
  have hsz : (1000 : Nat) ≤ sizeLine := by rw [sizeLine_eq]; lia
  simp only [b_short, fu]
  refine jG ?_
  simp only [jV, zD, vL0, vL1, jB, fQ, List.map, La, Ln, Lz]
  refine F.wd hr ht fun t3 H1 le1 => ?_
  simp only [vB0, vB1, zT, zJ, jH, jB, zB, jQ, gE, Ts, Tz, Lz, Ls, xF, jJ, q_slct, jM, s48_46, s45_48_46, s45, uS, jI, q_slcf, nR, yC, yA]
  have k0 : (0 : Nat) = 0 := rfl
  have i1 : (1 : Int) = ((1 : Nat) : Int) := rfl
  have i2 : (2 : Int) = ((2 : Nat) : Int) := rfl
  have i3 : (3 : Int) = ((3 : Nat) : Int) := rfl
  have hq := fun t => h t H1 le1
  simp only [i2, i3, S_to, mZ]
  refine fun t4 => ⟨by lia, fun t5 t6 => ⟨fun e t7 => ⟨by lia, fun t8 => ?_⟩, fun e t7 => ⟨by lia, fun t8 t9 => ⟨fun e2 t10 t11 => ⟨by lia, fun t12 => ?_⟩, fun e2 => ?_⟩⟩⟩⟩
  · have h2 : (yQ p q).take 2 = [48, 46] := by simpa using e
    have hlen : 2 ≤ (yQ p q).length := by
      have := congrArg List.length h2
      rw [List.length_take] at this
      simp at this
      lia
    rw [i1, S_from (by lia), rd.a h2]
    exact hq t8
  · have h2 : (yQ p q).take 2 ≠ [48, 46] := by simpa using e
    have h3 : (yQ p q).take 3 = [45, 48, 46] := by simpa using e2
    have hlen : 3 ≤ (yQ p q).length := by
      have := congrArg List.length h3
      rw [List.length_take] at this
      simp at this
      lia
    rw [S_from (by lia), wT, yA]
    refine ⟨by simp; lia, fun t13 => ?_⟩
    rw [List.singleton_append, rd.b h2 h3]
    exact hq t13
  · have h2 : (yQ p q).take 2 ≠ [48, 46] := by simpa using e
    have h3 : (yQ p q).take 3 ≠ [45, 48, 46] := by simpa using e2
    rw [rd.c h2 h3]
    exact hq t3
theorem Fn.wb (F : Fn G) {last text : List Nat} {t u : Tok} (ne : text ≠ []) (hl : text.length < 100000) (h : Q (.bool (kN last text)) H) : CallT G C (n + 1) (.ref 305) [.str (S last) t, .str (S text) u] H Q X := by
  refine jL F.wants_blank rfl ?_
  obtain ⟨c, r, rfl⟩ : ∃ c r, text = c :: r := by
    cases text with
    | nil => exact absurd rfl ne
    | cons c r => exact ⟨c, r, rfl⟩
  have hh : ∀ k : Nat, ((c :: r).head? = some k) = (c = k) := fun k => by simp
  simp only [kN, hh] at h
  have b1 : ∀ k : Nat, (Txt.item (S (c :: r)) (0 : Int) == S [k]) = decide (c = k) := fun k => by rw [S_first, mZ, Bool.eq_iff_iff]; simp
  have b0 : (S last == S []) = decide (last = []) := by rw [mZ, Bool.eq_iff_iff]; simp
  simp only [pH, fu, vB0, vB1, zT, zJ, jH, jB, v_not, uQ, v_or, jQ, qL, vA0, vA1, List.map, La, Ln, Lz, Ls, jJ, jM, q_cbool, s_n, s45, s46, uS, jI, q_idx, yC, q_in]
  have tail : decide (last = []) = false → decide (c = 45) = false → (Q (.bool (!(decide (c = 46) && decide (46 ∈ last)))) H) := fun a b => by
    rw [a, b] at h
    simpa using h
  have yes : decide (last = []) = true ∨ decide (c = 45) = true → Q (.bool false) H := fun a => by
    have : (!(decide (last = []) || decide (c = 45)) && !(decide (c = 46) && decide (46 ∈ last))) = false := by
      rcases a with a | a <;> simp [a]
    rw [this] at h
    exact h
  have hb : ((c :: r).length < 9223372036854775808 ∧ -((c :: r).length : Int) ≤ 0 ∧ (0 : Int) < (c :: r).length) := ⟨by lia, by lia, by simp⟩
  refine fun t1 => ⟨fun e t2 => ⟨hb, fun t3 t4 => ⟨fun e2 => yes (.inr ((b1 45).symm.trans e2)), fun e2 t5 => ⟨hb, fun t6 t7 => ⟨fun e3 t8 => ?_, fun e3 => ?_⟩⟩⟩⟩, fun e => ⟨fun _ => yes (.inl (b0.symm.trans e)), fun e2 => absurd (e.symm.trans e2) (by decide)⟩⟩
  · have := tail (b0.symm.trans e) ((b1 45).symm.trans e2)
    rw [(b1 46).symm.trans e3, Bool.true_and] at this
    rw [gB]
    exact this
  · have := tail (b0.symm.trans e) ((b1 45).symm.trans e2)
    have e4 : (Txt.item (S (c :: r)) (0 : Int) == S [46]) = false := e3
    rw [(b1 46).symm.trans e4, Bool.false_and] at this
    rw [e4]
    exact this
end
theorem told_is (p : Int) (q : Nat) : told p q = (if p < 0 then [45] else []) ++ ((if qB p q ≠ [48] ∨ jX p q = [] then qB p q else []) ++ (if jX p q ≠ [] then 46 :: jX p q else [])) := by
  unfold told tz Dec.text Dec.tail
  by_cases h : jX p q = []
  · simp [h]
  · simp [h]
section
variable {G : Gl} {H : AH} {Q : Value → AH → Prop} {C : Addr} {X : AH → Prop} {n : Nat}
theorem Fn.lt (F : Fn G) {r : Addr} {p : Int} {q : Nat} {t1 t2 : Tok} (hr : H.I r = some [.int p t1, .int (q : Nat) t2]) (ht : (p, q) ∈ tab) (h : ∀ t H', AH.Le H H' → Q (.str (S (told p q)) t) H') : CallT G C (n + 1) (.ref 422) [.ref r] H Q X := by
  refine jL F.law_told rfl ?_
  have ra := fT _ ht
  have rb := rowsB _ ht
  simp only at ra rb
  have pb := ra.p0
  have qb := ra.q0
  have habs : (if p < 0 then -p else p) = (p.natAbs : Int) := by split <;> lia
  have hsz : (1000 : Nat) ≤ sizeLine := by rw [sizeLine_eq]; lia
  simp only [mU, fu]
  refine jG ?_
  simp only [jV, zB, vL0, vL1, jH, jB, zC, qL, List.map, La, Ln, Lz, Ts, Tz, jJ]
  refine fun t3 => uR hr ?_
  simp only [q_abs, gI, habs]
  refine fun t4 t5 => ⟨IntMulOk.of_right (intBits_le_64 (by decide) (by decide)), fun t6 t7 => q_item1 hr ?_⟩
  simp only [q_div]
  refine ⟨⟨by lia, by lia⟩, fun t8 => ?_⟩
  have x1 : (p.natAbs : Int) * 1000 = ((p.natAbs * 1000 : Nat) : Int) := by generalize p.natAbs = a; lia
  have i1000 : (1000 : Int) = ((1000 : Nat) : Int) := rfl
  have i1 : (1 : Int) = ((1 : Nat) : Int) := rfl
  rw [x1, gJ]
  have hsm : p.natAbs * 1000 / q ≤ 20000 := Nat.le_trans (Nat.div_le_self _ _) (by lia)
  have bw := rb.whole
  have bp := rb.parts
  have bt := rb.thou
  have bs := rb.short
  generalize p.natAbs * 1000 / q = sz at bw bp bt hsm ⊢
  refine jG ?_
  simp only [uC, yP, vL0, vL1, jH, jB, zC, yS, zB, gE, Lz, Ls, jJ, xF, jM, q_div, q_mod, wQ, q_str, bmOk, gK, q_slcf, s48]
  have y1 : Int.fdiv (sz : Int) 1000 = ((sz / 1000 : Nat) : Int) := by rw [i1000, gJ]
  have y2 : (1000 : Int) + Int.fmod (sz : Int) 1000 = ((1000 + sz % 1000 : Nat) : Int) := by rw [i1000, nat_fmod]; lia
  rw [y1, y2, bw, bt.1]
  simp only [yA]
  refine fun t9 => ⟨⟨by decide, by decide⟩, fun t10 => ⟨⟨by lia, by lia⟩, fun t11 t12 t13 => ⟨by decide, fun t14 t15 => ⟨⟨by lia, by lia⟩, fun t16 t17 => ⟨by lia, fun t18 => ⟨trivial, fun t19 => ⟨?_, fun t20 => ⟨zN, fun a ha => ?_⟩⟩⟩⟩⟩⟩⟩⟩
  · rw [i1, S_from bt.2.1, yA, List.length_drop]; lia
  rw [i1, S_from bt.2.1, bp]
  refine gR ⟨rfl, ?_⟩
  simp only [List.reverse, List.reverseAux, sA0, sA1, Ts, Tz]
  have le := jD (vs := [.str (S (qB p q)) t11, .str (S (jX p q)) t20]) ha
  have hr2 := le.1 _ _ hr
  generalize H.setI a _ = H2 at le hr2 ⊢
  have hq := fun t => h t H2 le
  rw [told_is] at hq
  have done : ∀ (x : List Nat) (t20 : Tok) (v3 v4 : Option Value), x = (if qB p q ≠ [48] ∨ jX p q = [] then qB p q else []) ++ (if jX p q ≠ [] then 46 :: jX p q else []) → x.length ≤ 900 →
      vcS G C n X (.s (.s (.s (.s (.s (.s (.s (.s (.s (.s (.s (.s (.s (.s (.s (.s .z)))))))))))))))) (.ret (.ite (.cmp .Lt (.sub (.loc 0) (.cst (.int 0))) (.cst (.int 0))) (.bin .Add (.cst (.str "-")) (.loc 2)) (.loc 2)))
        [some (.ref r), some (.int (sz : Nat) t8), some (.str (S x) t20), v3, v4] H2 (fun f l H => match f with | .next => Q Fl.next.val H | .ret v => Q (Fl.ret v).val H) := by
    intro x t20 v3 v4 ex hx
    simp only [zJ, jH, jB, zB, jQ, uD, qL, Lz, Ls, jJ, jM]
    refine fun t21 => uR hr2 ?_
    simp only [q_lt, jI, nR, s45, wT, yA, yC]
    rw [← ex] at hq
    refine fun t22 => ⟨fun e t23 => ⟨by simp; lia, fun t24 => ?_⟩, fun e => ?_⟩
    · have hp := of_decide_eq_true e
      rw [if_pos hp] at hq
      exact hq t24
    · have hp := of_decide_eq_false e
      rw [if_neg hp] at hq
      exact hq t20
  refine jG ?_
  simp only [jV, zB, jH, jB, v_or, jQ, uD, vA0, vA1, Lz, Ls, jM, nQ, uS, jI, s_n, s46, S_ne, mZ, Ts, Tz]
  have right : ∀ (w : List Nat) (tw : Tok), w = (if qB p q ≠ [48] ∨ jX p q = [] then qB p q else []) → ∀ b, b = (!decide (jX p q = [])) →
      ((b = true → ∀ t, kA .Add (.str (S [46]) t) (.str (S (jX p q)) t20) H2 fun v H => kA .Add (.str (S w) tw) v H fun v H => vcS G C n X (.s (.s (.s (.s (.s (.s (.s (.s (.s (.s (.s (.s (.s (.s (.s (.s .z)))))))))))))))) (.ret (.ite (.cmp .Lt (.sub (.loc 0) (.cst (.int 0))) (.cst (.int 0))) (.bin .Add (.cst (.str "-")) (.loc 2)) (.loc 2)))
        [some (.ref r), some (.int (sz : Nat) t8), some v, some (.str (S (qB p q)) t11), some (.str (S (jX p q)) t20)] H (fun f l H => match f with | .next => Q Fl.next.val H | .ret v => Q (Fl.ret v).val H)) ∧
       (b = false → ∀ t, kA .Add (.str (S w) tw) (.str (S []) t) H2 fun v H => vcS G C n X (.s (.s (.s (.s (.s (.s (.s (.s (.s (.s (.s (.s (.s (.s (.s (.s .z)))))))))))))))) (.ret (.ite (.cmp .Lt (.sub (.loc 0) (.cst (.int 0))) (.cst (.int 0))) (.bin .Add (.cst (.str "-")) (.loc 2)) (.loc 2)))
        [some (.ref r), some (.int (sz : Nat) t8), some v, some (.str (S (qB p q)) t11), some (.str (S (jX p q)) t20)] H (fun f l H => match f with | .next => Q Fl.next.val H | .ret v => Q (Fl.ret v).val H))) := by
    intro w tw ew b eb
    have hw : w.length ≤ 20 := by
      rw [ew]
      split
      · lia
      · simp
    simp only [nR, yA, wT]
    refine ⟨fun e t => ⟨by simp; lia, fun t' => ⟨by simp; lia, fun t'' => done _ _ _ _ ?_ (by simp; lia)⟩⟩, fun e t => ⟨by simp; lia, fun t' => done _ _ _ _ ?_ (by simp; lia)⟩⟩
    · have hn : jX p q ≠ [] := nd_true (eb.symm.trans e)
      have e9 : (if jX p q ≠ [] then 46 :: jX p q else []) = 46 :: jX p q := if_pos hn
      rw [e9, ew]
      rfl
    · have hn : jX p q = [] := nY (eb.symm.trans e)
      have e9 : (if jX p q ≠ [] then 46 :: jX p q else []) = [] := if_neg (fun k => k hn)
      rw [e9, ew]
  refine fun t21 => ⟨fun e t22 => ⟨fun e2 t23 => right _ t11 ?_ _ rfl, fun e2 t23 t24 => right [] t23 ?_ _ rfl⟩, fun e => ⟨fun e2 t22 => right _ t11 ?_ _ rfl, fun e2 => absurd (e2.symm.trans e) (by decide)⟩⟩
  · have h2 : jX p q = [] := by simpa using e2
    rw [if_pos (.inr h2)]
  · have h1 : qB p q = [48] := nY e
    have h2 : ¬ jX p q = [] := by simpa using e2
    rw [if_neg (fun k => k.elim (fun k => k h1) h2)]
  · have h1 : ¬ qB p q = [48] := nd_true e2
    rw [if_pos (.inl h1)]
end
set_option genSizeOf false
set_option genSizeOfSpec false
noncomputable def StrV (v : Value) (l : List Nat) : Prop := ∃ t, v = .str (S l) t
structure St where
  text : List Nat
  letter : List Nat
  last : List Nat
noncomputable def xL (s : St) (c : Nat) : Bool := !decide ([c] = s.letter) || decide (c ∈ [90, 122])
noncomputable def jR (s : St) (c : Nat) : St := ⟨if xL s c then s.text ++ [c] else s.text, if c ∈ [90, 122] then [] else [behind c], if xL s c then [] else s.last⟩
noncomputable def nG (s : St) (p : Int) (q : Nat) : St := ⟨s.text ++ (if kN s.last (told p q) then [32] else []) ++ told p q, s.letter, told p q⟩
noncomputable def stFlag (s : St) (k : Nat) : St := ⟨s.text ++ (if s.last = [] then [] else [32]) ++ [48 + k], s.letter, []⟩
noncomputable def yI (s : St) : Arg → St
  | .num p q => nG s p q
  | .flag k => stFlag s k
noncomputable def qN (s : St) (c : Cmd) : St := c.args.foldl yI (jR s c.c)
noncomputable def st0 : St := ⟨[], [], []⟩
noncomputable def xD (cs : List Cmd) : St := cs.foldl qN st0
noncomputable def vC (f : Bool) : Arg → Prop
  | .num p q => f = false ∧ (p, q) ∈ tab
  | .flag k => f = true ∧ k ≤ 1
noncomputable def xP (arc : Bool) : Nat → List Arg → Prop
  | _, [] => True
  | p, a :: as => vC (arc && (p == 3 || p == 4)) a ∧ xP arc (p + 1) as
structure GoodC (c : Cmd) : Prop where
  letter : c.c ∈ LT
  many : c.args.length = zF c.c
  args : xP (zL c.c) 0 c.args
structure Wt (H : AH) (x d pl : Addr) (s : St) (B : Nat) : Prop where
  obj : H.M x = some (.inst 350 d)
  dct : ∃ tl ta, H.M d = some (.dict [("parts", .ref pl), ("letter", .str (S s.letter) tl), ("last", .str (S s.last) ta)])
  lst : ∃ vs ps, H.M pl = some (.list vs) ∧ Alls StrV vs ps ∧ ps.flatten = s.text ∧ ps.length ≤ B
  ne : x ≠ d
  n1 : pl ≠ x
  n2 : pl ≠ d
section
variable {G : Gl} {H : AH} {Q : Value → AH → Prop} {C : Addr} {X : AH → Prop} {n : Nat} {x d pl : Addr} {s : St} {B : Nat}
theorem Wt.le {H' : AH} (W : Wt H x d pl s B) (le : AH.Le H H') : Wt H' x d pl s B := by
  obtain ⟨o, ⟨tl, ta, e⟩, ⟨vs, ps, e1, e2, e3, e4⟩, n, n1, n2⟩ := W
  exact ⟨le.2 _ _ o, ⟨tl, ta, le.2 _ _ e⟩, ⟨vs, ps, le.2 _ _ e1, e2, e3, e4⟩, n, n1, n2⟩
theorem Wt.mono {B' : Nat} (W : Wt H x d pl s B) (h : B ≤ B') : Wt H x d pl s B' := by
  obtain ⟨o, dd, ⟨vs, ps, e1, e2, e3, e4⟩, n, n1, n2⟩ := W
  exact ⟨o, dd, ⟨vs, ps, e1, e2, e3, by lia⟩, n, n1, n2⟩
theorem Wt.meth (W : Wt H x d pl s B) : ∃ fs, qC H 350 (.ref x) = some (d, fs) ∧ ∀ nm : Str, nm ≠ "parts" → nm ≠ "letter" → nm ≠ "last" → lk nm fs = none := by
  obtain ⟨tl, ta, e⟩ := W.dct
  refine ⟨_, by simp [qC, W.obj, e]; rfl, fun nm n1 n2 n3 => ?_⟩
  simp [lk, Ne.symm n1, Ne.symm n2, Ne.symm n3]
theorem Wt.getLast (W : Wt H x d pl s B) (h : ∀ t, Q (.str (S s.last) t) H) : jY 350 (.ref x) "last" H Q := by
  obtain ⟨tl, ta, e⟩ := W.dct
  rw [yL W.obj e (u := .str (S s.last) ta) rfl rfl]
  exact h ta
theorem Wt.getLetter (W : Wt H x d pl s B) (h : ∀ t, Q (.str (S s.letter) t) H) : jY 350 (.ref x) "letter" H Q := by
  obtain ⟨tl, ta, e⟩ := W.dct
  rw [yL W.obj e (u := .str (S s.letter) tl) rfl rfl]
  exact h tl
theorem Wt.getParts (W : Wt H x d pl s B) (h : Q (.ref pl) H) : jY 350 (.ref x) "parts" H Q := by
  obtain ⟨tl, ta, e⟩ := W.dct
  rw [yL W.obj e (u := .ref pl) rfl rfl]
  exact h
theorem Wt.setLast (W : Wt H x d pl s B) {w : List Nat} {t : Tok} {Q : AH → Prop} (h : ∀ H', LeY d pl H H' → Wt H' x d pl ⟨s.text, s.letter, w⟩ B → Q H') : qT 350 (.ref x) "last" (.str (S w) t) H Q := by
  obtain ⟨tl, ta, e⟩ := W.dct
  rw [qW W.obj e]
  refine ⟨by simp, h _ leX_set.y ?_⟩
  obtain ⟨vs, ps, e1, e2, e3, e4⟩ := W.lst
  exact ⟨by rw [jC W.ne]; exact W.obj, ⟨tl, t, by rw [jP]; rfl⟩, ⟨vs, ps, by rw [jC W.n2]; exact e1, e2, e3, e4⟩, W.ne, W.n1, W.n2⟩
theorem Wt.setLetter (W : Wt H x d pl s B) {w : List Nat} {t : Tok} {Q : AH → Prop} (h : ∀ H', LeY d pl H H' → Wt H' x d pl ⟨s.text, w, s.last⟩ B → Q H') : qT 350 (.ref x) "letter" (.str (S w) t) H Q := by
  obtain ⟨tl, ta, e⟩ := W.dct
  rw [qW W.obj e]
  refine ⟨by simp, h _ leX_set.y ?_⟩
  obtain ⟨vs, ps, e1, e2, e3, e4⟩ := W.lst
  exact ⟨by rw [jC W.ne]; exact W.obj, ⟨t, ta, by rw [jP]; rfl⟩, ⟨vs, ps, by rw [jC W.n2]; exact e1, e2, e3, e4⟩, W.ne, W.n1, W.n2⟩
theorem Wt.app (W : Wt H x d pl s B) (hB : B < 90000) {w : List Nat} {t : Tok} (h : ∀ H', LeY d pl H H' → Wt H' x d pl ⟨s.text ++ w, s.letter, s.last⟩ (B + 1) → Q .none H') : bmVC .append (.ref pl) [.str (S w) t] H Q := by
  obtain ⟨vs, ps, e1, e2, e3, e4⟩ := W.lst
  have hl := e2.len
  simp only [fV, pA, m_up, fU, gK, e1]
  refine ⟨by lia, h _ LeY.set ?_⟩
  obtain ⟨tl, ta, e⟩ := W.dct
  refine ⟨by rw [jC W.n1.symm]; exact W.obj, ⟨tl, ta, by rw [jC W.n2.symm]; exact e⟩, ⟨_, ps ++ [w], jP, e2.snoc ⟨t, rfl⟩, by simp [e3], by simp; lia⟩, W.ne, W.n1, W.n2⟩
theorem Wt.appOk (W : Wt H x d pl s B) : bmOk .append (.ref pl) H := by
  obtain ⟨vs, ps, e1, _⟩ := W.lst
  simp [bmOk, e1]
theorem c_pw_init (F : Fn G) (h0 : H.M x = some (.inst 350 d)) (h1 : H.M d = some (.dict [])) (ne : x ≠ d)
    (h : ∀ pl H', (∀ a vs, H.I a = some vs → H'.I a = some vs) → (∀ a mo, a ≠ d → H.M a = some mo → H'.M a = some mo) → Wt H' x d pl st0 0 → (H.free pl) → Q .none H') : CallT G C (n + 1) (.ref 319) [.ref x] H Q X := by
  refine jL F.PathWriter_init rfl ?_
  simp only [xO, fu, vB0, vB1]
  simp only [kZ, vL0, jH, jB, pJ, List.map, La, Ln, Lz]
  refine ⟨Nat.zero_le _, fun pl hp => ?_⟩
  have n1 : pl ≠ x := fun e => by rw [← e, hp.2] at h0; cases h0
  have n2 : pl ≠ d := fun e => by rw [← e, hp.2] at h1; cases h1
  rw [qW (fs := []) (d := d) (by rw [jC n1.symm]; exact h0) (by rw [jC n2.symm]; exact h1)]
  refine ⟨by simp, ?_⟩
  simp only [jM]
  intro t1
  rw [qW (fs := pt "parts" (.ref pl) []) (d := d) (by rw [jC ne, jC n1.symm]; exact h0) jP]
  refine ⟨by simp [pt], fun t2 => ?_⟩
  rw [qW (fs := pt "letter" (.str "" t1) (pt "parts" (.ref pl) [])) (d := d) (by rw [jC ne, jC ne, jC n1.symm]; exact h0) jP]
  refine ⟨(by show (2 : Nat) ≤ 100; decide), h pl _ (fun _ _ e => e) (fun a mo na e => ?_) ⟨by rw [jC ne, jC ne, jC ne, jC n1.symm]; exact h0, ⟨t1, t2, by rw [jP]; rfl⟩, ⟨[], [], by rw [jC n2, jC n2, jC n2]; exact jP, .nil, rfl, Nat.le_refl _⟩, ne, n1, n2⟩ hp⟩
  have na2 : a ≠ pl := fun q => by rw [q, hp.2] at e; cases e
  rw [jC na, jC na, jC na, jC na2]
  exact e
end
section
variable {G : Gl} {H : AH} {Q : Value → AH → Prop} {C : Addr} {X : AH → Prop} {n : Nat} {x d pl : Addr} {s : St} {B : Nat}
theorem Fn.plet (F : Fn G) (W : Wt H x d pl s B) (hB : B < 80000) {c : Nat} {t : Tok} (hc : c ∈ LT) (h : ∀ H', LeY d pl H H' → Wt H' x d pl (jR s c) (B + 1) → Q .none H') : CallT G C (n + 2) (.ref 326) [.ref x, .str (S [c]) t] H Q X := by
  refine jL F.PathWriter_put_letter rfl ?_
  simp only [qE, fu, vB0, vB1]
  have fin : ∀ H1 s1, LeY d pl H H1 → Wt H1 x d pl s1 (B + 1) → s1.text = (if xL s c then s.text ++ [c] else s.text) → s1.last = (if xL s c then [] else s.last) →
      vcS G C (n + 1) X (.s (.s (.s (.s (.s (.s (.s (.s (.s (.s (.s (.s (.s (.s (.s (.s .z)))))))))))))))) (.asgA 350 (.loc 0) "letter" (.ite (.cmp .In (.loc 1) (.cst (.str "Zz"))) (.cst (.str "")) (.call 263 [(.loc 1)]))) [some (.ref x), some (.str (S [c]) t)] H1 (fun f l H => match f with | .next => Q Fl.next.val H | .ret v => Q (Fl.ret v).val H) := by
    intro H1 s1 le1 W1 et el
    rw [kZ, uD]
    simp only [jH, jB, zD, jQ, vL0, vL1, Lz, Ls, jM, nK, s_n, q_in, gB, jI]
    refine fun t1 => ⟨fun e t2 => ?_, fun e => ?_⟩
    · have e' := of_decide_eq_true e
      refine W1.setLetter fun H2 le2 W2 => h H2 (le1.trans le2) ?_
      rw [et, el] at W2
      simp only [jR]
      rw [if_pos e']
      exact W2
    · have e' := of_decide_eq_false e
      refine wR F.letter_behind hc fun t2 => ?_
      refine W1.setLetter fun H2 le2 W2 => h H2 (le1.trans le2) ?_
      rw [et, el] at W2
      simp only [jR]
      rw [if_neg e']
      exact W2
  have yes : xL s c = true → vcB (vcS G C (n + 1) X (.s (.s (.s (.s (.s (.s (.s (.s (.s (.s (.s (.s (.s (.s (.s .z)))))))))))))))) [.exp (.bmeth .append (.attr 350 (.loc 0) "parts") [(.loc 1)]), .asgA 350 (.loc 0) "last" (.cst (.str ""))] [some (.ref x), some (.str (S [c]) t)] H
      (fun f l H => match f with
        | .next => vcS G C (n + 1) X (.s (.s (.s (.s (.s (.s (.s (.s (.s (.s (.s (.s (.s (.s (.s (.s .z)))))))))))))))) (.asgA 350 (.loc 0) "letter" (.ite (.cmp .In (.loc 1) (.cst (.str "Zz"))) (.cst (.str "")) (.call 263 [(.loc 1)]))) l H (fun f l H => match f with | .next => Q Fl.next.val H | .ret v => Q (Fl.ret v).val H)
        | .ret v => Q (Fl.ret v).val H) := by
    intro hf
    rw [vB1, qF, yS]
    simp only [jB, zX, vL0, vL1, Lz, Ls]
    refine W.getParts ⟨W.appOk, W.app (by lia) fun H1 le1 W1 => ?_⟩
    rw [vB1, kZ]
    simp only [jH, jB, Lz, jM, s_n]
    refine fun t1 => W1.setLast fun H2 le2 W2 => ?_
    rw [vB0]
    exact fin H2 _ (le1.trans le2) W2 (by rw [if_pos hf]) (by rw [if_pos hf])
  rw [zT, v_or, vA1]
  simp only [jH, jB, zX, jQ, vA0]
  refine W.getLetter fun t1 => ?_
  simp only [nQ, jI, S_ne, jM, nK, q_in, gB]
  refine ⟨fun e t2 => ⟨fun e2 => yes ?_, fun e2 => ?_⟩, fun e => ⟨fun _ => yes ?_, fun e2 => absurd (e.symm.trans e2) (by decide)⟩⟩
  · rw [gB] at e2
    simp only [xL, e2, Bool.or_true]
  · rw [gB] at e2
    have hf : ¬ xL s c = true := by simp only [xL, e, e2]; simp
    simp only [vB0]
    exact fin H s (LeY.of_le (AH.Le.refl H)) (W.mono (by lia)) (by rw [if_neg hf]) (by rw [if_neg hf])
  · have e' : (!decide ([c] = s.letter)) = true := e
    simp only [xL, e', Bool.true_or]
theorem vQ {p : Int} {q : Nat} (ht : (p, q) ∈ tab) : told p q ≠ [] ∧ (told p q).length ≤ 7 := by
  have ra := fT _ ht
  simp only at ra
  have h3 := ra.ok3
  have h1 := ra.len1
  have h2 := ra.len2
  unfold told Dec.text Dec.tail
  constructor
  · intro e
    have e1 := List.append_eq_nil_iff.mp e
    have e2 := List.append_eq_nil_iff.mp e1.1
    refine h3 ?_
    unfold Dec.fig
    cases hp : (tz p q).parts with
    | none => rw [e2.2]; rfl
    | some y => rw [hp] at e1; cases e1.2
  · simp only [List.length_append]
    have : (if (tz p q).neg = true then [45] else ([] : List Nat)).length ≤ 1 := by split <;> simp
    cases hp : (tz p q).parts with
    | none => simp; lia
    | some y => rw [hp] at h2; simp at h2 ⊢; lia
theorem Fn.pnum (F : Fn G) (W : Wt H x d pl s B) (hB : B < 80000) (hl : s.last.length < 1000) {r : Addr} {p : Int} {q : Nat} {t1 t2 : Tok} (hr : H.I r = some [.int p t1, .int (q : Nat) t2]) (ht : (p, q) ∈ tab) (h : ∀ H', LeY d pl H H' → Wt H' x d pl (nG s p q) (B + 2) → Q .none H') :
    CallT G C (n + 3) (.ref 333) [.ref x, .ref r] H Q X := by
  refine jL F.PathWriter_put_number rfl ?_
  have tn := vQ ht
  simp only [qD, fu]
  refine jG ?_
  simp only [jV, zD, vL0, vL1, jB, List.map, La, Ln, Lz, Ls]
  refine F.sh hr ht fun t3 H1 le1 => ?_
  have W1 := W.le le1
  simp only [Ts, Tz]
  have fin : ∀ H2 w, LeY d pl H H2 → Wt H2 x d pl ⟨s.text ++ w, s.letter, s.last⟩ (B + 1) → w = (if kN s.last (told p q) then [32] else []) →
      vcB (vcS G C (n + 2) X (.s (.s (.s (.s (.s (.s (.s (.s (.s (.s (.s (.s (.s (.s (.s (.s .z))))))))))))))))) [.exp (.bmeth .append (.attr 350 (.loc 0) "parts") [(.loc 2)]), .asgA 350 (.loc 0) "last" (.loc 2)] [some (.ref x), some (.ref r), some (.str (S (told p q)) t3)] H2 (fun f l H => match f with | .next => Q Fl.next.val H | .ret v => Q (Fl.ret v).val H) := by
    intro H2 w le2 W2 ew
    refine jG ?_
    simp only [qF, yS, jB, zX, vL0, vL1, Lz, Ls]
    refine W2.getParts ⟨W2.appOk, W2.app (by lia) fun H3 le3 W3 => ?_⟩
    refine jG ?_
    simp only [kZ, jB, Lz, Ls]
    refine W3.setLast fun H4 le4 W4 => h H4 (le2.trans (le3.trans le4)) ?_
    rw [ew] at W4
    exact W4
  refine jG ?_
  simp only [zT, zD, vL0, vL1, jB, zX, Lz, Ls]
  refine W1.getLast fun t4 => ?_
  refine F.wb tn.1 (by lia) ?_
  simp only [jI]
  refine ⟨fun e => ?_, fun e => ?_⟩
  · refine jG ?_
    simp only [qF, yS, jH, jB, zX, vL0, vL1, Lz, jM, s32]
    refine W1.getParts ⟨W1.appOk, fun t5 => W1.app (by lia) fun H3 le3 W3 => ?_⟩
    exact fin H3 [32] ((LeY.of_le le1).trans le3) W3 (by rw [if_pos e])
  · have e' : ¬ kN s.last (told p q) = true := by rw [e]; decide
    exact fin H1 [] (LeY.of_le le1) (by rw [List.append_nil]; exact W1.mono (by lia)) (by rw [if_neg e'])
end
theorem flag_text (k : Nat) (h : k ≤ 1) : xZ (k : Int) = S [48 + k] := by
  have : k = 0 ∨ k = 1 := by lia
  rcases this with e | e <;> rw [e] <;> rfl
theorem mG {s : St} {a : Arg} {f : Bool} (ok : vC f a) : (yI s a).last.length ≤ 7 := by
  cases a with
  | num p q => exact (vQ ok.2).2
  | flag k => exact Nat.zero_le _
section
variable {G : Gl} {H : AH} {Q : Value → AH → Prop} {C : Addr} {X : AH → Prop} {n : Nat} {x d pl : Addr} {s : St} {B : Nat}
theorem Fn.pflag (F : Fn G) (W : Wt H x d pl s B) (hB : B < 80000) {k : Nat} {t : Tok} (hk : k ≤ 1) (h : ∀ H', LeY d pl H H' → Wt H' x d pl (stFlag s k) (B + 2) → Q .none H') : CallT G C (n + 1) (.ref 340) [.ref x, .int (k : Nat) t] H Q X := by
  refine jL F.PathWriter_put_flag rfl ?_
  have hkt := flag_text k hk
  simp only [qS, fu]
  have fin : ∀ H2 w, LeY d pl H H2 → Wt H2 x d pl ⟨s.text ++ w, s.letter, s.last⟩ (B + 1) → w = (if s.last = [] then [] else [32]) →
      vcB (vcS G C n X (.s (.s (.s (.s (.s (.s (.s (.s (.s (.s (.s (.s (.s (.s (.s (.s .z))))))))))))))))) [.exp (.bmeth .append (.attr 350 (.loc 0) "parts") [(.bcall .str [(.loc 1)])]), .asgA 350 (.loc 0) "last" (.cst (.str ""))] [some (.ref x), some (.int (k : Nat) t)] H2 (fun f l H => match f with | .next => Q Fl.next.val H | .ret v => Q (Fl.ret v).val H) := by
    intro H2 w le2 W2 ew
    refine jG ?_
    simp only [qF, yS, jB, zX, zC, vL0, vL1, Lz, Ls, q_str, hkt]
    refine W2.getParts ⟨W2.appOk, ⟨by lia, by lia⟩, fun t3 => W2.app (by lia) fun H3 le3 W3 => ?_⟩
    refine jG ?_
    simp only [kZ, jH, jB, Lz, jM, s_n]
    refine fun t4 => W3.setLast fun H4 le4 W4 => h H4 (le2.trans (le3.trans le4)) ?_
    rw [ew] at W4
    exact W4
  refine jG ?_
  simp only [zT, jQ, jH, jB, zX, List.map, La, Ln, Lz]
  refine W.getLast fun t4 => ?_
  simp only [jM, s_n, nQ, S_ne, jI]
  refine fun t5 => ⟨fun e => ?_, fun e => ?_⟩
  · refine jG ?_
    simp only [qF, yS, jH, jB, zX, vL0, vL1, Lz, jM, s32]
    refine W.getParts ⟨W.appOk, fun t5 => W.app (by lia) fun H3 le3 W3 => ?_⟩
    exact fin H3 [32] le3 W3 (by rw [if_neg (nd_true e)])
  · exact fin H [] (LeY.of_le (AH.Le.refl H)) (by rw [List.append_nil]; exact W.mono (by lia)) (by rw [if_pos (nY e)])
theorem item_at {a : Addr} {vs : List Value} {v : Value} {k : Nat} {t : Tok} (h : H.I a = some vs) (e : vs[k]? = some v) (hk : k < 1000) (q : Q v H) : nF (.ref a) (.int (k : Nat) t) H Q := by
  have e1 : ((k : Nat) : Int).toNat = k := by simp
  refine ⟨_, .inl h, ⟨by lia, by lia⟩, ?_⟩
  rw [e1, e]
  exact q
theorem put_body (F : Fn G) {k : Fu} (W : Wt H x d pl s B) (hB : B < 80000) (hl : s.last.length ≤ 7) {c p : Nat} {r : Addr} {t tp : Tok} {us : List Value} {a : Arg} {v : Value} (hp : p < 1000) (hu : H.I r = some us) (e : us[p]? = some v) (hv : ArgV H v a) (ok : vC (zL c && (p == 3 || p == 4)) a)
    {Qf : Fl → List (Option Value) → AH → Prop} (h : ∀ H', LeY d pl H H' → Wt H' x d pl (yI s a) (B + 2) → Qf .next [some (.ref x), some (.str (S [c]) t), some (.ref r), some (.int (p : Nat) tp)] H') :
    vcB (vcS G C (n + 3) X (.s (.s (.s (.s (.s (.s k))))))) qU [some (.ref x), some (.str (S [c]) t), some (.ref r), some (.int (p : Nat) tp)] H Qf := by
  have flagged : (zL c && (p == 3 || p == 4)) = true → ∀ (Kf : Fl → List (Option Value) → AH → Prop), (∀ ll H, Qf .next ll H → Kf .next ll H) → ∀ H2, AH.Le H H2 → vcB (vcS G C (n + 3) X (.s (.s (.s (.s (.s k)))))) [.exp (.meth 350 340 (.loc 0) "put_flag" [(.sub (.loc 2) (.loc 3))])] [some (.ref x), some (.str (S [c]) t), some (.ref r), some (.int (p : Nat) tp)] H2 Kf := fun ht Kf hKf H2 le2 => by
    rw [ht] at ok
    have W2 := W.le le2
    cases a with
    | num p' q' => exact absurd ok.1 (by decide)
    | flag k' =>
      obtain ⟨t', ev⟩ := hv
      obtain ⟨fs, ei, hn⟩ := W2.meth
      simp only [vB0, vB1, qF, jB, zP, qL, vL0, vL1, Lz, Ls, ei]
      refine ⟨hn "put_flag" (by decide) (by decide) (by decide), item_at (le2.1 _ _ hu) e hp ?_⟩
      rw [ev]
      refine F.pflag (n := n + 2) W2 hB ok.2 fun H3 le3 W3 => hKf _ _ (h H3 ((LeY.of_le le2).trans le3) W3)
  have numbered : (zL c && (p == 3 || p == 4)) = false → ∀ (Kf : Fl → List (Option Value) → AH → Prop), (∀ ll H, Qf .next ll H → Kf .next ll H) → ∀ H2, AH.Le H H2 → vcB (vcS G C (n + 3) X (.s (.s (.s (.s (.s k)))))) [.exp (.meth 350 333 (.loc 0) "put_number" [(.sub (.loc 2) (.loc 3))])] [some (.ref x), some (.str (S [c]) t), some (.ref r), some (.int (p : Nat) tp)] H2 Kf := fun ht Kf hKf H2 le2 => by
    rw [ht] at ok
    have W2 := W.le le2
    cases a with
    | flag k' => exact absurd ok.1 (by decide)
    | num p' q' =>
      obtain ⟨rr, t', u', ev, ei2⟩ := hv
      obtain ⟨fs, ei, hn⟩ := W2.meth
      simp only [vB0, vB1, qF, jB, zP, qL, vL0, vL1, Lz, Ls, ei]
      refine ⟨hn "put_number" (by decide) (by decide) (by decide), item_at (le2.1 _ _ hu) e hp ?_⟩
      rw [ev]
      refine F.pnum W2 hB (by lia) (le2.1 _ _ ei2) ok.2 fun H3 le3 W3 => hKf _ _ (h H3 ((LeY.of_le le2).trans le3) W3)
  rw [qU, vB1, zT, uQ, vA1]
  simp only [jH, jB, jQ, yP, vA0, Lz, Ls, jM, s65_97, q_in, jI, gB]
  refine fun t1 => ⟨fun e t2 t3 => ?_, fun e => ?_⟩
  · have hc : zL c = true := e
    simp only [vL0]
    refine ⟨zN, fun a ha => ?_⟩
    refine q_inT jS any2i (by simp) ?_
    have hp : ((3 : Int) == (p : Int) || ((4 : Int) == (p : Int) || false)) = (p == 3 || p == 4) := by
      rw [Bool.eq_iff_iff]
      simp
      lia
    rw [hp]
    simp only [jI]
    refine ⟨fun e2 => flagged (by rw [hc, e2]; rfl) _ (fun _ _ q => q) _ (jD ha), fun e2 => numbered (by rw [hc, e2]; rfl) _ (fun _ _ q => q) _ (jD ha)⟩
  · have hc : zL c = false := e
    refine ⟨fun e2 => absurd (hc.symm.trans e2) (by decide), fun e2 => numbered (by rw [hc]; rfl) _ (fun _ _ q => q) _ (AH.Le.refl _)⟩
theorem loop_put (F : Fn G) {k : Fu} {c : Nat} {r : Addr} {t : Tok} {us : List Value} {Qf : Fl → List (Option Value) → AH → Prop} : ∀ (m p : Nat) (H : AH) (s : St) (B : Nat) (as : List Arg) (v3 : Option Value),
    Wt H x d pl s B → B + 2 * m < 80000 → s.last.length ≤ 7 → H.I r = some us → p + m = us.length → us.length ≤ 7 → Alls (ArgV H) (us.drop p) as → xP (zL c) p as →
    (∀ H' v3, LeY d pl H H' → Wt H' x d pl (as.foldl yI s) (B + 2 * m) → Qf .next [some (.ref x), some (.str (S [c]) t), some (.ref r), v3] H') →
    yJ [3] (vcB (vcS G C (n + 3) X (.s (.s (.s (.s (.s (.s k))))))) qU) (fun _ => True) (pK m p) [some (.ref x), some (.str (S [c]) t), some (.ref r), v3] H Qf
  | 0, p, H, s, B, as, v3, W, hB, hl, hu, hm, h7, ha, hg, h => by
    have : us.drop p = [] := List.drop_of_length_le (by lia)
    rw [this] at ha
    cases ha
    exact ⟨trivial, h H v3 (LeY.of_le (AH.Le.refl H)) W⟩
  | m + 1, p, H, s, B, as, v3, W, hB, hl, hu, hm, h7, ha, hg, h => by
    have hp : p < us.length := by lia
    rw [List.drop_eq_getElem_cons hp] at ha
    cases ha with
    | cons hv har =>
      rename_i a as'
      rw [gX, vF1]
      refine ⟨trivial, fun tp => ?_⟩
      have ih := loop_put F (k := k) (c := c) (r := r) (t := t) (us := us) (Qf := Qf) m (p + 1)
      generalize yJ [3] _ (fun _ => True) (pK m (p + 1)) = Wx at ih ⊢
      simp only [Ts, Tz]
      refine put_body F W (by lia) hl (by lia) hu (List.getElem?_eq_getElem hp) hv hg.1 fun H1 le1 W1 => ?_
      refine ih H1 _ (B + 2) as' _ W1 (by lia) (mG hg.1) (le1.I _ _ hu) (by lia) h7 (yG le1.I har) hg.2 fun H2 v3 le2 W2 => ?_
      have eB : B + 2 + 2 * m = B + 2 * (m + 1) := by lia
      rw [eB] at W2
      exact h H2 v3 (le1.trans le2) W2
theorem st_last {s : St} {c : Nat} (h : s.last.length ≤ 7) : (jR s c).last.length ≤ 7 := by
  unfold jR
  simp only
  split
  · exact Nat.zero_le _
  · exact h
theorem fold_last {arc : Bool} : ∀ {as : List Arg} {s : St} {p : Nat}, s.last.length ≤ 7 → xP arc p as → (as.foldl yI s).last.length ≤ 7
  | [], s, p, h, _ => h
  | a :: as, s, p, h, g => fold_last (as := as) (mG g.1) g.2
theorem cmd_last {s : St} {c : Cmd} (h : s.last.length ≤ 7) (g : GoodC c) : (qN s c).last.length ≤ 7 := fold_last (st_last h) g.args
theorem Fn.put (F : Fn G) (W : Wt H x d pl s B) (hB : B + 15 < 80000) (hl : s.last.length ≤ 7) {c : Cmd} {r : Addr} {t : Tok} {us : List Value} (g : GoodC c) (hu : H.I r = some us) (hv : Alls (ArgV H) us c.args)
    (h : ∀ H', LeY d pl H H' → Wt H' x d pl (qN s c) (B + 15) → Q .none H') : CallT G C (n + 4) (.ref 347) [.ref x, .str (S [c.c]) t, .ref r] H Q X := by
  refine jL F.PathWriter_put rfl ?_
  have hlen := hv.len
  have h7 := kW c.c g.letter
  have hm := g.many
  obtain ⟨fs, ei, hn⟩ := W.meth
  simp only [xV, fu]
  refine jG ?_
  simp only [qF, zP, vL0, vL1, jB, List.map, La, Ln, Lz, Ls, ei]
  refine ⟨hn "put_letter" (by decide) (by decide) (by decide), F.plet (n := n + 1) W (by lia) g.letter fun H1 le1 W1 => ?_⟩
  have hu1 := le1.I _ _ hu
  refine jG ?_
  simp only [w_forr, vL0, vL1, jB, zC, f_len, Lz, Ls]
  refine ⟨us, .inl hu1, by lia, fun t1 => ⟨⟨by lia, by lia⟩, ?_⟩⟩
  have e : ((us.length : Nat) : Int).toNat = us.length := by simp
  rw [e]
  refine loop_put F us.length 0 H1 _ (B + 1) c.args _ W1 (by lia) (st_last hl) hu1 (by lia) (by lia) (yG le1.I hv) g.args fun H2 v3 le2 W2 => ?_
  exact h H2 (le1.trans le2) (W2.mono (by lia))
end
theorem mul_blank (b : Bool) : Txt.mul (S [32]) (if b = true then 1 else 0) = S (if b then [32] else []) := by cases b <;> rfl
theorem arc_many : ∀ c ∈ LT, (zF c = 7 ↔ zL c = true) := by decide
noncomputable def JFl (arc : Bool) (p : Nat) (s : St) : Prop := arc = true → (p = 3 → s.last ≠ []) ∧ (p = 4 → s.last = [])
theorem jfl_next {arc : Bool} {p : Nat} {s : St} {a : Arg} (ok : vC (arc && (p == 3 || p == 4)) a) : JFl arc (p + 1) (yI s a) := by
  intro ha
  subst ha
  refine ⟨fun e => ?_, fun e => ?_⟩
  · have : p = 2 := by lia
    subst this
    cases a with
    | num p' q' => exact (vQ ok.2).1
    | flag k => exact absurd ok.1 (by decide)
  · have : p = 3 := by lia
    subst this
    cases a with
    | num p' q' => exact absurd ok.1 (by decide)
    | flag k => rfl
theorem arg_text {s : St} {a : Arg} {f : Bool} (ok : vC f a) : (yI s a).text.length ≤ s.text.length + 8 := by
  cases a with
  | num p q =>
    have h := (vQ ok.2).2
    simp only [yI, nG, List.length_append]
    have : (if kN s.last (told p q) = true then [32] else ([] : List Nat)).length ≤ 1 := by split <;> simp
    lia
  | flag k =>
    simp only [yI, stFlag, List.length_append]
    have : (if s.last = [] then [] else [32] : List Nat).length ≤ 1 := by split <;> simp
    simp
    lia
section
variable {G : Gl} {H : AH} {Q : Value → AH → Prop} {C : Addr} {X : AH → Prop} {n : Nat}
theorem q_inL {v : Value} {a : Addr} {vs : List Value} {b : Bool} (h : H.M a = some (.list vs)) (e : yH v vs = some b) (hl : vs.length ≤ 100) (q : Q (.bool b) H) : yR .In v (.ref a) H Q := by
  cases v <;> exact ⟨vs, .inr h, by rw [e]; exact ⟨hl, q⟩⟩
noncomputable def apart (last text : List Nat) : Bool := decide (text.head? = some 45) || (decide (text.head? = some 46) && decide (46 ∈ last))
theorem wants_is (last text : List Nat) : kN last text = (!decide (last = []) && !apart last text) := by
  unfold kN apart
  cases decide (last = []) <;> cases decide (text.head? = some 45) <;> simp
theorem at_k {P : Value → Prop} {o : Option (Option Value)} {v : Value} (e : o = some (some v)) (h : P v) : match (generalizing := false) o with | some (some v) => P v | _ => False := by rw [e]; exact h
theorem vc_apart {k : Fu} {ll : List (Option Value)} {last text : List Nat} {t u : Tok} (ne : text ≠ []) (hlen : text.length ≤ 100) (h8 : ll[8]? = some (some (.str (S text) t))) (h3 : ll[3]? = some (some (.str (S last) u))) (h : Q (.bool (apart last text)) H) :
    vcE G C n X ll (.s (.s (.s (.s (.s k))))) (.or (.cmp .Eq (.sub (.loc 8) (.cst (.int 0))) (.cst (.str "-"))) [(.and (.cmp .Eq (.sub (.loc 8) (.cst (.int 0))) (.cst (.str "."))) [(.cmp .In (.cst (.str ".")) (.loc 3))])]) H Q := by
  obtain ⟨c, r, rfl⟩ : ∃ c r, text = c :: r := by
    cases text with
    | nil => exact absurd rfl ne
    | cons c r => exact ⟨c, r, rfl⟩
  have hh : ∀ k : Nat, ((c :: r).head? = some k) = (c = k) := fun k => by simp
  simp only [apart, hh] at h
  have b1 : ∀ k : Nat, (Txt.item (S (c :: r)) (0 : Int) == S [k]) = decide (c = k) := fun k => by rw [S_first, mZ, Bool.eq_iff_iff]; simp
  have hb : ((c :: r).length < 9223372036854775808 ∧ -((c :: r).length : Int) ≤ 0 ∧ (0 : Int) < (c :: r).length) := ⟨by lia, by lia, by simp⟩
  simp only [jH, jB, uQ, v_or, jQ, qL, vA0, vA1, jJ, jM, s45, s46]
  refine at_k h8 fun t1 => ⟨hb, fun t2 t3 => ⟨fun e => at_k h8 fun t4 => ⟨hb, fun t5 t6 => ⟨fun e2 t7 => at_k h3 ?_, fun e2 => ?_⟩⟩, fun e => ?_⟩⟩
  · rw [(b1 45).symm.trans (show _ = false from e), (b1 46).symm.trans (show _ = true from e2)] at h
    show Q (.bool (Txt.contains (S last) (S [46]))) H
    rw [gB]
    simpa using h
  · have e4 : (Txt.item (S (c :: r)) (0 : Int) == S [46]) = false := e2
    rw [(b1 45).symm.trans (show _ = false from e), (b1 46).symm.trans e4] at h
    rw [e4]
    simpa using h
  · have e4 : (Txt.item (S (c :: r)) (0 : Int) == S [45]) = true := e
    rw [(b1 45).symm.trans e4] at h
    rw [e4]
    simpa using h
theorem put_text {R : Value → AH → Prop} {s : St} {p : Int} {q : Nat} {t t1 t5 : Tok} {b : Bool} (hb : b = kN s.last (told p q)) (hT : s.text.length ≤ 50000) (hq : (told p q).length ≤ 7) (h : ∀ t, R (.str (S (nG s p q).text) t) H) :
    rF .int [.bool b] H fun u H => kA .Mult (.str (S [32]) t) u H fun u H => kA .Add (.str (S s.text) t1) u H fun v H => kA .Add v (.str (S (told p q)) t5) H R := by
  have hsz : (100000 : Nat) ≤ sizeLine := by rw [sizeLine_eq]; lia
  have hl1 : (if b = true then [32] else ([] : List Nat)).length ≤ 1 := by split <;> simp
  simp only [q_intb, q_rep, nR, mul_blank, wT, yA]
  refine fun t6 => ⟨⟨by simp, by split <;> lia, by split <;> lia⟩, fun t7 => ⟨by lia, fun t8 => ⟨by rw [List.length_append]; lia, fun t9 => ?_⟩⟩⟩
  have hh := h t9
  simp only [nG, ← hb] at hh
  exact hh
theorem text_body (F : Fn G) {k : Fu} {c p : Nat} {r f : Addr} {t1 t2 t3 t4 tp : Tok} {s : St} {us : List Value} {a : Arg} {v : Value} {v8 v9 : Option Value} (hc : c ∈ LT) (hu : H.I r = some us) (hm : us.length = zF c) (hv : ArgV H v a) (ok : vC (zL c && (p == 3 || p == 4)) a)
    (hT : s.text.length ≤ 50000) (hl : s.last.length ≤ 7) (J : JFl (zL c) p s)
    {Qf : Fl → List (Option Value) → AH → Prop} (h : ∀ t1 t3 H' v8 v9, AH.Le H H' → Qf .next [some (.ref f), some (.str (S (yI s a).text) t1), some (.str (S s.letter) t2), some (.str (S (yI s a).last) t3), some (.str (S [c]) t4), some (.ref r), some (.int (p : Nat) tp), some v, v8, v9] H') :
    vcB (vcS G C (n + 1) X (.s (.s (.s (.s (.s (.s (.s (.s (.s (.s (.s k)))))))))))) qG [some (.ref f), some (.str (S s.text) t1), some (.str (S s.letter) t2), some (.str (S s.last) t3), some (.str (S [c]) t4), some (.ref r), some (.int (p : Nat) tp), some v, v8, v9] H Qf := by
  have hsz : (100000 : Nat) ≤ sizeLine := by rw [sizeLine_eq]; lia
  have flagged : (zL c && (p == 3 || p == 4)) = true → ∀ (Kf : Fl → List (Option Value) → AH → Prop), (∀ ll H, Qf .next ll H → Kf .next ll H) → ∀ H2, AH.Le H H2 → vcB (vcS G C (n + 1) X (.s (.s (.s (.s (.s (.s (.s (.s (.s (.s k))))))))))) [.asgS [1, 3] (.tup [(.bin .Add (.bin .Add (.loc 1) (.bin .Mult (.cst (.str " ")) (.bcall .int [(.cmp .Eq (.loc 6) (.cst (.int 3)))]))) (.bcall .str [(.loc 7)])), (.cst (.str ""))])]
      [some (.ref f), some (.str (S s.text) t1), some (.str (S s.letter) t2), some (.str (S s.last) t3), some (.str (S [c]) t4), some (.ref r), some (.int (p : Nat) tp), some v, v8, v9] H2 Kf := fun ht Kf hKf H2 le2 => by
    rw [ht] at ok
    cases a with
    | num p' q' => exact absurd ok.1 (by decide)
    | flag k' =>
      obtain ⟨t', ev⟩ := hv
      subst ev
      have hkt := flag_text k' ok.2
      have hk := ok.2
      have hp3 : ((p : Int) == 3) = decide (p = 3) := by rw [Bool.eq_iff_iff]; simp; lia
      have harc : zL c = true := by cases q : zL c <;> simp [q] at ht ⊢
      have hp34 : p = 3 ∨ p = 4 := by
        rw [harc] at ht
        simpa using ht
      have hbl : (if decide (p = 3) = true then [32] else ([] : List Nat)) = if s.last = [] then [] else [32] := by
        rcases hp34 with e | e
        · have := (J harc).1 e
          rw [if_neg this]; simp [e]
        · have := (J harc).2 e
          rw [if_pos this]; simp [e]
      refine jG ?_
      simp only [uC, vL0, vL1, jH, jB, zC, zB, jQ, yP, Lz, Ls, jM, jJ, s32, s_n, q_eq, q_intb, q_rep, q_str]
      have hl1 : (if decide (p = 3) = true then [32] else ([] : List Nat)).length ≤ 1 := by split <;> simp
      have em : Txt.mul (S [32]) (if ((p : Int) == 3) = true then 1 else 0) = S (if decide (p = 3) = true then [32] else []) := by rw [hp3]; exact mul_blank _
      refine fun t5 t6 t7 => ⟨⟨by decide, by split <;> lia, by split <;> lia⟩, fun t8 => ?_⟩
      rw [em, hkt]
      refine cat_S (by lia) fun t9 => ⟨⟨by lia, by lia⟩, fun t10 => cat_S (by rw [List.length_append]; simp only [List.length_singleton]; lia) fun t11 t12 => ⟨zN, fun b hb => ?_⟩⟩
      refine gR ⟨rfl, ?_⟩
      simp only [List.reverse, List.reverseAux, sA0, sA1, Ts, Tz, vB0]
      have q := h t11 t12 _ v8 v9 (le2.trans (jD (vs := [.str (S (s.text ++ (if decide (p = 3) = true then [32] else []) ++ [48 + k'])) t11, .str (S []) t12]) hb))
      refine hKf _ _ ?_
      simp only [yI, stFlag, ← hbl] at q
      exact q
  have numbered : (zL c && (p == 3 || p == 4)) = false → ∀ (Kf : Fl → List (Option Value) → AH → Prop), (∀ ll H, Qf .next ll H → Kf .next ll H) → ∀ H2, AH.Le H H2 → vcB (vcS G C (n + 1) X (.s (.s (.s (.s (.s (.s (.s (.s (.s (.s k))))))))))) [
   .asg 8 (.call 422 [(.loc 7)]),
   .asg 9 (.or (.cmp .Eq (.sub (.loc 8) (.cst (.int 0))) (.cst (.str "-"))) [(.and (.cmp .Eq (.sub (.loc 8) (.cst (.int 0))) (.cst (.str "."))) [(.cmp .In (.cst (.str ".")) (.loc 3))])]),
   .asgS [1, 3] (.tup [(.bin .Add (.bin .Add (.loc 1) (.bin .Mult (.cst (.str " ")) (.bcall .int [(.and (.cmp .NotEq (.loc 3) (.cst (.str ""))) [(.not (.loc 9))])]))) (.loc 8)), (.loc 8)])]
      [some (.ref f), some (.str (S s.text) t1), some (.str (S s.letter) t2), some (.str (S s.last) t3), some (.str (S [c]) t4), some (.ref r), some (.int (p : Nat) tp), some v, v8, v9] H2 Kf := fun ht Kf hKf H2 le2 => by
    rw [ht] at ok
    cases a with
    | flag k' => exact absurd ok.1 (by decide)
    | num p' q' =>
      obtain ⟨rr, t', u', ev, ei2⟩ := hv
      subst ev
      have tn := vQ ok.2
      refine jG ?_
      simp only [jV, vL0, vL1, jB, zD, Lz, Ls]
      refine F.lt (le2.1 _ _ ei2) ok.2 fun t5 H3 le3 => ?_
      simp only [Ts, Tz]
      refine jG ?_
      simp only [jV]
      refine vc_apart tn.1 (by lia) rfl rfl ?_
      simp only [Ts, Tz]
      show vcB _ _ _ _ _
      refine jG ?_
      simp only [uC, vL0, vL1, jH, jB, zC, zB, v_not, uQ, jQ, yP, vA0, vA1, Lz, Ls, jM, s32, s_n, nQ, S_ne, jI]
      have fin : ∀ (t8 : Tok) (r1 : Addr), H3.free r1 → Kf .next [some (.ref f), some (.str (S (nG s p' q').text) t8), some (.str (S s.letter) t2), some (.str (S (told p' q')) t5), some (.str (S [c]) t4), some (.ref r), some (.int (p : Nat) tp), some (.ref rr), some (.str (S (told p' q')) t5), some (.bool (apart s.last (told p' q')))]
          (H3.setI r1 [.str (S (nG s p' q').text) t8, .str (S (told p' q')) t5]) := fun t8 r1 hr1 => hKf _ _ (h t8 t5 _ _ _ (le2.trans (le3.trans (jD hr1))))
      refine fun t6 t7 => ⟨fun e => put_text (s := s) (by rw [wants_is, e]; rfl) hT tn.2 fun t8 => ⟨zN, fun r1 hr1 => ?_⟩, fun e => put_text (s := s) (by rw [wants_is]; have e' : (!decide (s.last = [])) = false := e; rw [e']; rfl) hT tn.2 fun t8 => ⟨zN, fun r1 hr1 => ?_⟩⟩
      · refine gR ⟨rfl, ?_⟩
        simp only [List.reverse, List.reverseAux, sA0, sA1, Ts, Tz, vB0]
        exact fin t8 r1 hr1
      · refine gR ⟨rfl, ?_⟩
        simp only [List.reverse, List.reverseAux, sA0, sA1, Ts, Tz, vB0]
        exact fin t8 r1 hr1
  have h7 := kW c hc
  have hi7 : ((us.length : Int) == 7) = zL c := by
    have := arc_many c hc
    rw [hm]
    rw [Bool.eq_iff_iff]
    simp only [beq_iff_eq]
    rw [← this]
    lia
  rw [qG, vB1, zT, uQ, vA1]
  simp only [jH, jB, zC, jQ, pJ, vL0, vL1, vA0, Lz, Ls, f_len]
  refine ⟨us, .inl hu, by lia, fun t5 => ?_⟩
  simp only [jJ, q_eq, jI, hi7]
  refine fun t6 => ⟨fun e t7 t8 => ⟨zN, fun a1 ha1 => ?_⟩, fun e => ?_⟩
  · refine q_inL jP any2i (by simp) ?_
    have hp : ((3 : Int) == (p : Int) || ((4 : Int) == (p : Int) || false)) = (p == 3 || p == 4) := by
      rw [Bool.eq_iff_iff]
      simp
      lia
    rw [hp]
    simp only [jI]
    refine ⟨fun e2 => flagged (by rw [e, e2]; rfl) _ (fun _ _ q => q) _ (yN ha1), fun e2 => numbered (by rw [e, e2]; rfl) _ (fun _ _ q => q) _ (yN ha1)⟩
  · have e' : zL c = false := e
    refine ⟨fun e2 => absurd (e'.symm.trans e2) (by decide), fun e2 => numbered (by rw [e']; rfl) _ (fun _ _ q => q) _ (AH.Le.refl _)⟩
end
theorem fold_text {arc : Bool} : ∀ {as : List Arg} {s : St} {p : Nat}, xP arc p as → (as.foldl yI s).text.length ≤ s.text.length + 8 * as.length
  | [], s, p, _ => Nat.le_refl _
  | a :: as, s, p, g => by
    have h1 := arg_text (s := s) g.1
    have h2 := fold_text (s := yI s a) g.2
    rw [List.length_cons, List.foldl_cons]
    lia
theorem letter_text (s : St) (c : Nat) : (jR s c).text.length ≤ s.text.length + 1 := by
  simp only [jR]
  split
  · simp
  · lia
theorem cmd_text {s : St} {c : Cmd} (g : GoodC c) : (qN s c).text.length ≤ s.text.length + 60 := by
  have h1 := letter_text s c.c
  have h2 := fold_text (s := jR s c.c) g.args
  have h3 := kW c.c g.letter
  have h4 := g.many
  unfold qN
  lia
section
variable {G : Gl} {H : AH} {Q : Value → AH → Prop} {C : Addr} {X : AH → Prop} {n : Nat}
theorem loop_text (F : Fn G) {k : Fu} {c : Nat} {r f : Addr} {t2 t4 : Tok} {us : List Value} {letter : List Nat} (hc : c ∈ LT) (hm : us.length = zF c) {Qf : Fl → List (Option Value) → AH → Prop} : ∀ (vs : List Value) (as : List Arg) (p : Nat) (H : AH) (s : St) (t1 t3 : Tok) (v6 v7 v8 v9 : Option Value),
    Alls (ArgV H) vs as → xP (zL c) p as → H.I r = some us → JFl (zL c) p s → s.text.length + 8 * as.length ≤ 50000 → s.last.length ≤ 7 → s.letter = letter →
    (∀ t1 t3 H' v6 v7 v8 v9, AH.Le H H' → Qf .next [some (.ref f), some (.str (S (as.foldl yI s).text) t1), some (.str (S letter) t2), some (.str (S (as.foldl yI s).last) t3), some (.str (S [c]) t4), some (.ref r), v6, v7, v8, v9] H') →
    yJ [6, 7] (vcB (vcS G C (n + 1) X (.s (.s (.s (.s (.s (.s (.s (.s (.s (.s (.s k))))))))))))  qG) (fun H => H.I r = some us) (pO p vs) [some (.ref f), some (.str (S s.text) t1), some (.str (S letter) t2), some (.str (S s.last) t3), some (.str (S [c]) t4), some (.ref r), v6, v7, v8, v9] H Qf
  | [], as, p, H, s, t1, t3, v6, v7, v8, v9, ha, hg, hu, J, hT, hl, el, h => by
    cases ha
    exact ⟨hu, h t1 t3 H v6 v7 v8 v9 (AH.Le.refl H)⟩
  | v :: vs, as, p, H, s, t1, t3, v6, v7, v8, v9, ha, hg, hu, J, hT, hl, el, h => by
    cases ha with
    | cons hv har =>
      rename_i a as'
      rw [pr1, vF1]
      refine ⟨hu, fun tp => ?_⟩
      have ih := loop_text F (k := k) (r := r) (f := f) (t2 := t2) (t4 := t4) (us := us) (letter := letter) hc hm (Qf := Qf) vs as' (p + 1)
      generalize yJ [6, 7] _ (fun H => H.I r = some us) (pO (p + 1) vs) = W at ih ⊢
      simp only [Ts, Tz]
      rw [List.length_cons] at hT
      subst el
      refine text_body F hc hu hm hv hg.1 (by lia) hl J fun t1' t3' H1 v8' v9' le1 => ?_
      have h8 := arg_text (s := s) hg.1
      have hle : (yI s a).letter = s.letter := by cases a <;> rfl
      refine ih H1 (yI s a) t1' t3' _ _ v8' v9' (yG le1.1 har) hg.2 (le1.1 _ _ hu) (jfl_next hg.1) (by lia) (mG hg.1) hle fun t1'' t3'' H2 w6 w7 w8 w9 le2 => ?_
      exact h t1'' t3'' H2 w6 w7 w8 w9 (le1.trans le2)
theorem fold_letter : ∀ (as : List Arg) (s : St), (as.foldl yI s).letter = s.letter
  | [], s => rfl
  | a :: as, s => by
    rw [List.foldl_cons, fold_letter as]
    cases a <;> rfl
theorem text_cmd (F : Fn G) {k : Fu} {c : Cmd} {r f : Addr} {t1 t2 t3 t4 : Tok} {s : St} {us : List Value} {v6 v7 v8 v9 : Option Value} (g : GoodC c) (hu : H.I r = some us) (hv : Alls (ArgV H) us c.args)
    (hT : s.text.length + 60 ≤ 50000) (hl : s.last.length ≤ 7)
    {Qf : Fl → List (Option Value) → AH → Prop} (h : ∀ t1 t2 t3 H' v6 v7 v8 v9, AH.Le H H' → Qf .next [some (.ref f), some (.str (S (qN s c).text) t1), some (.str (S (qN s c).letter) t2), some (.str (S (qN s c).last) t3), some (.str (S [c.c]) t4), some (.ref r), v6, v7, v8, v9] H') :
    vcB (vcS G C (n + 1) X (.s (.s (.s (.s (.s (.s (.s (.s (.s (.s (.s (.s k))))))))))))) uU [some (.ref f), some (.str (S s.text) t1), some (.str (S s.letter) t2), some (.str (S s.last) t3), some (.str (S [c.c]) t4), some (.ref r), v6, v7, v8, v9] H Qf := by
  have hsz : (100000 : Nat) ≤ sizeLine := by rw [sizeLine_eq]; lia
  have hlen := hv.len
  have hm := g.many
  have h7 := kW c.c g.letter
  have lt1 := letter_text s c.c
  have vals : ∀ (Kf : Fl → List (Option Value) → AH → Prop), (∀ ll H, Qf .next ll H → Kf .next ll H) → ∀ (H1 : AH) (t1 t2 t3 : Tok), AH.Le H H1 → vcS G C (n + 1) X (.s (.s (.s (.s (.s (.s (.s (.s (.s (.s (.s (.s k)))))))))))) (.for_ [6, 7] (.enum (.loc 5)) qG) [some (.ref f), some (.str (S (jR s c.c).text) t1), some (.str (S (jR s c.c).letter) t2), some (.str (S (jR s c.c).last) t3), some (.str (S [c.c]) t4), some (.ref r), v6, v7, v8, v9] H1 Kf := by
    intro Kf hKf H1 t1 t2 t3 le1
    have hu1 := le1.1 _ _ hu
    simp only [w_fore, jB, Lz, Ls, hu1]
    refine ⟨by lia, loop_text F g.letter (by lia) us c.args 0 H1 (jR s c.c) t1 t3 _ _ _ _ (yG le1.1 hv) g.args hu1 (fun _ => ⟨fun e => (by cases e), fun e => (by cases e)⟩) (by lia) (st_last hl) rfl fun t1' t3' H2 w6 w7 w8 w9 le2 => ?_⟩
    have q := h t1' t2 t3' H2 w6 w7 w8 w9 (le1.trans le2)
    have e : (qN s c).letter = (jR s c.c).letter := fold_letter _ _
    rw [e] at q
    exact hKf _ _ q
  have lets : ∀ (H1 : AH) (x y : List Nat) (t1 t3 : Tok), AH.Le H H1 → x = (jR s c.c).text → y = (jR s c.c).last → vcB (vcS G C (n + 1) X (.s (.s (.s (.s (.s (.s (.s (.s (.s (.s (.s (.s k))))))))))))) [
   .asg 2 (.ite (.cmp .In (.loc 4) (.cst (.str "Zz"))) (.cst (.str "")) (.ite (.cmp .Eq (.loc 4) (.cst (.str "M"))) (.cst (.str "L")) (.ite (.cmp .Eq (.loc 4) (.cst (.str "m"))) (.cst (.str "l")) (.loc 4)))),
   .for_ [6, 7] (.enum (.loc 5)) qG] [some (.ref f), some (.str (S x) t1), some (.str (S s.letter) t2), some (.str (S y) t3), some (.str (S [c.c]) t4), some (.ref r), v6, v7, v8, v9] H1 Qf := by
    intro H1 x y t1 t3 le1 ex ey
    subst ex
    subst ey
    have go : ∀ (t : Tok) (w : List Nat), w = (jR s c.c).letter → vcB (vcS G C (n + 1) X (.s (.s (.s (.s (.s (.s (.s (.s (.s (.s (.s (.s k))))))))))))) [.for_ [6, 7] (.enum (.loc 5)) qG] [some (.ref f), some (.str (S (jR s c.c).text) t1), some (.str (S w) t), some (.str (S (jR s c.c).last) t3), some (.str (S [c.c]) t4), some (.ref r), v6, v7, v8, v9] H1 Qf := fun t w ew => by
      subst ew
      rw [vB1]
      refine vals _ ?_ H1 t1 t t3 le1
      exact fun _ _ q => q
    refine jG ?_
    simp only [jV, jH, jB, jQ, uD, Lz, Ls, jM, nK, s_n, s77, s109, s76, s108, q_in, gB, uS, mZ, jI, Ts, Tz]
    have ls : ∀ w : List Nat, w = (if c.c ∈ [90, 122] then [] else [behind c.c]) → w = (jR s c.c).letter := fun w e => e
    refine fun t5 => ⟨fun e t6 => go _ _ (ls _ (by rw [if_pos (of_decide_eq_true e)])), fun e t6 => ⟨fun e2 t7 => go _ _ (ls _ ?_), fun e2 t7 => ⟨fun e3 t8 => go _ _ (ls _ ?_), fun e3 => go _ _ (ls _ ?_)⟩⟩⟩
    · rw [if_neg (of_decide_eq_false e)]
      have : c.c = 77 := by simpa using e2
      rw [this]; rfl
    · rw [if_neg (of_decide_eq_false e)]
      have : c.c = 109 := by simpa using e3
      rw [this]; rfl
    · rw [if_neg (of_decide_eq_false e)]
      have n1 : c.c ≠ 77 := by simpa using e2
      have n2 : c.c ≠ 109 := by simpa using e3
      rw [behind_no n1 n2]
  have yes : ∀ (t5 : Tok), xL s c.c = true → vcB (vcS G C (n + 1) X (.s (.s (.s (.s (.s (.s (.s (.s (.s (.s (.s k)))))))))))) [.asgS [1, 3] (.tup [(.bin .Add (.loc 1) (.loc 4)), (.cst (.str (S [])))])] [some (.ref f), some (.str (S s.text) t1), some (.str (S s.letter) t2), some (.str (S s.last) t3), some (.str (S [c.c]) t4), some (.ref r), v6, v7, v8, v9] H (fun fl l H => match fl with
      | .next => vcB (vcS G C (n + 1) X (.s (.s (.s (.s (.s (.s (.s (.s (.s (.s (.s (.s k))))))))))))) [
   .asg 2 (.ite (.cmp .In (.loc 4) (.cst (.str "Zz"))) (.cst (.str "")) (.ite (.cmp .Eq (.loc 4) (.cst (.str "M"))) (.cst (.str "L")) (.ite (.cmp .Eq (.loc 4) (.cst (.str "m"))) (.cst (.str "l")) (.loc 4)))),
   .for_ [6, 7] (.enum (.loc 5)) qG] l H Qf
      | .ret v => Qf (.ret v) l H) := by
    intro t5 hf
    refine jG ?_
    simp only [uC, vL0, vL1, jH, jB, zB, yP, Lz, Ls, jM, nR, wT, yA]
    refine ⟨by simp; lia, fun t6 t7 => ⟨zN, fun a ha => ?_⟩⟩
    refine gR ⟨rfl, ?_⟩
    simp only [List.reverse, List.reverseAux, sA0, sA1, Ts, Tz]
    rw [vB0]
    refine lets _ _ _ t6 t7 (jD ha) ?_ ?_
    · simp only [jR]; rw [if_pos hf]
    · simp only [jR]; rw [if_pos hf]
  rw [uU, vB1, zT, v_or, vA1]
  simp only [jH, jB, jQ, vA0, Lz, Ls, nQ, S_ne, jI, jM, nK, s_n, q_in]
  refine ⟨fun e t5 => ⟨fun e2 => yes t5 ?_, fun e2 => ?_⟩, fun e => ⟨fun _ => yes t1 ?_, fun e2 => absurd (e.symm.trans e2) (by decide)⟩⟩
  · rw [gB] at e2
    simp only [xL, e2, Bool.or_true]
  · rw [gB] at e2
    have hf : ¬ xL s c.c = true := by simp only [xL, e, e2]; simp
    simp only [vB0, vB1]
    refine lets H _ _ t1 t3 (AH.Le.refl H) ?_ ?_
    · simp only [jR]; rw [if_neg hf]
    · simp only [jR]; rw [if_neg hf]
  · have e' : (!decide ([c.c] = s.letter)) = true := e
    simp only [xL, e', Bool.true_or]
end
noncomputable def Goods (cs : List Cmd) : Prop := ∀ c ∈ cs, GoodC c
theorem Goods.lets {cs : List Cmd} (g : Goods cs) : Lets cs := fun c h => (g c h).letter
section
variable {G : Gl} {H : AH} {Q : Value → AH → Prop} {C : Addr} {X : AH → Prop} {n : Nat}
theorem q_it2 {i j : Nat} {v : Value} {ll : List (Option Value)} {K : List (Option Value) → AH → Prop} : itVC [i, j] (.val v) ll H K = wO [i, j] v ll H K := rfl
theorem loop_texts (F : Fn G) {k : Fu} {f : Addr} {vs0 : List Value} {Qf : Fl → List (Option Value) → AH → Prop} : ∀ (vs : List Value) (cs : List Cmd) (H : AH) (s : St) (t1 t2 t3 : Tok) (v4 v5 v6 v7 v8 v9 : Option Value),
    Alls (CmdV H) vs cs → Goods cs → H.M f = some (.list vs0) → s.text.length + 60 * cs.length ≤ 50000 → s.last.length ≤ 7 →
    (∀ t1 t2 t3 H' v4 v5 v6 v7 v8 v9, AH.Le H H' → Qf .next [some (.ref f), some (.str (S (cs.foldl qN s).text) t1), some (.str (S (cs.foldl qN s).letter) t2), some (.str (S (cs.foldl qN s).last) t3), v4, v5, v6, v7, v8, v9] H') →
    yJ [4, 5] (vcB (vcS G C (n + 1) X (.s (.s (.s (.s (.s (.s (.s (.s (.s (.s (.s (.s k))))))))))))) uU) (fun H => H.M f = some (.list vs0)) (vs.map .val) [some (.ref f), some (.str (S s.text) t1), some (.str (S s.letter) t2), some (.str (S s.last) t3), v4, v5, v6, v7, v8, v9] H Qf
  | [], cs, H, s, t1, t2, t3, v4, v5, v6, v7, v8, v9, ha, hg, hu, hT, hl, h => by
    cases ha
    exact ⟨hu, h t1 t2 t3 H v4 v5 v6 v7 v8 v9 (AH.Le.refl H)⟩
  | v :: vs, cs, H, s, t1, t2, t3, v4, v5, v6, v7, v8, v9, ha, hg, hu, hT, hl, h => by
    cases ha with
    | cons hv har =>
      rename_i c cs'
      have ih := loop_texts F (k := k) (f := f) (vs0 := vs0) (Qf := Qf) vs cs'
      rw [List.map_cons, vF1]
      refine ⟨hu, ?_⟩
      generalize yJ [4, 5] _ (fun H => H.M f = some (.list vs0)) (vs.map It.val) = W at ih ⊢
      obtain ⟨r, t4, r2, us, ev, e1, e2, hargs⟩ := hv
      subst ev
      rw [List.length_cons] at hT
      have gc := hg c (.head _)
      simp only [q_it2, wO, e1, List.length_cons, List.length_nil, sA0, sA1, Ts, Tz, true_and]
      refine text_cmd F gc e2 hargs (by lia) hl fun t1' t2' t3' H1 w6 w7 w8 w9 le1 => ?_
      have h8 := cmd_text (s := s) gc
      refine ih H1 (qN s c) t1' t2' t3' _ _ w6 w7 w8 w9 (qV le1.1 har) (fun x hx => hg x (.tail _ hx)) (le1.2 _ _ hu) (by lia) (cmd_last hl gc) fun t1'' t2'' t3'' H2 x4 x5 x6 x7 x8 x9 le2 => ?_
      exact h t1'' t2'' t3'' H2 x4 x5 x6 x7 x8 x9 (le1.trans le2)
theorem Fn.text (F : Fn G) {f : Addr} {cs : List Cmd} (hf : Cms H f cs) (g : Goods cs) (hl : cs.length ≤ 100)
    (h : ∀ r t1 t2 t3 H', AH.Le H H' → H'.I r = some [.str (S (xD cs).text) t1, .str (S (xD cs).letter) t2, .str (S (xD cs).last) t3] → Q (.ref r) H') : CallT G C (n + 2) (.ref 429) [.ref f] H Q X := by
  refine jL F.law_text rfl ?_
  obtain ⟨vs, hv, ha⟩ := hf
  simp only [mV, fu]
  refine jG ?_
  simp only [w_asgT, yP, vL0, vL1, jH, List.map, La, Ln, jM, s_n]
  refine fun t1 t2 t3 => ⟨by rw [sizeLine_eq]; simp, fun a ha1 => ?_⟩
  simp only [wO, jS, List.length_cons, List.length_nil, sA0, sA1, Ts, Tz, true_and]
  have le1 := jD (vs := [.str (S []) t1, .str (S []) t2, .str (S []) t3]) ha1
  generalize H.setI a _ = H1 at le1 ⊢
  refine jG ?_
  simp only [w_fors, jB, Lz]
  refine ⟨fun ⟨x, t, e⟩ => (by cases e), .inr ⟨vs, le1.2 _ _ hv, ?_⟩⟩
  refine loop_texts F vs cs H1 st0 t1 t2 t3 _ _ _ _ _ _ (qV le1.1 ha) g (le1.2 _ _ hv) (by simp [st0]; lia) (by simp [st0]) fun t1' t2' t3' H2 x4 x5 x6 x7 x8 x9 le2 => ?_
  simp only [zJ, vL0, vL1, jB, yP, Lz, Ls, yC]
  refine ⟨by rw [sizeLine_eq]; simp, fun r hr => ?_⟩
  exact h r t1' t2' t3' _ ((le1.trans le2).trans (jD hr)) jS
theorem mC (F : Fn G) {k : Fu} {x d pl : Addr} {is : List Nat} {bo : List RS} {f : Addr} {vs0 : List Value} {P : List (Option Value) → Prop} {Qf : Fl → List (Option Value) → AH → Prop}
    (hbody : ∀ (ll : List (Option Value)) (H : AH) (a b : Value) (K : Fl → List (Option Value) → AH → Prop), P ll → (∀ ll, P ll → CallT G C (n + 4) (.ref 347) [.ref x, a, b] H (fun _ H => K .next ll H) X) → (∃ fs, qC H 350 (.ref x) = some (d, fs) ∧ ∀ nm : Str, nm ≠ "parts" → nm ≠ "letter" → nm ≠ "last" → lk nm fs = none) →
      vcB (vcS G C (n + 4) X k) bo (xQ ll is [a, b]) H K) (his : is.length = 2) (hi : ∃ i j, is = [i, j]) (nx : f ≠ d) (np : f ≠ pl) : ∀ (vs : List Value) (cs : List Cmd) (H : AH) (s : St) (B : Nat) (ll : List (Option Value)),
    Alls (CmdV H) vs cs → Goods cs → H.M f = some (.list vs0) → Wt H x d pl s B → B + 15 * cs.length < 70000 → s.last.length ≤ 7 → P ll →
    (∀ ll H', P ll → LeY d pl H H' → Wt H' x d pl (cs.foldl qN s) (B + 15 * cs.length) → Qf .next ll H') →
    yJ is (vcB (vcS G C (n + 4) X k) bo) (fun H => H.M f = some (.list vs0)) (vs.map .val) ll H Qf
  | [], cs, H, s, B, ll, ha, hg, hu, W, hB, hl, hP, h => by
    cases ha
    exact ⟨hu, h ll H hP (LeY.of_le (AH.Le.refl H)) W⟩
  | v :: vs, cs, H, s, B, ll, ha, hg, hu, W, hB, hl, hP, h => by
    cases ha with
    | cons hv har =>
      rename_i c cs'
      have ih := mC F (k := k) (Qf := Qf) (vs0 := vs0) hbody his hi nx np vs cs'
      rw [List.map_cons, vF1]
      refine ⟨hu, ?_⟩
      generalize yJ is _ (fun H => H.M f = some (.list vs0)) (vs.map It.val) = Wx at ih ⊢
      obtain ⟨r, t4, r2, us, ev, e1, e2, hargs⟩ := hv
      subst ev
      rw [List.length_cons] at hB
      have gc := hg c (.head _)
      have ht : ∀ K : List (Option Value) → AH → Prop, K (xQ ll is [.str (S [c.c]) t4, .ref r2]) H → itVC is (.val (.ref r)) ll H K := fun K hK => by
        obtain ⟨i, j, rfl⟩ := hi
        simp only [q_it2, wO, e1]
        exact ⟨rfl, hK⟩
      refine ht _ (hbody ll H _ _ _ hP (fun ll' hP' => ?_) W.meth)
      refine F.put W (by lia) hl gc e2 hargs fun H1 le1 W1 => ?_
      refine ih H1 (qN s c) (B + 15) ll' (qV le1.I har) (fun x hx => hg x (.tail _ hx)) (le1.M _ _ nx np hu) W1 (by lia) (cmd_last hl gc) hP' fun ll2 H2 hP2 le2 W2 => ?_
      refine h ll2 H2 hP2 (le1.trans le2) ?_
      have e : B + 15 + 15 * cs'.length = B + 15 * (c :: cs').length := by rw [List.length_cons]; lia
      rw [e] at W2
      exact W2
end
theorem join_S : ∀ ps : List (List Nat), Txt.join (S []) (ps.map S) = S ps.flatten := by
  intro ps
  show Builtin.Str.glued _ _ = _
  rw [StrLaws.glued_eq_join]
  induction ps with
  | nil => rfl
  | cons p ps ih =>
    cases ps with
    | nil =>
      show S p = _
      simp
    | cons q r =>
      show S p ++ S [] ++ Str.join (S []) ((q :: r).map S) = _
      rw [ih, wT, wT]
      simp
theorem join_ok {ps : List (List Nat)} (h : ps.flatten.length ≤ 60000) : JoinOk (S []) (ps.map S) = true := by
  have key : ∀ (l : List (List Nat)) (n : Nat), (l.map S).foldl (fun n s => n + s.length + (S []).length) n = n + l.flatten.length := by
    intro l
    induction l with
    | nil => intro n; simp
    | cons p l ih =>
      intro n
      rw [List.map_cons, List.foldl_cons, ih]
      simp [Str.length]
      lia
  unfold JoinOk Builtin.Str.tooLong
  rw [List.foldl_toArray, key]
  have hsz : (100000 : Nat) ≤ sizeLine := by rw [sizeLine_eq]; lia
  simp only [Bool.not_eq_true', decide_eq_false_iff_not]
  lia
theorem strs_S {vs : List Value} {ps : List (List Nat)} : Alls StrV vs ps → gG vs = some (ps.map S)
  | .nil => rfl
  | .cons x y => by
    obtain ⟨t, e⟩ := x
    subst e
    simp only [so1, strs_S y]
    rfl
theorem all_text : ∀ {cs : List Cmd} {s : St}, Goods cs → (cs.foldl qN s).text.length ≤ s.text.length + 60 * cs.length
  | [], s, _ => Nat.le_refl _
  | c :: cs, s, g => by
    have h1 := cmd_text (s := s) (g c (.head _))
    have h2 := all_text (s := qN s c) (fun x hx => g x (.tail _ hx) : Goods cs)
    rw [List.foldl_cons, List.length_cons]
    lia
section
variable {G : Gl} {H : AH} {Q : Value → AH → Prop} {C : Addr} {X : AH → Prop} {n : Nat}
theorem Wt.join {x d pl : Addr} {s : St} {B : Nat} (W : Wt H x d pl s B) (hT : s.text.length ≤ 60000) {t : Tok} (h : ∀ t, Q (.str (S s.text) t) H) : bmVC .join (.str (S []) t) [.ref pl] H Q := by
  obtain ⟨vs, ps, e1, e2, e3, e4⟩ := W.lst
  simp only [fV, pA, m_up, fU, gK, e1, strs_S e2]
  rw [← e3] at hT
  refine ⟨join_ok hT, ?_⟩
  rw [join_S, e3]
  exact h
theorem Fn.wpath (F : Fn G) {f : Addr} {cs : List Cmd} (hf : Cms H f cs) (g : Goods cs) (hl : cs.length ≤ 100)
    (h : ∀ t H', AH.Le H H' → Q (.str (S (xD cs).text) t) H') : CallT G C (n + 5) (.ref 361) [.ref f] H Q X := by
  refine jL F.write_path rfl ?_
  obtain ⟨vs, hv, ha⟩ := hf
  simp only [wJ, fu]
  refine jG ?_
  simp only [jV, v_new, vL0, List.map, La, Ln]
  intro x d hx hd ne
  have nfd : f ≠ d := fun e => by rw [e, hd.2] at hv; cases hv
  have nfx : f ≠ x := fun e => by rw [e, hx.2] at hv; cases hv
  refine c_pw_init (n := n + 2) F jP (by rw [jC ne.symm]; exact jP) ne fun pl H1 leI leM W hpl => ⟨rfl, ?_⟩
  have npl : f ≠ pl := fun e => by
    have := hpl.2
    rw [jC W.n1, jC W.n2, ← e, hv] at this
    cases this
  have hv1 : H1.M f = some (.list vs) := leM f _ nfd (by rw [jC nfx, jC nfd]; exact hv)
  have back : ∀ H', LeY d pl H1 H' → AH.Le H H' := fun H' le => ⟨fun a vs e => le.I a vs (leI a vs e), fun a mo e => by
    have a1 : a ≠ d := fun q => by rw [q, hd.2] at e; cases e
    have a2 : a ≠ x := fun q => by rw [q, hx.2] at e; cases e
    have a3 : a ≠ pl := fun q => by
      have := hpl.2
      rw [jC W.n1, jC W.n2, ← q, e] at this
      cases this
    exact le.M a mo a1 a3 (leM a mo a1 (by rw [jC a2, jC a1]; exact e))⟩
  simp only [Ts, Tz]
  refine jG ?_
  simp only [w_fors, jB, Lz]
  refine ⟨fun ⟨y, t, e⟩ => (by cases e), .inr ⟨vs, hv1, ?_⟩⟩
  have hT := all_text (s := st0) g
  refine mC F (d := d) (pl := pl) (P := fun ll => ∃ v2 v3, ll = [some (.ref f), some (.ref x), v2, v3]) (fun ll H a b K hP hc hm => ?_) rfl ⟨2, 3, rfl⟩ nfd npl vs cs H1 st0 0 _ (qV leI ha) g hv1 W (by lia) (Nat.zero_le _) ⟨_, _, rfl⟩ fun ll H2 hP le2 W2 => ?_
  · obtain ⟨v2, v3, rfl⟩ := hP
    obtain ⟨fs, ei, hn⟩ := hm
    simp only [fW, vB0, vB1, qF, jB, zP, vL0, vL1, sA0, sA1, Ts, Tz, Lz, Ls, ei]
    exact ⟨hn "put" (by decide) (by decide) (by decide), hc _ ⟨_, _, rfl⟩⟩
  · obtain ⟨v2, v3, rfl⟩ := hP
    simp only [zJ, jH, jB, zX, yS, vL0, vL1, Lz, Ls, jM, s_n, yC]
    refine fun t1 => ⟨trivial, W2.getParts ?_⟩
    refine W2.join (by have e0 : st0.text.length = 0 := rfl
                       lia) fun t2 => ?_
    exact h t2 H2 (back H2 le2)
end
inductive PairsV (H : AH) : List Value → List Arg → Prop
  | nil : PairsV H [] []
  | cons {a u w ps x y as} : H.I a = some [u, w] → ArgV H u x → ArgV H w y → PairsV H ps as → PairsV H (.ref a :: ps) (x :: y :: as)
theorem PairsV.up {H H' : AH} (h : ∀ a vs, H.I a = some vs → H'.I a = some vs) {vs : List Value} {as : List Arg} : PairsV H vs as → PairsV H' vs as
  | .nil => .nil
  | .cons e x y r => .cons (h _ _ e) (x.up h) (y.up h) (r.up h)
theorem PairsV.len {H : AH} {vs : List Value} {as : List Arg} : PairsV H vs as → as.length = 2 * vs.length
  | .nil => rfl
  | .cons e x y r => by simp only [List.length_cons, r.len]; lia
theorem Alls.app {α β : Type} {R : α → β → Prop} {as as' : List α} {bs bs' : List β} : Alls R as bs → Alls R as' bs' → Alls R (as ++ as') (bs ++ bs')
  | .nil, h => h
  | .cons x y, h => .cons x (y.app h)
section
variable {G : Gl} {H : AH} {Q : Value → AH → Prop} {C : Addr} {X : AH → Prop} {n : Nat}
theorem loop_pairs {k : Fu} {r0 : Addr} {us : List Value} {Qf : Fl → List (Option Value) → AH → Prop} : ∀ (ps : List Value) (as : List Arg) (H : AH) (r : Addr) (vs : List Value) (bs : List Arg) (v2 v3 : Option Value),
    PairsV H ps as → H.I r0 = some us → H.I r = some vs → Alls (ArgV H) vs bs → vs.length + as.length ≤ 900 →
    (∀ H' r vs v2 v3, AH.Le H H' → H'.I r = some vs → Alls (ArgV H') vs (bs ++ as) → Qf .next [some (.ref r0), some (.ref r), v2, v3] H') →
    yJ [2, 3] (vcB (vcS G C n X (.s (.s (.s (.s (.s k)))))) pB) (fun H => H.I r0 = some us) (ps.map .val) [some (.ref r0), some (.ref r), v2, v3] H Qf
  | [], as, H, r, vs, bs, v2, v3, hp, h0, hr, ha, hl, h => by
    cases hp
    exact ⟨h0, h H r vs v2 v3 (AH.Le.refl H) hr (by rw [List.append_nil]; exact ha)⟩
  | p :: ps, as, H, r, vs, bs, v2, v3, hp, h0, hr, ha, hl, h => by
    cases hp with
    | cons e x y rest =>
      rename_i a u w x' y' as'
      have ih := loop_pairs (k := k) (r0 := r0) (us := us) (Qf := Qf) ps as'
      rw [List.map_cons, vF1]
      refine ⟨h0, ?_⟩
      generalize yJ [2, 3] _ (fun H => H.I r0 = some us) (ps.map It.val) = W at ih ⊢
      simp only [q_it2, wO, e, List.length_cons, List.length_nil, sA0, sA1, Ts, Tz, true_and]
      simp only [pB, vB0, vB1, jV, jB, zB, yP, vL0, vL1, Lz, Ls]
      simp only [List.length_cons] at hl
      refine ⟨zN, fun b hb => ?_⟩
      have le1 := jD (vs := [u, w]) hb
      have hr1 := le1.1 _ _ hr
      have hb1 : (H.setI b [u, w]).I b = some [u, w] := jS
      simp only [b_ref, hr1, hb1, Ts, Tz, List.length_cons, List.length_nil]
      have e2 : bs ++ x' :: y' :: as' = bs ++ [x', y'] ++ as' := by simp
      have two : Alls (ArgV (H.setI b [u, w])) [u, w] [x', y'] := .cons (x.up le1.1) (.cons (y.up le1.1) .nil)
      refine ⟨by lia, fun en => ?_, fun _ en => (by cases en), fun _ _ b2 hb2 => ?_⟩
      · subst en
        cases ha
        refine ih (H.setI b [u, w]) b [u, w] [x', y'] _ _ (rest.up le1.1) (le1.1 _ _ h0) hb1 two (by simp; simp at hl; lia) fun H2 r2 vs2 w2 w3 le2 hr2 ha2 => ?_
        exact h H2 r2 vs2 w2 w3 (le1.trans le2) hr2 ha2
      · have le2 := jD (vs := vs ++ [u, w]) hb2
        refine ih _ b2 (vs ++ [u, w]) (bs ++ [x', y']) _ _ (rest.up fun _ _ q => le2.1 _ _ (le1.1 _ _ q)) (le2.1 _ _ (le1.1 _ _ h0)) jS (yG le2.1 ((yG le1.1 ha).app two)) (by simp; lia) fun H2 r2 vs2 w2 w3 le3 hr2 ha2 => ?_
        rw [← e2] at ha2
        exact h H2 r2 vs2 w2 w3 (le1.trans (le2.trans le3)) hr2 ha2
theorem Fn.nums (F : Fn G) {r0 : Addr} {us : List Value} {as : List Arg} (h0 : H.I r0 = some us) (hp : PairsV H us as) (hl : as.length ≤ 800)
    (h : ∀ r vs H', AH.Le H H' → H'.I r = some vs → Alls (ArgV H') vs as → Q (.ref r) H') : CallT G C (n + 1) (.ref 368) [.ref r0] H Q X := by
  refine jL F.numbers_of rfl ?_
  simp only [wL, fu]
  refine jG ?_
  simp only [jV, yP, vL0, List.map, La, Ln, Ts, Tz]
  refine ⟨Nat.zero_le _, fun r hr => ?_⟩
  have le1 := jD (vs := []) hr
  refine jG ?_
  simp only [w_fors, jB, Lz]
  refine ⟨fun ⟨y, t, e⟩ => (by cases e), .inl ⟨us, le1.1 _ _ h0, ?_⟩⟩
  refine loop_pairs us as _ r [] [] _ _ (hp.up le1.1) (le1.1 _ _ h0) jS .nil (by simp; lia) fun H2 r2 vs2 w2 w3 le2 hr2 ha2 => ?_
  simp only [zJ, jB, Lz, Ls, yC]
  exact h r2 vs2 H2 (le1.trans le2) hr2 ha2
end
noncomputable def kindOf (k : Nat) : Option Str := if k = 77 then some "move" else if k = 76 then some "line" else if k = 81 then some "quad" else if k = 67 then some "cubic" else none
theorem mH {k : Nat} {y : Str} {m : Nat → Str → Prop} (h : kindOf k = some y) (h1 : m 77 "move") (h2 : m 76 "line") (h3 : m 81 "quad") (h4 : m 67 "cubic") : m k y := by
  unfold kindOf at h
  split at h
  · subst k; cases h; exact h1
  split at h
  · subst k; cases h; exact h2
  split at h
  · subst k; cases h; exact h3
  split at h
  · subst k; cases h; exact h4
  cases h
inductive SegV (H : AH) : Value → Cmd → Prop
  | close {r t} : H.I r = some [.str "close" t] → SegV H (.ref r) ⟨90, []⟩
  | arc {r t v0 v1 v2 v5 v6 r6 a0 a1 a2 a5 a6 b3 b4} : H.I r = some [.str "arc" t, v0, v1, v2, .bool b3, .bool b4, .ref r6] → H.I r6 = some [v5, v6] →
      ArgV H v0 a0 → ArgV H v1 a1 → ArgV H v2 a2 → ArgV H v5 a5 → ArgV H v6 a6 → SegV H (.ref r) ⟨65, [a0, a1, a2, .flag (if b3 then 1 else 0), .flag (if b4 then 1 else 0), a5, a6]⟩
  | pts {r t ps c as k} : kindOf c = some k → H.I r = some (.str k t :: ps) → PairsV H ps as → SegV H (.ref r) ⟨c, as⟩
theorem SegV.up {H H' : AH} (h : ∀ a vs, H.I a = some vs → H'.I a = some vs) {v : Value} {c : Cmd} : SegV H v c → SegV H' v c
  | .close e => .close (h _ _ e)
  | .arc e e6 x0 x1 x2 x5 x6 => .arc (h _ _ e) (h _ _ e6) (x0.up h) (x1.up h) (x2.up h) (x5.up h) (x6.up h)
  | .pts k e p => .pts k (h _ _ e) (p.up h)
noncomputable def kks : List Str := ["move", "line", "quad", "cubic"]
noncomputable def kvs : List Const := [(.str "M"), (.str "L"), (.str "Q"), (.str "C")]
theorem kind_is {c : Nat} {k : Str} (h : kindOf c = some k) : (k == ("close" : Str)) = false ∧ (k == ("arc" : Str)) = false ∧ lkC k kks kvs = some (.str (S [c])) := by
  exact mH (m := fun c k => (k == ("close" : Str)) = false ∧ (k == ("arc" : Str)) = false ∧ lkC k kks kvs = some (.str (S [c]))) h ⟨by decide, by decide, by rfl⟩ ⟨by decide, by decide, by rfl⟩ ⟨by decide, by decide, by rfl⟩ ⟨by decide, by decide, by rfl⟩
section
variable {G : Gl} {H : AH} {Q : Value → AH → Prop} {C : Addr} {X : AH → Prop} {n : Nat}
theorem mI {a : Addr} {vs : List Value} {v : Value} {k : Int} {m : Nat} {t : Tok} (h : H.I a = some vs) (e0 : k = (m : Int)) (e : vs[m]? = some v) (hk : m < 1000) (q : Q v H) : nF (.ref a) (.int k t) H Q := by
  subst e0
  exact item_at h e hk q
theorem cat_t {a b : Addr} {xs ys : List Value} (h1 : H.I a = some xs) (h2 : H.I b = some ys) (n1 : xs ≠ []) (n2 : ys ≠ []) (hl : xs.length + ys.length ≤ 1000) (h : ∀ r, H.free r → Q (.ref r) (H.setI r (xs ++ ys))) : kA .Add (.ref a) (.ref b) H Q := by
  simp only [b_ref, h1, h2]
  exact ⟨hl, fun e => absurd e n1, fun _ e => absurd e n2, fun _ _ => h⟩
theorem Fn.cof (F : Fn G) {v : Value} {c : Cmd} (hs : SegV H v c) (hl : c.args.length ≤ 100) (h : ∀ w H', AH.Le H H' → CmdV H' w c → Q w H') : CallT G C (n + 2) (.ref 375) [v] H Q X := by
  refine jL F.command_of rfl ?_
  simp only [wN, fu]
  cases hs with
  | close e =>
    rename_i r t
    simp only [jV, zT, zJ, jH, jB, zD, zB, jQ, uD, qL, gE, yP, v_dsub, vL0, vL1, vB0, vB1, List.map, La, Ln, Lz, jJ]
    refine fun t1 => uR e ?_
    simp only [Ts, Tz, Lz, Ls, jM, uS, jI, s90, yC]
    refine fun t2 => ⟨fun _ t3 => ⟨Nat.zero_le _, fun a ha => ⟨zN, fun b hb => ?_⟩⟩, fun e2 => absurd e2 (by decide)⟩
    exact h _ _ ((jD ha).trans (jD hb)) ⟨b, t3, a, [], rfl, jS, (jD hb).1 _ _ jS, .nil⟩
  | pts hk e hp =>
    rename_i r t ps c as k
    obtain ⟨k1, k2, k3⟩ := kind_is hk
    have hlen := hp.len
    simp only at hl
    simp only [jV, zT, zJ, jH, jB, zD, zB, jQ, uD, qL, gE, yP, v_dsub, vL0, vL1, vB0, vB1, List.map, La, Ln, Lz, jJ]
    refine fun t1 => uR e ?_
    simp only [Ts, Tz, Lz, Ls, jM, uS, jI, yC]
    refine fun t2 => ⟨fun e2 => absurd (k1.symm.trans e2) (by decide), fun _ t3 => ⟨fun e2 => absurd (k2.symm.trans e2) (by decide), fun _ a o ha => ⟨trivial, ?_⟩⟩⟩
    show (match lkC k kks kvs with | some u => yE u H _ | none => False)
    rw [k3]
    simp only [jM, jJ, xF, wP, gQ, e]
    refine fun t4 t5 => ⟨⟨by decide, by decide, ?_, Nat.le_refl _, ?_⟩, fun b hb => ?_, fun e2 => absurd e2 (by decide)⟩
    · show (1 : Nat) ≤ _
      simp
      show 1 ≤ (Value.str k t :: ps).length
      simp
    · show (Value.str k t :: ps).length ≤ 1000
      simp
      lia
    have le1 := jD (vs := ((Value.str k t :: ps).take (kF (Value.str k t :: ps).length none)).drop (qZ (some 1))) hb
    have es : ((Value.str k t :: ps).take (kF (Value.str k t :: ps).length none)).drop (qZ (some 1)) = ps := by
      show ((Value.str k t :: ps).take (Value.str k t :: ps).length).drop 1 = ps
      rw [List.take_length]
      rfl
    rw [es] at le1 ⊢
    refine F.nums (jS) (hp.up le1.1) (by lia) fun r2 vs H2 le2 hr2 ha2 => ?_
    refine ⟨zN, fun b2 hb2 => ?_⟩
    exact h _ _ (le1.trans (le2.trans (jD hb2))) ⟨b2, t4, r2, vs, rfl, jS, (jD hb2).1 _ _ hr2, yG (jD hb2).1 ha2⟩
  | arc e e6 x0 x1 x2 x5 x6 =>
    rename_i r t v0 v1 v2 v5 v6 r6 a0 a1 a2 a5 a6 b3 b4
    have fin : ∀ (H1 : AH) (f : Addr) (i3 i4 : Int) (t5 t7 : Tok) (Kf : Fl → List (Option Value) → AH → Prop), (∀ v ll H, Q v H → Kf (.ret v) ll H) → AH.Le H H1 → H1.I f = some [.int i3 t5, .int i4 t7] → i3 = ((if b3 then 1 else 0 : Nat) : Int) → i4 = ((if b4 then 1 else 0 : Nat) : Int) →
        vcS G C (n + 1) X (.s (.s (.s (.s (.s (.s (.s (.s (.s (.s (.s (.s (.s (.s (.s .z))))))))))))))) (.ret (.tup [(.cst (.str "A")), (.bin .Add (.bin .Add (.tup [(.sub (.loc 0) (.cst (.int 1))), (.sub (.loc 0) (.cst (.int 2))), (.sub (.loc 0) (.cst (.int 3)))]) (.loc 2)) (.sub (.loc 0) (.cst (.int 6))))]))
          [some (.ref r), some (.str "arc" t), some (.ref f)] H1 Kf := by
      intro H1 f i3 i4 t5 t7 Kf hKf le1 f1 q3 q4
      have e1 := le1.1 _ _ e
      have e61 := le1.1 _ _ e6
      simp only [zJ, jH, jB, zB, qL, yP, vL0, vL1, Lz, Ls, jJ, jM, s65]
      refine fun t8 t9 => mI (m := 1) e1 rfl rfl (by decide) fun t10 => mI (m := 2) e1 rfl rfl (by decide) fun t11 => mI (m := 3) e1 rfl rfl (by decide) ⟨by rw [sizeLine_eq]; simp, fun g hg => ?_⟩
      have le2 := jD (vs := [v0, v1, v2]) hg
      refine cat_t jS (le2.1 _ _ f1) (by simp) (by simp) (by simp) fun g2 hg2 => ?_
      have le3 := jD (vs := [v0, v1, v2] ++ [Value.int i3 t5, Value.int i4 t7]) hg2
      refine fun t12 => mI (m := 6) (le3.1 _ _ (le2.1 _ _ e1)) rfl rfl (by decide) ?_
      refine cat_t jS (le3.1 _ _ (le2.1 _ _ e61)) (by simp) (by simp) (by simp) fun g3 hg3 => ⟨zN, fun g4 hg4 => ?_⟩
      have le4 := jD (vs := [v0, v1, v2] ++ [Value.int i3 t5, Value.int i4 t7] ++ [v5, v6]) hg3
      have le5 := jD (vs := [.str (S [65]) t8, .ref g3]) hg4
      have up : ∀ a vs, H.I a = some vs → _ := fun a vs q => le5.1 a vs (le4.1 a vs (le3.1 a vs (le2.1 a vs (le1.1 a vs q))))
      refine hKf _ _ _ (h _ _ (le1.trans (le2.trans (le3.trans (le4.trans le5)))) ⟨g4, t8, g3, _, rfl, jS, le5.1 _ _ jS, ?_⟩)
      exact .cons (x0.up up) (.cons (x1.up up) (.cons (x2.up up) (.cons ⟨t5, by rw [q3]⟩ (.cons ⟨t7, by rw [q4]⟩ (.cons (x5.up up) (.cons (x6.up up) .nil))))))
    refine jG ?_
    simp only [jV, qL, jH, jB, List.map, La, Ln, Lz, jJ]
    refine fun t1 => uR e ?_
    simp only [Ts, Tz]
    refine jG ?_
    simp only [zT, jQ, jH, jB, Lz, Ls, jM, uS, jI]
    refine fun t2 => ⟨fun e2 => absurd e2 (by decide), fun _ => ?_⟩
    refine vcB_e (jG ?_)
    simp only [zT, jQ, jH, jB, Lz, Ls, jM, uS, jI]
    refine fun t3 => ⟨fun _ => ?_, fun e2 => absurd e2 (by decide)⟩
    refine jG ?_
    simp only [jV, yP, jH, jB, uD, qL, vL0, vL1, Lz, jJ]
    refine fun t4 => mI (m := 4) e rfl rfl (by decide) ?_
    simp only [jI]
    have last : ∀ (i3 i4 : Int) (t5 t7 : Tok) (f : Addr), H.free f → i3 = ((if b3 then 1 else 0 : Nat) : Int) → i4 = ((if b4 then 1 else 0 : Nat) : Int) → AH.Le H (H.setI f [.int i3 t5, .int i4 t7]) := fun _ _ _ _ _ hf _ _ => jD hf
    have second : ∀ (i3 : Int) (t5 : Tok), i3 = ((if b3 then 1 else 0 : Nat) : Int) → True := fun _ _ _ => trivial
    refine ⟨fun q3 t5 t6 => mI (m := 5) e rfl rfl (by decide) ⟨fun q4 t7 => ⟨zN, fun f hf => ?_⟩, fun q4 t7 => ⟨zN, fun f hf => ?_⟩⟩, fun q3 t5 t6 => mI (m := 5) e rfl rfl (by decide) ⟨fun q4 t7 => ⟨zN, fun f hf => ?_⟩, fun q4 t7 => ⟨zN, fun f hf => ?_⟩⟩⟩
    all_goals rw [vB1]
    · exact fin _ f _ _ t5 t7 _ (fun _ _ _ q => q) (jD hf) jS (by rw [q3]; rfl) (by rw [q4]; rfl)
    · exact fin _ f _ _ t5 t7 _ (fun _ _ _ q => q) (jD hf) jS (by rw [q3]; rfl) (by rw [q4]; rfl)
    · exact fin _ f _ _ t5 t7 _ (fun _ _ _ q => q) (jD hf) jS (by rw [q3]; rfl) (by rw [q4]; rfl)
    · exact fin _ f _ _ t5 t7 _ (fun _ _ _ q => q) (jD hf) jS (by rw [q3]; rfl) (by rw [q4]; rfl)
end
noncomputable def Src (H : AH) (sa : Addr) : Prop := ∃ (a b : Int) (t u : Tok), H.M sa = some (.list [.int a t, .int b u]) ∧ 0 ≤ b ∧ b < 2147483647
section
variable {G : Gl} {H : AH} {Q : Value → AH → Prop} {C : Addr} {X : AH → Prop} {n : Nat}
theorem gO {a : Addr} {vs : List Value} {v : Value} {k : Int} {m : Nat} {t : Tok} (h : H.M a = some (.list vs)) (e0 : k = (m : Int)) (e : vs[m]? = some v) (hk : m < 100000) (q : Q v H) : nF (.ref a) (.int k t) H Q := by
  subst e0
  have e1 : ((m : Nat) : Int).toNat = m := by simp
  refine ⟨vs, .inr h, ⟨by lia, by lia⟩, ?_⟩
  rw [e1, e]
  exact q
theorem fmod_in {a b : Int} (h : 0 < b) : 0 ≤ a.fmod b ∧ a.fmod b < b := ⟨Int.fmod_nonneg_of_pos a h, Int.fmod_lt_of_pos a h⟩
theorem Fn.take (F : Fn G) {sa : Addr} {top : Nat} {t : Tok} (hs : Src H sa) (h0 : 0 < top) (h1 : top < 1000000) (h : ∀ (d : Nat) t H', d < top → LeX sa H H' → Src H' sa → Q (.int (d : Nat) t) H') : CallT G C (n + 1) (.ref 394) [.ref sa, .int (top : Nat) t] H Q X := by
  refine jL F.law_take rfl ?_
  obtain ⟨a, b, ta, tb, hm, b0, b1⟩ := hs
  have dig : ∀ x : Int, ∃ d : Nat, x.fmod (top : Int) = (d : Int) ∧ d < top := fun x => by
    have := fmod_in (a := x) (b := (top : Int)) (by lia)
    exact ⟨(x.fmod (top : Int)).toNat, by lia, by lia⟩
  simp only [mW, fu, vB0, vB1]
  rw [zT, jQ]
  simp only [jH, jB, qL, List.map, La, Ln, Lz, jJ]
  refine fun t1 => gO (m := 0) hm rfl rfl (by decide) fun t2 => ?_
  simp only [q_gt, jI]
  refine ⟨fun _ => ?_, fun _ => ?_⟩
  · rw [vB1, jV, zB]
    simp only [jH, jB, zC, qL, vL0, vL1, Lz, Ls, jJ]
    refine fun t3 => gO (m := 0) hm rfl rfl (by decide) ?_
    simp only [q_int, q_mod]
    refine fun t4 => ⟨by lia, fun t5 => ?_⟩
    simp only [Ts, Tz]
    rw [vB1, w_asgI]
    simp only [jH, jB, zB, qL, Lz, Ls, jJ]
    refine fun t6 => gO (m := 0) hm rfl rfl (by decide) ?_
    simp only [q_div, hm]
    refine ⟨⟨by lia, by lia⟩, fun t7 t8 => ⟨⟨by decide, by simp, by simp⟩, ?_⟩⟩
    simp only [vB0, vB1, w_asgI, zJ, jH, jB, zC, zB, Lz, Ls, yC]
    obtain ⟨d, ed, hd⟩ := dig a
    rw [ed]
    exact h d t5 _ hd leX_set ⟨_, b, t7, tb, jP, b0, b1⟩
  · simp only [vB0]
    rw [w_asgI]
    simp only [jH, jB, zC, zB, qL, vL0, vL1, Lz, jJ]
    refine fun t3 => gO (m := 1) hm rfl rfl (by decide) ?_
    simp only [gI, wQ, q_int, q_mod, hm]
    refine fun t4 => ⟨IntMulOk.of_right (intBits_le_64 (by decide) (by decide)), fun t5 t6 t7 t8 t9 => ⟨by decide, fun t10 t11 => ⟨⟨by decide, by simp, by simp⟩, ?_⟩⟩⟩
    have hb := fmod_in (a := b * 39373 + 7) (b := 2147483647) (by decide)
    generalize (b * 39373 + 7).fmod 2147483647 = b2 at hb ⊢
    have hm2 : (H.setM sa (.list ([Value.int a ta, Value.int b tb].set (Int.toNat 1) (.int b2 t10)))).M sa = some (.list [.int a ta, .int b2 t10]) := jP
    simp only [zJ, jH, jB, zC, zB, qL, vL0, vL1, Lz, Ls, jJ]
    refine fun t12 => gO (m := 1) hm2 rfl rfl (by decide) fun t13 => gO (m := 1) hm2 rfl rfl (by decide) ?_
    simp only [gI, q_int, q_mod, q_div, yC]
    refine ⟨IntMulOk.of_right (intBits_le_64 (by lia) (by lia)), fun t14 t15 t16 => ⟨by decide, fun t17 t18 => ⟨⟨by decide, by decide⟩, fun t19 t20 => ⟨by lia, fun t21 => ?_⟩⟩⟩⟩
    obtain ⟨d, ed, hd⟩ := dig ((Int.fmod (b2 * b2) 2147483629).fdiv 32)
    rw [ed]
    exact h d t21 _ hd leX_set ⟨_, b2, ta, t10, hm2, hb.1, hb.2⟩
theorem Fn.one (F : Fn G) {sa la : Addr} {vs : List Value} (hs : Src H sa) (hl : H.M la = some (.list vs)) (ne : la ≠ sa) (h0 : vs ≠ []) (h1 : vs.length < 100000) (h : ∀ v H', v ∈ vs → LeX sa H H' → Src H' sa → Q v H') : CallT G C (n + 2) (.ref 401) [.ref sa, .ref la] H Q X := by
  refine jL F.law_one rfl ?_
  have hp := List.length_pos_iff.mpr h0
  simp only [b_law_one, fu, vB0, vB1, zJ, jB, zD, zC, qL, vL0, vL1, List.map, La, Ln, Lz, Ls, f_len]
  refine ⟨vs, .inr hl, by lia, fun t1 => ?_⟩
  refine F.take hs hp (by lia) fun d t2 H1 hd le1 s1 => ?_
  refine gO (m := d) (le1.M _ _ ne hl) rfl (List.getElem?_eq_getElem hd) (by lia) ?_
  simp only [yC]
  exact h _ H1 (List.getElem_mem hd) le1 s1
theorem tab_mem (k q : Nat) (hk : k < 41) (hq : q ∈ [1, 2, 4, 8, 5]) : frac ((k : Int) - 20) q ∈ tab := by
  unfold tab
  rw [List.mem_flatMap]
  refine ⟨k, List.mem_range.mpr hk, ?_⟩
  rw [List.mem_map]
  exact ⟨q, hq, rfl⟩
theorem Fn.number_ (F : Fn G) {sa : Addr} (hs : Src H sa) (h : ∀ p q v H', (p, q) ∈ tab → ArgV H' v (.num p q) → LeX sa H H' → Src H' sa → Q v H') : CallT G C (n + 3) (.ref 408) [.ref sa] H Q X := by
  refine jL F.law_number rfl ?_
  simp only [wM, fu, vB0, vB1, zJ, jH, jB, zD, zB, pJ, vL0, vL1, List.map, La, Ln, Lz, jJ]
  refine fun t1 => F.take (top := 41) hs (by decide) (by decide) fun d t2 H1 hd le1 s1 => ?_
  simp only [q_sub]
  refine fun t3 t4 t5 t6 t7 t8 t9 => ⟨by rw [sizeLine_eq]; simp, fun la hla => ?_⟩
  have nla : la ≠ sa := fun e => by obtain ⟨_, _, _, _, q, _⟩ := s1; rw [← e, hla.2] at q; cases q
  have s2 : Src (H1.setM la (.list [.int 1 t5, .int 2 t6, .int 4 t7, .int 8 t8, .int 5 t9])) sa := by
    obtain ⟨a, b, ta, tb, q, b0, b1⟩ := s1
    exact ⟨a, b, ta, tb, by rw [jC nla.symm]; exact q, b0, b1⟩
  refine F.one s2 jP nla (by simp) (by simp) fun v H2 hv le2 s3 => ?_
  have hq : ∃ (q : Nat) (t : Tok), v = .int (q : Nat) t ∧ q ∈ [1, 2, 4, 8, 5] := by
    simp only [List.mem_cons, List.not_mem_nil, or_false] at hv
    rcases hv with e | e | e | e | e <;> rw [e]
    · exact ⟨1, _, rfl, by simp⟩
    · exact ⟨2, _, rfl, by simp⟩
    · exact ⟨4, _, rfl, by simp⟩
    · exact ⟨8, _, rfl, by simp⟩
    · exact ⟨5, _, rfl, by simp⟩
  obtain ⟨q, t, ev, hq⟩ := hq
  subst ev
  have hqb : ∀ q ∈ [1, 2, 4, 8, 5], 0 < q ∧ q < 1073741824 := by decide
  refine mS F.common_divisor F.fraction (hqb q hq).1 (hqb q hq).2 fun r t' u' H3 le3 e3 => ?_
  simp only [yC]
  have hm := tab_mem d q hd hq
  refine h (frac ((d : Int) - 20) q).1 (frac ((d : Int) - 20) q).2 _ H3 hm ⟨r, t', u', rfl, e3⟩ ((le1.trans (LeX.of_le (yN hla))).trans (le2.trans (LeX.of_le le3))) ?_
  obtain ⟨a, b, ta, tb, q, b0, b1⟩ := s3
  exact ⟨a, b, ta, tb, le3.2 _ _ q, b0, b1⟩
theorem Src.le {H' : AH} {sa : Addr} (s : Src H sa) (le : AH.Le H H') : Src H' sa := by
  obtain ⟨a, b, ta, tb, q, b0, b1⟩ := s
  exact ⟨a, b, ta, tb, le.2 _ _ q, b0, b1⟩
theorem Src.setf {sa f : Addr} {mo : MObj} (s : Src H sa) (ne : sa ≠ f) : Src (H.setM f mo) sa := by
  obtain ⟨a, b, ta, tb, q, b0, b1⟩ := s
  exact ⟨a, b, ta, tb, by rw [jC ne]; exact q, b0, b1⟩
theorem Src.ne {sa f : Addr} (s : Src H sa) (hf : H.free f) : sa ≠ f := fun e => by
  obtain ⟨_, _, _, _, q, _⟩ := s
  rw [e, hf.2] at q
  cases q
theorem draw_body (F : Fn G) {k : Fu} {sa f : Addr} {c p : Nat} {tm tp : Tok} {v1 v2 v6 : Option Value} {vs : List Value} {as : List Arg} (hc : c ∈ LT) (hs : Src H sa) (hf : H.M f = some (.list vs)) (nf : sa ≠ f) (hv : Alls (ArgV H) vs as) (hl : vs.length ≤ 10)
    {Qf : Fl → List (Option Value) → AH → Prop} (h : ∀ a vs' H' v6, vC (zL c && (p == 3 || p == 4)) a → LeY sa f H H' → Src H' sa → H'.M f = some (.list vs') → vs'.length = vs.length + 1 → Alls (ArgV H') vs' (as ++ [a]) →
      Qf .next [some (.ref sa), v1, v2, some (.int (zF c : Nat) tm), some (.ref f), some (.int (p : Nat) tp), v6] H') :
    vcB (vcS G C (n + 3) X (.s (.s (.s (.s (.s (.s k))))))) xI [some (.ref sa), v1, v2, some (.int (zF c : Nat) tm), some (.ref f), some (.int (p : Nat) tp), v6] H Qf := by
  have ham := arc_many c hc
  have push : ∀ (H2 : AH) (b : Bool), AH.Le H H2 → b = (zL c && (p == 3 || p == 4)) → vcB (vcS G C (n + 3) X (.s (.s (.s (.s (.s (.s k))))))) [.exp (.bmeth .append (.loc 4) [(.ite (.loc 6) (.call 394 [(.loc 0), (.cst (.int 2))]) (.call 408 [(.loc 0)]))])] [some (.ref sa), v1, v2, some (.int (zF c : Nat) tm), some (.ref f), some (.int (p : Nat) tp), some (.bool b)] H2 Qf := by
    intro H2 b le eb
    subst eb
    have hf2 := le.2 _ _ hf
    have s2 := hs.le le
    simp only [vB0, vB1, qF, jH, jB, zD, yS, uD, vL0, vL1, Lz, Ls, jI, bmOk, hf2, jJ]
    refine ⟨trivial, fun e t1 => ?_, fun e => ?_⟩
    · refine F.take (n := n + 2) (top := 2) s2 (by decide) (by decide) fun d t H3 hd le3 s3 => ?_
      have hf3 := le3.M _ _ nf.symm hf2
      simp only [fV, pA, m_up, fU, gK, hf3]
      refine ⟨by lia, h (.flag d) _ _ _ ⟨e, by lia⟩ ((LeY.of_le le).trans (le3.y.trans LeY.set)) (s3.setf nf) jP (by simp) ?_⟩
      exact (yG le3.I (yG le.1 hv)).snoc ⟨t, rfl⟩
    · refine F.number_ s2 fun p' q' v H3 ht hv3 le3 s3 => ?_
      have hf3 := le3.M _ _ nf.symm hf2
      simp only [fV, pA, m_up, fU, gK, hf3]
      refine ⟨by lia, h (.num p' q') _ _ _ ⟨e, ht⟩ ((LeY.of_le le).trans (le3.y.trans LeY.set)) (s3.setf nf) jP (by simp) ?_⟩
      exact (yG le3.I (yG le.1 hv)).snoc hv3
  rw [xI, vB1, jV, uQ, vA1]
  simp only [jH, jB, jQ, pJ, vL0, vL1, vA0, Lz, Ls, jJ, q_eq, jI]
  have h7 : (((zF c : Nat) : Int) == 7) = zL c := by
    rw [Bool.eq_iff_iff, ← ham]
    simp only [beq_iff_eq]
    lia
  rw [h7]
  refine fun t1 => ⟨fun e t2 t3 => ⟨zN, fun a ha => ?_⟩, fun e => ?_⟩
  · refine q_inL jP any2i (by simp) ?_
    have hp : ((3 : Int) == (p : Int) || ((4 : Int) == (p : Int) || false)) = (p == 3 || p == 4) := by
      rw [Bool.eq_iff_iff]
      simp
      lia
    rw [hp]
    exact push _ _ (yN ha) (by rw [e]; rfl)
  · have e' : zL c = false := e
    exact push _ _ (AH.Le.refl H) (by rw [e']; rfl)
theorem loop_draw (F : Fn G) {k : Fu} {sa f : Addr} {c : Nat} {tm : Tok} {v1 v2 : Option Value} (hc : c ∈ LT) (nf : sa ≠ f) {Qf : Fl → List (Option Value) → AH → Prop} : ∀ (m p : Nat) (H : AH) (vs : List Value) (as : List Arg) (v5 v6 : Option Value),
    Src H sa → H.M f = some (.list vs) → Alls (ArgV H) vs as → vs.length + m ≤ 10 →
    (∀ bs H' vs' v5 v6, xP (zL c) p bs → bs.length = m → LeY sa f H H' → Src H' sa → H'.M f = some (.list vs') → Alls (ArgV H') vs' (as ++ bs) → Qf .next [some (.ref sa), v1, v2, some (.int (zF c : Nat) tm), some (.ref f), v5, v6] H') →
    yJ [5] (vcB (vcS G C (n + 3) X (.s (.s (.s (.s (.s (.s k))))))) xI) (fun _ => True) (pK m p) [some (.ref sa), v1, v2, some (.int (zF c : Nat) tm), some (.ref f), v5, v6] H Qf
  | 0, p, H, vs, as, v5, v6, hs, hf, hv, hl, h => ⟨trivial, h [] H vs v5 v6 trivial rfl (LeY.of_le (AH.Le.refl H)) hs hf (by rw [List.append_nil]; exact hv)⟩
  | m + 1, p, H, vs, as, v5, v6, hs, hf, hv, hl, h => by
    rw [gX, vF1]
    refine ⟨trivial, fun tp => ?_⟩
    have ih := loop_draw F (k := k) (v1 := v1) (v2 := v2) (tm := tm) hc nf (Qf := Qf) m (p + 1)
    generalize yJ [5] _ (fun _ => True) (pK m (p + 1)) = W at ih ⊢
    simp only [Ts, Tz]
    refine draw_body F hc hs hf nf hv (by lia) fun a vs1 H1 v6' ok le1 s1 f1 l1 hv1 => ?_
    refine ih H1 vs1 (as ++ [a]) _ v6' s1 f1 hv1 (by lia) fun bs H2 vs2 w5 w6 gb lb le2 s2 f2 hv2 => ?_
    refine h (a :: bs) H2 vs2 w5 w6 ⟨ok, gb⟩ (by simp [lb]) (le1.trans le2) s2 f2 ?_
    rw [List.append_assoc] at hv2
    exact hv2
noncomputable def LetV (ls : List Nat) (v : Value) : Prop := ∃ c t, v = .str (S [c]) t ∧ c ∈ ls
theorem Fn.command_ (F : Fn G) {sa la : Addr} {ls : List Nat} {vs : List Value} (hs : Src H sa) (hl : H.M la = some (.list vs)) (ne : la ≠ sa) (h0 : vs ≠ []) (h1 : vs.length < 100000) (hv : ∀ v ∈ vs, LetV ls v) (hls : ∀ c ∈ ls, c ∈ LT)
    (h : ∀ c v H', c.c ∈ ls → GoodC c → CmdV H' v c → LeX sa H H' → Src H' sa → Q v H') : CallT G C (n + 4) (.ref 415) [.ref sa, .ref la] H Q X := by
  refine jL F.law_command rfl ?_
  simp only [pI, fu, vB0, vB1]
  rw [jV, zD]
  simp only [jB, vL0, vL1, List.map, La, Ln, Lz, Ls]
  refine F.one (n := n + 1) hs hl ne h0 h1 fun v H1 hm le1 s1 => ?_
  obtain ⟨c, t, ev, hcl⟩ := hv v hm
  subst ev
  have hc := hls c hcl
  simp only [Ts, Tz]
  rw [jV, v_dsub]
  simp only [jB, yS, vL0, Lz, Ls]
  refine fun a o hf => ⟨trivial, ⟨by simp [yA], fun t1 => ⟨rfl, ?_⟩⟩⟩
  show (match lkC (Txt.upper (S [c])) mkeys mvals with | some u => yE u H1 _ | none => False)
  rw [lk_many c hc]
  simp only [jJ, Ts, Tz]
  intro t2
  rw [jV, pJ]
  simp only [vL0]
  refine ⟨Nat.zero_le _, fun f hf => ?_⟩
  have nf := s1.ne hf
  have h7 := kW c hc
  have s2 : Src (H1.setM f (.list [])) sa := s1.setf nf
  simp only [Ts, Tz]
  rw [w_forr]
  simp only [jB, Lz, Ls]
  refine ⟨⟨by lia, by lia⟩, ?_⟩
  have e : ((zF c : Nat) : Int).toNat = zF c := by simp
  rw [e]
  refine loop_draw F hc nf _ 0 _ [] [] _ _ s2 jP .nil (by simp; lia) fun bs H2 vs2 v5 v6 gb lb le2 s3 f2 hv2 => ?_
  have hlen := hv2.len
  simp only [Ln] at hlen hv2
  simp only [zJ, jB, zC, yP, vL0, vL1, Lz, Ls, f_tup, f2, yC]
  refine ⟨by lia, fun r hr => ⟨zN, fun r2 hr2 => ?_⟩⟩
  have le3 := jD (vs := vs2) hr
  have le4 := jD (vs := [.str (S [c]) t, .ref r]) hr2
  have back : LeX sa (H1.setM f (.list [])) H2 → LeX sa H1 H2 := fun x => (LeX.of_le (yN hf)).trans x
  refine h ⟨c, bs⟩ _ _ hcl ⟨hc, lb, gb⟩ ⟨r2, t, r, vs2, rfl, jS, le4.1 _ _ jS, yG le4.1 (yG le3.1 hv2)⟩ ?_ ((s3.le le3).le le4)
  refine le1.trans (LeX.trans ⟨le2.I, fun a mo na e => ?_⟩ ((LeX.of_le le3).trans (LeX.of_le le4)))
  have nfa : a ≠ f := fun q => by rw [q, hf.2] at e; cases e
  exact le2.M a mo na nfa (by rw [jC nfa]; exact e)
end
structure Fn2 (G : Gl) : Prop extends Fn G where
  write_segments : FnIs G 380 ["segments"] [] fu xU
  law_written_right : FnIs G 446 ["source", "commands"] ["writer", "blanks", "at", "letter", "numbers", "text", "last"] fu kM
  law : FnIs G 451 ["script"] ["source", "many", "commands", "turn", "path"] fu b_law
section
variable {G : Gl} {H : AH} {Q : Value → AH → Prop} {C : Addr} {X : AH → Prop} {n : Nat}
theorem Fn.pool (F : Fn G) {ns : List Int} {t : Tok} (hi : IntsAre G.srcV ns) (hl : G.srcV.length < 2 ^ 62) (h : ∀ sa H', H.free sa → Src H' sa → AH.Le H H' → Q (.ref sa) H') : CallT G C (n + 1) (.ref 387) [.ref G.srcA, .int 0 t] H Q X := by
  refine jL F.law_pool rfl ?_
  simp only [mX, fu]
  refine jG ?_
  simp only [jV, jH, jB, jQ, uD, v_slen, v_sitem, List.map, La, Ln, Lz, Ls]
  have rest : ∀ (x : Int) (tx : Tok) (K : Fl → List (Option Value) → AH → Prop), (∀ sa a b ta tb ll, H.free sa → 0 ≤ b → b < 2147483647 → K (.ret (.ref sa)) ll (H.setM sa (.list [.int a ta, .int b tb]))) →
      vcB (vcS G C n X (.s (.s (.s (.s (.s (.s (.s (.s (.s (.s (.s (.s (.s (.s (.s (.s .z))))))))))))))))) [
 .asg 3 (.bcall .max [(.bcall .int [(.loc 2)]), (.bcall .int [(.bin .Sub (.neg (.cst (.int 1))) (.loc 2))])]),
 .asg 4 (.bin .Mod (.bcall .int [(.bin .Mult (.bin .Add (.bin .Add (.bin .Add (.bin .Mod (.bcall .int [(.loc 3)]) (.cst (.int 2147483629))) (.bin .Mult (.bin .Mult (.cst (.int 7919)) (.loc 1)) (.loc 1))) (.bin .Mult (.cst (.int 31)) (.loc 1))) (.cst (.int 17))) (.cst (.int 48271)))]) (.cst (.int 2147483647))),
 .ret (.lst [(.bin .Mult (.loc 3) (.bcall .int [(.cmp .GtE (.loc 3) (.bin .Pow (.cst (.int 10)) (.cst (.int 18))))])), (.loc 4)])] [some (.ref G.srcA), some (.int 0 t), some (.int x tx), none, none] H K := by
    intro x tx K hK
    refine jG ?_
    simp only [jV, jH, jB, zC, zB, v_neg, vL0, vL1, Lz, Ls, q_int, jJ, q_sub, q_max, Ts, Tz]
    intro t1 t2 t3 t4 t5 t6
    generalize (if -1 - x > x then -1 - x else x) = big
    refine jG ?_
    simp only [jV, jH, jB, zC, zB, vL0, vL1, Lz, Ls, q_int, jJ, q_mod, gI, wQ, Ts, Tz]
    refine fun t7 t8 => ⟨by decide, fun t9 t10 => ⟨IntMulOk.of_right (intBits_le_64 (by decide) (by decide)), fun t11 => ⟨IntMulOk.of_right (intBits_le_64 (by decide) (by decide)), fun t12 t13 t14 => ⟨IntMulOk.of_right (intBits_le_64 (by decide) (by decide)), fun t15 t16 t17 t18 t19 => ⟨IntMulOk.of_right (intBits_le_64 (by decide) (by decide)), fun t20 t21 t22 => ⟨by decide, fun t23 => ?_⟩⟩⟩⟩⟩⟩
    have hb := fmod_in (a := (big.fmod 2147483629 + 7919 * 0 * 0 + 31 * 0 + 17) * 48271) (b := 2147483647) (by decide)
    generalize ((big.fmod 2147483629 + 7919 * 0 * 0 + 31 * 0 + 17) * 48271).fmod 2147483647 = b2 at hb ⊢
    refine jG ?_
    simp only [zJ, jH, jB, zC, zB, jQ, pJ, vL0, vL1, Lz, Ls, q_intb, jJ, q_pow, q_ge, gI]
    refine fun t24 t25 => ⟨by decide, fun t26 t27 => ⟨IntMulOk.of_right (by split <;> exact intBits_le_64 (by decide) (by decide)), fun t28 => ⟨zN, fun sa hsa => ?_⟩⟩⟩
    exact hK sa _ b2 t28 t23 _ hsa hb.1 hb.2
  refine ⟨trivial, hl, fun t1 => ?_⟩
  simp only [q_lt, jI]
  refine ⟨fun e => ?_, fun e t2 => ?_⟩
  · have hpos : 0 < G.srcV.length := by have := of_decide_eq_true e; lia
    have hv : ∃ x tx, G.srcV[(0 : Int).toNat]? = some (.int x tx) := by
      have key : ∀ (vs : List Value) (ns : List Int), IntsAre vs ns → 0 < vs.length → ∃ x tx, vs[(0 : Int).toNat]? = some (.int x tx) := fun vs ns hi hp => by
        cases hi with
        | nil => simp at hp
        | cons x tx r => exact ⟨x, tx, rfl⟩
      exact key _ _ hi hpos
    obtain ⟨x, tx, hx⟩ := hv
    refine ⟨trivial, by decide, ?_⟩
    rw [hx]
    simp only [Ts, Tz]
    refine rest x tx _ fun sa a b ta tb ll hs hb0 hb1 => ?_
    exact h sa _ hs ⟨a, b, ta, tb, jP, hb0, hb1⟩ (yN hs)
  · simp only [jJ, Ts, Tz]
    refine rest 0 t2 _ fun sa a b ta tb ll hs hb0 hb1 => ?_
    exact h sa _ hs ⟨a, b, ta, tb, jP, hb0, hb1⟩ (yN hs)
end
theorem segs_up {H H' : AH} (h : ∀ a vs, H.I a = some vs → H'.I a = some vs) {vs : List Value} {cs : List Cmd} (x : Alls (SegV H) vs cs) : Alls (SegV H') vs cs := x.mono fun _ _ => SegV.up h
noncomputable def ReadC (G : Gl) (C : Addr) (n : Nat) : Prop := ∀ {H : AH} {Q : Value → AH → Prop} {X : AH → Prop} {l : List Nat} {t : Tok}, Al l → Lim l → l.length < 100000 →
  (∀ v H', AH.Le H H' → (match rd l with | some cs => ∃ f, v = .ref f ∧ Cms H' f cs | none => v = .none) → Q v H') → CallT G C n (.ref 436) [.str (S l) t] H Q X
noncomputable def SegC (G : Gl) (C : Addr) (n : Nat) : Prop := ∀ {H : AH} {Q : Value → AH → Prop} {X : AH → Prop} {v : Value} {c : Cmd}, CmdV H v c → GoodC c → c.c ∈ [77, 76, 81, 67, 65, 90] →
  (∀ w H', AH.Le H H' → SegV H' w c → Q w H') → CallT G C n (.ref 441) [v] H Q X
section
variable {G : Gl} {H : AH} {Q : Value → AH → Prop} {C : Addr} {X : AH → Prop} {n : Nat}
theorem map_all {R R' : AH → Value → Cmd → Prop} {call : Value → AH → (Value → AH → Prop) → Prop} (up' : ∀ (H H' : AH) (v : Value) (c : Cmd), (∀ a vs, H.I a = some vs → H'.I a = some vs) → R' H v c → R' H' v c) (upR : ∀ (H H' : AH) (v : Value) (c : Cmd), (∀ a vs, H.I a = some vs → H'.I a = some vs) → R H v c → R H' v c)
    {a D : Addr} (ne : a ≠ D) {vs0 : List Value} : ∀ (vs : List Value) (cs : List Cmd) (ys : List Value) (ds : List Cmd) (H : AH), Alls (R H) vs cs → (∀ c ∈ cs, ∀ v H K, R H v c → (∀ w H', AH.Le H H' → R' H' w c → K w H') → call v H K) →
    H.M a = some (.list vs0) → H.M D = some (.list ys) → Alls (R' H) ys ds → ys.length + vs.length < 100000 →
    (∀ H' ys', (∀ b ws, H.I b = some ws → H'.I b = some ws) → (∀ b mo, b ≠ D → H.M b = some mo → H'.M b = some mo) → H'.M D = some (.list ys') → Alls (R' H') ys' (ds ++ cs) → Q (.ref D) H') →
    mapVC call a D vs0 vs ys H Q
  | [], cs, ys, ds, H, hv, hc, ha, hD, hy, hl, h => by
    cases hv
    exact ⟨ha, hD, h H ys (fun _ _ e => e) (fun _ _ _ e => e) hD (by rw [List.append_nil]; exact hy)⟩
  | v :: vs, cs, ys, ds, H, hv, hc, ha, hD, hy, hl, h => by
    cases hv with
    | cons x r =>
      rename_i c cs'
      rw [List.length_cons] at hl
      refine ⟨ha, hc c (.head _) v H _ x fun w H' le hw => ⟨le.2 _ _ hD, by lia, ?_⟩⟩
      have upI : ∀ b ws, H.I b = some ws → (H'.setM D (.list (ys ++ [w]))).I b = some ws := fun b ws e => le.1 b ws e
      refine map_all up' upR ne vs cs' (ys ++ [w]) (ds ++ [c]) _ (r.mono fun v c q => upR _ _ v c upI q) (fun c hc' => hc c (.tail _ hc')) (by rw [jC ne]; exact le.2 _ _ ha) jP ((hy.mono fun v c q => up' _ _ v c upI q).snoc (up' H' _ w c (fun _ _ e => e) hw)) (by simp; lia) fun H'' ys' i1 i2 i3 i4 => ?_
      refine h H'' ys' (fun b ws e => i1 b ws (upI b ws e)) (fun b mo nb e => i2 b mo nb (by rw [jC nb]; exact le.2 b mo e)) i3 ?_
      rw [List.append_assoc] at i4
      exact i4
theorem Fn2.wseg (F : Fn2 G) {f : Addr} {vs : List Value} {cs : List Cmd} (hf : H.M f = some (.list vs)) (hv : Alls (SegV H) vs cs) (g : Goods cs) (hl : cs.length ≤ 100) (h : ∀ t H', AH.Le H H' → Q (.str (S (xD cs).text) t) H') : CallT G C (n + 6) (.ref 380) [.ref f] H Q X := by
  refine jL F.write_segments rfl ?_
  have hlen := hv.len
  simp only [xU, fu, vB0, vB1, zJ, zD, v_cmap, vL0, vL1, List.map, La, Ln, Lz]
  refine ⟨vs, hf, by lia, fun D hD => ?_⟩
  have ne : f ≠ D := fun e => by rw [e, hD.2] at hf; cases hf
  have le0 := yN (mo := .list []) hD
  refine map_all (R := SegV) (R' := CmdV) (fun _ _ _ _ i q => q.up i) (fun _ _ _ _ i q => q.up i) ne vs cs [] [] _ (segs_up le0.1 hv) (fun c hc v H K x hk => F.toFn.cof (n := n + 3) x (by have := (g c hc).many; have := kW c.c (g c hc).letter; lia) hk) (le0.2 _ _ hf) jP .nil (by simp; lia) fun H' ys' i1 i2 i3 i4 => ?_
  refine F.toFn.wpath ⟨ys', i3, i4⟩ g hl fun t H'' le => ?_
  simp only [yC]
  refine h t H'' ⟨fun b ws e => le.1 b ws (i1 b ws (le0.1 b ws e)), fun b mo e => ?_⟩
  have nb : b ≠ D := fun q => by rw [q, hD.2] at e; cases e
  exact le.2 b mo (i2 b mo nb (le0.2 b mo e))
structure TextOk (cs : List Cmd) : Prop where
  al : Al (xD cs).text
  lim : Lim (xD cs).text
  reads : rd (xD cs).text = some cs
  without : ∀ k, (xD cs).text[k]? = some 32 → Al ((xD cs).text.take k ++ (xD cs).text.drop (k + 1)) ∧ Lim ((xD cs).text.take k ++ (xD cs).text.drop (k + 1)) ∧ rd ((xD cs).text.take k ++ (xD cs).text.drop (k + 1)) ≠ some cs
theorem q_ner {v : Value} {a : Addr} : yR .NotEq v (.ref a) H Q = ∃ d d', VD H v d ∧ VD H (.ref a) d' ∧ PySem.SeqAt.shaped d = true ∧ PySem.SeqAt.shaped d' = true ∧ Q (.bool (!PyData.eqv d d')) H := by cases v <;> rfl
theorem nats_d {H : AH} {vs : List Value} {ns : List Nat} : NatsV vs ns → VDs H vs (ns.map fun n => PyData.int (n : Nat))
  | .nil => .nil
  | .cons h => .cons .int (nats_d h)
theorem nats_shaped (ns : List Nat) : SeqAt.shaped (.list (ns.map fun n => PyData.int (n : Nat))) = true := by
  have e : (ns.map fun n => PyData.int (n : Nat)) = (ns.map fun n : Nat => (n : Int)).map PyData.int := by simp
  rw [e]
  exact ke_shaped_ints _
theorem nats_empty (ns : List Nat) : PyData.eqv (.list (ns.map fun n => PyData.int (n : Nat))) (.list []) = decide (ns = []) := by
  cases ns <;> simp [PyData.eqv, PyData.eqvAll]
theorem nats_mem {v : Value} : ∀ {vs : List Value} {ns : List Nat}, NatsV vs ns → v ∈ vs → ∃ n t, v = .int (n : Nat) t ∧ n ∈ ns
  | _, _, .nil, h => by cases h
  | _, _, .cons (n := n) (t := t) r, h => by
    rcases List.mem_cons.mp h with e | e
    · exact ⟨n, t, e, .head _⟩
    · obtain ⟨m, u, e1, e2⟩ := nats_mem r e
      exact ⟨m, u, e1, .tail _ e2⟩
theorem blank_at {l : List Nat} {k : Nat} (h : k ∈ blanks (S l) (S l).cps.size) : l[k]? = some 32 := by
  unfold blanks at h
  have := (List.mem_filter.mp h).2
  simpa using of_decide_eq_true this
theorem al_ascii {l : List Nat} (h : Al l) : (S l).cps.all (· < 128) = true := by
  have key : ∀ c ∈ AL, decide (c < 128) = true := by decide
  rw [Array.all_eq_true']
  intro c hc
  exact key c (h c (by simpa using hc))
end
section
variable {G : Gl} {H : AH} {Q : Value → AH → Prop} {C : Addr} {X : AH → Prop} {n : Nat}
theorem strs3_shaped (a b c : List Nat) (ha : PyData.strOk (S a) = true) (hb : PyData.strOk (S b) = true) (hc : PyData.strOk (S c) = true) : SeqAt.shaped (.tuple [.str (S a), .str (S b), .str (S c)]) = true := by
  simp [SeqAt.shaped, PyData.canLay0, PyData.canLayAll0, PyData.depth, PyData.depthAll, ha, hb, hc]
theorem strs3_eqv (a b c : List Nat) : PyData.eqv (.tuple [.str (S a), .str (S b), .str (S c)]) (.tuple [.str (S a), .str (S b), .str (S c)]) = true := by
  simp [PyData.eqv, PyData.eqvAll]
theorem strOk_of {l : List Nat} (h : ∀ c ∈ l, c < 1000) : PyData.strOk (S l) = true := by
  unfold PyData.strOk
  rw [Array.all_eq_true']
  intro c hc
  have := h c (by simpa using hc)
  simp only [decide_eq_true_eq]
  lia
structure Small (s : St) : Prop where
  text : ∀ c ∈ s.text, c < 1000
  letter : ∀ c ∈ s.letter, c < 1000
  last : ∀ c ∈ s.last, c < 1000
theorem told_small {p : Int} {q : Nat} (ht : (p, q) ∈ tab) : ∀ c ∈ told p q, c < 1000 := by
  have ra := fT _ ht
  simp only at ra
  have key : ∀ c ∈ DG, c < 1000 := by decide
  intro c hc
  unfold told Dec.text Dec.tail at hc
  rcases List.mem_append.mp hc with hc | hc
  · rcases List.mem_append.mp hc with hc | hc
    · split at hc
      · rw [List.mem_singleton.mp hc]; decide
      · cases hc
    · exact key c (ra.ok1 c hc)
  · cases hp : (tz p q).parts with
    | none => rw [hp] at hc; cases hc
    | some y =>
      rw [hp] at hc
      rcases List.mem_cons.mp hc with e | e
      · rw [e]; decide
      · exact key c (ra.ok2 c (by rw [hp]; exact e))
theorem small_arg {s : St} {a : Arg} {f : Bool} (h : Small s) (ok : vC f a) : Small (yI s a) := by
  cases a with
  | num p q =>
    have ht := told_small ok.2
    refine ⟨fun c hc => ?_, h.letter, ht⟩
    simp only [yI, nG] at hc
    rcases List.mem_append.mp hc with hc | hc
    · rcases List.mem_append.mp hc with hc | hc
      · exact h.text c hc
      · split at hc
        · rw [List.mem_singleton.mp hc]; decide
        · cases hc
    · exact ht c hc
  | flag k =>
    have hk := ok.2
    refine ⟨fun c hc => ?_, h.letter, fun c hc => by cases hc⟩
    simp only [yI, stFlag] at hc
    rcases List.mem_append.mp hc with hc | hc
    · rcases List.mem_append.mp hc with hc | hc
      · exact h.text c hc
      · split at hc
        · cases hc
        · rw [List.mem_singleton.mp hc]; decide
    · rw [List.mem_singleton.mp hc]; lia
theorem small_letter {s : St} {c : Nat} (h : Small s) (hc : c ∈ LT) : Small (jR s c) := by
  have key : ∀ c ∈ LT, c < 1000 ∧ behind c < 1000 := by decide
  refine ⟨fun d hd => ?_, fun d hd => ?_, fun d hd => ?_⟩
  · simp only [jR] at hd
    split at hd
    · rcases List.mem_append.mp hd with e | e
      · exact h.text d e
      · rw [List.mem_singleton.mp e]; exact (key c hc).1
    · exact h.text d hd
  · simp only [jR] at hd
    split at hd
    · cases hd
    · rw [List.mem_singleton.mp hd]; exact (key c hc).2
  · simp only [jR] at hd
    split at hd
    · cases hd
    · exact h.last d hd
theorem small_args {arc : Bool} : ∀ {as : List Arg} {s : St} {p : Nat}, Small s → xP arc p as → Small (as.foldl yI s)
  | [], s, p, h, _ => h
  | a :: as, s, p, h, g => small_args (as := as) (small_arg h g.1) g.2
theorem small_all : ∀ {cs : List Cmd} {s : St}, Small s → Goods cs → Small (cs.foldl qN s)
  | [], s, h, _ => h
  | c :: cs, s, h, g => small_all (cs := cs) (small_args (small_letter h (g c (.head _)).letter) (g c (.head _)).args) fun x hx => g x (.tail _ hx)
theorem small0 : Small st0 := ⟨fun c h => (by cases h), fun c h => (by cases h), fun c h => (by cases h)⟩
theorem Fn2.right (F : Fn2 G) (R : ReadC G C (n + 20)) {sa f : Addr} {cs : List Cmd} (hs : Src H sa) (hf : Cms H f cs) (nsf : f ≠ sa) (g : Goods cs) (hl : cs.length ≤ 100) (T : TextOk cs) (h : ∀ H', LeX sa H H' → Src H' sa → Q (.bool true) H') : CallT G C (n + 21) (.ref 446) [.ref sa, .ref f] H Q X := by
  refine jL F.law_written_right rfl ?_
  have sm := small_all small0 g
  have hT := all_text (s := st0) g
  have e00 : st0.text.length = 0 := rfl
  have hsz : (100000 : Nat) ≤ sizeLine := by rw [sizeLine_eq]; lia
  simp only [kM, fu]
  refine jG ?_
  simp only [jV, vL0, v_new, List.map, La, Ln]
  intro x d hx hd ne
  obtain ⟨vs, hv, ha⟩ := hf
  have nfd : f ≠ d := fun e => by rw [e, hd.2] at hv; cases hv
  have nfx : f ≠ x := fun e => by rw [e, hx.2] at hv; cases hv
  have nsd := hs.ne hd
  have nsx := hs.ne hx
  refine c_pw_init (n := n + 18) F.toFn jP (by rw [jC ne.symm]; exact jP) ne fun pl H1 leI leM W hpl => ⟨rfl, ?_⟩
  have nfp : f ≠ pl := fun e => by
    have := hpl.2
    rw [jC W.n1, jC W.n2, ← e, hv] at this
    cases this
  have hv1 : H1.M f = some (.list vs) := leM f _ nfd (by rw [jC nfx, jC nfd]; exact hv)
  have le01 : AH.Le H H1 := ⟨leI, fun a mo e => by
    have a1 : a ≠ d := fun q => by rw [q, hd.2] at e; cases e
    have a2 : a ≠ x := fun q => by rw [q, hx.2] at e; cases e
    exact leM a mo a1 (by rw [jC a2, jC a1]; exact e)⟩
  have freeP : H.M pl = none := by
    have := hpl.2
    rw [jC W.n1, jC W.n2] at this
    exact this
  have back : ∀ H', LeY d pl H1 H' → AH.Le H H' := fun H' le => ⟨fun a vs e => le.I a vs (le01.1 a vs e), fun a mo e => by
    have a1 : a ≠ d := fun q => by rw [q, hd.2] at e; cases e
    have a3 : a ≠ pl := fun q => by rw [q, freeP] at e; cases e
    exact le.M a mo a1 a3 (le01.2 a mo e)⟩
  simp only [Ts, Tz]
  refine jG ?_
  simp only [w_fors, jB, Lz, Ls]
  refine ⟨fun ⟨y, t, e⟩ => (by cases e), .inr ⟨vs, hv1, ?_⟩⟩
  refine mC F.toFn (d := d) (pl := pl) (P := fun ll => ∃ v5 v6, ll = [some (.ref sa), some (.ref f), some (.ref x), none, none, v5, v6, none, none]) (fun ll H a b K hP hc hm => ?_) rfl ⟨5, 6, rfl⟩ nfd nfp vs cs H1 st0 0 _ (qV leI ha) g hv1 W (by lia) (Nat.zero_le _) ⟨_, _, rfl⟩ fun ll H2 hP le2 W2 => ?_
  · obtain ⟨v2, v3, rfl⟩ := hP
    obtain ⟨fs, ei, hn⟩ := hm
    simp only [vE, vB0, vB1, qF, jB, zP, vL0, vL1, sA0, sA1, Ts, Tz, Lz, Ls, ei]
    exact ⟨hn "put" (by decide) (by decide) (by decide), hc _ ⟨_, _, rfl⟩⟩
  obtain ⟨v5, v6, rfl⟩ := hP
  have le02 := back H2 le2
  have hf2 : Cms H2 f cs := Cms.le (H := H) ⟨vs, hv, ha⟩ le02
  show vcB _ _ _ _ _
  refine jG ?_
  simp only [w_asgT, jB, zD, vL0, vL1, Lz, Ls]
  refine F.toFn.text (n := n + 18) hf2 g hl fun r t1 t2 t3 H3 le3 e3 => ?_
  simp only [wO, e3, List.length_cons, List.length_nil, sA0, sA1, Ts, Tz, true_and]
  have W3 := W2.le le3
  generalize hst : xD cs = s at *
  have W3' : Wt H3 x d pl s (0 + 15 * cs.length) := by rw [← hst]; exact W3
  have sm' : Small s := by rw [← hst]; exact sm
  have hT' : s.text.length ≤ 6000 := by
    rw [← hst]
    show (cs.foldl qN st0).text.length ≤ 6000
    lia
  refine jG ?_
  simp only [zT, jH, jB, zX, zD, yS, v_or, jQ, yP, vL0, vL1, vA0, vA1, Lz, Ls, jM, s_n]
  refine fun t4 => ⟨trivial, W3'.getParts (W3'.join (by lia) fun t5 => W3'.getLetter fun t6 => W3'.getLast fun t7 => ⟨by rw [sizeLine_eq]; simp, fun a1 ha1 => ⟨by rw [sizeLine_eq]; simp, fun a2 ha2 => ?_⟩⟩)⟩
  have le4 := jD (vs := [.str (S s.text) t5, .str (S s.letter) t6, .str (S s.last) t7]) ha1
  have le5 := jD (vs := [.str (S s.text) t1, .str (S s.letter) t2, .str (S s.last) t3]) ha2
  rw [q_ner]
  have sh := strs3_shaped s.text s.letter s.last (strOk_of sm'.text) (strOk_of sm'.letter) (strOk_of sm'.last)
  refine ⟨_, _, .tup (le5.1 _ _ jS) (.cons .str (.cons .str (.cons .str .nil))), .tup jS (.cons .str (.cons .str (.cons .str .nil))), sh, sh, ?_⟩
  rw [strs3_eqv]
  simp only [jI]
  refine ⟨fun _ => ?_, fun e => absurd e (by decide)⟩
  have le6 := le02.trans (le3.trans (le4.trans le5))
  have hf6 : Cms ((H3.setI a1 [.str (S s.text) t5, .str (S s.letter) t6, .str (S s.last) t7]).setI a2 [.str (S s.text) t1, .str (S s.letter) t2, .str (S s.last) t3]) f cs := (hf2.le le3).le (le4.trans le5)
  have hs6 : Src ((H3.setI a1 [.str (S s.text) t5, .str (S s.letter) t6, .str (S s.last) t7]).setI a2 [.str (S s.text) t1, .str (S s.letter) t2, .str (S s.last) t3]) sa := hs.le le6
  generalize ((H3.setI a1 [.str (S s.text) t5, .str (S s.letter) t6, .str (S s.last) t7]).setI a2 [.str (S s.text) t1, .str (S s.letter) t2, .str (S s.last) t3]) = H6 at le6 hf6 hs6 ⊢
  have Tal := T.al
  have Tlim := T.lim
  have Trd := T.reads
  have Two := T.without
  rw [hst] at Tal Tlim Trd Two
  refine R Tal Tlim (by lia) fun v H7 le7 hv7 => ?_
  rw [Trd] at hv7
  obtain ⟨f7, ev7, hc7⟩ := hv7
  subst ev7
  have hf7 := hf6.le le7
  have hsh := gU g.lets
  rw [q_ner]
  refine ⟨_, _, hc7.d, hf7.d, hsh, hsh, ?_⟩
  have eself : PyData.eqv (.list (cs.map Cmd.d)) (.list (cs.map Cmd.d)) = true := by
    have := rE cs cs
    simpa [PyData.eqv] using this
  rw [eself]
  simp only [jI]
  refine ⟨fun e => absurd e (by decide), fun _ => ?_⟩
  rw [vB0]
  show vcB _ _ _ _ _
  refine jG ?_
  simp only [w_asgC, Lz, Ls]
  refine ⟨⟨by rw [yA]; lia, al_ascii Tal⟩, fun D ys hD hys => ?_⟩
  simp only [Ts, Tz]
  have le8 := yN (mo := .list ys) hD
  have hs8 := (hs6.le le7).le le8
  have hf8 := hf7.le le8
  have nD : D ≠ sa := ((hs6.le le7).ne hD).symm
  have nfD : f ≠ D := fun e => by
    obtain ⟨ws, q, _⟩ := hf7
    rw [e, hD.2] at q; cases q
  have hD8 : (H7.setM D (.list ys)).M D = some (.list ys) := jP
  have le08 := le6.trans (le7.trans le8)
  generalize (H7.setM D (.list ys)) = H8 at le8 hs8 hf8 hD8 le08 ⊢
  show vcB _ _ _ _ _
  refine jG ?_
  simp only [zT, jB, jQ, pJ, vL0, Lz, Ls]
  refine ⟨Nat.zero_le _, fun a3 ha3 => ?_⟩
  have le9 := yN (mo := .list []) ha3
  rw [q_eqr]
  refine ⟨_, .list [], .lst (le9.2 _ _ hD8) (nats_d hys), .lst jP .nil, nats_shaped _, rfl, ?_⟩
  rw [nats_empty]
  simp only [jI]
  have hs9 := hs8.le le9
  have hf9 := hf8.le le9
  have hD9 := le9.2 _ _ hD8
  have le09 := le08.trans le9
  generalize (H8.setM a3 (.list [])) = H9 at le9 hs9 hf9 hD9 le09 ⊢
  refine ⟨fun _ => ?_, fun e => ?_⟩
  · simp only [vB0, vB1, jV, zJ, jH, jB, zD, jQ, q_cbool, yC]
    exact h H9 (LeX.of_le le09) hs9
  · have hne : blanks (S s.text) (S s.text).cps.size ≠ [] := of_decide_eq_false e
    have hyl := hys.len
    have hyl2 : ys.length ≤ s.text.length := Nat.le_trans (Nat.le_of_eq hys.len) (Nat.le_trans (blanks_len _ _) (Nat.le_of_eq (by simp)))
    rw [vB0]
    show vcB _ _ _ _ _
    refine jG ?_
    simp only [jV, jB, zD, vL0, vL1, Lz, Ls]
    refine F.toFn.one (n := n + 18) hs9 hD9 nD (fun q => hne (by rw [q] at hyl; exact List.eq_nil_of_length_eq_zero hyl.symm)) (by lia) fun v H10 hm le10 s10 => ?_
    obtain ⟨k, tk, ev, hk⟩ := nats_mem hys hm
    subst ev
    have hb := blank_at hk
    have hlt : k < s.text.length := by
      by_cases q : k < s.text.length
      · exact q
      · rw [List.getElem?_eq_none (by lia)] at hb; cases hb
    have hf10 : Cms H10 f cs := hf9.up le10 nsf
    simp only [Ts, Tz]
    refine jG ?_
    simp only [zJ, jH, jB, zD, zB, jQ, gE, vL0, vL1, Lz, Ls, xF, jJ, q_slct, wQ, q_slcf, nR, yA]
    have ek : ((k : Int) + 1) = ((k + 1 : Nat) : Int) := by lia
    rw [ek, S_to, S_from (by lia)]
    simp only [wT, yA]
    obtain ⟨w1, w2, w3⟩ := Two k hb
    refine ⟨by lia, fun t8 t9 t10 => ⟨by lia, fun t11 => ⟨by rw [List.length_take, List.length_drop]; lia, fun t12 => ?_⟩⟩⟩
    refine R w1 w2 (by rw [List.length_append, List.length_take, List.length_drop]; lia) fun v H11 le11 hv11 => ?_
    have hf11 := hf10.le le11
    have fin : LeX sa H H11 := (LeX.of_le le09).trans (le10.trans (LeX.of_le le11))
    rw [q_ner]
    cases hr : rd (s.text.take k ++ s.text.drop (k + 1)) with
    | none =>
      rw [hr] at hv11
      rw [hv11]
      refine ⟨_, _, .none, hf11.d, rfl, hsh, ?_⟩
      simp only [yC]
      exact h H11 fin (s10.le le11)
    | some cs' =>
      rw [hr] at hv11 w3
      obtain ⟨f', ev', hc'⟩ := hv11
      subst ev'
      refine ⟨_, _, hc'.d, hf11.d, gU (rd_lets hr), hsh, ?_⟩
      have ene : PyData.eqv (.list (cs'.map Cmd.d)) (.list (cs.map Cmd.d)) = false := by
        have := rE cs' cs
        have e2 : PyData.eqv (.list (cs'.map Cmd.d)) (.list (cs.map Cmd.d)) = decide (cs' = cs) := by simpa [PyData.eqv] using this
        rw [e2]
        exact decide_eq_false fun q => w3 (by rw [q])
      rw [ene]
      simp only [yC]
      exact h H11 fin (s10.le le11)
end
section
variable {G : Gl} {H : AH} {Q : Value → AH → Prop} {C : Addr} {X : AH → Prop} {n : Nat}
theorem vcL_lets {k : Fu} {ll : List (Option Value)} : ∀ {ls : List Nat} {Q : List Value → AH → Prop}, (∀ vs, Alls (fun v c => ∃ t, v = .str (S [c]) t) vs ls → Q vs H) → vcL (vcE G C n X ll (.s k)) (ls.map fun c => RE.cst (.str (S [c]))) H Q
  | [], Q, h => h [] .nil
  | c :: ls, Q, h => by
    rw [List.map_cons, vL1, jH]
    intro t
    exact vcL_lets fun vs hv => h _ (.cons ⟨t, rfl⟩ hv)
theorem lets_in {vs : List Value} {ls : List Nat} (h : Alls (fun v c => ∃ t, v = .str (S [c]) t) vs ls) : ∀ v ∈ vs, LetV ls v := by
  induction h with
  | nil => intro v hv; cases hv
  | cons x r ih =>
    intro v hv
    rcases List.mem_cons.mp hv with e | e
    · obtain ⟨t, q⟩ := x
      exact ⟨_, t, by rw [e, q], .head _⟩
    · obtain ⟨c, t, q, hc⟩ := ih v e
      exact ⟨c, t, q, .tail _ hc⟩
theorem draw_cmd (F : Fn2 G) {k : Fu} {sa f : Addr} {ls : List Nat} {cl : List RE} {ll : List (Option Value)} {j : Nat} {cs : List Cmd} (hcl : cl = ls.map fun c => RE.cst (.str (S [c]))) (hls : ∀ c ∈ ls, c ∈ LT) (hne : ls ≠ []) (hlen : ls.length ≤ 100) (h1 : ll[1]? = some (some (.ref sa))) (hj : ll[j]? = some (some (.ref f)))
    (hs : Src H sa) (hf : Cms H f cs) (nf : sa ≠ f) (hc : cs.length < 1000) {Qf : Fl → List (Option Value) → AH → Prop} (h : ∀ c H', c.c ∈ ls → GoodC c → LeY sa f H H' → Src H' sa → Cms H' f (cs ++ [c]) → Qf .next ll H') :
    vcB (vcS G C (n + 4) X (.s (.s (.s (.s (.s k)))))) [.exp (.bmeth .append (.loc j) [(.call 415 [(.loc 1), (.lst cl)])])] ll H Qf := by
  obtain ⟨vs, hv, ha⟩ := hf
  have hvl := ha.len
  rw [vB1, qF, yS, jB]
  simp only [hj, vL0, vL1]
  refine ⟨by simp [bmOk, hv], ?_⟩
  rw [zD]
  simp only [vL0, vL1]
  rw [jB]
  simp only [h1]
  rw [pJ, hcl]
  refine vcL_lets fun us hus => ?_
  have hul := hus.len
  refine ⟨by rw [hul, sizeLine_eq]; lia, fun la hla => ?_⟩
  have nla := hs.ne hla
  have le0 := yN (mo := .list us) hla
  have hv1 : (H.setM la (.list us)).M f = some (.list vs) := le0.2 _ _ hv
  refine F.toFn.command_ (hs.le le0) jP nla.symm (fun q => hne (by rw [q] at hul; exact List.eq_nil_of_length_eq_zero hul.symm)) (by lia) (lets_in hus) hls fun c v H1 hcm g hcv le1 s1 => ?_
  have hv2 := le1.M _ _ nf.symm hv1
  simp only [fV, pA, m_up, fU, gK, hv2]
  refine ⟨by lia, ?_⟩
  show Qf .next ll _
  refine h c _ hcm g ((LeY.of_le le0).trans (le1.y.trans LeY.set)) (s1.setf nf) ?_
  exact Cms.push (H' := H1) (qV le1.I (qV le0.1 ha)) hcv
theorem loop_cmds (F : Fn2 G) {k : Fu} {sa f : Addr} {ls : List Nat} {cl : List RE} {j : Nat} (hcl : cl = ls.map fun c => RE.cst (.str (S [c]))) (hls : ∀ c ∈ ls, c ∈ LT) (hne : ls ≠ []) (hlen : ls.length ≤ 100) (nf : sa ≠ f) (hj4 : j ≠ 4) {bo : List RS} (hbo : bo = [.exp (.bmeth .append (.loc j) [(.call 415 [(.loc 1), (.lst cl)])])]) {Qf : Fl → List (Option Value) → AH → Prop} : ∀ (m p : Nat) (H : AH) (cs : List Cmd) (ll : List (Option Value)),
    ll[1]? = some (some (.ref sa)) → ll[j]? = some (some (.ref f)) → Src H sa → Cms H f cs → cs.length + m < 1000 →
    (∀ ds H' v4, (∀ c ∈ ds, c.c ∈ ls ∧ GoodC c) → ds.length = m → LeY sa f H H' → Src H' sa → Cms H' f (cs ++ ds) → Qf .next (ll.set 4 v4) H') →
    yJ [4] (vcB (vcS G C (n + 4) X (.s (.s (.s (.s (.s k))))))  bo) (fun _ => True) (pK m p) ll H Qf
  | 0, p, H, cs, ll, h1, hj, hs, hf, hl, h => by
    refine ⟨trivial, ?_⟩
    have q := h [] H (ll[4]?.join) (fun c hc => by cases hc) rfl (LeY.of_le (AH.Le.refl H)) hs (by rw [List.append_nil]; exact hf)
    have e : ll.set 4 (ll[4]?.join) = ll := by
      apply List.ext_getElem?
      intro i
      rw [List.getElem?_set]
      by_cases e : 4 = i
      · subst e
        by_cases hlt : 4 < ll.length
        · simp [hlt]
        · simp [List.getElem?_eq_none (Nat.le_of_not_lt hlt), hlt]
      · simp [e]
    rw [e] at q
    exact q
  | m + 1, p, H, cs, ll, h1, hj, hs, hf, hl, h => by
    rw [gX, vF1]
    refine ⟨trivial, fun tp => ?_⟩
    have ih := loop_cmds F (k := k) hcl hls hne hlen nf hj4 hbo (Qf := Qf) m (p + 1)
    generalize yJ [4] _ (fun _ => True) (pK m (p + 1)) = W at ih ⊢
    rw [hbo]
    have g1 : (ll.set 4 (some (Value.int (p : Nat) tp)))[1]? = some (some (.ref sa)) := by rw [List.getElem?_set_ne (by decide)]; exact h1
    have gj : (ll.set 4 (some (Value.int (p : Nat) tp)))[j]? = some (some (.ref f)) := by rw [List.getElem?_set_ne (Ne.symm hj4)]; exact hj
    refine draw_cmd F hcl hls hne hlen g1 gj hs hf nf (by lia) fun c H1 hc g le1 s1 f1 => ?_
    refine ih H1 (cs ++ [c]) _ g1 gj s1 f1 (by simp; lia) fun ds H2 v4 hds hdl le2 s2 f2 => ?_
    rw [List.set_set]
    refine h (c :: ds) H2 v4 (fun x hx => ?_) (by simp [hdl]) (le1.trans le2) s2 ?_
    · rcases List.mem_cons.mp hx with e | e
      · rw [e]; exact ⟨hc, g⟩
      · exact hds x e
    · rw [List.append_assoc] at f2
      exact f2
end
noncomputable abbrev LS1 : List Nat := [108, 97, 104, 122, 77, 99, 86, 115, 113, 84, 76, 109]
noncomputable abbrev LS2 : List Nat := [76, 65, 81, 90, 67, 77]
theorem ls1_lt : ∀ c ∈ LS1, c ∈ LT := by decide
theorem ls2_lt : ∀ c ∈ LS2, c ∈ LT := by decide
theorem ls2_seg : ∀ c ∈ LS2, c ∈ [77, 76, 81, 67, 65, 90] := by decide
theorem half_in : ((1 : Int), 2) ∈ tab ∧ ((1 : Int), 4) ∈ tab := by decide +kernel
section
variable {G : Gl} {H : AH} {Q : Value → AH → Prop} {C : Addr} {X : AH → Prop} {n : Nat}
theorem half_is (F : Fn G) {b : Nat} {t u : Tok} (hb : b = 2 ∨ b = 4) (h : ∀ v H', AH.Le H H' → ArgV H' v (.num 1 b) → Q v H') : CallT G C (n + 2) (.ref 80) [.int 1 t, .int (b : Nat) u] H Q X := by
  refine mS F.common_divisor F.fraction (by lia) (by lia) fun r t' u' H' le e => h _ H' le ⟨r, t', u', rfl, ?_⟩
  rw [e]
  rcases hb with q | q <;> rw [q] <;> rfl
theorem Fn2.thelaw (F : Fn2 G) {ns : List Int} (hi : IntsAre G.srcV ns) (hlen : G.srcV.length < 2 ^ 62) (R : ReadC G C (n + 20)) (Sg : SegC G C (n + 21)) (TX : ∀ cs as r, Goods cs → cs = ⟨109, as⟩ :: r → TextOk cs) (h : ∀ H', AH.Le H H' → Q (.bool true) H') :
    vcB (vcS G C (n + 21) X fu) b_law ([Value.ref G.srcA].map some ++ [("source" : Str), "many", "commands", "turn", "path"].map (fun _ => none)) H (fun fl _ H' => Q fl.val H') := by
  simp only [b_law, fu]
  refine jG ?_
  simp only [jV, vL0, vL1, jH, jB, zD, List.map, La, Ln, Lz, jJ]
  refine fun t0 => F.toFn.pool (n := n + 20) hi hlen fun sa H1 hfsa hs1 le1 => ?_
  simp only [Ts, Tz]
  show vcB _ _ _ _ _
  refine jG ?_
  simp only [jV, jH, jB, zD, zB, jQ, uD, qL, Lz, Ls, jJ]
  obtain ⟨a, b, ta, tb, hm1, b0, b1⟩ := id hs1
  refine fun t1 t2 => gO (m := 0) hm1 rfl rfl (by decide) fun t3 => ?_
  simp only [q_gt, jI]
  have rest : ∀ (d : Nat) (td tk : Tok) (H2 : AH) (Kf : Fl → List (Option Value) → AH → Prop), d < 4 → LeX sa H1 H2 → Src H2 sa → (∀ H' ll, AH.Le H H' → Kf (.ret (.bool true)) ll H') →
      vcB (vcS G C (n + 21) X (.s (.s (.s (.s (.s (.s (.s (.s (.s (.s (.s (.s (.s (.s (.s (.s .z))))))))))))))))) [
 .asg 3 (.lst [(.tup [(.cst (.str "m")), (.tup [(.call 80 [(.cst (.int 1)), (.cst (.int 2))]), (.call 80 [(.cst (.int 1)), (.cst (.int 4))])])])]),
 .for_ [4] (.range (.loc 2)) l1_law,
 .ite (.not (.call 446 [(.loc 1), (.loc 3)])) [
   .ret (.cst (.bool false))] [],
 .asg 5 (.lst [(.tup [(.cst (.str "M")), (.tup [(.call 408 [(.loc 1)]), (.call 408 [(.loc 1)])])])]),
 .for_ [4] (.range (.bcall .min [(.loc 2), (.cst (.int 3))])) l2_law,
 .ret (.cmp .Eq (.call 380 [(.cmap 441 5)]) (.sub (.call 429 [(.loc 5)]) (.cst (.int 0))))] [some (.ref G.srcA), some (.ref sa), some (.int (1 + d : Nat) td), none, none, none] H2 Kf := by
    intro d td tk H2 Kf hd le2 s2 hK
    have leH2 : AH.Le H H2 := ⟨fun a vs e => le2.I a vs (le1.1 a vs e), fun a mo e => by
      have ne : a ≠ sa := fun q => by rw [q, hfsa.2] at e; cases e
      exact le2.M a mo ne (le1.2 a mo e)⟩
    refine jG ?_
    simp only [jV, vL0, vL1, jH, zD, yP, pJ, jJ, jM, s109]
    refine fun t4 t5 t6 => half_is (n := n + 19) (b := 2) F.toFn (.inl rfl) fun v1 H3 le3 hv1 => ?_
    refine fun t7 t8 => half_is (n := n + 19) (b := 4) F.toFn (.inr rfl) fun v2 H4 le4 hv2 => ⟨zN, fun r1 hr1 => ⟨zN, fun r2 hr2 => ⟨by rw [sizeLine_eq]; simp, fun f hf => ?_⟩⟩⟩
    have le5 := jD (vs := [v1, v2]) hr1
    have le6 := jD (vs := [.str (S [109]) t4, .ref r1]) hr2
    have le7 := yN (mo := .list [.ref r2]) hf
    have s7 := (((((s2.le le3).le le4).le le5).le le6).le le7)
    have nsf : sa ≠ f := ((((s2.le le3).le le4).le le5).le le6).ne hf
    have leH7 := leH2.trans (le3.trans (le4.trans (le5.trans (le6.trans le7))))
    have hfH : H.free f := hf.le (leH2.trans (le3.trans (le4.trans (le5.trans le6))))
    have c0 : Cms ((((H4.setI r1 [v1, v2]).setI r2 [.str (S [109]) t4, .ref r1])).setM f (.list [.ref r2])) f [⟨109, [.num 1 2, .num 1 4]⟩] :=
      ⟨[.ref r2], jP, .cons ⟨r2, t4, r1, [v1, v2], rfl, jS, le6.1 _ _ jS, .cons ((hv1.up le4.1).up fun a vs e => le6.1 _ _ (le5.1 _ _ e)) (.cons (hv2.up fun a vs e => le6.1 _ _ (le5.1 _ _ e)) .nil)⟩ .nil⟩
    generalize ((((H4.setI r1 [v1, v2]).setI r2 [.str (S [109]) t4, .ref r1])).setM f (.list [.ref r2])) = H7 at leH7 s7 c0 le7 ⊢
    simp only [Ts, Tz]
    show vcB _ _ _ _ _
    refine jG ?_
    simp only [w_forr, jB, Lz, Ls]
    refine ⟨⟨by lia, by lia⟩, ?_⟩
    have e1 : ((1 + d : Nat) : Int).toNat = 1 + d := Int.toNat_natCast _
    rw [e1]
    refine loop_cmds (n := n + 17) F (ls := LS1) (j := 3) rfl ls1_lt (by decide) (by decide) nsf (by decide) rfl (1 + d) 0 H7 _ _ rfl rfl s7 c0 (by simp; lia) fun ds H8 v4 hds hdl le8 s8 c8 => ?_
    have g8 : Goods ([⟨109, [.num 1 2, .num 1 4]⟩] ++ ds) := fun c hc => by
      rcases List.mem_append.mp hc with e | e
      · rw [List.mem_singleton.mp e]
        exact ⟨by decide, rfl, ⟨rfl, half_in.1⟩, ⟨rfl, half_in.2⟩, trivial⟩
      · exact (hds c e).2
    have T8 : TextOk ([⟨109, [.num 1 2, .num 1 4]⟩] ++ ds) := TX _ _ _ g8 rfl
    have leH8 : AH.Le H H8 := ⟨fun a vs e => le8.I a vs (leH7.1 a vs e), fun a mo e => by
      have ne : a ≠ sa := fun q => by rw [q, hfsa.2] at e; cases e
      have ne2 : a ≠ f := fun q => by rw [q, hfH.2] at e; cases e
      exact le8.M a mo ne ne2 (leH7.2 a mo e)⟩
    simp only [Ts, Tz]
    show vcB _ _ _ _ _
    refine jG ?_
    simp only [zT, vL0, vL1, jB, zD, v_not, Lz, Ls]
    refine F.right R s8 c8 nsf.symm g8 (by simp [hdl]; lia) T8 fun H9 le9 s9 => ?_
    simp only [jI]
    refine ⟨fun e => absurd e (by decide), fun _ => ?_⟩
    have leH9 : AH.Le H H9 := ⟨fun a vs e => le9.I a vs (leH8.1 a vs e), fun a mo e => by
      have ne : a ≠ sa := fun q => by rw [q, hfsa.2] at e; cases e
      exact le9.M a mo ne (leH8.2 a mo e)⟩
    rw [vB0]
    show vcB _ _ _ _ _
    refine jG ?_
    simp only [jV, vL0, vL1, jH, jB, zD, yP, pJ, Lz, Ls, jM, s77]
    refine fun t9 => F.toFn.number_ (n := n + 18) s9 fun p1 q1 w1 H10 ht1 hw1 le10 s10 => F.toFn.number_ (n := n + 18) s10 fun p2 q2 w2 H11 ht2 hw2 le11 s11 => ⟨zN, fun r3 hr3 => ⟨zN, fun r4 hr4 => ⟨by rw [sizeLine_eq]; simp, fun f2 hf2 => ?_⟩⟩⟩
    have le12 := jD (vs := [w1, w2]) hr3
    have le13 := jD (vs := [.str (S [77]) t9, .ref r3]) hr4
    have le14 := yN (mo := .list [.ref r4]) hf2
    have s14 := ((s11.le le12).le le13).le le14
    have nsf2 : sa ≠ f2 := ((s11.le le12).le le13).ne hf2
    have leH11 : AH.Le H H11 := ⟨fun a vs e => le11.I a vs (le10.I a vs (leH9.1 a vs e)), fun a mo e => by
      have ne : a ≠ sa := fun q => by rw [q, hfsa.2] at e; cases e
      exact le11.M a mo ne (le10.M a mo ne (leH9.2 a mo e))⟩
    have leH14 := leH11.trans (le12.trans (le13.trans le14))
    have hf2H : H.free f2 := hf2.le (leH11.trans (le12.trans le13))
    have c14 : Cms ((((H11.setI r3 [w1, w2]).setI r4 [.str (S [77]) t9, .ref r3])).setM f2 (.list [.ref r4])) f2 [⟨77, [.num p1 q1, .num p2 q2]⟩] :=
      ⟨[.ref r4], jP, .cons ⟨r4, t9, r3, [w1, w2], rfl, jS, le13.1 _ _ jS, .cons ((hw1.up le11.I).up fun a vs e => le13.1 _ _ (le12.1 _ _ e)) (.cons (hw2.up fun a vs e => le13.1 _ _ (le12.1 _ _ e)) .nil)⟩ .nil⟩
    generalize ((((H11.setI r3 [w1, w2]).setI r4 [.str (S [77]) t9, .ref r3])).setM f2 (.list [.ref r4])) = H14 at leH14 s14 c14 le14 ⊢
    simp only [Ts, Tz]
    show vcB _ _ _ _ _
    refine jG ?_
    simp only [w_forr, jH, jB, zC, vL0, vL1, Lz, Ls, jJ, q_min]
    intro t10 t11
    have hmin : ∃ m : Nat, (if (3 : Int) < ((1 + d : Nat) : Int) then (3 : Int) else ((1 + d : Nat) : Int)) = (m : Int) ∧ m ≤ 3 := by
      split
      · exact ⟨3, rfl, by lia⟩
      · exact ⟨1 + d, rfl, by lia⟩
    obtain ⟨m, em', hm3⟩ := hmin
    rw [em']
    refine ⟨⟨by lia, by lia⟩, ?_⟩
    have e2 : ((m : Nat) : Int).toNat = m := by simp
    rw [e2]
    refine loop_cmds (n := n + 17) F (ls := LS2) (j := 5) rfl ls2_lt (by decide) (by decide) nsf2 (by decide) rfl m 0 H14 _ _ rfl rfl s14 c14 (by simp; lia) fun es H15 v4' hes hel le15 s15 c15 => ?_
    have g15 : Goods ([⟨77, [.num p1 q1, .num p2 q2]⟩] ++ es) := fun c hc => by
      rcases List.mem_append.mp hc with e | e
      · rw [List.mem_singleton.mp e]
        exact ⟨(by show 77 ∈ LT; decide), rfl, ⟨rfl, ht1⟩, ⟨rfl, ht2⟩, trivial⟩
      · exact (hes c e).2
    have l15 : ∀ c ∈ ([⟨77, [.num p1 q1, .num p2 q2]⟩] ++ es), c.c ∈ [77, 76, 81, 67, 65, 90] := fun c hc => by
      rcases List.mem_append.mp hc with e | e
      · rw [List.mem_singleton.mp e]; show 77 ∈ [77, 76, 81, 67, 65, 90]; decide
      · exact ls2_seg _ (hes c e).1
    have leH15 : AH.Le H H15 := ⟨fun a vs e => le15.I a vs (leH14.1 a vs e), fun a mo e => by
      have ne : a ≠ sa := fun q => by rw [q, hfsa.2] at e; cases e
      have ne2 : a ≠ f2 := fun q => by rw [q, hf2H.2] at e; cases e
      exact le15.M a mo ne ne2 (leH14.2 a mo e)⟩
    generalize hcs : ([⟨77, [.num p1 q1, .num p2 q2]⟩] ++ es : List Cmd) = cs at c15 g15 l15
    have hcl : cs.length ≤ 100 := by rw [← hcs]; simp [hel]; lia
    simp only [Ts, Tz]
    show vcB _ _ _ _ _
    refine jG ?_
    simp only [zJ, vL0, vL1, jH, jB, zD, jQ, qL, v_cmap, Lz, Ls]
    obtain ⟨vs, hv, hall⟩ := c15
    have hvl := hall.len
    refine ⟨vs, hv, by lia, fun D hD => ?_⟩
    have nD : f2 ≠ D := fun e => by rw [e, hD.2] at hv; cases hv
    have le16 := yN (mo := .list []) hD
    refine map_all (R := CmdV) (R' := SegV) (fun _ _ _ _ i q => q.up i) (fun _ _ _ _ i q => q.up i) nD vs cs [] [] _ (qV le16.1 hall) (fun c hc v H K x hk => Sg x (g15 c hc) (l15 c hc) hk) (le16.2 _ _ hv) jP .nil (by simp; lia) fun H17 ys i1 i2 i3 i4 => ?_
    have le17 : AH.Le H15 H17 := ⟨fun b ws e => i1 b ws (le16.1 b ws e), fun b mo e => by
      have nb : b ≠ D := fun q => by rw [q, hD.2] at e; cases e
      exact i2 b mo nb (le16.2 b mo e)⟩
    refine F.wseg (n := n + 15) i3 i4 g15 hcl fun t12 H18 le18 => ?_
    have c18 : Cms H18 f2 cs := Cms.le (H := H15) ⟨vs, hv, hall⟩ (le17.trans le18)
    refine F.toFn.text (n := n + 19) c18 g15 hcl fun r t13 t14 t15 H19 le19 e19 => ?_
    simp only [jJ]
    refine fun t16 => uR e19 ?_
    have e20 : (S (xD ([] ++ cs)).text == S (xD cs).text) = true := by rw [mZ]; simp
    simp only [uS]
    rw [e20]
    exact hK H19 _ (leH15.trans (le17.trans (le18.trans le19)))
  refine ⟨fun _ => ?_, fun _ => ?_⟩
  · simp only [vL0, vL1, jH, jB, Lz, Ls, jJ]
    refine fun t4 => F.toFn.take (n := n + 20) (top := 4) hs1 (by decide) (by decide) fun d t5 H2 hd le2 s2 => ?_
    simp only [wQ]
    intro t6
    have e : (1 : Int) + (d : Int) = ((1 + d : Nat) : Int) := by lia
    rw [e]
    simp only [Ts, Tz]
    refine rest d t6 t6 H2 _ hd le2 s2 fun H' ll le => ?_
    exact h H' le
  · simp only [wQ]
    intro t4 t5
    refine rest 0 t5 t5 H1 _ (by decide) (LeX.of_le (AH.Le.refl H1)) hs1 fun H' ll le => ?_
    exact h H' le
end
noncomputable def kK (last : List Nat) : Arg → List Nat
  | .num p q => (if kN last (told p q) then [32] else []) ++ told p q
  | .flag k => (if last = [] then [] else [32]) ++ [48 + k]
noncomputable def qH : Arg → List Nat
  | .num p q => told p q
  | .flag _ => []
noncomputable def zI (last : List Nat) : List Arg → List Nat
  | [] => []
  | a :: as => kK last a ++ zI (qH a) as
noncomputable def yM (last : List Nat) : List Arg → List Nat
  | [] => last
  | a :: as => yM (qH a) as
theorem args_write : ∀ (as : List Arg) (s : St), (as.foldl yI s).text = s.text ++ zI s.last as ∧ (as.foldl yI s).last = yM s.last as ∧ (as.foldl yI s).letter = s.letter
  | [], s => ⟨(List.append_nil _).symm, rfl, rfl⟩
  | a :: as, s => by
    have h := args_write as (yI s a)
    have e1 : (yI s a).text = s.text ++ kK s.last a := by cases a <;> simp [yI, nG, stFlag, kK, List.append_assoc]
    have e2 : (yI s a).last = qH a := by cases a <;> rfl
    have e3 : (yI s a).letter = s.letter := by cases a <;> rfl
    rw [e1, e2, e3] at h
    refine ⟨?_, h.2.1, h.2.2⟩
    rw [List.foldl_cons, h.1, List.append_assoc]
    rfl
noncomputable def fr (letter : List Nat) (c : Nat) : Bool := !decide ([c] = letter) || decide (c ∈ [90, 122])
noncomputable def yB (c : Nat) : List Nat := if c ∈ [90, 122] then [] else [behind c]
noncomputable def wS (letter last : List Nat) (c : Cmd) : List Nat := yM (if fr letter c.c then [] else last) c.args
noncomputable def uX (letter last : List Nat) (c : Cmd) : List Nat := (if fr letter c.c then [c.c] else []) ++ zI (if fr letter c.c then [] else last) c.args
noncomputable def jZ (letter last : List Nat) : List Cmd → List Nat
  | [] => []
  | c :: cs => uX letter last c ++ jZ (yB c.c) (wS letter last c) cs
theorem cmds_write : ∀ (cs : List Cmd) (s : St), (cs.foldl qN s).text = s.text ++ jZ s.letter s.last cs
  | [], s => (List.append_nil _).symm
  | c :: cs, s => by
    have h := cmds_write cs (qN s c)
    have a := args_write c.args (jR s c.c)
    have e1 : (qN s c).text = s.text ++ uX s.letter s.last c := by
      show (c.args.foldl yI (jR s c.c)).text = _
      rw [a.1]
      unfold uX
      have ef : xL s c.c = fr s.letter c.c := rfl
      simp only [jR, ef]
      split <;> simp
    have e2 : (qN s c).last = wS s.letter s.last c := a.2.1
    have e3 : (qN s c).letter = yB c.c := a.2.2
    rw [e1, e2, e3] at h
    rw [List.foldl_cons, h, List.append_assoc]
    rfl
theorem all_write (cs : List Cmd) : (xD cs).text = jZ [] [] cs := by
  have := cmds_write cs st0
  show (cs.foldl qN st0).text = _
  rw [this]
  rfl
noncomputable def Stp (last rest : List Nat) : Prop := ∀ c ∈ rest.head?, c ∉ DG ∧ (46 ∉ last → c ≠ 46)
theorem mem_tail {z : Dec} (h1 : ∀ c ∈ z.whole, c ∈ DG) : 46 ∈ z.text ↔ z.parts ≠ none := by
  unfold Dec.text Dec.tail
  have : (46 : Nat) ∉ z.whole := fun h => absurd (h1 46 h) (by decide)
  cases hp : z.parts with
  | none =>
    simp only [List.append_nil, List.mem_append]
    constructor
    · rintro (h | h)
      · split at h
        · simp at h
        · cases h
      · exact absurd h this
    · intro h; exact absurd rfl h
  | some p => simp
theorem rdNum_told {z : Dec} {rest : List Nat} (h1 : ∀ c ∈ z.whole, c ∈ DG) (h2 : ∀ c ∈ z.parts.getD [], c ∈ DG) (h3 : z.fig ≠ []) (st : Stp z.text rest) : vL (z.text ++ rest) = some (z, rest) := by
  obtain ⟨neg, whole, parts⟩ := z
  simp only at h1 h2
  have hs : jO ((⟨neg, whole, parts⟩ : Dec).text ++ rest) = (neg, whole ++ (⟨neg, whole, parts⟩ : Dec).tail ++ rest) := by
    cases neg with
    | true => simp [Dec.text, jO]
    | false =>
      have : ∃ c r, whole ++ (⟨false, whole, parts⟩ : Dec).tail ++ rest = c :: r ∧ c ≠ 45 := by
        cases whole with
        | cons c r => exact ⟨c, _, rfl, fun e => by have := h1 c (.head _); rw [e] at this; revert this; decide⟩
        | nil => cases parts with
          | none => exact absurd rfl h3
          | some p => exact ⟨46, _, rfl, by decide⟩
      obtain ⟨c, r, e, hc⟩ := this
      have e' : (⟨false, whole, parts⟩ : Dec).text ++ rest = c :: r := by rw [← e]; simp [Dec.text]
      rw [e', e]
      exact if_neg fun q => hc (Option.some.inj q)
  have hr : ∀ c ∈ rest.head?, c ∉ DG := fun c hc => (st c hc).1
  have tailstop : ∀ c ∈ ((⟨neg, whole, parts⟩ : Dec).tail ++ rest).head?, c ∉ DG := by
    cases parts with
    | none => simpa [Dec.tail] using hr
    | some p => intro c hc; simp [Dec.tail] at hc; subst hc; decide
  have r1 : run DG (whole ++ (⟨neg, whole, parts⟩ : Dec).tail ++ rest) = whole.length := by
    rw [List.append_assoc]
    exact nN h1 tailstop
  have hpart : kL ((⟨neg, whole, parts⟩ : Dec).tail ++ rest) = (parts, rest) := by
    cases parts with
    | none =>
      have hm : (46 : Nat) ∉ (⟨neg, whole, none⟩ : Dec).text := fun h => (mem_tail h1).mp h rfl
      simp only [Dec.tail, Ln]
      exact if_neg fun q => absurd rfl ((st 46 q).2 hm)
    | some p =>
      show ((some ((p ++ rest).take (run DG (p ++ rest))), (p ++ rest).drop (run DG (p ++ rest))) : Option (List Nat) × List Nat) = _
      have r2 : run DG (p ++ rest) = p.length := nN h2 hr
      rw [r2, List.take_left, List.drop_left]
  unfold vL
  simp only [hs, r1]
  have e1 : (whole ++ (⟨neg, whole, parts⟩ : Dec).tail ++ rest).take whole.length = whole := by rw [List.append_assoc, List.take_left]
  have e2 : (whole ++ (⟨neg, whole, parts⟩ : Dec).tail ++ rest).drop whole.length = (⟨neg, whole, parts⟩ : Dec).tail ++ rest := by rw [List.append_assoc, List.drop_left]
  rw [e1, e2, hpart]
  exact if_neg h3
noncomputable def core : Arg → List Nat
  | .num p q => told p q
  | .flag k => [48 + k]
theorem told_head {p : Int} {q : Nat} (ht : (p, q) ∈ tab) : ∃ c r, told p q = c :: r ∧ c ∈ [45, 46] ++ DG := by
  have ra := fT _ ht
  simp only at ra
  have hne := (vQ ht).1
  have h1 := ra.ok1
  unfold told Dec.text Dec.tail at hne ⊢
  cases hn : (tz p q).neg with
  | true => exact ⟨45, _, rfl, by decide⟩
  | false =>
    rw [hn] at hne
    cases hw : (tz p q).whole with
    | cons c r =>
      refine ⟨c, _, rfl, ?_⟩
      have := h1 c (by rw [hw]; exact .head _)
      exact List.mem_append_right _ this
    | nil =>
      rw [hw] at hne
      cases hp : (tz p q).parts with
      | none => rw [hp] at hne; exact absurd rfl hne
      | some y => exact ⟨46, _, rfl, by decide⟩
theorem core_head {a : Arg} {f : Bool} (ok : vC f a) : ∃ c r, core a = c :: r ∧ c ∈ [45, 46] ++ DG := by
  cases a with
  | num p q => exact told_head ok.2
  | flag k =>
    refine ⟨48 + k, [], rfl, ?_⟩
    have := ok.2
    have : k = 0 ∨ k = 1 := by lia
    rcases this with e | e <;> rw [e] <;> decide
theorem sp_cons {c : Nat} {r : List Nat} (h : c ∉ BL) : spS (c :: r) = c :: r := by
  simp [spS, run, h]
theorem sp_blank {c : Nat} {r : List Nat} (h : c ∉ BL) : spS (32 :: c :: r) = c :: r := by
  have : (32 : Nat) ∈ BL := by decide
  simp [spS, run, h, this]
theorem uN (last : List Nat) (a : Arg) : kK last a = core a ∨ kK last a = 32 :: core a := by
  cases a with
  | num p q =>
    show (if kN last (told p q) = true then [32] else []) ++ told p q = told p q ∨ (if kN last (told p q) = true then [32] else []) ++ told p q = 32 :: told p q
    split
    · exact .inr rfl
    · exact .inl rfl
  | flag k =>
    show (if last = [] then [] else [32]) ++ [48 + k] = [48 + k] ∨ (if last = [] then [] else [32]) ++ [48 + k] = 32 :: [48 + k]
    split
    · exact .inl rfl
    · exact .inr rfl
theorem sp_a {last : List Nat} {a : Arg} {f : Bool} (ok : vC f a) (R : List Nat) : spS (kK last a ++ R) = core a ++ R := by
  obtain ⟨c, r, e, hc⟩ := core_head ok
  have key : ∀ c ∈ [45, 46] ++ DG, c ∉ BL := by decide
  rcases uN last a with h | h <;> rw [h, e]
  · exact sp_cons (key c hc)
  · exact sp_blank (key c hc)
theorem stp_arg {last : List Nat} {a : Arg} {f : Bool} (ne : last ≠ []) (ok : vC f a) (R : List Nat) : Stp last (kK last a ++ R) := by
  intro c hc
  cases a with
  | flag k =>
    simp only [kK, if_neg ne] at hc
    have : c = 32 := by simpa using hc.symm
    subst this
    exact ⟨by decide, fun _ => by decide⟩
  | num p q =>
    obtain ⟨d, r, e, hd⟩ := told_head ok.2
    simp only [kK] at hc
    by_cases hw : kN last (told p q) = true
    · rw [if_pos hw] at hc
      have : c = 32 := by simpa using hc.symm
      subst this
      exact ⟨by decide, fun _ => by decide⟩
    · rw [if_neg hw, e] at hc
      have : c = d := by simpa using hc.symm
      subst this
      rw [e] at hw
      unfold kN at hw
      simp only [List.head?_cons, Option.some.injEq, ne, decide_false, Bool.false_or] at hw
      by_cases h45 : c = 45
      · subst h45
        exact ⟨by decide, fun _ => by decide⟩
      · by_cases h46 : c = 46
        · subst h46
          refine ⟨by decide, fun hm => ?_⟩
          simp [hm] at hw
        · simp [h45, h46] at hw
theorem rdFlag_core (k : Nat) (h : k ≤ 1) (R : List Nat) : wA ((48 + k) :: R) = some (k, R) := by
  have : k = 0 ∨ k = 1 := by lia
  rcases this with e | e <;> rw [e] <;> rfl
theorem read_a {a : Arg} {f : Bool} (ok : vC f a) {R : List Nat} (st : qH a ≠ [] → Stp (qH a) R) : vN f (core a ++ R) = some (a, R) := by
  cases a with
  | num p q =>
    have ra := fT _ ok.2
    simp only at ra
    have hne := (vQ ok.2).1
    unfold vN
    rw [ok.1, if_neg (by decide)]
    have := rdNum_told ra.ok1 ra.ok2 ra.ok3 (st hne)
    simp only [core, told] at this ⊢
    rw [this]
    simp only [Option.map_some, ra.val]
  | flag k =>
    unfold vN
    rw [ok.1, if_pos rfl]
    simp only [core, List.singleton_append]
    rw [rdFlag_core k ok.2]
    rfl
theorem read_args {arc : Bool} : ∀ (as : List Arg) (p : Nat) (last rest : List Nat), xP arc (p + 1) as → (as ≠ [] → yM last as ≠ [] → Stp (yM last as) rest) → qX arc as.length (p + 1) (zI last as ++ rest) = some (as, rest)
  | [], p, last, rest, g, st => rfl
  | a :: as, p, last, rest, g, st => by
    have e1 : zI last (a :: as) ++ rest = kK last a ++ (zI (qH a) as ++ rest) := by rw [zI, List.append_assoc]
    have hst : qH a ≠ [] → Stp (qH a) (zI (qH a) as ++ rest) := fun hne => by
      cases as with
      | nil => exact st (by simp) hne
      | cons b bs =>
        rw [zI, List.append_assoc]
        exact stp_arg hne g.2.1 _
    rw [List.length_cons, rdA1, if_neg (Nat.succ_ne_zero p), e1, sp_a g.1, read_a g.1 hst]
    have ih := read_args as (p + 1) (qH a) rest g.2 (fun hne hl => st (by simp) hl)
    simp only [ih]
theorem read_args0 {arc : Bool} {a : Arg} {as : List Arg} {last rest : List Nat} (g : xP arc 0 (a :: as)) (st : yM last (a :: as) ≠ [] → Stp (yM last (a :: as)) rest) : qX arc (as.length + 1) 0 (spS (zI last (a :: as) ++ rest)) = some (a :: as, rest) := by
  have e1 : zI last (a :: as) ++ rest = kK last a ++ (zI (qH a) as ++ rest) := by rw [zI, List.append_assoc]
  have hst : qH a ≠ [] → Stp (qH a) (zI (qH a) as ++ rest) := fun hne => by
    cases as with
    | nil => exact st hne
    | cons b bs =>
      rw [zI, List.append_assoc]
      exact stp_arg hne g.2.1 _
  rw [rdA1, if_pos rfl, e1, sp_a g.1, read_a g.1 hst]
  have ih := read_args as 0 (qH a) rest g.2 (fun hne hl => st hl)
  simp only [ih]
theorem lt_no : ∀ c ∈ LT, c ∉ BL ∧ c ∉ [43, 45, 46] ++ DG ∧ c ∉ DG ∧ c ≠ 46 := by decide
theorem xM : ∀ c ∈ LT, behind (behind c) = behind c ∧ (¬ (c = 90 ∨ c = 122) → ¬ (behind c = 90 ∨ behind c = 122) ∧ yB c = [behind c]) ∧ ((c = 90 ∨ c = 122) → yB c = [] ∧ zF c = 0) := by decide
theorem lArgs_snoc : ∀ (as : List Arg) (last : List Nat) (a : Arg), yM last (as ++ [a]) = qH a
  | [], last, a => rfl
  | b :: as, last, a => lArgs_snoc as (qH b) a
theorem gArgs_snoc {arc : Bool} : ∀ (as : List Arg) (p : Nat) (a : Arg), xP arc p (as ++ [a]) → vC (arc && (p + as.length == 3 || p + as.length == 4)) a
  | [], p, a, h => h.1
  | b :: as, p, a, h => by
    have q := gArgs_snoc as (p + 1) a h.2
    have e : p + 1 + as.length = p + (b :: as).length := by rw [List.length_cons]; lia
    rw [e] at q
    exact q
theorem uI {c : Cmd} (g : GoodC c) (hz : ¬ (c.c = 90 ∨ c.c = 122)) (last : List Nat) : c.args ≠ [] ∧ yM last c.args ≠ [] := by
  have hm := gV c.c g.letter hz
  have hl := g.many
  have hne : c.args ≠ [] := fun e => by rw [e] at hl; simp at hl; lia
  refine ⟨hne, ?_⟩
  rcases snoc_cases c.args with e | ⟨as, a, e⟩
  · exact absurd e hne
  have ga := g.args
  rw [e] at ga hl ⊢
  rw [lArgs_snoc]
  have ok := gArgs_snoc as 0 a ga
  have hf : (zL c.c && (0 + as.length == 3 || 0 + as.length == 4)) = false := by
    cases ha : zL c.c with
    | false => rfl
    | true =>
      have h7 := (arc_many c.c g.letter).mpr ha
      rw [List.length_append, List.length_singleton] at hl
      have : as.length = 6 := by lia
      rw [this]; rfl
  rw [hf] at ok
  cases a with
  | num p q => exact (vQ ok.2).1
  | flag k => exact absurd ok.1 (by decide)
theorem not_fr {letter : List Nat} {c : Nat} (h : ¬ fr letter c = true) : [c] = letter ∧ ¬ (c = 90 ∨ c = 122) := by
  unfold fr at h
  simp only [Bool.or_eq_true, not_or] at h
  refine ⟨?_, fun q => h.2 (decide_eq_true ?_)⟩
  · by_cases e : [c] = letter
    · exact e
    · exact absurd (by rw [decide_eq_false e]; rfl) h.1
  · rcases q with q | q <;> rw [q] <;> simp
theorem stp_cmds {letter last : List Nat} (ne : last ≠ []) : ∀ {cs : List Cmd}, Goods cs → Stp last (jZ letter last cs)
  | [], _ => fun c hc => by cases hc
  | c :: cs, g => by
    have gc := g c (.head _)
    by_cases hf : fr letter c.c = true
    · have e : jZ letter last (c :: cs) = c.c :: (zI [] c.args ++ jZ (yB c.c) (wS letter last c) cs) := by
        rw [jZ, uX, if_pos hf, if_pos hf]
        simp
      rw [e]
      intro d hd
      have : d = c.c := by simpa using hd.symm
      subst this
      have := lt_no c.c gc.letter
      exact ⟨this.2.2.1, fun _ => this.2.2.2⟩
    · obtain ⟨hc, hz⟩ := not_fr hf
      obtain ⟨hne, _⟩ := uI gc hz last
      obtain ⟨a, as, ea⟩ : ∃ a as, c.args = a :: as := by
        cases h : c.args with
        | nil => exact absurd h hne
        | cons a as => exact ⟨a, as, rfl⟩
      have ga := gc.args
      rw [ea] at ga
      rw [jZ, uX, if_neg hf, if_neg hf, Ln, ea, zI, List.append_assoc]
      exact stp_arg ne ga.1 _
theorem aText_pos {last : List Nat} {a : Arg} {f : Bool} (ok : vC f a) : 1 ≤ (kK last a).length := by
  obtain ⟨c, r, e, _⟩ := core_head ok
  rcases uN last a with h | h <;> rw [h, e] <;> simp
theorem cText_pos {letter last : List Nat} {c : Cmd} (g : GoodC c) : 1 ≤ (uX letter last c).length := by
  unfold uX
  by_cases hf : fr letter c.c = true
  · rw [if_pos hf, if_pos hf]; simp
  · obtain ⟨hc, hz⟩ := not_fr hf
    obtain ⟨hne, _⟩ := uI g hz last
    have ga := g.args
    rw [if_neg hf, if_neg hf]
    cases h : c.args with
    | nil => exact absurd h hne
    | cons a as =>
      rw [h] at ga
      have := aText_pos (last := last) ga.1
      simp [zI]
      lia
theorem rL : ∀ (cs : List Cmd) (letter last : List Nat), Goods cs → cs.length ≤ (jZ letter last cs).length
  | [], _, _, _ => Nat.zero_le _
  | c :: cs, letter, last, g => by
    have h1 := cText_pos (letter := letter) (last := last) (g c (.head _))
    have h2 := rL cs (yB c.c) (wS letter last c) fun x hx => g x (.tail _ hx)
    rw [jZ, List.length_append, List.length_cons]
    lia
theorem mJ {letter last : List Nat} {c : Cmd} {cs : List Cmd} (hf : fr letter c.c = true) : jZ letter last (c :: cs) = c.c :: (zI [] c.args ++ jZ (yB c.c) (yM [] c.args) cs) := by
  rw [jZ, uX, wS, if_pos hf, if_pos hf]
  simp
theorem rdLet_fresh {letter last : List Nat} {c : Cmd} {cs : List Cmd} (hf : fr letter c.c = true) (hc : c.c ∈ LT) : vM (jZ letter last (c :: cs)) = some (some (c.c, zI [] c.args ++ jZ (yB c.c) (yM [] c.args) cs)) := by
  rw [mJ hf, vM, sp_cons (lt_no c.c hc).1]
  exact if_pos hc
theorem sp_nil : spS [] = [] := rfl
theorem read_more : ∀ (cs : List Cmd) (b k : Nat) (last : List Nat), Goods cs → b ∈ LT → behind b = b → ¬ (b = 90 ∨ b = 122) → last ≠ [] → cs.length < k →
    ∃ rn rest last', cs = rn ++ rest ∧ uY k b (jZ [b] last cs) = some (rn, jZ [b] last' rest) ∧ (∀ c r, rest = c :: r → fr [b] c.c = true)
  | cs, b, 0, last, g, hb, hbb, hz, ne, hk => absurd hk (Nat.not_lt_zero _)
  | [], b, k + 1, last, g, hb, hbb, hz, ne, hk => ⟨[], [], last, rfl, by rw [jZ, rdM1, sp_nil]; rfl, fun c r e => by cases e⟩
  | c :: cs, b, k + 1, last, g, hb, hbb, hz, ne, hk => by
    have gc := g c (.head _)
    by_cases hf : fr [b] c.c = true
    · refine ⟨[], c :: cs, last, rfl, ?_, fun c' r e => by cases e; exact hf⟩
      have hl := lt_no c.c gc.letter
      rw [mJ hf, rdM1, sp_cons hl.1]
      have : ¬ uH (c.c :: (zI [] c.args ++ jZ (yB c.c) (yM [] c.args) cs)) = true := by
        simp only [uH]
        rw [decide_eq_false hl.2.1]
        decide
      rw [if_neg this]
    · obtain ⟨hc, hzc⟩ := not_fr hf
      have ecb : c.c = b := by simpa using hc
      obtain ⟨hne, hla⟩ := uI gc hzc last
      obtain ⟨a, as, ea⟩ : ∃ a as, c.args = a :: as := by
        cases h : c.args with
        | nil => exact absurd h hne
        | cons a as => exact ⟨a, as, rfl⟩
      have ga := gc.args
      have hmany := gc.many
      have gr : Goods cs := fun x hx => g x (.tail _ hx)
      have enl : yB c.c = [b] := by rw [((xM c.c gc.letter).2.1 hzc).2, ecb, hbb]
      have eT : jZ [b] last (c :: cs) = zI last (a :: as) ++ jZ [b] (yM last (a :: as)) cs := by
        rw [jZ, uX, wS, if_neg hf, if_neg hf, Ln, enl, ea]
      rw [ea] at ga hla hmany
      have hst := stp_cmds (letter := [b]) hla gr
      have hread := read_args0 (last := last) ga (fun _ => hst)
      have hlook : uH (spS (zI last (a :: as) ++ jZ [b] (yM last (a :: as)) cs)) = true := by
        rw [zI, List.append_assoc, sp_a ga.1]
        obtain ⟨d, r, e, hd⟩ := core_head ga.1
        rw [e]
        simp only [La, uH]
        refine decide_eq_true ?_
        have key : ∀ d ∈ [45, 46] ++ DG, d ∈ [43, 45, 46] ++ DG := by decide
        exact key d hd
      have eb : zL c.c = zL b := by rw [ecb]
      have em : as.length + 1 = zF b := by rw [← ecb, ← hmany]; rfl
      rw [eb, em] at hread
      obtain ⟨rn, rest, last', e1, e2, e3⟩ := read_more cs b k (yM last (a :: as)) gr hb hbb hz hla (by rw [List.length_cons] at hk; lia)
      refine ⟨c :: rn, rest, last', by rw [e1]; rfl, ?_, e3⟩
      rw [eT, rdM1, if_pos hlook, hread]
      simp only [e2]
      have : (⟨b, a :: as⟩ : Cmd) = c := by rw [← ecb, ← ea]
      rw [this]
theorem read_from : ∀ (n : Nat) (cs : List Cmd) (c : Cmd) (k : Nat) (first : Bool), cs.length ≤ n → Goods (c :: cs) → (first = true → c.c ∈ [77, 109]) → cs.length + 1 ≤ k →
    uZ k first c.c (zI [] c.args ++ jZ (yB c.c) (yM [] c.args) cs) = some (c :: cs)
  | n, cs, c, 0, first, hn, g, hf, hk => absurd hk (Nat.not_succ_le_zero _)
  | n, cs, c, k + 1, first, hn, g, hf, hk => by
    have gc := g c (.head _)
    have gr : Goods cs := fun x hx => g x (.tail _ hx)
    have hg : (first && !decide (c.c ∈ [77, 109])) = false := by
      cases first with
      | false => rfl
      | true => rw [decide_eq_true (hf rfl)]; rfl
    have ec : (⟨c.c, c.args⟩ : Cmd) = c := rfl
    have bf := xM c.c gc.letter
    have tail : ∀ (rn rest : List Cmd) (letter last : List Nat), cs = rn ++ rest → (∀ c' r, rest = c' :: r → fr letter c'.c = true) → xE c.c (zI [] c.args ++ jZ (yB c.c) (yM [] c.args) cs) = some (c :: rn, jZ letter last rest) →
        uZ (k + 1) first c.c (zI [] c.args ++ jZ (yB c.c) (yM [] c.args) cs) = some (c :: cs) := by
      intro rn rest letter last e hfr hr
      rw [rdF1, hg]
      simp only [Bool.false_eq_true, if_false]
      rw [hr]
      simp only
      cases rest with
      | nil =>
        rw [List.append_nil] at e
        rw [jZ, vM, sp_nil, e]
      | cons c' r =>
        have gr' : Goods (c' :: r) := fun x hx => gr x (by rw [e]; exact List.mem_append_right _ hx)
        have gc' := gr' c' (.head _)
        rw [rdLet_fresh (hfr c' r rfl) gc'.letter]
        simp only
        have hlen : cs.length = rn.length + (r.length + 1) := by rw [e, List.length_append, List.length_cons]
        cases n with
        | zero => lia
        | succ n =>
          rw [read_from n r c' k false (by lia) gr' (fun h => by cases h) (by lia)]
          simp only [e]
          rfl
    by_cases hz : c.c = 90 ∨ c.c = 122
    · have h0 := bf.2.2 hz
      have ha : c.args = [] := List.eq_nil_of_length_eq_zero (by rw [gc.many]; exact h0.2)
      refine tail [] cs [] [] rfl (fun c' r _ => by unfold fr; rw [decide_eq_false (by simp)]; rfl) ?_
      rw [ha, h0.1, xE, if_pos hz]
      simp only [zI, yM, Ln]
      rw [← ha]
    · have h1 := bf.2.1 hz
      obtain ⟨hne, hla⟩ := uI gc hz []
      obtain ⟨a, as, ea⟩ : ∃ a as, c.args = a :: as := by
        cases h : c.args with
        | nil => exact absurd h hne
        | cons a as => exact ⟨a, as, rfl⟩
      have ga := gc.args
      have hmany := gc.many
      rw [ea] at ga hla hmany
      have hst := stp_cmds (letter := yB c.c) hla gr
      have hread := read_args0 (last := []) ga (fun _ => hst)
      have em : as.length + 1 = zF c.c := by rw [← hmany]; rfl
      rw [em] at hread
      have hb := fH c.c gc.letter
      obtain ⟨rn, rest, last', e1, e2, e3⟩ := read_more cs (behind c.c) ((jZ [behind c.c] (yM [] (a :: as)) cs).length + 1) (yM [] (a :: as)) gr hb bf.1 h1.1 hla (by have := rL cs [behind c.c] (yM [] (a :: as)) gr; lia)
      refine tail rn rest [behind c.c] last' e1 e3 ?_
      rw [xE, if_neg hz, ea, hread]
      simp only
      rw [h1.2, e2]
      simp only
      rw [← ea]
theorem read_all {c : Cmd} {cs : List Cmd} (g : Goods (c :: cs)) (hm : c.c ∈ [77, 109]) : rd (jZ [] [] (c :: cs)) = some (c :: cs) := by
  have gc := g c (.head _)
  have hf : fr [] c.c = true := by unfold fr; rw [decide_eq_false (by simp)]; rfl
  rw [rd, rdLet_fresh hf gc.letter]
  simp only
  have hl := rL cs (yB c.c) (yM [] c.args) fun x hx => g x (.tail _ hx)
  exact read_from cs.length cs c _ true (Nat.le_refl _) g (fun _ => hm) (by rw [List.length_append]; lia)
structure RowE (p : Int) (q : Nat) : Prop where
  w2 : (tz p q).whole.length ≤ 2
  w1 : p.natAbs < 10 * q → (tz p q).whole.length ≤ 1
  w0 : p ≠ 0 → p.natAbs < q → (tz p q).whole = []
  z : p = 0 → (told p q).length = 1
  k : ∀ k < 3, k < ((tz p q).parts.getD []).length → (p.natAbs * 10 ^ k) % q ≠ 0
  k3 : ((tz p q).parts.getD []).length ≤ 3
  none : (tz p q).parts = none → q = 1
set_option maxRecDepth 100000 in
theorem rowsE : ∀ x ∈ tab, RowE x.1 x.2 := by
  have h : ∀ x ∈ tab, ((tz x.1 x.2).whole.length ≤ 2) ∧ (x.1.natAbs < 10 * x.2 → (tz x.1 x.2).whole.length ≤ 1) ∧ (x.1 ≠ 0 → x.1.natAbs < x.2 → (tz x.1 x.2).whole = []) ∧ (x.1 = 0 → (told x.1 x.2).length = 1) ∧
    (∀ k < 3, k < ((tz x.1 x.2).parts.getD []).length → (x.1.natAbs * 10 ^ k) % x.2 ≠ 0) ∧ (((tz x.1 x.2).parts.getD []).length ≤ 3) ∧ ((tz x.1 x.2).parts = none → x.2 = 1) := by decide +kernel
  intro x hx
  obtain ⟨a, b, c, d, e, f, g⟩ := h x hx
  exact ⟨a, b, c, d, e, f, g⟩
theorem num_app (x y : List Nat) : ∀ a, num a (x ++ y) = num (num a x) y := by
  induction x with
  | nil => intro a; rfl
  | cons c x ih => intro a; exact ih _
theorem nW (a c : Nat) (y : List Nat) : num a (c :: y) = num (a * 10 + (c - 48)) y := by
  have h : ∀ b, b = a * 10 + (c - 48) → num b y = num (a * 10 + (c - 48)) y := fun b e => by rw [e]
  refine h _ ?_
  with_reducible rfl
theorem nV : ∀ (y : List Nat) (a : Nat), num a y = a * 10 ^ y.length + num 0 y
  | [], a => by
    rw [List.length_nil, Nat.pow_zero, Nat.mul_one]
    rfl
  | c :: y, a => by
    rw [nW, nW, nV y (a * 10 + (c - 48)), nV y (0 * 10 + (c - 48)), List.length_cons, Nat.pow_succ]
    generalize 10 ^ y.length = P
    rw [Nat.zero_mul, Nat.zero_add, Nat.add_mul, Nat.mul_assoc a 10 P, Nat.mul_comm 10 P, Nat.add_assoc]
theorem frac_cross {a p : Int} {b q : Nat} (hb : 0 < b) (h : frac a b = (p, q)) : a.natAbs * q = p.natAbs * b ∧ (p < 0 → a < 0) ∧ (0 ≤ a → 0 ≤ p) ∧ (a < 0 → p < 0) ∧ 0 < q := by
  have hg : 0 < Nat.gcd a.natAbs b := Nat.gcd_pos_of_pos_right _ hb
  have hda : (Nat.gcd a.natAbs b : Int) ∣ a := Int.ofNat_dvd_left.mpr (Nat.gcd_dvd_left _ _)
  have hdb : Nat.gcd a.natAbs b ∣ b := Nat.gcd_dvd_right _ _
  obtain ⟨e1, e2⟩ := Prod.mk.inj h
  generalize Nat.gcd a.natAbs b = g at hg hda hdb e1 e2
  obtain ⟨m, hm⟩ := hda
  obtain ⟨n, hn⟩ := hdb
  have ep : p = m := by
    rw [← e1, hm, Int.mul_comm]
    rw [Int.fdiv_eq_ediv_of_nonneg _ (by lia), Int.mul_ediv_cancel _ (by lia)]
  have eq : q = n := by rw [← e2, hn, Nat.mul_div_cancel_left _ hg]
  have hn0 : 0 < n := by
    rcases Nat.eq_zero_or_pos n with z | z
    · rw [z, Nat.mul_zero] at hn; lia
    · exact z
  rw [ep, eq]
  refine ⟨?_, fun hp => ?_, fun ha => ?_, fun ha => ?_, hn0⟩
  · rw [hm, hn, Int.natAbs_mul, Int.natAbs_natCast, Nat.mul_comm g, Nat.mul_assoc]
  · rw [hm]; exact Int.mul_neg_of_pos_of_neg (by lia) hp
  · rcases Int.lt_or_le m 0 with q | q
    · have := Int.mul_neg_of_pos_of_neg (a := (g : Int)) (by lia) q
      lia
    · exact q
  · rcases Int.lt_or_le m 0 with q | q
    · exact q
    · have := Int.mul_nonneg (a := (g : Int)) (by lia) q
      lia
noncomputable def PDr : List Nat → Prop
  | [] => True
  | c :: r => (c = 46 → ∃ d r', r = d :: r' ∧ 49 ≤ d ∧ d ≤ 57) ∧ PDr r
theorem PDr.right : ∀ {a b : List Nat}, PDr (a ++ b) → PDr b
  | [], _, h => h
  | _ :: a, _, h => PDr.right (a := a) h.2
theorem PDr.at {a b : List Nat} (h : PDr (a ++ 46 :: b)) : ∃ d r', b = d :: r' ∧ 49 ≤ d ∧ d ≤ 57 := (PDr.right (a := a) h).1 rfl
structure Cost (z : Dec) (r : List Nat) (t : List Nat) : Prop where
  len : t.length ≤ z.text.length
  dot : z.parts ≠ none → 46 ∈ t
  neg : z.neg = true → t.head? ≠ some 45 → t.length + 1 ≤ z.text.length
  pos : z.neg = false → t.head? ≠ some 45
  point : z.neg = false → z.whole = [] → t.head? = some 46
  stop : ∀ c ∈ r.head?, c ∉ DG ∧ (z.parts = none → c ≠ 46)
theorem pF (sg : List Nat) : ∀ l : List Nat, ∀ c ∈ (l.drop (run sg l)).head?, c ∉ sg
  | [], c, h => by simp at h
  | d :: l, c, h => by
    by_cases hd : d ∈ sg
    · rw [run, if_pos hd, List.drop_succ_cons] at h
      exact pF sg l c h
    · rw [run, if_neg hd] at h
      have : c = d := by simpa using h.symm
      rw [this]; exact hd
theorem rdNum_stop {s r : List Nat} {z : Dec} (h : vL s = some (z, r)) : ∀ c ∈ r.head?, c ∉ DG ∧ (z.parts = none → c ≠ 46) := by
  simp only [vL] at h
  split at h
  · cases h
  · obtain ⟨hz, hr⟩ := Prod.mk.inj (Option.some.inj h)
    have hd := pF DG (jO s).2
    generalize (jO s).2.drop (run DG (jO s).2) = t at hz hr hd
    rw [← hz, ← hr]
    unfold kL
    split
    · intro c hc
      exact ⟨pF DG t.tail c hc, fun e => by cases e⟩
    · rename_i hno
      intro c hc
      refine ⟨hd c hc, fun _ e => hno ?_⟩
      rw [← e]; exact hc
theorem told_len (p : Int) (q : Nat) : (told p q).length = (if p < 0 then 1 else 0) + (tz p q).whole.length + (match (tz p q).parts with | some y => 1 + y.length | none => 0) := by
  have h : (tz p q).neg = decide (p < 0) := rfl
  show (tz p q).text.length = _
  generalize tz p q = z at h ⊢
  unfold Dec.text Dec.tail
  rw [h]
  by_cases hp : p < 0
  · cases z.parts <;> simp [hp] <;> lia
  · cases z.parts <;> simp [hp] <;> lia
theorem text_len (z : Dec) : z.text.length = (if z.neg then 1 else 0) + z.whole.length + (match z.parts with | some y => 1 + y.length | none => 0) := by
  unfold Dec.text Dec.tail
  cases z.neg <;> cases z.parts <;> simp <;> lia
theorem told_45 {p : Int} {q : Nat} (ht : (p, q) ∈ tab) : (told p q).head? = some 45 ↔ p < 0 := by
  have ra := fT _ ht
  simp only at ra
  have h : (tz p q).neg = decide (p < 0) := rfl
  have h1 := ra.ok1
  have h3 := ra.ok3
  show (tz p q).text.head? = some 45 ↔ p < 0
  unfold Dec.text Dec.tail
  rw [h]
  by_cases hp : p < 0
  · simp [hp]
  · simp only [hp, decide_false, Bool.false_eq_true, if_false, Ln, iff_false]
    cases hw : (tz p q).whole with
    | cons c r =>
      have := h1 c (by rw [hw]; exact .head _)
      intro e
      have : c = 45 := by simpa using e
      subst this
      revert this
      decide
    | nil =>
      cases hq : (tz p q).parts with
      | none => simp
      | some y => simp
theorem cost_of {s r : List Nat} {z : Dec} (h : vL s = some (z, r)) (hp : PDr s) (ht : z.val ∈ tab) : Cost z r (told z.val.1 z.val.2) := by
  obtain ⟨es, hw, hps, hfig, htx⟩ := pZ h
  have stop := rdNum_stop h
  have ra := fT _ ht
  have re := rowsE _ ht
  have hb : 0 < z.bot := Nat.pow_pos (by decide)
  obtain ⟨cross, sg1, sg2, sg3, q0⟩ := frac_cross hb (show frac z.top z.bot = (z.val.1, z.val.2) from rfl)
  have ht' : (z.val.1, z.val.2) ∈ tab := ht
  generalize z.val.1 = p at ra re cross sg1 sg2 sg3 ht' ⊢
  generalize z.val.2 = q at ra re cross q0 ht' ⊢
  have hn : z.top.natAbs = num 0 z.fig := by unfold Dec.top; split <;> simp
  rw [hn] at cross
  have parts : ∀ y, z.parts = some y → ∃ d y', y = d :: y' ∧ 49 ≤ d ∧ d ≤ 57 := fun y hy => by
    have e1 : s = ((if z.neg then [45] else []) ++ z.whole) ++ 46 :: (y ++ r) := by
      rw [es, Dec.text, Dec.tail, hy]; simp
    rw [e1] at hp
    obtain ⟨d, r', e2, d1, d2⟩ := hp.at
    cases y with
    | cons x y' =>
      have : x = d := by simpa using congrArg List.head? e2
      exact ⟨x, y', rfl, by lia, by lia⟩
    | nil =>
      have hd := (stop d (by rw [Ln] at e2; rw [e2]; rfl)).1
      have key : ∀ n, 49 ≤ n → n ≤ 57 → n ∈ DG := by
        intro n h1 h2
        have : n = 49 ∨ n = 50 ∨ n = 51 ∨ n = 52 ∨ n = 53 ∨ n = 54 ∨ n = 55 ∨ n = 56 ∨ n = 57 := by lia
        rcases this with e | e | e | e | e | e | e | e | e <;> rw [e] <;> decide
      exact absurd (key d d1 d2) hd
  have hfl : z.fig.length = z.whole.length + (z.parts.getD []).length := by simp [Dec.fig]
  have figs : ∀ c ∈ z.fig, c ∈ DG := fun c hc => by
    unfold Dec.fig at hc
    rcases List.mem_append.mp hc with e | e
    · exact hw c e
    · exact hps c e
  have nlt : num 0 z.fig < 10 ^ (z.whole.length + (z.parts.getD []).length) := by
    have := num_lt z.fig 0 figs
    rw [Nat.zero_add, Nat.one_mul, hfl] at this
    exact this
  have ebot : z.bot = 10 ^ (z.parts.getD []).length := rfl
  rw [ebot] at cross
  have kk : ((tz p q).parts.getD []).length ≤ (z.parts.getD []).length := by
    refine Nat.le_of_not_lt fun hlt => ?_
    have h3 := re.k3
    refine re.k _ (by lia) hlt ?_
    rw [← cross]
    exact Nat.mul_mod_left _ _
  have whole_no : z.parts ≠ none → q ≠ 1 := fun hne hq => by
    obtain ⟨y, hy⟩ : ∃ y, z.parts = some y := by
      cases hz : z.parts with
      | none => exact absurd hz hne
      | some y => exact ⟨y, rfl⟩
    obtain ⟨d, y', ey, d1, d2⟩ := parts y hy
    have e1 : z.fig = z.whole ++ y := by simp [Dec.fig, hy]
    have e2 : (z.parts.getD []).length = y.length := by simp [hy]
    rw [hq, Nat.mul_one, e2, e1, num_app, nV] at cross
    have ylt : num 0 y < 10 ^ y.length := by
      have := num_lt y 0 (fun c hc => hps c (by simp [hy]; exact hc))
      simpa using this
    have ypos : 0 < num 0 y := by
      rw [ey, nW, nV]
      have : 0 < (0 * 10 + (d - 48)) * 10 ^ y'.length := Nat.mul_pos (by lia) (Nat.pow_pos (by decide))
      lia
    have hm : (num 0 z.whole * 10 ^ y.length + num 0 y) % 10 ^ y.length = num 0 y := by
      rw [Nat.add_comm, Nat.add_mul_mod_self_right, Nat.mod_eq_of_lt ylt]
    rw [cross, Nat.mul_mod_left] at hm
    lia
  have tnone : (tz p q).parts = none → ((tz p q).parts.getD []).length = 0 := fun e => by simp [e]
  have tsome : ∀ y, (tz p q).parts = some y → 1 ≤ y.length := fun y hy => by
    have := ra.nz.2
    cases y with
    | nil => exact absurd hy this
    | cons a b => simp
  have hdot : z.parts ≠ none → (tz p q).parts ≠ none := fun hne e => whole_no hne (re.none e)
  have hpart : (match (tz p q).parts with | some y => 1 + y.length | none => 0) ≤ (match z.parts with | some y => 1 + y.length | none => 0) := by
    cases hz : z.parts with
    | none =>
      cases ht : (tz p q).parts with
      | none => exact Nat.le_refl _
      | some y =>
        have := tsome y ht
        rw [hz, ht] at kk
        have kk' : y.length ≤ 0 := kk
        lia
    | some x =>
      cases ht : (tz p q).parts with
      | none => exact Nat.zero_le _
      | some y =>
        rw [hz, ht] at kk
        have kk' : y.length ≤ x.length := kk
        simp only
        lia
  have wpos : p ≠ 0 → (tz p q).whole.length ≤ z.whole.length := fun hp0 => by
    have h2 := re.w2
    have ineq : ∀ m, m * q ≤ p.natAbs → m * 10 ^ (z.parts.getD []).length ≤ num 0 z.fig := fun m hm => by
      have h1 : m * 10 ^ (z.parts.getD []).length * q ≤ num 0 z.fig * q := by
        rw [cross, Nat.mul_right_comm]
        exact Nat.mul_le_mul_right _ hm
      exact Nat.le_of_mul_le_mul_right h1 q0
    by_cases hl : p.natAbs < 10 * q
    · have h1 := re.w1 hl
      by_cases hl0 : p.natAbs < q
      · rw [re.w0 hp0 hl0]; exact Nat.zero_le _
      · have := ineq 1 (by lia)
        rw [Nat.one_mul] at this
        have h4 : 10 ^ (z.parts.getD []).length < 10 ^ (z.whole.length + (z.parts.getD []).length) := Nat.lt_of_le_of_lt this nlt
        have := (Nat.pow_lt_pow_iff_right (a := 10) (by decide)).mp h4
        lia
    · have h3 := ineq 10 (by lia)
      have h4 : 10 ^ ((z.parts.getD []).length + 1) < 10 ^ (z.whole.length + (z.parts.getD []).length) := by
        rw [Nat.pow_succ, Nat.mul_comm]
        exact Nat.lt_of_le_of_lt h3 nlt
      have := (Nat.pow_lt_pow_iff_right (a := 10) (by decide)).mp h4
      lia
  have htneg : z.neg = false → 0 ≤ z.top := fun e => by unfold Dec.top; rw [e]; simp
  have htop0 : p = 0 → num 0 z.fig = 0 := fun e => by
    have h0 : num 0 z.fig * q = 0 := by rw [cross, e]; simp
    rcases Nat.mul_eq_zero.mp h0 with a | a
    · exact a
    · lia
  have lneg : p < 0 → z.neg = true := fun hp0 => by
    cases hz : z.neg with
    | true => rfl
    | false => have := htneg hz; have := sg1 hp0; lia
  have tl := told_len p q
  have zl := text_len z
  have zpos : 1 ≤ z.text.length := List.length_pos_iff.mpr htx
  have figpos : 1 ≤ z.whole.length + (match z.parts with | some y => 1 + y.length | none => 0) := by
    have : 0 < z.fig.length := List.length_pos_iff.mpr hfig
    rw [hfl] at this
    cases hz : z.parts with
    | none => rw [hz] at this; simp at this; simp only; lia
    | some y => rw [hz] at this; simp at this; simp only; lia
  refine ⟨?_, ?_, ?_, ?_, ?_, stop⟩
  · by_cases hp0 : p = 0
    · rw [re.z hp0]; exact zpos
    · have := wpos hp0
      rw [tl, zl]
      by_cases hn : p < 0
      · rw [if_pos hn, lneg hn, if_pos rfl]; lia
      · rw [if_neg hn]; lia
  · intro hne
    exact (mem_tail (z := tz p q) ra.ok1).mpr (hdot hne)
  · intro hneg hh
    have hnn : ¬ p < 0 := fun e => hh ((told_45 ht').mpr e)
    have hp0 : p = 0 := by
      rcases Int.lt_or_le z.top 0 with q | q
      · exact absurd (sg3 q) hnn
      · have : num 0 z.fig = 0 := by
          unfold Dec.top at q
          rw [hneg, if_pos rfl] at q
          lia
        rw [this, Nat.zero_mul] at cross
        have h10 : 0 < 10 ^ (z.parts.getD []).length := Nat.pow_pos (by decide)
        have : p.natAbs = 0 := by
          rcases Nat.eq_zero_or_pos p.natAbs with e | e
          · exact e
          · have := Nat.mul_pos e h10; lia
        lia
    rw [re.z hp0, zl, hneg, if_pos rfl]
    lia
  · intro hneg e
    have := (told_45 ht').mp e
    have := lneg this
    rw [hneg] at this
    cases this
  · intro hneg hwh
    have hpn : z.parts ≠ none := fun e => hfig (by unfold Dec.fig; rw [hwh, e]; rfl)
    obtain ⟨y, hy⟩ : ∃ y, z.parts = some y := by
      cases hz : z.parts with
      | none => exact absurd hz hpn
      | some y => exact ⟨y, rfl⟩
    obtain ⟨d, y', ey, d1, d2⟩ := parts y hy
    have e1 : z.fig = y := by simp [Dec.fig, hy, hwh]
    have ypos : 0 < num 0 y := by
      rw [ey, nW, nV]
      have : 0 < (0 * 10 + (d - 48)) * 10 ^ y'.length := Nat.mul_pos (by lia) (Nat.pow_pos (by decide))
      lia
    have hp0 : p ≠ 0 := fun e => by have := htop0 e; rw [e1] at this; lia
    have hlt : p.natAbs < q := by
      rw [hwh, List.length_nil, Nat.zero_add] at nlt
      have h10 : 0 < 10 ^ (z.parts.getD []).length := Nat.pow_pos (by decide)
      have : p.natAbs * 10 ^ (z.parts.getD []).length < q * 10 ^ (z.parts.getD []).length := by
        rw [← cross, Nat.mul_comm q]
        exact Nat.mul_lt_mul_of_pos_right nlt q0
      exact Nat.lt_of_mul_lt_mul_right this
    have hnn : ¬ p < 0 := fun e => by have := lneg e; rw [hneg] at this; cases this
    have hwt := re.w0 hp0 hlt
    obtain ⟨ty, hty⟩ : ∃ ty, (tz p q).parts = some ty := by
      cases hz : (tz p q).parts with
      | none => exact absurd hz (hdot hpn)
      | some y => exact ⟨y, rfl⟩
    have hneg' : (tz p q).neg = false := by
      show decide (p < 0) = false
      exact decide_eq_false hnn
    show (tz p q).text.head? = some 46
    unfold Dec.text Dec.tail
    rw [hneg', hwt, hty]
    rfl
theorem sp_cases (T : List Nat) : spS T = T ∨ (spS T).length + 1 ≤ T.length := by
  unfold spS
  by_cases h : run BL T = 0
  · rw [h]; exact .inl rfl
  · have := run_le BL T
    rw [List.length_drop]
    exact .inr (by lia)
theorem PDr.drop {l : List Nat} (h : PDr l) (n : Nat) : PDr (l.drop n) := by
  have e : l.take n ++ l.drop n = l := List.take_append_drop n l
  rw [← e] at h
  exact h.right
theorem cost_a {f : Bool} {T R last : List Nat} {a : Arg} (h : vN f (spS T) = some (a, R)) (ok : vC f a) (hp : PDr T) (st : last ≠ [] → Stp last T) :
    (kK last a).length + R.length ≤ T.length ∧ (qH a ≠ [] → Stp (qH a) R) ∧ PDr R := by
  have hps : PDr (spS T) := hp.drop _
  unfold vN at h
  cases f with
  | true =>
    rw [if_pos rfl] at h
    cases hf : wA (spS T) with
    | none => rw [hf] at h; cases h
    | some y =>
      rw [hf] at h
      obtain ⟨e1, e2⟩ := Prod.mk.inj (Option.some.inj h)
      subst e1
      subst e2
      have hsp : spS T = (48 + y.1) :: y.2 ∧ (48 + y.1) ∈ DG := by
        obtain ⟨q, hy⟩ := rdFlag_some hf
        refine ⟨q, ?_⟩
        rcases Nat.le_one_iff_eq_zero_or_eq_one.mp hy with e | e <;> rw [e] <;> decide
      refine ⟨?_, fun hne => absurd rfl hne, by rw [hsp.1] at hps; exact hps.2⟩
      have hl : (spS T).length = 1 + y.2.length := by rw [hsp.1, List.length_cons]; lia
      have hle : (kK last (.flag y.1)).length ≤ 2 := by show ((if last = [] then [] else [32]) ++ [48 + y.1]).length ≤ 2; split <;> simp
      by_cases hl0 : last = []
      · have e : (kK last (.flag y.1)).length = 1 := by show ((if last = [] then [] else [32]) ++ [48 + y.1]).length = 1; rw [if_pos hl0]; simp
        have := xY T
        lia
      · rcases sp_cases T with e | e
        · exfalso
          have := st hl0 (48 + y.1) (by rw [← e, hsp.1]; rfl)
          exact this.1 hsp.2
        · lia
  | false =>
    rw [if_neg (by decide)] at h
    cases hf : vL (spS T) with
    | none => rw [hf] at h; cases h
    | some y =>
      rw [hf] at h
      obtain ⟨e1, e2⟩ := Prod.mk.inj (Option.some.inj h)
      subst e1
      subst e2
      obtain ⟨z, R⟩ := y
      simp only at *
      have ht : z.val ∈ tab := ok.2
      have C := cost_of hf hps ht
      obtain ⟨es, hw, hps', hfig, htx⟩ := pZ hf
      generalize htd : told z.val.1 z.val.2 = t at C
      have hlen : (spS T).length = z.text.length + R.length := by rw [es, List.length_append]
      have eaL : qH (.num z.val.1 z.val.2) = t := htd
      have eaT : kK last (.num z.val.1 z.val.2) = (if kN last t then [32] else []) ++ t := by rw [← htd]; rfl
      refine ⟨?_, fun _ => ?_, by rw [es] at hps; exact hps.right⟩
      · rw [eaT, List.length_append]
        have h1 : (if kN last t = true then [32] else ([] : List Nat)).length ≤ 1 := by split <;> simp
        have hC := C.len
        rcases sp_cases T with e | e
        · have noW : kN last t = false → (if kN last t = true then [32] else ([] : List Nat)).length + t.length + R.length ≤ T.length := fun hw0 => by
            rw [hw0, ← e]
            simp
            lia
          by_cases hl0 : last = []
          · exact noW (by unfold kN; rw [decide_eq_true hl0]; rfl)
          · have hst := st hl0
            rw [← e, es] at hst
            cases hn : z.neg with
            | true =>
              by_cases h45 : t.head? = some 45
              · exact noW (by unfold kN; rw [decide_eq_true h45]; simp)
              · have := C.neg hn h45
                rw [← e]
                lia
            | false =>
              cases hwh : z.whole with
              | cons c r =>
                exfalso
                have hc : c ∈ DG := hw c (by rw [hwh]; exact .head _)
                have := hst c (by unfold Dec.text; rw [hn, hwh]; rfl)
                exact this.1 hc
              | nil =>
                have h46 := C.point hn hwh
                have hin : 46 ∈ last := by
                  have hz : z.parts ≠ none := fun q => hfig (by unfold Dec.fig; rw [hwh, q]; rfl)
                  cases hpz : z.parts with
                  | none => exact absurd hpz hz
                  | some y =>
                    have := hst 46 (by unfold Dec.text Dec.tail; rw [hn, hwh, hpz]; rfl)
                    by_cases hm : 46 ∈ last
                    · exact hm
                    · exact absurd rfl (this.2 hm)
                exact noW (by unfold kN; rw [decide_eq_true h46, decide_eq_true hin]; simp)
        · lia
      · rw [eaL]
        intro c hc
        have := C.stop c hc
        refine ⟨this.1, fun hm => ?_⟩
        by_cases hz : z.parts = none
        · exact this.2 hz
        · exact absurd (C.dot hz) hm
theorem cost_args {arc : Bool} : ∀ (m p : Nat) (T last r : List Nat) (as : List Arg), qX arc m p (if p = 0 then spS T else T) = some (as, r) → xP arc p as → PDr T → (last ≠ [] → Stp last T) →
    (zI last as).length + r.length ≤ T.length ∧ (as ≠ [] → yM last as ≠ [] → Stp (yM last as) r) ∧ PDr r
  | 0, p, T, last, r, as, h, g, hp, st => by
    obtain ⟨e1, e2⟩ := Prod.mk.inj (Option.some.inj h)
    subst e1
    refine ⟨?_, fun hne => absurd rfl hne, ?_⟩
    · rw [← e2]
      have := xY T
      show 0 + _ ≤ _
      split <;> lia
    · rw [← e2]
      split
      · exact hp.drop _
      · exact hp
  | m + 1, p, T, last, r, as, h, g, hp, st => by
    have es : (if p = 0 then (if p = 0 then spS T else T) else spS (if p = 0 then spS T else T)) = spS T := by
      by_cases e : p = 0
      · rw [if_pos e, if_pos e]
      · rw [if_neg e, if_neg e]
    rw [rdA1, es] at h
    refine optA_ h fun a R ea h => ?_
    refine optL_ h fun as' r' er h => ?_
    obtain ⟨e1, e2⟩ := Prod.mk.inj (Option.some.inj h)
    subst e1
    subst e2
    obtain ⟨c1, c2, c3⟩ := cost_a ea g.1 hp st
    have er' : qX arc m (p + 1) (if p + 1 = 0 then spS R else R) = some (as', r') := by rw [if_neg (Nat.succ_ne_zero p)]; exact er
    obtain ⟨d1, d2, d3⟩ := cost_args m (p + 1) R (qH a) r' as' er' g.2 c3 c2
    refine ⟨?_, fun _ hl => ?_, d3⟩
    · rw [zI, List.length_append]; lia
    · cases as' with
      | nil =>
        cases m with
        | zero =>
          have : r' = R := (Prod.mk.inj (Option.some.inj er)).2.symm
          rw [this]
          exact c2 hl
        | succ m =>
          exfalso
          rw [rdA1] at er
          split at er
          · cases er
          · split at er
            · cases er
            · cases er
      | cons b bs => exact d2 (by simp) hl
theorem lArgs_any {as : List Arg} (h : as ≠ []) (l1 l2 : List Nat) : yM l1 as = yM l2 as := by
  cases as with
  | nil => exact absurd rfl h
  | cons a as => rfl
theorem wArgs_more (last : List Nat) (as : List Arg) : (zI last as).length ≤ (zI [] as).length + 1 := by
  cases as with
  | nil => exact Nat.zero_le _
  | cons a as =>
    rw [zI, zI, List.length_append, List.length_append]
    have : (kK last a).length ≤ (kK [] a).length + 1 := by
      have h1 : (kK last a).length ≤ (core a).length + 1 := by
        rcases uN last a with e | e <;> rw [e] <;> simp
      have h2 : (core a).length ≤ (kK [] a).length := by
        rcases uN [] a with e | e <;> rw [e] <;> simp
      lia
    lia
theorem fr_self {b : Nat} (h : ¬ (b = 90 ∨ b = 122)) : fr [b] b = false := by
  unfold fr
  rw [decide_eq_true rfl]
  have : b ∉ [90, 122] := by simpa using h
  rw [decide_eq_false this]
  rfl
theorem cost_more : ∀ (k b : Nat) (T last r : List Nat) (cs : List Cmd), uY k b T = some (cs, r) → Goods cs → b ∈ LT → ¬ (b = 90 ∨ b = 122) → behind b = b → PDr T → last ≠ [] → Stp last T →
    (jZ [b] last cs).length + r.length ≤ T.length ∧ PDr r
  | 0, b, T, last, r, cs, h, g, hb, hz, hbb, hp, ne, st => by cases h
  | k + 1, b, T, last, r, cs, h, g, hb, hz, hbb, hp, ne, st => by
    rw [rdM1] at h
    split at h
    · refine optL_ h fun as s2 ea h => ?_
      refine optC_ h fun cs' s3 er h => ?_
      obtain ⟨e1, e2⟩ := Prod.mk.inj (Option.some.inj h)
      subst e1
      subst e2
      have gc := g _ (.head _)
      obtain ⟨hne, hla⟩ := uI gc hz last
      obtain ⟨c1, c2, c3⟩ := cost_args (zF b) 0 T last s2 as ea gc.args hp (fun _ => st)
      have d := cost_more k b s2 (yM last as) s3 cs' er (fun x hx => g x (.tail _ hx)) hb hz hbb c3 hla (c2 hne hla)
      refine ⟨?_, d.2⟩
      have enl : yB b = [b] := by rw [((xM b hb).2.1 hz).2, hbb]
      have hf := fr_self hz
      rw [jZ, uX, wS]
      simp only [hf, Bool.false_eq_true, if_false, Ln, enl, List.length_append]
      lia
    · obtain ⟨e1, e2⟩ := Prod.mk.inj (Option.some.inj h)
      subst e1
      subst e2
      have := xY T
      exact ⟨by show 0 + _ ≤ _; lia, hp.drop _⟩
theorem wCmds_app : ∀ (a : List Cmd) (letter last : List Nat), ∃ l' la', ∀ b, jZ letter last (a ++ b) = jZ letter last a ++ jZ l' la' b
  | [], letter, last => ⟨letter, last, fun b => rfl⟩
  | c :: a, letter, last => by
    obtain ⟨l', la', h⟩ := wCmds_app a (yB c.c) (wS letter last c)
    refine ⟨l', la', fun b => ?_⟩
    rw [La, jZ, jZ, h b, List.append_assoc]
theorem cost_run {c : Nat} {s r : List Nat} {cs : List Cmd} (h : xE c s = some (cs, r)) (g : Goods cs) (hc : c ∈ LT) (hp : PDr s) (letter last : List Nat) : (jZ letter last cs).length + r.length ≤ s.length + 1 ∧ PDr r := by
  unfold xE at h
  split at h
  · rename_i hz
    obtain ⟨e1, e2⟩ := Prod.mk.inj (Option.some.inj h)
    subst e1
    subst e2
    refine ⟨?_, hp⟩
    have hf : fr letter c = true := by
      unfold fr
      have : c ∈ [90, 122] := by simpa using hz
      rw [decide_eq_true this, Bool.or_true]
    rw [jZ, uX]
    simp only [hf, if_true, zI, jZ, List.length_append, List.length_cons, List.length_nil]
    lia
  · rename_i hz
    refine optL_ h fun as s3 ea h => ?_
    refine optC_ h fun cs' s4 er h => ?_
    obtain ⟨e1, e2⟩ := Prod.mk.inj (Option.some.inj h)
    subst e1
    subst e2
    have gc := g _ (.head _)
    have bf := xM c hc
    have h1 := bf.2.1 hz
    obtain ⟨hne, hla⟩ := uI gc hz []
    obtain ⟨c1, c2, c3⟩ := cost_args (zF c) 0 s [] s3 as ea gc.args hp (fun q => absurd rfl q)
    have d := cost_more (s3.length + 1) (behind c) s3 (yM [] as) s4 cs' er (fun x hx => g x (.tail _ hx)) (fH c hc) h1.1 bf.1 c3 hla (c2 hne hla)
    refine ⟨?_, d.2⟩
    have el : wS letter last ⟨c, as⟩ = yM [] as := lArgs_any hne _ _
    have ct : (uX letter last ⟨c, as⟩).length ≤ 1 + (zI [] as).length := by
      have := wArgs_more last as
      show ((if fr letter c = true then [c] else []) ++ zI (if fr letter c = true then [] else last) as).length ≤ _
      by_cases hf : fr letter c = true
      · rw [if_pos hf, if_pos hf, List.length_append, List.length_singleton]
        lia
      · rw [if_neg hf, if_neg hf, Ln]
        lia
    rw [jZ, List.length_append, el]
    show (uX letter last ⟨c, as⟩).length + (jZ (yB c) (yM [] as) cs').length + s4.length ≤ s.length + 1
    rw [h1.2]
    lia
theorem rdLet_len {s r : List Nat} {c : Nat} (h : vM s = some (some (c, r))) : r.length + 1 ≤ s.length ∧ (PDr s → PDr r) := by
  unfold vM at h
  have hl := xY s
  split at h
  · cases h
  · rename_i d s2 e
    split at h
    · obtain ⟨e1, e2⟩ := Prod.mk.inj (Option.some.inj (Option.some.inj h))
      rw [← e2]
      refine ⟨by rw [e, List.length_cons] at hl; exact hl, fun hp => ?_⟩
      have := hp.drop (run BL s)
      change PDr (spS s) at this
      rw [e] at this
      exact this.2
    · cases h
theorem cost_from : ∀ (k : Nat) (first : Bool) (c : Nat) (s : List Nat) (cs : List Cmd) (letter last : List Nat), uZ k first c s = some cs → Goods cs → c ∈ LT → PDr s → (jZ letter last cs).length ≤ s.length + 1
  | 0, first, c, s, cs, letter, last, h, g, hc, hp => by cases h
  | k + 1, first, c, s, cs, letter, last, h, g, hc, hp => by
    rw [rdF1] at h
    split at h
    · cases h
    · refine optC_ h fun cs1 s4 e1 h => ?_
      refine optT_ h (fun h => ?_) fun c' s5 e2 h => optS_ h fun cs' e3 h => ?_
      · rw [← Option.some.inj h] at g ⊢
        have := cost_run e1 g hc hp letter last
        lia
      · rw [← Option.some.inj h] at g ⊢
        have d := cost_run e1 (fun x hx => g x (List.mem_append_left _ hx)) hc hp letter last
        have l5 := rdLet_len e2
        obtain ⟨l', la', ha⟩ := wCmds_app cs1 letter last
        have ih := cost_from k false c' s5 cs' l' la' e3 (fun x hx => g x (List.mem_append_right _ hx)) (nO e2) (l5.2 d.2)
        rw [ha cs', List.length_append]
        lia
theorem shortest {l : List Nat} {cs : List Cmd} (h : rd l = some cs) (g : Goods cs) (hp : PDr l) : (jZ [] [] cs).length ≤ l.length := by
  unfold rd at h
  refine optT_ h (fun h => ?_) fun c s2 e h => ?_
  · rw [← Option.some.inj h]; exact Nat.zero_le _
  · have l2 := rdLet_len e
    have := cost_from _ true c s2 cs [] [] h g (nO e) (l2.2 hp)
    lia
noncomputable def xS (n : Nat) : List Nat → Bool
  | [] => true
  | c :: r => decide (run DG (c :: r) ≤ n) && xS n r
theorem limB_at {n : Nat} : ∀ {l : List Nat}, xS n l = true → run DG l ≤ n ∧ ∀ i, run DG (l.drop i) ≤ n
  | [], _ => ⟨Nat.zero_le _, fun i => by simp [run]⟩
  | c :: r, h => by
    simp only [xS, Bool.and_eq_true, decide_eq_true_eq] at h
    refine ⟨h.1, fun i => ?_⟩
    cases i with
    | zero => exact h.1
    | succ i => exact (limB_at h.2).2 i
theorem limB_mono {n m : Nat} (hm : n ≤ m) : ∀ {l : List Nat}, xS n l = true → xS m l = true
  | [], _ => rfl
  | c :: r, h => by
    simp only [xS, Bool.and_eq_true, decide_eq_true_eq] at h ⊢
    exact ⟨by lia, limB_mono hm h.2⟩
theorem run_app (b : List Nat) : ∀ a : List Nat, run DG (a ++ b) ≤ run DG a + run DG b
  | [] => by simp [run]
  | c :: a => by
    by_cases hc : c ∈ DG
    · rw [La, run, if_pos hc, run, if_pos hc]
      have := run_app b a
      lia
    · rw [La, run, if_neg hc]
      exact Nat.zero_le _
theorem limB_app {n m k : Nat} {b : List Nat} (hb : xS m b = true) (hk : run DG b ≤ k) (hnk : n + k ≤ m) : ∀ {a : List Nat}, xS n a = true → xS m (a ++ b) = true
  | [], _ => hb
  | c :: a, h => by
    simp only [xS, Bool.and_eq_true, decide_eq_true_eq] at h
    rw [La, xS, Bool.and_eq_true, decide_eq_true_eq]
    refine ⟨?_, limB_app hb hk hnk h.2⟩
    have := run_app b (c :: a)
    rw [La] at this
    lia
theorem run_zero {l : List Nat} (h : ∀ c ∈ l.head?, c ∉ DG) : run DG l = 0 := by
  cases l with
  | nil => rfl
  | cons c r => rw [run, if_neg (h c rfl)]
set_option maxRecDepth 100000 in
theorem rowsF : ∀ x ∈ tab, xS 3 (told x.1 x.2) = true ∧ run DG (told x.1 x.2) ≤ 2 := by decide +kernel
noncomputable def lead : List Arg → Nat
  | .flag _ :: as => 1 + lead as
  | _ => 0
theorem lead_num {as : List Arg} {arc : Bool} {p : Nat} (g : xP arc p as) (h : (arc && (p == 3 || p == 4)) = false) : lead as = 0 := by
  cases as with
  | nil => rfl
  | cons a as => cases a with
    | num p q => rfl
    | flag k => have := g.1.1; rw [h] at this; cases this
theorem lead_le {as : List Arg} {arc : Bool} {p : Nat} (g : xP arc (p + 1) as) (h : (arc && (p == 3 || p == 4)) = true) : lead as ≤ 1 := by
  simp only [Bool.and_eq_true, Bool.or_eq_true, beq_iff_eq] at h
  rcases h.2 with e | e
  · subst e
    cases as with
    | nil => exact Nat.zero_le _
    | cons a as => cases a with
      | num p q => exact Nat.zero_le _
      | flag k =>
        have := lead_num (p := 5) g.2 (by cases arc <;> rfl)
        show 1 + lead as ≤ 1
        lia
  · subst e
    have := lead_num (p := 5) g (by cases arc <;> rfl)
    lia
theorem lim_args {arc : Bool} : ∀ (as : List Arg) (p : Nat) (last rest : List Nat), xP arc p as → xS 4 rest = true → run DG rest = 0 → xS 4 (zI last as ++ rest) = true ∧ run DG (zI last as ++ rest) ≤ 2 + lead as
  | [], p, last, rest, g, h1, h2 => ⟨h1, by rw [zI, Ln, h2]; exact Nat.zero_le _⟩
  | a :: as, p, last, rest, g, h1, h2 => by
    obtain ⟨i1, i2⟩ := lim_args as (p + 1) (qH a) rest g.2 h1 h2
    rw [zI, List.append_assoc]
    generalize hR : zI (qH a) as ++ rest = R at i1 i2
    have blank : ∀ t : List Nat, xS 4 t = true → xS 4 (32 :: t) = true ∧ run DG (32 :: t) ≤ 2 + lead (a :: as) := fun t ht => by
      have hr : run DG (32 :: t) = 0 := by rw [run, if_neg (by decide)]
      refine ⟨?_, by lia⟩
      rw [xS, Bool.and_eq_true, decide_eq_true_eq]
      exact ⟨by lia, ht⟩
    have core_ok : xS 4 (core a ++ R) = true ∧ run DG (core a ++ R) ≤ 2 + lead (a :: as) := by
      cases a with
      | num p' q' =>
        have rf := rowsF _ g.1.2
        simp only at rf
        have hne := (vQ g.1.2).1
        have r0 : run DG R = 0 := by
          rw [← hR]
          cases as with
          | nil => exact h2
          | cons b bs =>
            rw [zI, List.append_assoc]
            exact run_zero fun c hc => (stp_arg (last := qH (.num p' q')) hne g.2.1 _ c hc).1
        refine ⟨limB_app i1 (Nat.le_of_eq r0) (by lia) rf.1, ?_⟩
        have := run_app R (told p' q')
        show run DG (told p' q' ++ R) ≤ 2 + 0
        lia
      | flag k =>
        have hl := lead_le g.2 g.1.1
        have hr : run DG ([48 + k] ++ R) ≤ 1 + run DG R := by
          have := run_app R [48 + k]
          have h1 : run DG [48 + k] ≤ 1 := run_le DG _
          lia
        refine ⟨?_, ?_⟩
        · show xS 4 ((48 + k) :: R) = true
          rw [xS, Bool.and_eq_true, decide_eq_true_eq]
          exact ⟨by rw [List.singleton_append] at hr; lia, i1⟩
        · show run DG ([48 + k] ++ R) ≤ 2 + (1 + lead as)
          lia
    rcases uN last a with e | e
    · rw [e]; exact core_ok
    · rw [e]; exact blank _ core_ok.1
theorem rest_zero {c : Cmd} {cs : List Cmd} (gc : GoodC c) (g : Goods cs) (letter last : List Nat) : run DG (jZ (yB c.c) (wS letter last c) cs) = 0 := by
  have bf := xM c.c gc.letter
  by_cases hz : c.c = 90 ∨ c.c = 122
  · rw [(bf.2.2 hz).1]
    refine run_zero fun d hd => ?_
    cases cs with
    | nil => cases hd
    | cons c' cs =>
      have hf : fr [] c'.c = true := by unfold fr; rw [decide_eq_false (by simp)]; rfl
      rw [mJ hf] at hd
      have : d = c'.c := by simpa using hd.symm
      rw [this]
      exact (lt_no _ (g c' (.head _)).letter).2.2.1
  · have hl := (uI gc hz (if fr letter c.c then [] else last)).2
    exact run_zero fun d hd => (stp_cmds (letter := yB c.c) (last := wS letter last c) hl g d hd).1
theorem lim_cmds : ∀ (cs : List Cmd) (letter last : List Nat), Goods cs → xS 4 (jZ letter last cs) = true
  | [], letter, last, g => rfl
  | c :: cs, letter, last, g => by
    have gc := g c (.head _)
    have gr : Goods cs := fun x hx => g x (.tail _ hx)
    have ih := lim_cmds cs (yB c.c) (wS letter last c) gr
    have h := (lim_args c.args 0 (if fr letter c.c then [] else last) _ gc.args ih (rest_zero gc gr letter last)).1
    rw [jZ, uX, List.append_assoc]
    split
    · rw [List.singleton_append, xS, Bool.and_eq_true, decide_eq_true_eq]
      rename_i hf
      rw [if_pos hf] at h
      exact ⟨by rw [run, if_neg (lt_no _ gc.letter).2.2.1]; exact Nat.zero_le _, h⟩
    · rename_i hf
      rw [if_neg hf] at h
      exact h
theorem PDr.app {b : List Nat} (hb : PDr b) : ∀ {a : List Nat}, PDr a → PDr (a ++ b)
  | [], _ => hb
  | c :: a, h => ⟨fun e => by
      obtain ⟨d, r', q, d1, d2⟩ := h.1 e
      exact ⟨d, r' ++ b, by rw [q]; rfl, d1, d2⟩, PDr.app hb h.2⟩
theorem PDr.of_no : ∀ {l : List Nat}, (∀ c ∈ l, c ≠ 46) → PDr l
  | [], _ => trivial
  | c :: l, h => ⟨fun e => absurd e (h c (.head _)), PDr.of_no fun d hd => h d (.tail _ hd)⟩
theorem pd_told {p : Int} {q : Nat} (ht : (p, q) ∈ tab) : PDr (told p q) := by
  have ra := fT _ ht
  simp only at ra
  have key : ∀ c ∈ DG, c ≠ 46 := by decide
  show PDr (tz p q).text
  unfold Dec.text Dec.tail
  refine PDr.app ?_ (PDr.app (PDr.of_no fun c hc => key c (ra.ok1 c hc)) (PDr.of_no fun c hc => ?_))
  · cases hp : (tz p q).parts with
    | none => trivial
    | some y =>
      have h2 := ra.ok2
      have nz := ra.nz
      rw [hp] at h2 nz
      cases y with
      | nil => exact absurd rfl nz.2
      | cons d y =>
        have hd : d ∈ DG := h2 d (.head _)
        have hd0 : d ≠ 48 := fun e => nz.1 (by rw [e]; rfl)
        have kd : ∀ d ∈ DG, d ≠ 48 → 49 ≤ d ∧ d ≤ 57 := by decide
        exact ⟨fun _ => ⟨d, y, rfl, kd d hd hd0⟩, PDr.of_no fun c hc => key c (h2 c hc)⟩
  · split at hc
    · rw [List.mem_singleton.mp hc]; decide
    · cases hc
theorem pd_a {last : List Nat} {a : Arg} {f : Bool} (ok : vC f a) : PDr (kK last a) := by
  have hc : PDr (core a) := by
    cases a with
    | num p q => exact pd_told ok.2
    | flag k => exact PDr.of_no fun c hc => by have := ok.2; have : c = 48 + k := List.mem_singleton.mp hc; lia
  rcases uN last a with e | e
  · rw [e]; exact hc
  · rw [e]; exact ⟨fun q => absurd q (by decide), hc⟩
theorem pd_args {arc : Bool} : ∀ (as : List Arg) (p : Nat) (last : List Nat), xP arc p as → PDr (zI last as)
  | [], p, last, g => trivial
  | a :: as, p, last, g => PDr.app (pd_args as (p + 1) (qH a) g.2) (pd_a g.1)
theorem pd_cmds : ∀ (cs : List Cmd) (letter last : List Nat), Goods cs → PDr (jZ letter last cs)
  | [], letter, last, g => trivial
  | c :: cs, letter, last, g => by
    have gc := g c (.head _)
    refine PDr.app (pd_cmds cs _ _ fun x hx => g x (.tail _ hx)) (PDr.app (pd_args _ 0 _ gc.args) ?_)
    split
    · exact PDr.of_no fun d hd => by rw [List.mem_singleton.mp hd]; exact (lt_no _ gc.letter).2.2.2
    · trivial
theorem al_a {last : List Nat} {a : Arg} {f : Bool} (ok : vC f a) : ∀ c ∈ kK last a, c ∈ AL := by
  have kd : ∀ c ∈ DG, c ∈ AL := by decide
  have hc : ∀ c ∈ core a, c ∈ AL := by
    cases a with
    | num p q =>
      have ra := fT _ ok.2
      simp only at ra
      intro c hc
      change c ∈ (tz p q).text at hc
      unfold Dec.text Dec.tail at hc
      rcases List.mem_append.mp hc with e | e
      · rcases List.mem_append.mp e with e | e
        · split at e
          · rw [List.mem_singleton.mp e]; decide
          · cases e
        · exact kd c (ra.ok1 c e)
      · cases hp : (tz p q).parts with
        | none => rw [hp] at e; cases e
        | some y =>
          rw [hp] at e
          rcases List.mem_cons.mp e with e | e
          · rw [e]; decide
          · exact kd c (ra.ok2 c (by rw [hp]; exact e))
    | flag k =>
      intro c hc
      have := ok.2
      have e : c = 48 + k := List.mem_singleton.mp hc
      have : k = 0 ∨ k = 1 := by lia
      rcases this with q | q <;> rw [e, q] <;> decide
  intro c h
  rcases uN last a with e | e
  · rw [e] at h; exact hc c h
  · rw [e] at h
    rcases List.mem_cons.mp h with q | q
    · rw [q]; decide
    · exact hc c q
theorem al_args {arc : Bool} : ∀ (as : List Arg) (p : Nat) (last : List Nat), xP arc p as → ∀ c ∈ zI last as, c ∈ AL
  | [], p, last, g, c, h => by cases h
  | a :: as, p, last, g, c, h => by
    rcases List.mem_append.mp h with e | e
    · exact al_a g.1 c e
    · exact al_args as (p + 1) (qH a) g.2 c e
theorem al_cmds : ∀ (cs : List Cmd) (letter last : List Nat), Goods cs → Al (jZ letter last cs)
  | [], letter, last, g, c, h => by cases h
  | d :: cs, letter, last, g, c, h => by
    have gc := g d (.head _)
    have kl : ∀ c ∈ LT, c ∈ AL := by decide
    rcases List.mem_append.mp h with e | e
    · rcases List.mem_append.mp e with e | e
      · split at e
        · rw [List.mem_singleton.mp e]; exact kl _ gc.letter
        · cases e
      · exact al_args _ 0 _ gc.args c e
    · exact al_cmds cs _ _ (fun x hx => g x (.tail _ hx)) c e
theorem PDr.without {b : List Nat} : ∀ {a : List Nat}, PDr (a ++ 32 :: b) → PDr (a ++ b)
  | [], h => h.2
  | c :: a, h => ⟨fun e => by
      obtain ⟨d, r', q, d1, d2⟩ := h.1 e
      cases a with
      | nil =>
        have : d = 32 := by simpa using (congrArg List.head? q).symm
        lia
      | cons x a =>
        have : x = d := by simpa using congrArg List.head? q
        exact ⟨x, a ++ b, rfl, by lia, by lia⟩, PDr.without h.2⟩
theorem lim_without {b : List Nat} : ∀ {a : List Nat}, xS 4 (a ++ 32 :: b) = true → xS 8 (a ++ b) = true
  | [], h => by
    simp only [Ln, xS, Bool.and_eq_true] at h
    exact limB_mono (by decide) h.2
  | c :: a, h => by
    rw [La, xS, Bool.and_eq_true, decide_eq_true_eq] at h
    rw [La, xS, Bool.and_eq_true, decide_eq_true_eq]
    refine ⟨?_, lim_without h.2⟩
    have hb : run DG b ≤ 4 := by
      have q := (limB_at h.2).2 (a.length + 1)
      have e : (a ++ 32 :: b).drop (a.length + 1) = b := by simp
      rw [e] at q
      exact q
    have h1 : ∀ x : List Nat, run DG (x ++ b) ≤ run DG (x ++ 32 :: b) + run DG b := by
      intro x
      induction x with
      | nil => simp
      | cons y x ih =>
        by_cases hy : y ∈ DG
        · rw [La, La, run, if_pos hy, run, if_pos hy]; lia
        · rw [La, run, if_neg hy]; exact Nat.zero_le _
    have := h1 (c :: a)
    rw [La, La] at this
    lia
theorem text_ok {cs r : List Cmd} {as : List Arg} (g : Goods cs) (hcs : cs = ⟨109, as⟩ :: r) : TextOk cs := by
  have et := all_write cs
  have al := al_cmds cs [] [] g
  have lim := lim_cmds cs [] [] g
  have pd := pd_cmds cs [] [] g
  refine ⟨by rw [et]; exact al, ?_, ?_, fun k hk => ?_⟩
  · rw [et]
    intro i
    exact Nat.le_trans ((limB_at lim).2 i) (by decide)
  · rw [et]
    have q : rd (jZ [] [] (⟨109, as⟩ :: r)) = some (⟨109, as⟩ :: r) := read_all (hcs ▸ g) (by show 109 ∈ [77, 109]; decide)
    rw [← hcs] at q
    exact q
  · rw [et] at hk ⊢
    generalize hl : jZ [] [] cs = l at *
    have hlt : k < l.length := by
      by_cases q : k < l.length
      · exact q
      · rw [List.getElem?_eq_none (by lia)] at hk; cases hk
    have hd : l.drop k = 32 :: l.drop (k + 1) := by
      rw [List.drop_eq_getElem_cons hlt]
      rw [List.getElem?_eq_getElem hlt] at hk
      rw [Option.some.inj hk]
    have e : l = l.take k ++ 32 :: l.drop (k + 1) := by rw [← hd, List.take_append_drop]
    refine ⟨fun c hc => ?_, fun i => ?_, fun hr => ?_⟩
    · rcases List.mem_append.mp hc with q | q
      · exact al c (List.mem_of_mem_take q)
      · exact al c (List.mem_of_mem_drop q)
    · have h8 := lim_without (a := l.take k) (b := l.drop (k + 1)) (by rw [← e]; exact lim)
      exact Nat.le_trans ((limB_at h8).2 i) (by decide)
    · have hp : PDr (l.take k ++ l.drop (k + 1)) := PDr.without (by rw [← e]; exact pd)
      have := shortest hr g hp
      rw [hl, List.length_append, List.length_take, List.length_drop] at this
      lia
structure Bm (bm : List Value) : Prop where
  e : bm.contains (.type "Exception") = true
  be : bm.contains (.type "BaseException") = true
  na : bm.contains (.type "AttributeError") = false
  nn : bm.contains (.type "NameError") = false
  ob : bm.contains (.type "object") = true
noncomputable abbrev wI : String := "Exception.__new__"
section
variable {M : Model} {A : Around} {E : Value → Shared → Prop} {h : Heap} {g : Array GenState} {d : Drawn} {t : Nat} {os : OsState}
variable {nm q : Str} {C N : Addr} {bs bm : List Value} {hdct : Bool} {sn : List Str} {sub : List Value} {ab : Bool} {col : Option Bool} {dd : Option Addr} {k0 k1 k2 k3 k5 : Option Value}
theorem isSub_t {base : Value} {b : Bool} {Q : Bool → Shared → Prop} (hC : h.get? C = some (excClassObj nm q C N bs bm hdct sn sub ab col dd k0 k1 k2 k3 k5 wI)) (e : (Value.ref C :: bm).contains base = b) (hq : Q b ⟨h, g, d, t, os⟩) : wpAny M A (isSubtype (.ref C) base) Q E ⟨h, g, d, t, os⟩ :=
  wpAny_isSubtype_exc hC (by rw [e]; exact hq)
theorem exc_check_new (T : Bm bm) {rest : List Value} {Q : Unit → Shared → Prop} (hC : h.get? C = some (excClassObj nm q C N bs bm hdct sn sub ab col dd k0 k1 k2 k3 k5 wI))
    (hq : Q () ⟨h, g, d, t, os⟩) : wpAny M A (checkBuiltinCall wI ⟨.ref C :: rest, []⟩) Q E ⟨h, g, d, t, os⟩ := by
  have Fn := PySem.F.excBase_Exception
  have hcont : (Value.ref C :: bm).contains (.type "Exception") = true := by rw [List.contains_cons, T.e, Bool.or_true]
  have hstar := Fn.noStar
  simp only [checkBuiltinCall, Fn.newKind, Fn.newSplit]
  repeat (first | refine wpAny_loadPart_at hC ?_ | refine isSub_t hC hcont ?_ | refine wpAny_staticBase_exc hC ?_ | refine wpAny_madeBy_exc hC ?_ | simp only [bne_self_eq_false, Bool.false_eq_true, if_false] | wp_step | rw [Fn.newRow])
  exact hq
theorem lookup_own {name : Str} {mN : Str → Option Value} {v : Value} {newId : String} {Q : Option Value → Shared → Prop} (hC : h.get? C = some (excClassObj nm q C N bs bm hdct sn sub ab col dd k0 k1 k2 k3 k5 newId))
    (hn : h.Ns N mN) (hi : mN name = some v) (hq : Q (some v) ⟨h, g, d, t, os⟩) : wpAny M A (typeLookup (.ref C) name) Q E ⟨h, g, d, t, os⟩ := by
  rw [typeLookup_eq]
  refine wpAny_bind (wpAny_mroOf_exc hC ?_)
  rw [lookupAlong_cons]
  refine wpAny_bind (wpAny_classOwn_exc hC hn ?_)
  rw [hi]
  exact wpAny_pure hq
end
section
variable {prog : Program} {w : World} {A : Around} {R : Result → Shared → Prop} {E : Value → Shared → Prop} {h : Heap} {g : Array GenState} {d : Drawn} {t : Nat} {os : OsState}
variable {nm q : Str} {C N : Addr} {bs bm : List Value} {hdct : Bool} {sn : List Str} {sub : List Value} {ab : Bool} {col : Option Bool} {dd : Option Addr} {k0 k1 k2 k3 k5 : Option Value}
theorem exc_new (T : Bm bm) {rest : List Value} (hC : h.get? C = some (excClassObj nm q C N bs bm hdct sn sub ab col dd k0 k1 k2 k3 k5 wI))
    (hq : R (.ok (.ret (.ref (h.objs.size + 1)))) ⟨(h.push { cls := .type "tuple", data := .seq rest.toArray }).push
      { cls := .ref C, data := .fields #[.ref h.objs.size, .none, .none, .none, .bool false, .none] }, g, d, t, os⟩) (hrest : rest.length ≤ sizeLine) :
    codeAny (model prog w) A (.builtin wI ⟨.ref C :: rest, []⟩) R ⟨h, g, d, t, os⟩ := by
  have Fn := PySem.F.excBase_Exception
  have hends := Fn.ends
  have hcB : (Value.ref C :: bm).contains (.type "Exception") = true := by rw [List.contains_cons, T.e, Bool.or_true]
  have hcA : (Value.ref C :: bm).contains (.type "AttributeError") = false := by rw [List.contains_cons, T.na]; rfl
  have hcN : (Value.ref C :: bm).contains (.type "NameError") = false := by rw [List.contains_cons, T.nn]; rfl
  refine codeAny_builtinAt Fn.entry ?_
  unfold Builtin.«BaseException.__new__»
  refine PySem.wpAt_bind ?_
  show PySem.wpAt _ _ _ (stack >>= _) _ _ _
  refine PySem.wpAt_bind (PySem.wpAt_stack fun p below => PySem.wpAt_of_wpAny ?_)
  wp_walk
  refine PySem.wpAt_of_wpAny ?_
  rw [Fn.owner]
  repeat (first | with_reducible refine wpAny_madeHere_exc Fn.canon hC ?_ | with_reducible refine wpAny_loadPart_at hC ?_ | (with_reducible refine wpAny_isSubtype_exc hC ?_; first | rw [hcB] | rw [hcA] | rw [hcN]) | wp_step)
  show R _ _
  rw [Heap.size_push]
  exact hq
theorem exc_type_call (T : Bm bm) {mN : Str → Option Value} {rest : List Value} {fI : Addr} {oI : Obj} {Q : Fin → Shared → Prop}
    (hC : h.get? C = some (excClassObj nm q C N bs bm hdct sn sub ab col dd k0 k1 k2 k3 k5 wI)) (hn : h.Ns N mN) (hi : mN "__init__" = some (.ref fI))
    (hfI : h.get? fI = some oI) (hfc : oI.cls = .type "function")
    (hq : ∀ h' e, Heap.MadeExcOf h h' e (.ref C) rest →
      wpAny (model prog w) A (call (.ref fI) (.ref e :: rest)) (fun r s' => r = .none ∧ Q (.done (.ret (.ref e))) s') E ⟨h', g, d, t, os⟩) (hrest : rest.length ≤ sizeLine) :
    wpAny (model prog w) A (Builtin.«type.__call__» ⟨.ref C :: rest, []⟩) Q E ⟨h, g, d, t, os⟩ := by
  have Fn := PySem.F.excBase_Exception
  repeat (first | with_reducible refine wpAny_loadPart_at hC ?_ | with_reducible refine wpAny_madeBy_exc hC ?_ | wp_step)
  refine codeAny_call_builtin_code (Code.quiet_builtin _ Fn.quiet) (exc_check_new T hC ?_)
  refine exc_new T hC ?_ hrest
  show wpAny _ _ _ _ _ _
  have hC₁ := Heap.get?_push_of_some { cls := .ref C, data := .fields #[.ref h.objs.size, .none, .none, .none, .bool false, .none] }
    (Heap.get?_push_of_some { cls := .type "tuple", data := .seq rest.toArray } hC)
  have hfI₁ := Heap.get?_push_of_some { cls := .ref C, data := .fields #[.ref h.objs.size, .none, .none, .none, .bool false, .none] }
    (Heap.get?_push_of_some { cls := .type "tuple", data := .seq rest.toArray } hfI)
  have hn₁ : ((h.push { cls := .type "tuple", data := .seq rest.toArray }).push { cls := .ref C, data := .fields #[.ref h.objs.size, .none, .none, .none, .bool false, .none] }).Ns N mN :=
    let ⟨o, es, ep, e, r⟩ := hn; ⟨o, es, ep, Heap.get?_push_of_some _ (Heap.get?_push_of_some _ e), r⟩
  have hget : ((h.push { cls := .type "tuple", data := .seq rest.toArray }).push
      { cls := .ref C, data := .fields #[.ref h.objs.size, .none, .none, .none, .bool false, .none] }).get? (h.objs.size + 1) = some
      { cls := .ref C, data := .fields #[.ref h.objs.size, .none, .none, .none, .bool false, .none] } := by heap_get
  have hcC : (Value.ref C :: bm).contains (.ref C) = true := by simp
  unfold isInstance
  repeat (first | with_reducible refine wpAny_loadPart_at hget ?_ | (with_reducible refine wpAny_isSubtype_exc hC₁ ?_; rw [hcC]) | wp_step)
  show wpAny _ _ (typeLookup (.ref C) _) _ _ _
  refine lookup_own hC₁ hn₁ hi ?_
  refine wpAny_holding (wpAny_bind ?_)
  unfold bindSpecial
  refine wpAny_bind (wpAny_typeOf (T := "function") ⟨_, hfI₁, hfc⟩ ?_)
  rw [if_pos (by decide)]
  refine wpAny_pure (wpAny_bind (wpAny_mono (hq _ (h.objs.size + 1) ⟨fun b o hb => Heap.get?_push_of_some _ (Heap.get?_push_of_some _ hb), Heap.get?_none_of_le (Nat.le_succ _), h.objs.size, hget, Heap.get?_none_of_le (Nat.le_refl _), ?_⟩) (fun r s' hr => ?_) fun _ _ x => x))
  · exact Heap.get?_push_of_some _ (Heap.get?_push_at rfl rfl)
  · obtain ⟨rfl, hQ⟩ := hr
    wp_walk
    exact hQ
theorem exc_call (T : Bm bm) {mN : Str → Option Value} {rest : List Value} {fI : Addr} {oI : Obj} {Q : Value → Shared → Prop}
    (hC : h.get? C = some (excClassObj nm q C N bs bm hdct sn sub ab col dd k0 k1 k2 k3 k5 wI)) (hn : h.Ns N mN) (hi : mN "__init__" = some (.ref fI))
    (hfI : h.get? fI = some oI) (hfc : oI.cls = .type "function")
    (hq : ∀ h' e, Heap.MadeExcOf h h' e (.ref C) rest →
      wpAny (model prog w) (A.under (.builtin "type.__call__" ⟨.ref C :: rest, []⟩)) (call (.ref fI) (.ref e :: rest)) (fun r s' => r = .none ∧ Q (.ref e) s') E ⟨h', g, d, t, os⟩) (hrest : rest.length ≤ sizeLine) :
    wpAny (model prog w) A (call (.ref C) rest) Q E ⟨h, g, d, t, os⟩ := by
  have f1 := tc_lookup
  have f2 := tc_bind (.ref C)
  have hT : (⟨h, g, d, t, os⟩ : Shared).TypeIs (.ref C) "type" := ⟨_, hC, rfl⟩
  refine wpAny_call (codeAny_of_tree ?_)
  show wpAny _ _ (callAny (.ref C) _) _ _ _
  repeat (any_goals (first | assumption | with_reducible refine wpAny_loadPart_at hC ?_ | wp_step))
  refine ⟨rfl, ?_⟩
  refine codeAny_call_builtin_at (Code.quiet_builtin _ (by decide +kernel)) entry_typeCall (wpAny_check_type_call_sub hC (exc_type_call (hrest := hrest) T hC hn hi hfI hfc fun h' e hm => ?_))
  exact hq h' e hm
end
structure ExcIn (B h : Heap) (e C : Addr) (vs : Array Value) (mA : Str → Option Value) : Prop where
  keeps : ∀ b o, B.get? b = some o → h.get? b = some o
  new : B.get? e = none
  obj : ∃ dd, h.get? e = some { cls := .ref C, dict := dd, data := .fields vs } ∧ ((dd = none ∧ ∀ n, mA n = none) ∨ ∃ d, dd = some d ∧ d ≠ e ∧ B.get? d = none ∧ h.Ns1 d mA)
section
open Builtin Builtin.ObjectAttr
variable {prog : Program} {w : World} {A : Around} {E : Value → Shared → Prop} {h : Heap} {g : Array GenState} {d : Drawn} {t : Nat} {os : OsState}
variable {nm q : Str} {C N x : Addr} {bs bm bmB : List Value} {sn : List Str} {sub : List Value} {ab : Bool} {col : Option Bool} {dd : Option Addr} {k0 k1 k2 k3 k5 : Option Value} {B newId sa owner : String}
  {nm' q' : Str} {C' N' : Addr} {bs' bm' : List Value} {hd' : Bool} {sn' : List Str} {sub' : List Value} {ab' : Bool} {col' : Option Bool} {dd' : Option Addr} {j0 j1 j2 j3 j5 : Option Value} {newId' : String}
  {mN mN' mA : Str → Option Value} {name : Str} {v : Value} {Bh : Heap} {vs : Array Value}
theorem lookup_two {M : Model} {y : Option Value} {Q : Option Value → Shared → Prop} (hC : h.get? C = some (excClassObj nm q C N bs (.ref C' :: bmB) true sn sub ab col dd k0 k1 k2 k3 k5 newId))
    (hC' : h.get? C' = some (excClassObj nm' q' C' N' bs' bm' hd' sn' sub' ab' col' dd' j0 j1 j2 j3 j5 newId')) (hn : h.Ns N mN) (hn' : h.Ns N' mN') (h1 : mN name = none) (h2 : mN' name = none)
    (hbm : mroOf (.type B) = pure bmB) (hB : typeLookup (.type B) name = pure y) (hq : Q y ⟨h, g, d, t, os⟩) : wpAny M A (typeLookup (.ref C) name) Q E ⟨h, g, d, t, os⟩ := by
  have hrest : lookupAlong bmB name = pure y := by rw [typeLookup_eq, hbm] at hB; exact hB
  rw [typeLookup_eq]
  refine wpAny_bind (wpAny_mroOf_exc hC ?_)
  rw [lookupAlong_cons]
  refine wpAny_bind (wpAny_classOwn_exc hC hn ?_)
  rw [h1]
  show wpAny M A (lookupAlong (.ref C' :: bmB) name) _ _ _
  rw [lookupAlong_cons]
  refine wpAny_bind (wpAny_classOwn_exc hC' hn' ?_)
  rw [h2]
  show wpAny M A (lookupAlong bmB name) _ _ _
  rw [hrest]
  exact wpAny_pure hq
theorem exc_check_sa {M : Model} {o : Obj} {nameV : Value} {Q : Unit → Shared → Prop} (SF : StoreFacts B bmB sa owner)
    (hC : h.get? C = some (excClassObj nm q C N bs (.ref C' :: bmB) true sn sub ab col dd k0 k1 k2 k3 k5 newId)) (hx : h.get? x = some o) (hc : o.cls = .ref C) (hq : Q () ⟨h, g, d, t, os⟩) :
    wpAny M A (checkBuiltinCall sa ⟨[.ref x, nameV, v], []⟩) Q E ⟨h, g, d, t, os⟩ := by
  have hcB : (Value.ref C :: .ref C' :: bmB).contains (.type owner) = true := by rw [List.contains_cons, List.contains_cons, SF.hasOwner, Bool.or_true, Bool.or_true]
  have ha := SF.args (.ref x) nameV v
  simp only [checkBuiltinCall, SF.kind, SF.split]
  refine wpAny_bind ?_
  · unfold isInstance
    repeat (first | (with_reducible refine wpAny_loadPart_at hx ?_; rw [hc]) | (with_reducible refine wpAny_isSubtype_exc hC ?_; rw [hcB]) | wp_step)
    cases hsig : Manifest.signature? sa with
    | none => exact wpAny_pure hq
    | some sig =>
      simp only [argsOk, hsig] at ha
      have h2 : Bind.checkArgs sa sig ⟨[.ref x, nameV, v], []⟩ = pure () := ha
      show wpAny M A (Bind.checkArgs sa sig ⟨[.ref x, nameV, v], []⟩) Q E _
      rw [h2]; exact wpAny_pure hq
theorem exc_store_in {tk : Tok} {Q : Fin → Shared → Prop} {ns : List Str} (SF : StoreFacts B bmB sa owner)
    (hC : h.get? C = some (excClassObj nm q C N bs (.ref C' :: bmB) true sn sub ab col dd k0 k1 k2 k3 k5 newId))
    (hC' : h.get? C' = some (excClassObj nm' q' C' N' bs' bm' hd' sn' sub' ab' col' dd' j0 j1 j2 j3 j5 newId')) (hn : h.Ns N mN) (hn' : h.Ns N' mN') (hna : mN name = none) (hna' : mN' name = none)
    (hB : typeLookup (.type B) name = pure none) (I : ExcIn Bh h x C vs mA)
    (hq : ∀ h' tk', ExcIn Bh h' x C vs (fun y => if y = name then some v else mA y) → Q (.done (.ret .none)) ⟨h', g, d, tk', os⟩) (hw : Within mA ns) (hsz : ns.length ≤ 100) :
    wpAny (model prog w) A (Builtin.«object.__setattr__» ⟨[.ref x, .str name tk, v], []⟩) Q E ⟨h, g, d, t, os⟩ := by
  obtain ⟨kp, nw, dx, hx, hd⟩ := I
  have hpass := SF.passes (.ref x)
  unfold Builtin.«object.__setattr__»
  repeat (first | rw [refuse_eq] | (rw [refuseLoop_ref, refuseLoop_ref, hpass]) | with_reducible refine wpAny_loadPart_at hx ?_ | with_reducible refine wpAny_mroOf_exc hC ?_ | with_reducible refine lookup_two hC hC' hn hn' hna hna' SF.mro hB ?_ | wp_step)
  rcases hd with ⟨hdn, hmA⟩ | ⟨dx', hdx, hne, hnB, hns⟩
  · subst hdn
    rw [if_neg (by simp [typeHasDict])]
    split
    · rename_i hcd
      cases hcd
    split
    · rename_i c hcd
      cases hcd
    · have hx₁ : (h.push { cls := .type "dict", data := .dict #[] }).get? x = some { cls := .ref C, data := .fields vs } := Heap.get?_push_of_some _ hx
      have hxs : x ≠ h.objs.size := Nat.ne_of_lt (Heap.lt_size hx)
      refine wpAny_bind (wpAny_alloc' ?_)
      refine wpAny_bind (wpAny_update' hx₁ ?_)
      refine wpAny_pure ?_
      have hgd : ((h.push { cls := .type "dict", data := .dict #[] }).update x fun o => { cls := o.cls, dict := some h.objs.size, data := o.data, slots := o.slots }).get? h.objs.size
          = some { cls := .type "dict", data := .dict #[] } :=
        (Heap.get?_update_ne _ _ _ _ hxs.symm).trans (Heap.get?_push_at rfl rfl)
      have hnd : ((h.push { cls := .type "dict", data := .dict #[] }).update x fun o => { cls := o.cls, dict := some h.objs.size, data := o.data, slots := o.slots }).Ns h.objs.size (fun _ => none) :=
        ⟨_, #[], _, hgd, rfl, fun e he => absurd he (by simp), fun _ => rfl⟩
      show wpAny _ _ (storeInDict h.objs.size (.str name tk) name v) _ _ _
      unfold storeInDict newKeyGuard
      refine wpAny_bind (wpAny_pure (wpAny_bind (wpAny_nsSet1 (Heap.Ns1.of_empty hnd) fun h' hn' hs => ?_)))
      obtain ⟨oD, esD, epD, hoD, hdD, hcD⟩ := hn'.count (Within.cons name v Within.nil)
      refine wpAny_bind (wpAny_lookBehind hoD (by rw [hdD]; exact pastItsLine_dict (Nat.le_trans hcD (by rw [List.length_cons, List.length_nil, sizeLine_eq]; lia))) ?_)
      wp_walk
      have hx' : h'.get? x = some { cls := .ref C, dict := some h.objs.size, data := .fields vs } := (hs.2 x hxs).trans (Heap.get?_update_self _ hx₁ rfl)
      refine hq h' _ ⟨fun b ob hb => ?_, nw, _, hx', .inr ⟨h.objs.size, rfl, hxs.symm, ?_, ?_⟩⟩
      · have hb' := kp _ _ hb
        have hbx : b ≠ x := fun e => by rw [e, nw] at hb; cases hb
        exact (hs.2 b (Nat.ne_of_lt (Heap.lt_size hb'))).trans ((Heap.get?_update_ne _ _ _ _ hbx).trans (Heap.get?_push_of_some _ hb'))
      · cases e : Bh.get? h.objs.size with
        | none => rfl
        | some o => exact absurd (Heap.lt_size (kp _ _ e)) (Nat.lt_irrefl _)
      · obtain ⟨o', es, ep, e1, e2, e3, eu, e4⟩ := hn'
        exact ⟨o', es, ep, e1, e2, e3, eu, fun y => by rw [e4 y]; by_cases hy : y = name <;> simp [hy, hmA]⟩
  · subst hdx
    refine wpAny_pure ?_
    show wpAny _ _ (storeInDict dx' (.str name tk) name v) _ _ _
    unfold storeInDict newKeyGuard
    refine wpAny_bind (wpAny_pure (wpAny_bind (wpAny_nsSet1 hns fun h' hn' hs => ?_)))
    obtain ⟨oD, esD, epD, hoD, hdD, hcD⟩ := hn'.count (Within.cons name v hw)
    refine wpAny_bind (wpAny_lookBehind hoD (by rw [hdD]; exact pastItsLine_dict (Nat.le_trans hcD (by rw [List.length_cons, sizeLine_eq]; lia))) ?_)
    wp_walk
    refine hq h' _ ⟨fun b ob hb => (hs.2 b fun e => by rw [e, hnB] at hb; cases hb).trans (kp _ _ hb), nw, _, (hs.2 x hne.symm).trans hx, .inr ⟨dx', rfl, hne, hnB, hn'⟩⟩
theorem exc_store {Q : Unit → Shared → Prop} {ns : List Str} (SF : StoreFacts B bmB sa owner)
    (hC : h.get? C = some (excClassObj nm q C N bs (.ref C' :: bmB) true sn sub ab col dd k0 k1 k2 k3 k5 newId))
    (hC' : h.get? C' = some (excClassObj nm' q' C' N' bs' bm' hd' sn' sub' ab' col' dd' j0 j1 j2 j3 j5 newId')) (hn : h.Ns N mN) (hn' : h.Ns N' mN') (hna : mN name = none) (hna' : mN' name = none)
    (hs : mN "__setattr__" = none) (hs' : mN' "__setattr__" = none) (hB : typeLookup (.type B) name = pure none) (I : ExcIn Bh h x C vs mA)
    (hq : ∀ h' tk', ExcIn Bh h' x C vs (fun y => if y = name then some v else mA y) → Q () ⟨h', g, d, tk', os⟩) (hw : Within mA ns) (hsz : ns.length ≤ 100) :
    wpAny (model prog w) A (setAttr (.ref x) name v) Q E ⟨h, g, d, t, os⟩ := by
  obtain ⟨dx, hx, _⟩ := I.obj
  have f3 := SF.slot.bind (.ref x)
  unfold setAttr callSpecial? specialOf
  repeat (any_goals (first | assumption | with_reducible refine wpAny_loadPart_at hx ?_ | with_reducible refine lookup_two hC hC' hn hn' hs hs' SF.mro SF.slot.lookup ?_ | wp_step))
  refine codeAny_call_builtin SF.slot.plain SF.entry (exc_check_sa SF hC hx rfl (exc_store_in SF hC hC' hn hn' hna hna' hB I (fun h' tk' I' => ?_) hw hsz))
  repeat (any_goals (first | assumption | wp_step))
  exact hq h' tk' I'
end
structure MadeD (h h' : Heap) (e : Addr) (cls : Value) (t : Addr) (args : List Value) : Prop where
  keeps : ∀ b o, h.get? b = some o → h'.get? b = some o
  new : h.get? e = none
  obj : ∃ dd, h'.get? e = some { cls := cls, dict := dd, data := .fields #[.ref t, .none, .none, .none, .bool false, .none] }
  tn : h.get? t = none
  tup : h'.get? t = some { cls := .type "tuple", data := .seq args.toArray }
section
variable {M : Model} {A : Around} {E : Value → Shared → Prop} {s : Shared}
theorem leaves_madeD {base h : Heap} {env : Env} {outer : List Env} {L e t : Addr} {cls : Value} {args : List Value} {Q : Unit → Shared → Prop}
    (hfr : A.frames = some (env :: outer)) (hf : env.frame = some L) (hkb : base.StaysIn h) (hl : h.FunFrames base (env :: outer)) (hx : MadeD h s.heap e cls t args)
    (hQ : ∀ h', Heap.FlyingW base outer e cls (.ref t) h' → h'.TupAt t args → base.get? t = none → s.heap.UpToSlots h' → Q () { s with heap := h' }) : wpAny M A (leaving env (.ref e)) Q E s := by
  obtain ⟨dd, he⟩ := hx.obj
  have xL : ∀ b, h.get? b = none → base.get? b = none := fun b hb => by
    cases hq : base.get? b with
    | none => rfl
    | some o' => have := hkb b o' hq; rw [hb] at this; cases this
  refine wpAny_leaving_firstW (a0 := .ref t) hfr (hl.of_keeps fun b o hb _ => ⟨o, hx.keeps b o hb, rfl⟩) hf he (fun b o hb => hx.keeps b o (hkb b o hb)) (xL e hx.new) rfl rfl rfl fun h' hL => ?_
  obtain ⟨k1, ⟨_, _, k2⟩, k3, k4⟩ := hL
  exact hQ h' ⟨k1, xL e hx.new, k2, k3⟩ (Heap.TupAt.of_slots ⟨_, _, hx.tup, rfl, rfl⟩ k4) (xL t hx.tn) k4
end
section
variable {M : Model} {A : Around} {E : Value → Shared → Prop} {s' : Shared} {base g h : Heap} {outer : List Env} {L a e t : Addr} {m : Str → Option Value} {name : Str} {scope : Scope} {cd : Value} {Q : Unit → Shared → Prop} {news : List (Addr × Obj)}
theorem leave_raiseD {cls : Value} {vs : List Value} (K : Below A base outer g) (hx : MadeD h s'.heap e cls t vs) (F : Fr g L h m) (N : News g L h news)
    (hQ : ∀ h', RaisedS base g outer e cls t vs news h' → g.UpToSlots h' → Q () { s' with heap := h' }) (hk : scope.kind = .function) :
    wpAny M (A.deeper (envOf name scope L a cd)) (leaving (envOf name scope L a cd) (.ref e)) Q E s' := by
  have K' := K.push (name := name) (a := a) (cd := cd) F hk
  have hin : ∀ env ∈ (envOf name scope L a cd :: outer), ∀ b, env.frame = some b → b ∈ (envOf name scope L a cd :: outer).filterMap (·.frame) := fun env he b hb => List.mem_filterMap.mpr ⟨env, he, hb⟩
  have st : base.StaysIn (hideAll h ((envOf name scope L a cd :: outer).filterMap (·.frame))) := fun b o q => hideAll_get _ (K'.stays b o q) fun hm => by
    rw [(K'.frames.mem hm).1] at q; cases q
  have sg : ∀ b o, g.get? b = some o → b ∉ outer.filterMap (·.frame) → (hideAll h ((envOf name scope L a cd :: outer).filterMap (·.frame))).get? b = some o := fun b o q nm => hideAll_get _ (F.keep b o q) fun hm => by
    rcases kts_mem hm with z | z
    · rw [z, kts_self F] at q
      cases q
    · exact nm z
  have hl : ∀ q ∈ news, (hideAll h ((envOf name scope L a cd :: outer).filterMap (·.frame))).get? q.1 = some q.2 ∧ g.get? q.1 = none ∧ base.get? q.1 = none := fun q hq => by
    refine ⟨hideAll_get _ (N q hq).1 fun hm => ?_, (N q hq).2.2, fresh_of_stays K.stays (N q hq).2.2⟩
    obtain ⟨env, he, hf⟩ := List.mem_filterMap.mp hm
    rcases List.mem_cons.mp he with rfl | he
    · exact (N q hq).2.1 (Option.some.inj hf).symm
    · obtain ⟨o, ho, _⟩ := (K.frames.mem (List.mem_filterMap.mpr ⟨env, he, hf⟩)).2
      rw [(N q hq).2.2] at ho; cases ho
  have hx' : MadeD h s'.heap e cls t vs := hx
  exact leaves_madeD K'.stack rfl (fun b o q => of_hideAll _ q) (funFrames_hide K'.frames hin) hx fun h' x1 x2 x3 x4 =>
    have R : RaisedS base g outer e cls t vs news h' := ⟨⟨_, st, sg, hl, x1, x3⟩, x2⟩
    hQ h' R (((Heap.UpToSlots.of_keeps F.keep).trans (Heap.UpToSlots.of_keeps hx.keeps)).trans x4)
end
section
variable {M : Model} {A : Around} {E : Value → Shared → Prop} {env : Env}
variable {nm q : Str} {C N : Addr} {bs bm : List Value} {hdct : Bool} {sn : List Str} {sub : List Value} {ab : Bool} {col : Option Bool} {dd : Option Addr} {k0 k1 k2 k3 k5 : Option Value} {newId : String}
theorem raise_madeD {s : Shared} {x : Sem Value} {Q : Flow → Shared → Prop} (hbase : bm.contains (.type "BaseException") = true) (hh : A.handled = none)
    (h : wpAny M A x (fun v s₁ => ∃ e t dx, v = .ref e ∧ s₁.heap.get? C = some (excClassObj nm q C N bs bm hdct sn sub ab col dd k0 k1 k2 k3 k5 newId) ∧
      s₁.heap.get? e = some { cls := .ref C, dict := dx, data := .fields #[.ref t, .none, .none, .none, .bool false, .none] } ∧ E (.ref e) s₁) E s) :
    wpAny M A (raiseStmt env (some x) none) Q E s := by
  have hcB : (Value.ref C :: bm).contains (.type "BaseException") = true := by rw [List.contains_cons, hbase, Bool.or_true]
  unfold raiseStmt
  refine wpAny_bind (wpAny_mono h (fun v s₁ h₁ => ?_) fun _ _ x => x)
  obtain ⟨e, t, dx, rfl, hC, he, hE⟩ := h₁
  obtain ⟨hp, g, d, tk, os⟩ := s₁
  repeat (first | with_reducible refine wpAny_loadPart_at he ?_ | with_reducible refine wpAny_loadPart_at hC ?_ | (with_reducible refine wpAny_isSubtype_exc hC ?_; rw [hcB]) | wp_step)
  exact wpAny_raiseNew_none hh hE
end
theorem ns_some {K : Frag} {h : Heap} {N : Addr} {mg : Str → Option Value} {n : Str} {v : Value} (X : K.In h) (G : h.Ns N mg) (e : nsIn K N n = some (some v)) : mg n = some v := by
  obtain ⟨o, es, ep, ho, hd, _, hf⟩ := G
  unfold nsIn at e
  split at e
  · rename_i c d es' n' sl q
    have := X _ _ q
    rw [ho] at this
    cases this
    cases hd
    split at e
    · rename_i en he
      cases e
      rw [← hf]
      unfold nsFind findBy
      rw [← Array.find?_toList, he]
      rfl
    · split at e <;> cases e
  · cases e
noncomputable abbrev excBm : List Value := [.type "Exception", .type "BaseException", .type "object"]
noncomputable abbrev mP (C t : Addr) (dd : Option Addr) : Obj := { cls := .ref C, dict := dd, data := .fields #[.ref t, .none, .none, .none, .bool false, .none] }
inductive ExcCls (G : Gl) (C f : Addr) (x y : Str) : Prop
  | mk (nm q : Str) (N : Addr) (bs : List Value) (sn : List Str) (sub : List Value) (ab : Bool) (col : Option Bool) (dd : Option Addr) (k0 k1 k2 k3 k5 : Option Value) (nm' q' : Str) (C' N' : Addr) (bs' bm' : List Value) (hd' : Bool) (sn' : List Str) (sub' : List Value) (ab' : Bool) (col' : Option Bool) (dd' : Option Addr) (j0 j1 j2 j3 j5 : Option Value) (newId' : String)
    (h1 : G.K.lookup C = some (excClassObj nm q C N bs (.ref C' :: excBm) true sn sub ab col dd k0 k1 k2 k3 k5 wI)) (h2 : G.K.lookup C' = some (excClassObj nm' q' C' N' bs' bm' hd' sn' sub' ab' col' dd' j0 j1 j2 j3 j5 newId'))
    (g0 : nsOkIn G.K N = true ∧ nsOkIn G.K N' = true ∧ nsIn G.K N "__init__" = some (some (.ref f)))
    (g1 : nsIn G.K N "__setattr__" = some none ∧ nsIn G.K N' "__setattr__" = some none)
    (g2 : nsIn G.K N x = some none ∧ nsIn G.K N' x = some none)
    (g3 : nsIn G.K N y = some none ∧ nsIn G.K N' y = some none) : ExcCls G C f x y
inductive ExcInit (G : Gl) (f : Addr) (x y : Str) : Prop
  | mk (name qual : Str) (params : Arguments) (p1 p2 p3 p4 q1 q2 q3 q4 : Pos) (scope : Scope) (dV kV doc pm cdv ct : Value) (an od : Option Addr) (osl : Array (Option Value))
    (h1 : G.K.lookup f = some ⟨.type "function", od, .func (fnOf name qual params [.Assign [.Attribute (.Name "self" p1) x p2] (.Name x p3) p4, .Assign [.Attribute (.Name "self" q1) y q2] (.Name y q3) q4] scope dV kV doc pm an cdv ct), osl⟩) (h2 : codeIn G.K cdv qual = true)
    (h3 : (∀ (s : Shared) a b d, BindsTo s (fnOf name qual params [.Assign [.Attribute (.Name "self" p1) x p2] (.Name x p3) p4, .Assign [.Attribute (.Name "self" q1) y q2] (.Name y q3) q4] scope dV kV doc pm an cdv ct) ⟨[a, b, d], []⟩ [("self", a), (x, b), (y, d)]))
    (h4 : ((∀ z ∈ [("self" : Str), x, y], scope.names.lookup z = some .local) ∧ scope.isCoroutine = false ∧ scope.isGenerator = false ∧ scope.kind = .function ∧ (∀ z ∈ scope.names, z.2 ≠ .cell))) : ExcInit G f x y
structure ExcK (G : Gl) (C f : Addr) (x y : Str) : Prop where
  cls : ExcCls G C f x y
  init : ExcInit G f x y
  names : x ≠ "self" ∧ y ≠ "self" ∧ x ≠ y ∧ (x == ("__debug__" : Str)) = false ∧ (y == ("__debug__" : Str)) = false ∧ typeLookup (.type "Exception") x = pure none ∧ typeLookup (.type "Exception") y = pure none
theorem exc_bm {C' : Addr} : Bm (.ref C' :: excBm) := ⟨rfl, rfl, rfl, rfl, rfl⟩
theorem ns_keeps {h h' : Heap} {a : Addr} {m : Str → Option Value} (x : h.Ns a m) (k : ∀ b o, h.get? b = some o → h'.get? b = some o) : h'.Ns a m := let ⟨o, es, ep, e, r⟩ := x; ⟨o, es, ep, k _ _ e, r⟩
section
variable {G : Gl} {A : Around} {c : Fx} {l : List (Option Value)} {H : AH} {E : Value → Shared → Prop} {Q : Value → AH → Prop} {C f : Addr} {x y : Str}
theorem triV_exc {n : Nat} {mv pv : Value} (K : ExcK G C f x y) (ok : c.Ok) (hA : A.frames = some (c.env :: c.outer)) (room : Room (n + 1) A)
    (h : ∀ e t dd, H.free e → H.free t → e ≠ t → Q (.ref e) ((H.setI t [mv, pv]).setM e (.any (mP C t dd)))) : jF G A c (call (.ref C) [mv, pv]) l H Q E := jE fun g s S => by
  refine S.opn fun m news F r N i => ?_
  have X := S.X.keeps F.keep
  obtain ⟨nm, q, Nn, bs, sn, sub, ab, col, dd, k0, k1, k2, k3, k5, nm', q', C', Nn', bs', bm', hd', sn', sub', ab', col', dd', j0, j1, j2, j3, j5, newId', hC, hC', ⟨ok1, ok2, hi⟩, ⟨hs, hs'⟩, ⟨hx, hx'⟩, hy, hy'⟩ := K.cls
  obtain ⟨name, qual, params, p1, p2, p3, p4, q1, q2, q3, q4, scope, dV, kV, doc, pm, cdv, ct, an, od, osl, ho, hcd, hb, hloc, hco, hgen, hk, hcell⟩ := K.init
  obtain ⟨nx, ny, nxy, dx, dy, lx, ly⟩ := K.names
  obtain ⟨hp, gs, d, tk, os⟩ := s
  have nsN : hp.Ns Nn (hp.nsMap Nn) := .of_isNs (isNs_of_in X ok1)
  have nsN' : hp.Ns Nn' (hp.nsMap Nn') := .of_isNs (isNs_of_in X ok2)
  refine exc_call exc_bm (X _ _ hC) nsN (ns_some X nsN hi) (X _ _ ho) rfl (fun h' e hm => ?_) (by rw [sizeLine_eq]; simp)
  obtain ⟨t, he, htn, ht⟩ := hm.there
  have net : e ≠ t := fun q => by rw [q, ht] at he; cases he
  have F' : Fr g c.L h' m := ⟨ns_keeps F.ns hm.keeps, fun b o q => hm.keeps _ _ (F.keep _ _ q), F.above⟩
  have nL : ∀ b, hp.get? b = none → b ≠ c.L := fun b q z => by
    obtain ⟨o, _, _, ho, _⟩ := F.ns
    rw [z, ho] at q; cases q
  have ng : ∀ b, hp.get? b = none → g.get? b = none := fun b q => kts_none F.keep q
  have N' : News g c.L h' ((e, mP C t none) :: (t, kT [mv, pv]) :: news) := by
    intro p hp
    rcases List.mem_cons.mp hp with rfl | hp
    · exact ⟨he, nL _ hm.new, ng _ hm.new⟩
    rcases List.mem_cons.mp hp with rfl | hp
    · exact ⟨ht, nL _ htn, ng _ htn⟩
    · exact ⟨hm.keeps _ _ (N p hp).1, (N p hp).2⟩
  have fr : ∀ p ∈ news, hp.get? p.1 = some p.2 := fun p hp => (N p hp).1
  have hnt : ∀ p ∈ news, p.1 ≠ t := fun p hp z => by have := fr p hp; rw [z, htn] at this; cases this
  have hne : ∀ p ∈ news, p.1 ≠ e := fun p hp z => by have := fr p hp; rw [z, hm.new] at this; cases this
  have hfr : (A.under (.builtin "type.__call__" ⟨[.ref C, mv, pv], []⟩)).frames = some (c.env :: c.outer) := by
    have e : (Code.builtin "type.__call__" ⟨[.ref C, mv, pv], []⟩).envs = [] := rfl
    unfold Around.under
    rw [e]
    exact hA
  have w1 : (Code.builtin "type.__call__" ⟨[.ref C, mv, pv], []⟩).weight = 1 := by rfl
  have hdep : (A.under (.builtin "type.__call__" ⟨[.ref C, mv, pv], []⟩)).depth < recursionLimit := by
    have := room.depth
    show A.depth + (Code.builtin "type.__call__" ⟨[.ref C, mv, pv], []⟩).weight < _
    rw [w1]; lia
  refine wpAny_call (code_defS (cn := c.cn) (cs := c.cs) (a := c.a) (ccd := c.ccd) S.B F' S.X N' S.T S.XB.X S.TB S.D S.T0 hfr ho hcd hdep (hb _ _ _ _)
    (fun z hz => hloc _ (by rcases List.mem_cons.mp hz with rfl | hz; exact .head _; rcases List.mem_cons.mp hz with rfl | hz; exact .tail _ (.head _); rcases List.mem_cons.mp hz with rfl | hz; exact .tail _ (.tail _ (.head _)); cases hz)) ?_ ok.kind hco hgen hk hcell)
  intro g₁ L' h₁ F₀ F₁ N₁ B₁ X₁ T₁ D₁
  have Nw := N₁ _ (.head _)
  have Fk : ∀ h₂ : Heap, (∀ b o, (hideAll h₁ [e]).get? b = some o → h₂.get? b = some o) → Fr g₁ L' h₂ (fun z => ([("self", Value.ref e), (x, mv), (y, pv)] : List (Str × Value)).reverse.lookup z) := fun h₂ k => by
    obtain ⟨o, es, ep, ho, rr⟩ := F₁.ns
    exact ⟨⟨o, es, ep, k _ _ (hideAll_get [e] ho (fun z => by rcases List.mem_cons.mp z with z | z; exact Nw.2.1 z.symm; cases z)), rr⟩,
      fun b o q => k _ _ (hideAll_get [e] (F₁.keep _ _ q) (fun z => by rcases List.mem_cons.mp z with z | z; (rw [z, Nw.2.2] at q; cases q); cases z)), F₁.above⟩
  have I₁ : ExcIn (hideAll h₁ [e]) h₁ e C #[.ref t, .none, .none, .none, .bool false, .none] (fun _ => none) := ⟨fun b o q => of_hideAll _ q, hideAll_none [e] (.head _), none, Nw.1, .inl ⟨rfl, fun _ => rfl⟩⟩
  have Kk : ∀ h₂ : Heap, (∀ b o, (hideAll h₁ [e]).get? b = some o → h₂.get? b = some o) → G.K.In h₂ := fun h₂ k => X₁.keeps (Fk h₂ k).keep
  have l1 : ([("self", Value.ref e), (x, mv), (y, pv)] : List (Str × Value)).reverse.lookup ("self" : Str) = some (Value.ref e) := by
    have a1 : (("self" : Str) == y) = false := beq_eq_false_iff_ne.mpr (Ne.symm ny)
    have a2 : (("self" : Str) == x) = false := beq_eq_false_iff_ne.mpr (Ne.symm nx)
    simp [List.lookup, a1, a2]
  have l2 : ([("self", Value.ref e), (x, mv), (y, pv)] : List (Str × Value)).reverse.lookup x = some mv := by
    have a1 : (x == y) = false := beq_eq_false_iff_ne.mpr nxy
    simp [List.lookup, a1]
  have l3 : ([("self", Value.ref e), (x, mv), (y, pv)] : List (Str × Value)).reverse.lookup y = some pv := by simp [List.lookup]
  refine fC fun R' E' hR _ => ?_
  refine wpAny_execs_cons (plainObj_wpAny_Assign_Attribute ?_ (xC rfl))
  refine ld F₁ l2 ?_ hk (hloc _ (.tail _ (.head _))) dx
  refine ld F₁ l1 ?_ hk (hloc _ (.head _)) rfl
  have st : ∀ {h₂ : Heap} {tk₂ : Nat} {mA : Str → Option Value} {z : Str} {v : Value} {A₂ : Around} {E₂ : Value → Shared → Prop} {Q₂ : Unit → Shared → Prop} {ns : List Str}, ExcIn (hideAll h₁ [e]) h₂ e C #[.ref t, .none, .none, .none, .bool false, .none] mA →
      nsIn G.K Nn z = some none → nsIn G.K Nn' z = some none → typeLookup (.type "Exception") z = pure none → Within mA ns → ns.length ≤ 100 →
      (∀ h₃ tk₃, ExcIn (hideAll h₁ [e]) h₃ e C #[.ref t, .none, .none, .none, .bool false, .none] (fun y => if y = z then some v else mA y) → Q₂ () ⟨h₃, gs, d, tk₃, os⟩) → wpAny (model G.prog G.w) A₂ (setAttr (.ref e) z v) Q₂ E₂ ⟨h₂, gs, d, tk₂, os⟩ := by
    intro h₂ tk₂ mA z v A₂ E₂ Q₂ ns I a1 a2 a3 hw hl k
    have X₂ := Kk h₂ I.keeps
    have n1 : h₂.Ns Nn (h₂.nsMap Nn) := .of_isNs (isNs_of_in X₂ ok1)
    have n2 : h₂.Ns Nn' (h₂.nsMap Nn') := .of_isNs (isNs_of_in X₂ ok2)
    exact exc_store PySem.F.store_Exception (X₂ _ _ hC) (X₂ _ _ hC') n1 n2 (ns_none_of X₂ n1 a1) (ns_none_of X₂ n2 a2) (ns_none_of X₂ n1 hs) (ns_none_of X₂ n2 hs') a3 I k hw hl
  refine st I₁ hx hx' lx Within.nil (by simp) fun h₂ tk₂ I₂ => ?_
  refine wpAny_execs_cons (plainObj_wpAny_Assign_Attribute ?_ (xC rfl))
  have F₂ := Fk h₂ I₂.keeps
  refine ld F₂ l3 ?_ hk (hloc _ (.tail _ (.tail _ (.head _)))) dy
  refine ld F₂ l1 ?_ hk (hloc _ (.head _)) rfl
  refine st I₂ hy hy' ly (Within.cons x mv Within.nil) (by simp) fun h₃ tk₃ I₃ => ?_
  refine wpAny_execs_nil ?_
  obtain ⟨dd₃, he₃, _⟩ := I₃.obj
  have N₃ : News g₁ L' h₃ ((e, mP C t dd₃) :: (t, kT [mv, pv]) :: news) := by
    intro p hp
    rcases List.mem_cons.mp hp with rfl | hp'
    · exact ⟨he₃, Nw.2⟩
    · have := N₁ p (.tail _ hp')
      refine ⟨I₃.keeps _ _ (hideAll_get [e] this.1 fun z => ?_), this.2⟩
      have z : p.1 = e := by rcases List.mem_cons.mp z with z | z; exact z; cases z
      rcases List.mem_cons.mp hp' with rfl | hp'
      · exact net z.symm
      · exact hne _ hp' z
  refine hR _ _ ?_
  refine leaveS_r (Fk h₃ I₃.keeps) N₃ KtsTurn.refl fun h₀' T' F'' N'' B'' X'' P'' D'' => ⟨rfl, h₀', _, ⟨B'', ⟨m, F'', r⟩, S.XB, S.TB, D'', T', ⟨_, N'', ?_⟩, S.same.trans ⟨rfl, rfl, rfl⟩⟩, h e t dd₃ (kG i hne) (kG i hnt) net⟩
  exact vX (fun p hp => (List.mem_cons.mp hp).elim (fun q => by rw [q]; exact Ne.symm net) (hne p)) (fF hnt i) ⟨rfl, by intro z; cases z⟩
end
section
variable {G : Gl} {C : Addr} {X : AH → Prop}
theorem exC_in {c c₁ : Fx} {ea t : Addr} {vs : List Value} {news : List (Addr × Obj)} {g₁ : Heap} {H : AH} {s' : Shared} {h' : Heap} (hb : c₁.base = c.base) (ho : c₁.outer = c.env :: c.outer) (hp : c₁.pin = c.pin)
    {m₀ : Str → Option Value} {l₀ : List (Option Value)} (sm₀ : Same c.s₀ c₁.s₀) {h₀ : Heap} (B₀ : Below c.A₀ c.base c.outer h₀) (F₀ : Fr h₀ c.L c₁.g₀ m₀) (lr₀ : uO c.ns l₀ m₀) (D₀ : KtsDicts c.fs h₀) (T₀ : KtsTurn c.fs c.g₀ h₀)
    (sm : Same c₁.s₀ s') (T : KtsTurn c₁.fs c₁.g₀ g₁) (R : RaisedS c₁.base g₁ c₁.outer ea (.ref C) t vs news h') (u : g₁.UpToSlots h') (i : AH.In H c₁.pin news) (hx : X H) :
    ExC c C X (.ref ea) { s' with heap := h' } := by
  have hfs : c₁.fs = (envOf c.cn c.cs c.L c.a c.ccd :: c.outer).filterMap (·.frame) := by unfold Fx.fs; rw [ho]; rfl
  obtain ⟨g', T', F', B'⟩ := kts_ground (B := g₁) (h₅ := g₁) (cd := c.ccd) (a := c.a) (name := c.cn) (scope := c.cs) B₀ F₀ (fun b o e nm => T.other b o e (by rw [hfs]; exact nm)) (fun b o e => e) (fun b o e _ => T.up e)
  exact ⟨ea, t, vs, news, g', g₁, m₀, l₀, H, rfl, (sm₀.trans sm).trans (gY _ _), B', F', lr₀, D₀.turn T', T₀.trans T', by rw [← hb, ← ho]; exact R, u, hp ▸ i, hx⟩
inductive FaultF (G : Gl) (C : Addr) : Prop
  | mk (name qual : Str) (params : Arguments) (np q1 q2 q3 cpos pos : Pos) (scope : Scope) (dV kV doc pm cdv ct oc : Value) (an od : Option Addr) (osl : Array (Option Value))
    (h1 : G.K.lookup 186 = some ⟨oc, od, .func (fnOf name qual params [.Raise (some (.Call (.Name "PathFault" np) [.Name "message" q1, .Attribute (.Name "self" q2) "at" q3] [] cpos)) none pos] scope dV kV doc pm an cdv ct), osl⟩) (h2 : codeIn G.K cdv qual = true)
    (h3 : (∀ (s : Shared) a b, BindsTo s (fnOf name qual params [.Raise (some (.Call (.Name "PathFault" np) [.Name "message" q1, .Attribute (.Name "self" q2) "at" q3] [] cpos)) none pos] scope dV kV doc pm an cdv ct) ⟨[a, b], []⟩ [("self", a), ("message", b)]))
    (h4 : ((∀ z ∈ [("self" : Str), "message"], scope.names.lookup z = some .local) ∧ scope.isCoroutine = false ∧ scope.isGenerator = false ∧ scope.kind = .function ∧ (∀ z ∈ scope.names, z.2 ≠ .cell)))
    (h5 : scope.names.lookup ("PathFault" : Str) = some .globalImplicit ∧ nsIn G.K mainGlobals "PathFault" = some (some (.ref C)) ∧ keepIn G.K (.ref C) = true ∧ getOk G.K 245 "at" = true) : FaultF G C
theorem in_less {H H' : AH} {pin news : List (Addr × Obj)} {e t : Addr} (i : H'.In pin news) (le : AH.Le H H') (fe : H.free e) (ft : H.free t) (pe : ∀ q ∈ pin, q.1 ≠ e) (pt : ∀ q ∈ pin, q.1 ≠ t) :
    H.In pin (news.filter fun q => q.1 ≠ e && q.1 ≠ t) := by
  have ok : ∀ (a : Addr) (o : Obj), (a, o) ∈ news → a ≠ e → a ≠ t → (a, o) ∈ news.filter fun q => q.1 ≠ e && q.1 ≠ t := fun a o m h1 h2 => List.mem_filter.mpr ⟨m, by simp [h1, h2]⟩
  have nI : ∀ {a b : Addr} {vs : List Value}, H.I a = some vs → H.free b → a ≠ b := fun h f q => by rw [q, f.1] at h; cases h
  have nM : ∀ {a b : Addr} {mo : MObj}, H.M a = some mo → H.free b → a ≠ b := fun h f q => by rw [q, f.2] at h; cases h
  refine ⟨fun a vs h => ok _ _ (i.tup a vs (le.1 a vs h)) (nI h fe) (nI h ft), fun a mo h => ?_, fun q hq => ⟨?_, (i.pins q hq).2.1, (i.pins q hq).2.2.le le⟩⟩
  · obtain ⟨o, r, m⟩ := i.obs a mo (le.2 a mo h)
    exact ⟨o, r, ok _ _ m (nM h fe) (nM h ft)⟩
  · exact ok q.1 q.2 (i.pins q hq).1 (pe q hq) (pt q hq)
theorem c_fault {n : Nat} {f x d : Addr} (F : FaultF G C) (K : ExcK G C f "message" "place") : FaultC G C (n + 2) X x d := by
  intro H Q l i mm tm rd hx
  obtain ⟨name, qual, params, np, q1, q2, q3, cpos, pos, scope, dV, kV, doc, pm, cdv, ct, oc, an, od, osl, ho, hcd, hb, ⟨hloc, hco, hgen, hk, hcell⟩, hgl, hC, hkeep, hget⟩ := F
  refine ⟨fun c A ok hA room g s lo S => ?_⟩
  refine S.opn fun m news Fr₀ lr N ii => ?_
  refine code_defS (cn := c.cn) (cs := c.cs) (a := c.a) (ccd := c.ccd) S.B Fr₀ S.X N S.T S.XB.X S.TB S.D S.T0 hA ho hcd (by have := room.depth; lia) (hb _ _ _)
    (fun z hz => hloc _ (by rcases List.mem_cons.mp hz with rfl | hz; exact .head _; rcases List.mem_cons.mp hz with rfl | hz; exact .tail _ (.head _); cases hz)) ?_ ok.kind hco hgen hk hcell
  intro g₁ L' h₁ F₀ F₁ N₁ B₁ X₁ T₁ D₁
  let c₁ : Fx := ⟨A, c.base, c.env :: c.outer, g₁, s, qual, scope, L', 186, cdv, ["self", "message"], c.pin⟩
  have hst : c₁.A.frames = some (c₁.env :: c₁.outer) := Around.frames_deeper hA
  have ok₁ : c₁.Ok := ⟨hk, (by decide : [("self" : Str), "message"].Nodup), hloc⟩
  have rm₁ : Room (n + 1) c₁.A := room.deeper c₁.env
  have S₁ : FS G c₁ g₁ { s with heap := h₁, toks := s.toks + [("self", Value.ref x), ("message", Value.str mm tm)].length } [some (.ref x), some (.str mm tm)] H :=
    ⟨B₁, ⟨_, F₁, mD (xs := ["self", "message"]) (vs := [.ref x, .str mm tm]) (by decide) rfl [] (by decide)⟩, S.XB, S.TB, D₁, KtsTurn.refl, ⟨news, N₁, ii⟩, ⟨rfl, rfl, rfl⟩⟩
  obtain ⟨nm, q, Nn, bs, sn, sub, ab, col, dd, k0, k1, k2, k3, k5, nm', q', C', Nn', bs', bm', hd', sn', sub', ab', col', dd', j0, j1, j2, j3, j5, newId', hCo, _⟩ := K.cls
  refine fC fun R' E' _ hE => ?_
  refine wpAny_execs_cons ?_
  rw [arm_exec_Raise]
  refine wpAny_bind (wpAny_standAt (raise_madeD (C := C) (nm := nm) (q := q) (N := Nn) (bs := bs) (bm := .ref C' :: excBm) (hdct := true) (sn := sn) (sub := sub) (ab := ab) (col := col) (dd := dd) (k0 := k0) (k1 := k1) (k2 := k2) (k3 := k3) (k5 := k5) (newId := wI) rfl rm₁.hand (wpAny_bind ?_)))
  obtain ⟨tx, ta, h2⟩ := rd.dct
  have ea : ∀ Q, jY 245 (.ref x) "at" H Q = Q (.int i ta) H := fun Q => yL rd.obj h2 rfl rfl
  have tri : ∀ E, jF G c₁.A c₁ (eval (.Call (.Name "PathFault" np) [.Name "message" q1, .Attribute (.Name "self" q2) "at" q3] [] cpos) c₁.env) [some (.ref x), some (.str mm tm)] H
      (fun v H' => ∃ e t dd, v = .ref e ∧ H.free e ∧ H.free t ∧ e ≠ t ∧ H' = (H.setI t [.str mm tm, .int i ta]).setM e (.any (mP C t dd))) E := fun E => by
    refine vZ rfl (fE hkeep) (fun q => vB ok₁ hC hgl rfl q) ?_
    refine yZ (i := 1) ok₁ rfl rfl rfl ?_
    refine gF (xW rfl) (yZ (i := 0) ok₁ rfl rfl rfl (pX hget ?_))
    rw [ea]
    exact triV_exc K ok₁ hst rm₁ fun e t dd fe ft ne => ⟨e, t, dd, rfl, fe, ft, ne, rfl⟩
  refine jA (tri _) S₁ fun v g₂ s₂ H₂ S₂ hv => wpAny_bind (wpAny_standAt (wpAny_pure ?_))
  obtain ⟨e, t, dx, rfl, fe, ft, ne, rfl⟩ := hv
  refine S₂.opn fun m₂ news₂ F₂ lr₂ N₂ i₂ => ?_
  obtain ⟨oe, re, me⟩ := i₂.obs e (.any (mP C t dx)) (by simp [AH.setM])
  obtain rfl : oe = mP C t dx := re.1
  have mt := i₂.tup t [.str mm tm, .int i ta] (by simp [AH.setM, AH.setI])
  refine ⟨e, t, dx, rfl, F₂.keep _ _ (S₂.X _ _ hCo), (N₂ _ me).1, ?_⟩
  have pe : ∀ q ∈ c.pin, q.1 ≠ e := fun q hq z => by
    have := (i₂.pins q hq).2.2.2
    simp [AH.setM, z] at this
  have pt : ∀ q ∈ c.pin, q.1 ≠ t := fun q hq z => by
    have := (i₂.pins q hq).2.2.1
    simp [AH.setM, AH.setI, z] at this
  have le : AH.Le H ((H.setI t [.str mm tm, .int i ta]).setM e (.any (mP C t dx))) := by
    refine ⟨fun a vs h => ?_, fun a mo h => ?_⟩
    · have : a ≠ t := fun z => by rw [z, ft.1] at h; cases h
      simp [AH.setM, AH.setI, this, h]
    · have : a ≠ e := fun z => by rw [z, fe.2] at h; cases h
      simp [AH.setM, AH.setI, this, h]
  have i₃ := in_less i₂ le fe ft pe pt
  have hid : ∀ b o, s₂.heap.get? b = some o → b ≠ e → b ≠ t → (hideAll s₂.heap [e, t]).get? b = some o := fun b o q n1 n2 => hideAll_get [e, t] q fun z => by
    rcases List.mem_cons.mp z with z | z
    · exact n1 z
    · rcases List.mem_cons.mp z with z | z
      · exact n2 z
      · cases z
  have hx' : MadeD (hideAll s₂.heap [e, t]) s₂.heap e (.ref C) t [.str mm tm, .int i ta] :=
    ⟨fun b o q => of_hideAll _ q, hideAll_none _ (.head _), ⟨dx, (N₂ _ me).1⟩, hideAll_none _ (.tail _ (.head _)), (N₂ _ mt).1⟩
  have F₃ : Fr g₂ c₁.L (hideAll s₂.heap [e, t]) m₂ := by
    obtain ⟨o, es, ep, ho', rr⟩ := F₂.ns
    refine ⟨⟨o, es, ep, hid _ _ ho' (Ne.symm (N₂ _ me).2.1) (Ne.symm (N₂ _ mt).2.1), rr⟩, fun b o q => hid _ _ (F₂.keep _ _ q) (fun z => ?_) (fun z => ?_), F₂.above⟩
    · have := (N₂ _ me).2.2; rw [← z, q] at this; cases this
    · have := (N₂ _ mt).2.2; rw [← z, q] at this; cases this
  have N₃ : News g₂ c₁.L (hideAll s₂.heap [e, t]) (news₂.filter fun q => q.1 ≠ e && q.1 ≠ t) := fun q hq => by
    obtain ⟨hq, z⟩ := List.mem_filter.mp hq
    simp only [ne_eq, decide_not, Bool.and_eq_true, Bool.not_eq_true', decide_eq_false_iff_not] at z
    exact ⟨hid _ _ (N₂ q hq).1 z.1 z.2, (N₂ q hq).2⟩
  exact hE _ _ (leave_raiseD (name := qual) (scope := scope) (a := 186) (cd := cdv) S₂.B hx' F₃ N₃ (fun h' R u => exC_in (c₁ := c₁) rfl rfl rfl (Same.trans S.same (Same.refl _)) S.B F₀ lr S.D S.T0 S₂.same S₂.T0 R u i₃ hx) hk)
end
theorem fault_k {G : Gl} (hK : G.K = KK G.w.params) : ExcK G 63 60 "message" "place" := by
  refine ⟨?_, ?_, by decide, by decide, by decide, by decide, by decide, by rw [typeLookup_type, builtinLookup_eq_fast]; kernel_rfl, by rw [typeLookup_type, builtinLookup_eq_fast]; kernel_rfl⟩
  · refine ⟨_, _, _, _, _, _, _, _, _, _, _, _, _, _, _, _, _, _, _, _, _, _, _, _, _, _, _, _, _, _, _, _, by rw [hK]; k_is, by rw [hK]; k_is, ⟨by rw [hK]; kernel_rfl, by rw [hK]; kernel_rfl, by rw [hK]; k_is⟩, ⟨by rw [hK]; k_is, by rw [hK]; k_is⟩, ⟨by rw [hK]; k_is, by rw [hK]; k_is⟩, by rw [hK]; k_is, by rw [hK]; k_is⟩
  · refine ⟨_, _, _, _, _, _, _, _, _, _, _, _, _, _, _, _, _, _, _, _, _, by rw [hK]; k_is, by rw [hK]; k_is, ?_, by decide⟩
    intro s a b d
    exact BindsTo.of_eq rfl
theorem fault_f {G : Gl} (hK : G.K = KK G.w.params) : FaultF G 63 := by
  refine ⟨_, _, _, _, _, _, _, _, _, _, _, _, _, _, _, _, _, _, _, _, by rw [hK]; k_is, by rw [hK]; k_is, ?_, by decide, by decide, by rw [hK]; k_is, by rw [hK]; k_is, by rw [hK]; kernel_rfl⟩
  intro s a b
  exact BindsTo.of_eq rfl
section
variable {G : Gl} {A : Around} {c : Fx} {l : List (Option Value)} {H : AH} {E : Value → Shared → Prop} {Q : Value → AH → Prop} {C : Addr} {X : AH → Prop}
theorem triV_callC {n : Nat} {f : Value} {vs : List Value} (ok : c.Ok) (hA : A.frames = some (c.env :: c.outer)) (room : Room n A) (h : CallT G C n f vs H Q X) (k : ∀ e s, ExC c C X e s → E e s) : jF G A c (call f vs) l H Q E :=
  jE fun g s S => wpAny_call (codeAny_mono (h.go c A ok hA room g s l S) fun r s' x => by
    cases r with
    | error e => exact k _ _ x
    | ok f => cases f with
      | ret v => exact x
      | _ => exact x.elim)
inductive ReadF (G : Gl) (C : Addr) : Prop
  | mk (name qual : Str) (params : Arguments) (np q1 cp rp nq : Pos) (ck : Nat) (c1 rq hp tp : Pos) (scope : Scope) (dV kV doc pm cdv ct oc : Value) (an od : Option Addr) (osl : Array (Option Value))
    (h1 : G.K.lookup 436 = some ⟨oc, od, .func (fnOf name qual params [.Try [.Return (some (.Call (.Name "read_commands" np) [.Name "text" q1] [] cp)) rp] [.ExceptHandler (some (.Name "PathFault" nq)) none [.Return (some (.Constant .none ck c1)) rq] hp] [] [] tp] scope dV kV doc pm an cdv ct), osl⟩) (h2 : codeIn G.K cdv qual = true)
    (h3 : (∀ (s : Shared) a, BindsTo s (fnOf name qual params [.Try [.Return (some (.Call (.Name "read_commands" np) [.Name "text" q1] [] cp)) rp] [.ExceptHandler (some (.Name "PathFault" nq)) none [.Return (some (.Constant .none ck c1)) rq] hp] [] [] tp] scope dV kV doc pm an cdv ct) ⟨[a], []⟩ [("text", a)]))
    (h4 : ((∀ z ∈ [("text" : Str)], scope.names.lookup z = some .local) ∧ scope.isCoroutine = false ∧ scope.isGenerator = false ∧ scope.kind = .function ∧ (∀ z ∈ scope.names, z.2 ≠ .cell)))
    (h5 : (scope.names.lookup ("PathFault" : Str) = some .globalImplicit ∧ scope.names.lookup ("read_commands" : Str) = some .globalImplicit) ∧ nsIn G.K mainGlobals "PathFault" = some (some (.ref C)) ∧ nsIn G.K mainGlobals "read_commands" = some (some (.ref 291)) ∧ keepIn G.K (.ref 291) = true ∧ ktsIn G.K C "BaseException" = true) : ReadF G C
theorem res_hide {M : Model} {A : Around} {α : Type} {x : Sem α} {R : α → Shared → Prop} {E : Value → Shared → Prop} {s : Shared} (h : ∀ R', (∀ v s', R v s' → R' v s') → wpAny M A x R' E s) : wpAny M A x R E s := h R fun _ _ y => y
theorem c_read {n : Nat} (F : ReadF G C) (hF : Fn G) (fa : ∀ (X : AH → Prop) x d, FaultC G C (n + 5) X x d) : ReadC G C (n + 10) := by
  intro H Q X ls tm al lim sm h
  obtain ⟨name, qual, params, np, q1, cp, rp, nq, ck, c1, rq, hp, tp, scope, dV, kV, doc, pm, cdv, ct, oc, an, od, osl, ho, hcd, hb, ⟨hloc, hco, hgen, hk, hcell⟩, ⟨hg1, hg2⟩, hC, hR, hkeep, hts⟩ := F
  refine ⟨fun c A ok hA room g s lo S => ?_⟩
  refine S.opn fun m news Fr₀ lr N ii => ?_
  refine code_defS (cn := c.cn) (cs := c.cs) (a := c.a) (ccd := c.ccd) S.B Fr₀ S.X N S.T S.XB.X S.TB S.D S.T0 hA ho hcd (by have := room.depth; lia) (hb _ _)
    (fun z hz => hloc _ (by rcases List.mem_cons.mp hz with rfl | hz; exact .head _; cases hz)) ?_ ok.kind hco hgen hk hcell
  intro g₁ L' h₁ F₀ F₁ N₁ B₁ X₁ T₁ D₁
  let c₁ : Fx := ⟨A, c.base, c.env :: c.outer, g₁, s, qual, scope, L', 436, cdv, ["text"], c.pin⟩
  have hst : c₁.A.frames = some (c₁.env :: c₁.outer) := Around.frames_deeper hA
  have ok₁ : c₁.Ok := ⟨hk, (by decide : [("text" : Str)].Nodup), hloc⟩
  have rm₁ : Room (n + 9) c₁.A := room.deeper c₁.env
  have S₁ : FS G c₁ g₁ { s with heap := h₁, toks := s.toks + [("text", Value.str (Mine.S ls) tm)].length } [some (.str (Mine.S ls) tm)] H :=
    ⟨B₁, ⟨_, F₁, mD (xs := ["text"]) (vs := [.str (Mine.S ls) tm]) (by decide) rfl [] (by decide)⟩, S.XB, S.TB, D₁, KtsTurn.refl, ⟨news, N₁, ii⟩, ⟨rfl, rfl, rfl⟩⟩
  refine res_hide fun R' hR' => ?_
  have out : ∀ {v : Value} {g' : Heap} {s' : Shared} {l' : List (Option Value)} {H' : AH}, FS G c₁ g' s' l' H' → Q v H' → R' (.ret v) s' := by
    intro v g' s' l' H' S' q
    refine hR' _ _ ?_
    refine S'.opn fun m' news' F' _ N' i' => ?_
    exact leaveS_r F' N' S'.T0 fun h₀' T' F'' N'' B'' X'' P'' D'' => ⟨h₀', H', ⟨B'', ⟨m, F'', lr⟩, S.XB, S.TB, D'', T', ⟨news', N'', i'⟩, S.same.trans S'.same⟩, q⟩
  refine wpAny_execs_cons (wpAny_Try_except ?_)
  refine wpAny_execs_cons (wpAny_Return_some ?_)
  refine jA (Q := fun v H' => Q v H') (vZ rfl (fE hkeep) (fun q => vB ok₁ hR hg2 rfl q) (yZ (i := 0) ok₁ rfl rfl rfl (triV_callC (n := n + 9) (X := fun H' => AH.Le H H' ∧ rd ls = none) ok₁ hst rm₁
    (Fn.commands hF fa al lim sm (fun cs hr f H' le cm => h _ _ le (by rw [hr]; exact ⟨f, rfl, cm⟩)) fun hr H' le => ⟨le, hr⟩) fun e s₂ x => ?_))) S₁ fun v g₂ s₂ H₂ S₂ q => out S₂ q
  obtain ⟨ea, t, vs, news₂, g₂, Gh, m₂, l₂, H₂, rfl, sm₂, B₂, F₂, lr₂, D₂, T₂, R₂, up, i₂, le, hn⟩ := x
  refine caught_SO0 (a := 436) (cd := cdv) (name := qual) (scope := scope) R₂ F₂ B₂ up S.XB.X S.TB D₂ T₂ hC hts (fun h' g' news₃ Tt F' _ _ N' B' X' P' D' => ?_) hk hg1 rfl PassesOwnAt.leaving
  refine wpAny_execs_cons (wpAny_Return_some ?_)
  have S₃ : FS G c₁ g' { s₂ with heap := h' } l₂ H₂ := ⟨B', ⟨_, F', lr₂⟩, S.XB, S.TB, D', Tt, ⟨_, N', i₂⟩, sm₂.trans ⟨rfl, rfl, rfl⟩⟩
  refine jA (Q := fun v H' => v = .none ∧ H' = H₂) (triV_const (c := c₁) ⟨rfl, rfl⟩) S₃ fun v g₄ s₄ H₄ S₄ q => ?_
  obtain ⟨rfl, rfl⟩ := q
  exact out S₄ (h _ _ le (by rw [hn]))
end
theorem read_f {G : Gl} (hK : G.K = KK G.w.params) : ReadF G 63 := by
  refine ⟨_, _, _, _, _, _, _, _, _, _, _, _, _, _, _, _, _, _, _, _, _, _, _, _, by rw [hK]; k_is, by rw [hK]; k_is, ?_, by decide, by decide, by rw [hK]; k_is, by rw [hK]; k_is, by rw [hK]; k_is, by rw [hK]; kernel_rfl⟩
  intro s a
  exact BindsTo.of_eq rfl
section
variable {prog : Program} {w : World} {A₀ A : Around} {s : Shared} {base h₀ g₀ : Heap} {outer : List Env} {L a : Addr} {m : Str → Option Value} {cn : Str} {cs : Scope} {ccd : Value} {news : List (Addr × Obj)} {K : Frag} {p : Program} {loose : List Str} {mean : ExcName → Option Value} {mg mb : Str → Option Value}
    {R : Result → Shared → Prop} {name qual : Str} {params : Arguments} {body : List Stmt} {scope : Scope} {dV kV doc pm cdv ct oc : Value} {an od : Option Addr} {osl : Array (Option Value)} {f : Addr} {args : Args} {binds : List (Str × Value)}
theorem code_cells (B : Below A₀ base outer h₀) (F : Fr h₀ L s.heap m) (X₀ : K.In h₀) (N : News h₀ L s.heap news) (T : Top p loose mean mg mb h₀) (XB : K.In base) (TB : Top p loose mean mg mb base) (D : KtsDicts (outer.filterMap (·.frame)) h₀)
    (T0 : KtsTurn (outer.filterMap (·.frame)) g₀ h₀) (hA : A.frames = some (envOf cn cs L a ccd :: outer))
    (ho : K.lookup f = some ⟨oc, od, .func (fnOf name qual params body scope dV kV doc pm an cdv ct), osl⟩) (hcd : codeIn K cdv qual = true) (hroom : A.depth < recursionLimit)
    (hbind : BindsTo s (fnOf name qual params body scope dV kV doc pm an cdv ct) args binds)
    (hkind : ∀ n, ∀ x ∈ binds, scope.names.lookup x.1 = some .local ∨ (scope.names.lookup x.1 = some .cell ∧ ((cellsFrom n scope.names []).lookup x.1).isSome = true))
    (hnd : ((cellsFrom 0 scope.names []).map (·.1)).Nodup)
    (h : ∀ g L' h₁ tk cells, Fr h₀ L g m → Fr g L' h₁ (bindL (envOfC qual scope L' f cdv).kindOf binds fun _ => none) → News g L' h₁ (cells ++ news) →
      CellsAre (bindC (envOfC qual scope L' f cdv).kindOf binds fun _ => none) (cellsFrom (L' + 1) scope.names []) cells → Below A base (envOf cn cs L a ccd :: outer) g → K.In g → Top p loose mean mg mb g → KtsDicts ((envOf cn cs L a ccd :: outer).filterMap (·.frame)) g → (∀ p ∈ news, p.1 < L') →
      wpAny (model prog w) (A.deeper (envOfC qual scope L' f cdv)) (execs body (envOfC qual scope L' f cdv))
        (fun fl s' => LeaveS ((envOf cn cs L a ccd :: outer).filterMap (·.frame)) A₀ base outer K p loose mean mg mb g₀ h₀ L m g R (match fl with | .ret v => v | _ => .none) s')
        (fun e s' => wpAny (model prog w) (A.deeper (envOfC qual scope L' f cdv)) (leaving (envOfC qual scope L' f cdv) e) (fun _ s'' => R (.error e) s'') (fun e' s'' => R (.error e') s'') s')
        { s with heap := h₁, toks := tk })
    (hck : cs.kind = .function) (hco : scope.isCoroutine = false) (hgen : scope.isGenerator = false) (hk : scope.kind = .function) : codeAny (model prog w) A (.call (.ref f) args) R s := by
  have X := X₀.keeps F.keep
  obtain ⟨oL, es, ep, hLg, hLd, hN, hNs, st, B₂⟩ := kts_enter B F N hA hck
  refine codeAny_call_function (fd := fnOf name qual params body scope dV kV doc pm an cdv ct) (body := body) hroom (X _ _ ho) rfl hco hgen rfl (codeRec_of X hcd) (hbind _ _ _ _ ?_)
  refine wpAny_newFunctionEnv_cells hk (hkind _) fun env' he s' x => ?_
  subst he
  refine ⟨(T.nolimit.keeps F.keep).keeps x.toInCall.keep, codeAny_func ?_⟩
  obtain ⟨h₁, tk, rfl, _⟩ := x.done
  have hk₁ := x.toInCall.keep
  obtain ⟨cells, NC, Y⟩ := Cl.news (h₀ := s.heap) (Nat.le_refl _) fun n c hm => ⟨x.cell n c (lookup_of_mem_nodup (cellsFrom_names scope.names 0 (s.heap.objs.size + 1) [] [] rfl ▸ hnd) hm), x.above n c hm⟩
  refine wpAny_mono (h (hideAll s.heap (news.map (fun x : Addr × Obj => x.1))) s.heap.objs.size h₁ tk cells ⟨hN _ hLg, st, F.above⟩ ⟨x.toInCall.ns, fun b o e => hk₁ b o (of_hideAll _ e), Nat.le_of_eq (hideAll_size _ _)⟩ (fun p hp => ?_) Y B₂ (X₀.keeps st) (T.keeps st) (fun b hb => by
      rcases kts_mem hb with rfl | hb
      · exact ⟨oL, es, ep, hLg, hLd⟩
      · obtain ⟨o, es', n', ho', hd'⟩ := D b hb
        exact ⟨o, es', n', st b o ho', hd'⟩) (fun p hp => Heap.lt_size (N p hp).1)) (fun fl s' hl => ?_) fun _ _ y => y
  · rcases List.mem_append.mp hp with hp | hp
    · refine ⟨(NC p hp).1, (NC p hp).2.1, ?_⟩
      cases q : (hideAll s.heap (news.map (·.1))).get? p.1 with
      | none => rfl
      | some o => have := of_hideAll _ q; rw [(NC p hp).2.2] at this; cases this
    · exact ⟨hk₁ _ _ (N p hp).1, Nat.ne_of_lt (Heap.lt_size (N p hp).1), hideAll_none _ (List.mem_map_of_mem hp)⟩
  have nL₀ : h₀.get? L = none := kts_self F
  rcases hl with ⟨L', m', news', F', N', k⟩ | ⟨g', L', m', news', T', F', N', k⟩
  · refine k ⟨hN _ (F'.keep _ _ hLg), fun b o e => F'.keep b o (st b o e), F.above⟩ fun p hp => ⟨(N' p hp).1, fun q => ?_, ?_⟩
    · have := (N' p hp).2.2; rw [q, hLg] at this; cases this
    · cases q : h₀.get? p.1 with
      | none => rfl
      | some o => have := (N' p hp).2.2; rw [st _ _ q] at this; cases this
  obtain ⟨sl, hs⟩ := T'.up hLg
  obtain ⟨T₁, S₁⟩ := kts_turn_at (h := s'.heap) (fs := outer.filterMap (·.frame)) (g := h₀)
    (fun b hb => by
      obtain ⟨_, o, ho', _⟩ := B.frames.mem hb
      exact ⟨o, ho'⟩)
    (fun b o e nmem => F'.keep b o (T'.other b o (st b o e) (fun q => by
      rcases kts_mem q with z | z
      · rw [z, nL₀] at e
        cases e
      · exact nmem z)))
    (fun b o e hm => by
      obtain ⟨sl', hs'⟩ := T'.up (st b o e)
      exact ⟨sl', F'.keep _ _ hs'⟩)
  have B₃ : Below A₀ base outer (ktsHeap s'.heap (outer.filterMap (·.frame)) h₀) := ⟨B.stack, fun b o e => T₁.other b o (B.stays b o e) (fun hm => by
    rw [(B.frames.mem hm).1] at e
    cases e), B.frames.of_keeps fun b o e _ => by
    obtain ⟨sl', hs'⟩ := T₁.up e
    exact ⟨_, hs', rfl⟩⟩
  refine k _ (T0.trans T₁) ⟨hNs sl _ (F'.keep _ _ hs), S₁, by rw [T₁.size]; exact F.above⟩ (fun p hp => ⟨(N' p hp).1, fun q => ?_, ?_⟩) B₃ (XB.keeps B₃.stays) (TB.keeps B₃.stays) (D.turn T₁)
  · have := (N' p hp).2.2; rw [q, hs] at this; cases this
  · refine T₁.none_ _ ?_
    cases q : h₀.get? p.1 with
    | none => rfl
    | some o =>
      obtain ⟨sl', hs'⟩ := T'.up (st _ _ q)
      have := (N' p hp).2.2
      rw [hs'] at this
      cases this
end
noncomputable def Fx.envC (c : Fx) (cl : List (Str × Addr)) : Env := envX c.cn c.cs c.L c.a c.ccd cl
section
variable {G : Gl} {A : Around} {c : Fx} {l : List (Option Value)} {H : AH} {E : Value → Shared → Prop} {Q : Value → AH → Prop} {g : Heap} {s : Shared} {cl : List (Str × Addr)} {ev : Env}
theorem kY {k : Const} {kk : Nat} {pos : Pos} (h : yE k H Q) : jF G A c (eval (.Constant k kk pos) ev) l H Q E := by
  cases k with
  | none => exact jT h fun s R r => wpAny_Constant_none r
  | bool b => exact jT h fun s R r => wpAny_Constant_bool r
  | int i => exact zO h fun s R r => wpAny_Constant_int (r _ _)
  | str x => exact zO h fun s R r => wpAny_Constant_str (r _ _)
  | _ => exact h.elim
theorem x_local {x : Str} {pos : Pos} {i : Nat} {v : Value} (ok : c.Ok) (hx : c.ns[i]? = some x) (hd : (x == ("__debug__" : Str)) = false) (hv : l[i]? = some (some v)) (h : Q v H) :
    jF G A c (eval (.Name x pos) (c.envC cl)) l H Q E := jE fun g s S => by
  obtain ⟨m, F, r⟩ := S.F
  exact nameX_L F (by rw [r.2 i x hx, hv]; rfl) ⟨g, H, S, h⟩ ok.kind (ok.loc x (List.mem_of_getElem? hx)) hd
theorem x_cell {x : Str} {pos : Pos} {cc : Addr} {co : Obj} {v : Value} (ok : c.Ok) (hp : (cc, co) ∈ c.pin) (hcd : co.data = .cell (some v)) (hc : cl.lookup x = some cc) (hk : c.cs.names.lookup x = some .cell) (hb : (x == ("__debug__" : Str)) = false) (h : Q v H) :
    jF G A c (eval (.Name x pos) (c.envC cl)) l H Q E := jE fun g s S => by
  obtain ⟨news, N, i⟩ := S.led
  exact nameX_C N hc (i.pins _ hp).1 hcd ⟨g, H, S, h⟩ ok.kind hk hb
theorem rK {x : Str} {pos : Pos} {v : Value} (ok : c.Ok) (e : nsIn G.K mainGlobals x = some none) (hb : bootBuiltins x = some v) (hn : x ≠ "__name__") (hx : c.cs.names.lookup x = some .globalImplicit) (hd : (x == ("__debug__" : Str)) = false)
    (h : Q v H) : jF G A c (eval (.Name x pos) (c.envC cl)) l H Q E := jE fun g s S => by
  obtain ⟨m, F, r⟩ := S.F
  exact nameX_B F S.X (topRead_of S.T) e hb hn ⟨g, H, S, h⟩ ok.kind hx hd
theorem x_BinOp {x y : Expr} {op : Operator} {pos : Pos} (h : jF G A c (eval x ev) l H (fun a H₁ => jF G A c (eval y ev) l H₁ (fun b H₂ => jF G A c (binaryOp op a b) l H₂ Q E) E) E) : jF G A c (eval (.BinOp x op y pos) ev) l H Q E :=
  jE fun _ _ S => wpAny_BinOp (jA h S fun _ _ _ _ S₁ h₁ => jA h₁ S₁ fun _ _ _ _ S₂ h₂ => jU h₂ S₂)
theorem x_Compare1 {x y : Expr} {op : CmpOp} {pos : Pos} (hm : behindInMarks op y = false)
    (h : jF G A c (eval x ev) l H (fun a H₁ => jF G A c (eval y ev) l H₁ (fun b H₂ => jF G A c (compareOp op a b) l H₂ Q E) E) E) : jF G A c (eval (.Compare x [op] [y] pos) ev) l H Q E :=
  jE fun _ _ S => wpAny_Compare1 (jA h S fun _ _ _ _ S₁ h₁ => jA h₁ S₁ fun _ _ _ _ S₂ h₂ => jU h₂ S₂) hm
theorem x_isCmp {x y : Expr} {op : CmpOp} {pos : Pos} {whole : Sem Value} {Q : Value → Bool → AH → Prop} (hm : behindInMarks op y = false)
    (h : jF G A c (eval x ev) l H (fun a H₁ => jF G A c (eval y ev) l H₁ (fun b H₂ => jF G A c (compareOp op a b) l H₂ (fun v H => jW v H (Q v)) E) E) E) : jF G A c (isTrue (.Compare x [op] [y] pos) ev whole) l H (fun b H' => ∃ v, pL v = some b ∧ Q v b H') E :=
  jE fun _ _ S => wpAny_isTrue_Compare1 (jA h S fun _ _ _ _ S₁ h₁ => jA h₁ S₁ fun _ _ _ _ S₂ h₂ => jA h₂ S₂ fun _ _ _ _ S₃ h₃ => jU (truthyT h₃) S₃) hm
theorem gC {v i : Expr} {pos : Pos} (h : jF G A c (eval v ev) l H (fun o H₁ => jF G A c (eval i ev) l H₁ (fun u H₂ => jF G A c (subscriptTail v i o u) l H₂ Q E) E) E) : jF G A c (eval (.Subscript v i pos) ev) l H Q E :=
  jE fun _ _ S => Subscript_ (jA h S fun _ _ _ _ S₁ h₁ => jA h₁ S₁ fun _ _ _ _ S₂ h₂ => jU h₂ S₂)
theorem x_slc {value : Expr} {lo hi : Option Expr} {p pos : Pos} (h : jF G A c (eval value ev) l H (fun o H₁ => jF G A c (evalPart lo ev) l H₁ (fun x H₂ => jF G A c (evalPart hi ev) l H₂ (fun y H₃ => wP o x y H₃ Q) E) E) E) :
    jF G A c (eval (.Subscript value (.Slice lo hi none p) pos) ev) l H Q E := jE fun _ _ S =>
  Subscript_ (jA h S fun _ _ _ _ S₁ h₁ => wpAny_Slice (jA h₁ S₁ fun _ _ _ _ S₂ h₂ => jA h₂ S₂ fun _ _ _ _ S₃ h₃ => wpAny_pure (slice_tail S₃ h₃)))
theorem x_none (h : Q .none H) : jF G A c (evalPart none ev) l H Q E := jE fun g s S => wpAny_pure ⟨g, H, S, h⟩
noncomputable def TLx (G : Gl) (A : Around) (c : Fx) (l : List (Option Value)) (E : Value → Shared → Prop) (ev : Env) : List Expr → AH → (List Value → AH → Prop) → Prop
  | [], H, Q => Q [] H
  | e :: es, H, Q => jF G A c (eval e ev) l H (fun v H => TLx G A c l E ev es H fun vs H => Q (v :: vs) H) E
theorem rJ {pos : Pos} : ∀ {as : List Expr} {H : AH} {Q : List Value → AH → Prop}, as.all noStar = true → TLx G A c l E ev as H Q → jF G A c (spliced (backTo pos (starEach as ev))) l H Q E
  | [], H, Q, _, h => jT h fun _ _ r => wpAny_items_nil r
  | e :: es, H, Q, hn, h => by
    rw [List.all_cons, Bool.and_eq_true] at hn
    refine jE fun g s S => wpAny_items_cons ?_ (qQ hn.1)
    refine jA h S fun v g₁ s₁ H₁ S₁ h₁ => ?_
    exact jA (rJ hn.2 h₁) S₁ fun vs g₂ s₂ H₂ S₂ q => ⟨g₂, H₂, S₂, q⟩
theorem x_tuple {es : List Expr} {k : Nat} {pos : Pos} (hn : es.all noStar = true) (h : TLx G A c l E ev es H fun vs H => jF G A c (newTuple vs) l H Q E) : jF G A c (eval (.Tuple es k pos) ev) l H Q E :=
  jE fun g s S => Tuple_ (jA (rJ hn h) S fun _ _ _ _ S₁ h₁ => jU h₁ S₁)
theorem x_callWith {pos : Pos} {f : Value} {as : List Expr} (hk : rH G f) (hn : as.all noStar = true)
    (h : TLx G A c l E ev as H fun vs H => jF G A c (call f vs) l H Q E) : jF G A c (callWith pos f [] (backTo pos (starEach as ev)) []) l H Q E := jE fun g s S => by
  refine callWith_of (P := G.K.In) (by rw [nX pos ev hn]; rfl) hk ?_
  cases as with
  | nil => exact evalArgs_nil3 ⟨S.X.keeps (let ⟨_, F, _⟩ := S.F; F.keep), jU h S⟩
  | cons e es =>
    have hn' := hn
    rw [List.all_cons, Bool.and_eq_true] at hn'
    have key := jA (R := fun vs s₁ => G.K.In s₁.heap ∧ wpAny (model G.prog G.w) A (call f vs) (fun v s' => ∃ g' H', FS G c g' s' l H' ∧ Q v H') E s₁) (rJ (pos := pos) hn h) S
      fun vs g₁ s₁ H₁ S₁ h₁ => ⟨S₁.X.keeps (let ⟨_, F, _⟩ := S₁.F; F.keep), jU h₁ S₁⟩
    rw [qQ hn'.1] at key ⊢
    exact evalArgs_plain key
theorem x_Call {x : Str} {p pos : Pos} {f : Value} {as : List Expr} (hn : as.all noStar = true) (hk : rH G f) (hf : ∀ {H : AH} {Q : Value → AH → Prop}, Q f H → jF G A c (eval (.Name x p) ev) l H Q E)
    (h : TLx G A c l E ev as H fun vs H => jF G A c (call f vs) l H Q E) : jF G A c (eval (.Call (.Name x p) as [] pos) ev) l H Q E := jE fun g s S => by
  refine wpAny_bind ?_
  refine jA (hf (Q := fun v H₁ => v = f ∧ H₁ = H) ⟨rfl, rfl⟩) S fun v g₁ s₁ H₁ S₁ e => ?_
  obtain ⟨rfl, rfl⟩ := e
  exact jU (x_callWith hk hn h) S₁
theorem x_Dict {es : List (Option Expr)} {fs : List Expr} {ks : List Str} {vs : List Const} {pos : Pos} (hc : chkD es fs ks vs = true) (nd : ks.Nodup) (h0 : ks ≠ []) (hl : ks.length ≤ 15)
    (h : ∀ a o, H.free a → (a == sysModules) = false → TabObj (strKind G.prog G.w) PyData.str (datC ks vs) o → Q (.ref a) (H.setM a (.any o))) : jF G A c (eval (.Dict es fs pos) ev) l H Q E := jE fun g s S => by
  refine S.opn fun m news F r N i => ?_
  obtain ⟨a1, a2, a3, a4, a5, a6, a7⟩ := pV hc
  refine Dict_lits_str a1 a2 (by rw [a3]; exact nd) a4 a5 (fun e => h0 (by rw [e] at a6; exact List.eq_nil_of_length_eq_zero a6.symm)) (by rw [a6]; exact hl) fun a o h₁ tk hsz ho ht hk => ?_
  have hne : ∀ p ∈ news, p.1 ≠ a := fun p hp e => absurd (Nat.lt_of_lt_of_le (e ▸ Heap.lt_size (N p hp).1) hsz) (Nat.lt_irrefl _)
  have hcls : o.cls ≠ .type "tuple" := by
    obtain ⟨_, ⟨_, _, hx, _⟩, _⟩ := ht
    rw [hx.1]; decide
  have F' : Fr g c.L h₁ m := ⟨(Heap.UpToSlots.of_keeps hk).ns F.ns, fun b o e => hk b o (F.keep b o e), F.above⟩
  have ga : g.get? a = none := by
    cases q : g.get? a with
    | none => rfl
    | some o' => exact absurd (Nat.lt_of_lt_of_le (Heap.lt_size (F.keep a o' q)) hsz) (Nat.lt_irrefl _)
  have La : a ≠ c.L := fun e => by
    obtain ⟨oL, _, _, hL, _⟩ := F.ns
    exact absurd (Nat.lt_of_lt_of_le (e ▸ Heap.lt_size hL) hsz) (Nat.lt_irrefl _)
  have N' : News g c.L h₁ ((a, o) :: news) := fun p hp => by
    rcases List.mem_cons.mp hp with rfl | hp
    · exact ⟨ho, La, ga⟩
    · exact ⟨hk _ _ (N p hp).1, (N p hp).2⟩
  refine ⟨g, H.setM a (.any o), S.next F' r N' (vX hne i ⟨rfl, hcls⟩) ⟨rfl, rfl, rfl⟩, h a o (kG i hne) ?_ ht⟩
  have : s.heap.NoLimit := S.T.nolimit.keeps F.keep
  have lo := modules_low this
  exact beq_eq_false_iff_ne.mpr fun e => by
    subst e
    exact absurd (Nat.lt_of_lt_of_le lo hsz) (Nat.lt_irrefl _)
end
inductive Prs (H : AH) : List Value → List Value → Prop
  | nil : Prs H [] []
  | snoc {a u w ys ws} : Prs H ys ws → H.I a = some [u, w] → Prs H (ys ++ [.ref a]) (ws ++ [u, w])
theorem Prs.up {H H' : AH} (h : ∀ a vs, H.I a = some vs → H'.I a = some vs) {ys ws : List Value} : Prs H ys ws → Prs H' ys ws
  | .nil => .nil
  | .snoc p e => .snoc (p.up h) (h _ _ e)
noncomputable abbrev nP (a b c : Int) (t u v : Tok) : Obj := { cls := .type "range", data := .fields #[.int a t, .int b u, .int c v] }
section
variable {G : Gl} {A : Around} {c : Fx} {l : List (Option Value)} {H : AH} {E : Value → Shared → Prop} {Q : Value → AH → Prop} {g : Heap} {s : Shared}
theorem x_range {b : Int} {t u w : Tok} (hp : Builtin.divisionGoesByPylong (b - 0) 2 = false) (h : ∀ r, H.free r → Q (.ref r) (H.setM r (.any (nP 0 b 2 t u w)))) : jF G A c (call (.type "range") [.int 0 t, .int b u, .int 2 w]) l H Q E := jE fun g s S => by
  refine S.opn fun m news F r N i => ?_
  have hne := wC N
  exact call_range_3 (by decide) ⟨g, _, S.next (F.push _) r (News.push F N _) (vX (mo := .any (nP 0 b 2 t u w)) hne i ⟨rfl, fun z => absurd (Value.type.inj z) (by decide)⟩) ⟨rfl, rfl, rfl⟩, h _ (fG N i)⟩ (.inl hp)
theorem raw_slice {L na : Addr} {m : Str → Option Value} {all : List (Addr × Obj)} {vs : List Value} {i j : Nat} {t u : Tok} {value : Expr} {lo hi : Option Expr} {p : Pos} {R : Value → Shared → Prop} (F : Fr g L s.heap m) (N : News g L s.heap all) (hm : (na, kT vs) ∈ all)
    (h1 : i ≤ j) (h2 : j ≤ vs.length) (h3 : vs.length ≤ 1000)
    (hn : ∀ r h', Fr g L h' m → News g L h' ((r, kT ((vs.take j).drop i)) :: all) → (∀ p ∈ all, p.1 ≠ r) → R (.ref r) { s with heap := h' })
    (hs : i = 0 → j = vs.length → ∀ h', Fr g L h' m → News g L h' all → R (.ref na) { s with heap := h' }) :
    wpAny (model G.prog G.w) A (subscriptTail value (.Slice lo hi none p) (.ref na) (.ref s.heap.objs.size)) R E { s with heap := s.heap.push { cls := .type "slice", data := .fields #[.int i t, .int j u, .none] } } := by
  have F1 := F.push { cls := .type "slice", data := .fields #[.int i t, .int j u, .none] }
  have N1 := N.grown (h' := s.heap.push { cls := .type "slice", data := .fields #[.int i t, .int j u, .none] }) fun _ _ e => Heap.get?_push_of_some _ e
  have ht' : IsTup (s.heap.push { cls := .type "slice", data := .fields #[.int i t, .int j u, .none] }) na vs.toArray := ⟨_, (N1 _ hm).1, rfl, 0, rfl⟩
  have hsz : vs.toArray.size = vs.length := List.size_toArray
  have e1 : vs.toArray.toList = vs := rfl
  have ei : qZ (some (i : Int)) = i := by simp [qZ]
  have ej : ∀ n, kF n (some (j : Int)) = j := fun n => by simp [kF]
  refine tail_any (ops := [.ref s.heap.objs.size, .ref na]) (s := { s with heap := s.heap.push { cls := .type "slice", data := .fields #[.int i t, .int j u, .none] } }) ht'.typeIs slot_tuple_getitem.lookup
    (vP (i := some (i : Int)) (j := some (j : Int)) ht' (Heap.IsSliceOf.new ..) rfl rfl (by simp) (by simp) (by rw [ei, ej]; exact h1) (by rw [ej, hsz]; exact h2) ?_ (fun e e' => hs (by rw [ei] at e; exact e) (by rw [ej, hsz] at e'; exact e') _ F1 N1) (by rw [hsz, sizeLine_eq]; lia)) rfl
  have N2 := News.push F1 N1 { cls := .type "tuple", data := .seq ((vs.toArray.toList.take (kF vs.toArray.size (some (j : Int)))).drop (qZ (some (i : Int)))).toArray }
  rw [e1, ei, ej] at N2 ⊢
  exact hn _ _ (F1.push _) N2 (wC N1)
theorem x_pairs {nx x : Str} {p1 p2 p3 p4 p5 p6 p7 px pos : Pos} {kk : Nat} {iter : Expr} {sc : Scope} {cl cl' : List (Str × Addr)} {cc na : Addr} {co : Obj} {vs : List Value} {n : Nat} (hh : A.handled = none)
    (hp : (cc, co) ∈ c.pin) (hcd : co.data = .cell (some (.ref na))) (hI : H.I na = some vs) (hlen : vs.length = 2 * n) (hn : n ≤ 100)
    (hclos : closureFor sc (c.envC cl) = pure cl') (hcl : cl'.lookup nx = some cc) (hcell : ∀ y ∈ sc.names, y.2 ≠ .cell) (hkind : sc.kind = .function) (hnames : ∀ y ∈ sc.names, y.2 = .local → sc.names.lookup y.1 = some .local)
    (hx : sc.names.lookup x = some .local) (hxd : (x == ("__debug__" : Str)) = false) (hnd : (nx == ("__debug__" : Str)) = false) (hrel : (relabel sc (c.envC cl)).names.lookup nx = some .cell) (hs : ∀ x, foldedSetIterable iter (c.envC cl) x = pure x)
    (hit : jF G A c (eval iter (c.envC cl)) l H (fun v H₁ => ∃ r t u w, v = .ref r ∧ AH.Le H H₁ ∧ H₁.M r = some (.any (nP 0 (2 * n : Nat) 2 t u w))) E)
    (h : ∀ D H₁ ys, AH.Le H H₁ → H₁.M D = some (.list ys) → ys.length = n → Prs H₁ ys vs → Q (.ref D) H₁) :
    jF G A c (eval (.ListComp (.Subscript (.Name nx p1) (.Slice (some (.Name x p2)) (some (.BinOp (.Name x p3) .Add (.Constant (.int 2) kk p4) p5)) none p6) p7) [⟨.Name x px, iter, [], 0⟩] sc pos) (c.envC cl)) l H Q E := jE fun g s S => by
  rw [eval_ListComp]
  refine wpAny_comprehension_free (use := none) rfl hs hclos hkind hnames (jA hit S fun xv g₁ s₁ H₁ S₁ hv => ?_)
  obtain ⟨r, t, u, w, rfl, le₁, hr⟩ := hv
  refine S₁.opn fun m₁ news₁ F₁ lr₁ N₁ i₁ => ?_
  obtain ⟨ro, ⟨rfl, _⟩, hrm⟩ := i₁.obs r _ hr
  have hrs : Builtin.Range.rangeSize 0 ((2 * n : Nat) : Int) 2 = (n : Int) := by
    unfold Builtin.Range.rangeSize
    by_cases h0 : n = 0
    · subst h0; rfl
    · rw [if_pos (by decide), if_pos (by lia)]; lia
  have hsm : Builtin.Range.small 0 ((2 * n : Nat) : Int) 2 = true := by
    have h5 : ∀ k ≤ 100, Builtin.Range.small 0 ((2 * k : Nat) : Int) 2 = true := by decide +kernel
    exact h5 n hn
  refine wpAny_pyIter_range (N₁ _ hrm).1 hsm ?_
  rw [hrs]
  have main : ∀ (s₂ : Shared) (k i : Nat) (ys : List Value) (news : List (Addr × Obj)), i + k = n → ys.length = i → (∃ H', AH.Le H₁ H' ∧ H'.In c.pin news ∧ Prs H' ys (vs.take (2 * i))) →
      LCg.CompRest G.prog G.w A g₁ c.L m₁ (c.envC cl) (.Subscript (.Name nx p1) (.Slice (some (.Name x p2)) (some (.BinOp (.Name x p3) .Add (.Constant (.int 2) kk p4) p5)) none p6) p7) x sc cl' s₂ (fun _ => True) (fun i v => ∃ t, v = .int (0 + (i : Int) * 2) t)
        (fun ys news => ys.length = n ∧ ∃ H', AH.Le H₁ H' ∧ H'.In c.pin news ∧ Prs H' ys vs) k i ys news := by
    intro s₂ k
    induction k with
    | zero =>
      intro i ys news hik hy hH
      obtain rfl : i = n := by lia
      refine LCg.CompRest.zero ⟨hy, ?_⟩
      rw [← hlen, List.take_length] at hH
      exact hH
    | succ k ih =>
      intro i ys news hik hy hH
      refine LCg.CompRest.succ fun v I oI Cn oC D m₂ h tk E' hP hns hv F N off ne3 => ?_
      obtain ⟨t', rfl⟩ := hP
      obtain ⟨H', le', i', prs⟩ := hH
      have hcell' : (cc, co) ∈ (I, oI) :: (Cn, oC) :: (D, LCg.lst ys) :: news := .tail _ (.tail _ (.tail _ (i'.pins _ hp).1))
      have htup : (na, kT vs) ∈ (I, oI) :: (Cn, oC) :: (D, LCg.lst ys) :: news := .tail _ (.tail _ (.tail _ (i'.tup na vs (le'.1 _ _ (le₁.1 _ _ hI)))))
      have hC := (N (Cn, oC) (.tail _ (.head _))).1
      have nm : ∀ {R : Value → Shared → Prop} {E₂ : Value → Shared → Prop} {tk₂ : Nat} {pp : Pos}, R (.int (0 + (i : Int) * 2) t') { s₂ with heap := h, toks := tk₂ } →
          wpAny (model G.prog G.w) A (eval (.Name x pp) (compEnvC sc cl' Cn (c.envC cl))) R E₂ { s₂ with heap := h, toks := tk₂ } := fun hR =>
        wpAny_Name (wpAny_loadName_local (env := compEnvC sc cl' Cn (c.envC cl)) hkind (lookup_relabel_local hx) (hns.ns hC) hv hR) hxd
      refine fC fun R' E' hR _ => ?_
      refine Subscript_ ?_
      refine lcf_cell (s := { s₂ with heap := h, toks := tk }) N hcl hcell' hcd ?_ hkind hrel hnd
      refine wpAny_Slice ?_
      rw [evalPart_some, evalPart_some, evalPart_none]
      refine nm ?_
      refine wpAny_BinOp (nm ?_)
      refine wpAny_Constant_int ?_
      refine PyProof.Rows.add_int ?_
      refine wpAny_pure ?_
      have ei : (0 + (i : Int) * 2) = ((2 * i : Nat) : Int) := by lia
      have ej : ((2 * i : Nat) : Int) + 2 = ((2 * i + 2 : Nat) : Int) := by lia
      rw [ei, ej]
      have hlt : 2 * i + 2 ≤ vs.length := by lia
      obtain ⟨a, b, rest, hab⟩ : ∃ a b rest, vs.drop (2 * i) = a :: b :: rest := by
        have hl : (vs.drop (2 * i)).length ≥ 2 := by rw [List.length_drop]; lia
        match hd : vs.drop (2 * i), hl with
        | a :: b :: rest, _ => exact ⟨a, b, rest, rfl⟩
        | [a], q => simp at q
        | [], q => simp at q
      have hpart : (vs.take (2 * i + 2)).drop (2 * i) = [a, b] := by
        rw [List.drop_take, hab]; simp
      have htk : vs.take (2 * (i + 1)) = vs.take (2 * i) ++ [a, b] := by
        rw [show 2 * (i + 1) = 2 * i + 2 from by lia, List.take_add, hab]; rfl
      refine raw_slice (L := c.L) (na := na) (vs := vs) (all := (I, oI) :: (Cn, oC) :: (D, LCg.lst ys) :: news) F N htup (by lia) hlt (by lia) (fun r' h' F' N' hne => ?_) fun e0 e1 h' F' N' => ?_
      · rw [hpart] at N'
        refine hR _ _ ?_
        refine LCg.CompEnd.intro F' N' ((r', kT [a, b]) :: news) (fun p hp => ?_) ⟨⟨Ne.symm (hne _ (.head _)), Ne.symm (hne _ (.tail _ (.head _))), Ne.symm (hne _ (.tail _ (.tail _ (.head _))))⟩, off⟩ trivial
          (ih (i + 1) _ _ (by lia) (by simp [hy]) ⟨H'.setI r' [a, b], le'.trans ?_, fF (fun p hp => hne p (.tail _ (.tail _ (.tail _ hp)))) i', ?_⟩)
        · rcases List.mem_cons.mp hp with rfl | hp
          · exact .tail _ (.head _)
          rcases List.mem_cons.mp hp with rfl | hp
          · exact .tail _ (.tail _ (.head _))
          rcases List.mem_cons.mp hp with rfl | hp
          · exact .tail _ (.tail _ (.tail _ (.head _)))
          rcases List.mem_cons.mp hp with rfl | hp
          · exact .head _
          · exact .tail _ (.tail _ (.tail _ (.tail _ hp)))
        · refine ⟨fun a' vs' e => ?_, fun _ _ e => e⟩
          have : a' ≠ r' := fun q => hne _ (.tail _ (.tail _ (.tail _ (i'.tup _ _ e)))) q
          simp [AH.setI, this, e]
        · rw [htk]
          refine .snoc (prs.up fun a' vs' e => ?_) (by simp [AH.setI])
          have : a' ≠ r' := fun q => hne _ (.tail _ (.tail _ (.tail _ (i'.tup _ _ e)))) q
          simp [AH.setI, this, e]
      · refine hR _ _ ?_
        refine LCg.CompEnd.intro F' N' news (fun p hp => hp) off trivial (ih (i + 1) _ _ (by lia) (by simp [hy]) ⟨H', le', i', ?_⟩)
        rw [htk]
        refine .snoc prs ?_
        have : vs = [a, b] := by
          have := hpart
          rw [e1, List.take_length, e0] at this
          simpa using this
        rw [← this]
        exact le'.1 _ _ (le₁.1 _ _ hI)
  have W := Walks.range (prog := G.prog) (w := G.w) (A := A) hh s₁.heap.objs.size 0 2 n
  refine LCg.block_U (news := news₁) (P := fun i v => ∃ t, v = .int (0 + (i : Int) * 2) t) (St := fun i h => IsRangeIter h s₁.heap.objs.size (0 + (i : Nat) * 2) ((n : Int) - (i : Nat)) 2) W (by rw [sizeLine_eq]; lia) (fun i h st => ⟨_, st⟩)
    (fun i h h' o nw st e e' _ _ _ => (by
      have st' : h.get? s₁.heap.objs.size = some _ := st
      show h'.get? s₁.heap.objs.size = some _
      rw [e', ← e]; exact st')) hcell hkind hx (by show IsRangeIter _ _ _ _ _; simpa using Heap.get?_push_size _ rfl) (fun b hb => ?_)
    (F₁.keeps fun _ _ e => Heap.get?_push_of_some _ e) (N₁.grown fun _ _ e => Heap.get?_push_of_some _ e) (Nat.ne_of_lt F₁.ns.lt) (next_is_new F₁) (fun p hp => Nat.ne_of_lt (Heap.lt_size (N₁ p hp).1)) trivial
    (main _ n 0 [] news₁ (by lia) rfl ⟨H₁, AH.Le.refl _, i₁, by simpa using Prs.nil⟩) ?_
  · rw [List.mem_singleton.mp hb]
    show s₁.heap.objs.size < (s₁.heap.push _).objs.size
    rw [Heap.size_push]; exact Nat.lt_succ_self _
  · intro D Cn h' tk m' ys news' F' N' o1 hn' hC₀ hD₀ hCL hDL hCD offC fin
    obtain ⟨hyl, H', le', i', prs⟩ := fin
    have hDn : ∀ p ∈ news', p.1 ≠ D := by
      have key : ∀ {nw : List (Addr × Obj)}, LCg.Off1 D nw → ∀ p ∈ nw, p.1 ≠ D := by
        intro nw
        induction nw with
        | nil => intro _ p hp; cases hp
        | cons q r ih =>
          intro x p hp
          rcases List.mem_cons.mp hp with rfl | hp
          · exact x.1
          · exact ih x.2 p hp
      exact key o1
    refine ⟨m', hn', fun h'' hs'' => ⟨g₁, H'.setM D (.list ys), S₁.next (F'.change hs'' hCL hC₀) lr₁ (news := (D, LCg.lst ys) :: news') (fun p hp => ?_) (vX hDn i' ⟨ys.length, rfl⟩) ⟨rfl, rfl, rfl⟩, h D _ ys ((le₁.trans le').trans (yN (kG i' hDn))) (by simp [AH.setM]) hyl (Prs.up (H := H') (H' := H'.setM D (.list ys)) (fun _ _ e => e) prs)⟩⟩
    refine ⟨hs''.extBut _ _ ?_ (N' p hp).1, (N' p hp).2⟩
    rcases List.mem_cons.mp hp with rfl | hp
    · exact Ne.symm hCD
    · exact offC p hp
end
structure NumIn (c : Fx) (cl : List (Str × Addr)) (na : Addr) : Prop where
  cell : ∃ cc co, (cc, co) ∈ c.pin ∧ co.data = .cell (some (.ref na)) ∧ cl.lookup ("numbers" : Str) = some cc
  kind : c.cs.names.lookup ("numbers" : Str) = some .cell
section
variable {G : Gl} {A : Around} {c : Fx} {l : List (Option Value)} {H : AH} {E : Value → Shared → Prop} {Q : Value → AH → Prop} {g : Heap} {s : Shared} {cl : List (Str × Addr)} {na : Addr}
theorem x_num {p : Pos} (ok : c.Ok) (n : NumIn c cl na) (h : Q (.ref na) H) : jF G A c (eval (.Name "numbers" p) (c.envC cl)) l H Q E := by
  obtain ⟨cc, co, a, b, d⟩ := n.cell
  exact x_cell ok a b d n.kind rfl h
theorem x_some {e : Expr} {ev : Env} (h : jF G A c (eval e ev) l H Q E) : jF G A c (evalPart (some e) ev) l H Q E := h
theorem x_arc {p1 p2 p3 p4 p5 p6 p7 p8 p9 p10 p11 p12 p13 p14 p15 p16 p17 p18 p19 p20 p21 p22 p23 : Pos} {k1 k2 k3 k4 k5 k6 k7 k8 k9 : Nat} (ok : c.Ok) (hu : A.units + 64 < cLine) (n : NumIn c cl na) {v0 v1 v2 v5 v6 : Value} {x3 x4 : Int} {t3 t4 : Tok} (hI : H.I na = some [v0, v1, v2, .int x3 t3, .int x4 t4, v5, v6])
    (h : ∀ t r r6 H', AH.Le H H' → H'.I r = some [.str "arc" t, v0, v1, v2, .bool (x3 == 1), .bool (x4 == 1), .ref r6] → H'.I r6 = some [v5, v6] → Q (.ref r) H') :
    jF G A c (eval (.BinOp (.BinOp (.Tuple [(.Constant (.str "arc") k1 p1)] k2 p2) .Add (.Subscript (.Name "numbers" p3) (.Slice none (some (.Constant (.int 3) k3 p4)) none p5) p6) p7) .Add (.Tuple [(.Compare (.Subscript (.Name "numbers" p8) (.Constant (.int 3) k4 p9) p10) [.Eq] [(.Constant (.int 1) k5 p11)] p12), (.Compare (.Subscript (.Name "numbers" p13) (.Constant (.int 4) k6 p14) p15) [.Eq] [(.Constant (.int 1) k7 p16)] p17), (.Subscript (.Name "numbers" p18) (.Slice (some (.Constant (.int 5) k8 p19)) none none p20) p21)] k9 p22) p23) (c.envC cl)) l H Q E := by
  refine x_BinOp (x_BinOp (x_tuple rfl (kY fun t => kO (by rw [sizeLine_eq]; simp) fun ra fa => ?_)))
  refine x_slc (x_num ok n (x_none (x_some (kY fun t' => ?_))))
  have e1 := (jD (vs := [.str "arc" t]) fa).1 _ _ hI
  simp only [wP, gQ, e1]
  refine ⟨by simp [qZ, kF], fun rb fb => ?_, fun _ e => absurd e (by simp [kF])⟩
  refine pY ?_
  have i1 : ((H.setI ra [.str "arc" t]).setI rb [v0, v1, v2]).I ra = some [.str "arc" t] := (jD fb).1 _ _ jS
  have i2 : ((H.setI ra [.str "arc" t]).setI rb [v0, v1, v2]).I rb = some [v0, v1, v2] := jS
  have e2 := (jD (vs := [v0, v1, v2]) fb).1 _ _ e1
  show kA .Add (.ref ra) (.ref rb) ((H.setI ra [.str "arc" t]).setI rb [v0, v1, v2]) _
  generalize hH2 : (H.setI ra [.str "arc" t]).setI rb [v0, v1, v2] = H2 at i1 i2 e2 ⊢
  have le2 : AH.Le H H2 := hH2 ▸ (jD fa).trans (jD fb)
  simp only [b_ref, i1, i2]
  refine ⟨by simp, fun q => (by cases q), fun _ q => (by cases q), fun _ _ rc fc => ?_⟩
  have i3 : (H2.setI rc ([.str "arc" t] ++ [v0, v1, v2])).I rc = some [.str "arc" t, v0, v1, v2] := jS
  have e3 := (jD (vs := [.str "arc" t] ++ [v0, v1, v2]) fc).1 _ _ e2
  have le3 : AH.Le H (H2.setI rc ([.str "arc" t] ++ [v0, v1, v2])) := le2.trans (jD fc)
  generalize H2.setI rc ([.str "arc" t] ++ [v0, v1, v2]) = H3 at i3 e3 le3 ⊢
  refine x_tuple rfl ?_
  refine x_Compare1 rfl (gC (x_num ok n (kY fun _ => triV_sub rfl ⟨_, .inl e3, by decide, ?_⟩)))
  refine kY fun _ => yF hu ?_
  refine x_Compare1 rfl (gC (x_num ok n (kY fun _ => triV_sub rfl ⟨_, .inl e3, by decide, ?_⟩)))
  refine kY fun _ => yF hu ?_
  refine x_slc (x_num ok n (x_some (kY fun _ => x_none ?_)))
  simp only [wP, gQ, e3]
  refine ⟨by simp [qZ, kF], fun r6 f6 => ?_, fun e => absurd e (by simp [qZ])⟩
  refine kO (by rw [sizeLine_eq]; simp) fun rd fd => pY ?_
  have j3 : ((H3.setI r6 [v5, v6]).setI rd [.bool (x3 == 1), .bool (x4 == 1), .ref r6]).I rc = some [.str "arc" t, v0, v1, v2] := (jD fd).1 _ _ ((jD f6).1 _ _ i3)
  have j6 : ((H3.setI r6 [v5, v6]).setI rd [.bool (x3 == 1), .bool (x4 == 1), .ref r6]).I r6 = some [v5, v6] := (jD fd).1 _ _ jS
  have jd : ((H3.setI r6 [v5, v6]).setI rd [.bool (x3 == 1), .bool (x4 == 1), .ref r6]).I rd = some [.bool (x3 == 1), .bool (x4 == 1), .ref r6] := jS
  have le5 : AH.Le H ((H3.setI r6 [v5, v6]).setI rd [.bool (x3 == 1), .bool (x4 == 1), .ref r6]) := (le3.trans (jD f6)).trans (jD fd)
  show kA .Add (.ref rc) (.ref rd) ((H3.setI r6 [v5, v6]).setI rd [.bool (x3 == 1), .bool (x4 == 1), .ref r6]) _
  generalize (H3.setI r6 [v5, v6]).setI rd [.bool (x3 == 1), .bool (x4 == 1), .ref r6] = H5 at j3 j6 jd le5 ⊢
  simp only [b_ref, j3, jd]
  exact ⟨by simp, fun q => (by cases q), fun _ q => (by cases q), fun _ _ r fr => h t r r6 _ (le5.trans (jD fr)) jS ((jD fr).1 _ _ j6)⟩
theorem x_kind {p1 p2 p3 p4 p5 p6 p7 p8 p9 p10 p11 : Pos} {k1 k2 k3 k4 k5 k6 k7 k8 : Nat} (ok : c.Ok) {i : Nat} {t : Tok} {k : Nat} {y : Str} (hx : c.ns[i]? = some "letter") (hv : l[i]? = some (some (.str (S [k]) t))) (hk : kindOf k = some y)
    (h : ∀ t, Q (.str y t) H) : jF G A c (eval (.Subscript (.Dict [some (.Constant (.str "M") k1 p1), some (.Constant (.str "L") k2 p2), some (.Constant (.str "Q") k3 p3), some (.Constant (.str "C") k4 p4)] [(.Constant (.str "move") k5 p5), (.Constant (.str "line") k6 p6), (.Constant (.str "quad") k7 p7), (.Constant (.str "cubic") k8 p8)] p9) (.Name "letter" p10) p11) (c.envC cl)) l H Q E := by
  refine gC (x_Dict (ks := ["M", "L", "Q", "C"]) (vs := [.str "move", .str "line", .str "quad", .str "cubic"]) (by kernel_rfl) (by decide) (by decide) (by decide) fun a o hf lo ht => ?_)
  refine x_local ok hx rfl hv ?_
  have hl : lkC (S [k]) ["M", "L", "Q", "C"] [.str "move", .str "line", .str "quad", .str "cubic"] = some (.str y) := by
    refine mH (m := fun k y => lkC (S [k]) ["M", "L", "Q", "C"] [.str "move", .str "line", .str "quad", .str "cubic"] = some (.str y)) hk ?_ ?_ ?_ ?_ <;> decide +kernel
  exact triV_tabSub rfl hf lo ht (by decide) hl h
theorem x_iter {p1 p2 p3 p4 p5 p6 p7 : Pos} {k1 k2 : Nat} (ok : c.Ok) (hh : A.handled = none) (n : NumIn c cl na) {vs : List Value} {m : Nat} (hI : H.I na = some vs) (hlen : vs.length = 2 * m) (hm : m ≤ 100)
    (b1 : nsIn G.K mainGlobals "range" = some none) (b2 : nsIn G.K mainGlobals "len" = some none) (g1 : c.cs.names.lookup ("range" : Str) = some .globalImplicit) (g2 : c.cs.names.lookup ("len" : Str) = some .globalImplicit) :
    jF G A c (eval (.Call (.Name "range" p1) [(.Constant (.int 0) k1 p2), (.Call (.Name "len" p3) [(.Name "numbers" p4)] [] p5), (.Constant (.int 2) k2 p6)] [] p7) (c.envC cl)) l H (fun v H₁ => ∃ r t u w, v = .ref r ∧ AH.Le H H₁ ∧ H₁.M r = some (.any (nP 0 (2 * m : Nat) 2 t u w))) E := by
  refine x_Call (f := .type "range") rfl uA (fun q => rK ok b1 (by decide +kernel) (by decide) g1 rfl q) ?_
  refine kY fun t0 => ?_
  refine x_Call (f := .builtin "len") rfl vV (fun q => rK ok b2 (by decide +kernel) (by decide) g2 rfl q) ?_
  refine x_num ok n ?_
  refine triV_bf (b := .len) hh ⟨vs, .inl hI, by rw [hlen]; lia, fun t1 => ?_⟩
  refine kY fun t2 => ?_
  rw [hlen]
  exact x_range (PyProof.noPylong_small (by decide)) fun r fr => ⟨r, _, _, _, rfl, yN fr, jP⟩
theorem x_pts {p1 p2 p3 p4 p5 p6 p7 p8 p9 p10 p11 p12 p13 p14 p15 p16 p17 p18 p19 p20 p21 : Pos} {k1 k2 k3 k4 : Nat} {sc : Scope} {cl' : List (Str × Addr)} (ok : c.Ok) (hh : A.handled = none) (n : NumIn c cl na) {vs : List Value} {m : Nat} (hI : H.I na = some vs) (hlen : vs.length = 2 * m) (hm : m ≤ 100) (hm0 : m ≠ 0)
    (b1 : nsIn G.K mainGlobals "range" = some none) (b2 : nsIn G.K mainGlobals "len" = some none) (b3 : nsIn G.K mainGlobals "tuple" = some none) (g1 : c.cs.names.lookup ("range" : Str) = some .globalImplicit) (g2 : c.cs.names.lookup ("len" : Str) = some .globalImplicit) (g3 : c.cs.names.lookup ("tuple" : Str) = some .globalImplicit)
    (hclos : closureFor sc (c.envC cl) = pure cl') (hcl : cl'.lookup ("numbers" : Str) = cl.lookup ("numbers" : Str)) (hcell : ∀ y ∈ sc.names, y.2 ≠ .cell) (hkind : sc.kind = .function) (hnames : ∀ y ∈ sc.names, y.2 = .local → sc.names.lookup y.1 = some .local)
    (hx : sc.names.lookup ("at" : Str) = some .local) (hrel : (relabel sc (c.envC cl)).names.lookup ("numbers" : Str) = some .cell)
    {i : Nat} {y : Str} {ty : Tok} (hk : c.ns[i]? = some "kind") (hv : l[i]? = some (some (.str y ty)))
    (h : ∀ r ys H', AH.Le H H' → H'.I r = some (.str y ty :: ys) → Prs H' ys vs → Q (.ref r) H') : jF G A c (eval (.BinOp (.Tuple [(.Name "kind" p1)] k1 p2) .Add (.Call (.Name "tuple" p3) [.ListComp (.Subscript (.Name "numbers" p4) (.Slice (some (.Name "at" p5)) (some (.BinOp (.Name "at" p6) .Add (.Constant (.int 2) k2 p7) p8)) none p9) p10) [⟨.Name "at" p11, (.Call (.Name "range" p12) [(.Constant (.int 0) k3 p13), (.Call (.Name "len" p14) [(.Name "numbers" p15)] [] p16), (.Constant (.int 2) k4 p17)] [] p18), [], 0⟩] sc p19] [] p20) p21) (c.envC cl)) l H Q E := by
  refine x_BinOp (x_tuple rfl (x_local ok hk rfl hv (kO (by rw [sizeLine_eq]; simp) fun ra fa => ?_)))
  have e1 := (jD (vs := [.str y ty]) fa).1 _ _ hI
  have i1 : (H.setI ra [.str y ty]).I ra = some [.str y ty] := jS
  have le1 : AH.Le H (H.setI ra [.str y ty]) := jD fa
  show jF G A c _ l (H.setI ra [.str y ty]) _ E
  generalize H.setI ra [.str y ty] = H1 at e1 i1 le1 ⊢
  refine x_Call (f := .type "tuple") rfl uA (fun q => rK ok b3 (by decide +kernel) (by decide) g3 rfl q) ?_
  obtain ⟨cc, co, z1, z2, z3⟩ := n.cell
  refine x_pairs hh z1 z2 e1 hlen hm hclos (hcl.trans z3) hcell hkind hnames hx rfl rfl hrel (fun _ => rfl) (x_iter ok hh n e1 hlen hm b1 b2 g1 g2) fun D H2 ys le2 hD hyl prs => ?_
  refine triV_bf (b := .tuple) hh ?_
  simp only [f_len, f_tup, hD]
  refine ⟨by lia, fun rb fb => pY ?_⟩
  have i3 : (H2.setI rb ys).I ra = some [.str y ty] := (jD fb).1 _ _ (le2.1 _ _ i1)
  have ib : (H2.setI rb ys).I rb = some ys := jS
  have le3 : AH.Le H (H2.setI rb ys) := (le1.trans le2).trans (jD fb)
  have prs3 : Prs (H2.setI rb ys) ys vs := prs.up (jD fb).1
  generalize H2.setI rb ys = H3 at i3 ib le3 prs3 ⊢
  simp only [b_ref, i3, ib]
  exact ⟨by simp; lia, fun q => (by cases q), fun _ q => absurd (by rw [← hyl, q]; rfl) hm0, fun _ _ r fr => h r ys _ (le3.trans (jD fr)) jS (prs3.up (jD fr).1)⟩
end
theorem prs_pairs {H : AH} {ys vs : List Value} {as : List Arg} (p : Prs H ys vs) (h : Alls (ArgV H) vs as) : PairsV H ys as := by
  have snoc : ∀ {ps : List Value} {bs : List Arg} {a : Addr} {u w : Value} {x y : Arg}, PairsV H ps bs → H.I a = some [u, w] → ArgV H u x → ArgV H w y → PairsV H (ps ++ [.ref a]) (bs ++ [x, y]) := by
    intro ps bs a u w x y hp
    induction hp with
    | nil => intro e hx hy; exact .cons e hx hy .nil
    | cons e1 e2 e3 _ ih => intro e hx hy; exact .cons e1 e2 e3 (ih e hx hy)
  have split : ∀ {ws us : List Value} {bs : List Arg}, Alls (ArgV H) (ws ++ us) bs → ∃ b1 b2, bs = b1 ++ b2 ∧ Alls (ArgV H) ws b1 ∧ Alls (ArgV H) us b2 := by
    intro ws
    induction ws with
    | nil => intro us bs h; exact ⟨[], bs, rfl, .nil, h⟩
    | cons w ws ih =>
      intro us bs h
      cases h with
      | cons h1 h2 =>
        obtain ⟨b1, b2, rfl, x, y⟩ := ih h2
        exact ⟨_ :: b1, b2, rfl, .cons h1 x, y⟩
  induction p generalizing as with
  | nil => cases h; exact .nil
  | snoc p e ih =>
    obtain ⟨b1, b2, rfl, x, y⟩ := split h
    cases y with
    | cons y1 y =>
      cases y with
      | cons y2 y =>
        cases y
        exact snoc (ih x) e y1 y2
theorem look1 {α : Type} {x : Str} {v : α} : List.lookup x [(x, v)] = some v := by simp [List.lookup]
theorem alls_len {α β : Type} {R : α → β → Prop} {as : List α} {bs : List β} (h : Alls R as bs) : as.length = bs.length := by
  induction h with
  | nil => rfl
  | cons _ _ ih => simp [ih]
theorem xX {α β : Type} {R : α → β → Prop} {as : List α} {bs : List β} {n : Nat} {m : List α → List β → Prop} (h : Alls R as bs) (hl : bs.length = n + 1) (k : ∀ a b as' bs', R a b → Alls R as' bs' → bs'.length = n → m (a :: as') (b :: bs')) : m as bs := by
  cases h with
  | nil => cases hl
  | cons x y => exact k _ _ _ _ x y (Nat.succ.inj hl)
inductive Seven {α β : Type} (R : α → β → Prop) : List α → List β → Prop
  | mk (v0 v1 v2 v3 v4 v5 v6 : α) (a0 a1 a2 a3 a4 a5 a6 : β) (r0 : R v0 a0) (r1 : R v1 a1) (r2 : R v2 a2) (r3 : R v3 a3) (r4 : R v4 a4) (r5 : R v5 a5) (r6 : R v6 a6) : Seven R [v0, v1, v2, v3, v4, v5, v6] [a0, a1, a2, a3, a4, a5, a6]
theorem alls7 {α β : Type} {R : α → β → Prop} {as : List α} {bs : List β} (h : Alls R as bs) (hl : bs.length = 7) : Seven R as bs :=
  xX (m := fun as bs => Seven R as bs) h hl fun v0 a0 as bs r0 h hl =>
  xX (m := fun as bs => Seven R (v0 :: as) (a0 :: bs)) h hl fun v1 a1 as bs r1 h hl =>
  xX (m := fun as bs => Seven R (v0 :: v1 :: as) (a0 :: a1 :: bs)) h hl fun v2 a2 as bs r2 h hl =>
  xX (m := fun as bs => Seven R (v0 :: v1 :: v2 :: as) (a0 :: a1 :: a2 :: bs)) h hl fun v3 a3 as bs r3 h hl =>
  xX (m := fun as bs => Seven R (v0 :: v1 :: v2 :: v3 :: as) (a0 :: a1 :: a2 :: a3 :: bs)) h hl fun v4 a4 as bs r4 h hl =>
  xX (m := fun as bs => Seven R (v0 :: v1 :: v2 :: v3 :: v4 :: as) (a0 :: a1 :: a2 :: a3 :: a4 :: bs)) h hl fun v5 a5 as bs r5 h hl =>
  xX (m := fun as bs => Seven R (v0 :: v1 :: v2 :: v3 :: v4 :: v5 :: as) (a0 :: a1 :: a2 :: a3 :: a4 :: a5 :: bs)) h hl fun v6 a6 as bs r6 h hl => by
    cases h with
    | nil => exact .mk _ _ _ _ _ _ _ _ _ _ _ _ _ _ r0 r1 r2 r3 r4 r5 r6
    | cons => cases hl
inductive ArcIs (H : AH) : List Value → List Arg → Prop
  | mk (v0 v1 v2 v5 v6 : Value) (a0 a1 a2 a5 a6 : Arg) (f3 f4 : Nat) (t3 t4 : Tok) (h3 : f3 ≤ 1) (h4 : f4 ≤ 1) (r0 : ArgV H v0 a0) (r1 : ArgV H v1 a1) (r2 : ArgV H v2 a2) (r5 : ArgV H v5 a5) (r6 : ArgV H v6 a6) :
    ArcIs H [v0, v1, v2, .int f3 t3, .int f4 t4, v5, v6] [a0, a1, a2, .flag f3, .flag f4, a5, a6]
theorem arc_is {H : AH} {vs : List Value} {as : List Arg} (hall : Alls (ArgV H) vs as) (hm : as.length = 7) (hargs : xP true 0 as) : ArcIs H vs as := by
  cases alls7 hall hm with
  | mk v0 v1 v2 v3 v4 v5 v6 a0 a1 a2 a3 a4 a5 a6 r0 r1 r2 r3 r4 r5 r6 =>
    obtain ⟨_, _, _, o3, o4, _, _, _⟩ := hargs
    cases a3 with
    | num => exact absurd o3.1 (by decide)
    | flag f3 =>
      cases a4 with
      | num => exact absurd o4.1 (by decide)
      | flag f4 =>
        obtain ⟨t3, rfl⟩ := r3
        obtain ⟨t4, rfl⟩ := r4
        exact .mk _ _ _ _ _ _ _ _ _ _ _ _ _ _ o3.2 o4.2 r0 r1 r2 r5 r6
theorem flag_is (f : Nat) (hf : f ≤ 1) : f = if ((f : Int) == 1) then 1 else 0 := by
  match f, hf with
  | 0, _ => rfl
  | 1, _ => rfl
theorem mO {M : Model} {A : Around} {E : Value → Shared → Prop} {s : Shared} {env : Env} {R : Flow → Shared → Prop} {a : Stmt} {rest : List Stmt} (h : ∀ r, r = rest → wpAny M A (execs (a :: r) env) R E s) : wpAny M A (execs (a :: rest) env) R E s := h _ rfl
theorem x_assign1 {M : Model} {A : Around} {E : Value → Shared → Prop} {s : Shared} {env : Env} {t v : Expr} {pos : Pos} {R : Flow → Shared → Prop} (hn : xR v = true) (ht : noTup v = true)
    (h : wpAny M A (eval v env) (fun u s₁ => wpAny M A (assignStores env u none ((assignEach [t] env).map (·.2))) R E s₁) E s) : wpAny M A (exec (.Assign [t] v pos) env) R E s := by
  rw [arm_exec_Assign]
  refine wpAny_bind (wpAny_standAt ?_)
  have e : swapsWithSole [t] v pos.line env = pure false := xC hn
  rw [e]
  refine wpAny_bind (wpAny_pure ?_)
  simp only [Bool.false_eq_true, if_false]
  refine wpAny_bind (wpAny_mono h (fun u s₁ h₁ => ?_) fun _ _ x => x)
  rw [stores_no ht]
  exact wpAny_bind (wpAny_pure h₁)
section
variable {G : Gl} {A : Around} {c : Fx} {l : List (Option Value)} {H : AH} {E : Value → Shared → Prop} {cl : List (Str × Addr)}
theorem x_isLetter {x y : Str} {t : Tok} {p1 p2 p3 : Pos} {k1 : Nat} {whole : Sem Value} (ok : c.Ok) (hu : A.units + 64 < cLine) (hx : c.ns[1]? = some ("letter" : Str)) (hv : l[1]? = some (some (.str x t))) :
    jF G A c (isTrue (.Compare (.Name "letter" p1) [.Eq] [.Constant (.str y) k1 p2] p3) (c.envC cl) whole) l H (fun b H' => b = (x == y) ∧ H' = H) E := by
  refine zA (x_isCmp (Q := fun _ b H' => b = (x == y) ∧ H' = H) rfl (x_local ok hx rfl hv (kY fun t' => yF hu ?_))) fun b H' ⟨_, _, e⟩ => e
  show jW (.bool (x == y)) H (fun b H' => b = (x == y) ∧ H' = H)
  exact ⟨rfl, rfl⟩
end
section
variable {G : Gl} {C : Addr}
set_option maxHeartbeats 2000000 in
theorem c_seg {n : Nat} {name qual : Str} {params : Arguments} {p1 p2 p3 p4 p5 p6 p7 p8 p9 p10 p11 p12 p13 p14 p15 p16 p17 p18 p19 p20 p21 p22 p23 p24 p25 p26 p27 p28 p29 p30 p31 p32 p33 p34 p35 p36 p37 p38 p39 p40 p41 p42 p43 p44 p45 p46 p47 p48 p49 p50 p51 p52 p53 p54 p55 p56 p57 p58 p59 p60 p61 p62 p63 p64 p65 p66 p67 p68 p69 p70 p71 p72 p73 p74 p75 : Pos} {k1 k2 k3 k4 k5 k6 k7 k8 k9 k10 k11 k12 k13 k14 k15 k16 k17 k18 k19 k20 k21 k22 k23 k24 k25 k26 : Nat} {sc scope : Scope} {dV kV doc pm cdv ct oc : Value} {an od : Option Addr} {osl : Array (Option Value)}
    (ho : G.K.lookup 441 = some ⟨oc, od, .func (fnOf name qual params [.Assign [(.Tuple [(.Name "letter" p1), (.Name "numbers" p2)] k1 p3)] (.Name "command" p4) p5, .If (.Compare (.Name "letter" p6) [.Eq] [(.Constant (.str "Z") k2 p7)] p8) [.Return (some (.Tuple [(.Constant (.str "close") k3 p9)] k4 p10)) p11] [] p12, .If (.Compare (.Name "letter" p13) [.Eq] [(.Constant (.str "A") k5 p14)] p15) [.Return (some (.BinOp (.BinOp (.Tuple [(.Constant (.str "arc") k6 p16)] k7 p17) .Add (.Subscript (.Name "numbers" p18) (.Slice none (some (.Constant (.int 3) k8 p19)) none p20) p21) p22) .Add (.Tuple [(.Compare (.Subscript (.Name "numbers" p23) (.Constant (.int 3) k9 p24) p25) [.Eq] [(.Constant (.int 1) k10 p26)] p27), (.Compare (.Subscript (.Name "numbers" p28) (.Constant (.int 4) k11 p29) p30) [.Eq] [(.Constant (.int 1) k12 p31)] p32), (.Subscript (.Name "numbers" p33) (.Slice (some (.Constant (.int 5) k13 p34)) none none p35) p36)] k14 p37) p38)) p39] [] p40, .Assign [(.Name "kind" p41)] (.Subscript (.Dict [some (.Constant (.str "M") k15 p42), some (.Constant (.str "L") k16 p43), some (.Constant (.str "Q") k17 p44), some (.Constant (.str "C") k18 p45)] [(.Constant (.str "move") k19 p46), (.Constant (.str "line") k20 p47), (.Constant (.str "quad") k21 p48), (.Constant (.str "cubic") k22 p49)] p50) (.Name "letter" p51) p52) p53, .Return (some (.BinOp (.Tuple [(.Name "kind" p54)] k23 p55) .Add (.Call (.Name "tuple" p56) [.ListComp (.Subscript (.Name "numbers" p57) (.Slice (some (.Name "at" p58)) (some (.BinOp (.Name "at" p59) .Add (.Constant (.int 2) k24 p60) p61)) none p62) p63) [⟨.Name "at" p64, (.Call (.Name "range" p65) [(.Constant (.int 0) k25 p66), (.Call (.Name "len" p67) [(.Name "numbers" p68)] [] p69), (.Constant (.int 2) k26 p70)] [] p71), [], 0⟩] sc p72] [] p73) p74)) p75] scope dV kV doc pm an cdv ct), osl⟩) (hcd : codeIn G.K cdv qual = true)
    (hb : ∀ (s : Shared) a, BindsTo s (fnOf name qual params [.Assign [(.Tuple [(.Name "letter" p1), (.Name "numbers" p2)] k1 p3)] (.Name "command" p4) p5, .If (.Compare (.Name "letter" p6) [.Eq] [(.Constant (.str "Z") k2 p7)] p8) [.Return (some (.Tuple [(.Constant (.str "close") k3 p9)] k4 p10)) p11] [] p12, .If (.Compare (.Name "letter" p13) [.Eq] [(.Constant (.str "A") k5 p14)] p15) [.Return (some (.BinOp (.BinOp (.Tuple [(.Constant (.str "arc") k6 p16)] k7 p17) .Add (.Subscript (.Name "numbers" p18) (.Slice none (some (.Constant (.int 3) k8 p19)) none p20) p21) p22) .Add (.Tuple [(.Compare (.Subscript (.Name "numbers" p23) (.Constant (.int 3) k9 p24) p25) [.Eq] [(.Constant (.int 1) k10 p26)] p27), (.Compare (.Subscript (.Name "numbers" p28) (.Constant (.int 4) k11 p29) p30) [.Eq] [(.Constant (.int 1) k12 p31)] p32), (.Subscript (.Name "numbers" p33) (.Slice (some (.Constant (.int 5) k13 p34)) none none p35) p36)] k14 p37) p38)) p39] [] p40, .Assign [(.Name "kind" p41)] (.Subscript (.Dict [some (.Constant (.str "M") k15 p42), some (.Constant (.str "L") k16 p43), some (.Constant (.str "Q") k17 p44), some (.Constant (.str "C") k18 p45)] [(.Constant (.str "move") k19 p46), (.Constant (.str "line") k20 p47), (.Constant (.str "quad") k21 p48), (.Constant (.str "cubic") k22 p49)] p50) (.Name "letter" p51) p52) p53, .Return (some (.BinOp (.Tuple [(.Name "kind" p54)] k23 p55) .Add (.Call (.Name "tuple" p56) [.ListComp (.Subscript (.Name "numbers" p57) (.Slice (some (.Name "at" p58)) (some (.BinOp (.Name "at" p59) .Add (.Constant (.int 2) k24 p60) p61)) none p62) p63) [⟨.Name "at" p64, (.Call (.Name "range" p65) [(.Constant (.int 0) k25 p66), (.Call (.Name "len" p67) [(.Name "numbers" p68)] [] p69), (.Constant (.int 2) k26 p70)] [] p71), [], 0⟩] sc p72] [] p73) p74)) p75] scope dV kV doc pm an cdv ct) ⟨[a], []⟩ [("command", a)])
    (hloc : ∀ z ∈ [("command" : Str), "letter", "kind"], scope.names.lookup z = some .local) (hcel : scope.names.lookup ("numbers" : Str) = some .cell) (hcf : ∀ n : Nat, cellsFrom n scope.names [] = [((("numbers" : Str), n) : Str × Addr)]) (hco : scope.isCoroutine = false) (hgen : scope.isGenerator = false) (hk : scope.kind = .function)
    (g1 : scope.names.lookup ("range" : Str) = some .globalImplicit) (g2 : scope.names.lookup ("len" : Str) = some .globalImplicit) (g3 : scope.names.lookup ("tuple" : Str) = some .globalImplicit)
    (c1 : ∀ y ∈ sc.names, y.2 ≠ .cell) (c2 : sc.kind = .function) (c3 : ∀ y ∈ sc.names, y.2 = .local → sc.names.lookup y.1 = some .local) (c4 : sc.names.lookup ("at" : Str) = some .local)
    (c5 : ∀ (c : Fx) k, closureFor sc (c.envC [("numbers", k)]) = pure [((("numbers" : Str), k) : Str × Addr)]) (c6 : ∀ (c : Fx) k, c.cs = scope → (relabel sc (c.envC [("numbers", k)])).names.lookup ("numbers" : Str) = some .cell)
    (b1 : nsIn G.K mainGlobals "range" = some none) (b2 : nsIn G.K mainGlobals "len" = some none) (b3 : nsIn G.K mainGlobals "tuple" = some none) : SegC G C (n + 1) := by
  intro H Q X v cm hv hg hm h
  refine ⟨fun c A ok hA room g s lo S => ?_⟩
  refine S.opn fun m news Fr₀ lr N ii => ?_
  obtain ⟨r, lt, na, vs, rfl, hr, hna, hall⟩ := hv
  obtain ⟨k, as⟩ := cm
  have l1 := hloc "command" (.head _)
  have l2 := hloc "letter" (.tail _ (.head _))
  have l3 := hloc "kind" (.tail _ (.tail _ (.head _)))
  refine code_cells (cn := c.cn) (cs := c.cs) (a := c.a) (ccd := c.ccd) S.B Fr₀ S.X N S.T S.XB.X S.TB S.D S.T0 hA ho hcd (by have := room.depth; lia) (hb _ _)
    (fun _ z hz => .inl (by rcases List.mem_cons.mp hz with rfl | hz; exact l1; cases hz)) (by rw [hcf]; exact List.nodup_cons.mpr ⟨fun q => (by cases q), List.nodup_nil⟩) ?_ ok.kind hco hgen hk
  intro g₁ L' h₁ tk cells F₀ F₁ N₁ CA B₁ X₁ T₁ D₁ lt'
  have hm₁ : bindL (envOfC qual scope L' 441 cdv).kindOf [("command", Value.ref r)] (fun _ => none) = fun y : Str => if y = "command" then some (Value.ref r) else none := by
    unfold bindL
    rw [if_pos (show (envOfC qual scope L' 441 cdv).kindOf "command" = some .local from l1)]
    rfl
  have hc₁ : bindC (envOfC qual scope L' 441 cdv).kindOf [("command", Value.ref r)] (fun _ => none) = fun _ => none := by
    unfold bindC
    rw [if_pos (show (envOfC qual scope L' 441 cdv).kindOf "command" = some .local from l1)]
    rfl
  rw [hc₁, hcf] at CA
  rw [hm₁] at F₁
  obtain ⟨o₀, hcells, hod⟩ := CA.one
  subst hcells
  have hev : envOfC qual scope L' 441 cdv = envX qual scope L' 441 cdv [("numbers", L' + 1)] := by
    unfold envOfC
    rw [hcf]
  rw [hev]
  have hnL : ∀ p ∈ news, p.1 ≠ L' + 1 := fun p hp q => absurd (Nat.lt_succ_of_lt (lt' p hp)) (by rw [q]; exact Nat.lt_irrefl _)
  let c₃ : Obj → Fx := fun o' => ⟨A, c.base, c.env :: c.outer, g₁, s, qual, scope, L', 441, cdv, ["command", "letter", "kind"], (L' + 1, o') :: c.pin⟩
  have ok₃ : ∀ o', (c₃ o').Ok := fun o' => ⟨hk, (by decide : [("command" : Str), "letter", "kind"].Nodup), hloc⟩
  have hh : (A.deeper (envX qual scope L' 441 cdv [("numbers", L' + 1)])).handled = none := room.hand
  have hu : (A.deeper (envX qual scope L' 441 cdv [("numbers", L' + 1)])).units + 64 < cLine := by
    have := room.units
    show A.units + 3 + 64 < cLine
    lia
  refine fC fun R' E' hR _ => ?_
  refine mO fun rs1 hr1 => ?_
  refine wpAny_execs_cons (x_assign1 rfl rfl ?_)
  refine nameX_L F₁ (if_pos rfl) ?_ hk l1 rfl
  show wpAny _ _ (do assignAll (.ref r) [assign (.Tuple [.Name "letter" p1, .Name "numbers" p2] k1 p3) (envX qual scope L' 441 cdv [("numbers", L' + 1)])]; (pure Flow.next : Sem Flow)) _ _ _
  refine wpAny_bind ?_
  refine unpackN_ F₁ N₁ (t := r) (items := [Value.str (Mine.S [k]) lt, .ref na].toArray) ⟨_, (N₁ _ (.tail _ (ii.tup _ _ hr))).1, rfl, 0, rfl⟩ hh rfl rfl fun h₂ F₂ N₂ => ?_
  refine wpAny_assignInOrder_more (wpAny_assign_Name (storeX_L F₂ N₂ (fun h₃ F₃ N₃ => wpAny_assignInOrder_more (wpAny_assign_Name (storeX_C F₃ N₃ (cl := [("numbers", L' + 1)]) look1 (UpdF.head hnL) hod (fun h₄ o' F₄ N₄ hd => wpAny_assignInOrder_none (wpAny_pure ?_)) hk hcel))) hk l2))
  show wpAny _ _ (execs _ _) _ _ _
  have i₄ : H.In ((L' + 1, o') :: c.pin) ((L' + 1, o') :: news) := ⟨fun a vs h => .tail _ (ii.tup a vs h), fun a mo h => (let ⟨o, x, y⟩ := ii.obs a mo h; ⟨o, x, .tail _ y⟩), fun q hq => by
    rcases List.mem_cons.mp hq with rfl | hq
    · exact ⟨.head _, .inr (.inr ⟨_, hd⟩), kG ii hnL⟩
    · obtain ⟨x, y, z⟩ := ii.pins q hq
      exact ⟨.tail _ x, y, z⟩⟩
  have base₃ : uO ["command", "letter", "kind"] [some (Value.ref r), none, none] (fun y : Str => if y = "command" then some (Value.ref r) else none) := by
    refine ⟨rfl, fun i x hx => ?_⟩
    match i, hx with
    | 0, hx => cases hx; exact if_pos rfl
    | 1, hx => cases hx; exact if_neg (by decide)
    | 2, hx => cases hx; exact if_neg (by decide)
    | i + 3, hx => cases hx
  have S₄ : FS G (c₃ o') g₁ { s with heap := h₄, toks := tk + 1 } [some (.ref r), some (.str (Mine.S [k]) lt), none] H :=
    ⟨B₁, ⟨_, F₄, mE (l := [some (Value.ref r), none, none]) (i := 1) base₃ (ok₃ o').nd rfl⟩, S.XB, S.TB, D₁, KtsTurn.refl, ⟨_, N₄, i₄⟩, ⟨rfl, rfl, rfl⟩⟩
  have nin : NumIn (c₃ o') [("numbers", L' + 1)] na := ⟨⟨L' + 1, o', .head _, hd, look1⟩, hcel⟩
  have out : ∀ {v : Value} {g' : Heap} {s' : Shared} {l' : List (Option Value)} {H' : AH}, FS G (c₃ o') g' s' l' H' → Q v H' → R' (.ret v) s' := by
    intro v g' s' l' H' S' q
    refine hR _ _ ?_
    refine S'.opn fun m' news' F' _ N' i' => ?_
    exact leaveS_r F' N' S'.T0 fun h₀' T' F'' N'' B'' X'' P'' D'' => ⟨h₀', H', ⟨B'', ⟨m, F'', lr⟩, S.XB, S.TB, D'', T', ⟨news', N'', i'.tup, i'.obs, fun q hq => i'.pins q (.tail _ hq)⟩, S.same.trans S'.same⟩, q⟩
  rw [show envX qual scope L' 441 cdv [("numbers", L' + 1)] = (c₃ o').envC [("numbers", L' + 1)] from rfl] at hh hu ⊢
  have cases_ : (k = 90 ∨ k = 65) ∨ ∃ y, kindOf k = some y ∧ (Mine.S [k] == ("Z" : Str)) = false ∧ (Mine.S [k] == ("A" : Str)) = false := by
    have hm' : k = 77 ∨ k = 76 ∨ k = 81 ∨ k = 67 ∨ k = 65 ∨ k = 90 := by simpa using hm
    rcases hm' with rfl | rfl | rfl | rfl | rfl | rfl
    · exact .inr ⟨_, rfl, by decide +kernel, by decide +kernel⟩
    · exact .inr ⟨_, rfl, by decide +kernel, by decide +kernel⟩
    · exact .inr ⟨_, rfl, by decide +kernel, by decide +kernel⟩
    · exact .inr ⟨_, rfl, by decide +kernel, by decide +kernel⟩
    · exact .inl (.inr rfl)
    · exact .inl (.inl rfl)
  have hlen := alls_len hall
  have hmany : as.length = zF k := hg.many
  have hargs : xP (zL k) 0 as := hg.args
  rw [hr1]
  refine mO fun rs2 hr2 => ?_
  refine wpAny_execs_cons (wpAny_If (jA (x_isLetter (ok₃ o') hu rfl rfl) S₄ fun b g₅ s₅ H₅ S₅ hb₅ => ?_))
  obtain ⟨e1, e2⟩ := hb₅
  rw [e2] at S₅
  subst e1
  by_cases hz : (Mine.S [k] == ("Z" : Str)) = true
  · rw [if_pos hz]
    have hk90 : k = 90 := by
      rcases cases_ with (e | e) | ⟨y, _, e, _⟩
      · exact e
      · rw [e] at hz; exact absurd hz (by decide +kernel)
      · rw [e] at hz; cases hz
    have has : as = [] := List.eq_nil_of_length_eq_zero (hmany.trans (by rw [hk90]; rfl))
    refine wpAny_execs_cons (wpAny_Return_some ?_)
    refine jA (Q := fun v H' => ∃ t r, v = .ref r ∧ AH.Le H H' ∧ H'.I r = some [.str "close" t]) (x_tuple rfl (kY fun t => kO (by rw [sizeLine_eq]; simp) fun ra fa => ⟨t, ra, rfl, jD fa, jS⟩)) S₅ fun v g₆ s₆ H₆ S₆ q => ?_
    obtain ⟨t, ra, rfl, le, hi⟩ := q
    exact out S₆ (h _ _ le (by rw [hk90, has]; exact .close hi))
  rw [if_neg hz]
  refine wpAny_execs_nil ?_
  show wpAny _ _ (execs _ _) _ _ _
  rw [hr2]
  refine mO fun rs3 hr3 => ?_
  refine wpAny_execs_cons (wpAny_If (jA (x_isLetter (ok₃ o') hu rfl rfl) S₅ fun b g₆ s₆ H₆ S₆ hb₆ => ?_))
  obtain ⟨e1, e2⟩ := hb₆
  rw [e2] at S₆
  subst e1
  by_cases ha : (Mine.S [k] == ("A" : Str)) = true
  · rw [if_pos ha]
    have hk65 : k = 65 := by
      rcases cases_ with (e | e) | ⟨y, _, _, e⟩
      · rw [e] at ha; exact absurd ha (by decide +kernel)
      · exact e
      · rw [e] at ha; cases ha
    have arc := arc_is hall (hmany.trans (by rw [hk65]; rfl)) (by rw [hk65] at hargs; exact hargs)
    clear hargs hmany hlen hall
    cases arc with
    | mk v0 v1 v2 v5 v6 a0 a1 a2 a5 a6 f3 f4 t3 t4 h3 h4 r0 r1 r2 r5 r6 =>
        refine wpAny_execs_cons (wpAny_Return_some ?_)
        refine jA (Q := fun v H' => ∃ t r r6, v = .ref r ∧ AH.Le H H' ∧ H'.I r = some [.str "arc" t, v0, v1, v2, .bool ((f3 : Int) == 1), .bool ((f4 : Int) == 1), .ref r6] ∧ H'.I r6 = some [v5, v6])
          (x_arc (ok₃ o') hu nin hna fun t r r6 H' le x y => ⟨t, r, r6, rfl, le, x, y⟩) S₆ fun v g₇ s₇ H₇ S₇ q => ?_
        obtain ⟨t, ra, r6', rfl, le, x, y⟩ := q
        refine out S₇ (h _ _ le ?_)
        have := SegV.arc (H := H₇) x y (r0.up le.1) (r1.up le.1) (r2.up le.1) (r5.up le.1) (r6.up le.1)
        rw [← flag_is f3 h3, ← flag_is f4 h4] at this
        rw [hk65]
        exact this
  rw [if_neg ha]
  refine wpAny_execs_nil ?_
  show wpAny _ _ (execs _ _) _ _ _
  rw [hr3]
  obtain ⟨y, hy, n1, n2⟩ : ∃ y, kindOf k = some y ∧ (Mine.S [k] == ("Z" : Str)) = false ∧ (Mine.S [k] == ("A" : Str)) = false := by
    rcases cases_ with (e | e) | e
    · rw [e] at hz; exact absurd (by decide +kernel) hz
    · rw [e] at ha; exact absurd (by decide +kernel) ha
    · exact e
  obtain ⟨mm, hmm, hm0, hm1⟩ : ∃ mm, vs.length = 2 * mm ∧ mm ≠ 0 ∧ mm ≤ 100 := by
    rw [hlen, hmany]
    exact mH (m := fun k _ => ∃ mm, zF k = 2 * mm ∧ mm ≠ 0 ∧ mm ≤ 100) hy ⟨1, rfl, by decide, by decide⟩ ⟨1, rfl, by decide, by decide⟩ ⟨2, rfl, by decide, by decide⟩ ⟨3, rfl, by decide, by decide⟩
  refine wpAny_execs_cons ?_
  refine wpAny_Assign_Name ?_ ?_
  rotate_left
  · refine xC ?_
    kernel_rfl
  refine jA (Q := fun v H' => ∃ t, v = .str y t ∧ H' = H) (x_kind (ok₃ o') (i := 1) rfl rfl hy fun t => ⟨t, rfl, rfl⟩) S₆ fun v g₇ s₇ H₇ S₇ q => ?_
  obtain ⟨ty, rfl, e3⟩ := q
  rw [e3] at S₇
  refine S₇.opn fun m₇ news₇ F₇ lr₇ N₇ i₇ => ?_
  refine storeX_L (cl := [("numbers", L' + 1)]) F₇ N₇ (fun h₈ F₈ N₈ => ?_) hk l3
  show wpAny _ _ (execs _ _) _ _ _
  have S₈ := S₇.next (s' := { s₇ with heap := h₈, toks := s₇.toks + 1 }) F₈ (mE (i := 2) lr₇ (ok₃ o').nd rfl) N₈ i₇ ⟨rfl, rfl, rfl⟩
  refine wpAny_execs_cons (wpAny_Return_some ?_)
  refine jA (Q := fun v H' => ∃ r ys, v = .ref r ∧ AH.Le H H' ∧ H'.I r = some (.str y ty :: ys) ∧ Prs H' ys vs)
    (x_pts (ok₃ o') hh nin hna hmm hm1 hm0 b1 b2 b3 g1 g2 g3 (c5 (c₃ o') _) rfl c1 c2 c3 c4 (c6 (c₃ o') _ rfl) (i := 2) rfl rfl fun r ys H' le x p => ⟨r, ys, rfl, le, x, p⟩) S₈ fun v g₉ s₉ H₉ S₉ q => ?_
  obtain ⟨ra, ys, rfl, le, x, p⟩ := q
  exact out S₉ (h _ _ le (.pts hy x (prs_pairs p (yG le.1 hall))))
end
theorem seg_c {G : Gl} {C : Addr} {n : Nat} (hK : G.K = KK G.w.params) : SegC G C (n + 1) := by
  have e : ∀ {a : Addr} {o : Option Obj}, (KK G.w.params).lookup a = o → G.K.lookup a = o := fun h => by rw [hK]; exact h
  intro H Q X v cm hv hg hm h
  refine c_seg (e (by k_is)) ?_ ?_ ?_ ?_ ?_ ?_ ?_ ?_ ?_ ?_ ?_ ?_ ?_ ?_ ?_ ?_ ?_ ?_ ?_ ?_ hv hg hm h
  · rw [hK]; k_is
  · intro s a; exact BindsTo.of_eq rfl
  · decide
  · decide
  · intro n; rfl
  · decide
  · decide
  · decide
  · decide
  · decide
  · decide
  · decide
  · decide
  · decide
  · decide
  · intro c k; rfl
  · intro c k e; unfold relabel Fx.envC; rw [e]; rfl
  · rw [hK]; k_is
  · rw [hK]; k_is
  · rw [hK]; k_is
theorem empty_in : AH.empty.In [] [] := ⟨fun _ _ h => (by cases h), fun _ _ h => (by cases h), fun _ h => (by cases h)⟩
theorem src_none {v : Value} : ∀ x ∈ [("source" : Str), "many", "commands", "turn", "path"], List.lookup x ([(("script" : Str), v)] : List (Str × Value)).reverse = none := by
  intro x hx
  have e : (x == ("script" : Str)) = false := (by decide : ∀ x ∈ [("source" : Str), "many", "commands", "turn", "path"], (x == ("script" : Str)) = false) x hx
  simp [List.lookup, e]
theorem law_top {G : Gl} {name : Str} {scope : Scope} {L fa : Addr} {cd : Value} {body : List Stmt} {h₀ : Heap} {s : Shared} {m : Str → Option Value} {ns : List Int}
    (F2 : Fn2 G) (FF : FaultF G 63) (EK : ExcK G 63 60 "message" "place") (RF : ReadF G 63) (SG : SegC G 63 31)
    (K0 : Below callerA h₀ [] h₀) (KX : G.K.In h₀) (hL : h₀.IsList G.srcA G.srcV.toArray) (hI : IntsAre G.srcV ns) (hlen' : ns.length < 2 ^ 62) (T : Top G.p G.loose G.mean G.mg G.mb h₀)
    (F : Fr h₀ L s.heap m) (hm : m "script" = some (.ref G.srcA)) (hn : ∀ x ∈ [("source" : Str), "many", "commands", "turn", "path"], m x = none)
    (hk : scope.kind = .function) (hloc : ∀ z ∈ [("script" : Str), "source", "many", "commands", "turn", "path"], scope.names.lookup z = some .local)
    (h10 : pW (chkS G.K scope ["script", "source", "many", "commands", "turn", "path"] fu) body b_law = true) :
    wpAny (model G.prog G.w) (callerA.deeper (envOf name scope L fa cd)) (execs body (envOf name scope L fa cd)) (fun v s' => v = .ret (.bool true) ∧ (∃ m', Fr h₀ L s'.heap m') ∧ s'.gens = s.gens ∧ s'.os = s.os) (fun _ _ => False) s := by
  have hlen : G.srcV.length < 2 ^ 62 := by rw [IntsAre.length hI]; exact hlen'
  let c : Fx := ⟨callerA, h₀, [], h₀, s, name, scope, L, fa, cd, ["script", "source", "many", "commands", "turn", "path"], []⟩
  have ok : c.Ok := ⟨hk, (by decide : [("script" : Str), "source", "many", "commands", "turn", "path"].Nodup), hloc⟩
  have S : FS G c h₀ s [some (.ref G.srcA), none, none, none, none, none] AH.empty := ⟨K0, ⟨m, F, rfl, fun i x hx => (by
    match i, hx with
    | 0, hx => cases hx; exact hm
    | 1, hx => cases hx; exact hn _ (.head _)
    | 2, hx => cases hx; exact hn _ (.tail _ (.head _))
    | 3, hx => cases hx; exact hn _ (.tail _ (.tail _ (.head _)))
    | 4, hx => cases hx; exact hn _ (.tail _ (.tail _ (.tail _ (.head _))))
    | 5, hx => cases hx; exact hn _ (.tail _ (.tail _ (.tail _ (.tail _ (.head _)))))
    | i + 6, hx => cases hx)⟩, ⟨KX, hL⟩, T, ktsDicts_nil, KtsTurn.refl, ⟨[], fun _ h => (by cases h), empty_in⟩, Same.refl s⟩
  have hA : c.A.frames = some (c.env :: c.outer) := Around.frames_deeper rfl
  have room : Room 31 c.A := ⟨(by decide +kernel : callerA.depth + 1 + (3 * 31 + 3) < recursionLimit), (by decide +kernel : callerA.units + 3 + (40 * 31 + 100) < cLine), rfl⟩
  have R : ReadC G 63 30 := c_read (n := 20) RF F2.toFn fun X x d => c_fault (n := 23) FF EK
  have key := soundB (A := c.A) (n := 31) (C := 63) h10 c (fun _ => False) ⟨ok, hA, room⟩ rfl rfl _ _ _
    (Fn2.thelaw (n := 10) (H := AH.empty) (Q := fun v _ => v = .bool true) F2 hI hlen R SG (fun cs as r g hcs => text_ok g hcs) fun H' le => rfl)
  refine wpAny_mono (key.go h₀ s S) (fun fl s' h => ?_) fun e s' x => ?_
  · obtain ⟨g', l', H', S', fl', rfl, q⟩ := h
    obtain ⟨m', F', _⟩ := S'.F
    refine ⟨?_, ⟨m', F'.ns, fun b o e => F'.keep b o (S'.T0.other b o e (by intro z; cases z)), by rw [← S'.T0.size]; exact F'.above⟩, S'.same.gens, S'.same.os⟩
    cases fl' with
    | next => cases q
    | ret v => exact congrArg Flow.ret q
  · rcases x with x | x
    · obtain ⟨ea, t, vs', news, g'', Gh, m'', l'', H'', _, _, _, _, _, _, _, _, _, _, hfalse⟩ := x
      exact hfalse.elim
    · obtain ⟨ea, t, vs', news, g'', Gh, m'', l'', H'', _, _, _, _, _, _, _, _, _, _, hfalse⟩ := x
      exact hfalse.elim
theorem all_fns {G : Gl} (hK : G.K = KK G.w.params) : Fn2 G where
  common_divisor := rC hK
  fraction := fn_fraction hK
  NumberText_init := mM hK
  NumberText_is_one_of := pS hK
  NumberText_skip := mL hK
  NumberText_digits := gT hK
  whole_of := fn_whole_of hK
  read_exponent := fn_read_exponent hK
  read_decimal := fn_read_decimal hK
  write_decimal := fn_write_decimal hK
  PathScanner_init := fN hK
  PathScanner_is_over := wG hK
  PathScanner_peek := fM hK
  PathScanner_spaces := wY hK
  PathScanner_separator := pE hK
  PathScanner_looks_number := vY hK
  PathScanner_digits := gA hK
  PathScanner_exponent := pR hK
  PathScanner_number := wZ hK
  PathScanner_flag := fO hK
  PathScanner_command := wH hK
  many_of := fn_many_of hK
  letter_behind := fn_letter_behind hK
  read_group := fn_read_group hK
  goes_on := fn_goes_on hK
  read_into := fn_read_into hK
  read_commands := fn_read_commands hK
  short := fn_short hK
  wants_blank := fn_wants_blank hK
  PathWriter_init := mK hK
  PathWriter_put_letter := pD hK
  PathWriter_put_number := pC hK
  PathWriter_put_flag := wF hK
  PathWriter_put := rD hK
  write_path := fn_write_path hK
  numbers_of := fn_numbers_of hK
  command_of := fn_command_of hK
  law_pool := fn_law_pool hK
  law_take := fn_law_take hK
  law_one := fn_law_one hK
  law_number := fn_law_number hK
  law_command := fn_law_command hK
  law_told := fn_law_told hK
  law_text := fn_law_text hK
  write_segments := rB hK
  law_written_right := gS hK
  law := fn_law hK
end Mine
theorem PySem.Challenge.cw_xm0693_01_holds : PySem.Challenge.rw_xm0693_01.Holds := by
  w_on
  refine holds_law Mine.hsaid fun said => ?_
  refine holds_open (q := Mine.hQ) (loose := Mine.hLo) (Xt := fun s => xlAt Mine.hQ [] s && recOk (RowW.records Mine.hR) s) (XP := XL Mine.hQ []) (Yf := Hook.obs Mine.hHk) (Ya := Hook.val Mine.hHk) (YP := Hook.says Mine.hHk) (N := 6084) Mine.hleft (Hook.of Mine.hHk) (Hook.keeps Mine.hHk) (fun s e => xl_of s (Bool.and_eq_true_iff.mp e).1) XL.keeps (by rfl) (by rfl) (by rfl) (fun s e => recFacts_of (Bool.and_eq_true_iff.mp e).2) (by rfl) (by first | assumption | decide +kernel) (by decide +kernel) ⟨rfl, rfl, rfl, rfl, rfl, by decide +kernel⟩ ?hw ?hc
  case hw => w_witness2
  intro w s₀ s₁ mg mb G Y fa o pm cd doc dV kV ho hd hcd hD hmg hg args vals as hpre hlay hrd hwl hlo
  have KX := kIn_of Y
  refine Ground.open G ?_
  intro T B D TE TW
  obtain ⟨_, _, M⟩ := bmod_of_top T
  have TA := at_of_top T
  try (obtain ⟨_, _, he, B0⟩ := based_of_top T rfl hmg ho hd; have he' : cd = _ := he; subst he'; clear he)
  clear hmg
  wrow_args hpre hlay hrd hwl hlo
  refine enter_call ?_
  w_top on
  try refine codeAny_mono ?_ (fun _ _ g => GoodW.toG g)
  have K0 := below_caller (Top.heap T)
  w_call any ho hd hcd hD T F
  clear hd TA
  refine' wpAny_mono (Mine.law_top (G := ⟨_, _, _, _, _, _, _, _, _, _⟩) (Mine.all_fns ?hK) (Mine.fault_f ?hK) (Mine.fault_k ?hK) (Mine.read_f ?hK) (Mine.seg_c ?hK) ?K0 ?KX ?hL ?hI ?hlen ?T ?F ?hm ?hn ?hk ?hloc ?h10) ?_ ?_
  case K0 => assumption
  case KX => assumption
  case hK => rfl
  case hL => assumption
  case hI => assumption
  case hlen => lia
  case T => assumption
  case F => assumption
  case hm => rfl
  case hn => exact Mine.src_none
  case hk => rfl
  case hloc => decide
  case h10 => kernel_rfl
  · intro v s' h
    obtain ⟨rfl, ⟨m', F'⟩, e1, e2⟩ := h
    refine goodW_bool F' ?_ ?_ ?_ ?_
    · exact e1.trans (by assumption)
    · intro cls
      rfl
    · refine' postW_of ?s1 ?v1 ?e1
      case s1 => o_shape
      case v1 => wtm_val
      case e1 => rfl
    · exact e2
  · intro e s' h
    exact h.elim