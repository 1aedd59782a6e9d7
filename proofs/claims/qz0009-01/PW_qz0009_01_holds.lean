import PyProof.Rows.All
import Wide.All
import OpenK.AllK
import Wide.FinOn
import PySem.Challenge.RW_qz0009_01
set_option Elab.async false

-- part HV6
section
open PySem PySem.W PyProof.Rows
set_option linter.unusedVariables false
namespace Mine
noncomputable abbrev bootS (w : World) (os : OsState) : Shared := ⟨boot_heap w.params, Array.mk [], boot_drawn, boot_toks, os⟩
theorem left_two {p q q' : Program} {loose : List Str} {Xt : Shared → Bool} {α : Type} {Yf : Shared → α} {Ya : World → α} {N : Nat} {g0 : Bool}
    (hq : q = q') (e : opening p = plainProg p.main.scope.names) (hN : Nat.ble 600 N = true) (f : ∀ s, fenceModules? p s = some s)
    (hA : ∀ (w : World) (os : OsState), (topFrom treeTable p w N (bootS w os)).map (openSeen q' loose (importedModules p.main.body) (fun _ => true) g0) = some (openGood q' loose))
    (hB : ∀ (w : World) (os : OsState), (topFrom treeTable p w N (bootS w os)).map (fun s => (Xt s, Yf s)) = some (true, Ya w)) :
    LeftO p q loose Xt Yf Ya N g0 := fun w => by
  subst hq
  obtain ⟨⟨hp, gs, d, k, os⟩, a, b⟩ := Option.map_eq_some_iff.mp (boot_open e hN f w)
  obtain ⟨rfl, rfl, rfl, rfl⟩ : hp = boot_heap w.params ∧ gs = Array.mk [] ∧ d = boot_drawn ∧ k = boot_toks := by simpa using b
  obtain ⟨s, t, u⟩ := Option.map_eq_some_iff.mp (hA w os)
  obtain ⟨s', t', u'⟩ := Option.map_eq_some_iff.mp (hB w os)
  obtain rfl : s' = s := Option.some.inj (t'.symm.trans t)
  obtain ⟨x, y⟩ := Prod.mk.inj u'
  unfold openEnds
  rw [a]
  show (topFrom treeTable p w N (bootS w os)).map _ = _
  rw [t]
  refine congrArg some (Prod.ext ?_ y)
  rw [← u]
  show openSeen q loose _ Xt g0 s' = _
  unfold openSeen
  rw [x]
def vw : Program := view PySem.Challenge.pw_qz0009_01 [1, 2, 4, 5, 6, 8, 9, 10, 11, 12, 13, 14, 15, 16, 17, 18, 19, 20, 21, 22, 23, 25, 26, 27, 28, 29, 30, 31, 32, 33]

namespace Rn
abbrev pw : Program := PySem.Challenge.pw_qz0009_01
def nth : List Stmt → Nat → Stmt
  | [], _ => default
  | s :: _, 0 => s
  | _ :: t, n + 1 => nth t n
def inner : Stmt → List Stmt
  | .ClassDef _ _ _ b .. => b
  | _ => []
def fnD (s : Stmt) (q : Str) : FuncData := match s with
  | .FunctionDef n a b _ _ _ sc .. => { name := n, qualname := q, params := a, body := .stmts b, scope := sc, globals := 0, builtins := 0, closure := [], defaults := .none, kwdefaults := .none }
  | _ => default
def bT : List Stmt := behindTheImports pw
def envT : Env := { scope := pw.main.scope, locals := mainNs, globals := mainNs, cells := [], code := .ref 13, frame := some 14 }
def cT : Code := .body bT envT
noncomputable def o0 (P : Params) : Obj := boot_o_0 P
noncomputable def o1 (P : Params) : Obj := boot_o_1 P
noncomputable def o2 (P : Params) : Obj := { cls := PySem.Value.none, data := PySem.Data.dict #[{ hash := PySem.PyData.keyHash P (PySem.Str.ofString "type.__subclasses__.Exception.0"), key := PySem.Value.str (PySem.Str.ofString "type.__subclasses__.Exception.0") 223, val := PySem.Value.int 40 0 }, { hash := PySem.PyData.keyHash P (PySem.Str.ofString "type.__subclasses__.Exception.n"), key := PySem.Value.str (PySem.Str.ofString "type.__subclasses__.Exception.n") 224, val := PySem.Value.int 1 0 }] 2 }
noncomputable def o3 (P : Params) : Obj := { cls := PySem.Value.type "dict", data := PySem.Data.dict #[{ hash := PySem.PyData.keyHash P (PySem.Str.ofString "__name__"), key := PySem.Value.str (PySem.Str.ofString "__name__") 165, val := PySem.Value.str (PySem.Str.ofString "law_qz0009_01") 510 }, { hash := PySem.PyData.keyHash P (PySem.Str.ofString "__doc__"), key := PySem.Value.str (PySem.Str.ofString "__doc__") 166, val := PySem.Value.none }, { hash := PySem.PyData.keyHash P (PySem.Str.ofString "__package__"), key := PySem.Value.str (PySem.Str.ofString "__package__") 167, val := PySem.Value.none }, { hash := PySem.PyData.keyHash P (PySem.Str.ofString "__loader__"), key := PySem.Value.str (PySem.Str.ofString "__loader__") 168, val := PySem.Value.builtin "__main__.__loader__#opaque" }, { hash := PySem.PyData.keyHash P (PySem.Str.ofString "__spec__"), key := PySem.Value.str (PySem.Str.ofString "__spec__") 169, val := PySem.Value.none }, { hash := PySem.PyData.keyHash P (PySem.Str.ofString "__annotations__"), key := PySem.Value.str (PySem.Str.ofString "__annotations__") 170, val := PySem.Value.ref 6 }, { hash := PySem.PyData.keyHash P (PySem.Str.ofString "__builtins__"), key := PySem.Value.str (PySem.Str.ofString "__builtins__") 171, val := PySem.Value.ref 4 }, { hash := PySem.PyData.keyHash P (PySem.Str.ofString "__file__"), key := PySem.Value.str (PySem.Str.ofString "__file__") 173, val := PySem.Value.str (PySem.Str.ofString "/claim/cut.py") 172 }, { hash := PySem.PyData.keyHash P (PySem.Str.ofString "__cached__"), key := PySem.Value.str (PySem.Str.ofString "__cached__") 174, val := PySem.Value.none }, { hash := PySem.PyData.keyHash P (PySem.Str.ofString "SmtError"), key := PySem.Value.str (PySem.Str.ofString "SmtError") 226, val := PySem.Value.ref 40 }, { hash := PySem.PyData.keyHash P (PySem.Str.ofString "SyntaxFault"), key := PySem.Value.str (PySem.Str.ofString "SyntaxFault") 261, val := PySem.Value.ref 69 }, { hash := PySem.PyData.keyHash P (PySem.Str.ofString "gcd_of"), key := PySem.Value.str (PySem.Str.ofString "gcd_of") 271, val := PySem.Value.ref 78 }, { hash := PySem.PyData.keyHash P (PySem.Str.ofString "ratio"), key := PySem.Value.str (PySem.Str.ofString "ratio") 280, val := PySem.Value.ref 85 }, { hash := PySem.PyData.keyHash P (PySem.Str.ofString "ratio_of_decimal"), key := PySem.Value.str (PySem.Str.ofString "ratio_of_decimal") 289, val := PySem.Value.ref 92 }, { hash := PySem.PyData.keyHash P (PySem.Str.ofString "BLANKS"), key := PySem.Value.str (PySem.Str.ofString "BLANKS") 293, val := PySem.Value.str (PySem.Str.ofString " \t\x0d\n") 292 }, { hash := PySem.PyData.keyHash P (PySem.Str.ofString "DIGITS"), key := PySem.Value.str (PySem.Str.ofString "DIGITS") 295, val := PySem.Value.str (PySem.Str.ofString "0123456789") 294 }, { hash := PySem.PyData.keyHash P (PySem.Str.ofString "HEX_DIGITS"), key := PySem.Value.str (PySem.Str.ofString "HEX_DIGITS") 297, val := PySem.Value.str (PySem.Str.ofString "0123456789abcdefABCDEF") 296 }, { hash := PySem.PyData.keyHash P (PySem.Str.ofString "LETTERS"), key := PySem.Value.str (PySem.Str.ofString "LETTERS") 299, val := PySem.Value.str (PySem.Str.ofString "abcdefghijklmnopqrstuvwxyzABCDEFGHIJKLMNOPQRSTUVWXYZ") 298 }, { hash := PySem.PyData.keyHash P (PySem.Str.ofString "MARKS"), key := PySem.Value.str (PySem.Str.ofString "MARKS") 301, val := PySem.Value.str (PySem.Str.ofString "~!@$%^&*_-+=<>.?/") 300 }, { hash := PySem.PyData.keyHash P (PySem.Str.ofString "MOST_FIGURES"), key := PySem.Value.str (PySem.Str.ofString "MOST_FIGURES") 303, val := PySem.Value.int 1000 302 }, { hash := PySem.PyData.keyHash P (PySem.Str.ofString "SIMPLE"), key := PySem.Value.str (PySem.Str.ofString "SIMPLE") 306, val := PySem.Value.str (PySem.Str.ofString "abcdefghijklmnopqrstuvwxyzABCDEFGHIJKLMNOPQRSTUVWXYZ0123456789~!@$%^&*_-+=<>.?/") 305 }, { hash := PySem.PyData.keyHash P (PySem.Str.ofString "RESERVED"), key := PySem.Value.str (PySem.Str.ofString "RESERVED") 320, val := PySem.Value.ref 93 }, { hash := PySem.PyData.keyHash P (PySem.Str.ofString "want_few"), key := PySem.Value.str (PySem.Str.ofString "want_few") 328, val := PySem.Value.ref 100 }, { hash := PySem.PyData.keyHash P (PySem.Str.ofString "value_of"), key := PySem.Value.str (PySem.Str.ofString "value_of") 338, val := PySem.Value.ref 107 }, { hash := PySem.PyData.keyHash P (PySem.Str.ofString "Scanner"), key := PySem.Value.str (PySem.Str.ofString "Scanner") 459, val := PySem.Value.ref 194 }, { hash := PySem.PyData.keyHash P (PySem.Str.ofString "read_up_to"), key := PySem.Value.str (PySem.Str.ofString "read_up_to") 472, val := PySem.Value.ref 205 }, { hash := PySem.PyData.keyHash P (PySem.Str.ofString "read_all"), key := PySem.Value.str (PySem.Str.ofString "read_all") 481, val := PySem.Value.ref 212 }, { hash := PySem.PyData.keyHash P (PySem.Str.ofString "read_one"), key := PySem.Value.str (PySem.Str.ofString "read_one") 489, val := PySem.Value.ref 219 }, { hash := PySem.PyData.keyHash P (PySem.Str.ofString "places_of"), key := PySem.Value.str (PySem.Str.ofString "places_of") 498, val := PySem.Value.ref 226 }, { hash := PySem.PyData.keyHash P (PySem.Str.ofString "decimal_text"), key := PySem.Value.str (PySem.Str.ofString "decimal_text") 509, val := PySem.Value.ref 233 }, { hash := PySem.PyData.keyHash P (PySem.Str.ofString "_law_draw"), key := PySem.Value.str (PySem.Str.ofString "_law_draw") 520, val := PySem.Value.ref 240 }, { hash := PySem.PyData.keyHash P (PySem.Str.ofString "_law_common"), key := PySem.Value.str (PySem.Str.ofString "_law_common") 528, val := PySem.Value.ref 247 }, { hash := PySem.PyData.keyHash P (PySem.Str.ofString "_law_lowest"), key := PySem.Value.str (PySem.Str.ofString "_law_lowest") 537, val := PySem.Value.ref 254 }, { hash := PySem.PyData.keyHash P (PySem.Str.ofString "_law_ratio"), key := PySem.Value.str (PySem.Str.ofString "_law_ratio") 546, val := PySem.Value.ref 261 }, { hash := PySem.PyData.keyHash P (PySem.Str.ofString "_law_first"), key := PySem.Value.str (PySem.Str.ofString "_law_first") 555, val := PySem.Value.ref 268 }, { hash := PySem.PyData.keyHash P (PySem.Str.ofString "_law_are_places_right"), key := PySem.Value.str (PySem.Str.ofString "_law_are_places_right") 561, val := PySem.Value.ref 273 }, { hash := PySem.PyData.keyHash P (PySem.Str.ofString "_law_is_sum_right"), key := PySem.Value.str (PySem.Str.ofString "_law_is_sum_right") 574, val := PySem.Value.ref 280 }, { hash := PySem.PyData.keyHash P (PySem.Str.ofString "_law_is_multiple_right"), key := PySem.Value.str (PySem.Str.ofString "_law_is_multiple_right") 584, val := PySem.Value.ref 287 }, { hash := PySem.PyData.keyHash P (PySem.Str.ofString "law"), key := PySem.Value.str (PySem.Str.ofString "law") 590, val := PySem.Value.ref 292 }] 39 }
noncomputable def o4 (P : Params) : Obj := boot_o_4 P
noncomputable def o5 (P : Params) : Obj := boot_o_5 P
noncomputable def o6 (P : Params) : Obj := boot_o_6 P
noncomputable def o7 (P : Params) : Obj := boot_o_7 P
noncomputable def o8 (P : Params) : Obj := boot_o_8 P
noncomputable def o9 (P : Params) : Obj := boot_o_9 P
noncomputable def o10 (P : Params) : Obj := boot_o_10 P
noncomputable def o11 (P : Params) : Obj := { cls := PySem.Value.type "tuple", data := PySem.Data.seq #[] }
noncomputable def o12 (P : Params) : Obj := { cls := PySem.Value.none, data := PySem.Data.fields #[PySem.Value.int 2 0, PySem.Value.int 0 0, PySem.Value.ref 21, PySem.Value.int 10 0, PySem.Value.int 0 0, PySem.Value.ref 50, PySem.Value.int 19 0, PySem.Value.int 0 0, PySem.Value.ref 77, PySem.Value.int 24 0, PySem.Value.int 0 0, PySem.Value.ref 84, PySem.Value.int 31 0, PySem.Value.int 0 0, PySem.Value.ref 91, PySem.Value.int 43 0, PySem.Value.int 0 0, PySem.Value.ref 99, PySem.Value.int 46 0, PySem.Value.int 0 0, PySem.Value.ref 106, PySem.Value.int 51 0, PySem.Value.int 0 0, PySem.Value.ref 113, PySem.Value.int 166 0, PySem.Value.int 0 0, PySem.Value.ref 204, PySem.Value.int 195 0, PySem.Value.int 0 0, PySem.Value.ref 211, PySem.Value.int 200 0, PySem.Value.int 0 0, PySem.Value.ref 218, PySem.Value.int 205 0, PySem.Value.int 0 0, PySem.Value.ref 225, PySem.Value.int 217 0, PySem.Value.int 0 0, PySem.Value.ref 232, PySem.Value.int 228 0, PySem.Value.int 0 0, PySem.Value.ref 239, PySem.Value.int 234 0, PySem.Value.int 0 0, PySem.Value.ref 246, PySem.Value.int 238 0, PySem.Value.int 0 0, PySem.Value.ref 253, PySem.Value.int 241 0, PySem.Value.int 0 0, PySem.Value.ref 260, PySem.Value.int 245 0, PySem.Value.int 0 0, PySem.Value.ref 267, PySem.Value.int 250 0, PySem.Value.int 0 0, PySem.Value.ref 272, PySem.Value.int 252 0, PySem.Value.int 0 0, PySem.Value.ref 279, PySem.Value.int 261 0, PySem.Value.int 0 0, PySem.Value.ref 286, PySem.Value.int 265 0, PySem.Value.int 0 0, PySem.Value.ref 291] }
noncomputable def o13 (P : Params) : Obj := { cls := PySem.Value.type "code", data := PySem.Data.fields #[PySem.Value.str (PySem.Str.ofString "<module>") 182, PySem.Value.str (PySem.Str.ofString "<module>") 183, PySem.Value.str (PySem.Str.ofString "/claim/cut.py") 184, PySem.Value.int 1 0, PySem.Value.int 0 0, PySem.Value.int 0 0, PySem.Value.int 0 0, PySem.Value.int 0 0, PySem.Value.ref 11, PySem.Value.bool Bool.false, PySem.Value.int 181 0, PySem.Value.ref 12, PySem.Value.none, PySem.Value.none, PySem.Value.none, PySem.Value.none, PySem.Value.int 185 0, PySem.Value.int 1 0, PySem.Value.str (PySem.Str.ofString "/claim/cut.py") 186] }
noncomputable def o14 (P : Params) : Obj := { cls := PySem.Value.type "frame", slots := #[Option.some (PySem.Value.ref 13), Option.some (PySem.Value.ref 3), Option.some (PySem.Value.ref 3), Option.none, Option.some (PySem.Value.str (PySem.Str.ofString "__main__") 164), Option.none, Option.some (PySem.Value.ref 0)] }
noncomputable def o15 (P : Params) : Obj := { cls := PySem.Value.type "tuple", data := PySem.Data.seq #[PySem.Value.type "Exception"] }
noncomputable def o16 (P : Params) : Obj := { cls := PySem.Value.type "builtin_function_or_method", data := PySem.Data.fields #[PySem.Value.builtin "type.__prepare__", PySem.Value.type "type"] }
noncomputable def o17 (P : Params) : Obj := { cls := PySem.Value.type "dict", data := PySem.Data.dict #[{ hash := PySem.PyData.keyHash P (PySem.Str.ofString "__module__"), key := PySem.Value.str (PySem.Str.ofString "__module__") 196, val := PySem.Value.str (PySem.Str.ofString "minismt.errors") 187 }, { hash := PySem.PyData.keyHash P (PySem.Str.ofString "__qualname__"), key := PySem.Value.str (PySem.Str.ofString "__qualname__") 198, val := PySem.Value.str (PySem.Str.ofString "SmtError") 197 }, { hash := PySem.PyData.keyHash P (PySem.Str.ofString "__firstlineno__"), key := PySem.Value.str (PySem.Str.ofString "__firstlineno__") 200, val := PySem.Value.int 2 199 }, { hash := PySem.PyData.keyHash P (PySem.Str.ofString "__init__"), key := PySem.Value.str (PySem.Str.ofString "__init__") 209, val := PySem.Value.ref 30 }, { hash := PySem.PyData.keyHash P (PySem.Str.ofString "told"), key := PySem.Value.str (PySem.Str.ofString "told") 216, val := PySem.Value.ref 37 }, { hash := PySem.PyData.keyHash P (PySem.Str.ofString "__static_attributes__"), key := PySem.Value.str (PySem.Str.ofString "__static_attributes__") 218, val := PySem.Value.ref 38 }, { hash := PySem.PyData.keyHash P (PySem.Str.ofString "__classcell__"), key := PySem.Value.str (PySem.Str.ofString "__classcell__") 219, val := PySem.Value.ref 18 }] 7 }
noncomputable def o18 (P : Params) : Obj := { cls := PySem.Value.type "cell", data := PySem.Data.cell (Option.some (PySem.Value.ref 40)) }
noncomputable def o19 (P : Params) : Obj := { cls := PySem.Value.type "tuple", data := PySem.Data.seq #[] }
noncomputable def o20 (P : Params) : Obj := { cls := PySem.Value.none, data := PySem.Data.fields #[PySem.Value.int 4 0, PySem.Value.int 4 0, PySem.Value.ref 29, PySem.Value.int 8 0, PySem.Value.int 4 0, PySem.Value.ref 36] }
noncomputable def o21 (P : Params) : Obj := { cls := PySem.Value.type "code", data := PySem.Data.fields #[PySem.Value.str (PySem.Str.ofString "SmtError") 191, PySem.Value.str (PySem.Str.ofString "SmtError") 192, PySem.Value.str (PySem.Str.ofString "/claim/cut.py") 193, PySem.Value.int 2 0, PySem.Value.int 0 0, PySem.Value.int 0 0, PySem.Value.int 0 0, PySem.Value.int 0 0, PySem.Value.ref 19, PySem.Value.bool Bool.false, PySem.Value.int 181 0, PySem.Value.ref 20, PySem.Value.none, PySem.Value.none, PySem.Value.none, PySem.Value.none, PySem.Value.int 194 0, PySem.Value.int 2 0, PySem.Value.str (PySem.Str.ofString "/claim/cut.py") 195] }
noncomputable def o22 (P : Params) : Obj := { cls := PySem.Value.type "frame", slots := #[Option.some (PySem.Value.ref 21), Option.some (PySem.Value.ref 3), Option.some (PySem.Value.ref 17), Option.none, Option.some (PySem.Value.str (PySem.Str.ofString "minismt.errors") 187), Option.none, Option.some (PySem.Value.ref 0)] }
noncomputable def o23 (P : Params) : Obj := { cls := PySem.Value.type "tuple", data := PySem.Data.seq #[PySem.Value.ref 18] }
noncomputable def o24 (P : Params) : Obj := { cls := PySem.Value.type "tuple", data := PySem.Data.seq #[PySem.Value.str (PySem.Str.ofString "__class__") 204] }
noncomputable def o25 (P : Params) : Obj := { cls := PySem.Value.none, data := PySem.Data.fields #[] }
noncomputable def o26 (P : Params) : Obj := { cls := PySem.Value.type "tuple", data := PySem.Data.seq #[PySem.Value.str (PySem.Str.ofString "self") 205, PySem.Value.str (PySem.Str.ofString "what") 206] }
noncomputable def o27 (P : Params) : Obj := { cls := PySem.Value.type "tuple", data := PySem.Data.seq #[] }
noncomputable def o28 (P : Params) : Obj := { cls := PySem.Value.none, dict := Option.none, slots := #[], data := .func { fnD (nth (inner (nth bT 1)) 0) (PySem.Str.ofString "SmtError.__init__") with globals := 0, closure := [], defaults := PySem.Value.none, kwdefaults := PySem.Value.none, doc := PySem.Value.none, pyModule := PySem.Value.none, annotations := Option.none, code := PySem.Value.none, closureTuple := PySem.Value.none, builtins := 0 } }
noncomputable def o29 (P : Params) : Obj := { cls := PySem.Value.type "code", data := PySem.Data.fields #[PySem.Value.str (PySem.Str.ofString "__init__") 201, PySem.Value.str (PySem.Str.ofString "SmtError.__init__") 202, PySem.Value.str (PySem.Str.ofString "/claim/cut.py") 203, PySem.Value.int 4 0, PySem.Value.int 2 0, PySem.Value.int 0 0, PySem.Value.int 0 0, PySem.Value.int 3 0, PySem.Value.ref 24, PySem.Value.bool Bool.true, PySem.Value.int 181 0, PySem.Value.ref 25, PySem.Value.none, PySem.Value.ref 26, PySem.Value.ref 27, PySem.Value.ref 28, PySem.Value.int 207 0, PySem.Value.int 4 0, PySem.Value.str (PySem.Str.ofString "/claim/cut.py") 208] }
noncomputable def o30 (P : Params) : Obj := { cls := PySem.Value.type "function", dict := Option.none, slots := #[], data := .func { fnD (nth (inner (nth bT 1)) 0) (PySem.Str.ofString "SmtError.__init__") with globals := 3, closure := [(PySem.Str.ofString "__class__", 18)], defaults := PySem.Value.none, kwdefaults := PySem.Value.none, doc := PySem.Value.none, pyModule := PySem.Value.str (PySem.Str.ofString "minismt.errors") 187, annotations := Option.none, code := PySem.Value.ref 29, closureTuple := PySem.Value.ref 23, builtins := 0 } }
noncomputable def o31 (P : Params) : Obj := { cls := PySem.Value.type "tuple", data := PySem.Data.seq #[] }
noncomputable def o32 (P : Params) : Obj := { cls := PySem.Value.none, data := PySem.Data.fields #[] }
noncomputable def o33 (P : Params) : Obj := { cls := PySem.Value.type "tuple", data := PySem.Data.seq #[PySem.Value.str (PySem.Str.ofString "self") 213] }
noncomputable def o34 (P : Params) : Obj := { cls := PySem.Value.type "tuple", data := PySem.Data.seq #[] }
noncomputable def o35 (P : Params) : Obj := { cls := PySem.Value.none, dict := Option.none, slots := #[], data := .func { fnD (nth (inner (nth bT 1)) 1) (PySem.Str.ofString "SmtError.told") with globals := 0, closure := [], defaults := PySem.Value.none, kwdefaults := PySem.Value.none, doc := PySem.Value.none, pyModule := PySem.Value.none, annotations := Option.none, code := PySem.Value.none, closureTuple := PySem.Value.none, builtins := 0 } }
noncomputable def o36 (P : Params) : Obj := { cls := PySem.Value.type "code", data := PySem.Data.fields #[PySem.Value.str (PySem.Str.ofString "told") 210, PySem.Value.str (PySem.Str.ofString "SmtError.told") 211, PySem.Value.str (PySem.Str.ofString "/claim/cut.py") 212, PySem.Value.int 8 0, PySem.Value.int 1 0, PySem.Value.int 0 0, PySem.Value.int 0 0, PySem.Value.int 3 0, PySem.Value.ref 31, PySem.Value.bool Bool.true, PySem.Value.int 181 0, PySem.Value.ref 32, PySem.Value.none, PySem.Value.ref 33, PySem.Value.ref 34, PySem.Value.ref 35, PySem.Value.int 214 0, PySem.Value.int 8 0, PySem.Value.str (PySem.Str.ofString "/claim/cut.py") 215] }
noncomputable def o37 (P : Params) : Obj := { cls := PySem.Value.type "function", dict := Option.none, slots := #[], data := .func { fnD (nth (inner (nth bT 1)) 1) (PySem.Str.ofString "SmtError.told") with globals := 3, closure := [], defaults := PySem.Value.none, kwdefaults := PySem.Value.none, doc := PySem.Value.none, pyModule := PySem.Value.str (PySem.Str.ofString "minismt.errors") 187, annotations := Option.none, code := PySem.Value.ref 36, closureTuple := PySem.Value.none, builtins := 0 } }
noncomputable def o38 (P : Params) : Obj := { cls := PySem.Value.type "tuple", data := PySem.Data.seq #[PySem.Value.str (PySem.Str.ofString "what") 217] }
noncomputable def o39 (P : Params) : Obj := { cls := PySem.Value.type "dict", data := PySem.Data.dict #[{ hash := PySem.PyData.keyHash P (PySem.Str.ofString "__module__"), key := PySem.Value.str (PySem.Str.ofString "__module__") 196, val := PySem.Value.str (PySem.Str.ofString "minismt.errors") 187 }, { hash := PySem.PyData.keyHash P (PySem.Str.ofString "__firstlineno__"), key := PySem.Value.str (PySem.Str.ofString "__firstlineno__") 200, val := PySem.Value.int 2 199 }, { hash := PySem.PyData.keyHash P (PySem.Str.ofString "__init__"), key := PySem.Value.str (PySem.Str.ofString "__init__") 209, val := PySem.Value.ref 30 }, { hash := PySem.PyData.keyHash P (PySem.Str.ofString "told"), key := PySem.Value.str (PySem.Str.ofString "told") 216, val := PySem.Value.ref 37 }, { hash := PySem.PyData.keyHash P (PySem.Str.ofString "__static_attributes__"), key := PySem.Value.str (PySem.Str.ofString "__static_attributes__") 218, val := PySem.Value.ref 38 }, { hash := PySem.PyData.keyHash P (PySem.Str.ofString "__weakref__"), key := PySem.Value.str (PySem.Str.ofString "__weakref__") 221, val := PySem.Value.ref 41 }, { hash := PySem.PyData.keyHash P (PySem.Str.ofString "__doc__"), key := PySem.Value.str (PySem.Str.ofString "__doc__") 222, val := PySem.Value.none }] 4 }
noncomputable def o40 (P : Params) : Obj := { cls := PySem.Value.type "type", data := PySem.Data.cls { name := PySem.Str.ofString "SmtError", bases := [PySem.Value.type "Exception"], mro := [PySem.Value.ref 40, PySem.Value.type "Exception", PySem.Value.type "BaseException", PySem.Value.type "object"], ns := 39, qualname := PySem.Str.ofString "SmtError", subclasses := [PySem.Value.ref 69] }, slots := #[Option.some (PySem.Value.ref 15), Option.none, Option.some (PySem.Value.str (PySem.Str.ofString "SmtError") 189), Option.some (PySem.Value.str (PySem.Str.ofString "SmtError") 197), Option.some (PySem.Value.builtin "Exception.__new__"), Option.some (PySem.Value.bool Bool.true)] }
noncomputable def o41 (P : Params) : Obj := { cls := PySem.Value.type "getset_descriptor", data := PySem.Data.fields #[PySem.Value.str (PySem.Str.ofString "__weakref__") 220, PySem.Value.ref 40, PySem.Value.builtin "ExceptionGroup.__weakref__", PySem.Value.none] }
noncomputable def o42 (P : Params) : Obj := { cls := PySem.Value.type "super", data := PySem.Data.fields #[PySem.Value.ref 40, PySem.Value.ref 40, PySem.Value.ref 40] }
noncomputable def o43 (P : Params) : Obj := { cls := PySem.Value.type "builtin_function_or_method", data := PySem.Data.fields #[PySem.Value.builtin "object.__init_subclass__", PySem.Value.ref 40] }
noncomputable def o44 (P : Params) : Obj := { cls := PySem.Value.type "tuple", data := PySem.Data.seq #[PySem.Value.ref 40] }
noncomputable def o45 (P : Params) : Obj := { cls := PySem.Value.type "builtin_function_or_method", data := PySem.Data.fields #[PySem.Value.builtin "type.__prepare__", PySem.Value.type "type"] }
noncomputable def o46 (P : Params) : Obj := { cls := PySem.Value.type "dict", data := PySem.Data.dict #[{ hash := PySem.PyData.keyHash P (PySem.Str.ofString "__module__"), key := PySem.Value.str (PySem.Str.ofString "__module__") 234, val := PySem.Value.str (PySem.Str.ofString "minismt.errors") 187 }, { hash := PySem.PyData.keyHash P (PySem.Str.ofString "__qualname__"), key := PySem.Value.str (PySem.Str.ofString "__qualname__") 236, val := PySem.Value.str (PySem.Str.ofString "SyntaxFault") 235 }, { hash := PySem.PyData.keyHash P (PySem.Str.ofString "__firstlineno__"), key := PySem.Value.str (PySem.Str.ofString "__firstlineno__") 238, val := PySem.Value.int 10 237 }, { hash := PySem.PyData.keyHash P (PySem.Str.ofString "__init__"), key := PySem.Value.str (PySem.Str.ofString "__init__") 248, val := PySem.Value.ref 59 }, { hash := PySem.PyData.keyHash P (PySem.Str.ofString "told"), key := PySem.Value.str (PySem.Str.ofString "told") 255, val := PySem.Value.ref 66 }, { hash := PySem.PyData.keyHash P (PySem.Str.ofString "__static_attributes__"), key := PySem.Value.str (PySem.Str.ofString "__static_attributes__") 257, val := PySem.Value.ref 67 }, { hash := PySem.PyData.keyHash P (PySem.Str.ofString "__classcell__"), key := PySem.Value.str (PySem.Str.ofString "__classcell__") 258, val := PySem.Value.ref 47 }] 7 }
noncomputable def o47 (P : Params) : Obj := { cls := PySem.Value.type "cell", data := PySem.Data.cell (Option.some (PySem.Value.ref 69)) }
noncomputable def o48 (P : Params) : Obj := { cls := PySem.Value.type "tuple", data := PySem.Data.seq #[] }
noncomputable def o49 (P : Params) : Obj := { cls := PySem.Value.none, data := PySem.Data.fields #[PySem.Value.int 12 0, PySem.Value.int 4 0, PySem.Value.ref 58, PySem.Value.int 16 0, PySem.Value.int 4 0, PySem.Value.ref 65] }
noncomputable def o50 (P : Params) : Obj := { cls := PySem.Value.type "code", data := PySem.Data.fields #[PySem.Value.str (PySem.Str.ofString "SyntaxFault") 229, PySem.Value.str (PySem.Str.ofString "SyntaxFault") 230, PySem.Value.str (PySem.Str.ofString "/claim/cut.py") 231, PySem.Value.int 10 0, PySem.Value.int 0 0, PySem.Value.int 0 0, PySem.Value.int 0 0, PySem.Value.int 0 0, PySem.Value.ref 48, PySem.Value.bool Bool.false, PySem.Value.int 181 0, PySem.Value.ref 49, PySem.Value.none, PySem.Value.none, PySem.Value.none, PySem.Value.none, PySem.Value.int 232 0, PySem.Value.int 10 0, PySem.Value.str (PySem.Str.ofString "/claim/cut.py") 233] }
noncomputable def o51 (P : Params) : Obj := { cls := PySem.Value.type "frame", slots := #[Option.some (PySem.Value.ref 50), Option.some (PySem.Value.ref 3), Option.some (PySem.Value.ref 46), Option.none, Option.some (PySem.Value.str (PySem.Str.ofString "minismt.errors") 187), Option.none, Option.some (PySem.Value.ref 0)] }
noncomputable def o52 (P : Params) : Obj := { cls := PySem.Value.type "tuple", data := PySem.Data.seq #[PySem.Value.ref 47] }
noncomputable def o53 (P : Params) : Obj := { cls := PySem.Value.type "tuple", data := PySem.Data.seq #[PySem.Value.str (PySem.Str.ofString "__class__") 242] }
noncomputable def o54 (P : Params) : Obj := { cls := PySem.Value.none, data := PySem.Data.fields #[] }
noncomputable def o55 (P : Params) : Obj := { cls := PySem.Value.type "tuple", data := PySem.Data.seq #[PySem.Value.str (PySem.Str.ofString "self") 243, PySem.Value.str (PySem.Str.ofString "what") 244, PySem.Value.str (PySem.Str.ofString "spot") 245] }
noncomputable def o56 (P : Params) : Obj := { cls := PySem.Value.type "tuple", data := PySem.Data.seq #[] }
noncomputable def o57 (P : Params) : Obj := { cls := PySem.Value.none, dict := Option.none, slots := #[], data := .func { fnD (nth (inner (nth bT 2)) 0) (PySem.Str.ofString "SyntaxFault.__init__") with globals := 0, closure := [], defaults := PySem.Value.none, kwdefaults := PySem.Value.none, doc := PySem.Value.none, pyModule := PySem.Value.none, annotations := Option.none, code := PySem.Value.none, closureTuple := PySem.Value.none, builtins := 0 } }
noncomputable def o58 (P : Params) : Obj := { cls := PySem.Value.type "code", data := PySem.Data.fields #[PySem.Value.str (PySem.Str.ofString "__init__") 239, PySem.Value.str (PySem.Str.ofString "SyntaxFault.__init__") 240, PySem.Value.str (PySem.Str.ofString "/claim/cut.py") 241, PySem.Value.int 12 0, PySem.Value.int 3 0, PySem.Value.int 0 0, PySem.Value.int 0 0, PySem.Value.int 3 0, PySem.Value.ref 53, PySem.Value.bool Bool.true, PySem.Value.int 181 0, PySem.Value.ref 54, PySem.Value.none, PySem.Value.ref 55, PySem.Value.ref 56, PySem.Value.ref 57, PySem.Value.int 246 0, PySem.Value.int 12 0, PySem.Value.str (PySem.Str.ofString "/claim/cut.py") 247] }
noncomputable def o59 (P : Params) : Obj := { cls := PySem.Value.type "function", dict := Option.none, slots := #[], data := .func { fnD (nth (inner (nth bT 2)) 0) (PySem.Str.ofString "SyntaxFault.__init__") with globals := 3, closure := [(PySem.Str.ofString "__class__", 47)], defaults := PySem.Value.none, kwdefaults := PySem.Value.none, doc := PySem.Value.none, pyModule := PySem.Value.str (PySem.Str.ofString "minismt.errors") 187, annotations := Option.none, code := PySem.Value.ref 58, closureTuple := PySem.Value.ref 52, builtins := 0 } }
noncomputable def o60 (P : Params) : Obj := { cls := PySem.Value.type "tuple", data := PySem.Data.seq #[] }
noncomputable def o61 (P : Params) : Obj := { cls := PySem.Value.none, data := PySem.Data.fields #[] }
noncomputable def o62 (P : Params) : Obj := { cls := PySem.Value.type "tuple", data := PySem.Data.seq #[PySem.Value.str (PySem.Str.ofString "self") 252] }
noncomputable def o63 (P : Params) : Obj := { cls := PySem.Value.type "tuple", data := PySem.Data.seq #[] }
noncomputable def o64 (P : Params) : Obj := { cls := PySem.Value.none, dict := Option.none, slots := #[], data := .func { fnD (nth (inner (nth bT 2)) 1) (PySem.Str.ofString "SyntaxFault.told") with globals := 0, closure := [], defaults := PySem.Value.none, kwdefaults := PySem.Value.none, doc := PySem.Value.none, pyModule := PySem.Value.none, annotations := Option.none, code := PySem.Value.none, closureTuple := PySem.Value.none, builtins := 0 } }
noncomputable def o65 (P : Params) : Obj := { cls := PySem.Value.type "code", data := PySem.Data.fields #[PySem.Value.str (PySem.Str.ofString "told") 249, PySem.Value.str (PySem.Str.ofString "SyntaxFault.told") 250, PySem.Value.str (PySem.Str.ofString "/claim/cut.py") 251, PySem.Value.int 16 0, PySem.Value.int 1 0, PySem.Value.int 0 0, PySem.Value.int 0 0, PySem.Value.int 3 0, PySem.Value.ref 60, PySem.Value.bool Bool.true, PySem.Value.int 181 0, PySem.Value.ref 61, PySem.Value.none, PySem.Value.ref 62, PySem.Value.ref 63, PySem.Value.ref 64, PySem.Value.int 253 0, PySem.Value.int 16 0, PySem.Value.str (PySem.Str.ofString "/claim/cut.py") 254] }
noncomputable def o66 (P : Params) : Obj := { cls := PySem.Value.type "function", dict := Option.none, slots := #[], data := .func { fnD (nth (inner (nth bT 2)) 1) (PySem.Str.ofString "SyntaxFault.told") with globals := 3, closure := [], defaults := PySem.Value.none, kwdefaults := PySem.Value.none, doc := PySem.Value.none, pyModule := PySem.Value.str (PySem.Str.ofString "minismt.errors") 187, annotations := Option.none, code := PySem.Value.ref 65, closureTuple := PySem.Value.none, builtins := 0 } }
noncomputable def o67 (P : Params) : Obj := { cls := PySem.Value.type "tuple", data := PySem.Data.seq #[PySem.Value.str (PySem.Str.ofString "spot") 256] }
noncomputable def o68 (P : Params) : Obj := { cls := PySem.Value.type "dict", data := PySem.Data.dict #[{ hash := PySem.PyData.keyHash P (PySem.Str.ofString "__module__"), key := PySem.Value.str (PySem.Str.ofString "__module__") 234, val := PySem.Value.str (PySem.Str.ofString "minismt.errors") 187 }, { hash := PySem.PyData.keyHash P (PySem.Str.ofString "__firstlineno__"), key := PySem.Value.str (PySem.Str.ofString "__firstlineno__") 238, val := PySem.Value.int 10 237 }, { hash := PySem.PyData.keyHash P (PySem.Str.ofString "__init__"), key := PySem.Value.str (PySem.Str.ofString "__init__") 248, val := PySem.Value.ref 59 }, { hash := PySem.PyData.keyHash P (PySem.Str.ofString "told"), key := PySem.Value.str (PySem.Str.ofString "told") 255, val := PySem.Value.ref 66 }, { hash := PySem.PyData.keyHash P (PySem.Str.ofString "__static_attributes__"), key := PySem.Value.str (PySem.Str.ofString "__static_attributes__") 257, val := PySem.Value.ref 67 }, { hash := PySem.PyData.keyHash P (PySem.Str.ofString "__doc__"), key := PySem.Value.str (PySem.Str.ofString "__doc__") 259, val := PySem.Value.none }] 3 }
noncomputable def o69 (P : Params) : Obj := { cls := PySem.Value.type "type", data := PySem.Data.cls { name := PySem.Str.ofString "SyntaxFault", bases := [PySem.Value.ref 40], mro := [PySem.Value.ref 69, PySem.Value.ref 40, PySem.Value.type "Exception", PySem.Value.type "BaseException", PySem.Value.type "object"], ns := 68, qualname := PySem.Str.ofString "SyntaxFault" }, slots := #[Option.some (PySem.Value.ref 44), Option.none, Option.some (PySem.Value.str (PySem.Str.ofString "SyntaxFault") 227), Option.some (PySem.Value.str (PySem.Str.ofString "SyntaxFault") 235), Option.some (PySem.Value.builtin "Exception.__new__"), Option.some (PySem.Value.bool Bool.true)] }
noncomputable def o70 (P : Params) : Obj := { cls := PySem.Value.type "super", data := PySem.Data.fields #[PySem.Value.ref 69, PySem.Value.ref 69, PySem.Value.ref 69] }
noncomputable def o71 (P : Params) : Obj := { cls := PySem.Value.type "builtin_function_or_method", data := PySem.Data.fields #[PySem.Value.builtin "object.__init_subclass__", PySem.Value.ref 69] }
noncomputable def o72 (P : Params) : Obj := { cls := PySem.Value.type "tuple", data := PySem.Data.seq #[] }
noncomputable def o73 (P : Params) : Obj := { cls := PySem.Value.none, data := PySem.Data.fields #[] }
noncomputable def o74 (P : Params) : Obj := { cls := PySem.Value.type "tuple", data := PySem.Data.seq #[PySem.Value.str (PySem.Str.ofString "a") 267, PySem.Value.str (PySem.Str.ofString "b") 268] }
noncomputable def o75 (P : Params) : Obj := { cls := PySem.Value.type "tuple", data := PySem.Data.seq #[] }
noncomputable def o76 (P : Params) : Obj := { cls := PySem.Value.none, dict := Option.none, slots := #[], data := .func { fnD (nth bT 4) (PySem.Str.ofString "gcd_of") with globals := 0, closure := [], defaults := PySem.Value.none, kwdefaults := PySem.Value.none, doc := PySem.Value.none, pyModule := PySem.Value.none, annotations := Option.none, code := PySem.Value.none, closureTuple := PySem.Value.none, builtins := 0 } }
noncomputable def o77 (P : Params) : Obj := { cls := PySem.Value.type "code", data := PySem.Data.fields #[PySem.Value.str (PySem.Str.ofString "gcd_of") 264, PySem.Value.str (PySem.Str.ofString "gcd_of") 265, PySem.Value.str (PySem.Str.ofString "/claim/cut.py") 266, PySem.Value.int 19 0, PySem.Value.int 2 0, PySem.Value.int 0 0, PySem.Value.int 0 0, PySem.Value.int 3 0, PySem.Value.ref 72, PySem.Value.bool Bool.true, PySem.Value.int 181 0, PySem.Value.ref 73, PySem.Value.none, PySem.Value.ref 74, PySem.Value.ref 75, PySem.Value.ref 76, PySem.Value.int 269 0, PySem.Value.int 19 0, PySem.Value.str (PySem.Str.ofString "/claim/cut.py") 270] }
noncomputable def o78 (P : Params) : Obj := { cls := PySem.Value.type "function", dict := Option.none, slots := #[], data := .func { fnD (nth bT 4) (PySem.Str.ofString "gcd_of") with globals := 3, closure := [], defaults := PySem.Value.none, kwdefaults := PySem.Value.none, doc := PySem.Value.none, pyModule := PySem.Value.str (PySem.Str.ofString "minismt.ratios") 262, annotations := Option.none, code := PySem.Value.ref 77, closureTuple := PySem.Value.none, builtins := 0 } }
noncomputable def o79 (P : Params) : Obj := { cls := PySem.Value.type "tuple", data := PySem.Data.seq #[] }
noncomputable def o80 (P : Params) : Obj := { cls := PySem.Value.none, data := PySem.Data.fields #[] }
noncomputable def o81 (P : Params) : Obj := { cls := PySem.Value.type "tuple", data := PySem.Data.seq #[PySem.Value.str (PySem.Str.ofString "top") 275, PySem.Value.str (PySem.Str.ofString "bottom") 276, PySem.Value.str (PySem.Str.ofString "common") 277] }
noncomputable def o82 (P : Params) : Obj := { cls := PySem.Value.type "tuple", data := PySem.Data.seq #[] }
noncomputable def o83 (P : Params) : Obj := { cls := PySem.Value.none, dict := Option.none, slots := #[], data := .func { fnD (nth bT 5) (PySem.Str.ofString "ratio") with globals := 0, closure := [], defaults := PySem.Value.none, kwdefaults := PySem.Value.none, doc := PySem.Value.none, pyModule := PySem.Value.none, annotations := Option.none, code := PySem.Value.none, closureTuple := PySem.Value.none, builtins := 0 } }
noncomputable def o84 (P : Params) : Obj := { cls := PySem.Value.type "code", data := PySem.Data.fields #[PySem.Value.str (PySem.Str.ofString "ratio") 272, PySem.Value.str (PySem.Str.ofString "ratio") 273, PySem.Value.str (PySem.Str.ofString "/claim/cut.py") 274, PySem.Value.int 24 0, PySem.Value.int 2 0, PySem.Value.int 0 0, PySem.Value.int 0 0, PySem.Value.int 3 0, PySem.Value.ref 79, PySem.Value.bool Bool.true, PySem.Value.int 181 0, PySem.Value.ref 80, PySem.Value.none, PySem.Value.ref 81, PySem.Value.ref 82, PySem.Value.ref 83, PySem.Value.int 278 0, PySem.Value.int 24 0, PySem.Value.str (PySem.Str.ofString "/claim/cut.py") 279] }
noncomputable def o85 (P : Params) : Obj := { cls := PySem.Value.type "function", dict := Option.none, slots := #[], data := .func { fnD (nth bT 5) (PySem.Str.ofString "ratio") with globals := 3, closure := [], defaults := PySem.Value.none, kwdefaults := PySem.Value.none, doc := PySem.Value.none, pyModule := PySem.Value.str (PySem.Str.ofString "minismt.ratios") 262, annotations := Option.none, code := PySem.Value.ref 84, closureTuple := PySem.Value.none, builtins := 0 } }
noncomputable def o86 (P : Params) : Obj := { cls := PySem.Value.type "tuple", data := PySem.Data.seq #[] }
noncomputable def o87 (P : Params) : Obj := { cls := PySem.Value.none, data := PySem.Data.fields #[] }
noncomputable def o88 (P : Params) : Obj := { cls := PySem.Value.type "tuple", data := PySem.Data.seq #[PySem.Value.str (PySem.Str.ofString "ahead") 284, PySem.Value.str (PySem.Str.ofString "behind") 285, PySem.Value.str (PySem.Str.ofString "scale") 286] }
noncomputable def o89 (P : Params) : Obj := { cls := PySem.Value.type "tuple", data := PySem.Data.seq #[] }
noncomputable def o90 (P : Params) : Obj := { cls := PySem.Value.none, dict := Option.none, slots := #[], data := .func { fnD (nth bT 6) (PySem.Str.ofString "ratio_of_decimal") with globals := 0, closure := [], defaults := PySem.Value.none, kwdefaults := PySem.Value.none, doc := PySem.Value.none, pyModule := PySem.Value.none, annotations := Option.none, code := PySem.Value.none, closureTuple := PySem.Value.none, builtins := 0 } }
noncomputable def o91 (P : Params) : Obj := { cls := PySem.Value.type "code", data := PySem.Data.fields #[PySem.Value.str (PySem.Str.ofString "ratio_of_decimal") 281, PySem.Value.str (PySem.Str.ofString "ratio_of_decimal") 282, PySem.Value.str (PySem.Str.ofString "/claim/cut.py") 283, PySem.Value.int 31 0, PySem.Value.int 2 0, PySem.Value.int 0 0, PySem.Value.int 0 0, PySem.Value.int 3 0, PySem.Value.ref 86, PySem.Value.bool Bool.true, PySem.Value.int 181 0, PySem.Value.ref 87, PySem.Value.none, PySem.Value.ref 88, PySem.Value.ref 89, PySem.Value.ref 90, PySem.Value.int 287 0, PySem.Value.int 31 0, PySem.Value.str (PySem.Str.ofString "/claim/cut.py") 288] }
noncomputable def o92 (P : Params) : Obj := { cls := PySem.Value.type "function", dict := Option.none, slots := #[], data := .func { fnD (nth bT 6) (PySem.Str.ofString "ratio_of_decimal") with globals := 3, closure := [], defaults := PySem.Value.none, kwdefaults := PySem.Value.none, doc := PySem.Value.none, pyModule := PySem.Value.str (PySem.Str.ofString "minismt.ratios") 262, annotations := Option.none, code := PySem.Value.ref 91, closureTuple := PySem.Value.none, builtins := 0 } }
noncomputable def o93 (P : Params) : Obj := { cls := PySem.Value.type "tuple", data := PySem.Data.seq #[PySem.Value.str (PySem.Str.ofString "!") 307, PySem.Value.str (PySem.Str.ofString "_") 308, PySem.Value.str (PySem.Str.ofString "as") 309, PySem.Value.str (PySem.Str.ofString "BINARY") 310, PySem.Value.str (PySem.Str.ofString "DECIMAL") 311, PySem.Value.str (PySem.Str.ofString "exists") 312, PySem.Value.str (PySem.Str.ofString "forall") 313, PySem.Value.str (PySem.Str.ofString "HEXADECIMAL") 314, PySem.Value.str (PySem.Str.ofString "let") 315, PySem.Value.str (PySem.Str.ofString "match") 316, PySem.Value.str (PySem.Str.ofString "NUMERAL") 317, PySem.Value.str (PySem.Str.ofString "par") 318, PySem.Value.str (PySem.Str.ofString "STRING") 319] }
noncomputable def o94 (P : Params) : Obj := { cls := PySem.Value.type "tuple", data := PySem.Data.seq #[] }
noncomputable def o95 (P : Params) : Obj := { cls := PySem.Value.none, data := PySem.Data.fields #[] }
noncomputable def o96 (P : Params) : Obj := { cls := PySem.Value.type "tuple", data := PySem.Data.seq #[PySem.Value.str (PySem.Str.ofString "figures") 324, PySem.Value.str (PySem.Str.ofString "spot") 325] }
noncomputable def o97 (P : Params) : Obj := { cls := PySem.Value.type "tuple", data := PySem.Data.seq #[] }
noncomputable def o98 (P : Params) : Obj := { cls := PySem.Value.none, dict := Option.none, slots := #[], data := .func { fnD (nth bT 16) (PySem.Str.ofString "want_few") with globals := 0, closure := [], defaults := PySem.Value.none, kwdefaults := PySem.Value.none, doc := PySem.Value.none, pyModule := PySem.Value.none, annotations := Option.none, code := PySem.Value.none, closureTuple := PySem.Value.none, builtins := 0 } }
noncomputable def o99 (P : Params) : Obj := { cls := PySem.Value.type "code", data := PySem.Data.fields #[PySem.Value.str (PySem.Str.ofString "want_few") 321, PySem.Value.str (PySem.Str.ofString "want_few") 322, PySem.Value.str (PySem.Str.ofString "/claim/cut.py") 323, PySem.Value.int 43 0, PySem.Value.int 2 0, PySem.Value.int 0 0, PySem.Value.int 0 0, PySem.Value.int 3 0, PySem.Value.ref 94, PySem.Value.bool Bool.true, PySem.Value.int 181 0, PySem.Value.ref 95, PySem.Value.none, PySem.Value.ref 96, PySem.Value.ref 97, PySem.Value.ref 98, PySem.Value.int 326 0, PySem.Value.int 43 0, PySem.Value.str (PySem.Str.ofString "/claim/cut.py") 327] }
noncomputable def o100 (P : Params) : Obj := { cls := PySem.Value.type "function", dict := Option.none, slots := #[], data := .func { fnD (nth bT 16) (PySem.Str.ofString "want_few") with globals := 3, closure := [], defaults := PySem.Value.none, kwdefaults := PySem.Value.none, doc := PySem.Value.none, pyModule := PySem.Value.str (PySem.Str.ofString "minismt.texts") 290, annotations := Option.none, code := PySem.Value.ref 99, closureTuple := PySem.Value.none, builtins := 0 } }
noncomputable def o101 (P : Params) : Obj := { cls := PySem.Value.type "tuple", data := PySem.Data.seq #[] }
noncomputable def o102 (P : Params) : Obj := { cls := PySem.Value.none, data := PySem.Data.fields #[] }
noncomputable def o103 (P : Params) : Obj := { cls := PySem.Value.type "tuple", data := PySem.Data.seq #[PySem.Value.str (PySem.Str.ofString "digits") 332, PySem.Value.str (PySem.Str.ofString "base") 333, PySem.Value.str (PySem.Str.ofString "found") 334, PySem.Value.str (PySem.Str.ofString "sign") 335] }
noncomputable def o104 (P : Params) : Obj := { cls := PySem.Value.type "tuple", data := PySem.Data.seq #[] }
noncomputable def o105 (P : Params) : Obj := { cls := PySem.Value.none, dict := Option.none, slots := #[], data := .func { fnD (nth bT 17) (PySem.Str.ofString "value_of") with globals := 0, closure := [], defaults := PySem.Value.none, kwdefaults := PySem.Value.none, doc := PySem.Value.none, pyModule := PySem.Value.none, annotations := Option.none, code := PySem.Value.none, closureTuple := PySem.Value.none, builtins := 0 } }
noncomputable def o106 (P : Params) : Obj := { cls := PySem.Value.type "code", data := PySem.Data.fields #[PySem.Value.str (PySem.Str.ofString "value_of") 329, PySem.Value.str (PySem.Str.ofString "value_of") 330, PySem.Value.str (PySem.Str.ofString "/claim/cut.py") 331, PySem.Value.int 46 0, PySem.Value.int 2 0, PySem.Value.int 0 0, PySem.Value.int 0 0, PySem.Value.int 3 0, PySem.Value.ref 101, PySem.Value.bool Bool.true, PySem.Value.int 181 0, PySem.Value.ref 102, PySem.Value.none, PySem.Value.ref 103, PySem.Value.ref 104, PySem.Value.ref 105, PySem.Value.int 336 0, PySem.Value.int 46 0, PySem.Value.str (PySem.Str.ofString "/claim/cut.py") 337] }
noncomputable def o107 (P : Params) : Obj := { cls := PySem.Value.type "function", dict := Option.none, slots := #[], data := .func { fnD (nth bT 17) (PySem.Str.ofString "value_of") with globals := 3, closure := [], defaults := PySem.Value.none, kwdefaults := PySem.Value.none, doc := PySem.Value.none, pyModule := PySem.Value.str (PySem.Str.ofString "minismt.texts") 290, annotations := Option.none, code := PySem.Value.ref 106, closureTuple := PySem.Value.none, builtins := 0 } }
noncomputable def o108 (P : Params) : Obj := { cls := PySem.Value.type "tuple", data := PySem.Data.seq #[] }
noncomputable def o109 (P : Params) : Obj := { cls := PySem.Value.type "builtin_function_or_method", data := PySem.Data.fields #[PySem.Value.builtin "type.__prepare__", PySem.Value.type "type"] }
noncomputable def o110 (P : Params) : Obj := { cls := PySem.Value.type "dict", data := PySem.Data.dict #[{ hash := PySem.PyData.keyHash P (PySem.Str.ofString "__module__"), key := PySem.Value.str (PySem.Str.ofString "__module__") 346, val := PySem.Value.str (PySem.Str.ofString "minismt.texts") 290 }, { hash := PySem.PyData.keyHash P (PySem.Str.ofString "__qualname__"), key := PySem.Value.str (PySem.Str.ofString "__qualname__") 348, val := PySem.Value.str (PySem.Str.ofString "Scanner") 347 }, { hash := PySem.PyData.keyHash P (PySem.Str.ofString "__firstlineno__"), key := PySem.Value.str (PySem.Str.ofString "__firstlineno__") 350, val := PySem.Value.int 51 349 }, { hash := PySem.PyData.keyHash P (PySem.Str.ofString "__init__"), key := PySem.Value.str (PySem.Str.ofString "__init__") 358, val := PySem.Value.ref 121 }, { hash := PySem.PyData.keyHash P (PySem.Str.ofString "sign"), key := PySem.Value.str (PySem.Str.ofString "sign") 365, val := PySem.Value.ref 128 }, { hash := PySem.PyData.keyHash P (PySem.Str.ofString "skip_blanks"), key := PySem.Value.str (PySem.Str.ofString "skip_blanks") 373, val := PySem.Value.ref 135 }, { hash := PySem.PyData.keyHash P (PySem.Str.ofString "run_of"), key := PySem.Value.str (PySem.Str.ofString "run_of") 382, val := PySem.Value.ref 142 }, { hash := PySem.PyData.keyHash P (PySem.Str.ofString "ends_here"), key := PySem.Value.str (PySem.Str.ofString "ends_here") 391, val := PySem.Value.ref 149 }, { hash := PySem.PyData.keyHash P (PySem.Str.ofString "read_string"), key := PySem.Value.str (PySem.Str.ofString "read_string") 401, val := PySem.Value.ref 156 }, { hash := PySem.PyData.keyHash P (PySem.Str.ofString "read_quoted"), key := PySem.Value.str (PySem.Str.ofString "read_quoted") 412, val := PySem.Value.ref 163 }, { hash := PySem.PyData.keyHash P (PySem.Str.ofString "read_key"), key := PySem.Value.str (PySem.Str.ofString "read_key") 421, val := PySem.Value.ref 170 }, { hash := PySem.PyData.keyHash P (PySem.Str.ofString "read_bits"), key := PySem.Value.str (PySem.Str.ofString "read_bits") 431, val := PySem.Value.ref 177 }, { hash := PySem.PyData.keyHash P (PySem.Str.ofString "read_number"), key := PySem.Value.str (PySem.Str.ofString "read_number") 441, val := PySem.Value.ref 184 }, { hash := PySem.PyData.keyHash P (PySem.Str.ofString "read_word"), key := PySem.Value.str (PySem.Str.ofString "read_word") 449, val := PySem.Value.ref 191 }, { hash := PySem.PyData.keyHash P (PySem.Str.ofString "__static_attributes__"), key := PySem.Value.str (PySem.Str.ofString "__static_attributes__") 452, val := PySem.Value.ref 192 }] 15 }
noncomputable def o111 (P : Params) : Obj := { cls := PySem.Value.type "tuple", data := PySem.Data.seq #[] }
noncomputable def o112 (P : Params) : Obj := { cls := PySem.Value.none, data := PySem.Data.fields #[PySem.Value.int 53 0, PySem.Value.int 4 0, PySem.Value.ref 120, PySem.Value.int 57 0, PySem.Value.int 4 0, PySem.Value.ref 127, PySem.Value.int 62 0, PySem.Value.int 4 0, PySem.Value.ref 134, PySem.Value.int 73 0, PySem.Value.int 4 0, PySem.Value.ref 141, PySem.Value.int 79 0, PySem.Value.int 4 0, PySem.Value.ref 148, PySem.Value.int 83 0, PySem.Value.int 4 0, PySem.Value.ref 155, PySem.Value.int 98 0, PySem.Value.int 4 0, PySem.Value.ref 162, PySem.Value.int 110 0, PySem.Value.int 4 0, PySem.Value.ref 169, PySem.Value.int 118 0, PySem.Value.int 4 0, PySem.Value.ref 176, PySem.Value.int 132 0, PySem.Value.int 4 0, PySem.Value.ref 183, PySem.Value.int 149 0, PySem.Value.int 4 0, PySem.Value.ref 190] }
noncomputable def o113 (P : Params) : Obj := { cls := PySem.Value.type "code", data := PySem.Data.fields #[PySem.Value.str (PySem.Str.ofString "Scanner") 341, PySem.Value.str (PySem.Str.ofString "Scanner") 342, PySem.Value.str (PySem.Str.ofString "/claim/cut.py") 343, PySem.Value.int 51 0, PySem.Value.int 0 0, PySem.Value.int 0 0, PySem.Value.int 0 0, PySem.Value.int 0 0, PySem.Value.ref 111, PySem.Value.bool Bool.false, PySem.Value.int 181 0, PySem.Value.ref 112, PySem.Value.none, PySem.Value.none, PySem.Value.none, PySem.Value.none, PySem.Value.int 344 0, PySem.Value.int 51 0, PySem.Value.str (PySem.Str.ofString "/claim/cut.py") 345] }
noncomputable def o114 (P : Params) : Obj := { cls := PySem.Value.type "frame", slots := #[Option.some (PySem.Value.ref 113), Option.some (PySem.Value.ref 3), Option.some (PySem.Value.ref 110), Option.none, Option.some (PySem.Value.str (PySem.Str.ofString "minismt.texts") 290), Option.none, Option.some (PySem.Value.ref 0)] }
noncomputable def o115 (P : Params) : Obj := { cls := PySem.Value.type "tuple", data := PySem.Data.seq #[] }
noncomputable def o116 (P : Params) : Obj := { cls := PySem.Value.none, data := PySem.Data.fields #[] }
noncomputable def o117 (P : Params) : Obj := { cls := PySem.Value.type "tuple", data := PySem.Data.seq #[PySem.Value.str (PySem.Str.ofString "self") 354, PySem.Value.str (PySem.Str.ofString "text") 355] }
noncomputable def o118 (P : Params) : Obj := { cls := PySem.Value.type "tuple", data := PySem.Data.seq #[] }
noncomputable def o119 (P : Params) : Obj := { cls := PySem.Value.none, dict := Option.none, slots := #[], data := .func { fnD (nth (inner (nth bT 18)) 0) (PySem.Str.ofString "Scanner.__init__") with globals := 0, closure := [], defaults := PySem.Value.none, kwdefaults := PySem.Value.none, doc := PySem.Value.none, pyModule := PySem.Value.none, annotations := Option.none, code := PySem.Value.none, closureTuple := PySem.Value.none, builtins := 0 } }
noncomputable def o120 (P : Params) : Obj := { cls := PySem.Value.type "code", data := PySem.Data.fields #[PySem.Value.str (PySem.Str.ofString "__init__") 351, PySem.Value.str (PySem.Str.ofString "Scanner.__init__") 352, PySem.Value.str (PySem.Str.ofString "/claim/cut.py") 353, PySem.Value.int 53 0, PySem.Value.int 2 0, PySem.Value.int 0 0, PySem.Value.int 0 0, PySem.Value.int 3 0, PySem.Value.ref 115, PySem.Value.bool Bool.true, PySem.Value.int 181 0, PySem.Value.ref 116, PySem.Value.none, PySem.Value.ref 117, PySem.Value.ref 118, PySem.Value.ref 119, PySem.Value.int 356 0, PySem.Value.int 53 0, PySem.Value.str (PySem.Str.ofString "/claim/cut.py") 357] }
noncomputable def o121 (P : Params) : Obj := { cls := PySem.Value.type "function", dict := Option.none, slots := #[], data := .func { fnD (nth (inner (nth bT 18)) 0) (PySem.Str.ofString "Scanner.__init__") with globals := 3, closure := [], defaults := PySem.Value.none, kwdefaults := PySem.Value.none, doc := PySem.Value.none, pyModule := PySem.Value.str (PySem.Str.ofString "minismt.texts") 290, annotations := Option.none, code := PySem.Value.ref 120, closureTuple := PySem.Value.none, builtins := 0 } }
noncomputable def o122 (P : Params) : Obj := { cls := PySem.Value.type "tuple", data := PySem.Data.seq #[] }
noncomputable def o123 (P : Params) : Obj := { cls := PySem.Value.none, data := PySem.Data.fields #[] }
noncomputable def o124 (P : Params) : Obj := { cls := PySem.Value.type "tuple", data := PySem.Data.seq #[PySem.Value.str (PySem.Str.ofString "self") 362] }
noncomputable def o125 (P : Params) : Obj := { cls := PySem.Value.type "tuple", data := PySem.Data.seq #[] }
noncomputable def o126 (P : Params) : Obj := { cls := PySem.Value.none, dict := Option.none, slots := #[], data := .func { fnD (nth (inner (nth bT 18)) 1) (PySem.Str.ofString "Scanner.sign") with globals := 0, closure := [], defaults := PySem.Value.none, kwdefaults := PySem.Value.none, doc := PySem.Value.none, pyModule := PySem.Value.none, annotations := Option.none, code := PySem.Value.none, closureTuple := PySem.Value.none, builtins := 0 } }
noncomputable def o127 (P : Params) : Obj := { cls := PySem.Value.type "code", data := PySem.Data.fields #[PySem.Value.str (PySem.Str.ofString "sign") 359, PySem.Value.str (PySem.Str.ofString "Scanner.sign") 360, PySem.Value.str (PySem.Str.ofString "/claim/cut.py") 361, PySem.Value.int 57 0, PySem.Value.int 1 0, PySem.Value.int 0 0, PySem.Value.int 0 0, PySem.Value.int 3 0, PySem.Value.ref 122, PySem.Value.bool Bool.true, PySem.Value.int 181 0, PySem.Value.ref 123, PySem.Value.none, PySem.Value.ref 124, PySem.Value.ref 125, PySem.Value.ref 126, PySem.Value.int 363 0, PySem.Value.int 57 0, PySem.Value.str (PySem.Str.ofString "/claim/cut.py") 364] }
noncomputable def o128 (P : Params) : Obj := { cls := PySem.Value.type "function", dict := Option.none, slots := #[], data := .func { fnD (nth (inner (nth bT 18)) 1) (PySem.Str.ofString "Scanner.sign") with globals := 3, closure := [], defaults := PySem.Value.none, kwdefaults := PySem.Value.none, doc := PySem.Value.none, pyModule := PySem.Value.str (PySem.Str.ofString "minismt.texts") 290, annotations := Option.none, code := PySem.Value.ref 127, closureTuple := PySem.Value.none, builtins := 0 } }
noncomputable def o129 (P : Params) : Obj := { cls := PySem.Value.type "tuple", data := PySem.Data.seq #[] }
noncomputable def o130 (P : Params) : Obj := { cls := PySem.Value.none, data := PySem.Data.fields #[] }
noncomputable def o131 (P : Params) : Obj := { cls := PySem.Value.type "tuple", data := PySem.Data.seq #[PySem.Value.str (PySem.Str.ofString "self") 369, PySem.Value.str (PySem.Str.ofString "sign") 370] }
noncomputable def o132 (P : Params) : Obj := { cls := PySem.Value.type "tuple", data := PySem.Data.seq #[] }
noncomputable def o133 (P : Params) : Obj := { cls := PySem.Value.none, dict := Option.none, slots := #[], data := .func { fnD (nth (inner (nth bT 18)) 2) (PySem.Str.ofString "Scanner.skip_blanks") with globals := 0, closure := [], defaults := PySem.Value.none, kwdefaults := PySem.Value.none, doc := PySem.Value.none, pyModule := PySem.Value.none, annotations := Option.none, code := PySem.Value.none, closureTuple := PySem.Value.none, builtins := 0 } }
noncomputable def o134 (P : Params) : Obj := { cls := PySem.Value.type "code", data := PySem.Data.fields #[PySem.Value.str (PySem.Str.ofString "skip_blanks") 366, PySem.Value.str (PySem.Str.ofString "Scanner.skip_blanks") 367, PySem.Value.str (PySem.Str.ofString "/claim/cut.py") 368, PySem.Value.int 62 0, PySem.Value.int 1 0, PySem.Value.int 0 0, PySem.Value.int 0 0, PySem.Value.int 3 0, PySem.Value.ref 129, PySem.Value.bool Bool.true, PySem.Value.int 181 0, PySem.Value.ref 130, PySem.Value.none, PySem.Value.ref 131, PySem.Value.ref 132, PySem.Value.ref 133, PySem.Value.int 371 0, PySem.Value.int 62 0, PySem.Value.str (PySem.Str.ofString "/claim/cut.py") 372] }
noncomputable def o135 (P : Params) : Obj := { cls := PySem.Value.type "function", dict := Option.none, slots := #[], data := .func { fnD (nth (inner (nth bT 18)) 2) (PySem.Str.ofString "Scanner.skip_blanks") with globals := 3, closure := [], defaults := PySem.Value.none, kwdefaults := PySem.Value.none, doc := PySem.Value.none, pyModule := PySem.Value.str (PySem.Str.ofString "minismt.texts") 290, annotations := Option.none, code := PySem.Value.ref 134, closureTuple := PySem.Value.none, builtins := 0 } }
noncomputable def o136 (P : Params) : Obj := { cls := PySem.Value.type "tuple", data := PySem.Data.seq #[] }
noncomputable def o137 (P : Params) : Obj := { cls := PySem.Value.none, data := PySem.Data.fields #[] }
noncomputable def o138 (P : Params) : Obj := { cls := PySem.Value.type "tuple", data := PySem.Data.seq #[PySem.Value.str (PySem.Str.ofString "self") 377, PySem.Value.str (PySem.Str.ofString "signs") 378, PySem.Value.str (PySem.Str.ofString "begin") 379] }
noncomputable def o139 (P : Params) : Obj := { cls := PySem.Value.type "tuple", data := PySem.Data.seq #[] }
noncomputable def o140 (P : Params) : Obj := { cls := PySem.Value.none, dict := Option.none, slots := #[], data := .func { fnD (nth (inner (nth bT 18)) 3) (PySem.Str.ofString "Scanner.run_of") with globals := 0, closure := [], defaults := PySem.Value.none, kwdefaults := PySem.Value.none, doc := PySem.Value.none, pyModule := PySem.Value.none, annotations := Option.none, code := PySem.Value.none, closureTuple := PySem.Value.none, builtins := 0 } }
noncomputable def o141 (P : Params) : Obj := { cls := PySem.Value.type "code", data := PySem.Data.fields #[PySem.Value.str (PySem.Str.ofString "run_of") 374, PySem.Value.str (PySem.Str.ofString "Scanner.run_of") 375, PySem.Value.str (PySem.Str.ofString "/claim/cut.py") 376, PySem.Value.int 73 0, PySem.Value.int 2 0, PySem.Value.int 0 0, PySem.Value.int 0 0, PySem.Value.int 3 0, PySem.Value.ref 136, PySem.Value.bool Bool.true, PySem.Value.int 181 0, PySem.Value.ref 137, PySem.Value.none, PySem.Value.ref 138, PySem.Value.ref 139, PySem.Value.ref 140, PySem.Value.int 380 0, PySem.Value.int 73 0, PySem.Value.str (PySem.Str.ofString "/claim/cut.py") 381] }
noncomputable def o142 (P : Params) : Obj := { cls := PySem.Value.type "function", dict := Option.none, slots := #[], data := .func { fnD (nth (inner (nth bT 18)) 3) (PySem.Str.ofString "Scanner.run_of") with globals := 3, closure := [], defaults := PySem.Value.none, kwdefaults := PySem.Value.none, doc := PySem.Value.none, pyModule := PySem.Value.str (PySem.Str.ofString "minismt.texts") 290, annotations := Option.none, code := PySem.Value.ref 141, closureTuple := PySem.Value.none, builtins := 0 } }
noncomputable def o143 (P : Params) : Obj := { cls := PySem.Value.type "tuple", data := PySem.Data.seq #[] }
noncomputable def o144 (P : Params) : Obj := { cls := PySem.Value.none, data := PySem.Data.fields #[] }
noncomputable def o145 (P : Params) : Obj := { cls := PySem.Value.type "tuple", data := PySem.Data.seq #[PySem.Value.str (PySem.Str.ofString "self") 386, PySem.Value.str (PySem.Str.ofString "what") 387, PySem.Value.str (PySem.Str.ofString "begin") 388] }
noncomputable def o146 (P : Params) : Obj := { cls := PySem.Value.type "tuple", data := PySem.Data.seq #[] }
noncomputable def o147 (P : Params) : Obj := { cls := PySem.Value.none, dict := Option.none, slots := #[], data := .func { fnD (nth (inner (nth bT 18)) 4) (PySem.Str.ofString "Scanner.ends_here") with globals := 0, closure := [], defaults := PySem.Value.none, kwdefaults := PySem.Value.none, doc := PySem.Value.none, pyModule := PySem.Value.none, annotations := Option.none, code := PySem.Value.none, closureTuple := PySem.Value.none, builtins := 0 } }
noncomputable def o148 (P : Params) : Obj := { cls := PySem.Value.type "code", data := PySem.Data.fields #[PySem.Value.str (PySem.Str.ofString "ends_here") 383, PySem.Value.str (PySem.Str.ofString "Scanner.ends_here") 384, PySem.Value.str (PySem.Str.ofString "/claim/cut.py") 385, PySem.Value.int 79 0, PySem.Value.int 3 0, PySem.Value.int 0 0, PySem.Value.int 0 0, PySem.Value.int 3 0, PySem.Value.ref 143, PySem.Value.bool Bool.true, PySem.Value.int 181 0, PySem.Value.ref 144, PySem.Value.none, PySem.Value.ref 145, PySem.Value.ref 146, PySem.Value.ref 147, PySem.Value.int 389 0, PySem.Value.int 79 0, PySem.Value.str (PySem.Str.ofString "/claim/cut.py") 390] }
noncomputable def o149 (P : Params) : Obj := { cls := PySem.Value.type "function", dict := Option.none, slots := #[], data := .func { fnD (nth (inner (nth bT 18)) 4) (PySem.Str.ofString "Scanner.ends_here") with globals := 3, closure := [], defaults := PySem.Value.none, kwdefaults := PySem.Value.none, doc := PySem.Value.none, pyModule := PySem.Value.str (PySem.Str.ofString "minismt.texts") 290, annotations := Option.none, code := PySem.Value.ref 148, closureTuple := PySem.Value.none, builtins := 0 } }
noncomputable def o150 (P : Params) : Obj := { cls := PySem.Value.type "tuple", data := PySem.Data.seq #[] }
noncomputable def o151 (P : Params) : Obj := { cls := PySem.Value.none, data := PySem.Data.fields #[] }
noncomputable def o152 (P : Params) : Obj := { cls := PySem.Value.type "tuple", data := PySem.Data.seq #[PySem.Value.str (PySem.Str.ofString "self") 395, PySem.Value.str (PySem.Str.ofString "begin") 396, PySem.Value.str (PySem.Str.ofString "pieces") 397, PySem.Value.str (PySem.Str.ofString "quote") 398] }
noncomputable def o153 (P : Params) : Obj := { cls := PySem.Value.type "tuple", data := PySem.Data.seq #[] }
noncomputable def o154 (P : Params) : Obj := { cls := PySem.Value.none, dict := Option.none, slots := #[], data := .func { fnD (nth (inner (nth bT 18)) 5) (PySem.Str.ofString "Scanner.read_string") with globals := 0, closure := [], defaults := PySem.Value.none, kwdefaults := PySem.Value.none, doc := PySem.Value.none, pyModule := PySem.Value.none, annotations := Option.none, code := PySem.Value.none, closureTuple := PySem.Value.none, builtins := 0 } }
noncomputable def o155 (P : Params) : Obj := { cls := PySem.Value.type "code", data := PySem.Data.fields #[PySem.Value.str (PySem.Str.ofString "read_string") 392, PySem.Value.str (PySem.Str.ofString "Scanner.read_string") 393, PySem.Value.str (PySem.Str.ofString "/claim/cut.py") 394, PySem.Value.int 83 0, PySem.Value.int 1 0, PySem.Value.int 0 0, PySem.Value.int 0 0, PySem.Value.int 3 0, PySem.Value.ref 150, PySem.Value.bool Bool.true, PySem.Value.int 181 0, PySem.Value.ref 151, PySem.Value.none, PySem.Value.ref 152, PySem.Value.ref 153, PySem.Value.ref 154, PySem.Value.int 399 0, PySem.Value.int 83 0, PySem.Value.str (PySem.Str.ofString "/claim/cut.py") 400] }
noncomputable def o156 (P : Params) : Obj := { cls := PySem.Value.type "function", dict := Option.none, slots := #[], data := .func { fnD (nth (inner (nth bT 18)) 5) (PySem.Str.ofString "Scanner.read_string") with globals := 3, closure := [], defaults := PySem.Value.none, kwdefaults := PySem.Value.none, doc := PySem.Value.none, pyModule := PySem.Value.str (PySem.Str.ofString "minismt.texts") 290, annotations := Option.none, code := PySem.Value.ref 155, closureTuple := PySem.Value.none, builtins := 0 } }
noncomputable def o157 (P : Params) : Obj := { cls := PySem.Value.type "tuple", data := PySem.Data.seq #[] }
noncomputable def o158 (P : Params) : Obj := { cls := PySem.Value.none, data := PySem.Data.fields #[] }
noncomputable def o159 (P : Params) : Obj := { cls := PySem.Value.type "tuple", data := PySem.Data.seq #[PySem.Value.str (PySem.Str.ofString "self") 405, PySem.Value.str (PySem.Str.ofString "begin") 406, PySem.Value.str (PySem.Str.ofString "bar") 407, PySem.Value.str (PySem.Str.ofString "name") 408, PySem.Value.str (PySem.Str.ofString "slash") 409] }
noncomputable def o160 (P : Params) : Obj := { cls := PySem.Value.type "tuple", data := PySem.Data.seq #[] }
noncomputable def o161 (P : Params) : Obj := { cls := PySem.Value.none, dict := Option.none, slots := #[], data := .func { fnD (nth (inner (nth bT 18)) 6) (PySem.Str.ofString "Scanner.read_quoted") with globals := 0, closure := [], defaults := PySem.Value.none, kwdefaults := PySem.Value.none, doc := PySem.Value.none, pyModule := PySem.Value.none, annotations := Option.none, code := PySem.Value.none, closureTuple := PySem.Value.none, builtins := 0 } }
noncomputable def o162 (P : Params) : Obj := { cls := PySem.Value.type "code", data := PySem.Data.fields #[PySem.Value.str (PySem.Str.ofString "read_quoted") 402, PySem.Value.str (PySem.Str.ofString "Scanner.read_quoted") 403, PySem.Value.str (PySem.Str.ofString "/claim/cut.py") 404, PySem.Value.int 98 0, PySem.Value.int 1 0, PySem.Value.int 0 0, PySem.Value.int 0 0, PySem.Value.int 3 0, PySem.Value.ref 157, PySem.Value.bool Bool.true, PySem.Value.int 181 0, PySem.Value.ref 158, PySem.Value.none, PySem.Value.ref 159, PySem.Value.ref 160, PySem.Value.ref 161, PySem.Value.int 410 0, PySem.Value.int 98 0, PySem.Value.str (PySem.Str.ofString "/claim/cut.py") 411] }
noncomputable def o163 (P : Params) : Obj := { cls := PySem.Value.type "function", dict := Option.none, slots := #[], data := .func { fnD (nth (inner (nth bT 18)) 6) (PySem.Str.ofString "Scanner.read_quoted") with globals := 3, closure := [], defaults := PySem.Value.none, kwdefaults := PySem.Value.none, doc := PySem.Value.none, pyModule := PySem.Value.str (PySem.Str.ofString "minismt.texts") 290, annotations := Option.none, code := PySem.Value.ref 162, closureTuple := PySem.Value.none, builtins := 0 } }
noncomputable def o164 (P : Params) : Obj := { cls := PySem.Value.type "tuple", data := PySem.Data.seq #[] }
noncomputable def o165 (P : Params) : Obj := { cls := PySem.Value.none, data := PySem.Data.fields #[] }
noncomputable def o166 (P : Params) : Obj := { cls := PySem.Value.type "tuple", data := PySem.Data.seq #[PySem.Value.str (PySem.Str.ofString "self") 416, PySem.Value.str (PySem.Str.ofString "begin") 417, PySem.Value.str (PySem.Str.ofString "name") 418] }
noncomputable def o167 (P : Params) : Obj := { cls := PySem.Value.type "tuple", data := PySem.Data.seq #[] }
noncomputable def o168 (P : Params) : Obj := { cls := PySem.Value.none, dict := Option.none, slots := #[], data := .func { fnD (nth (inner (nth bT 18)) 7) (PySem.Str.ofString "Scanner.read_key") with globals := 0, closure := [], defaults := PySem.Value.none, kwdefaults := PySem.Value.none, doc := PySem.Value.none, pyModule := PySem.Value.none, annotations := Option.none, code := PySem.Value.none, closureTuple := PySem.Value.none, builtins := 0 } }
noncomputable def o169 (P : Params) : Obj := { cls := PySem.Value.type "code", data := PySem.Data.fields #[PySem.Value.str (PySem.Str.ofString "read_key") 413, PySem.Value.str (PySem.Str.ofString "Scanner.read_key") 414, PySem.Value.str (PySem.Str.ofString "/claim/cut.py") 415, PySem.Value.int 110 0, PySem.Value.int 1 0, PySem.Value.int 0 0, PySem.Value.int 0 0, PySem.Value.int 3 0, PySem.Value.ref 164, PySem.Value.bool Bool.true, PySem.Value.int 181 0, PySem.Value.ref 165, PySem.Value.none, PySem.Value.ref 166, PySem.Value.ref 167, PySem.Value.ref 168, PySem.Value.int 419 0, PySem.Value.int 110 0, PySem.Value.str (PySem.Str.ofString "/claim/cut.py") 420] }
noncomputable def o170 (P : Params) : Obj := { cls := PySem.Value.type "function", dict := Option.none, slots := #[], data := .func { fnD (nth (inner (nth bT 18)) 7) (PySem.Str.ofString "Scanner.read_key") with globals := 3, closure := [], defaults := PySem.Value.none, kwdefaults := PySem.Value.none, doc := PySem.Value.none, pyModule := PySem.Value.str (PySem.Str.ofString "minismt.texts") 290, annotations := Option.none, code := PySem.Value.ref 169, closureTuple := PySem.Value.none, builtins := 0 } }
noncomputable def o171 (P : Params) : Obj := { cls := PySem.Value.type "tuple", data := PySem.Data.seq #[] }
noncomputable def o172 (P : Params) : Obj := { cls := PySem.Value.none, data := PySem.Data.fields #[] }
noncomputable def o173 (P : Params) : Obj := { cls := PySem.Value.type "tuple", data := PySem.Data.seq #[PySem.Value.str (PySem.Str.ofString "self") 425, PySem.Value.str (PySem.Str.ofString "begin") 426, PySem.Value.str (PySem.Str.ofString "kind") 427, PySem.Value.str (PySem.Str.ofString "digits") 428] }
noncomputable def o174 (P : Params) : Obj := { cls := PySem.Value.type "tuple", data := PySem.Data.seq #[] }
noncomputable def o175 (P : Params) : Obj := { cls := PySem.Value.none, dict := Option.none, slots := #[], data := .func { fnD (nth (inner (nth bT 18)) 8) (PySem.Str.ofString "Scanner.read_bits") with globals := 0, closure := [], defaults := PySem.Value.none, kwdefaults := PySem.Value.none, doc := PySem.Value.none, pyModule := PySem.Value.none, annotations := Option.none, code := PySem.Value.none, closureTuple := PySem.Value.none, builtins := 0 } }
noncomputable def o176 (P : Params) : Obj := { cls := PySem.Value.type "code", data := PySem.Data.fields #[PySem.Value.str (PySem.Str.ofString "read_bits") 422, PySem.Value.str (PySem.Str.ofString "Scanner.read_bits") 423, PySem.Value.str (PySem.Str.ofString "/claim/cut.py") 424, PySem.Value.int 118 0, PySem.Value.int 1 0, PySem.Value.int 0 0, PySem.Value.int 0 0, PySem.Value.int 3 0, PySem.Value.ref 171, PySem.Value.bool Bool.true, PySem.Value.int 181 0, PySem.Value.ref 172, PySem.Value.none, PySem.Value.ref 173, PySem.Value.ref 174, PySem.Value.ref 175, PySem.Value.int 429 0, PySem.Value.int 118 0, PySem.Value.str (PySem.Str.ofString "/claim/cut.py") 430] }
noncomputable def o177 (P : Params) : Obj := { cls := PySem.Value.type "function", dict := Option.none, slots := #[], data := .func { fnD (nth (inner (nth bT 18)) 8) (PySem.Str.ofString "Scanner.read_bits") with globals := 3, closure := [], defaults := PySem.Value.none, kwdefaults := PySem.Value.none, doc := PySem.Value.none, pyModule := PySem.Value.str (PySem.Str.ofString "minismt.texts") 290, annotations := Option.none, code := PySem.Value.ref 176, closureTuple := PySem.Value.none, builtins := 0 } }
noncomputable def o178 (P : Params) : Obj := { cls := PySem.Value.type "tuple", data := PySem.Data.seq #[] }
noncomputable def o179 (P : Params) : Obj := { cls := PySem.Value.none, data := PySem.Data.fields #[] }
noncomputable def o180 (P : Params) : Obj := { cls := PySem.Value.type "tuple", data := PySem.Data.seq #[PySem.Value.str (PySem.Str.ofString "self") 435, PySem.Value.str (PySem.Str.ofString "begin") 436, PySem.Value.str (PySem.Str.ofString "whole") 437, PySem.Value.str (PySem.Str.ofString "part") 438] }
noncomputable def o181 (P : Params) : Obj := { cls := PySem.Value.type "tuple", data := PySem.Data.seq #[] }
noncomputable def o182 (P : Params) : Obj := { cls := PySem.Value.none, dict := Option.none, slots := #[], data := .func { fnD (nth (inner (nth bT 18)) 9) (PySem.Str.ofString "Scanner.read_number") with globals := 0, closure := [], defaults := PySem.Value.none, kwdefaults := PySem.Value.none, doc := PySem.Value.none, pyModule := PySem.Value.none, annotations := Option.none, code := PySem.Value.none, closureTuple := PySem.Value.none, builtins := 0 } }
noncomputable def o183 (P : Params) : Obj := { cls := PySem.Value.type "code", data := PySem.Data.fields #[PySem.Value.str (PySem.Str.ofString "read_number") 432, PySem.Value.str (PySem.Str.ofString "Scanner.read_number") 433, PySem.Value.str (PySem.Str.ofString "/claim/cut.py") 434, PySem.Value.int 132 0, PySem.Value.int 1 0, PySem.Value.int 0 0, PySem.Value.int 0 0, PySem.Value.int 3 0, PySem.Value.ref 178, PySem.Value.bool Bool.true, PySem.Value.int 181 0, PySem.Value.ref 179, PySem.Value.none, PySem.Value.ref 180, PySem.Value.ref 181, PySem.Value.ref 182, PySem.Value.int 439 0, PySem.Value.int 132 0, PySem.Value.str (PySem.Str.ofString "/claim/cut.py") 440] }
noncomputable def o184 (P : Params) : Obj := { cls := PySem.Value.type "function", dict := Option.none, slots := #[], data := .func { fnD (nth (inner (nth bT 18)) 9) (PySem.Str.ofString "Scanner.read_number") with globals := 3, closure := [], defaults := PySem.Value.none, kwdefaults := PySem.Value.none, doc := PySem.Value.none, pyModule := PySem.Value.str (PySem.Str.ofString "minismt.texts") 290, annotations := Option.none, code := PySem.Value.ref 183, closureTuple := PySem.Value.none, builtins := 0 } }
noncomputable def o185 (P : Params) : Obj := { cls := PySem.Value.type "tuple", data := PySem.Data.seq #[] }
noncomputable def o186 (P : Params) : Obj := { cls := PySem.Value.none, data := PySem.Data.fields #[] }
noncomputable def o187 (P : Params) : Obj := { cls := PySem.Value.type "tuple", data := PySem.Data.seq #[PySem.Value.str (PySem.Str.ofString "self") 445, PySem.Value.str (PySem.Str.ofString "sign") 446] }
noncomputable def o188 (P : Params) : Obj := { cls := PySem.Value.type "tuple", data := PySem.Data.seq #[] }
noncomputable def o189 (P : Params) : Obj := { cls := PySem.Value.none, dict := Option.none, slots := #[], data := .func { fnD (nth (inner (nth bT 18)) 10) (PySem.Str.ofString "Scanner.read_word") with globals := 0, closure := [], defaults := PySem.Value.none, kwdefaults := PySem.Value.none, doc := PySem.Value.none, pyModule := PySem.Value.none, annotations := Option.none, code := PySem.Value.none, closureTuple := PySem.Value.none, builtins := 0 } }
noncomputable def o190 (P : Params) : Obj := { cls := PySem.Value.type "code", data := PySem.Data.fields #[PySem.Value.str (PySem.Str.ofString "read_word") 442, PySem.Value.str (PySem.Str.ofString "Scanner.read_word") 443, PySem.Value.str (PySem.Str.ofString "/claim/cut.py") 444, PySem.Value.int 149 0, PySem.Value.int 1 0, PySem.Value.int 0 0, PySem.Value.int 0 0, PySem.Value.int 3 0, PySem.Value.ref 185, PySem.Value.bool Bool.true, PySem.Value.int 181 0, PySem.Value.ref 186, PySem.Value.none, PySem.Value.ref 187, PySem.Value.ref 188, PySem.Value.ref 189, PySem.Value.int 447 0, PySem.Value.int 149 0, PySem.Value.str (PySem.Str.ofString "/claim/cut.py") 448] }
noncomputable def o191 (P : Params) : Obj := { cls := PySem.Value.type "function", dict := Option.none, slots := #[], data := .func { fnD (nth (inner (nth bT 18)) 10) (PySem.Str.ofString "Scanner.read_word") with globals := 3, closure := [], defaults := PySem.Value.none, kwdefaults := PySem.Value.none, doc := PySem.Value.none, pyModule := PySem.Value.str (PySem.Str.ofString "minismt.texts") 290, annotations := Option.none, code := PySem.Value.ref 190, closureTuple := PySem.Value.none, builtins := 0 } }
noncomputable def o192 (P : Params) : Obj := { cls := PySem.Value.type "tuple", data := PySem.Data.seq #[PySem.Value.str (PySem.Str.ofString "spot") 450, PySem.Value.str (PySem.Str.ofString "text") 451] }
noncomputable def o193 (P : Params) : Obj := { cls := PySem.Value.type "dict", data := PySem.Data.dict #[{ hash := PySem.PyData.keyHash P (PySem.Str.ofString "__module__"), key := PySem.Value.str (PySem.Str.ofString "__module__") 346, val := PySem.Value.str (PySem.Str.ofString "minismt.texts") 290 }, { hash := PySem.PyData.keyHash P (PySem.Str.ofString "__firstlineno__"), key := PySem.Value.str (PySem.Str.ofString "__firstlineno__") 350, val := PySem.Value.int 51 349 }, { hash := PySem.PyData.keyHash P (PySem.Str.ofString "__init__"), key := PySem.Value.str (PySem.Str.ofString "__init__") 358, val := PySem.Value.ref 121 }, { hash := PySem.PyData.keyHash P (PySem.Str.ofString "sign"), key := PySem.Value.str (PySem.Str.ofString "sign") 365, val := PySem.Value.ref 128 }, { hash := PySem.PyData.keyHash P (PySem.Str.ofString "skip_blanks"), key := PySem.Value.str (PySem.Str.ofString "skip_blanks") 373, val := PySem.Value.ref 135 }, { hash := PySem.PyData.keyHash P (PySem.Str.ofString "run_of"), key := PySem.Value.str (PySem.Str.ofString "run_of") 382, val := PySem.Value.ref 142 }, { hash := PySem.PyData.keyHash P (PySem.Str.ofString "ends_here"), key := PySem.Value.str (PySem.Str.ofString "ends_here") 391, val := PySem.Value.ref 149 }, { hash := PySem.PyData.keyHash P (PySem.Str.ofString "read_string"), key := PySem.Value.str (PySem.Str.ofString "read_string") 401, val := PySem.Value.ref 156 }, { hash := PySem.PyData.keyHash P (PySem.Str.ofString "read_quoted"), key := PySem.Value.str (PySem.Str.ofString "read_quoted") 412, val := PySem.Value.ref 163 }, { hash := PySem.PyData.keyHash P (PySem.Str.ofString "read_key"), key := PySem.Value.str (PySem.Str.ofString "read_key") 421, val := PySem.Value.ref 170 }, { hash := PySem.PyData.keyHash P (PySem.Str.ofString "read_bits"), key := PySem.Value.str (PySem.Str.ofString "read_bits") 431, val := PySem.Value.ref 177 }, { hash := PySem.PyData.keyHash P (PySem.Str.ofString "read_number"), key := PySem.Value.str (PySem.Str.ofString "read_number") 441, val := PySem.Value.ref 184 }, { hash := PySem.PyData.keyHash P (PySem.Str.ofString "read_word"), key := PySem.Value.str (PySem.Str.ofString "read_word") 449, val := PySem.Value.ref 191 }, { hash := PySem.PyData.keyHash P (PySem.Str.ofString "__static_attributes__"), key := PySem.Value.str (PySem.Str.ofString "__static_attributes__") 452, val := PySem.Value.ref 192 }, { hash := PySem.PyData.keyHash P (PySem.Str.ofString "__dict__"), key := PySem.Value.str (PySem.Str.ofString "__dict__") 454, val := PySem.Value.ref 195 }, { hash := PySem.PyData.keyHash P (PySem.Str.ofString "__weakref__"), key := PySem.Value.str (PySem.Str.ofString "__weakref__") 456, val := PySem.Value.ref 196 }, { hash := PySem.PyData.keyHash P (PySem.Str.ofString "__doc__"), key := PySem.Value.str (PySem.Str.ofString "__doc__") 457, val := PySem.Value.none }] 4 }
noncomputable def o194 (P : Params) : Obj := { cls := PySem.Value.type "type", data := PySem.Data.cls { name := PySem.Str.ofString "Scanner", bases := [PySem.Value.type "object"], mro := [PySem.Value.ref 194, PySem.Value.type "object"], ns := 193, qualname := PySem.Str.ofString "Scanner" }, slots := #[Option.none, Option.none, Option.some (PySem.Value.str (PySem.Str.ofString "Scanner") 339), Option.some (PySem.Value.str (PySem.Str.ofString "Scanner") 347), Option.some (PySem.Value.builtin "object.__new__"), Option.some (PySem.Value.bool Bool.true)] }
noncomputable def o195 (P : Params) : Obj := { cls := PySem.Value.type "getset_descriptor", data := PySem.Data.fields #[PySem.Value.str (PySem.Str.ofString "__dict__") 453, PySem.Value.ref 194, PySem.Value.builtin "function.__dict__", PySem.Value.builtin "function.__dict__#set"] }
noncomputable def o196 (P : Params) : Obj := { cls := PySem.Value.type "getset_descriptor", data := PySem.Data.fields #[PySem.Value.str (PySem.Str.ofString "__weakref__") 455, PySem.Value.ref 194, PySem.Value.builtin "ExceptionGroup.__weakref__", PySem.Value.none] }
noncomputable def o197 (P : Params) : Obj := { cls := PySem.Value.type "super", data := PySem.Data.fields #[PySem.Value.ref 194, PySem.Value.ref 194, PySem.Value.ref 194] }
noncomputable def o198 (P : Params) : Obj := { cls := PySem.Value.type "builtin_function_or_method", data := PySem.Data.fields #[PySem.Value.builtin "object.__init_subclass__", PySem.Value.ref 194] }
noncomputable def o199 (P : Params) : Obj := { cls := PySem.Value.type "tuple", data := PySem.Data.seq #[] }
noncomputable def o200 (P : Params) : Obj := { cls := PySem.Value.none, data := PySem.Data.fields #[] }
noncomputable def o201 (P : Params) : Obj := { cls := PySem.Value.type "tuple", data := PySem.Data.seq #[PySem.Value.str (PySem.Str.ofString "text") 463, PySem.Value.str (PySem.Str.ofString "scanner") 464, PySem.Value.str (PySem.Str.ofString "whole") 465, PySem.Value.str (PySem.Str.ofString "outer") 466, PySem.Value.str (PySem.Str.ofString "sign") 467, PySem.Value.str (PySem.Str.ofString "item") 468, PySem.Value.str (PySem.Str.ofString "fault") 469] }
noncomputable def o202 (P : Params) : Obj := { cls := PySem.Value.type "tuple", data := PySem.Data.seq #[] }
noncomputable def o203 (P : Params) : Obj := { cls := PySem.Value.none, dict := Option.none, slots := #[], data := .func { fnD (nth bT 19) (PySem.Str.ofString "read_up_to") with globals := 0, closure := [], defaults := PySem.Value.none, kwdefaults := PySem.Value.none, doc := PySem.Value.none, pyModule := PySem.Value.none, annotations := Option.none, code := PySem.Value.none, closureTuple := PySem.Value.none, builtins := 0 } }
noncomputable def o204 (P : Params) : Obj := { cls := PySem.Value.type "code", data := PySem.Data.fields #[PySem.Value.str (PySem.Str.ofString "read_up_to") 460, PySem.Value.str (PySem.Str.ofString "read_up_to") 461, PySem.Value.str (PySem.Str.ofString "/claim/cut.py") 462, PySem.Value.int 166 0, PySem.Value.int 1 0, PySem.Value.int 0 0, PySem.Value.int 0 0, PySem.Value.int 3 0, PySem.Value.ref 199, PySem.Value.bool Bool.true, PySem.Value.int 181 0, PySem.Value.ref 200, PySem.Value.none, PySem.Value.ref 201, PySem.Value.ref 202, PySem.Value.ref 203, PySem.Value.int 470 0, PySem.Value.int 166 0, PySem.Value.str (PySem.Str.ofString "/claim/cut.py") 471] }
noncomputable def o205 (P : Params) : Obj := { cls := PySem.Value.type "function", dict := Option.none, slots := #[], data := .func { fnD (nth bT 19) (PySem.Str.ofString "read_up_to") with globals := 3, closure := [], defaults := PySem.Value.none, kwdefaults := PySem.Value.none, doc := PySem.Value.none, pyModule := PySem.Value.str (PySem.Str.ofString "minismt.texts") 290, annotations := Option.none, code := PySem.Value.ref 204, closureTuple := PySem.Value.none, builtins := 0 } }
noncomputable def o206 (P : Params) : Obj := { cls := PySem.Value.type "tuple", data := PySem.Data.seq #[] }
noncomputable def o207 (P : Params) : Obj := { cls := PySem.Value.none, data := PySem.Data.fields #[] }
noncomputable def o208 (P : Params) : Obj := { cls := PySem.Value.type "tuple", data := PySem.Data.seq #[PySem.Value.str (PySem.Str.ofString "text") 476, PySem.Value.str (PySem.Str.ofString "whole") 477, PySem.Value.str (PySem.Str.ofString "fault") 478] }
noncomputable def o209 (P : Params) : Obj := { cls := PySem.Value.type "tuple", data := PySem.Data.seq #[] }
noncomputable def o210 (P : Params) : Obj := { cls := PySem.Value.none, dict := Option.none, slots := #[], data := .func { fnD (nth bT 20) (PySem.Str.ofString "read_all") with globals := 0, closure := [], defaults := PySem.Value.none, kwdefaults := PySem.Value.none, doc := PySem.Value.none, pyModule := PySem.Value.none, annotations := Option.none, code := PySem.Value.none, closureTuple := PySem.Value.none, builtins := 0 } }
noncomputable def o211 (P : Params) : Obj := { cls := PySem.Value.type "code", data := PySem.Data.fields #[PySem.Value.str (PySem.Str.ofString "read_all") 473, PySem.Value.str (PySem.Str.ofString "read_all") 474, PySem.Value.str (PySem.Str.ofString "/claim/cut.py") 475, PySem.Value.int 195 0, PySem.Value.int 1 0, PySem.Value.int 0 0, PySem.Value.int 0 0, PySem.Value.int 3 0, PySem.Value.ref 206, PySem.Value.bool Bool.true, PySem.Value.int 181 0, PySem.Value.ref 207, PySem.Value.none, PySem.Value.ref 208, PySem.Value.ref 209, PySem.Value.ref 210, PySem.Value.int 479 0, PySem.Value.int 195 0, PySem.Value.str (PySem.Str.ofString "/claim/cut.py") 480] }
noncomputable def o212 (P : Params) : Obj := { cls := PySem.Value.type "function", dict := Option.none, slots := #[], data := .func { fnD (nth bT 20) (PySem.Str.ofString "read_all") with globals := 3, closure := [], defaults := PySem.Value.none, kwdefaults := PySem.Value.none, doc := PySem.Value.none, pyModule := PySem.Value.str (PySem.Str.ofString "minismt.texts") 290, annotations := Option.none, code := PySem.Value.ref 211, closureTuple := PySem.Value.none, builtins := 0 } }
noncomputable def o213 (P : Params) : Obj := { cls := PySem.Value.type "tuple", data := PySem.Data.seq #[] }
noncomputable def o214 (P : Params) : Obj := { cls := PySem.Value.none, data := PySem.Data.fields #[] }
noncomputable def o215 (P : Params) : Obj := { cls := PySem.Value.type "tuple", data := PySem.Data.seq #[PySem.Value.str (PySem.Str.ofString "text") 485, PySem.Value.str (PySem.Str.ofString "found") 486] }
noncomputable def o216 (P : Params) : Obj := { cls := PySem.Value.type "tuple", data := PySem.Data.seq #[] }
noncomputable def o217 (P : Params) : Obj := { cls := PySem.Value.none, dict := Option.none, slots := #[], data := .func { fnD (nth bT 21) (PySem.Str.ofString "read_one") with globals := 0, closure := [], defaults := PySem.Value.none, kwdefaults := PySem.Value.none, doc := PySem.Value.none, pyModule := PySem.Value.none, annotations := Option.none, code := PySem.Value.none, closureTuple := PySem.Value.none, builtins := 0 } }
noncomputable def o218 (P : Params) : Obj := { cls := PySem.Value.type "code", data := PySem.Data.fields #[PySem.Value.str (PySem.Str.ofString "read_one") 482, PySem.Value.str (PySem.Str.ofString "read_one") 483, PySem.Value.str (PySem.Str.ofString "/claim/cut.py") 484, PySem.Value.int 200 0, PySem.Value.int 1 0, PySem.Value.int 0 0, PySem.Value.int 0 0, PySem.Value.int 3 0, PySem.Value.ref 213, PySem.Value.bool Bool.true, PySem.Value.int 181 0, PySem.Value.ref 214, PySem.Value.none, PySem.Value.ref 215, PySem.Value.ref 216, PySem.Value.ref 217, PySem.Value.int 487 0, PySem.Value.int 200 0, PySem.Value.str (PySem.Str.ofString "/claim/cut.py") 488] }
noncomputable def o219 (P : Params) : Obj := { cls := PySem.Value.type "function", dict := Option.none, slots := #[], data := .func { fnD (nth bT 21) (PySem.Str.ofString "read_one") with globals := 3, closure := [], defaults := PySem.Value.none, kwdefaults := PySem.Value.none, doc := PySem.Value.none, pyModule := PySem.Value.str (PySem.Str.ofString "minismt.texts") 290, annotations := Option.none, code := PySem.Value.ref 218, closureTuple := PySem.Value.none, builtins := 0 } }
noncomputable def o220 (P : Params) : Obj := { cls := PySem.Value.type "tuple", data := PySem.Data.seq #[] }
noncomputable def o221 (P : Params) : Obj := { cls := PySem.Value.none, data := PySem.Data.fields #[] }
noncomputable def o222 (P : Params) : Obj := { cls := PySem.Value.type "tuple", data := PySem.Data.seq #[PySem.Value.str (PySem.Str.ofString "bottom") 493, PySem.Value.str (PySem.Str.ofString "twos") 494, PySem.Value.str (PySem.Str.ofString "fives") 495] }
noncomputable def o223 (P : Params) : Obj := { cls := PySem.Value.type "tuple", data := PySem.Data.seq #[] }
noncomputable def o224 (P : Params) : Obj := { cls := PySem.Value.none, dict := Option.none, slots := #[], data := .func { fnD (nth bT 22) (PySem.Str.ofString "places_of") with globals := 0, closure := [], defaults := PySem.Value.none, kwdefaults := PySem.Value.none, doc := PySem.Value.none, pyModule := PySem.Value.none, annotations := Option.none, code := PySem.Value.none, closureTuple := PySem.Value.none, builtins := 0 } }
noncomputable def o225 (P : Params) : Obj := { cls := PySem.Value.type "code", data := PySem.Data.fields #[PySem.Value.str (PySem.Str.ofString "places_of") 490, PySem.Value.str (PySem.Str.ofString "places_of") 491, PySem.Value.str (PySem.Str.ofString "/claim/cut.py") 492, PySem.Value.int 205 0, PySem.Value.int 1 0, PySem.Value.int 0 0, PySem.Value.int 0 0, PySem.Value.int 3 0, PySem.Value.ref 220, PySem.Value.bool Bool.true, PySem.Value.int 181 0, PySem.Value.ref 221, PySem.Value.none, PySem.Value.ref 222, PySem.Value.ref 223, PySem.Value.ref 224, PySem.Value.int 496 0, PySem.Value.int 205 0, PySem.Value.str (PySem.Str.ofString "/claim/cut.py") 497] }
noncomputable def o226 (P : Params) : Obj := { cls := PySem.Value.type "function", dict := Option.none, slots := #[], data := .func { fnD (nth bT 22) (PySem.Str.ofString "places_of") with globals := 3, closure := [], defaults := PySem.Value.none, kwdefaults := PySem.Value.none, doc := PySem.Value.none, pyModule := PySem.Value.str (PySem.Str.ofString "minismt.texts") 290, annotations := Option.none, code := PySem.Value.ref 225, closureTuple := PySem.Value.none, builtins := 0 } }
noncomputable def o227 (P : Params) : Obj := { cls := PySem.Value.type "tuple", data := PySem.Data.seq #[] }
noncomputable def o228 (P : Params) : Obj := { cls := PySem.Value.none, data := PySem.Data.fields #[] }
noncomputable def o229 (P : Params) : Obj := { cls := PySem.Value.type "tuple", data := PySem.Data.seq #[PySem.Value.str (PySem.Str.ofString "value") 502, PySem.Value.str (PySem.Str.ofString "top") 503, PySem.Value.str (PySem.Str.ofString "bottom") 504, PySem.Value.str (PySem.Str.ofString "places") 505, PySem.Value.str (PySem.Str.ofString "digits") 506] }
noncomputable def o230 (P : Params) : Obj := { cls := PySem.Value.type "tuple", data := PySem.Data.seq #[] }
noncomputable def o231 (P : Params) : Obj := { cls := PySem.Value.none, dict := Option.none, slots := #[], data := .func { fnD (nth bT 23) (PySem.Str.ofString "decimal_text") with globals := 0, closure := [], defaults := PySem.Value.none, kwdefaults := PySem.Value.none, doc := PySem.Value.none, pyModule := PySem.Value.none, annotations := Option.none, code := PySem.Value.none, closureTuple := PySem.Value.none, builtins := 0 } }
noncomputable def o232 (P : Params) : Obj := { cls := PySem.Value.type "code", data := PySem.Data.fields #[PySem.Value.str (PySem.Str.ofString "decimal_text") 499, PySem.Value.str (PySem.Str.ofString "decimal_text") 500, PySem.Value.str (PySem.Str.ofString "/claim/cut.py") 501, PySem.Value.int 217 0, PySem.Value.int 1 0, PySem.Value.int 0 0, PySem.Value.int 0 0, PySem.Value.int 3 0, PySem.Value.ref 227, PySem.Value.bool Bool.true, PySem.Value.int 181 0, PySem.Value.ref 228, PySem.Value.none, PySem.Value.ref 229, PySem.Value.ref 230, PySem.Value.ref 231, PySem.Value.int 507 0, PySem.Value.int 217 0, PySem.Value.str (PySem.Str.ofString "/claim/cut.py") 508] }
noncomputable def o233 (P : Params) : Obj := { cls := PySem.Value.type "function", dict := Option.none, slots := #[], data := .func { fnD (nth bT 23) (PySem.Str.ofString "decimal_text") with globals := 3, closure := [], defaults := PySem.Value.none, kwdefaults := PySem.Value.none, doc := PySem.Value.none, pyModule := PySem.Value.str (PySem.Str.ofString "minismt.texts") 290, annotations := Option.none, code := PySem.Value.ref 232, closureTuple := PySem.Value.none, builtins := 0 } }
noncomputable def o234 (P : Params) : Obj := { cls := PySem.Value.type "tuple", data := PySem.Data.seq #[] }
noncomputable def o235 (P : Params) : Obj := { cls := PySem.Value.none, data := PySem.Data.fields #[] }
noncomputable def o236 (P : Params) : Obj := { cls := PySem.Value.type "tuple", data := PySem.Data.seq #[PySem.Value.str (PySem.Str.ofString "purse") 515, PySem.Value.str (PySem.Str.ofString "wide") 516, PySem.Value.str (PySem.Str.ofString "turn") 517] }
noncomputable def o237 (P : Params) : Obj := { cls := PySem.Value.type "tuple", data := PySem.Data.seq #[] }
noncomputable def o238 (P : Params) : Obj := { cls := PySem.Value.none, dict := Option.none, slots := #[], data := .func { fnD (nth bT 25) (PySem.Str.ofString "_law_draw") with globals := 0, closure := [], defaults := PySem.Value.none, kwdefaults := PySem.Value.none, doc := PySem.Value.none, pyModule := PySem.Value.none, annotations := Option.none, code := PySem.Value.none, closureTuple := PySem.Value.none, builtins := 0 } }
noncomputable def o239 (P : Params) : Obj := { cls := PySem.Value.type "code", data := PySem.Data.fields #[PySem.Value.str (PySem.Str.ofString "_law_draw") 512, PySem.Value.str (PySem.Str.ofString "_law_draw") 513, PySem.Value.str (PySem.Str.ofString "/claim/cut.py") 514, PySem.Value.int 228 0, PySem.Value.int 2 0, PySem.Value.int 0 0, PySem.Value.int 0 0, PySem.Value.int 3 0, PySem.Value.ref 234, PySem.Value.bool Bool.true, PySem.Value.int 181 0, PySem.Value.ref 235, PySem.Value.none, PySem.Value.ref 236, PySem.Value.ref 237, PySem.Value.ref 238, PySem.Value.int 518 0, PySem.Value.int 228 0, PySem.Value.str (PySem.Str.ofString "/claim/cut.py") 519] }
noncomputable def o240 (P : Params) : Obj := { cls := PySem.Value.type "function", dict := Option.none, slots := #[], data := .func { fnD (nth bT 25) (PySem.Str.ofString "_law_draw") with globals := 3, closure := [], defaults := PySem.Value.none, kwdefaults := PySem.Value.none, doc := PySem.Value.none, pyModule := PySem.Value.str (PySem.Str.ofString "law_qz0009_01") 510, annotations := Option.none, code := PySem.Value.ref 239, closureTuple := PySem.Value.none, builtins := 0 } }
noncomputable def o241 (P : Params) : Obj := { cls := PySem.Value.type "tuple", data := PySem.Data.seq #[] }
noncomputable def o242 (P : Params) : Obj := { cls := PySem.Value.none, data := PySem.Data.fields #[] }
noncomputable def o243 (P : Params) : Obj := { cls := PySem.Value.type "tuple", data := PySem.Data.seq #[PySem.Value.str (PySem.Str.ofString "one") 524, PySem.Value.str (PySem.Str.ofString "other") 525] }
noncomputable def o244 (P : Params) : Obj := { cls := PySem.Value.type "tuple", data := PySem.Data.seq #[] }
noncomputable def o245 (P : Params) : Obj := { cls := PySem.Value.none, dict := Option.none, slots := #[], data := .func { fnD (nth bT 26) (PySem.Str.ofString "_law_common") with globals := 0, closure := [], defaults := PySem.Value.none, kwdefaults := PySem.Value.none, doc := PySem.Value.none, pyModule := PySem.Value.none, annotations := Option.none, code := PySem.Value.none, closureTuple := PySem.Value.none, builtins := 0 } }
noncomputable def o246 (P : Params) : Obj := { cls := PySem.Value.type "code", data := PySem.Data.fields #[PySem.Value.str (PySem.Str.ofString "_law_common") 521, PySem.Value.str (PySem.Str.ofString "_law_common") 522, PySem.Value.str (PySem.Str.ofString "/claim/cut.py") 523, PySem.Value.int 234 0, PySem.Value.int 2 0, PySem.Value.int 0 0, PySem.Value.int 0 0, PySem.Value.int 3 0, PySem.Value.ref 241, PySem.Value.bool Bool.true, PySem.Value.int 181 0, PySem.Value.ref 242, PySem.Value.none, PySem.Value.ref 243, PySem.Value.ref 244, PySem.Value.ref 245, PySem.Value.int 526 0, PySem.Value.int 234 0, PySem.Value.str (PySem.Str.ofString "/claim/cut.py") 527] }
noncomputable def o247 (P : Params) : Obj := { cls := PySem.Value.type "function", dict := Option.none, slots := #[], data := .func { fnD (nth bT 26) (PySem.Str.ofString "_law_common") with globals := 3, closure := [], defaults := PySem.Value.none, kwdefaults := PySem.Value.none, doc := PySem.Value.none, pyModule := PySem.Value.str (PySem.Str.ofString "law_qz0009_01") 510, annotations := Option.none, code := PySem.Value.ref 246, closureTuple := PySem.Value.none, builtins := 0 } }
noncomputable def o248 (P : Params) : Obj := { cls := PySem.Value.type "tuple", data := PySem.Data.seq #[] }
noncomputable def o249 (P : Params) : Obj := { cls := PySem.Value.none, data := PySem.Data.fields #[] }
noncomputable def o250 (P : Params) : Obj := { cls := PySem.Value.type "tuple", data := PySem.Data.seq #[PySem.Value.str (PySem.Str.ofString "top") 532, PySem.Value.str (PySem.Str.ofString "bottom") 533, PySem.Value.str (PySem.Str.ofString "common") 534] }
noncomputable def o251 (P : Params) : Obj := { cls := PySem.Value.type "tuple", data := PySem.Data.seq #[] }
noncomputable def o252 (P : Params) : Obj := { cls := PySem.Value.none, dict := Option.none, slots := #[], data := .func { fnD (nth bT 27) (PySem.Str.ofString "_law_lowest") with globals := 0, closure := [], defaults := PySem.Value.none, kwdefaults := PySem.Value.none, doc := PySem.Value.none, pyModule := PySem.Value.none, annotations := Option.none, code := PySem.Value.none, closureTuple := PySem.Value.none, builtins := 0 } }
noncomputable def o253 (P : Params) : Obj := { cls := PySem.Value.type "code", data := PySem.Data.fields #[PySem.Value.str (PySem.Str.ofString "_law_lowest") 529, PySem.Value.str (PySem.Str.ofString "_law_lowest") 530, PySem.Value.str (PySem.Str.ofString "/claim/cut.py") 531, PySem.Value.int 238 0, PySem.Value.int 2 0, PySem.Value.int 0 0, PySem.Value.int 0 0, PySem.Value.int 3 0, PySem.Value.ref 248, PySem.Value.bool Bool.true, PySem.Value.int 181 0, PySem.Value.ref 249, PySem.Value.none, PySem.Value.ref 250, PySem.Value.ref 251, PySem.Value.ref 252, PySem.Value.int 535 0, PySem.Value.int 238 0, PySem.Value.str (PySem.Str.ofString "/claim/cut.py") 536] }
noncomputable def o254 (P : Params) : Obj := { cls := PySem.Value.type "function", dict := Option.none, slots := #[], data := .func { fnD (nth bT 27) (PySem.Str.ofString "_law_lowest") with globals := 3, closure := [], defaults := PySem.Value.none, kwdefaults := PySem.Value.none, doc := PySem.Value.none, pyModule := PySem.Value.str (PySem.Str.ofString "law_qz0009_01") 510, annotations := Option.none, code := PySem.Value.ref 253, closureTuple := PySem.Value.none, builtins := 0 } }
noncomputable def o255 (P : Params) : Obj := { cls := PySem.Value.type "tuple", data := PySem.Data.seq #[] }
noncomputable def o256 (P : Params) : Obj := { cls := PySem.Value.none, data := PySem.Data.fields #[] }
noncomputable def o257 (P : Params) : Obj := { cls := PySem.Value.type "tuple", data := PySem.Data.seq #[PySem.Value.str (PySem.Str.ofString "purse") 541, PySem.Value.str (PySem.Str.ofString "more") 542, PySem.Value.str (PySem.Str.ofString "bottom") 543] }
noncomputable def o258 (P : Params) : Obj := { cls := PySem.Value.type "tuple", data := PySem.Data.seq #[] }
noncomputable def o259 (P : Params) : Obj := { cls := PySem.Value.none, dict := Option.none, slots := #[], data := .func { fnD (nth bT 28) (PySem.Str.ofString "_law_ratio") with globals := 0, closure := [], defaults := PySem.Value.none, kwdefaults := PySem.Value.none, doc := PySem.Value.none, pyModule := PySem.Value.none, annotations := Option.none, code := PySem.Value.none, closureTuple := PySem.Value.none, builtins := 0 } }
noncomputable def o260 (P : Params) : Obj := { cls := PySem.Value.type "code", data := PySem.Data.fields #[PySem.Value.str (PySem.Str.ofString "_law_ratio") 538, PySem.Value.str (PySem.Str.ofString "_law_ratio") 539, PySem.Value.str (PySem.Str.ofString "/claim/cut.py") 540, PySem.Value.int 241 0, PySem.Value.int 1 0, PySem.Value.int 0 0, PySem.Value.int 0 0, PySem.Value.int 3 0, PySem.Value.ref 255, PySem.Value.bool Bool.true, PySem.Value.int 181 0, PySem.Value.ref 256, PySem.Value.none, PySem.Value.ref 257, PySem.Value.ref 258, PySem.Value.ref 259, PySem.Value.int 544 0, PySem.Value.int 241 0, PySem.Value.str (PySem.Str.ofString "/claim/cut.py") 545] }
noncomputable def o261 (P : Params) : Obj := { cls := PySem.Value.type "function", dict := Option.none, slots := #[], data := .func { fnD (nth bT 28) (PySem.Str.ofString "_law_ratio") with globals := 3, closure := [], defaults := PySem.Value.none, kwdefaults := PySem.Value.none, doc := PySem.Value.none, pyModule := PySem.Value.str (PySem.Str.ofString "law_qz0009_01") 510, annotations := Option.none, code := PySem.Value.ref 260, closureTuple := PySem.Value.none, builtins := 0 } }
noncomputable def o262 (P : Params) : Obj := { cls := PySem.Value.type "tuple", data := PySem.Data.seq #[] }
noncomputable def o263 (P : Params) : Obj := { cls := PySem.Value.none, data := PySem.Data.fields #[] }
noncomputable def o264 (P : Params) : Obj := { cls := PySem.Value.type "tuple", data := PySem.Data.seq #[PySem.Value.str (PySem.Str.ofString "bottom") 550, PySem.Value.str (PySem.Str.ofString "rest") 551, PySem.Value.str (PySem.Str.ofString "k") 552] }
noncomputable def o265 (P : Params) : Obj := { cls := PySem.Value.type "tuple", data := PySem.Data.seq #[] }
noncomputable def o266 (P : Params) : Obj := { cls := PySem.Value.none, dict := Option.none, slots := #[], data := .func { fnD (nth bT 29) (PySem.Str.ofString "_law_first") with globals := 0, closure := [], defaults := PySem.Value.none, kwdefaults := PySem.Value.none, doc := PySem.Value.none, pyModule := PySem.Value.none, annotations := Option.none, code := PySem.Value.none, closureTuple := PySem.Value.none, builtins := 0 } }
noncomputable def o267 (P : Params) : Obj := { cls := PySem.Value.type "code", data := PySem.Data.fields #[PySem.Value.str (PySem.Str.ofString "_law_first") 547, PySem.Value.str (PySem.Str.ofString "_law_first") 548, PySem.Value.str (PySem.Str.ofString "/claim/cut.py") 549, PySem.Value.int 245 0, PySem.Value.int 1 0, PySem.Value.int 0 0, PySem.Value.int 0 0, PySem.Value.int 3 0, PySem.Value.ref 262, PySem.Value.bool Bool.true, PySem.Value.int 181 0, PySem.Value.ref 263, PySem.Value.none, PySem.Value.ref 264, PySem.Value.ref 265, PySem.Value.ref 266, PySem.Value.int 553 0, PySem.Value.int 245 0, PySem.Value.str (PySem.Str.ofString "/claim/cut.py") 554] }
noncomputable def o268 (P : Params) : Obj := { cls := PySem.Value.type "function", dict := Option.none, slots := #[], data := .func { fnD (nth bT 29) (PySem.Str.ofString "_law_first") with globals := 3, closure := [], defaults := PySem.Value.none, kwdefaults := PySem.Value.none, doc := PySem.Value.none, pyModule := PySem.Value.str (PySem.Str.ofString "law_qz0009_01") 510, annotations := Option.none, code := PySem.Value.ref 267, closureTuple := PySem.Value.none, builtins := 0 } }
noncomputable def o269 (P : Params) : Obj := { cls := PySem.Value.type "tuple", data := PySem.Data.seq #[] }
noncomputable def o270 (P : Params) : Obj := { cls := PySem.Value.none, data := PySem.Data.fields #[] }
noncomputable def o271 (P : Params) : Obj := { cls := PySem.Value.none, dict := Option.none, slots := #[], data := .func { fnD (nth bT 30) (PySem.Str.ofString "_law_are_places_right") with globals := 0, closure := [], defaults := PySem.Value.none, kwdefaults := PySem.Value.none, doc := PySem.Value.none, pyModule := PySem.Value.none, annotations := Option.none, code := PySem.Value.none, closureTuple := PySem.Value.none, builtins := 0 } }
noncomputable def o272 (P : Params) : Obj := { cls := PySem.Value.type "code", data := PySem.Data.fields #[PySem.Value.str (PySem.Str.ofString "_law_are_places_right") 556, PySem.Value.str (PySem.Str.ofString "_law_are_places_right") 557, PySem.Value.str (PySem.Str.ofString "/claim/cut.py") 558, PySem.Value.int 250 0, PySem.Value.int 1 0, PySem.Value.int 0 0, PySem.Value.int 0 0, PySem.Value.int 3 0, PySem.Value.ref 269, PySem.Value.bool Bool.true, PySem.Value.int 181 0, PySem.Value.ref 270, PySem.Value.none, PySem.Value.none, PySem.Value.none, PySem.Value.ref 271, PySem.Value.int 559 0, PySem.Value.int 250 0, PySem.Value.str (PySem.Str.ofString "/claim/cut.py") 560] }
noncomputable def o273 (P : Params) : Obj := { cls := PySem.Value.type "function", dict := Option.none, slots := #[], data := .func { fnD (nth bT 30) (PySem.Str.ofString "_law_are_places_right") with globals := 3, closure := [], defaults := PySem.Value.none, kwdefaults := PySem.Value.none, doc := PySem.Value.none, pyModule := PySem.Value.str (PySem.Str.ofString "law_qz0009_01") 510, annotations := Option.none, code := PySem.Value.ref 272, closureTuple := PySem.Value.none, builtins := 0 } }
noncomputable def o274 (P : Params) : Obj := { cls := PySem.Value.type "tuple", data := PySem.Data.seq #[] }
noncomputable def o275 (P : Params) : Obj := { cls := PySem.Value.none, data := PySem.Data.fields #[] }
noncomputable def o276 (P : Params) : Obj := { cls := PySem.Value.type "tuple", data := PySem.Data.seq #[PySem.Value.str (PySem.Str.ofString "one") 565, PySem.Value.str (PySem.Str.ofString "other") 566, PySem.Value.str (PySem.Str.ofString "top") 567, PySem.Value.str (PySem.Str.ofString "bottom") 568, PySem.Value.str (PySem.Str.ofString "ends") 569, PySem.Value.str (PySem.Str.ofString "many") 570, PySem.Value.str (PySem.Str.ofString "text") 571] }
noncomputable def o277 (P : Params) : Obj := { cls := PySem.Value.type "tuple", data := PySem.Data.seq #[] }
noncomputable def o278 (P : Params) : Obj := { cls := PySem.Value.none, dict := Option.none, slots := #[], data := .func { fnD (nth bT 31) (PySem.Str.ofString "_law_is_sum_right") with globals := 0, closure := [], defaults := PySem.Value.none, kwdefaults := PySem.Value.none, doc := PySem.Value.none, pyModule := PySem.Value.none, annotations := Option.none, code := PySem.Value.none, closureTuple := PySem.Value.none, builtins := 0 } }
noncomputable def o279 (P : Params) : Obj := { cls := PySem.Value.type "code", data := PySem.Data.fields #[PySem.Value.str (PySem.Str.ofString "_law_is_sum_right") 562, PySem.Value.str (PySem.Str.ofString "_law_is_sum_right") 563, PySem.Value.str (PySem.Str.ofString "/claim/cut.py") 564, PySem.Value.int 252 0, PySem.Value.int 2 0, PySem.Value.int 0 0, PySem.Value.int 0 0, PySem.Value.int 3 0, PySem.Value.ref 274, PySem.Value.bool Bool.true, PySem.Value.int 181 0, PySem.Value.ref 275, PySem.Value.none, PySem.Value.ref 276, PySem.Value.ref 277, PySem.Value.ref 278, PySem.Value.int 572 0, PySem.Value.int 252 0, PySem.Value.str (PySem.Str.ofString "/claim/cut.py") 573] }
noncomputable def o280 (P : Params) : Obj := { cls := PySem.Value.type "function", dict := Option.none, slots := #[], data := .func { fnD (nth bT 31) (PySem.Str.ofString "_law_is_sum_right") with globals := 3, closure := [], defaults := PySem.Value.none, kwdefaults := PySem.Value.none, doc := PySem.Value.none, pyModule := PySem.Value.str (PySem.Str.ofString "law_qz0009_01") 510, annotations := Option.none, code := PySem.Value.ref 279, closureTuple := PySem.Value.none, builtins := 0 } }
noncomputable def o281 (P : Params) : Obj := { cls := PySem.Value.type "tuple", data := PySem.Data.seq #[] }
noncomputable def o282 (P : Params) : Obj := { cls := PySem.Value.none, data := PySem.Data.fields #[] }
noncomputable def o283 (P : Params) : Obj := { cls := PySem.Value.type "tuple", data := PySem.Data.seq #[PySem.Value.str (PySem.Str.ofString "one") 578, PySem.Value.str (PySem.Str.ofString "other") 579, PySem.Value.str (PySem.Str.ofString "both") 580, PySem.Value.str (PySem.Str.ofString "ends") 581] }
noncomputable def o284 (P : Params) : Obj := { cls := PySem.Value.type "tuple", data := PySem.Data.seq #[] }
noncomputable def o285 (P : Params) : Obj := { cls := PySem.Value.none, dict := Option.none, slots := #[], data := .func { fnD (nth bT 32) (PySem.Str.ofString "_law_is_multiple_right") with globals := 0, closure := [], defaults := PySem.Value.none, kwdefaults := PySem.Value.none, doc := PySem.Value.none, pyModule := PySem.Value.none, annotations := Option.none, code := PySem.Value.none, closureTuple := PySem.Value.none, builtins := 0 } }
noncomputable def o286 (P : Params) : Obj := { cls := PySem.Value.type "code", data := PySem.Data.fields #[PySem.Value.str (PySem.Str.ofString "_law_is_multiple_right") 575, PySem.Value.str (PySem.Str.ofString "_law_is_multiple_right") 576, PySem.Value.str (PySem.Str.ofString "/claim/cut.py") 577, PySem.Value.int 261 0, PySem.Value.int 2 0, PySem.Value.int 0 0, PySem.Value.int 0 0, PySem.Value.int 3 0, PySem.Value.ref 281, PySem.Value.bool Bool.true, PySem.Value.int 181 0, PySem.Value.ref 282, PySem.Value.none, PySem.Value.ref 283, PySem.Value.ref 284, PySem.Value.ref 285, PySem.Value.int 582 0, PySem.Value.int 261 0, PySem.Value.str (PySem.Str.ofString "/claim/cut.py") 583] }
noncomputable def o287 (P : Params) : Obj := { cls := PySem.Value.type "function", dict := Option.none, slots := #[], data := .func { fnD (nth bT 32) (PySem.Str.ofString "_law_is_multiple_right") with globals := 3, closure := [], defaults := PySem.Value.none, kwdefaults := PySem.Value.none, doc := PySem.Value.none, pyModule := PySem.Value.str (PySem.Str.ofString "law_qz0009_01") 510, annotations := Option.none, code := PySem.Value.ref 286, closureTuple := PySem.Value.none, builtins := 0 } }
noncomputable def o288 (P : Params) : Obj := { cls := PySem.Value.type "tuple", data := PySem.Data.seq #[] }
noncomputable def o289 (P : Params) : Obj := { cls := PySem.Value.none, data := PySem.Data.fields #[] }
noncomputable def o290 (P : Params) : Obj := { cls := PySem.Value.none, dict := Option.none, slots := #[], data := .func { fnD (nth bT 33) (PySem.Str.ofString "law") with globals := 0, closure := [], defaults := PySem.Value.none, kwdefaults := PySem.Value.none, doc := PySem.Value.none, pyModule := PySem.Value.none, annotations := Option.none, code := PySem.Value.none, closureTuple := PySem.Value.none, builtins := 0 } }
noncomputable def o291 (P : Params) : Obj := { cls := PySem.Value.type "code", data := PySem.Data.fields #[PySem.Value.str (PySem.Str.ofString "law") 585, PySem.Value.str (PySem.Str.ofString "law") 586, PySem.Value.str (PySem.Str.ofString "/claim/cut.py") 587, PySem.Value.int 265 0, PySem.Value.int 1 0, PySem.Value.int 0 0, PySem.Value.int 0 0, PySem.Value.int 3 0, PySem.Value.ref 288, PySem.Value.bool Bool.true, PySem.Value.int 181 0, PySem.Value.ref 289, PySem.Value.none, PySem.Value.none, PySem.Value.none, PySem.Value.ref 290, PySem.Value.int 588 0, PySem.Value.int 265 0, PySem.Value.str (PySem.Str.ofString "/claim/cut.py") 589] }
noncomputable def o292 (P : Params) : Obj := { cls := PySem.Value.type "function", dict := Option.none, slots := #[], data := .func { fnD (nth bT 33) (PySem.Str.ofString "law") with globals := 3, closure := [], defaults := PySem.Value.none, kwdefaults := PySem.Value.none, doc := PySem.Value.none, pyModule := PySem.Value.str (PySem.Str.ofString "law_qz0009_01") 510, annotations := Option.none, code := PySem.Value.ref 291, closureTuple := PySem.Value.none, builtins := 0 } }
noncomputable def o2x0 (P : Params) : Obj := boot_o_2 P
noncomputable def o3x0 (P : Params) : Obj := boot_o_3 P
noncomputable def o12x0 (P : Params) : Obj := { cls := PySem.Value.none, data := PySem.Data.fields #[] }
noncomputable def T0 (P : Params) : BT := (BT.node (o0 P) (BT.node (o1 P) (BT.node (o3x0 P) (BT.node (o7 P) .nil .nil) (BT.node (o11 P) .nil .nil)) (BT.node (o5 P) (BT.node (o9 P) .nil .nil) (BT.node (o13 P) .nil .nil))) (BT.node (o2x0 P) (BT.node (o4 P) (BT.node (o8 P) .nil .nil) (BT.node (o12x0 P) .nil .nil)) (BT.node (o6 P) (BT.node (o10 P) .nil .nil) (BT.node (o14 P) .nil .nil))))
noncomputable def S0 (w : World) (os : OsState) : SharedT := ⟨T0 w.params, 15, {}, Array.mk [], boot_drawn, 187, os⟩
noncomputable def o3x1 (P : Params) : Obj := { cls := PySem.Value.type "dict", data := PySem.Data.dict #[{ hash := PySem.PyData.keyHash P (PySem.Str.ofString "__name__"), key := PySem.Value.str (PySem.Str.ofString "__name__") 165, val := PySem.Value.str (PySem.Str.ofString "minismt.errors") 187 }, { hash := PySem.PyData.keyHash P (PySem.Str.ofString "__doc__"), key := PySem.Value.str (PySem.Str.ofString "__doc__") 166, val := PySem.Value.none }, { hash := PySem.PyData.keyHash P (PySem.Str.ofString "__package__"), key := PySem.Value.str (PySem.Str.ofString "__package__") 167, val := PySem.Value.none }, { hash := PySem.PyData.keyHash P (PySem.Str.ofString "__loader__"), key := PySem.Value.str (PySem.Str.ofString "__loader__") 168, val := PySem.Value.builtin "__main__.__loader__#opaque" }, { hash := PySem.PyData.keyHash P (PySem.Str.ofString "__spec__"), key := PySem.Value.str (PySem.Str.ofString "__spec__") 169, val := PySem.Value.none }, { hash := PySem.PyData.keyHash P (PySem.Str.ofString "__annotations__"), key := PySem.Value.str (PySem.Str.ofString "__annotations__") 170, val := PySem.Value.ref 6 }, { hash := PySem.PyData.keyHash P (PySem.Str.ofString "__builtins__"), key := PySem.Value.str (PySem.Str.ofString "__builtins__") 171, val := PySem.Value.ref 4 }, { hash := PySem.PyData.keyHash P (PySem.Str.ofString "__file__"), key := PySem.Value.str (PySem.Str.ofString "__file__") 173, val := PySem.Value.str (PySem.Str.ofString "/claim/cut.py") 172 }, { hash := PySem.PyData.keyHash P (PySem.Str.ofString "__cached__"), key := PySem.Value.str (PySem.Str.ofString "__cached__") 174, val := PySem.Value.none }, { hash := PySem.PyData.keyHash P (PySem.Str.ofString "SmtError"), key := PySem.Value.str (PySem.Str.ofString "SmtError") 226, val := PySem.Value.ref 40 }] 10 }
noncomputable def o12x1 (P : Params) : Obj := { cls := PySem.Value.none, data := PySem.Data.fields #[PySem.Value.int 2 0, PySem.Value.int 0 0, PySem.Value.ref 21] }
noncomputable def o40x1 (P : Params) : Obj := { cls := PySem.Value.type "type", data := PySem.Data.cls { name := PySem.Str.ofString "SmtError", bases := [PySem.Value.type "Exception"], mro := [PySem.Value.ref 40, PySem.Value.type "Exception", PySem.Value.type "BaseException", PySem.Value.type "object"], ns := 39, qualname := PySem.Str.ofString "SmtError" }, slots := #[Option.some (PySem.Value.ref 15), Option.none, Option.some (PySem.Value.str (PySem.Str.ofString "SmtError") 189), Option.some (PySem.Value.str (PySem.Str.ofString "SmtError") 197), Option.some (PySem.Value.builtin "Exception.__new__"), Option.some (PySem.Value.bool Bool.true)] }
noncomputable def T1 (P : Params) : BT := (BT.node (o0 P) (BT.node (o1 P) (BT.node (o3x1 P) (BT.node (o7 P) (BT.node (o15 P) (BT.node (o31 P) .nil .nil) .nil) (BT.node (o23 P) (BT.node (o39 P) .nil .nil) .nil)) (BT.node (o11 P) (BT.node (o19 P) (BT.node (o35 P) .nil .nil) .nil) (BT.node (o27 P) (BT.node (o43 P) .nil .nil) .nil))) (BT.node (o5 P) (BT.node (o9 P) (BT.node (o17 P) (BT.node (o33 P) .nil .nil) .nil) (BT.node (o25 P) (BT.node (o41 P) .nil .nil) .nil)) (BT.node (o13 P) (BT.node (o21 P) (BT.node (o37 P) .nil .nil) .nil) (BT.node (o29 P) .nil .nil)))) (BT.node (o2 P) (BT.node (o4 P) (BT.node (o8 P) (BT.node (o16 P) (BT.node (o32 P) .nil .nil) .nil) (BT.node (o24 P) (BT.node (o40x1 P) .nil .nil) .nil)) (BT.node (o12x1 P) (BT.node (o20 P) (BT.node (o36 P) .nil .nil) .nil) (BT.node (o28 P) .nil .nil))) (BT.node (o6 P) (BT.node (o10 P) (BT.node (o18 P) (BT.node (o34 P) .nil .nil) .nil) (BT.node (o26 P) (BT.node (o42 P) .nil .nil) .nil)) (BT.node (o14 P) (BT.node (o22 P) (BT.node (o38 P) .nil .nil) .nil) (BT.node (o30 P) .nil .nil)))))
noncomputable def S1 (w : World) (os : OsState) : SharedT := ⟨T1 w.params, 44, {}, Array.mk [], boot_drawn, 227, os⟩
noncomputable def o3x2 (P : Params) : Obj := { cls := PySem.Value.type "dict", data := PySem.Data.dict #[{ hash := PySem.PyData.keyHash P (PySem.Str.ofString "__name__"), key := PySem.Value.str (PySem.Str.ofString "__name__") 165, val := PySem.Value.str (PySem.Str.ofString "minismt.errors") 187 }, { hash := PySem.PyData.keyHash P (PySem.Str.ofString "__doc__"), key := PySem.Value.str (PySem.Str.ofString "__doc__") 166, val := PySem.Value.none }, { hash := PySem.PyData.keyHash P (PySem.Str.ofString "__package__"), key := PySem.Value.str (PySem.Str.ofString "__package__") 167, val := PySem.Value.none }, { hash := PySem.PyData.keyHash P (PySem.Str.ofString "__loader__"), key := PySem.Value.str (PySem.Str.ofString "__loader__") 168, val := PySem.Value.builtin "__main__.__loader__#opaque" }, { hash := PySem.PyData.keyHash P (PySem.Str.ofString "__spec__"), key := PySem.Value.str (PySem.Str.ofString "__spec__") 169, val := PySem.Value.none }, { hash := PySem.PyData.keyHash P (PySem.Str.ofString "__annotations__"), key := PySem.Value.str (PySem.Str.ofString "__annotations__") 170, val := PySem.Value.ref 6 }, { hash := PySem.PyData.keyHash P (PySem.Str.ofString "__builtins__"), key := PySem.Value.str (PySem.Str.ofString "__builtins__") 171, val := PySem.Value.ref 4 }, { hash := PySem.PyData.keyHash P (PySem.Str.ofString "__file__"), key := PySem.Value.str (PySem.Str.ofString "__file__") 173, val := PySem.Value.str (PySem.Str.ofString "/claim/cut.py") 172 }, { hash := PySem.PyData.keyHash P (PySem.Str.ofString "__cached__"), key := PySem.Value.str (PySem.Str.ofString "__cached__") 174, val := PySem.Value.none }, { hash := PySem.PyData.keyHash P (PySem.Str.ofString "SmtError"), key := PySem.Value.str (PySem.Str.ofString "SmtError") 226, val := PySem.Value.ref 40 }, { hash := PySem.PyData.keyHash P (PySem.Str.ofString "SyntaxFault"), key := PySem.Value.str (PySem.Str.ofString "SyntaxFault") 261, val := PySem.Value.ref 69 }] 11 }
noncomputable def o12x2 (P : Params) : Obj := { cls := PySem.Value.none, data := PySem.Data.fields #[PySem.Value.int 2 0, PySem.Value.int 0 0, PySem.Value.ref 21, PySem.Value.int 10 0, PySem.Value.int 0 0, PySem.Value.ref 50] }
noncomputable def T2 (P : Params) : BT := (BT.node (o0 P) (BT.node (o1 P) (BT.node (o3x2 P) (BT.node (o7 P) (BT.node (o15 P) (BT.node (o31 P) (BT.node (o63 P) .nil .nil) .nil) (BT.node (o47 P) .nil .nil)) (BT.node (o23 P) (BT.node (o39 P) (BT.node (o71 P) .nil .nil) .nil) (BT.node (o55 P) .nil .nil))) (BT.node (o11 P) (BT.node (o19 P) (BT.node (o35 P) (BT.node (o67 P) .nil .nil) .nil) (BT.node (o51 P) .nil .nil)) (BT.node (o27 P) (BT.node (o43 P) .nil .nil) (BT.node (o59 P) .nil .nil)))) (BT.node (o5 P) (BT.node (o9 P) (BT.node (o17 P) (BT.node (o33 P) (BT.node (o65 P) .nil .nil) .nil) (BT.node (o49 P) .nil .nil)) (BT.node (o25 P) (BT.node (o41 P) .nil .nil) (BT.node (o57 P) .nil .nil))) (BT.node (o13 P) (BT.node (o21 P) (BT.node (o37 P) (BT.node (o69 P) .nil .nil) .nil) (BT.node (o53 P) .nil .nil)) (BT.node (o29 P) (BT.node (o45 P) .nil .nil) (BT.node (o61 P) .nil .nil))))) (BT.node (o2 P) (BT.node (o4 P) (BT.node (o8 P) (BT.node (o16 P) (BT.node (o32 P) (BT.node (o64 P) .nil .nil) .nil) (BT.node (o48 P) .nil .nil)) (BT.node (o24 P) (BT.node (o40 P) .nil .nil) (BT.node (o56 P) .nil .nil))) (BT.node (o12x2 P) (BT.node (o20 P) (BT.node (o36 P) (BT.node (o68 P) .nil .nil) .nil) (BT.node (o52 P) .nil .nil)) (BT.node (o28 P) (BT.node (o44 P) .nil .nil) (BT.node (o60 P) .nil .nil)))) (BT.node (o6 P) (BT.node (o10 P) (BT.node (o18 P) (BT.node (o34 P) (BT.node (o66 P) .nil .nil) .nil) (BT.node (o50 P) .nil .nil)) (BT.node (o26 P) (BT.node (o42 P) .nil .nil) (BT.node (o58 P) .nil .nil))) (BT.node (o14 P) (BT.node (o22 P) (BT.node (o38 P) (BT.node (o70 P) .nil .nil) .nil) (BT.node (o54 P) .nil .nil)) (BT.node (o30 P) (BT.node (o46 P) .nil .nil) (BT.node (o62 P) .nil .nil))))))
noncomputable def S2 (w : World) (os : OsState) : SharedT := ⟨T2 w.params, 72, {}, Array.mk [], boot_drawn, 262, os⟩
noncomputable def o3x3 (P : Params) : Obj := { cls := PySem.Value.type "dict", data := PySem.Data.dict #[{ hash := PySem.PyData.keyHash P (PySem.Str.ofString "__name__"), key := PySem.Value.str (PySem.Str.ofString "__name__") 165, val := PySem.Value.str (PySem.Str.ofString "minismt.texts") 290 }, { hash := PySem.PyData.keyHash P (PySem.Str.ofString "__doc__"), key := PySem.Value.str (PySem.Str.ofString "__doc__") 166, val := PySem.Value.none }, { hash := PySem.PyData.keyHash P (PySem.Str.ofString "__package__"), key := PySem.Value.str (PySem.Str.ofString "__package__") 167, val := PySem.Value.none }, { hash := PySem.PyData.keyHash P (PySem.Str.ofString "__loader__"), key := PySem.Value.str (PySem.Str.ofString "__loader__") 168, val := PySem.Value.builtin "__main__.__loader__#opaque" }, { hash := PySem.PyData.keyHash P (PySem.Str.ofString "__spec__"), key := PySem.Value.str (PySem.Str.ofString "__spec__") 169, val := PySem.Value.none }, { hash := PySem.PyData.keyHash P (PySem.Str.ofString "__annotations__"), key := PySem.Value.str (PySem.Str.ofString "__annotations__") 170, val := PySem.Value.ref 6 }, { hash := PySem.PyData.keyHash P (PySem.Str.ofString "__builtins__"), key := PySem.Value.str (PySem.Str.ofString "__builtins__") 171, val := PySem.Value.ref 4 }, { hash := PySem.PyData.keyHash P (PySem.Str.ofString "__file__"), key := PySem.Value.str (PySem.Str.ofString "__file__") 173, val := PySem.Value.str (PySem.Str.ofString "/claim/cut.py") 172 }, { hash := PySem.PyData.keyHash P (PySem.Str.ofString "__cached__"), key := PySem.Value.str (PySem.Str.ofString "__cached__") 174, val := PySem.Value.none }, { hash := PySem.PyData.keyHash P (PySem.Str.ofString "SmtError"), key := PySem.Value.str (PySem.Str.ofString "SmtError") 226, val := PySem.Value.ref 40 }, { hash := PySem.PyData.keyHash P (PySem.Str.ofString "SyntaxFault"), key := PySem.Value.str (PySem.Str.ofString "SyntaxFault") 261, val := PySem.Value.ref 69 }, { hash := PySem.PyData.keyHash P (PySem.Str.ofString "gcd_of"), key := PySem.Value.str (PySem.Str.ofString "gcd_of") 271, val := PySem.Value.ref 78 }, { hash := PySem.PyData.keyHash P (PySem.Str.ofString "ratio"), key := PySem.Value.str (PySem.Str.ofString "ratio") 280, val := PySem.Value.ref 85 }, { hash := PySem.PyData.keyHash P (PySem.Str.ofString "ratio_of_decimal"), key := PySem.Value.str (PySem.Str.ofString "ratio_of_decimal") 289, val := PySem.Value.ref 92 }, { hash := PySem.PyData.keyHash P (PySem.Str.ofString "BLANKS"), key := PySem.Value.str (PySem.Str.ofString "BLANKS") 293, val := PySem.Value.str (PySem.Str.ofString " \t\x0d\n") 292 }, { hash := PySem.PyData.keyHash P (PySem.Str.ofString "DIGITS"), key := PySem.Value.str (PySem.Str.ofString "DIGITS") 295, val := PySem.Value.str (PySem.Str.ofString "0123456789") 294 }, { hash := PySem.PyData.keyHash P (PySem.Str.ofString "HEX_DIGITS"), key := PySem.Value.str (PySem.Str.ofString "HEX_DIGITS") 297, val := PySem.Value.str (PySem.Str.ofString "0123456789abcdefABCDEF") 296 }, { hash := PySem.PyData.keyHash P (PySem.Str.ofString "LETTERS"), key := PySem.Value.str (PySem.Str.ofString "LETTERS") 299, val := PySem.Value.str (PySem.Str.ofString "abcdefghijklmnopqrstuvwxyzABCDEFGHIJKLMNOPQRSTUVWXYZ") 298 }, { hash := PySem.PyData.keyHash P (PySem.Str.ofString "MARKS"), key := PySem.Value.str (PySem.Str.ofString "MARKS") 301, val := PySem.Value.str (PySem.Str.ofString "~!@$%^&*_-+=<>.?/") 300 }, { hash := PySem.PyData.keyHash P (PySem.Str.ofString "MOST_FIGURES"), key := PySem.Value.str (PySem.Str.ofString "MOST_FIGURES") 303, val := PySem.Value.int 1000 302 }, { hash := PySem.PyData.keyHash P (PySem.Str.ofString "SIMPLE"), key := PySem.Value.str (PySem.Str.ofString "SIMPLE") 306, val := PySem.Value.str (PySem.Str.ofString "abcdefghijklmnopqrstuvwxyzABCDEFGHIJKLMNOPQRSTUVWXYZ0123456789~!@$%^&*_-+=<>.?/") 305 }, { hash := PySem.PyData.keyHash P (PySem.Str.ofString "RESERVED"), key := PySem.Value.str (PySem.Str.ofString "RESERVED") 320, val := PySem.Value.ref 93 }, { hash := PySem.PyData.keyHash P (PySem.Str.ofString "want_few"), key := PySem.Value.str (PySem.Str.ofString "want_few") 328, val := PySem.Value.ref 100 }, { hash := PySem.PyData.keyHash P (PySem.Str.ofString "value_of"), key := PySem.Value.str (PySem.Str.ofString "value_of") 338, val := PySem.Value.ref 107 }] 24 }
noncomputable def o12x3 (P : Params) : Obj := { cls := PySem.Value.none, data := PySem.Data.fields #[PySem.Value.int 2 0, PySem.Value.int 0 0, PySem.Value.ref 21, PySem.Value.int 10 0, PySem.Value.int 0 0, PySem.Value.ref 50, PySem.Value.int 19 0, PySem.Value.int 0 0, PySem.Value.ref 77, PySem.Value.int 24 0, PySem.Value.int 0 0, PySem.Value.ref 84, PySem.Value.int 31 0, PySem.Value.int 0 0, PySem.Value.ref 91, PySem.Value.int 43 0, PySem.Value.int 0 0, PySem.Value.ref 99, PySem.Value.int 46 0, PySem.Value.int 0 0, PySem.Value.ref 106] }
noncomputable def T3 (P : Params) : BT := (BT.node (o0 P) (BT.node (o1 P) (BT.node (o3x3 P) (BT.node (o7 P) (BT.node (o15 P) (BT.node (o31 P) (BT.node (o63 P) .nil .nil) (BT.node (o95 P) .nil .nil)) (BT.node (o47 P) (BT.node (o79 P) .nil .nil) .nil)) (BT.node (o23 P) (BT.node (o39 P) (BT.node (o71 P) .nil .nil) (BT.node (o103 P) .nil .nil)) (BT.node (o55 P) (BT.node (o87 P) .nil .nil) .nil))) (BT.node (o11 P) (BT.node (o19 P) (BT.node (o35 P) (BT.node (o67 P) .nil .nil) (BT.node (o99 P) .nil .nil)) (BT.node (o51 P) (BT.node (o83 P) .nil .nil) .nil)) (BT.node (o27 P) (BT.node (o43 P) (BT.node (o75 P) .nil .nil) (BT.node (o107 P) .nil .nil)) (BT.node (o59 P) (BT.node (o91 P) .nil .nil) .nil)))) (BT.node (o5 P) (BT.node (o9 P) (BT.node (o17 P) (BT.node (o33 P) (BT.node (o65 P) .nil .nil) (BT.node (o97 P) .nil .nil)) (BT.node (o49 P) (BT.node (o81 P) .nil .nil) .nil)) (BT.node (o25 P) (BT.node (o41 P) (BT.node (o73 P) .nil .nil) (BT.node (o105 P) .nil .nil)) (BT.node (o57 P) (BT.node (o89 P) .nil .nil) .nil))) (BT.node (o13 P) (BT.node (o21 P) (BT.node (o37 P) (BT.node (o69 P) .nil .nil) (BT.node (o101 P) .nil .nil)) (BT.node (o53 P) (BT.node (o85 P) .nil .nil) .nil)) (BT.node (o29 P) (BT.node (o45 P) (BT.node (o77 P) .nil .nil) .nil) (BT.node (o61 P) (BT.node (o93 P) .nil .nil) .nil))))) (BT.node (o2 P) (BT.node (o4 P) (BT.node (o8 P) (BT.node (o16 P) (BT.node (o32 P) (BT.node (o64 P) .nil .nil) (BT.node (o96 P) .nil .nil)) (BT.node (o48 P) (BT.node (o80 P) .nil .nil) .nil)) (BT.node (o24 P) (BT.node (o40 P) (BT.node (o72 P) .nil .nil) (BT.node (o104 P) .nil .nil)) (BT.node (o56 P) (BT.node (o88 P) .nil .nil) .nil))) (BT.node (o12x3 P) (BT.node (o20 P) (BT.node (o36 P) (BT.node (o68 P) .nil .nil) (BT.node (o100 P) .nil .nil)) (BT.node (o52 P) (BT.node (o84 P) .nil .nil) .nil)) (BT.node (o28 P) (BT.node (o44 P) (BT.node (o76 P) .nil .nil) .nil) (BT.node (o60 P) (BT.node (o92 P) .nil .nil) .nil)))) (BT.node (o6 P) (BT.node (o10 P) (BT.node (o18 P) (BT.node (o34 P) (BT.node (o66 P) .nil .nil) (BT.node (o98 P) .nil .nil)) (BT.node (o50 P) (BT.node (o82 P) .nil .nil) .nil)) (BT.node (o26 P) (BT.node (o42 P) (BT.node (o74 P) .nil .nil) (BT.node (o106 P) .nil .nil)) (BT.node (o58 P) (BT.node (o90 P) .nil .nil) .nil))) (BT.node (o14 P) (BT.node (o22 P) (BT.node (o38 P) (BT.node (o70 P) .nil .nil) (BT.node (o102 P) .nil .nil)) (BT.node (o54 P) (BT.node (o86 P) .nil .nil) .nil)) (BT.node (o30 P) (BT.node (o46 P) (BT.node (o78 P) .nil .nil) .nil) (BT.node (o62 P) (BT.node (o94 P) .nil .nil) .nil))))))
noncomputable def S3 (w : World) (os : OsState) : SharedT := ⟨T3 w.params, 108, {}, Array.mk [], boot_drawn, 339, os⟩
noncomputable def o3x4 (P : Params) : Obj := { cls := PySem.Value.type "dict", data := PySem.Data.dict #[{ hash := PySem.PyData.keyHash P (PySem.Str.ofString "__name__"), key := PySem.Value.str (PySem.Str.ofString "__name__") 165, val := PySem.Value.str (PySem.Str.ofString "minismt.texts") 290 }, { hash := PySem.PyData.keyHash P (PySem.Str.ofString "__doc__"), key := PySem.Value.str (PySem.Str.ofString "__doc__") 166, val := PySem.Value.none }, { hash := PySem.PyData.keyHash P (PySem.Str.ofString "__package__"), key := PySem.Value.str (PySem.Str.ofString "__package__") 167, val := PySem.Value.none }, { hash := PySem.PyData.keyHash P (PySem.Str.ofString "__loader__"), key := PySem.Value.str (PySem.Str.ofString "__loader__") 168, val := PySem.Value.builtin "__main__.__loader__#opaque" }, { hash := PySem.PyData.keyHash P (PySem.Str.ofString "__spec__"), key := PySem.Value.str (PySem.Str.ofString "__spec__") 169, val := PySem.Value.none }, { hash := PySem.PyData.keyHash P (PySem.Str.ofString "__annotations__"), key := PySem.Value.str (PySem.Str.ofString "__annotations__") 170, val := PySem.Value.ref 6 }, { hash := PySem.PyData.keyHash P (PySem.Str.ofString "__builtins__"), key := PySem.Value.str (PySem.Str.ofString "__builtins__") 171, val := PySem.Value.ref 4 }, { hash := PySem.PyData.keyHash P (PySem.Str.ofString "__file__"), key := PySem.Value.str (PySem.Str.ofString "__file__") 173, val := PySem.Value.str (PySem.Str.ofString "/claim/cut.py") 172 }, { hash := PySem.PyData.keyHash P (PySem.Str.ofString "__cached__"), key := PySem.Value.str (PySem.Str.ofString "__cached__") 174, val := PySem.Value.none }, { hash := PySem.PyData.keyHash P (PySem.Str.ofString "SmtError"), key := PySem.Value.str (PySem.Str.ofString "SmtError") 226, val := PySem.Value.ref 40 }, { hash := PySem.PyData.keyHash P (PySem.Str.ofString "SyntaxFault"), key := PySem.Value.str (PySem.Str.ofString "SyntaxFault") 261, val := PySem.Value.ref 69 }, { hash := PySem.PyData.keyHash P (PySem.Str.ofString "gcd_of"), key := PySem.Value.str (PySem.Str.ofString "gcd_of") 271, val := PySem.Value.ref 78 }, { hash := PySem.PyData.keyHash P (PySem.Str.ofString "ratio"), key := PySem.Value.str (PySem.Str.ofString "ratio") 280, val := PySem.Value.ref 85 }, { hash := PySem.PyData.keyHash P (PySem.Str.ofString "ratio_of_decimal"), key := PySem.Value.str (PySem.Str.ofString "ratio_of_decimal") 289, val := PySem.Value.ref 92 }, { hash := PySem.PyData.keyHash P (PySem.Str.ofString "BLANKS"), key := PySem.Value.str (PySem.Str.ofString "BLANKS") 293, val := PySem.Value.str (PySem.Str.ofString " \t\x0d\n") 292 }, { hash := PySem.PyData.keyHash P (PySem.Str.ofString "DIGITS"), key := PySem.Value.str (PySem.Str.ofString "DIGITS") 295, val := PySem.Value.str (PySem.Str.ofString "0123456789") 294 }, { hash := PySem.PyData.keyHash P (PySem.Str.ofString "HEX_DIGITS"), key := PySem.Value.str (PySem.Str.ofString "HEX_DIGITS") 297, val := PySem.Value.str (PySem.Str.ofString "0123456789abcdefABCDEF") 296 }, { hash := PySem.PyData.keyHash P (PySem.Str.ofString "LETTERS"), key := PySem.Value.str (PySem.Str.ofString "LETTERS") 299, val := PySem.Value.str (PySem.Str.ofString "abcdefghijklmnopqrstuvwxyzABCDEFGHIJKLMNOPQRSTUVWXYZ") 298 }, { hash := PySem.PyData.keyHash P (PySem.Str.ofString "MARKS"), key := PySem.Value.str (PySem.Str.ofString "MARKS") 301, val := PySem.Value.str (PySem.Str.ofString "~!@$%^&*_-+=<>.?/") 300 }, { hash := PySem.PyData.keyHash P (PySem.Str.ofString "MOST_FIGURES"), key := PySem.Value.str (PySem.Str.ofString "MOST_FIGURES") 303, val := PySem.Value.int 1000 302 }, { hash := PySem.PyData.keyHash P (PySem.Str.ofString "SIMPLE"), key := PySem.Value.str (PySem.Str.ofString "SIMPLE") 306, val := PySem.Value.str (PySem.Str.ofString "abcdefghijklmnopqrstuvwxyzABCDEFGHIJKLMNOPQRSTUVWXYZ0123456789~!@$%^&*_-+=<>.?/") 305 }, { hash := PySem.PyData.keyHash P (PySem.Str.ofString "RESERVED"), key := PySem.Value.str (PySem.Str.ofString "RESERVED") 320, val := PySem.Value.ref 93 }, { hash := PySem.PyData.keyHash P (PySem.Str.ofString "want_few"), key := PySem.Value.str (PySem.Str.ofString "want_few") 328, val := PySem.Value.ref 100 }, { hash := PySem.PyData.keyHash P (PySem.Str.ofString "value_of"), key := PySem.Value.str (PySem.Str.ofString "value_of") 338, val := PySem.Value.ref 107 }, { hash := PySem.PyData.keyHash P (PySem.Str.ofString "Scanner"), key := PySem.Value.str (PySem.Str.ofString "Scanner") 459, val := PySem.Value.ref 194 }] 25 }
noncomputable def o12x4 (P : Params) : Obj := { cls := PySem.Value.none, data := PySem.Data.fields #[PySem.Value.int 2 0, PySem.Value.int 0 0, PySem.Value.ref 21, PySem.Value.int 10 0, PySem.Value.int 0 0, PySem.Value.ref 50, PySem.Value.int 19 0, PySem.Value.int 0 0, PySem.Value.ref 77, PySem.Value.int 24 0, PySem.Value.int 0 0, PySem.Value.ref 84, PySem.Value.int 31 0, PySem.Value.int 0 0, PySem.Value.ref 91, PySem.Value.int 43 0, PySem.Value.int 0 0, PySem.Value.ref 99, PySem.Value.int 46 0, PySem.Value.int 0 0, PySem.Value.ref 106, PySem.Value.int 51 0, PySem.Value.int 0 0, PySem.Value.ref 113] }
noncomputable def T4 (P : Params) : BT := (BT.node (o0 P) (BT.node (o1 P) (BT.node (o3x4 P) (BT.node (o7 P) (BT.node (o15 P) (BT.node (o31 P) (BT.node (o63 P) (BT.node (o127 P) .nil .nil) (BT.node (o191 P) .nil .nil)) (BT.node (o95 P) (BT.node (o159 P) .nil .nil) .nil)) (BT.node (o47 P) (BT.node (o79 P) (BT.node (o143 P) .nil .nil) .nil) (BT.node (o111 P) (BT.node (o175 P) .nil .nil) .nil))) (BT.node (o23 P) (BT.node (o39 P) (BT.node (o71 P) (BT.node (o135 P) .nil .nil) .nil) (BT.node (o103 P) (BT.node (o167 P) .nil .nil) .nil)) (BT.node (o55 P) (BT.node (o87 P) (BT.node (o151 P) .nil .nil) .nil) (BT.node (o119 P) (BT.node (o183 P) .nil .nil) .nil)))) (BT.node (o11 P) (BT.node (o19 P) (BT.node (o35 P) (BT.node (o67 P) (BT.node (o131 P) .nil .nil) (BT.node (o195 P) .nil .nil)) (BT.node (o99 P) (BT.node (o163 P) .nil .nil) .nil)) (BT.node (o51 P) (BT.node (o83 P) (BT.node (o147 P) .nil .nil) .nil) (BT.node (o115 P) (BT.node (o179 P) .nil .nil) .nil))) (BT.node (o27 P) (BT.node (o43 P) (BT.node (o75 P) (BT.node (o139 P) .nil .nil) .nil) (BT.node (o107 P) (BT.node (o171 P) .nil .nil) .nil)) (BT.node (o59 P) (BT.node (o91 P) (BT.node (o155 P) .nil .nil) .nil) (BT.node (o123 P) (BT.node (o187 P) .nil .nil) .nil))))) (BT.node (o5 P) (BT.node (o9 P) (BT.node (o17 P) (BT.node (o33 P) (BT.node (o65 P) (BT.node (o129 P) .nil .nil) (BT.node (o193 P) .nil .nil)) (BT.node (o97 P) (BT.node (o161 P) .nil .nil) .nil)) (BT.node (o49 P) (BT.node (o81 P) (BT.node (o145 P) .nil .nil) .nil) (BT.node (o113 P) (BT.node (o177 P) .nil .nil) .nil))) (BT.node (o25 P) (BT.node (o41 P) (BT.node (o73 P) (BT.node (o137 P) .nil .nil) .nil) (BT.node (o105 P) (BT.node (o169 P) .nil .nil) .nil)) (BT.node (o57 P) (BT.node (o89 P) (BT.node (o153 P) .nil .nil) .nil) (BT.node (o121 P) (BT.node (o185 P) .nil .nil) .nil)))) (BT.node (o13 P) (BT.node (o21 P) (BT.node (o37 P) (BT.node (o69 P) (BT.node (o133 P) .nil .nil) (BT.node (o197 P) .nil .nil)) (BT.node (o101 P) (BT.node (o165 P) .nil .nil) .nil)) (BT.node (o53 P) (BT.node (o85 P) (BT.node (o149 P) .nil .nil) .nil) (BT.node (o117 P) (BT.node (o181 P) .nil .nil) .nil))) (BT.node (o29 P) (BT.node (o45 P) (BT.node (o77 P) (BT.node (o141 P) .nil .nil) .nil) (BT.node (o109 P) (BT.node (o173 P) .nil .nil) .nil)) (BT.node (o61 P) (BT.node (o93 P) (BT.node (o157 P) .nil .nil) .nil) (BT.node (o125 P) (BT.node (o189 P) .nil .nil) .nil)))))) (BT.node (o2 P) (BT.node (o4 P) (BT.node (o8 P) (BT.node (o16 P) (BT.node (o32 P) (BT.node (o64 P) (BT.node (o128 P) .nil .nil) (BT.node (o192 P) .nil .nil)) (BT.node (o96 P) (BT.node (o160 P) .nil .nil) .nil)) (BT.node (o48 P) (BT.node (o80 P) (BT.node (o144 P) .nil .nil) .nil) (BT.node (o112 P) (BT.node (o176 P) .nil .nil) .nil))) (BT.node (o24 P) (BT.node (o40 P) (BT.node (o72 P) (BT.node (o136 P) .nil .nil) .nil) (BT.node (o104 P) (BT.node (o168 P) .nil .nil) .nil)) (BT.node (o56 P) (BT.node (o88 P) (BT.node (o152 P) .nil .nil) .nil) (BT.node (o120 P) (BT.node (o184 P) .nil .nil) .nil)))) (BT.node (o12x4 P) (BT.node (o20 P) (BT.node (o36 P) (BT.node (o68 P) (BT.node (o132 P) .nil .nil) (BT.node (o196 P) .nil .nil)) (BT.node (o100 P) (BT.node (o164 P) .nil .nil) .nil)) (BT.node (o52 P) (BT.node (o84 P) (BT.node (o148 P) .nil .nil) .nil) (BT.node (o116 P) (BT.node (o180 P) .nil .nil) .nil))) (BT.node (o28 P) (BT.node (o44 P) (BT.node (o76 P) (BT.node (o140 P) .nil .nil) .nil) (BT.node (o108 P) (BT.node (o172 P) .nil .nil) .nil)) (BT.node (o60 P) (BT.node (o92 P) (BT.node (o156 P) .nil .nil) .nil) (BT.node (o124 P) (BT.node (o188 P) .nil .nil) .nil))))) (BT.node (o6 P) (BT.node (o10 P) (BT.node (o18 P) (BT.node (o34 P) (BT.node (o66 P) (BT.node (o130 P) .nil .nil) (BT.node (o194 P) .nil .nil)) (BT.node (o98 P) (BT.node (o162 P) .nil .nil) .nil)) (BT.node (o50 P) (BT.node (o82 P) (BT.node (o146 P) .nil .nil) .nil) (BT.node (o114 P) (BT.node (o178 P) .nil .nil) .nil))) (BT.node (o26 P) (BT.node (o42 P) (BT.node (o74 P) (BT.node (o138 P) .nil .nil) .nil) (BT.node (o106 P) (BT.node (o170 P) .nil .nil) .nil)) (BT.node (o58 P) (BT.node (o90 P) (BT.node (o154 P) .nil .nil) .nil) (BT.node (o122 P) (BT.node (o186 P) .nil .nil) .nil)))) (BT.node (o14 P) (BT.node (o22 P) (BT.node (o38 P) (BT.node (o70 P) (BT.node (o134 P) .nil .nil) (BT.node (o198 P) .nil .nil)) (BT.node (o102 P) (BT.node (o166 P) .nil .nil) .nil)) (BT.node (o54 P) (BT.node (o86 P) (BT.node (o150 P) .nil .nil) .nil) (BT.node (o118 P) (BT.node (o182 P) .nil .nil) .nil))) (BT.node (o30 P) (BT.node (o46 P) (BT.node (o78 P) (BT.node (o142 P) .nil .nil) .nil) (BT.node (o110 P) (BT.node (o174 P) .nil .nil) .nil)) (BT.node (o62 P) (BT.node (o94 P) (BT.node (o158 P) .nil .nil) .nil) (BT.node (o126 P) (BT.node (o190 P) .nil .nil) .nil)))))))
noncomputable def S4 (w : World) (os : OsState) : SharedT := ⟨T4 w.params, 199, {}, Array.mk [], boot_drawn, 460, os⟩
noncomputable def T5 (P : Params) : BT := (BT.node (o0 P) (BT.node (o1 P) (BT.node (o3 P) (BT.node (o7 P) (BT.node (o15 P) (BT.node (o31 P) (BT.node (o63 P) (BT.node (o127 P) (BT.node (o255 P) .nil .nil) .nil) (BT.node (o191 P) .nil .nil)) (BT.node (o95 P) (BT.node (o159 P) (BT.node (o287 P) .nil .nil) .nil) (BT.node (o223 P) .nil .nil))) (BT.node (o47 P) (BT.node (o79 P) (BT.node (o143 P) (BT.node (o271 P) .nil .nil) .nil) (BT.node (o207 P) .nil .nil)) (BT.node (o111 P) (BT.node (o175 P) .nil .nil) (BT.node (o239 P) .nil .nil)))) (BT.node (o23 P) (BT.node (o39 P) (BT.node (o71 P) (BT.node (o135 P) (BT.node (o263 P) .nil .nil) .nil) (BT.node (o199 P) .nil .nil)) (BT.node (o103 P) (BT.node (o167 P) .nil .nil) (BT.node (o231 P) .nil .nil))) (BT.node (o55 P) (BT.node (o87 P) (BT.node (o151 P) (BT.node (o279 P) .nil .nil) .nil) (BT.node (o215 P) .nil .nil)) (BT.node (o119 P) (BT.node (o183 P) .nil .nil) (BT.node (o247 P) .nil .nil))))) (BT.node (o11 P) (BT.node (o19 P) (BT.node (o35 P) (BT.node (o67 P) (BT.node (o131 P) (BT.node (o259 P) .nil .nil) .nil) (BT.node (o195 P) .nil .nil)) (BT.node (o99 P) (BT.node (o163 P) (BT.node (o291 P) .nil .nil) .nil) (BT.node (o227 P) .nil .nil))) (BT.node (o51 P) (BT.node (o83 P) (BT.node (o147 P) (BT.node (o275 P) .nil .nil) .nil) (BT.node (o211 P) .nil .nil)) (BT.node (o115 P) (BT.node (o179 P) .nil .nil) (BT.node (o243 P) .nil .nil)))) (BT.node (o27 P) (BT.node (o43 P) (BT.node (o75 P) (BT.node (o139 P) (BT.node (o267 P) .nil .nil) .nil) (BT.node (o203 P) .nil .nil)) (BT.node (o107 P) (BT.node (o171 P) .nil .nil) (BT.node (o235 P) .nil .nil))) (BT.node (o59 P) (BT.node (o91 P) (BT.node (o155 P) (BT.node (o283 P) .nil .nil) .nil) (BT.node (o219 P) .nil .nil)) (BT.node (o123 P) (BT.node (o187 P) .nil .nil) (BT.node (o251 P) .nil .nil)))))) (BT.node (o5 P) (BT.node (o9 P) (BT.node (o17 P) (BT.node (o33 P) (BT.node (o65 P) (BT.node (o129 P) (BT.node (o257 P) .nil .nil) .nil) (BT.node (o193 P) .nil .nil)) (BT.node (o97 P) (BT.node (o161 P) (BT.node (o289 P) .nil .nil) .nil) (BT.node (o225 P) .nil .nil))) (BT.node (o49 P) (BT.node (o81 P) (BT.node (o145 P) (BT.node (o273 P) .nil .nil) .nil) (BT.node (o209 P) .nil .nil)) (BT.node (o113 P) (BT.node (o177 P) .nil .nil) (BT.node (o241 P) .nil .nil)))) (BT.node (o25 P) (BT.node (o41 P) (BT.node (o73 P) (BT.node (o137 P) (BT.node (o265 P) .nil .nil) .nil) (BT.node (o201 P) .nil .nil)) (BT.node (o105 P) (BT.node (o169 P) .nil .nil) (BT.node (o233 P) .nil .nil))) (BT.node (o57 P) (BT.node (o89 P) (BT.node (o153 P) (BT.node (o281 P) .nil .nil) .nil) (BT.node (o217 P) .nil .nil)) (BT.node (o121 P) (BT.node (o185 P) .nil .nil) (BT.node (o249 P) .nil .nil))))) (BT.node (o13 P) (BT.node (o21 P) (BT.node (o37 P) (BT.node (o69 P) (BT.node (o133 P) (BT.node (o261 P) .nil .nil) .nil) (BT.node (o197 P) .nil .nil)) (BT.node (o101 P) (BT.node (o165 P) .nil .nil) (BT.node (o229 P) .nil .nil))) (BT.node (o53 P) (BT.node (o85 P) (BT.node (o149 P) (BT.node (o277 P) .nil .nil) .nil) (BT.node (o213 P) .nil .nil)) (BT.node (o117 P) (BT.node (o181 P) .nil .nil) (BT.node (o245 P) .nil .nil)))) (BT.node (o29 P) (BT.node (o45 P) (BT.node (o77 P) (BT.node (o141 P) (BT.node (o269 P) .nil .nil) .nil) (BT.node (o205 P) .nil .nil)) (BT.node (o109 P) (BT.node (o173 P) .nil .nil) (BT.node (o237 P) .nil .nil))) (BT.node (o61 P) (BT.node (o93 P) (BT.node (o157 P) (BT.node (o285 P) .nil .nil) .nil) (BT.node (o221 P) .nil .nil)) (BT.node (o125 P) (BT.node (o189 P) .nil .nil) (BT.node (o253 P) .nil .nil))))))) (BT.node (o2 P) (BT.node (o4 P) (BT.node (o8 P) (BT.node (o16 P) (BT.node (o32 P) (BT.node (o64 P) (BT.node (o128 P) (BT.node (o256 P) .nil .nil) .nil) (BT.node (o192 P) .nil .nil)) (BT.node (o96 P) (BT.node (o160 P) (BT.node (o288 P) .nil .nil) .nil) (BT.node (o224 P) .nil .nil))) (BT.node (o48 P) (BT.node (o80 P) (BT.node (o144 P) (BT.node (o272 P) .nil .nil) .nil) (BT.node (o208 P) .nil .nil)) (BT.node (o112 P) (BT.node (o176 P) .nil .nil) (BT.node (o240 P) .nil .nil)))) (BT.node (o24 P) (BT.node (o40 P) (BT.node (o72 P) (BT.node (o136 P) (BT.node (o264 P) .nil .nil) .nil) (BT.node (o200 P) .nil .nil)) (BT.node (o104 P) (BT.node (o168 P) .nil .nil) (BT.node (o232 P) .nil .nil))) (BT.node (o56 P) (BT.node (o88 P) (BT.node (o152 P) (BT.node (o280 P) .nil .nil) .nil) (BT.node (o216 P) .nil .nil)) (BT.node (o120 P) (BT.node (o184 P) .nil .nil) (BT.node (o248 P) .nil .nil))))) (BT.node (o12 P) (BT.node (o20 P) (BT.node (o36 P) (BT.node (o68 P) (BT.node (o132 P) (BT.node (o260 P) .nil .nil) .nil) (BT.node (o196 P) .nil .nil)) (BT.node (o100 P) (BT.node (o164 P) (BT.node (o292 P) .nil .nil) .nil) (BT.node (o228 P) .nil .nil))) (BT.node (o52 P) (BT.node (o84 P) (BT.node (o148 P) (BT.node (o276 P) .nil .nil) .nil) (BT.node (o212 P) .nil .nil)) (BT.node (o116 P) (BT.node (o180 P) .nil .nil) (BT.node (o244 P) .nil .nil)))) (BT.node (o28 P) (BT.node (o44 P) (BT.node (o76 P) (BT.node (o140 P) (BT.node (o268 P) .nil .nil) .nil) (BT.node (o204 P) .nil .nil)) (BT.node (o108 P) (BT.node (o172 P) .nil .nil) (BT.node (o236 P) .nil .nil))) (BT.node (o60 P) (BT.node (o92 P) (BT.node (o156 P) (BT.node (o284 P) .nil .nil) .nil) (BT.node (o220 P) .nil .nil)) (BT.node (o124 P) (BT.node (o188 P) .nil .nil) (BT.node (o252 P) .nil .nil)))))) (BT.node (o6 P) (BT.node (o10 P) (BT.node (o18 P) (BT.node (o34 P) (BT.node (o66 P) (BT.node (o130 P) (BT.node (o258 P) .nil .nil) .nil) (BT.node (o194 P) .nil .nil)) (BT.node (o98 P) (BT.node (o162 P) (BT.node (o290 P) .nil .nil) .nil) (BT.node (o226 P) .nil .nil))) (BT.node (o50 P) (BT.node (o82 P) (BT.node (o146 P) (BT.node (o274 P) .nil .nil) .nil) (BT.node (o210 P) .nil .nil)) (BT.node (o114 P) (BT.node (o178 P) .nil .nil) (BT.node (o242 P) .nil .nil)))) (BT.node (o26 P) (BT.node (o42 P) (BT.node (o74 P) (BT.node (o138 P) (BT.node (o266 P) .nil .nil) .nil) (BT.node (o202 P) .nil .nil)) (BT.node (o106 P) (BT.node (o170 P) .nil .nil) (BT.node (o234 P) .nil .nil))) (BT.node (o58 P) (BT.node (o90 P) (BT.node (o154 P) (BT.node (o282 P) .nil .nil) .nil) (BT.node (o218 P) .nil .nil)) (BT.node (o122 P) (BT.node (o186 P) .nil .nil) (BT.node (o250 P) .nil .nil))))) (BT.node (o14 P) (BT.node (o22 P) (BT.node (o38 P) (BT.node (o70 P) (BT.node (o134 P) (BT.node (o262 P) .nil .nil) .nil) (BT.node (o198 P) .nil .nil)) (BT.node (o102 P) (BT.node (o166 P) .nil .nil) (BT.node (o230 P) .nil .nil))) (BT.node (o54 P) (BT.node (o86 P) (BT.node (o150 P) (BT.node (o278 P) .nil .nil) .nil) (BT.node (o214 P) .nil .nil)) (BT.node (o118 P) (BT.node (o182 P) .nil .nil) (BT.node (o246 P) .nil .nil)))) (BT.node (o30 P) (BT.node (o46 P) (BT.node (o78 P) (BT.node (o142 P) (BT.node (o270 P) .nil .nil) .nil) (BT.node (o206 P) .nil .nil)) (BT.node (o110 P) (BT.node (o174 P) .nil .nil) (BT.node (o238 P) .nil .nil))) (BT.node (o62 P) (BT.node (o94 P) (BT.node (o158 P) (BT.node (o286 P) .nil .nil) .nil) (BT.node (o222 P) .nil .nil)) (BT.node (o126 P) (BT.node (o190 P) .nil .nil) (BT.node (o254 P) .nil .nil))))))))
noncomputable def S5 (w : World) (os : OsState) : SharedT := ⟨T5 w.params, 293, {}, Array.mk [], boot_drawn, 591, os⟩
def l1 : List Stmt := (bT.drop 0).take 2
abbrev n1 : Nat := 285
def p1 : Pos := { line := 2, col := 0, endLine := 9, endCol := 24 }
def l2 : List Stmt := (bT.drop 2).take 1
abbrev n2 : Nat := 294
def p2 : Pos := { line := 10, col := 0, endLine := 17, endCol := 55 }
def l3 : List Stmt := (bT.drop 3).take 15
abbrev n3 : Nat := 276
def p3 : Pos := { line := 46, col := 0, endLine := 50, endCol := 16 }
def l4 : List Stmt := (bT.drop 18).take 1
abbrev n4 : Nat := 555
def p4 : Pos := { line := 51, col := 0, endLine := 165, endCol := 74 }
def l5 : List Stmt := (bT.drop 19).take 15
abbrev n5 : Nat := 443
def p5 : Pos := { line := 265, col := 0, endLine := 275, endCol := 117 }
def pA : Pos := { line := 0, col := 0, endLine := 0, endCol := 0 }
def p0 : Pos := { line := 0, col := 0, endLine := 0, endCol := 0 }
def qT : Pos := { line := 0, col := 0, endLine := 0, endCol := 0 }
def annT : Option Value := Option.some (PySem.Value.ref 6)
-- code PySem.Value.ref 13 frame 14 m0 11 pre 12 fin 1 toks 591 finpos { line := 265, col := 0, endLine := 275, endCol := 117 } block 0 187
theorem pre (w : World) (os : OsState) : topGo treeTable pw w 11 annT 12 (bootS w os) (topStub pw) = some ((S0 w os).abs, ⟨denote treeTable cT, cT, pA, [topFrame qT]⟩) := by
  rw [PySem.W.Fast.te15667345088766844465, PySem.W.Fast.te14364793385576792824, PySem.W.Fast.te11892475500146522536]
  kernel_rfl
theorem blk (w : World) (os : OsState) : segRun treeTable pw w 11 annT 1 1 (S0 w os).abs (blockOf bT envT cT pA [topFrame qT]) = some (.next, (S0 w os).abs, cT, p0) := by
  rw [PySem.W.Fast.te14374325043358763698, PySem.W.Fast.te14364793385576792824]
  kernel_rfl
theorem g1 (w : World) (os : OsState) : segRunT treeTable pw w 11 annT 1 n1 (S0 w os) (piecesOf l1 envT cT p0 [topFrame qT]) = some (.next, S1 w os, cT, p1) := by
  unfold piecesOf
  rw [PySem.W.Fast.te10110043849684766642, PySem.W.Fast.te14364793385576792824, PySem.W.Fast.te12563942051412417395]
  kernel_rfl
theorem g2 (w : World) (os : OsState) : segRunT treeTable pw w 11 annT 1 n2 (S1 w os) (piecesOf l2 envT cT p1 [topFrame qT]) = some (.next, S2 w os, cT, p2) := by
  unfold piecesOf
  rw [PySem.W.Fast.te10110043849684766642, PySem.W.Fast.te14364793385576792824, PySem.W.Fast.te12563942051412417395]
  kernel_rfl
theorem g3 (w : World) (os : OsState) : segRunT treeTable pw w 11 annT 1 n3 (S2 w os) (piecesOf l3 envT cT p2 [topFrame qT]) = some (.next, S3 w os, cT, p3) := by
  unfold piecesOf
  rw [PySem.W.Fast.te10110043849684766642, PySem.W.Fast.te14364793385576792824, PySem.W.Fast.te12563942051412417395]
  kernel_rfl
theorem g4 (w : World) (os : OsState) : segRunT treeTable pw w 11 annT 1 n4 (S3 w os) (piecesOf l4 envT cT p3 [topFrame qT]) = some (.next, S4 w os, cT, p4) := by
  unfold piecesOf
  rw [PySem.W.Fast.te10110043849684766642, PySem.W.Fast.te14364793385576792824, PySem.W.Fast.te12563942051412417395]
  kernel_rfl
theorem g5 (w : World) (os : OsState) : segRunT treeTable pw w 11 annT 1 n5 (S4 w os) (piecesOf l5 envT cT p4 [topFrame qT]) = some (.next, S5 w os, cT, p5) := by
  unfold piecesOf
  rw [PySem.W.Fast.te10110043849684766642, PySem.W.Fast.te14364793385576792824, PySem.W.Fast.te12563942051412417395]
  kernel_rfl
theorem whole : bT = l1 ++ (l2 ++ (l3 ++ (l4 ++ (l5 ++ [])))) := by kernel_rfl
theorem fin (w : World) (os : OsState) : topRun treeTable pw w 11 annT 2 (S5 w os).abs ⟨doneF .next, cT, p5, [topFrame qT]⟩ = some (S5 w os).abs := by
  rw [PySem.W.Fast.te14082659384304107361, PySem.W.Fast.te14364793385576792824]
  kernel_rfl
theorem run (w : World) (os : OsState) : topRun treeTable pw w 11 annT (12 + (1 + (n1 + (n2 + (n3 + (n4 + (n5 + (2)))))))) (bootS w os) (topStub pw) = some (S5 w os).abs := by
  refine go_top (pre w os) ?_
  refine piece_block (blk w os) ?_
  rw [whole]
  refine piece_app (segRun_of (g1 w os)) ?_
  refine piece_app (segRun_of (g2 w os)) ?_
  refine piece_app (segRun_of (g3 w os)) ?_
  refine piece_app (segRun_of (g4 w os)) ?_
  refine piece_app (segRun_of (g5 w os)) ?_
  exact piece_nil (fin w os)
theorem size (w : World) (os : OsState) : ((bootS w os).heap.isNs mainGlobals && (bootS w os).gens.size == 0, (bootS w os).heap.objs.size, (bootS w os).heap.nsMap mainGlobals "__annotations__") = (true, 11, annT) := by kernel_rfl
theorem looks (w : World) (os : OsState) : (staticsOk (importedModules pw.main.body) (bootS w os).heap (S5 w os).abs.heap && namesBound pw (S5 w os).abs.heap && gensDone (S5 w os).abs && laidKept (bootS w os).heap (S5 w os).abs.heap) = true := by kernel_rfl
theorem from_ (w : World) (os : OsState) : topFrom treeTable pw w 3822 (bootS w os) = some (S5 w os).abs := by
  have r := topRun_mono (3822 - (12 + (1 + (n1 + (n2 + (n3 + (n4 + (n5 + (2))))))))) _ _ _ _ (run w os)
  obtain ⟨z1, z2, z3⟩ : _ ∧ _ ∧ _ := by simpa only [Prod.mk.injEq] using size w os
  unfold topFrom
  rw [z1, z2, z3]
  show (Option.bind (topRun treeTable pw w 11 annT 3822 (bootS w os) (topStub pw)) _) = _
  rw [show topRun treeTable pw w 11 annT 3822 (bootS w os) (topStub pw) = some (S5 w os).abs from r]
  show (match staticsOk (importedModules pw.main.body) (bootS w os).heap (S5 w os).abs.heap && namesBound pw (S5 w os).abs.heap && gensDone (S5 w os).abs && laidKept (bootS w os).heap (S5 w os).abs.heap with | true => _ | false => _) = _
  rw [looks w os]
theorem seenT (w : World) (os : OsState) : openSeen vw [Str.ofString "SIMPLE"] (importedModules pw.main.body) (fun _ => true) true (S5 w os).abs = openGood vw [Str.ofString "SIMPLE"] := by
  rw [PySem.W.Fast.te4187177175401517315]
  kernel_rfl
end Rn
theorem left_seen (w : World) (os : OsState) : (topFrom treeTable PySem.Challenge.pw_qz0009_01 w 3822 (bootS w os)).map (openSeen vw [Str.ofString "SIMPLE"] (importedModules PySem.Challenge.pw_qz0009_01.main.body) (fun _ => true) true) = some (openGood vw [Str.ofString "SIMPLE"]) :=
  (congrArg (Option.map _) (Rn.from_ w os)).trans (congrArg some (Rn.seenT w os))
theorem left_rest {X : Shared → Bool} {α : Type} {Y : Shared → α} {a : World → α} (h : ∀ w os, X (Rn.S5 w os).abs = true ∧ Y (Rn.S5 w os).abs = a w) (w : World) (os : OsState) :
    (topFrom treeTable PySem.Challenge.pw_qz0009_01 w 3822 (bootS w os)).map (fun s => (X s, Y s)) = some (true, a w) := by
  rw [Rn.from_ w os]
  exact congrArg some (Prod.ext (h w os).1 (h w os).2)
end Mine
section
local macro_rules
  | `(tactic| o_head $H) => `(tactic| (
    refine holds_open (q := Mine.vw) (loose := [Str.ofString "SIMPLE"])
      (Xt := fun s => xlAt Mine.vw [(Str.ofString "SIMPLE", WData.str (Str.mk (List.toArray (97 :: 98 :: 99 :: 100 :: 101 :: 102 :: 103 :: 104 :: 105 :: 106 :: 107 :: 108 :: 109 :: 110 :: 111 :: 112 :: 113 :: 114 :: 115 :: 116 :: 117 :: 118 :: 119 :: 120 :: 121 :: 122 :: 65 :: 66 :: 67 :: 68 :: 69 :: 70 :: 71 :: 72 :: 73 :: 74 :: 75 :: 76 :: 77 :: 78 :: 79 :: 80 :: 81 :: 82 :: 83 :: 84 :: 85 :: 86 :: 87 :: 88 :: 89 :: 90 :: 48 :: 49 :: 50 :: 51 :: 52 :: 53 :: 54 :: 55 :: 56 :: 57 :: 126 :: 33 :: 64 :: 36 :: 37 :: 94 :: 38 :: 42 :: 95 :: 45 :: 43 :: 61 :: 60 :: 62 :: 46 :: 63 :: 47 :: []))))] s && recOk (RowW.records (OpenRow.toRowW (OpenLaw.row PySem.Challenge.rw_qz0009_01))) s)
      (XP := XL Mine.vw [(Str.ofString "SIMPLE", WData.str (Str.mk (List.toArray (97 :: 98 :: 99 :: 100 :: 101 :: 102 :: 103 :: 104 :: 105 :: 106 :: 107 :: 108 :: 109 :: 110 :: 111 :: 112 :: 113 :: 114 :: 115 :: 116 :: 117 :: 118 :: 119 :: 120 :: 121 :: 122 :: 65 :: 66 :: 67 :: 68 :: 69 :: 70 :: 71 :: 72 :: 73 :: 74 :: 75 :: 76 :: 77 :: 78 :: 79 :: 80 :: 81 :: 82 :: 83 :: 84 :: 85 :: 86 :: 87 :: 88 :: 89 :: 90 :: 48 :: 49 :: 50 :: 51 :: 52 :: 53 :: 54 :: 55 :: 56 :: 57 :: 126 :: 33 :: 64 :: 36 :: 37 :: 94 :: 38 :: 42 :: 95 :: 45 :: 43 :: 61 :: 60 :: 62 :: 46 :: 63 :: 47 :: []))))])
      (Yf := Hook.obs $H) (Ya := Hook.val $H) (YP := Hook.says $H) (N := 3822)
      (Mine.left_two rfl (by kernel_rfl) (by decide +kernel) (by intro s; kernel_rfl) Mine.left_seen (Mine.left_rest (fun w os => ⟨by kernel_rfl, by kernel_rfl⟩)))
      (Hook.of $H) (Hook.keeps $H) (fun s e => xl_of s (Bool.and_eq_true_iff.mp e).1) XL.keeps (by rfl) (by rfl) (by rfl)
      (fun s e => recFacts_of (Bool.and_eq_true_iff.mp e).2) (by rfl) (by assumption) (by decide +kernel) ⟨rfl, rfl, rfl, rfl, rfl, by decide +kernel⟩ ?hw ?hc))
namespace Mine
set_option maxRecDepth 100000 in
set_option maxHeartbeats 8000000 in
open_top hd for PySem.Challenge.rw_qz0009_01
end Mine
end
end

-- part C0
section
open PySem PySem.W PyProof.Rows PySem.Calls PySem.Spec
namespace Mine

abbrev Led := List (Addr × Obj)
abbrev Mean := ExcName → Option Value
abbrev Nm := Str → Option Value

/-- the contract of a call from inside a def's frame -/
abbrev Cl (w : World) (mean : Mean) (mg mb : Nm) (dep : Nat) (f : Addr) (vs : List Value) (news : Led)
    (Ret : Heap → Addr → Nm → Shared → (Value → Shared → Prop) → Prop) : Prop :=
  ∀ (dp un : Nat) (gd : Option (List Code)) (cn : Str) (cs : Scope) (a : Addr) (ccd : Value) (cl : List (Str × Addr)) (outer : List Env) (A₀ : Around) (base h₀ : Heap) (L : Addr) (m : Nm) (s : Shared) (Q E : Value → Shared → Prop),
    Below A₀ base outer h₀ → Fr h₀ L s.heap m → (Mine.hd.heap_39 w.params).In h₀ → News h₀ L s.heap news →
    Top Mine.vw (looseW Mine.vw [Str.ofString "SIMPLE"]) mean mg mb h₀ → cs.kind = .function →
    dp + dep < recursionLimit → un + 8 * dep < cLine → Ret h₀ L m s Q →
    wpAny (model PySem.Challenge.rw_qz0009_01.row.prog w) (ktrTop dp un gd cn cs L a ccd cl outer) (call (.ref f) vs) Q E s

/-- a value comes back, the ledger as it was -/
abbrev RetV (news : Led) (R : Tok → Value) (h₀ : Heap) (L : Addr) (m : Nm) (s : Shared) (Q : Value → Shared → Prop) : Prop :=
  ∀ (t : Tok) (h' : Heap) (tk' : Nat), Fr h₀ L h' m → News h₀ L h' news → Q (R t) { s with heap := h', toks := tk' }

abbrev tupO (vs : List Value) : Obj := { cls := .type "tuple", data := .seq vs.toArray }

/-- a new pair of ints comes back -/
abbrev RetP (news : Led) (x y : Int) (h₀ : Heap) (L : Addr) (m : Nm) (s : Shared) (Q : Value → Shared → Prop) : Prop :=
  ∀ (q : Addr) (t u : Tok) (h' : Heap) (tk' : Nat), Fr h₀ L h' m → News h₀ L h' ((q, tupO [.int x t, .int y u]) :: news) → (∀ p ∈ news, p.1 < q) → Q (.ref q) { s with heap := h', toks := tk' }

theorem retP {h₀ h' : Heap} {L : Addr} {m : Nm} {news : Led} {s : Shared} {Q : Value → Shared → Prop} {x y x' y' : Int} {q : Addr} {t u : Tok} {tk' : Nat} (hret : RetP news x y h₀ L m s Q)
    (e1 : x' = x) (e2 : y' = y) (F : Fr h₀ L h' m) (N : News h₀ L h' ((q, tupO [.int x' t, .int y' u]) :: news)) (hl : ∀ p ∈ news, p.1 < q) : Q (.ref q) { s with heap := h', toks := tk' } := by
  subst e1; subst e2
  exact hret q t u h' tk' F N hl

theorem cl_use {w : World} {mean : Mean} {mg mb : Nm} {dep : Nat} {f : Addr} {vs : List Value} {news : Led} {Ret : Heap → Addr → Nm → Shared → (Value → Shared → Prop) → Prop}
    {dp un : Nat} {gd : Option (List Code)} {cn : Str} {cs : Scope} {a : Addr} {ccd : Value} {cl : List (Str × Addr)} {outer : List Env} {A₀ : Around} {base h₀ : Heap} {L : Addr} {m : Nm} {s : Shared} {Q E : Value → Shared → Prop}
    (C : Cl w mean mg mb dep f vs news Ret)
    (B : Below A₀ base outer h₀) (F : Fr h₀ L s.heap m) (X : (Mine.hd.heap_39 w.params).In h₀) (N : News h₀ L s.heap news)
    (T : Top Mine.vw (looseW Mine.vw [Str.ofString "SIMPLE"]) mean mg mb h₀) (hk : cs.kind = .function)
    (hd : dp + dep < recursionLimit) (hu : un + 8 * dep < cLine) (ret : Ret h₀ L m s Q) :
    wpAny (model PySem.Challenge.rw_qz0009_01.row.prog w) (ktrTop dp un gd cn cs L a ccd cl outer) (call (.ref f) vs) Q E s :=
  C dp un gd cn cs a ccd cl outer A₀ base h₀ L m s Q E B F X N T hk hd hu ret

/-- a natural number that is small for the machine's big-int rules -/
structure Sm (x : Int) : Prop where
  lo : 0 ≤ x
  hi : ∃ k : Nat, k ≤ 4000 ∧ x < 2 ^ k
theorem log2_of {x : Int} {k : Nat} (h0 : 0 ≤ x) (h : x < 2 ^ k) (hk : 0 < k) : x.natAbs.log2 < k := by
  obtain ⟨n, rfl⟩ := Int.eq_ofNat_of_zero_le h0
  rw [Int.natAbs_natCast]
  by_cases h0 : n = 0
  · subst h0
    rw [Nat.log2_zero]
    exact hk
  · refine (Nat.log2_lt h0).mpr ?_
    have e : ((2 ^ k : Nat) : Int) = 2 ^ k := by push_cast; rfl
    rw [← e] at h
    exact Int.ofNat_lt.mp h
theorem Sm.log {x : Int} (h : Sm x) : x.natAbs.log2 < 9000 := by
  obtain ⟨k, hk, h2⟩ := h.hi
  by_cases h0 : k = 0
  · subst h0
    have := h.lo
    have e : x = 0 := by omega
    subst e
    decide
  · exact Nat.lt_of_lt_of_le (log2_of h.lo h2 (by omega)) (by omega)
theorem Sm.bits {x : Int} (h : Sm x) : Builtin.Int.intBits x ≤ 2 ^ 20 := by
  have h2 := h.log
  unfold Builtin.Int.intBits
  split
  · exact Nat.zero_le _
  · have e : (2 : Nat) ^ 20 = 1048576 := by decide
    omega
theorem mul_ok {a b : Int} (ha : Sm a) (hb : Sm b) : IntMulOk a b := PySem.IntMulOk.of_bits ha.bits hb.bits
theorem Sm.le {x y : Int} (h : Sm y) (h0 : 0 ≤ x) (hxy : x ≤ y) : Sm x := by
  obtain ⟨k, hk, h2⟩ := h.hi
  exact ⟨h0, k, hk, by omega⟩
end Mine
end

-- part C1
section
open PySem PySem.W PyProof.Rows PySem.Calls PySem.Spec
namespace Mine
local macro_rules | `(tactic| walk_at "binaryOp FloorDiv int int") => `(tactic| (k_here; (with_reducible refine floordiv_int ?kbe ?_ (Or.inl (PyProof.noPylong_of_log2 ?kbp))); (case kbe => assumption); (case kbp => assumption)))

theorem gcd_mod' {a b : Int} (ha : 0 ≤ a) (hb : 0 ≤ b) : Int.gcd b (a % b) = Int.gcd a b := by
  obtain ⟨m, rfl⟩ := Int.eq_ofNat_of_zero_le ha
  obtain ⟨n, rfl⟩ := Int.eq_ofNat_of_zero_le hb
  have e : ((m : Int) % (n : Int)) = ((m % n : Nat) : Int) := by omega
  rw [e]
  simp only [Int.gcd, Int.natAbs_natCast]
  rw [Nat.gcd_comm n, ← Nat.gcd_rec, Nat.gcd_comm]
theorem gcd_step {a b : Int} {g : Nat} (ha : 0 ≤ a) (hb : 0 ≤ b) (h : Int.gcd a b = g) (h0 : b ≠ 0) : 0 ≤ b ∧ 0 ≤ a.fmod b ∧ Int.gcd b (a.fmod b) = g := by
  refine ⟨hb, Int.fmod_nonneg_of_pos _ (by omega), ?_⟩
  rw [Int.fmod_eq_emod_of_nonneg _ hb, ← h]
  exact gcd_mod' ha hb
theorem gcd_less {a b : Int} (hb : 0 ≤ b) (h0 : b ≠ 0) : (a.fmod b).toNat < b.toNat := by
  have h1 := Int.fmod_lt_of_pos a (show 0 < b by omega)
  have h2 := Int.fmod_nonneg_of_pos a (show 0 < b by omega)
  omega
theorem gcd_end {a b : Int} {g : Nat} (ha : 0 ≤ a) (h : Int.gcd a b = g) (hb : b = 0) : a = (g : Int) := by
  subst hb; rw [Int.gcd_zero_right] at h; omega

set_option maxRecDepth 100000 in
set_option maxHeartbeats 8000000 in
theorem c_common (w : World) (mean : Mean) (mg mb : Nm) (news : Led) (x y : Int) (t u : Tok) (hx : 0 ≤ x) (hy : 0 ≤ y) :
    Cl w mean mg mb 1 247 [.int x t, .int y u] news (RetV news (fun t => .int (Int.gcd x y) t)) := by
  dsimp only [Cl, RetV]
  w_top off
  k_fill
  intro dp un gd cn cs a ccd cl outer A₀ base h₀ L m s Q E B F X N T hk hd hu hret
  refine wpAny_call ?_
  k_dflt ktr_enter
  k_with_none
  k_with "exec While Compare cons nil" => k_while_given ["one!", "other!"] (fun x y script a b => 0 ≤ a ∧ 0 ≤ b ∧ Int.gcd a b = Int.gcd x y) (fun x y script a b => b.toNat) "one" "other"
  k_with "state" => exact gcd_step (by assumption) (by assumption) (by assumption) (by assumption)
  k_with "measure" => exact gcd_less (by assumption) (by assumption)
  k_steps
  all_goals exact cb_retI hret (gcd_end (by assumption) (by assumption) (by assumption)) (by assumption) (by assumption)

theorem eq_trans' {a b x y : Int} (h : Int.gcd a b = Int.gcd (if x < 0 then -x else x) (if y < 0 then -y else y)) (hx : 0 ≤ x) (hy : 0 ≤ y) : Int.gcd a b = Int.gcd x y := by
  rw [if_neg (by omega), if_neg (by omega)] at h; exact h

set_option maxRecDepth 100000 in
set_option maxHeartbeats 8000000 in
theorem c_gcd (w : World) (mean : Mean) (mg mb : Nm) (news : Led) (x y : Int) (t u : Tok) (hx : 0 ≤ x) (hy : 0 ≤ y) :
    Cl w mean mg mb 1 78 [.int x t, .int y u] news (RetV news (fun t => .int (Int.gcd x y) t)) := by
  dsimp only [Cl, RetV]
  w_top off
  k_fill
  intro dp un gd cn cs a ccd cl outer A₀ base h₀ L m s Q E B F X N T hk hd hu hret
  refine wpAny_call ?_
  k_dflt ktr_enter
  k_with_none
  k_with "exec While Compare cons nil" => k_while_given ["a!", "b!"] (fun x y script a b => 0 ≤ a ∧ 0 ≤ b ∧ Int.gcd a b = Int.gcd x y) (fun x y script a b => b.toNat) "a" "b"
  k_with "state" => first | exact gcd_step (by assumption) (by assumption) (by assumption) (by assumption) | exact ⟨by split <;> omega, by split <;> omega, rfl⟩
  k_with "measure" => exact gcd_less (by assumption) (by assumption)
  k_steps
  all_goals exact cb_retI hret (gcd_end (by assumption) (eq_trans' (by assumption) hx hy) (by assumption)) (by assumption) (cb_drop (by assumption) (fun p hp => List.mem_cons_of_mem _ hp))


/-- the top of x/y in lowest terms (and the bottom of y/x) -/
def lowI (x y : Int) : Int := x / (Int.gcd x y : Int)
theorem lowI_of {x y : Int} (_ : 0 < y) : x.fdiv (Int.gcd x y : Int) = lowI x y := by
  rw [Int.fdiv_eq_ediv_of_nonneg _ (by omega)]; rfl
theorem lowI_of' {x y : Int} (_ : 0 < y) : y.fdiv (Int.gcd x y : Int) = lowI y x := by
  rw [Int.fdiv_eq_ediv_of_nonneg _ (by omega), Int.gcd_comm]; rfl
theorem gcd_sm {x y : Int} (h : 0 < y) (hy : Sm y) : (Int.gcd x y : Int).natAbs.log2 < 9000 :=
  (hy.le (by omega) (Int.le_of_dvd h (Int.gcd_dvd_right ..))).log
theorem gcd_ne {x y : Int} (h : 0 < y) : (Int.gcd x y : Int) ≠ 0 := by
  have := Int.gcd_pos_of_ne_zero_right x (show y ≠ 0 by omega)
  omega

set_option maxRecDepth 100000 in
set_option maxHeartbeats 8000000 in
theorem c_lowest (w : World) (mean : Mean) (mg mb : Nm) (news : Led) (x y : Int) (t u : Tok) (hx : 0 ≤ x) (hy : 0 < y) (hs : Sm y) :
    Cl w mean mg mb 2 254 [.int x t, .int y u] news (RetP news (lowI x y) (lowI y x)) := by
  dsimp only [Cl]
  w_top off
  k_fill
  intro dp un gd cn cs a ccd cl outer A₀ base h₀ L m s Q E B F X N T hk hd hu hret
  have hg := gcd_ne (x := x) hy
  have hg2 := gcd_sm (x := x) hy hs
  refine wpAny_call ?_
  k_dflt ktr_enter
  k_with_none
  k_with "call ref" => (k_here; refine' cl_use (c_common _ _ _ _ _ _ _ _ _ ?kx ?ky) ?k1 ?k2 ?k3 ?k4 ?k5 ?kK ?kd ?ku ?_; (case k1 => k_asm); (case k2 => k_asm); (case k3 => k_asm); (case k4 => k_asm); (case k5 => k_asm); (case kK => first | exact rfl | assumption); (case kd => ktr_room); (case ku => ktr_units); (case kx => omega); (case ky => omega); intro t9 h9 tk9 F9 N9; (try dsimp only); (try k_fold))
  k_steps
  all_goals first | (exfalso; omega) | exact retP hret (lowI_of hy) (lowI_of' hy) (by assumption) (by assumption) (by assumption)

set_option maxRecDepth 100000 in
set_option maxHeartbeats 8000000 in
theorem c_ratio (w : World) (mean : Mean) (mg mb : Nm) (news : Led) (x y : Int) (t u : Tok) (hx : 0 ≤ x) (hy : 0 < y) (hs : Sm y) :
    Cl w mean mg mb 2 85 [.int x t, .int y u] news (RetP news (lowI x y) (lowI y x)) := by
  dsimp only [Cl]
  w_top off
  k_fill
  intro dp un gd cn cs a ccd cl outer A₀ base h₀ L m s Q E B F X N T hk hd hu hret
  have hg := gcd_ne (x := x) hy
  have hg2 := gcd_sm (x := x) hy hs
  have hy0 : y ≠ 0 := by omega
  have hy1 : ¬ y < 0 := by omega
  refine wpAny_call ?_
  k_dflt ktr_enter
  k_with_none
  k_with "call ref" => (k_here; refine' cl_use (c_gcd _ _ _ _ _ _ _ _ _ ?kx ?ky) ?k1 ?k2 ?k3 ?k4 ?k5 ?kK ?kd ?ku ?_; (case k1 => k_asm); (case k2 => k_asm); (case k3 => k_asm); (case k4 => k_asm); (case k5 => k_asm); (case kK => first | exact rfl | assumption); (case kd => ktr_room); (case ku => ktr_units); (case kx => omega); (case ky => omega); intro t9 h9 tk9 F9 N9; (try dsimp only); (try k_fold))
  k_steps
  all_goals first | (exfalso; omega) | exact retP hret (lowI_of hy) (lowI_of' hy) (by assumption) (by assumption) (by assumption)
end Mine
end

-- part M1
section
namespace Mine

theorem uniq2 : ∀ (i k a b : Nat), a % 2 = 1 → b % 2 = 1 → a * 2 ^ i = b * 2 ^ k → i = k ∧ a = b
  | 0, 0, a, b, _, _, h => ⟨rfl, by simpa using h⟩
  | 0, k + 1, a, b, ha, _, h => by
    rw [Nat.pow_succ, ← Nat.mul_assoc] at h
    generalize b * 2 ^ k = c at h
    simp only [Nat.pow_zero, Nat.mul_one] at h
    omega
  | i + 1, 0, a, b, _, hb, h => by
    rw [Nat.pow_succ, ← Nat.mul_assoc] at h
    generalize a * 2 ^ i = c at h
    simp only [Nat.pow_zero, Nat.mul_one] at h
    omega
  | i + 1, k + 1, a, b, ha, hb, h => by
    rw [Nat.pow_succ, ← Nat.mul_assoc, Nat.pow_succ, ← Nat.mul_assoc] at h
    have := uniq2 i k a b ha hb (Nat.eq_of_mul_eq_mul_right (by decide) h)
    exact ⟨by omega, this.2⟩
theorem uniq5 : ∀ (i k a b : Nat), a % 5 ≠ 0 → b % 5 ≠ 0 → a * 5 ^ i = b * 5 ^ k → i = k ∧ a = b
  | 0, 0, a, b, _, _, h => ⟨rfl, by simpa using h⟩
  | 0, k + 1, a, b, ha, _, h => by
    rw [Nat.pow_succ, ← Nat.mul_assoc] at h
    generalize b * 5 ^ k = c at h
    simp only [Nat.pow_zero, Nat.mul_one] at h
    omega
  | i + 1, 0, a, b, _, hb, h => by
    rw [Nat.pow_succ, ← Nat.mul_assoc] at h
    generalize a * 5 ^ i = c at h
    simp only [Nat.pow_zero, Nat.mul_one] at h
    omega
  | i + 1, k + 1, a, b, ha, hb, h => by
    rw [Nat.pow_succ, ← Nat.mul_assoc, Nat.pow_succ, ← Nat.mul_assoc] at h
    have := uniq5 i k a b ha hb (Nat.eq_of_mul_eq_mul_right (by decide) h)
    exact ⟨by omega, this.2⟩
theorem odd5 (j : Nat) : 5 ^ j % 2 = 1 := by
  induction j with
  | zero => rfl
  | succ j ih => rw [Nat.pow_succ]; omega
theorem oddm {d j : Nat} (h : d % 2 = 1) : (d * 5 ^ j) % 2 = 1 := by
  rw [Nat.mul_mod, h, odd5]
/-- twos, fives and the rest of a number are determined -/
theorem uniq {d e i j k l : Nat} (d2 : d % 2 = 1) (d5 : d % 5 ≠ 0) (e2 : e % 2 = 1) (e5 : e % 5 ≠ 0) (h : d * 5 ^ j * 2 ^ i = e * 5 ^ l * 2 ^ k) : i = k ∧ j = l ∧ d = e := by
  obtain ⟨h1, h2⟩ := uniq2 i k _ _ (oddm d2) (oddm e2) h
  obtain ⟨h3, h4⟩ := uniq5 j l _ _ d5 e5 h2
  exact ⟨h1, h3, h4⟩

def Ten (b : Int) : Prop := ∃ i j : Nat, b = ((5 ^ j * 2 ^ i : Nat) : Int)
open Classical in
/-- the number of figures behind the point; -1: no end -/
noncomputable def places (b : Int) : Int :=
  if h : Ten b then max 1 (max (h.choose : Int) (h.choose_spec.choose : Int)) else -1

theorem places_fin (i j : Nat) : places ((5 ^ j * 2 ^ i : Nat) : Int) = max 1 (max (i : Int) (j : Int)) := by
  have h : Ten ((5 ^ j * 2 ^ i : Nat) : Int) := ⟨i, j, rfl⟩
  have key : ∀ k l : Nat, 5 ^ j * 2 ^ i = 5 ^ l * 2 ^ k → (max 1 (max (k : Int) (l : Int)) : Int) = max 1 (max (i : Int) (j : Int)) := by
    intro k l e
    have u := uniq (d := 1) (e := 1) (i := i) (j := j) (k := k) (l := l) (by decide) (by decide) (by decide) (by decide) (by rw [Nat.one_mul, Nat.one_mul]; exact e)
    rw [u.1, u.2.1]
  unfold places
  rw [dif_pos h]
  exact key _ _ (Int.ofNat_inj.mp h.choose_spec.choose_spec)
theorem places_inf {b : Int} (h : ¬ Ten b) : places b = -1 := by
  unfold places
  rw [dif_neg h]
theorem not_ten {d i j : Nat} (d2 : d % 2 = 1) (d5 : d % 5 ≠ 0) (h1 : d ≠ 1) : ¬ Ten ((d * 5 ^ j * 2 ^ i : Nat) : Int) := by
  rintro ⟨k, l, e⟩
  have e' := Int.ofNat_inj.mp e
  have u := uniq (d := d) (e := 1) (i := i) (j := j) (k := k) (l := l) d2 d5 (by decide) (by decide) (by rw [Nat.one_mul]; exact e')
  exact h1 u.2.2
end Mine
end

-- part C2
section
open PySem PySem.W PyProof.Rows PySem.Calls PySem.Spec
namespace Mine

theorem turn_p {p : Int} (hp : 2 ≤ p) {B b k : Int} (h0 : 0 < b) (h1 : 0 ≤ k) (hB : B = b * p ^ k.toNat) (hm : b.fmod p = 0) :
    0 < b.fdiv p ∧ 0 ≤ k + 1 ∧ B = b.fdiv p * p ^ (k + 1).toNat := by
  rw [Int.fmod_eq_emod_of_nonneg _ (by omega)] at hm
  rw [Int.fdiv_eq_ediv_of_nonneg _ (by omega)]
  have e : b = p * (b / p) := (Int.mul_ediv_cancel' (Int.dvd_of_emod_eq_zero hm)).symm
  generalize hq : b / p = q at e
  refine ⟨?_, by omega, ?_⟩
  · subst e
    exact Int.pos_of_mul_pos_right h0 (by omega)
  · have e2 : (k + 1).toNat = k.toNat + 1 := by omega
    rw [hB, e2, Int.pow_succ, e, Int.mul_comm p q, Int.mul_assoc, Int.mul_comm p]
theorem less_p {p : Int} (hp : 2 ≤ p) {b : Int} (h0 : 0 < b) : (b.fdiv p).toNat < b.toNat := by
  rw [Int.fdiv_eq_ediv_of_nonneg _ (by omega)]
  have h := Int.ediv_lt_self_of_pos_of_ne_one h0 (show p ≠ 1 by omega)
  have h2 := Int.ediv_nonneg (show 0 ≤ b by omega) (show 0 ≤ p by omega)
  omega

theorem max3_N {prog : Program} {w : World} {A : Around} {E : Value → Shared → Prop} {s : Shared} {h₀ : Heap} {L : Addr} {m : Nm} {news : Led} {a b c : Int} {t u x : Tok} {Q : Value → Shared → Prop} (hh : A.handled = none) (F : Fr h₀ L s.heap m) (N : News h₀ L s.heap news)
    (h : ∀ h' tk tok, Fr h₀ L h' m → News h₀ L h' news → Q (.int (max a (max b c)) tok) { s with heap := h', toks := tk }) :
    wpAny (model prog w) A (call (.builtin "max") [.int a t, .int b u, .int c x]) Q E s :=
  PySem.max_three_ints hh fun h' tk hk => by
    have q := fun tok => h h' tk tok (F.grownK hk) (N.grown hk)
    by_cases c1 : b > a
    · rw [if_pos c1]
      by_cases c2 : c > b
      · rw [if_pos c2]
        have e : max a (max b c) = c := by omega
        rw [e] at q; exact q _
      · rw [if_neg c2]
        have e : max a (max b c) = b := by omega
        rw [e] at q; exact q _
    · rw [if_neg c1]
      by_cases c2 : c > a
      · rw [if_pos c2]
        have e : max a (max b c) = c := by omega
        rw [e] at q; exact q _
      · rw [if_neg c2]
        have e : max a (max b c) = a := by omega
        rw [e] at q; exact q _

theorem places_none {x b c k l : Int} (h0 : 0 < c) (hx : x = b * 2 ^ k.toNat) (hb : b = c * 5 ^ l.toNat) (b2 : b.fmod 2 ≠ 0) (c5 : c.fmod 5 ≠ 0) (c1 : c ≠ 1) : -1 = places x := by
  rw [Int.fmod_eq_emod_of_nonneg _ (by omega)] at b2 c5
  obtain ⟨d, rfl⟩ := Int.eq_ofNat_of_zero_le (show 0 ≤ c by omega)
  have e : x = ((d * 5 ^ l.toNat * 2 ^ k.toNat : Nat) : Int) := by rw [hx, hb]; push_cast; rfl
  have eb : b = ((d * 5 ^ l.toNat : Nat) : Int) := by rw [hb]; push_cast; rfl
  have d2 : d % 2 = 1 := by
    by_cases h : d % 2 = 1
    · exact h
    · exfalso
      have : (d * 5 ^ l.toNat) % 2 = 0 := by
        rw [Nat.mul_mod, show d % 2 = 0 by omega, Nat.zero_mul]
      rw [eb] at b2
      omega
  rw [e, places_inf (not_ten d2 (by omega) (by omega))]
theorem places_some {x b c k l : Int} (hk : 0 ≤ k) (hl : 0 ≤ l) (hx : x = b * 2 ^ k.toNat) (hb : b = c * 5 ^ l.toNat) (c1 : c = 1) : max 1 (max k l) = places x := by
  subst c1
  have e : x = ((5 ^ l.toNat * 2 ^ k.toNat : Nat) : Int) := by rw [hx, hb]; push_cast; rw [Int.one_mul]
  rw [e, places_fin]
  omega

set_option maxRecDepth 100000 in
set_option maxHeartbeats 8000000 in
theorem c_places (w : World) (mean : Mean) (mg mb : Nm) (news : Led) (x : Int) (t : Tok) (hx : 0 < x) :
    Cl w mean mg mb 1 226 [.int x t] news (RetV news (fun t => .int (places x) t)) := by
  dsimp only [Cl]
  w_top off
  k_fill
  intro dp un gd cn cs a ccd cl outer A₀ base h₀ L m s Q E B F X N T hk hd hu hret
  refine wpAny_call ?_
  k_dflt ktr_enter
  k_with_none
  k_with "exec While Compare cons nil" => ((with_reducible show wpAny _ _ (exec (Stmt.While (Expr.Compare (Expr.BinOp _ _ (Expr.Constant (Const.int 2) _ _) _) _ _ _) _ _ _) _) _ _ _); k_while_given ["bottom!"] (fun B script b k => 0 < b ∧ 0 ≤ k ∧ B = b * 2 ^ k.toNat) (fun B script b k => b.toNat) "bottom" "twos")
  k_with "exec While Compare cons nil" => ((with_reducible show wpAny _ _ (exec (Stmt.While (Expr.Compare (Expr.BinOp _ _ (Expr.Constant (Const.int 5) _ _) _) _ _ _) _ _ _) _) _ _ _); k_while_given ["bottom!"] (fun B script b k => 0 < b ∧ 0 ≤ k ∧ B = b * 5 ^ k.toNat) (fun B script b k => b.toNat) "bottom" "fives")
  k_with "state" => first | exact turn_p (by decide) (by assumption) (by assumption) (by assumption) (by assumption) | exact ⟨hx, by decide, (Int.mul_one _).symm⟩ | exact ⟨by assumption, by decide, (Int.mul_one _).symm⟩
  k_with "measure" => exact less_p (by decide) (by assumption)
  k_with "call builtin:max" => (k_here; (with_unfolding_all refine' max3_N ?k0 ?k1 ?k2 ?_); (case k0 => with_unfolding_all rfl); (case k1 => k_asm); (case k2 => k_asm); intro h9 tk9 t9 F9 N9)
  k_steps
  all_goals first
    | exact cb_retI hret (places_none (by assumption) (by assumption) (by assumption) (by assumption) (by assumption) (by assumption)) (by assumption) (by assumption)
    | exact cb_retI hret (places_some (by assumption) (by assumption) (by assumption) (by assumption) (by assumption)) (by assumption) (by assumption)
    | trace_state
end Mine
end

-- part M2
section
namespace Mine

theorem mul5 {d e : Nat} (hd : d % 5 ≠ 0) (he : e % 5 ≠ 0) : (d * e) % 5 ≠ 0 := by
  rw [Nat.mul_mod]
  have h1 : d % 5 = 1 ∨ d % 5 = 2 ∨ d % 5 = 3 ∨ d % 5 = 4 := by omega
  have h2 : e % 5 = 1 ∨ e % 5 = 2 ∨ e % 5 = 3 ∨ e % 5 = 4 := by omega
  rcases h1 with h | h | h | h <;> rcases h2 with h' | h' | h' | h' <;> rw [h, h'] <;> decide

theorem split25 : ∀ n : Nat, 0 < n → ∃ d i j : Nat, d % 2 = 1 ∧ d % 5 ≠ 0 ∧ n = d * 5 ^ j * 2 ^ i := by
  intro n
  induction n using Nat.strongRecOn with
  | _ n ih =>
    intro h
    by_cases h2 : n % 2 = 0
    · obtain ⟨d, i, j, a, b, c⟩ := ih (n / 2) (by omega) (by omega)
      refine ⟨d, i + 1, j, a, b, ?_⟩
      rw [Nat.pow_succ, ← Nat.mul_assoc, ← c]
      omega
    · by_cases h5 : n % 5 = 0
      · obtain ⟨d, i, j, a, b, c⟩ := ih (n / 5) (by omega) (by omega)
        refine ⟨d, i, j + 1, a, b, ?_⟩
        have e : d * 5 ^ (j + 1) * 2 ^ i = d * 5 ^ j * 2 ^ i * 5 := by
          rw [Nat.pow_succ, ← Nat.mul_assoc, Nat.mul_right_comm]
        rw [e, ← c]
        omega
      · exact ⟨n, 0, 0, by omega, h5, by simp⟩

/-- the divisors of a power of ten -/
theorem dvd_ten {b k : Nat} (h : b ∣ 10 ^ k) : ∃ i j, i ≤ k ∧ j ≤ k ∧ b = 5 ^ j * 2 ^ i := by
  obtain ⟨c, hc⟩ := h
  have hp : 0 < 10 ^ k := Nat.pow_pos (by decide)
  have hb : 0 < b := by
    rcases Nat.eq_zero_or_pos b with e | e
    · subst e; simp at hc
    · exact e
  have hc0 : 0 < c := by
    rcases Nat.eq_zero_or_pos c with e | e
    · subst e; simp at hc
    · exact e
  obtain ⟨d, i, j, a1, a2, a3⟩ := split25 b hb
  obtain ⟨e, m, l, b1, b2, b3⟩ := split25 c hc0
  have e1 : (d * e) * 5 ^ (j + l) * 2 ^ (i + m) = 1 * 5 ^ k * 2 ^ k := by
    have : (d * e) * 5 ^ (j + l) * 2 ^ (i + m) = b * c := by
      rw [a3, b3, Nat.pow_add, Nat.pow_add]
      ac_rfl
    rw [this, ← hc, Nat.one_mul, ← Nat.mul_pow]
  have u := uniq (d := d * e) (e := 1) (by rw [Nat.mul_mod, a1, b1]) (mul5 a2 b2) (by decide) (by decide) e1
  have d1 : d = 1 := Nat.eq_one_of_mul_eq_one_right u.2.2
  exact ⟨i, j, by omega, by omega, by rw [a3, d1, Nat.one_mul]⟩

theorem ten_pos {b : Int} (h : Ten b) : 0 < b := by
  obtain ⟨i, j, rfl⟩ := h
  have : 0 < 5 ^ j * 2 ^ i := Nat.mul_pos (Nat.pow_pos (by decide)) (Nat.pow_pos (by decide))
  omega
theorem pow_dvd_ten {i j k : Nat} (hi : i ≤ k) (hj : j ≤ k) : 5 ^ j * 2 ^ i ∣ 10 ^ k := by
  rw [show (10 : Nat) = 5 * 2 from rfl, Nat.mul_pow]
  exact Nat.mul_dvd_mul (Nat.pow_dvd_pow 5 hj) (Nat.pow_dvd_pow 2 hi)

/-- b divides the k-th power of ten just where its places are at most k -/
theorem dvd_iff {b : Int} (hb : 0 < b) {k : Nat} (hk : 1 ≤ k) : b ∣ (10 : Int) ^ k ↔ (places b ≠ -1 ∧ places b ≤ k) := by
  obtain ⟨n, rfl⟩ := Int.eq_ofNat_of_zero_le (show 0 ≤ b by omega)
  have e : ((10 : Int) ^ k) = ((10 ^ k : Nat) : Int) := by push_cast; rfl
  rw [e, Int.ofNat_dvd]
  constructor
  · intro h
    obtain ⟨i, j, hi, hj, rfl⟩ := dvd_ten h
    rw [places_fin]
    omega
  · rintro ⟨h1, h2⟩
    by_cases h : Ten (n : Int)
    · obtain ⟨i, j, e⟩ := h
      have e' := Int.ofNat_inj.mp e
      subst e'
      rw [places_fin] at h2
      exact pow_dvd_ten (by omega) (by omega)
    · exact absurd (places_inf h) h1
theorem places_ge {b : Int} : places b = -1 ∨ 1 ≤ places b := by
  by_cases h : Ten b
  · obtain ⟨i, j, rfl⟩ := h
    rw [places_fin]; omega
  · exact .inl (places_inf h)
theorem places_log {b : Int} (hb : 0 < b) : places b ≤ (b.natAbs.log2 : Int) + 1 := by
  by_cases h : Ten b
  · obtain ⟨i, j, rfl⟩ := h
    rw [places_fin, Int.natAbs_natCast]
    have h5 : 2 ^ j ≤ 5 ^ j := Nat.pow_le_pow_left (by decide) j
    have p2 : 0 < 2 ^ i := Nat.pow_pos (by decide)
    have p5 : 0 < 5 ^ j := Nat.pow_pos (by decide)
    have a : i ≤ (5 ^ j * 2 ^ i).log2 := (Nat.le_log2 (by have := Nat.mul_pos p5 p2; omega)).mpr (Nat.le_mul_of_pos_left _ p5)
    have c : j ≤ (5 ^ j * 2 ^ i).log2 := (Nat.le_log2 (by have := Nat.mul_pos p5 p2; omega)).mpr (Nat.le_trans h5 (Nat.le_mul_of_pos_right _ p2))
    omega
  · rw [places_inf h]; omega
end Mine
end

-- part C3
section
open PySem PySem.W PyProof.Rows PySem.Calls PySem.Spec
namespace Mine

def FirstInv (B r k : Int) : Prop := 1 ≤ k ∧ r = (10 ^ k.toNat) % B ∧ (∀ j : Nat, 1 ≤ j → (j : Int) < k → ((10 : Int) ^ j) % B ≠ 0) ∧ k ≤ (Builtin.Int.intBits B : Int) + 1

theorem first_start {B : Int} (h : 0 < B) : FirstInv B ((10 : Int).fmod B) 1 := by
  refine ⟨by decide, ?_, ?_, by omega⟩
  · rw [Int.fmod_eq_emod_of_nonneg _ (by omega)]; rfl
  · intro j h1 h2; omega
theorem first_turn {B r k : Int} (h : 0 < B) (H : FirstInv B r k) (h0 : r ≠ 0) (hk : k ≤ (Builtin.Int.intBits B : Int)) : FirstInv B ((r * 10).fmod B) (k + 1) := by
  obtain ⟨h1, h2, h3, h4⟩ := H
  refine ⟨by omega, ?_, ?_, by omega⟩
  · rw [Int.fmod_eq_emod_of_nonneg _ (by omega), show (k + 1).toNat = k.toNat + 1 by omega, Int.pow_succ, h2, Int.mul_emod (10 ^ k.toNat) 10 B, Int.mul_emod (10 ^ k.toNat % B) 10 B, Int.emod_emod]
  · intro j hj1 hj2
    by_cases e : (j : Int) = k
    · have e' : j = k.toNat := by omega
      subst e'
      rw [← h2]; exact h0
    · exact h3 j hj1 (by omega)

theorem first_fin {B r k : Int} (h : 0 < B) (H : FirstInv B r k) (h0 : r = 0) : k = places B := by
  obtain ⟨h1, h2, h3, h4⟩ := H
  have d := (dvd_iff h (k := k.toNat) (by omega)).mp (Int.dvd_of_emod_eq_zero (by rw [← h2, h0]))
  rcases places_ge (b := B) with e | e
  · exact absurd e d.1
  · by_cases hlt : places B < k
    · exfalso
      refine h3 (places B).toNat (by omega) (by omega) (Int.emod_eq_zero_of_dvd ((dvd_iff h (by omega)).mpr ⟨d.1, by omega⟩))
    · omega
theorem first_inf {B r k : Int} (h : 0 < B) (H : FirstInv B r k) (hk : ¬ k ≤ (Builtin.Int.intBits B : Int)) : -1 = places B := by
  obtain ⟨h1, h2, h3, h4⟩ := H
  rcases places_ge (b := B) with e | e
  · exact e.symm
  · exfalso
    have l := places_log h
    have eb : Builtin.Int.intBits B = B.natAbs.log2 + 1 := by
      unfold Builtin.Int.intBits
      rw [if_neg (by simp; omega)]
    rw [eb] at hk
    exact h3 (places B).toNat (by omega) (by omega) (Int.emod_eq_zero_of_dvd ((dvd_iff h (by omega)).mpr ⟨by omega, by omega⟩))

set_option maxRecDepth 100000 in
set_option maxHeartbeats 8000000 in
theorem c_first (w : World) (mean : Mean) (mg mb : Nm) (news : Led) (x : Int) (t : Tok) (hx : 0 < x) :
    Cl w mean mg mb 1 268 [.int x t] news (RetV news (fun t => .int (places x) t)) := by
  dsimp only [Cl]
  w_top off
  k_fill
  intro dp un gd cn cs a ccd cl outer A₀ base h₀ L m s Q E B F X N T hk hd hu hret
  refine wpAny_call ?_
  k_dflt ktr_enter
  k_with_none
  k_with "exec While BoolOp" => (k_while_given ["bottom"] (fun B script r k => FirstInv B r k) (fun B script r k => ((Builtin.Int.intBits B : Int) + 1 - k).toNat) "rest" "k")
  k_with "state" => first | exact first_start hx | exact first_turn hx (by assumption) (by assumption) (by assumption)
  k_steps
  all_goals first
    | (exfalso; omega)
    | exact cb_retI hret (first_fin hx (by assumption) (by assumption)) (by assumption) (cb_drop (by assumption) (fun p hp => List.mem_cons_of_mem _ hp))
    | exact cb_retI hret (first_inf hx (by assumption) (by assumption)) (by assumption) (cb_drop (by assumption) (fun p hp => List.mem_cons_of_mem _ hp))
    | trace_state
end Mine
end

-- part C4
section
open PySem PySem.W PyProof.Rows PySem.Calls PySem.Spec
namespace Mine
local macro_rules | `(tactic| k_all) => `(tactic| assumption)
local macro_rules | `(tactic| k_ne) => `(tactic| assumption)
local macro_rules | `(tactic| walk_at "subscriptTail") => `(tactic| (k_here; (with_reducible show wpAny _ _ (subscriptTail _ _ (Value.ref _) (Value.str _ _)) _ _ _); k_dflt (refine kda_item (knd := PySem.strKind _ _) (by k_asm) (by k_mem) (by k_asm) (strKind_is _ _ _ _) (by rfl) ?_)))
local macro_rules | `(tactic| walk_at "setItem ref str") => `(tactic| (k_here; k_dflt (refine' kda_set (knd := PySem.strKind _ _) ?F ?N ?U ?d (strKind_is _ _ _ _) ?z ?_; (case F => k_asm); (case N => k_asm); (case U => k_updF); (case d => k_asm); (case z => kob_size)); intro h' o' F' N' hd'; (try kob_lit); (try dsimp only at N')))

abbrev Purse (w : World) (D : Addr) (k : Int) (t3 : Tok) (o : Obj) : Prop :=
  Obj.IsDictOf (PySem.strKind PySem.Challenge.rw_qz0009_01.row.prog w) o [(Str.ofString "cells", .ref D), (Str.ofString "turn", .int k t3)]

abbrev RetDraw (w : World) (D d : Addr) (ys : List Value) (k wide : Int) (rest : Led) (h₀ : Heap) (L : Addr) (m : Nm) (s : Shared) (Q : Value → Shared → Prop) : Prop :=
  ∀ (v : Int) (t t3 : Tok) (o' : Obj) (h' : Heap) (tk' : Nat), 0 ≤ v → v < wide → Purse w D (k + 1) t3 o' → Fr h₀ L h' m → News h₀ L h' ((D, LCg.lst ys) :: (d, o') :: rest) → Q (.int v t) { s with heap := h', toks := tk' }

set_option maxRecDepth 100000 in
set_option maxHeartbeats 8000000 in
theorem c_draw (w : World) (mean : Mean) (mg mb : Nm) (rest : Led) (D d : Addr) (o : Obj) (ys : List Value) (ns : List Int) (k wide : Int) (t t3 : Tok)
    (hne : D ≠ d) (hr : ∀ p ∈ rest, p.1 ≠ d) (hI : IntsAre ys ns) (hl : ns.length ≤ 30) (hP : Purse w D k t3 o) (hk0 : 0 ≤ k) (hk : k ≤ 100) (hw : 0 < wide) :
    Cl w mean mg mb 1 240 [.ref d, .int wide t] ((D, LCg.lst ys) :: (d, o) :: rest) (RetDraw w D d ys k wide rest) := by
  dsimp only [Cl]
  w_top off
  k_fill
  intro dp un gd cn cs a ccd cl outer A₀ base h₀ L m s Q E B F X N T hk hd hu hret
  refine wpAny_call ?_
  k_dflt ktr_enter
  k_with_none
  k_steps
  all_goals exact hret _ _ _ _ _ _ (Int.fmod_nonneg_of_pos _ hw) (Int.fmod_lt_of_pos _ hw) (by assumption) (by assumption) (by assumption)
end Mine
end

-- part M3
section
open PySem PySem.W PyProof.Rows PySem.Calls PySem.Spec
namespace Mine
theorem ipow_le {b : Int} {n k : Nat} (hb : 1 ≤ b) (h : n ≤ k) : b ^ n ≤ b ^ k := by
  obtain ⟨c, rfl⟩ := Int.eq_ofNat_of_zero_le (show 0 ≤ b by omega)
  have e := Nat.pow_le_pow_right (n := c) (by omega) h
  have e' : ((c ^ n : Nat) : Int) ≤ ((c ^ k : Nat) : Int) := Int.ofNat_le.mpr e
  push_cast at e'
  exact e'
theorem ipow_pos {b : Int} (n : Nat) (hb : 0 < b) : 0 < b ^ n := Int.pow_pos hb
theorem mul_lt_mul' {a b c d : Int} (ha : 0 ≤ a) (hb : 0 ≤ b) (h1 : a ≤ c) (h2 : b ≤ d) : a * b ≤ c * d :=
  Int.le_trans (Int.mul_le_mul_of_nonneg_right h1 hb) (Int.mul_le_mul_of_nonneg_left h2 (Int.le_trans ha h1))

def menu (v : Int) : Int := [1, 1, 1, 1, 3, 7, 9, 49].getD v.toNat 0
theorem menu_in {v : Int} (h0 : 0 ≤ v) (h1 : v < 8) : 1 ≤ menu v ∧ menu v ≤ 49 := by
  have h : v = 0 ∨ v = 1 ∨ v = 2 ∨ v = 3 ∨ v = 4 ∨ v = 5 ∨ v = 6 ∨ v = 7 := by omega
  rcases h with h | h | h | h | h | h | h | h <;> subst h <;> decide
theorem two_b {v : Int} (h1 : v < 61) : (0 : Int) < 2 ^ v.toNat ∧ (2 : Int) ^ v.toNat ≤ 2 ^ 60 :=
  ⟨ipow_pos _ (by decide), ipow_le (by decide) (by omega)⟩
theorem five_b {v : Int} (h1 : v < 61) : (0 : Int) < 5 ^ v.toNat ∧ (5 : Int) ^ v.toNat ≤ 5 ^ 60 :=
  ⟨ipow_pos _ (by decide), ipow_le (by decide) (by omega)⟩
theorem sm_of {x : Int} {k : Nat} (h0 : 0 ≤ x) (h : x < 2 ^ k) (hk : k ≤ 4000) : Sm x := ⟨h0, k, hk, h⟩
theorem sm_two {v : Int} (h1 : v < 61) : Sm (2 ^ v.toNat) := by
  have h := two_b h1
  exact sm_of (k := 61) (by omega) (Int.lt_of_le_of_lt h.2 (by decide)) (by decide)
theorem sm_five {v : Int} (h1 : v < 61) : Sm (5 ^ v.toNat) := by
  have h := five_b h1
  exact sm_of (k := 180) (by omega) (Int.lt_of_le_of_lt h.2 (by decide +kernel)) (by decide)
theorem ten_b {v u : Int} (h1 : v < 61) (h2 : u < 61) : (0 : Int) < 2 ^ v.toNat * 5 ^ u.toNat ∧ (2 : Int) ^ v.toNat * 5 ^ u.toNat ≤ 2 ^ 60 * 5 ^ 60 := by
  have a := two_b h1
  have b := five_b h2
  exact ⟨Int.mul_pos a.1 b.1, mul_lt_mul' (by omega) (by omega) a.2 b.2⟩
theorem sm_ten {v u : Int} (h1 : v < 61) (h2 : u < 61) : Sm (2 ^ v.toNat * 5 ^ u.toNat) := by
  have h := ten_b h1 h2
  exact sm_of (k := 210) (by omega) (Int.lt_of_le_of_lt h.2 (by decide +kernel)) (by decide)
theorem sm_menu {v : Int} (h0 : 0 ≤ v) (h1 : v < 8) : Sm (menu v) := by
  have h := menu_in h0 h1
  exact sm_of (k := 6) (by omega) (by omega) (by decide)
theorem bot_b {v u x : Int} (h1 : v < 61) (h2 : u < 61) (h3 : 0 ≤ x) (h4 : x < 8) : 0 < (2 : Int) ^ v.toNat * 5 ^ u.toNat * menu x ∧ (2 : Int) ^ v.toNat * 5 ^ u.toNat * menu x < 2 ^ 206 := by
  have a := ten_b h1 h2
  have b := menu_in h3 h4
  refine ⟨Int.mul_pos a.1 (by omega), Int.lt_of_le_of_lt (mul_lt_mul' (by omega) (by omega) a.2 b.2) (by decide +kernel)⟩
theorem sm_bot {v u x : Int} (h1 : v < 61) (h2 : u < 61) (h3 : 0 ≤ x) (h4 : x < 8) : Sm ((2 : Int) ^ v.toNat * 5 ^ u.toNat * menu x) := by
  have h := bot_b h1 h2 h3 h4
  exact sm_of (by omega) h.2 (by decide)

/-- a ratio of the law's draw, in lowest terms -/
structure Good (x y : Int) : Prop where
  tp : 0 < x
  th : x < 2 ^ 101
  bp : 0 < y
  bh : y < 2 ^ 206
  co : Int.gcd x y = 1

theorem lowI_mul (x y : Int) : lowI x y * (Int.gcd x y : Int) = x := by
  unfold lowI
  exact Int.ediv_mul_cancel (Int.gcd_dvd_left ..)
theorem lowI_mul' (x y : Int) : lowI y x * (Int.gcd x y : Int) = y := by
  rw [Int.gcd_comm]; exact lowI_mul y x
theorem lowI_pos {x y : Int} (hx : 0 < x) : 0 < lowI x y := by
  have h := lowI_mul x y
  have h2 : 0 < lowI x y * (Int.gcd x y : Int) := by rw [h]; exact hx
  have h3 : (0 : Int) ≤ (Int.gcd x y : Int) := by omega
  by_cases h4 : 0 < lowI x y
  · exact h4
  · exfalso
    have := Int.mul_le_mul_of_nonneg_right (show lowI x y ≤ 0 by omega) h3
    omega
theorem lowI_le {x y : Int} (hx : 0 ≤ x) : lowI x y ≤ x := by
  unfold lowI
  exact Int.ediv_le_self _ hx
theorem lowI_co {x y : Int} (hy : 0 < y) : Int.gcd (lowI x y) (lowI y x) = 1 := by
  have hg := Int.gcd_pos_of_ne_zero_right x (show y ≠ 0 by omega)
  have e : lowI y x = y / (Int.gcd x y : Int) := by unfold lowI; rw [Int.gcd_comm]
  rw [e]
  unfold lowI
  rw [Int.gcd_ediv_gcd_ediv_gcd hg]
theorem good_low {x y : Int} (hx : 0 < x) (hx2 : x < 2 ^ 101) (hy : 0 < y) (hy2 : y < 2 ^ 206) : Good (lowI x y) (lowI y x) :=
  ⟨lowI_pos hx, Int.lt_of_le_of_lt (lowI_le (by omega)) hx2, lowI_pos hy, Int.lt_of_le_of_lt (lowI_le (by omega)) hy2, lowI_co hy⟩
end Mine
end

-- part C5
section
open PySem PySem.W PyProof.Rows PySem.Calls PySem.Spec
namespace Mine
local macro_rules | `(tactic| k_all) => `(tactic| assumption)
local macro_rules | `(tactic| k_ne) => `(tactic| assumption)
theorem dr_perm1 {h₀ h : Heap} {L : Addr} {a b c : Addr × Obj} {rest : Led} (N : News h₀ L h (c :: a :: b :: rest)) : News h₀ L h (a :: b :: c :: rest) := by
  intro p hp
  simp only [List.mem_cons] at hp
  refine N p ?_
  simp only [List.mem_cons]
  rcases hp with h | h | h | h <;> simp only [h, true_or, or_true]

local macro_rules | `(tactic| walk_at "binaryOp Mult int int") => `(tactic| (k_here; (with_reducible refine mul_int ?_ (mul_ok ?kba ?kbb)); (case kba => first | exact sm_two (by assumption) | exact sm_ten (by assumption) (by assumption)); (case kbb => first | exact sm_five (by assumption) | exact sm_menu (by assumption) (by assumption))))

theorem top_b {v : Int} (h : v < 10 ^ Int.toNat 30) : 1 + v < 2 ^ 101 := by
  have e : (10 : Int) ^ Int.toNat 30 + 1 < 2 ^ 101 := by decide +kernel
  omega
theorem purse_eq {w : World} {D : Addr} {k k' : Int} {t : Tok} {o : Obj} (h : Purse w D k t o) (e : k = k') : Purse w D k' t o := e ▸ h
theorem sub1 {a b c e : Addr × Obj} {rest : Led} : ∀ p ∈ a :: b :: c :: rest, p ∈ a :: b :: c :: e :: rest := by
  intro p hp
  simp only [List.mem_cons] at hp ⊢
  rcases hp with h | h | h | h <;> simp only [h, true_or, or_true]
theorem sub2 {b c e : Addr × Obj} {rest : Led} : ∀ p ∈ b :: c :: rest, p ∈ b :: c :: e :: rest := by
  intro p hp
  simp only [List.mem_cons] at hp ⊢
  rcases hp with h | h | h <;> simp only [h, true_or, or_true]

abbrev RetRatio (w : World) (D d : Addr) (ys : List Value) (k : Int) (rest : Led) (h₀ : Heap) (L : Addr) (m : Nm) (s : Shared) (Q : Value → Shared → Prop) : Prop :=
  ∀ (q : Addr) (x y : Int) (t u t3 : Tok) (o' : Obj) (h' : Heap) (tk' : Nat), Good x y → Purse w D (k + 4) t3 o' → Fr h₀ L h' m → News h₀ L h' ((q, tupO [.int x t, .int y u]) :: (D, LCg.lst ys) :: (d, o') :: rest) → (∀ p ∈ (D, LCg.lst ys) :: (d, o') :: rest, p.1 < q) → Q (.ref q) { s with heap := h', toks := tk' }

set_option maxRecDepth 100000 in
set_option maxHeartbeats 8000000 in
theorem c_lratio (w : World) (mean : Mean) (mg mb : Nm) (rest : Led) (D d : Addr) (o : Obj) (ys : List Value) (ns : List Int) (k : Int) (t3 : Tok)
    (hne : D ≠ d) (hr : ∀ p ∈ rest, p.1 ≠ d) (hI : IntsAre ys ns) (hl : ns.length ≤ 30) (hP : Purse w D k t3 o) (hk0 : 0 ≤ k) (hk : k ≤ 90) :
    Cl w mean mg mb 3 261 [.ref d] ((D, LCg.lst ys) :: (d, o) :: rest) (RetRatio w D d ys k rest) := by
  dsimp only [Cl]
  w_top off
  k_fill
  intro dp un gd cn cs a ccd cl outer A₀ base h₀ L m s Q E B F X N T hkk hd hu hret
  refine wpAny_call ?_
  k_dflt ktr_enter
  k_with_none
  k_with "call ref" => ((with_reducible show wpAny _ _ (call (Value.ref 240) _) _ _ _); k_here; refine' cl_use (c_draw _ _ _ _ _ _ _ _ _ _ _ _ _ _ ?hne ?hr ?hI ?hl ?hP ?hk0 ?hk ?hw) ?k1 ?k2 ?k3 ?k4 ?k5 ?kK ?kd ?ku ?_; (case k1 => k_asm); (case k2 => k_asm); (case k3 => k_asm); (case k4 => first | k_asm | exact dr_perm1 (by k_asm)); (case k5 => k_asm); (case kK => first | exact rfl | assumption); (case kd => ktr_room); (case ku => ktr_units); (case hne => assumption); (case hr => k_all); (case hI => assumption); (case hl => assumption); (case hP => assumption); (case hk0 => omega); (case hk => omega); (case hw => first | decide | omega); intro v9 t9 u9 o9 h9 tk9 hv0 hv1 hP9 F9 N9; (try dsimp only); (try k_fold); walk_say "DRAW")
  k_with "call ref" => ((with_reducible show wpAny _ _ (call (Value.ref 254) _) _ _ _); k_here; refine' cl_use (c_lowest _ _ _ _ _ _ _ _ _ ?hx ?hy ?hs) ?k1 ?k2 ?k3 ?k4 ?k5 ?kK ?kd ?ku ?_; (case k1 => k_asm); (case k2 => k_asm); (case k3 => k_asm); (case k4 => k_asm); (case k5 => k_asm); (case kK => first | exact rfl | assumption); (case kd => ktr_room); (case ku => ktr_units); (case hx => omega); (case hy => exact (bot_b (by assumption) (by assumption) (by assumption) (by assumption)).1); (case hs => exact sm_bot (by assumption) (by assumption) (by assumption) (by assumption)); intro q9 t9 u9 h9 tk9 F9 N9 l9; (try dsimp only); (try k_fold); walk_say "LOWEST")
  k_steps
  refine' hret _ _ _ _ _ _ _ _ _ ?zg ?zp ?zf ?zn ?zl
  case zn => exact cb_drop (by assumption) sub1
  case zl => exact fun p hp => l9 p (sub2 p hp)
  case zf => assumption
  case zp => exact purse_eq (by assumption) (by omega)
  case zg => exact good_low (by omega) (top_b (by assumption)) (bot_b (by assumption) (by assumption) (by assumption) (by assumption)).1 (bot_b (by assumption) (by assumption) (by assumption) (by assumption)).2
end Mine
end

-- part C6
section
open PySem PySem.W PyProof.Rows PySem.Calls PySem.Spec
namespace Mine
local macro_rules | `(tactic| k_all) => `(tactic| assumption)
local macro_rules | `(tactic| k_ne) => `(tactic| assumption)
theorem ne_same {prog : Program} {w : World} {A : Around} {E : Value → Shared → Prop} {s : Shared} {a : Int} {t u : Tok} {Q : Value → Shared → Prop} (h : Q (.bool false) s) : wpAny (model prog w) A (compareOp .NotEq (.int a t) (.int a u)) Q E s :=
  PyProof.Rows.ne_int (by rw [bne_self_eq_false]; exact h)
local macro_rules | `(tactic| walk_at "compareOp NotEq int int") => `(tactic| (with_reducible refine ne_same ?_))

/-- a filter that lets nothing through -/
def NoneEnd (h₀ : Heap) (L : Addr) (m : Nm) (s₁ : Shared) (I : Addr) (oI : Obj) (C : Addr) (oC : Obj) (D : Addr) (S : Led → Prop) (news : Led) (b : Bool) (s₂ : Shared) : Prop :=
  b = false ∧ LCg.CompEnd h₀ L m s₁ I oI C oC D (LCg.lst []) S (fun _ news' => news' = news) Value.none s₂
theorem rest_none {prog : Program} {w : World} {A : Around} {h₀ : Heap} {L : Addr} {m : Nm} {env : Env} {ct elt : Expr} {x : Str} {scope : Scope} {cl : List (Str × Addr)} {s : Shared} {S : Led → Prop} {P : Nat → Value → Prop} {Fin : List Value → Led → Prop} {news : Led} {n : Nat}
    (hP : ∀ i v, P i v → ∃ k t, v = .int k t ∧ 0 < k)
    (turn : ∀ k t I oI C oC D m₂ h tk (E' : Value → Shared → Prop), 0 < k → LCg.NsObj oC m₂ → m₂ x = some (.int k t) → Fr h₀ L h m → News h₀ L h ((I, oI) :: (C, oC) :: (D, LCg.lst []) :: news) → LCg.Off3 I C D news → ((@Ne Nat I C) ∧ (@Ne Nat I D) ∧ (@Ne Nat C D)) →
      wpAny (model prog w) A (isTrue ct (compEnvC scope cl C env) (eval ct (compEnvC scope cl C env))) (NoneEnd h₀ L m { s with heap := h, toks := tk } I oI C oC D S news) E' { s with heap := h, toks := tk })
    (fin : Fin [] news) : LCt.CompRestT prog w A h₀ L m env ct elt x scope cl s S P Fin n 0 [] news := by
  have key : ∀ (j i : Nat), LCt.CompRestT prog w A h₀ L m env ct elt x scope cl s S P Fin j i [] news := by
    intro j
    induction j with
    | zero => exact fun i => LCt.CompRestT.zero fin
    | succ j ih =>
      intro i
      refine LCt.CompRestT.succ ?_
      intro v I oI C oC D m₂ h tk E' hv hC hx F N off ne
      obtain ⟨k, t, hv', hk⟩ := hP i v hv
      rw [hv'] at hx
      refine wpAny_mono (turn k t I oI C oC D m₂ h tk E' hk hC hx F N off ne) (fun b s₂ hq => ?_) fun _ _ e => e
      obtain ⟨rfl, h', tk', nw, e, F', N', off', hS, hn⟩ := hq
      simp only [Bool.false_eq_true, if_false]
      rw [hn] at N' off' hS
      exact ⟨h', tk', news, e, F', N', off', hS, ih (i + 1)⟩
  exact key n 0

abbrev RetB (news : Led) (b : Bool) (h₀ : Heap) (L : Addr) (m : Nm) (s : Shared) (Q : Value → Shared → Prop) : Prop :=
  ∀ (h' : Heap) (tk' : Nat), Fr h₀ L h' m → News h₀ L h' news → Q (.bool b) { s with heap := h', toks := tk' }

local macro_rules | `(tactic| walk_at "CompSrcT") => `(tactic| (k_here; k_dflt (refine LCt.CompSrcT.ledger (by rfl) (by k_asm) (by k_asm) (by k_mem) (by assumption) ?_; intro g'; refine' rest_none ?ra ?rb ?rc; (case ra => assumption); (case rb => intro k' t' I' oI' C' oC' D' m' h' tk' E' hk' hC' hx' F' N' off' ne'))))

local macro_rules | `(tactic| walk_at "eval ListComp") => `(tactic| (k_here; k_dflt (refine LCt.ListComp_T (F₀ := by k_asm) (by with_unfolding_all rfl) (by decide) (by rfl) (by decide) (by rfl) ?_)))

set_option maxRecDepth 100000 in
set_option maxHeartbeats 8000000 in
theorem c_right (w : World) (mean : Mean) (mg mb : Nm) (rest : Led) (B : Addr) (n : Nat) (vs : List Value) (hsz : vs.toArray.size ≤ sizeLine) (hP : ∀ (i : Nat) (v : Value), vs.toArray[i]? = some v → ∃ k t, v = .int k t ∧ 0 < k) :
    Cl w mean mg mb 20 273 [.ref B] ((B, listOf vs.toArray n) :: rest) (RetB ((B, listOf vs.toArray n) :: rest) true) := by
  dsimp only [Cl]
  w_top off
  k_fill
  intro dp un gd cn cs a ccd cl outer A₀ base h₀ L m s Q E B₀ F X N T hkk hd hu hret
  refine wpAny_call ?_
  k_dflt ktr_enter
  k_with_none
  k_with "call ref" => ((with_reducible show wpAny _ _ (call (Value.ref 226) _) _ _ _); k_here; refine' cl_use (c_places _ _ _ _ _ _ _ ?hx) ?k1 ?k2 ?k3 ?k4 ?k5 ?kK ?kd ?ku ?_; (case k1 => k_asm); (case k2 => k_asm); (case k3 => k_asm); (case k4 => k_asm); (case k5 => k_asm); (case kK => first | exact rfl | assumption); (case kd => ktr_room); (case ku => ktr_units); (case hx => first | assumption | decide); intro t9 h9 tk9 F9 N9; (try dsimp only); (try k_fold); walk_say "PLACES")
  k_with "call ref" => ((with_reducible show wpAny _ _ (call (Value.ref 268) _) _ _ _); k_here; refine' cl_use (c_first _ _ _ _ _ _ _ ?hx) ?k1 ?k2 ?k3 ?k4 ?k5 ?kK ?kd ?ku ?_; (case k1 => k_asm); (case k2 => k_asm); (case k3 => k_asm); (case k4 => k_asm); (case k5 => k_asm); (case kK => first | exact rfl | assumption); (case kd => ktr_room); (case ku => ktr_units); (case hx => first | assumption | decide); intro t9 h9 tk9 F9 N9; (try dsimp only); (try k_fold); walk_say "FIRST")
  k_steps
  k_dflt (refine LCt.CompSrcT.ledger (by rfl) (by k_asm) (by k_asm) (by k_mem) (by assumption) ?_)
  intro g'
  refine' rest_none ?ra ?rb ?rc
  case ra => assumption
  case rb => 
    intro k' t' I' oI' C' oC' D' m' h' tk' E' hk' hC' hx' F' N' off' ne'
    k_steps
    exact ⟨rfl, _, _, _, rfl, by assumption, by assumption, by assumption, .inr ⟨_, by k_mem, rfl, _, rfl⟩, rfl⟩
  intro D' h' tk' F' N' off'
  k_with "compareOp Eq ref ref" => (k_here; k_dflt (refine eq_intsK (ns := []) (ms := []) (N'.isList (by k_mem)) .nil (News.isList (by k_asm) (by k_mem)) .nil (by ktr_units) ?_))
  k_steps
  all_goals exact hret _ _ (by assumption) (cb_drop (by assumption) (fun p hp => List.mem_cons_of_mem _ (List.mem_cons_of_mem _ hp)))
end Mine
end

-- part S0
section
open PySem PySem.W PyProof.Rows PySem.Calls PySem.Spec PySem.NumText
namespace Mine

/-- the text of a list of signs -/
def sOf (l : List Nat) : PySem.Str := ⟨l.toArray⟩
theorem sOf_list (l : List Nat) : (sOf l).cps.toList = l := rfl
theorem sOf_len (l : List Nat) : (sOf l).length = l.length := by
  show l.toArray.size = l.length
  exact List.size_toArray
theorem sOf_app (a b : List Nat) : sOf a ++ sOf b = sOf (a ++ b) := by
  refine congrArg PySem.Str.mk ?_
  show a.toArray ++ b.toArray = (a ++ b).toArray
  simp
theorem sOf_of {x : PySem.Str} {l : List Nat} (h : x.cps.toList = l) : x = sOf l := by
  subst h
  obtain ⟨a⟩ := x
  refine congrArg PySem.Str.mk ?_
  show a = a.toList.toArray
  simp
theorem sOf_inj {a b : List Nat} : sOf a = sOf b ↔ a = b := by
  constructor
  · intro h
    have := congrArg (fun x => x.cps.toList) h
    simpa [sOf] using this
  · rintro rfl; rfl

def digs (n : Int) : List Nat := (Nat.toDigits 10 n.toNat).map Char.toNat
theorem str_num {n : Int} (h : 0 ≤ n) : PySem.Str.ofString (toString n) = sOf (digs n) := by
  obtain ⟨m, rfl⟩ := Int.eq_ofNat_of_zero_le h
  refine sOf_of ?_
  rw [KIN.signs_num]
  rfl

section
variable {prog : Program} {w : World} {A : Around} {E : Value → Shared → Prop} {s : Shared} {Q : Value → Shared → Prop} {n : Int} {t u : Tok} {l a b : List Nat} {h₀ : Heap} {L : Addr} {m : Nm} {news : Led} {value : Expr}

theorem r_str (h0 : 0 ≤ n) (hs : n.natAbs.log2 < 1920) (h : Q (.str (sOf (digs n)) s.toks) { s with toks := s.toks + 1 }) : wpAny (model prog w) A (call (.type "str") [.int n t]) Q E s :=
  P.str_of_int hs (by rw [← str_num h0] at h; exact h)
theorem r_len (hl : l.length ≤ 1000000) (h : Q (.int (l.length : Int) (s.toks + 1)) { s with toks := s.toks + 1 + 1 }) : wpAny (model prog w) A (call (.builtin "len") [.str (sOf l) t]) Q E s :=
  PyProof.Rows.len_str (by rw [sOf_len]; omega) (by rw [sOf_len]; exact h)
theorem fold_rep (k : Nat) (acc : Array Nat) : (List.replicate k #[48]).foldl (· ++ ·) acc = acc ++ (List.replicate k 48).toArray := by
  induction k generalizing acc with
  | zero => simp
  | succ k ih =>
    rw [List.replicate_succ, List.foldl_cons, ih, List.replicate_succ]
    apply Array.toList_inj.mp
    simp
theorem r_zeros (h1 : -1000000 ≤ n) (h2 : n ≤ 1000000) (h : ∀ t' tk, Q (.str (sOf (List.replicate n.toNat 48)) t') { s with toks := tk }) : wpAny (model prog w) A (binaryOp .Mult (.str (PySem.Str.ofString "0") t) (.int n u)) Q E s := by
  have e1 : (PySem.Str.ofString "0") = sOf [48] := by decide
  have el : (PySem.Str.ofString "0").length = 1 := by decide
  refine P.mul_str ?_ (fun _ _ => ?_) (fun _ _ => ?_) ?_
  · rw [decide_eq_false (by omega), decide_eq_false (by omega)]; rfl
  · rw [el]
    have : (1 : Int) ≤ (2 ^ 63 - 1) / n := (Int.le_ediv_iff_mul_le (by omega)).mpr (by omega)
    omega
  · rw [el]
    unfold Builtin.Str.tooLong
    rw [sizeLine_eq]
    exact decide_eq_false (by omega)
  · split
    · rename_i hn
      have e : List.replicate n.toNat 48 = [] := by rw [show n.toNat = 0 by omega]; rfl
      rw [e] at h
      exact ⟨by decide, h _ _⟩
    · split
      · rename_i hn hn1
        have hn1 : n = 1 := by
          rw [el] at hn1
          simp at hn1
          exact hn1
        subst hn1
        have e : sOf (List.replicate (1 : Int).toNat 48) = PySem.Str.ofString "0" := by decide
        rw [e] at h
        exact h _ _
      · have ec : (PySem.Str.ofString "0").cps = #[48] := by decide
        have e : (⟨(List.replicate n.toNat (PySem.Str.ofString "0").cps).foldl (· ++ ·) #[]⟩ : PySem.Str) = sOf (List.replicate n.toNat 48) := by
          refine congrArg PySem.Str.mk ?_
          rw [ec, fold_rep]
          simp
        rw [e]
        refine ⟨?_, h _ _⟩
        rw [sOf_len, List.length_replicate]
        show _ ≤ _
        rw [sizeLine_eq]; omega
theorem r_add (hl : a.length + b.length ≤ 1000000) (h : ∀ t' tk, Q (.str (sOf (a ++ b)) t') { s with toks := tk }) : wpAny (model prog w) A (binaryOp .Add (.str (sOf a) t) (.str (sOf b) u)) Q E s :=
  PyProof.Rows.add_str (fun t' tk => by rw [sOf_app]; exact h t' tk) (by rw [sOf_len, sOf_len, sizeLine_eq]; omega)
theorem r_addPoint (hl : a.length ≤ 999999) (h : ∀ t' tk, Q (.str (sOf (a ++ [46])) t') { s with toks := tk }) : wpAny (model prog w) A (binaryOp .Add (.str (sOf a) t) (.str (PySem.Str.ofString ".") u)) Q E s := by
  rw [show PySem.Str.ofString "." = sOf [46] from by decide]
  exact r_add (by simp only [List.length_cons, List.length_nil]; omega) h

theorem slice_to {j : Int} (h0 : 0 ≤ j) (h1 : j ≤ l.length) : Txt.slice (sOf l) none (some j) = sOf (l.take j.toNat) := by
  have e := beq_iff_eq.mp (slice_closes_to (x := sOf l) (j := j) ⟨h0, by rw [sOf_list]; exact h1⟩)
  rw [e]
  simp [sOf]
theorem slice_neg_to {j : Int} (h0 : j < 0) (h1 : 0 ≤ j + l.length) : Txt.slice (sOf l) none (some j) = sOf (l.take (j + l.length).toNat) := by
  rw [← slice_to h1 (by omega)]
  unfold Txt.slice
  rw [StrLaws.sliceIdx_neg_hi none _ h0 (by rw [sOf_len]; omega), sOf_len]
theorem slice_from {i : Int} (h0 : 0 ≤ i) (h1 : i ≤ l.length) : Txt.slice (sOf l) (some i) none = sOf (l.drop i.toNat) := by
  rw [slice_from_eq (b := (l.length : Int)) h0 (by rw [sOf_len]; exact h1) (by rw [sOf_len])]
  refine congrArg PySem.Str.mk ?_
  rw [sOf_list, List.take_of_length_le]
  rw [List.length_drop]
  omega
theorem slice_neg_from {i : Int} (h0 : i < 0) (h1 : 0 ≤ i + l.length) : Txt.slice (sOf l) (some i) none = sOf (l.drop (i + l.length).toNat) := by
  rw [← slice_from h1 (by omega)]
  unfold Txt.slice
  rw [StrLaws.sliceIdx_neg_lo none _ h0 (by rw [sOf_len]; omega), sOf_len]
theorem slice_ab {i j : Int} (h0 : 0 ≤ i) (h1 : i ≤ j) (h2 : j ≤ l.length) : Txt.slice (sOf l) (some i) (some j) = sOf ((l.drop i.toNat).take (j - i).toNat) :=
  beq_iff_eq.mp (slice_closes (x := sOf l) ⟨h0, h1, by rw [sOf_list]; exact h2⟩)
theorem r_neg_to {slice : Expr} {j : Int} {uj : Tok} (F : Fr h₀ L s.heap m) (N : News h₀ L s.heap news) (h0 : j < 0) (h1 : 0 ≤ j + l.length) (hl : l.length ≤ 1000000)
    (h : ∀ h' t' k, Fr h₀ L h' m → News h₀ L h' news → Q (.str (sOf (l.take (j + l.length).toNat)) t') { s with heap := h', toks := k })
    (hs : subscripted slice false (.str (sOf l) t) (.ref s.heap.objs.size) = operate [.ref s.heap.objs.size, .str (sOf l) t] (getItem (.str (sOf l) t) (.ref s.heap.objs.size)) := by with_unfolding_all rfl)
    (ht : ∀ r, letTemporaryGo value (.str (sOf l) t) r = pure () := by intro _; with_unfolding_all rfl) :
    wpAny (model prog w) A (subscriptTail value slice (.str (sOf l) t) (.ref s.heap.objs.size)) Q E { s with heap := s.heap.push { cls := .type "slice", data := .fields #[.none, .int j uj, .none] } } :=
  slice_strN_ns F N (fun h' t' k F' N' => by rw [slice_neg_to h0 h1]; exact h h' t' k F' N') hs ht (by rw [sOf_len, sizeLine_eq]; omega)
theorem r_neg_from {slice : Expr} {i : Int} {ui : Tok} (F : Fr h₀ L s.heap m) (N : News h₀ L s.heap news) (h0 : i < 0) (h1 : 0 ≤ i + l.length) (hl : l.length ≤ 1000000)
    (h : ∀ h' t' k, Fr h₀ L h' m → News h₀ L h' news → Q (.str (sOf (l.drop (i + l.length).toNat)) t') { s with heap := h', toks := k })
    (hs : subscripted slice false (.str (sOf l) t) (.ref s.heap.objs.size) = operate [.ref s.heap.objs.size, .str (sOf l) t] (getItem (.str (sOf l) t) (.ref s.heap.objs.size)) := by with_unfolding_all rfl)
    (ht : ∀ r, letTemporaryGo value (.str (sOf l) t) r = pure () := by intro _; with_unfolding_all rfl) :
    wpAny (model prog w) A (subscriptTail value slice (.str (sOf l) t) (.ref s.heap.objs.size)) Q E { s with heap := s.heap.push { cls := .type "slice", data := .fields #[.int i ui, .none, .none] } } :=
  slice_strN_sn F N (fun h' t' k F' N' => by rw [slice_neg_from h0 h1]; exact h h' t' k F' N') hs ht (by rw [sOf_len, sizeLine_eq]; omega)
theorem r_ab {slice : Expr} {i j : Int} {ui uj : Tok} (F : Fr h₀ L s.heap m) (N : News h₀ L s.heap news) (h0 : 0 ≤ i) (h1 : i ≤ j) (h2 : j ≤ l.length) (hl : l.length ≤ 1000000)
    (h : ∀ h' t' k, Fr h₀ L h' m → News h₀ L h' news → Q (.str (sOf ((l.drop i.toNat).take (j - i).toNat)) t') { s with heap := h', toks := k })
    (hs : subscripted slice false (.str (sOf l) t) (.ref s.heap.objs.size) = operate [.ref s.heap.objs.size, .str (sOf l) t] (getItem (.str (sOf l) t) (.ref s.heap.objs.size)) := by with_unfolding_all rfl)
    (ht : ∀ r, letTemporaryGo value (.str (sOf l) t) r = pure () := by intro _; with_unfolding_all rfl) :
    wpAny (model prog w) A (subscriptTail value slice (.str (sOf l) t) (.ref s.heap.objs.size)) Q E { s with heap := s.heap.push { cls := .type "slice", data := .fields #[.int i ui, .int j uj, .none] } } :=
  slice_strN_ss F N (fun h' t' k F' N' => by rw [slice_ab h0 h1 h2]; exact h h' t' k F' N') hs ht (by rw [sOf_len, sizeLine_eq]; omega)
end

section
variable {prog : Program} {w : World} {A : Around} {E : Value → Shared → Prop} {s : Shared} {Q : Value → Shared → Prop} {t u : Tok} {l : List Nat} {k : Int}
theorem one_at {l : List Nat} {k : Nat} (h : k < l.length) : (l.drop k).take 1 = [l[k]] := by
  rw [List.drop_eq_getElem_cons h, List.take_succ_cons, List.take_zero]
theorem r_getitem (h0 : 0 ≤ k) (h1 : k < l.length) (hl : l.length ≤ 1000000) (h : Q (.str (sOf ((l.drop k.toNat).take 1)) s.toks) { s with toks := s.toks + 1 }) : wpAny (model prog w) A (getItem (.str (sOf l) t) (.int k u)) Q E s := by
  have hk : k.toNat < l.length := by omega
  refine getItem_str (c := l[k.toNat]) (by rw [decide_eq_false (by omega), decide_eq_false (by omega)]; rfl) ?_ ?_
  · have e0 : seqIndex? k (sOf l).length = some k.toNat := by
      unfold seqIndex?
      have hn : ¬ k < 0 := by omega
      rw [sOf_len]
      simp only [if_neg hn]
      have e : (decide (0 ≤ k) && decide (k < (l.length : Int))) = true := by rw [decide_eq_true h0, decide_eq_true h1]; rfl
      rw [if_pos e]
    rw [e0]
    show l.toArray[k.toNat]? = some l[k.toNat]
    simp [hk]
  · have e : (⟨#[l[k.toNat]]⟩ : PySem.Str) = sOf ((l.drop k.toNat).take 1) := by
      rw [one_at hk]; rfl
    rw [e]; exact h
theorem r_item {value slice : Expr} (h0 : 0 ≤ k) (h1 : k < l.length) (hl : l.length ≤ 1000000) (h : Q (.str (sOf ((l.drop k.toNat).take 1)) s.toks) { s with toks := s.toks + 1 })
    (hs : subscripted slice false (.str (sOf l) t) (.int k u) = operate [.str (sOf l) t, .int k u] (getItem (.str (sOf l) t) (.int k u)) := by with_unfolding_all rfl) : wpAny (model prog w) A (subscriptTail value slice (.str (sOf l) t) (.int k u)) Q E s :=
  tail_any (typeIs_str _ _ _) slot_str_getitem.lookup (r_getitem h0 h1 hl h) hs
end

end Mine
end

-- part M4
section
open PySem PySem.W PyProof.Rows PySem.Calls PySem.Spec PySem.NumText
namespace Mine

theorem digs_all (n : Int) : AllDigits (digs n) := by
  intro c hc
  obtain ⟨ch, hch, e⟩ := List.mem_map.mp hc
  have r := digit_range (Nat.isDigit_of_mem_toDigits (by decide) (by decide) hch)
  rw [← e]
  exact r
theorem digs_val (n : Int) : digitsVal (digs n) = n.toNat := KIN.val_back _
theorem digs_ne (n : Int) : digs n ≠ [] := by
  intro e
  have h := toDigits_len_ge 10 n.toNat
  unfold digs at e
  rw [List.map_eq_nil_iff.mp e] at h
  exact absurd h (by decide)
theorem digit_zero : ∀ d : Nat, d < 10 → (Nat.digitChar d).toNat = 48 → d = 0 := by decide
theorem todig_head (m : Nat) (hm : 1 ≤ m) : ((Nat.toDigits 10 m).map Char.toNat).head? ≠ some 48 := by
  induction m using Nat.strongRecOn with
  | _ m ih =>
    by_cases h : m < 10
    · rw [Nat.toDigits_of_lt_base h]
      intro e
      have e' : (Nat.digitChar m).toNat = 48 := by simpa using e
      have := digit_zero m h e'
      omega
    · have hm2 : m % 10 < 10 := Nat.mod_lt m (by decide)
      have t : Nat.toDigits 10 (m / 10) ++ Nat.toDigits 10 (m % 10) = Nat.toDigits 10 (10 * (m / 10) + m % 10) := Nat.toDigits_append_toDigits (by decide) (by omega) hm2
      rw [Nat.div_add_mod] at t
      rw [← t, List.map_append]
      have hne : (Nat.toDigits 10 (m / 10)).map Char.toNat ≠ [] := by
        intro e
        have h := toDigits_len_ge 10 (m / 10)
        rw [List.map_eq_nil_iff.mp e] at h
        exact absurd h (by decide)
      intro e
      refine ih (m / 10) (by omega) (by omega) ?_
      rw [← e]
      cases hq : (Nat.toDigits 10 (m / 10)).map Char.toNat with
      | nil => exact absurd hq hne
      | cons c r => rfl
theorem digs_len {n : Int} {k : Nat} (h0 : 0 ≤ n) (hk : 0 < k) (h : n < 10 ^ k) : (digs n).length ≤ k := by
  have e := toString_length_le h0 hk h
  rw [str_num h0, sOf_len] at e
  exact e

/-- the two halves of a decimal's text -/
structure DecOk (A B : List Nat) (p : Int) (N : Int) : Prop where
  a : AllDigits A
  b : AllDigits B
  an : A ≠ []
  bp : (B.length : Int) = p
  len : A.length + B.length ≤ 400
  hd : A.length ≤ 1 ∨ A.head? ≠ some 48
  val : ((digitsVal (A ++ B) : Nat) : Int) = N

theorem val_zeros (k : Nat) (l : List Nat) : digitsVal (List.replicate k 48 ++ l) = digitsVal l := by
  induction k with
  | zero => rfl
  | succ k ih => rw [List.replicate_succ, List.cons_append]; exact ih
def padded (N p : Int) : List Nat := List.replicate (p + 1 - ((digs N).length : Int)).toNat 48 ++ digs N
theorem padded_len (N p : Int) (hp : 1 ≤ p) : p + 1 ≤ ((padded N p).length : Int) := by
  unfold padded
  rw [List.length_append, List.length_replicate]
  omega
theorem dec_ok {N p : Int} (h0 : 0 ≤ N) (hN : N < 10 ^ 300) (hp : 1 ≤ p) (hp2 : p ≤ 206) :
    DecOk ((padded N p).take (-p + ((padded N p).length : Int)).toNat) ((padded N p).drop (-p + ((padded N p).length : Int)).toNat) p N := by
  have hl := digs_len h0 (by decide) hN
  have hpl := padded_len N p hp
  have hall : AllDigits (padded N p) := by
    intro c hc
    unfold padded at hc
    rcases List.mem_append.mp hc with h | h
    · have := (List.mem_replicate.mp h).2
      omega
    · exact digs_all N c h
  have hlen : ((padded N p).length : Int) ≤ 300 := by
    unfold padded
    rw [List.length_append, List.length_replicate]
    omega
  refine ⟨fun c hc => hall c (List.mem_of_mem_take hc), fun c hc => hall c (List.mem_of_mem_drop hc), ?_, ?_, ?_, ?_, ?_⟩
  · intro e
    have := congrArg List.length e
    rw [List.length_take] at this
    simp only [List.length_nil] at this
    omega
  · rw [List.length_drop]; omega
  · rw [List.length_take, List.length_drop]; omega
  · by_cases hc : p + 1 - ((digs N).length : Int) ≤ 0
    · right
      have e0 : (p + 1 - ((digs N).length : Int)).toNat = 0 := by omega
      have e1 : padded N p = digs N := by unfold padded; rw [e0]; rfl
      rw [e1]
      have hN1 : 1 ≤ N.toNat := by
        rcases Nat.eq_zero_or_pos N.toNat with h | h
        · exfalso
          have : (digs N).length = 1 := by unfold digs; rw [h]; decide
          omega
        · exact h
      have hh := todig_head N.toNat hN1
      intro e
      apply hh
      rw [← e]
      show (digs N).head? = _
      obtain ⟨k, hk⟩ : ∃ k, (-p + ((digs N).length : Int)).toNat = k + 1 := ⟨(-p + ((digs N).length : Int)).toNat - 1, by omega⟩
      rw [hk]
      cases digs N <;> rfl
    · left
      have : ((padded N p).length : Int) = p + 1 := by
        unfold padded
        rw [List.length_append, List.length_replicate]
        omega
      rw [List.length_take]
      omega
  · rw [List.take_append_drop]
    unfold padded
    rw [val_zeros, digs_val]
    omega

theorem ten_le {p : Int} (hp : 0 ≤ p) (hp2 : p ≤ 206) : (0 : Int) < 10 ^ p.toNat ∧ (10 : Int) ^ p.toNat ≤ 10 ^ 206 := ⟨ipow_pos _ (by decide), ipow_le (by decide) (by omega)⟩
theorem sm_tenp {p : Int} (hp : 0 ≤ p) (hp2 : p ≤ 206) : Sm (10 ^ p.toNat) := by
  have h := ten_le hp hp2
  exact sm_of (k := 700) (by omega) (Int.lt_of_le_of_lt h.2 (by decide +kernel)) (by decide)
theorem top_n {x p y : Int} (hx : 0 < x) (hx2 : x < 2 ^ 308) (hp : 0 ≤ p) (hp2 : p ≤ 206) (hy : 0 < y) : 0 ≤ (x * 10 ^ p.toNat).fdiv y ∧ (x * 10 ^ p.toNat).fdiv y < 10 ^ 300 := by
  have h := ten_le hp hp2
  have hm : 0 ≤ x * 10 ^ p.toNat := Int.mul_nonneg (by omega) (by omega)
  rw [Int.fdiv_eq_ediv_of_nonneg _ (by omega)]
  refine ⟨Int.ediv_nonneg hm (by omega), Int.lt_of_le_of_lt (Int.ediv_le_self _ hm) ?_⟩
  have h2 : x * 10 ^ p.toNat ≤ 2 ^ 308 * 10 ^ 206 := mul_lt_mul' (by omega) (by omega) (by omega) h.2
  exact Int.lt_of_le_of_lt h2 (by decide +kernel)
end Mine
end

-- part C7
section
open PySem PySem.W PyProof.Rows PySem.Calls PySem.Spec
namespace Mine
local macro_rules | `(tactic| walk_at "binaryOp FloorDiv int int") => `(tactic| (k_here; (with_reducible refine floordiv_int ?kbe ?_ (Or.inl (PyProof.noPylong_of_log2 ?kbp))); (case kbe => assumption); (case kbp => assumption)))
local macro_rules | `(tactic| walk_at "binaryOp Mult int int") => `(tactic| (k_here; (with_reducible refine mul_int ?_ ?kba); (case kba => assumption)))
local macro_rules | `(tactic| walk_at "binaryOp Pow int int") => `(tactic| (k_here; (with_reducible refine pow_int_small ?kb1 ?kb2 ?kb3 ?_); (case kb1 => omega); (case kb2 => omega); (case kb3 => decide)))
local macro_rules | `(tactic| walk_at "call type:str") => `(tactic| (k_here; (with_reducible refine r_str ?kb0 ?kb1 ?_); (case kb0 => assumption); (case kb1 => assumption)))
local macro_rules | `(tactic| walk_at "call builtin:len") => `(tactic| (k_here; (with_reducible refine r_len ?kb0 ?_); (case kb0 => ((try simp only [List.length_append, List.length_replicate]); omega))))
local macro_rules | `(tactic| walk_at "binaryOp Mult str int") => `(tactic| (k_here; (with_reducible refine r_zeros ?kb0 ?kb1 ?_); (case kb0 => omega); (case kb1 => omega); intro t9 tk9))
local macro_rules | `(tactic| walk_at "binaryOp Add str str") => `(tactic| (k_here; (first | with_reducible refine r_add ?kb0 ?_ | with_reducible refine r_addPoint ?kb0 ?_); (case kb0 => ((try simp only [List.length_append, List.length_replicate, List.length_take, List.length_drop, List.length_cons, List.length_nil]); omega)); intro t9 tk9))
local macro_rules | `(tactic| walk_at "subscriptTail") => `(tactic| (k_here; (with_reducible show wpAny _ _ (subscriptTail _ (Expr.Slice none (some _) none _) _ _) _ _ _); (with_reducible rename Fr _ _ _ _ => F'); (with_reducible rename News _ _ _ _ => N'); (refine r_neg_to (s := ⟨_, _, _, _, _⟩) F' N' ?kb0 ?kb1 ?kb2 ?_); (case kb0 => omega); (case kb1 => (try simp only [List.length_append, List.length_replicate]); omega); (case kb2 => (try simp only [List.length_append, List.length_replicate]); omega); intro h9 t9 tk9 F9 N9))
local macro_rules | `(tactic| walk_at "subscriptTail") => `(tactic| (k_here; (with_reducible show wpAny _ _ (subscriptTail _ (Expr.Slice (some _) none none _) _ _) _ _ _); (with_reducible rename Fr _ _ _ _ => F'); (with_reducible rename News _ _ _ _ => N'); (refine r_neg_from (s := ⟨_, _, _, _, _⟩) F' N' ?kb0 ?kb1 ?kb2 ?_); (case kb0 => omega); (case kb1 => (try simp only [List.length_append, List.length_replicate]); omega); (case kb2 => (try simp only [List.length_append, List.length_replicate]); omega); intro h9 t9 tk9 F9 N9))

abbrev RetDec (news : Led) (x y : Int) (h₀ : Heap) (L : Addr) (m : Nm) (s : Shared) (Q : Value → Shared → Prop) : Prop :=
  ∀ (A B : List Nat) (t : Tok) (h' : Heap) (tk' : Nat), DecOk A B (places y) ((x * 10 ^ (places y).toNat).fdiv y) → Fr h₀ L h' m → News h₀ L h' news → Q (.str (sOf (A ++ [46] ++ B)) t) { s with heap := h', toks := tk' }

set_option maxRecDepth 100000 in
set_option maxHeartbeats 8000000 in
theorem c_dtext (w : World) (mean : Mean) (mg mb : Nm) (rest : Led) (q : Addr) (x y : Int) (t u : Tok) (hx : 0 < x) (hx2 : x < 2 ^ 308) (hy : 0 < y) (hsy : Sm y) (hp : 1 ≤ places y) (hp2 : places y ≤ 206) :
    Cl w mean mg mb 20 233 [.ref q] ((q, tupO [.int x t, .int y u]) :: rest) (RetDec ((q, tupO [.int x t, .int y u]) :: rest) x y) := by
  dsimp only [Cl]
  w_top off
  k_fill
  intro dp un gd cn cs a ccd cl outer A₀ base h₀ L m s Q E B₀ F X N T hkk hd hu hret
  obtain ⟨hnn, hnb⟩ := top_n (p := places y) hx hx2 (by omega) hp2 hy
  have hm := mul_ok (sm_of (k := 308) (by omega) hx2 (by decide)) (sm_tenp (p := places y) (by omega) hp2)
  have hn : y ≠ 0 := by omega
  have hl := hsy.log
  have hs : ((x * 10 ^ (places y).toNat).fdiv y).natAbs.log2 < 1920 := log2_of hnn (Int.lt_of_lt_of_le hnb (by decide +kernel)) (by decide)
  have hdl := digs_len hnn (by decide) hnb
  have hend := dec_ok hnn hnb hp hp2
  clear hx2 hnb
  refine wpAny_call ?_
  k_dflt ktr_enter
  k_with_none
  k_with "call ref" => ((with_reducible show wpAny _ _ (call (Value.ref 226) _) _ _ _); k_here; refine' cl_use (c_places _ _ _ _ _ _ _ ?hx) ?k1 ?k2 ?k3 ?k4 ?k5 ?kK ?kd ?ku ?_; (case k1 => k_asm); (case k2 => k_asm); (case k3 => k_asm); (case k4 => k_asm); (case k5 => k_asm); (case kK => first | exact rfl | assumption); (case kd => ktr_room); (case ku => ktr_units); (case hx => first | assumption | decide); intro t9 h9 tk9 F9 N9; (try dsimp only); (try k_fold); walk_say "PLACES")
  k_steps
  all_goals exact hret _ _ _ _ _ hend (by assumption) (by assumption)
end Mine
end

-- part S1
section
open PySem PySem.W PyProof.Rows PySem.Calls PySem.Spec PySem.NumText
namespace Mine
def IsD (g : List Nat) : Prop := ∃ c, g = [c] ∧ 48 ≤ c ∧ c ≤ 57
def noD (S : PySem.Str) : Bool := S.cps.toList.all fun d => !(decide (48 ≤ d) && decide (d ≤ 57))
theorem isD_ne {g : List Nat} (h : IsD g) {S : PySem.Str} (hS : noD S = true) : (sOf g == S) = false := by
  obtain ⟨c, rfl, h1, h2⟩ := h
  rw [beq_eq_false_iff_ne]
  intro e
  unfold noD at hS
  rw [← e, sOf_list] at hS
  simp [h1, h2] at hS
section
variable {prog : Program} {w : World} {A : Around} {E : Value → Shared → Prop} {s : Shared} {Q : Value → Shared → Prop} {t u : Tok} {g : List Nat} {S : PySem.Str}
theorem r_eq {b : Bool} (hb : (sOf g == S) = b) (h : Q (.bool b) s) : wpAny (model prog w) A (compareOp .Eq (.str (sOf g) t) (.str S u)) Q E s :=
  PyProof.Rows.eq_str (by rw [hb]; exact h)
theorem r_ne {b : Bool} (hb : (sOf g == S) = b) (h : Q (.bool !b) s) : wpAny (model prog w) A (compareOp .NotEq (.str (sOf g) t) (.str S u)) Q E s :=
  PyProof.Rows.ne_str (by rw [bne, hb]; exact h)
theorem in_val (c : Nat) (S : PySem.Str) : (!(Builtin.Str.occurrences S (sOf [c]) 0 S.length 1).isEmpty) = decide (c ∈ S.cps.toList) := StrLaws.found_one S c
theorem r_inYes (h : IsD g) (hq : Q (.bool true) s) : wpAny (model prog w) A (compareOp .In (.str (sOf g) u) (.str (PySem.Str.ofString "0123456789") t)) Q E s := by
  obtain ⟨c, rfl, h1, h2⟩ := h
  refine PyProof.Rows.in_str ?_
  rw [in_val, decide_eq_true]
  · exact hq
  · have e : (PySem.Str.ofString "0123456789").cps.toList = [48, 49, 50, 51, 52, 53, 54, 55, 56, 57] := by decide
    rw [e]
    have h : c = 48 ∨ c = 49 ∨ c = 50 ∨ c = 51 ∨ c = 52 ∨ c = 53 ∨ c = 54 ∨ c = 55 ∨ c = 56 ∨ c = 57 := by omega
    simp only [List.mem_cons, List.not_mem_nil, or_false]
    exact h
theorem r_inNo (h : IsD g) (hS : noD S = true) (hq : Q (.bool false) s) : wpAny (model prog w) A (compareOp .In (.str (sOf g) u) (.str S t)) Q E s := by
  obtain ⟨c, rfl, h1, h2⟩ := h
  refine PyProof.Rows.in_str ?_
  rw [in_val, decide_eq_false]
  · exact hq
  · intro hm
    have := List.all_eq_true.mp hS c hm
    simp [h1, h2] at this
theorem r_inPoint (hq : Q (.bool false) s) : wpAny (model prog w) A (compareOp .In (.str (sOf [46]) u) (.str (PySem.Str.ofString "0123456789") t)) Q E s := by
  refine PyProof.Rows.in_str ?_
  rw [in_val]
  exact hq
end

def WOnce (Q : Flow → Shared → Prop) (f : Flow) (s : Shared) : Prop :=
  match f with
  | .ret v => Q (.ret v) s
  | .brk => Q .next s
  | _ => False
/-- a while that leaves in its first turn, or does not begin -/
theorem while_once {prog : Program} {w : World} {A : Around} {E : Value → Shared → Prop} {Q : Flow → Shared → Prop} {s : Shared} {env : Env} {h₀ : Heap} {L : Addr} {test : Expr} {body : List Stmt} {pos : Pos} {m : Nm} {news : Led}
    (F : Fr h₀ L s.heap m) (N : News h₀ L s.heap news)
    (turn : ∀ h₁ tk₁, Fr h₀ L h₁ m → News h₀ L h₁ news →
      wpAny (model prog w) A (isTrue test env (eval test env)) (fun b s₂ =>
        if b = true then wpAny (model prog w) A (execs body env) (WOnce Q) E s₂ else Q .next s₂) E { s with heap := h₁, toks := tk₁ })
    (hE : PassesOwn (model prog w) A env E := by passes_own) :
    wpAny (model prog w) A (exec (.While test body [] pos) env) Q E s := by
  refine While_inv2 (fun n m' nx => m' = m ∧ nx = news) F N (n₀ := 0) ⟨rfl, rfl⟩ ?_ hE
  rintro n m₁ nx h tk F₁ N₁ ⟨rfl, rfl⟩
  refine wpAny_mono (turn h tk F₁ N₁) (fun b s₂ p => ?_) fun _ _ x => x
  cases b with
  | false => simpa using p
  | true =>
    simp only [if_true] at p ⊢
    refine wpAny_mono p (fun f s₃ q => ?_) fun _ _ x => x
    cases f with
    | ret v => exact q
    | brk => exact q
    | next => exact q.elim
    | cont => exact q.elim
end Mine
end

-- part C8
section
open PySem PySem.W PyProof.Rows PySem.Calls PySem.Spec PySem.NumText
namespace Mine
local macro_rules | `(tactic| k_all) => `(tactic| assumption)
local macro_rules | `(tactic| k_ne) => `(tactic| assumption)

abbrev scO (h1 h2 : Int) (k1 k2 t1 t2 : Tok) (T : List Nat) (k : Int) : Obj := dictOf [⟨h1, .str (Str.ofString "text") k1, .str (sOf T) t1⟩, ⟨h2, .str (Str.ofString "spot") k2, .int k t2⟩] 2
abbrev scI (dx : Addr) : Obj := instObj 194 dx

local macro_rules | `(tactic| walk_at "call builtin:len") => `(tactic| (k_here; (with_reducible refine r_len ?kb0 ?_); (case kb0 => omega)))
local macro_rules | `(tactic| walk_at "subscriptTail") => `(tactic| (k_here; (with_reducible show wpAny _ _ (subscriptTail _ _ (Value.str _ _) (Value.int _ _)) _ _ _); (refine r_item ?kb0 ?kb1 ?kb2 ?_); (case kb0 => omega); (case kb1 => omega); (case kb2 => omega)))
set_option maxRecDepth 100000 in
set_option maxHeartbeats 8000000 in
theorem c_sign (w : World) (mean : Mean) (mg mb : Nm) (rest : Led) (x dx : Addr) (h1 h2 : Int) (k1 k2 t1 t2 : Tok) (T : List Nat) (k : Int) (hk0 : 0 ≤ k) (hk : k ≤ T.length) (hT : T.length ≤ 1000000) :
    Cl w mean mg mb 20 128 [.ref x] ((x, scI dx) :: (dx, scO h1 h2 k1 k2 t1 t2 T k) :: rest) (RetV ((x, scI dx) :: (dx, scO h1 h2 k1 k2 t1 t2 T k) :: rest) (fun t => .str (sOf ((T.drop k.toNat).take 1)) t)) := by
  dsimp only [Cl]
  w_top off
  k_fill
  intro dp un gd cn cs a ccd cl outer A₀ base h₀ L m s Q E B₀ F X N T₀ hkk hd hu hret
  refine wpAny_call ?_
  k_dflt ktr_enter
  k_with_none
  k_steps
  · exact hret _ _ _ (by assumption) (by assumption)
  · have e : Str.ofString "" = sOf ((T.drop k.toNat).take 1) := by
      rw [List.drop_eq_nil_of_le (by omega)]; decide
    rw [e]
    exact hret _ _ _ (by assumption) (by assumption)
end Mine
end

-- part C9
section
open PySem PySem.W PyProof.Rows PySem.Calls PySem.Spec PySem.NumText
namespace Mine
local macro_rules | `(tactic| k_all) => `(tactic| assumption)
local macro_rules | `(tactic| k_ne) => `(tactic| assumption)

local macro_rules | `(tactic| walk_at "call builtin:len") => `(tactic| (k_here; (with_reducible refine r_len ?kb0 ?_); (case kb0 => omega)))
local macro_rules | `(tactic| walk_at "subscriptTail") => `(tactic| (k_here; (with_reducible show wpAny _ _ (subscriptTail _ _ (Value.str _ _) (Value.int _ _)) _ _ _); (refine r_item ?kb0 ?kb1 ?kb2 ?_); (case kb0 => omega); (case kb1 => omega); (case kb2 => omega)))
local macro_rules | `(tactic| walk_at "WOnce") => `(tactic| (dsimp only [WOnce]))
local macro_rules | `(tactic| walk_at "compareOp Eq str str") => `(tactic| (k_here; (refine r_eq (isD_ne ?kb0 ?kb1) ?_); (case kb0 => assumption); (case kb1 => decide)))
local macro_rules | `(tactic| walk_at "compareOp In str str") => `(tactic| (k_here; (refine r_inNo ?kb0 ?kb1 ?_); (case kb0 => assumption); (case kb1 => decide)))

/-- there is nothing to skip -/
abbrev RetN (news : Led) (h₀ : Heap) (L : Addr) (m : Nm) (s : Shared) (Q : Value → Shared → Prop) : Prop :=
  ∀ (h' : Heap) (tk' : Nat), Fr h₀ L h' m → News h₀ L h' news → Q .none { s with heap := h', toks := tk' }

set_option maxRecDepth 100000 in
set_option maxHeartbeats 8000000 in
theorem c_skip1 (w : World) (mean : Mean) (mg mb : Nm) (rest : Led) (x dx : Addr) (h1 h2 : Int) (k1 k2 t1 t2 : Tok) (T : List Nat) (k : Int) (hk0 : 0 ≤ k) (hk : k < T.length) (hT : T.length ≤ 1000000) (hg : IsD ((T.drop k.toNat).take 1)) :
    Cl w mean mg mb 20 135 [.ref x] ((x, scI dx) :: (dx, scO h1 h2 k1 k2 t1 t2 T k) :: rest) (RetN ((x, scI dx) :: (dx, scO h1 h2 k1 k2 t1 t2 T k) :: rest)) := by
  dsimp only [Cl]
  w_top off
  k_fill
  intro dp un gd cn cs a ccd cl outer A₀ base h₀ L m s Q E B₀ F X N T₀ hkk hd hu hret
  refine wpAny_call ?_
  k_dflt ktr_enter
  k_with_none
  k_with "exec While Compare cons nil" => (k_here; (rename Fr _ _ _ _ => lF'); (rename News _ _ _ _ => lN'); (with_unfolding_all refine' while_once lF' lN' ?_); (clear lF' lN'); intro h9 tk9 F9 N9; (try k_fold))
  k_steps
  all_goals exact hret _ _ (by assumption) (by assumption)

set_option maxRecDepth 100000 in
set_option maxHeartbeats 8000000 in
theorem c_skip0 (w : World) (mean : Mean) (mg mb : Nm) (rest : Led) (x dx : Addr) (h1 h2 : Int) (k1 k2 t1 t2 : Tok) (T : List Nat) (k : Int) (hk0 : 0 ≤ k) (hk : k = T.length) (hT : T.length ≤ 1000000) :
    Cl w mean mg mb 20 135 [.ref x] ((x, scI dx) :: (dx, scO h1 h2 k1 k2 t1 t2 T k) :: rest) (RetN ((x, scI dx) :: (dx, scO h1 h2 k1 k2 t1 t2 T k) :: rest)) := by
  dsimp only [Cl]
  w_top off
  k_fill
  intro dp un gd cn cs a ccd cl outer A₀ base h₀ L m s Q E B₀ F X N T₀ hkk hd hu hret
  refine wpAny_call ?_
  k_dflt ktr_enter
  k_with_none
  k_with "exec While Compare cons nil" => (k_here; (rename Fr _ _ _ _ => lF'); (rename News _ _ _ _ => lN'); (with_unfolding_all refine' while_once lF' lN' ?_); (clear lF' lN'); intro h9 tk9 F9 N9; (try k_fold))
  k_steps
  all_goals exact hret _ _ (by assumption) (by assumption)
end Mine
end

-- part C10
section
open PySem PySem.W PyProof.Rows PySem.Calls PySem.Spec PySem.NumText
namespace Mine
local macro_rules | `(tactic| k_all) => `(tactic| assumption)
local macro_rules | `(tactic| k_ne) => `(tactic| assumption)

/-- a run of figures, from a to e -/
structure RunAt (T : List Nat) (a e : Int) : Prop where
  a0 : 0 ≤ a
  ae : a ≤ e
  et : e ≤ T.length
  d : ∀ j : Int, a ≤ j → j < e → IsD ((T.drop j.toNat).take 1)
  p : e < T.length → (T.drop e.toNat).take 1 = [46]

def SpotStep (h₀ : Heap) (L : Addr) (m : Nm) (s : Shared) (x dx : Addr) (h1 h2 : Int) (k1 k2 t1 : Tok) (T : List Nat) (rest : Led) (W : Int → Prop) (μ : Int → Nat) (j : Int) (s₂ : Shared) : Prop :=
  ∃ (j' : Int) (u' : Tok) (h' : Heap) (tk' : Nat), s₂ = { s with heap := h', toks := tk' } ∧ Fr h₀ L h' m ∧ News h₀ L h' ((x, scI dx) :: (dx, scO h1 h2 k1 k2 t1 u' T j') :: rest) ∧ W j' ∧ μ j' < μ j
def SpotEnd (h₀ : Heap) (L : Addr) (m : Nm) (s : Shared) (x dx : Addr) (h1 h2 : Int) (k1 k2 t1 : Tok) (T : List Nat) (rest : Led) (W : Int → Prop) (μ : Int → Nat) (Q : Flow → Shared → Prop) (j : Int) (f : Flow) (s₂ : Shared) : Prop :=
  match f with
  | .ret v => Q (.ret v) s₂
  | .brk => Q .next s₂
  | _ => SpotStep h₀ L m s x dx h1 h2 k1 k2 t1 T rest W μ j s₂

theorem while_spot {prog : Program} {w : World} {A : Around} {E : Value → Shared → Prop} {Q : Flow → Shared → Prop} {s : Shared} {env : Env} {h₀ : Heap} {L : Addr} {test : Expr} {body : List Stmt} {pos : Pos} {m : Nm} {rest : Led} {x dx : Addr} {h1 h2 : Int} {k1 k2 t1 t2 : Tok} {T : List Nat} {k : Int}
    (W : Int → Prop) (μ : Int → Nat) (F : Fr h₀ L s.heap m) (N : News h₀ L s.heap ((x, scI dx) :: (dx, scO h1 h2 k1 k2 t1 t2 T k) :: rest)) (hW : W k)
    (turn : ∀ j u h tk, W j → Fr h₀ L h m → News h₀ L h ((x, scI dx) :: (dx, scO h1 h2 k1 k2 t1 u T j) :: rest) →
      wpAny (model prog w) A (isTrue test env (eval test env)) (fun b s₂ =>
        if b = true then wpAny (model prog w) A (execs body env) (SpotEnd h₀ L m s x dx h1 h2 k1 k2 t1 T rest W μ Q j) E s₂ else Q .next s₂) E { s with heap := h, toks := tk })
    (hE : PassesOwn (model prog w) A env E := by passes_own) :
    wpAny (model prog w) A (exec (.While test body [] pos) env) Q E s := by
  refine While_inv2 (fun n m' nx => ∃ j u, n = μ j ∧ W j ∧ m' = m ∧ nx = (x, scI dx) :: (dx, scO h1 h2 k1 k2 t1 u T j) :: rest) F N (n₀ := μ k) ⟨k, t2, rfl, hW, rfl, rfl⟩ ?_ hE
  rintro n m₁ nx h tk F₁ N₁ ⟨j, u, rfl, hj, rfl, rfl⟩
  refine wpAny_mono (turn j u h tk hj F₁ N₁) (fun b s₂ p => ?_) fun _ _ x => x
  cases b with
  | false => simpa using p
  | true =>
    simp only [if_true] at p ⊢
    refine wpAny_mono p (fun f s₃ q => ?_) fun _ _ x => x
    cases f with
    | ret v => exact q
    | brk => exact q
    | next =>
      obtain ⟨j', u', h', tk', e, F', N', hW', hμ⟩ := q
      exact ⟨h', tk', _, _, μ j', e, F', N', hμ, j', u', rfl, hW', rfl, rfl⟩
    | cont =>
      obtain ⟨j', u', h', tk', e, F', N', hW', hμ⟩ := q
      exact ⟨h', tk', _, _, μ j', e, F', N', hμ, j', u', rfl, hW', rfl, rfl⟩

section
variable {prog : Program} {w : World} {A : Around} {E : Value → Shared → Prop} {s : Shared} {Q : Value → Shared → Prop} {t u : Tok} {T : List Nat} {a e j : Int}
theorem r_inRun (R : RunAt T a e) (h0 : a ≤ j) (h1 : j ≤ e) (h2 : j < T.length) (h : Q (.bool (decide (j < e))) s) : wpAny (model prog w) A (compareOp .In (.str (sOf ((T.drop j.toNat).take 1)) u) (.str (PySem.Str.ofString "0123456789") t)) Q E s := by
  by_cases hj : j < e
  · rw [decide_eq_true hj] at h
    exact r_inYes (R.d j h0 hj) h
  · rw [decide_eq_false hj] at h
    have e1 : j = e := by omega
    subst e1
    rw [R.p h2]
    exact r_inPoint h
end

local macro_rules | `(tactic| walk_at "call builtin:len") => `(tactic| (k_here; (with_reducible refine r_len ?kb0 ?_); (case kb0 => omega)))
local macro_rules | `(tactic| walk_at "subscriptTail") => `(tactic| (k_here; (with_reducible show wpAny _ _ (subscriptTail _ _ (Value.str _ _) (Value.int _ _)) _ _ _); (refine r_item ?kb0 ?kb1 ?kb2 ?_); (case kb0 => omega); (case kb1 => omega); (case kb2 => omega)))
local macro_rules | `(tactic| walk_at "subscriptTail") => `(tactic| (k_here; (with_reducible show wpAny _ _ (subscriptTail _ (Expr.Slice (some _) (some _) none _) _ _) _ _ _); (with_reducible rename Fr _ _ _ _ => F'); (with_reducible rename News _ _ _ _ => N'); (refine r_ab (s := ⟨_, _, _, _, _⟩) F' N' ?kb0 ?kb1 ?kb2 ?kb3 ?_); (case kb0 => omega); (case kb1 => omega); (case kb2 => omega); (case kb3 => omega); intro h9 t9 tk9 F9 N9))
local macro_rules | `(tactic| walk_at "compareOp In str str") => `(tactic| (k_here; (refine r_inRun (by assumption) ?kb0 ?kb1 ?kb2 ?_); (case kb0 => omega); (case kb1 => omega); (case kb2 => omega)))
local macro_rules | `(tactic| walk_at "SpotEnd") => `(tactic| (dsimp only [SpotEnd]))
local macro_rules | `(tactic| walk_at "SpotStep") => `(tactic| exact ⟨_, _, _, _, rfl, by assumption, by assumption, ⟨by omega, by omega⟩, by dsimp only; omega⟩)

abbrev RetRun (x dx : Addr) (h1 h2 : Int) (k1 k2 t1 : Tok) (T : List Nat) (rest : Led) (a e : Int) (h₀ : Heap) (L : Addr) (m : Nm) (s : Shared) (Q : Value → Shared → Prop) : Prop :=
  ∀ (t u : Tok) (h' : Heap) (tk' : Nat), Fr h₀ L h' m → News h₀ L h' ((x, scI dx) :: (dx, scO h1 h2 k1 k2 t1 u T e) :: rest) → Q (.str (sOf ((T.drop a.toNat).take (e - a).toNat)) t) { s with heap := h', toks := tk' }

set_option maxRecDepth 100000 in
set_option maxHeartbeats 8000000 in
theorem c_run (w : World) (mean : Mean) (mg mb : Nm) (rest : Led) (x dx : Addr) (h1 h2 : Int) (k1 k2 t1 t2 t3 : Tok) (T : List Nat) (a e : Int) (R : RunAt T a e) (hT : T.length ≤ 1000000) (hne : x ≠ dx) (hr : ∀ p ∈ rest, p.1 ≠ dx) :
    Cl w mean mg mb 20 142 [.ref x, .str (PySem.Str.ofString "0123456789") t3] ((x, scI dx) :: (dx, scO h1 h2 k1 k2 t1 t2 T a) :: rest) (RetRun x dx h1 h2 k1 k2 t1 T rest a e) := by
  dsimp only [Cl]
  w_top off
  k_fill
  intro dp un gd cn cs a₀ ccd cl outer A₀ base h₀ L m s Q E B₀ F X N T₀ hkk hd hu hret
  have ha0 := R.a0
  have hae := R.ae
  have het := R.et
  refine wpAny_call ?_
  k_dflt ktr_enter
  k_with_none
  k_with "exec While BoolOp" => (k_here; (rename Fr _ _ _ _ => lF'); (rename News _ _ _ _ => lN'); (with_unfolding_all refine' while_spot (fun j => a ≤ j ∧ j ≤ e) (fun j => (T.length - j).toNat) lF' lN' ?kW ?_); (case kW => exact ⟨by omega, by omega⟩); (clear lF' lN'); intro j9 u9 h9 tk9 hW9 F9 N9; (obtain ⟨hW8, hW9⟩ := hW9); (try k_fold))
  k_steps
  all_goals
    have hj : j9 = e := by omega
    subst hj
    exact hret _ _ _ _ (by assumption) (by assumption)
end Mine
end

-- part C11
section
open PySem PySem.W PyProof.Rows PySem.Calls PySem.Spec PySem.NumText
namespace Mine
section
variable {prog : Program} {w : World} {A : Around} {E : Value → Shared → Prop} {s : Shared} {Q : Value → Shared → Prop} {t u : Tok} {l : List Nat}
theorem r_int (ha : AllDigits l) (hn : l ≠ []) (hl : l.length ≤ 640) (h : Q (.int ((digitsVal l : Nat) : Int) s.toks) { s with toks := s.toks + 1 }) : wpAny (model prog w) A (call (.type "int") [.str (sOf l) t]) Q E s :=
  KIN.call_text (intText_digits (x := sOf l) ha hn (by rw [sOf_len]; omega)) (by rw [sOf_len]; exact hl) h
end
local macro_rules | `(tactic| walk_at "call builtin:len") => `(tactic| (k_here; (with_reducible refine r_len ?kb0 ?_); (case kb0 => omega)))
local macro_rules | `(tactic| walk_at "call type:int") => `(tactic| (k_here; (with_reducible refine r_int ?kb0 ?kb1 ?kb2 ?_); (case kb0 => assumption); (case kb1 => assumption); (case kb2 => omega)))
local macro_rules | `(tactic| walk_at "binaryOp Mult int int") => `(tactic| (k_here; (with_reducible refine mul_int ?_ ?kba); (case kba => assumption)))
local macro_rules | `(tactic| walk_at "binaryOp Pow int int") => `(tactic| (k_here; (with_reducible refine pow_int_small ?kb1 ?kb2 ?kb3 ?_); (case kb1 => omega); (case kb2 => omega); (case kb3 => decide)))

abbrev valI (l : List Nat) : Int := ((digitsVal l : Nat) : Int)
abbrev tenI (l : List Nat) : Int := 10 ^ ((l.length : Int)).toNat

theorem val_lt (l : List Nat) (h : AllDigits l) : digitsVal l < 10 ^ l.length := by
  suffices ∀ (l : List Nat) (acc : Nat), AllDigits l → l.foldl (fun acc c => acc * 10 + (c - 48)) acc + 1 ≤ (acc + 1) * 10 ^ l.length by
    have := this l 0 h
    unfold digitsVal
    omega
  intro l
  induction l with
  | nil => intro acc _; simp
  | cons c r ih =>
    intro acc ha
    rw [List.foldl_cons, List.length_cons]
    have h1 := ih (acc * 10 + (c - 48)) ha.tail
    have h2 := ha.head
    have h3 : (acc * 10 + (c - 48) + 1) * 10 ^ r.length ≤ (acc + 1) * 10 ^ (r.length + 1) := by
      rw [Nat.pow_succ, Nat.mul_comm (10 ^ r.length) 10, ← Nat.mul_assoc]
      exact Nat.mul_le_mul_right _ (by omega)
    omega
theorem sm_val (l : List Nat) (h : AllDigits l) (hl : l.length ≤ 400) : Sm (valI l) := by
  have h1 := val_lt l h
  have h2 : 10 ^ l.length ≤ 16 ^ l.length := Nat.pow_le_pow_left (by decide) _
  have h3 : (16 : Nat) ^ l.length = 2 ^ (4 * l.length) := by
    rw [Nat.pow_mul]
  refine ⟨Int.natCast_nonneg _, 4 * l.length, by omega, ?_⟩
  have h4 : digitsVal l < 2 ^ (4 * l.length) := by omega
  have h5 : ((digitsVal l : Nat) : Int) < ((2 ^ (4 * l.length) : Nat) : Int) := Int.ofNat_lt.mpr h4
  have e : ((2 ^ (4 * l.length) : Nat) : Int) = 2 ^ (4 * l.length) := by push_cast; rfl
  rw [e] at h5
  exact h5

set_option maxRecDepth 100000 in
set_option maxHeartbeats 8000000 in
theorem c_rod (w : World) (mean : Mean) (mg mb : Nm) (news : Led) (A B : List Nat) (t u : Tok) (hA : AllDigits A) (hB : AllDigits B) (hA1 : A ≠ []) (hB1 : B ≠ []) (hl : A.length + B.length ≤ 400) (hl2 : (B.length : Int) ≤ 206) :
    Cl w mean mg mb 20 92 [.str (sOf A) t, .str (sOf B) u] news (RetP news (lowI (valI A * tenI B + valI B) (tenI B)) (lowI (tenI B) (valI A * tenI B + valI B))) := by
  dsimp only [Cl]
  w_top off
  k_fill
  intro dp un gd cn cs a₀ ccd cl outer A₀ base h₀ L m s Q E B₀ F X N T₀ hkk hd hu hret
  have hm := mul_ok (sm_val A hA (by omega)) (sm_tenp (p := B.length) (by omega) hl2)
  have hp : 0 < tenI B := Int.pow_pos (by decide)
  have hn : 0 ≤ valI A * tenI B + valI B := Int.add_nonneg (Int.mul_nonneg (Int.natCast_nonneg _) (Int.le_of_lt hp)) (Int.natCast_nonneg _)
  have hs : Sm (tenI B) := sm_tenp (p := B.length) (by omega) hl2
  refine wpAny_call ?_
  k_dflt ktr_enter
  k_with_none
  k_with "call ref" => ((with_reducible show wpAny _ _ (call (Value.ref 85) _) _ _ _); k_here; refine' cl_use (c_ratio _ _ _ _ _ _ _ _ _ hn hp hs) ?k1 ?k2 ?k3 ?k4 ?k5 ?kK ?kd ?ku ?_; (case k1 => k_asm); (case k2 => k_asm); (case k3 => k_asm); (case k4 => k_asm); (case k5 => k_asm); (case kK => first | exact rfl | assumption); (case kd => ktr_room); (case ku => ktr_units); intro q9 t9 u9 h9 tk9 F9 N9 l9; (try dsimp only); (try k_fold); walk_say "RATIO")
  k_steps
  all_goals exact retP hret rfl rfl (by assumption) (by assumption) (by assumption)
end Mine
end

-- part C12
section
open PySem PySem.W PyProof.Rows PySem.Calls PySem.Spec PySem.NumText
namespace Mine
local macro_rules | `(tactic| k_all) => `(tactic| assumption)
local macro_rules | `(tactic| k_ne) => `(tactic| assumption)
theorem c_signG (w : World) (mean : Mean) (mg mb : Nm) (rest : Led) (x dx : Addr) (h1 h2 : Int) (k1 k2 t1 t2 : Tok) (T : List Nat) (k : Int) (g : List Nat) (hg : (T.drop k.toNat).take 1 = g) (hk0 : 0 ≤ k) (hk : k ≤ T.length) (hT : T.length ≤ 1000000) :
    Cl w mean mg mb 20 128 [.ref x] ((x, scI dx) :: (dx, scO h1 h2 k1 k2 t1 t2 T k) :: rest) (RetV ((x, scI dx) :: (dx, scO h1 h2 k1 k2 t1 t2 T k) :: rest) (fun t => .str (sOf g) t)) := by
  subst hg
  exact c_sign w mean mg mb rest x dx h1 h2 k1 k2 t1 t2 T k hk0 hk hT
abbrev RetRunG (x dx : Addr) (h1 h2 : Int) (k1 k2 t1 : Tok) (T : List Nat) (rest : Led) (e : Int) (D : List Nat) (h₀ : Heap) (L : Addr) (m : Nm) (s : Shared) (Q : Value → Shared → Prop) : Prop :=
  ∀ (t u : Tok) (h' : Heap) (tk' : Nat), Fr h₀ L h' m → News h₀ L h' ((x, scI dx) :: (dx, scO h1 h2 k1 k2 t1 u T e) :: rest) → Q (.str (sOf D) t) { s with heap := h', toks := tk' }
theorem c_runG (w : World) (mean : Mean) (mg mb : Nm) (rest : Led) (x dx : Addr) (h1 h2 : Int) (k1 k2 t1 t2 t3 : Tok) (T : List Nat) (a e : Int) (D : List Nat) (hD : (T.drop a.toNat).take (e - a).toNat = D) (R : RunAt T a e) (hT : T.length ≤ 1000000) (hne : x ≠ dx) (hr : ∀ p ∈ rest, p.1 ≠ dx) :
    Cl w mean mg mb 20 142 [.ref x, .str (PySem.Str.ofString "0123456789") t3] ((x, scI dx) :: (dx, scO h1 h2 k1 k2 t1 t2 T a) :: rest) (RetRunG x dx h1 h2 k1 k2 t1 T rest e D) := by
  subst hD
  exact c_run w mean mg mb rest x dx h1 h2 k1 k2 t1 t2 t3 T a e R hT hne hr

theorem sOf_nil : (sOf [] == Str.ofString "") = true := by decide
theorem sOf_pt : (sOf [46] == Str.ofString ".") = true := by decide

local macro_rules | `(tactic| walk_at "compareOp NotEq str str") => `(tactic| (k_here; first | (refine r_ne sOf_nil ?_) | (refine r_ne sOf_pt ?_)))
local macro_rules | `(tactic| walk_at "call builtin:len") => `(tactic| (k_here; (with_reducible refine r_len ?kb0 ?_); (case kb0 => omega)))

set_option maxRecDepth 100000 in
set_option maxHeartbeats 8000000 in
theorem c_ends (w : World) (mean : Mean) (mg mb : Nm) (rest : Led) (x dx : Addr) (h1 h2 : Int) (k1 k2 t1 t2 : Tok) (T : List Nat) (k : Int) (what begin' : Value) (hg : (T.drop k.toNat).take 1 = []) (hk0 : 0 ≤ k) (hk : k ≤ T.length) (hT : T.length ≤ 1000000) :
    Cl w mean mg mb 40 149 [.ref x, what, begin'] ((x, scI dx) :: (dx, scO h1 h2 k1 k2 t1 t2 T k) :: rest) (RetN ((x, scI dx) :: (dx, scO h1 h2 k1 k2 t1 t2 T k) :: rest)) := by
  dsimp only [Cl]
  w_top off
  k_fill
  intro dp un gd cn cs a₀ ccd cl outer A₀ base h₀ L m s Q E B₀ F X N T₀ hkk hd hu hret
  refine wpAny_call ?_
  k_dflt ktr_enter
  k_with_none
  k_with "call ref" => ((with_reducible show wpAny _ _ (call (Value.ref 128) _) _ _ _); k_here; refine' cl_use (c_signG _ _ _ _ _ _ _ _ _ _ _ _ _ _ _ _ hg hk0 hk hT) ?k1 ?k2 ?k3 ?k4 ?k5 ?kK ?kd ?ku ?_; (case k1 => k_asm); (case k2 => k_asm); (case k3 => k_asm); (case k4 => k_asm); (case k5 => k_asm); (case kK => first | exact rfl | assumption); (case kd => ktr_room); (case ku => ktr_units); intro t9 h9 tk9 F9 N9; (try dsimp only); (try k_fold); walk_say "SIGN")
  k_steps
  all_goals exact hret _ _ (by assumption) (by assumption)

set_option maxRecDepth 100000 in
set_option maxHeartbeats 8000000 in
theorem c_few (w : World) (mean : Mean) (mg mb : Nm) (news : Led) (D : List Nat) (t : Tok) (spot : Value) (hl : D.length ≤ 1000) :
    Cl w mean mg mb 20 100 [.str (sOf D) t, spot] news (RetN news) := by
  dsimp only [Cl]
  w_top off
  k_fill
  intro dp un gd cn cs a₀ ccd cl outer A₀ base h₀ L m s Q E B₀ F X N T₀ hkk hd hu hret
  refine wpAny_call ?_
  k_dflt ktr_enter
  k_with_none
  k_steps
  all_goals first | (exfalso; omega) | exact hret _ _ (by assumption) (by assumption)
end Mine
end

-- part M5
section
open PySem PySem.W PyProof.Rows PySem.Calls PySem.Spec PySem.NumText
namespace Mine
/-- the text of a decimal -/
abbrev decT (A B : List Nat) : List Nat := A ++ [46] ++ B
theorem decT_len (A B : List Nat) : (decT A B).length = A.length + 1 + B.length := by
  simp only [List.length_append, List.length_cons, List.length_nil]
theorem decT_a (A B : List Nat) : ((decT A B).drop ((0 : Int)).toNat).take ((A.length : Int) - 0).toNat = A := by
  show ((A ++ [46] ++ B).drop 0).take _ = A
  rw [List.drop_zero, List.append_assoc, show ((A.length : Int) - 0).toNat = A.length by omega, List.take_left']
  rfl
theorem decT_drop (A B : List Nat) : (decT A B).drop (A.length + 1) = B := by
  show (A ++ [46] ++ B).drop (A.length + 1) = B
  exact List.drop_left' (by simp)
theorem decT_b (A B : List Nat) : ((decT A B).drop ((A.length : Int) + 1).toNat).take (((decT A B).length : Int) - ((A.length : Int) + 1)).toNat = B := by
  rw [show ((A.length : Int) + 1).toNat = A.length + 1 by omega, decT_drop, List.take_of_length_le]
  rw [decT_len]; omega
theorem decT_p (A B : List Nat) : ((decT A B).drop (A.length : Int).toNat).take 1 = [46] := by
  rw [show ((A.length : Int)).toNat = A.length by omega]
  show ((A ++ [46] ++ B).drop A.length).take 1 = [46]
  rw [List.append_assoc, List.drop_left']
  · rfl
  · rfl
theorem decT_end (A B : List Nat) : ((decT A B).drop ((decT A B).length : Int).toNat).take 1 = [] := by
  rw [show (((decT A B).length : Int)).toNat = (decT A B).length by omega, List.drop_length]
  rfl
theorem isD_of {l : List Nat} (h : AllDigits l) {k : Nat} (hk : k < l.length) : IsD ((l.drop k).take 1) := by
  rw [one_at hk]
  exact ⟨l[k], rfl, h _ (List.getElem_mem hk)⟩
theorem take1_left {a b : List Nat} {k : Nat} (hk : k < a.length) : ((a ++ b).drop k).take 1 = (a.drop k).take 1 := by
  rw [one_at (by rw [List.length_append]; omega), one_at hk, List.getElem_append_left hk]
theorem run1 {A B : List Nat} (hA : AllDigits A) : RunAt (decT A B) 0 (A.length : Int) := by
  refine ⟨by omega, by omega, by rw [decT_len]; omega, fun j h0 h1 => ?_, fun _ => decT_p A B⟩
  have hj : j.toNat < A.length := by omega
  show IsD (((A ++ [46] ++ B).drop j.toNat).take 1)
  rw [List.append_assoc, take1_left hj]
  exact isD_of hA hj
theorem run2 {A B : List Nat} (hB : AllDigits B) : RunAt (decT A B) ((A.length : Int) + 1) ((decT A B).length : Int) := by
  refine ⟨by omega, by rw [decT_len]; omega, by omega, fun j h0 h1 => ?_, fun h => absurd h (by omega)⟩
  rw [decT_len] at h1
  have e : (decT A B).drop j.toNat = B.drop (j.toNat - (A.length + 1)) := by
    have e1 : j.toNat = (A.length + 1) + (j.toNat - (A.length + 1)) := by omega
    rw [e1, ← List.drop_drop, decT_drop]
    congr 1
    omega
  rw [e]
  exact isD_of hB (by omega)
theorem head_ne {A : List Nat} (hh : A.length ≤ 1 ∨ A.head? ≠ some 48) (h : 1 < A.length) : (sOf ((A.drop ((0 : Int)).toNat).take 1) == Str.ofString "0") = false := by
  rw [beq_eq_false_iff_ne]
  intro e
  rcases hh with hh | hh
  · omega
  · apply hh
    have e2 : Str.ofString "0" = sOf [48] := by decide
    rw [e2, sOf_inj] at e
    cases A with
    | nil => simp at h
    | cons c r =>
      have e' : [c] = [48] := e
      have : c = 48 := by simpa using e'
      rw [this]; rfl
theorem ne_nil_eq {B : List Nat} (h : B ≠ []) : (sOf B == Str.ofString "") = false := by
  rw [beq_eq_false_iff_ne]
  intro e
  have e2 : Str.ofString "" = sOf [] := by decide
  rw [e2, sOf_inj] at e
  exact h e
end Mine
end

-- part C13
section
open PySem PySem.W PyProof.Rows PySem.Calls PySem.Spec PySem.NumText
namespace Mine
local macro_rules | `(tactic| k_all) => `(tactic| assumption)
local macro_rules | `(tactic| k_ne) => `(tactic| assumption)
local macro_rules | `(tactic| walk_at "compareOp NotEq str str") => `(tactic| (k_here; first | (refine r_ne sOf_nil ?_) | (refine r_ne sOf_pt ?_)))
local macro_rules | `(tactic| walk_at "compareOp Eq str str") => `(tactic| k_extra "my eq")
local macro_rules | `(tactic| walk_at "call builtin:len") => `(tactic| (k_here; (with_reducible refine r_len ?kb0 ?_); (case kb0 => omega)))
local macro_rules | `(tactic| walk_at "subscriptTail") => `(tactic| (k_here; (with_reducible show wpAny _ _ (subscriptTail _ _ (Value.str _ _) (Value.int _ _)) _ _ _); (refine r_item ?kb0 ?kb1 ?kb2 ?_); (case kb0 => omega); (case kb1 => omega); (case kb2 => omega)))
local macro_rules | `(tactic| walk_at "binaryOp Add str str") => `(tactic| (k_here; (with_reducible refine r_add ?kb0 ?_); (case kb0 => omega); intro t9 tk9))

abbrev RetDecP (A B : List Nat) (keep : Led) (h₀ : Heap) (L : Addr) (m : Nm) (s : Shared) (Q : Value → Shared → Prop) : Prop :=
  ∀ (q r : Addr) (t u v : Tok) (h' : Heap) (tk' : Nat), Fr h₀ L h' m →
    News h₀ L h' ((q, tupO [.str (Str.ofString "dec") t, .ref r]) :: (r, tupO [.int (lowI (valI A * tenI B + valI B) (tenI B)) u, .int (lowI (tenI B) (valI A * tenI B + valI B)) v]) :: keep) →
    (∀ p ∈ keep, p.1 < r) → r < q → Q (.ref q) { s with heap := h', toks := tk' }
abbrev RetNum (x dx : Addr) (h1 h2 : Int) (k1 k2 t1 : Tok) (A B : List Nat) (rest : Led) (h₀ : Heap) (L : Addr) (m : Nm) (s : Shared) (Q : Value → Shared → Prop) : Prop :=
  ∀ (t2 : Tok), RetDecP A B ((x, scI dx) :: (dx, scO h1 h2 k1 k2 t1 t2 (decT A B) ((decT A B).length : Int)) :: rest) h₀ L m s Q

set_option maxRecDepth 100000 in
set_option maxHeartbeats 8000000 in
theorem c_number (w : World) (mean : Mean) (mg mb : Nm) (rest : Led) (x dx : Addr) (h1 h2 : Int) (k1 k2 t1 t2 : Tok) (A B : List Nat)
    (hA : AllDigits A) (hB : AllDigits B) (hA1 : A ≠ []) (hB1 : B ≠ []) (hh : A.length ≤ 1 ∨ A.head? ≠ some 48) (hl : A.length + B.length ≤ 400) (hl2 : (B.length : Int) ≤ 206) (hne : x ≠ dx) (hr : ∀ p ∈ rest, p.1 ≠ dx) :
    Cl w mean mg mb 60 184 [.ref x] ((x, scI dx) :: (dx, scO h1 h2 k1 k2 t1 t2 (decT A B) 0) :: rest) (RetNum x dx h1 h2 k1 k2 t1 A B rest) := by
  dsimp only [Cl]
  w_top off
  k_fill
  intro dp un gd cn cs a₀ ccd cl outer A₀ base h₀ L m s Q E B₀ F X N T₀ hkk hd hu hret
  have hT : (decT A B).length ≤ 1000000 := by rw [decT_len]; omega
  have hTa : (A.length : Int) ≤ ((decT A B).length : Int) := by rw [decT_len]; omega
  have hR1 := run1 (B := B) hA
  have hR2 := run2 (A := A) hB
  have hz : 1 < A.length → _ := head_ne hh
  have hb := ne_nil_eq hB1
  generalize hTd : decT A B = T at *
  refine wpAny_call ?_
  k_dflt ktr_enter
  k_with_none
  k_with "my eq" => first | (refine r_eq hb ?_) | (refine r_eq (hz ?kb0) ?_; (case kb0 => omega))
  k_with "call ref" => ((with_reducible show wpAny _ _ (call (Value.ref 128) _) _ _ _); k_here; refine' cl_use (c_signG _ _ _ _ _ _ _ _ _ _ _ _ _ _ _ _ (hTd ▸ decT_p A B) ?kc0 hTa hT) ?k1 ?k2 ?k3 ?k4 ?k5 ?kK ?kd ?ku ?_; (case k1 => k_asm); (case k2 => k_asm); (case k3 => k_asm); (case k4 => k_asm); (case k5 => k_asm); (case kK => first | exact rfl | assumption); (case kd => ktr_room); (case ku => ktr_units); (case kc0 => omega); intro t9 h9 tk9 F9 N9; (try dsimp only); (try k_fold); walk_say "SIGN")
  k_with "call ref" => ((with_reducible show wpAny _ _ (call (Value.ref 142) _) _ _ _); k_here; refine' cl_use (c_runG _ _ _ _ _ _ _ _ _ _ _ _ _ _ _ _ _ _ (hTd ▸ decT_a A B) hR1 hT hne hr) ?k1 ?k2 ?k3 ?k4 ?k5 ?kK ?kd ?ku ?_; (case k1 => k_asm); (case k2 => k_asm); (case k3 => k_asm); (case k4 => k_asm); (case k5 => k_asm); (case kK => first | exact rfl | assumption); (case kd => ktr_room); (case ku => ktr_units); intro t9 u9 h9 tk9 F9 N9; (try dsimp only); (try k_fold); walk_say "RUN1")
  k_with "call ref" => ((with_reducible show wpAny _ _ (call (Value.ref 142) _) _ _ _); k_here; refine' cl_use (c_runG _ _ _ _ _ _ _ _ _ _ _ _ _ _ _ _ _ _ (hTd ▸ decT_b A B) hR2 hT hne hr) ?k1 ?k2 ?k3 ?k4 ?k5 ?kK ?kd ?ku ?_; (case k1 => k_asm); (case k2 => k_asm); (case k3 => k_asm); (case k4 => k_asm); (case k5 => k_asm); (case kK => first | exact rfl | assumption); (case kd => ktr_room); (case ku => ktr_units); intro t9 u9 h9 tk9 F9 N9; (try dsimp only); (try k_fold); walk_say "RUN2")
  k_with "call ref" => ((with_reducible show wpAny _ _ (call (Value.ref 149) _) _ _ _); k_here; refine' cl_use (c_ends _ _ _ _ _ _ _ _ _ _ _ _ _ _ _ _ _ (hTd ▸ decT_end A B) ?kc0 (Int.le_refl _) hT) ?k1 ?k2 ?k3 ?k4 ?k5 ?kK ?kd ?ku ?_; (case k1 => k_asm); (case k2 => k_asm); (case k3 => k_asm); (case k4 => k_asm); (case k5 => k_asm); (case kK => first | exact rfl | assumption); (case kd => ktr_room); (case ku => ktr_units); (case kc0 => omega); intro h9 tk9 F9 N9; (try dsimp only); (try k_fold); walk_say "ENDS")
  k_with "call ref" => ((with_reducible show wpAny _ _ (call (Value.ref 100) _) _ _ _); k_here; refine' cl_use (c_few _ _ _ _ _ _ _ _ ?kc0) ?k1 ?k2 ?k3 ?k4 ?k5 ?kK ?kd ?ku ?_; (case k1 => k_asm); (case k2 => k_asm); (case k3 => k_asm); (case k4 => k_asm); (case k5 => k_asm); (case kK => first | exact rfl | assumption); (case kd => ktr_room); (case ku => ktr_units); (case kc0 => rw [List.length_append]; omega); intro h9 tk9 F9 N9; (try dsimp only); (try k_fold); walk_say "FEW")
  k_with "call ref" => ((with_reducible show wpAny _ _ (call (Value.ref 92) _) _ _ _); k_here; refine' cl_use (c_rod _ _ _ _ _ _ _ _ _ hA hB hA1 hB1 hl hl2) ?k1 ?k2 ?k3 ?k4 ?k5 ?kK ?kd ?ku ?_; (case k1 => k_asm); (case k2 => k_asm); (case k3 => k_asm); (case k4 => k_asm); (case k5 => k_asm); (case kK => first | exact rfl | assumption); (case kd => ktr_room); (case ku => ktr_units); intro q9 t9 u9 h9 tk9 F9 N9 l9; (try dsimp only); (try k_fold); walk_say "ROD")
  k_steps
  all_goals
    subst hTd
    refine' hret _ _ _ _ _ _ _ _ ?zf ?zn ?zl ?zq
    case zn => assumption
    case zf => assumption
    case zl => assumption
    case zq => (rename _ ∧ _ ∧ _ ∧ AllLt _ _ => l1; exact l1.1)
end Mine
end

-- part C14
section
open PySem PySem.W PyProof.Rows PySem.Calls PySem.Spec PySem.NumText
namespace Mine
local macro_rules | `(tactic| k_all) => `(tactic| assumption)
local macro_rules | `(tactic| k_ne) => `(tactic| assumption)
local macro_rules | `(tactic| walk_at "compareOp Eq str str") => `(tactic| (k_here; (refine r_eq (isD_ne ?kb0 ?kb1) ?_); (case kb0 => assumption); (case kb1 => decide)))
local macro_rules | `(tactic| walk_at "compareOp In str str") => `(tactic| (k_here; (refine r_inYes ?kb0 ?_); (case kb0 => assumption)))

theorem head_isD {A B : List Nat} (hA : AllDigits A) (hA1 : A ≠ []) : IsD (((decT A B).drop ((0 : Int)).toNat).take 1) :=
  (run1 (B := B) hA).d 0 (Int.le_refl _) (by
    cases A with
    | nil => exact absurd rfl hA1
    | cons c r => simp only [List.length_cons]; omega)

set_option maxRecDepth 100000 in
set_option maxHeartbeats 8000000 in
theorem c_word (w : World) (mean : Mean) (mg mb : Nm) (rest : Led) (x dx : Addr) (h1 h2 : Int) (k1 k2 t1 t2 : Tok) (A B : List Nat)
    (hA : AllDigits A) (hB : AllDigits B) (hA1 : A ≠ []) (hB1 : B ≠ []) (hh : A.length ≤ 1 ∨ A.head? ≠ some 48) (hl : A.length + B.length ≤ 400) (hl2 : (B.length : Int) ≤ 206) (hne : x ≠ dx) (hr : ∀ p ∈ rest, p.1 ≠ dx) :
    Cl w mean mg mb 70 191 [.ref x] ((x, scI dx) :: (dx, scO h1 h2 k1 k2 t1 t2 (decT A B) 0) :: rest) (RetNum x dx h1 h2 k1 k2 t1 A B rest) := by
  dsimp only [Cl]
  w_top off
  k_fill
  intro dp un gd cn cs a₀ ccd cl outer A₀ base h₀ L m s Q E B₀ F X N T₀ hkk hd hu hret
  have hT : (decT A B).length ≤ 1000000 := by rw [decT_len]; omega
  have hTa : (0 : Int) ≤ ((decT A B).length : Int) := by omega
  have hg := head_isD (B := B) hA hA1
  generalize hgd : ((decT A B).drop ((0 : Int)).toNat).take 1 = g at *
  refine wpAny_call ?_
  k_dflt ktr_enter
  k_with_none
  k_with "call ref" => ((with_reducible show wpAny _ _ (call (Value.ref 128) _) _ _ _); k_here; refine' cl_use (c_signG _ _ _ _ _ _ _ _ _ _ _ _ _ _ _ _ hgd (Int.le_refl _) hTa hT) ?k1 ?k2 ?k3 ?k4 ?k5 ?kK ?kd ?ku ?_; (case k1 => k_asm); (case k2 => k_asm); (case k3 => k_asm); (case k4 => k_asm); (case k5 => k_asm); (case kK => first | exact rfl | assumption); (case kd => ktr_room); (case ku => ktr_units); intro t9 h9 tk9 F9 N9; (try dsimp only); (try k_fold); walk_say "SIGN")
  k_with "call ref" => ((with_reducible show wpAny _ _ (call (Value.ref 184) _) _ _ _); k_here; refine' cl_use (c_number _ _ _ _ _ _ _ _ _ _ _ _ _ _ _ hA hB hA1 hB1 hh hl hl2 hne hr) ?k1 ?k2 ?k3 ?k4 ?k5 ?kK ?kd ?ku ?_; (case k1 => k_asm); (case k2 => k_asm); (case k3 => k_asm); (case k4 => k_asm); (case k5 => k_asm); (case kK => first | exact rfl | assumption); (case kd => ktr_room); (case ku => ktr_units); intro u2 q9 r9 t9 u9 v9 h9 tk9 F9 N9 l9 m9; (try dsimp only); (try k_fold); walk_say "NUMBER")
  k_steps
  all_goals exact hret _ _ _ _ _ _ _ _ (by assumption) (by assumption) (by assumption) (by assumption)
end Mine
end

-- part C15
section
open PySem PySem.W PyProof.Rows PySem.Calls PySem.Spec PySem.NumText
namespace Mine
local macro_rules | `(tactic| k_all) => `(tactic| first | assumption | k_extra "my all")
local macro_rules | `(tactic| k_ne) => `(tactic| assumption)

local macro_rules | `(tactic| walk_at "compareOp Eq str str") => `(tactic| (k_here; (refine r_eq (isD_ne ?kb0 ?kb1) ?_); (case kb0 => assumption); (case kb1 => decide)))
local macro_rules | `(tactic| walk_at "compareOp NotEq str str") => `(tactic| first | (k_here; (refine r_ne sOf_nil ?_)) | k_extra "my ne")
theorem pm4 {h₀ h : Heap} {L : Addr} {a b c d : Addr × Obj} {rest : Led} (N : News h₀ L h (a :: b :: c :: d :: rest)) : News h₀ L h (c :: d :: a :: b :: rest) := by
  intro p hp
  refine N p ?_
  simp only [List.mem_cons] at hp ⊢
  rcases hp with h | h | h | h | h <;> simp only [h, true_or, or_true]

abbrev RetUp (A B : List Nat) (news : Led) (h₀ : Heap) (L : Addr) (m : Nm) (s : Shared) (Q : Value → Shared → Prop) : Prop :=
  ∀ (p wl q r : Addr) (t u v : Tok) (h' : Heap) (tk' : Nat), Fr h₀ L h' m →
    News h₀ L h' ((p, tupO [.ref wl, .none]) :: (wl, listOf [Value.ref q].toArray 1) :: (q, tupO [.str (Str.ofString "dec") t, .ref r]) :: (r, tupO [.int (lowI (valI A * tenI B + valI B) (tenI B)) u, .int (lowI (tenI B) (valI A * tenI B + valI B)) v]) :: news) →
    Q (.ref p) { s with heap := h', toks := tk' }
theorem up_sub {a b c d e f g : Addr × Obj} {rest : Led} : ∀ p ∈ a :: g :: d :: e :: rest, p ∈ a :: b :: c :: d :: e :: f :: g :: rest := by
  intro p hp
  simp only [List.mem_cons] at hp ⊢
  rcases hp with h | h | h | h | h <;> simp only [h, true_or, or_true]

set_option maxRecDepth 100000 in
set_option maxHeartbeats 8000000 in
theorem c_upto (w : World) (mean : Mean) (mg mb : Nm) (news : Led) (A B : List Nat) (t : Tok)
    (hA : AllDigits A) (hB : AllDigits B) (hA1 : A ≠ []) (hB1 : B ≠ []) (hh : A.length ≤ 1 ∨ A.head? ≠ some 48) (hl : A.length + B.length ≤ 400) (hl2 : (B.length : Int) ≤ 206) :
    Cl w mean mg mb 100 205 [.str (sOf (decT A B)) t] news (RetUp A B news) := by
  dsimp only [Cl]
  w_top off
  k_fill
  intro dp un gd cn cs a₀ ccd cl outer A₀ base h₀ L m s Q E B₀ F X N T₀ hkk hd hu hret
  have hT : (decT A B).length ≤ 1000000 := by rw [decT_len]; omega
  have hTa : (0 : Int) ≤ ((decT A B).length : Int) := by omega
  have hT0 : (0 : Int) < ((decT A B).length : Int) := by rw [decT_len]; omega
  have hgg := head_isD (B := B) hA hA1
  have hg := hgg
  generalize hgd : ((decT A B).drop ((0 : Int)).toNat).take 1 = g at hg
  refine wpAny_call ?_
  k_dflt ktr_enter
  k_with_none
  k_with "call ref" => ((with_reducible show wpAny _ _ (call (Value.ref 194) _) _ _ _); k_here; k_dflt (refine' call_cls ?k1 ?k2 ?k3 ?k4 ?k5 ?k6 ?_; (case k1 => k_asm); (case k2 => k_asm); (case k3 => k_asm); (case k4 => k_is); (case k5 => k_is); (case k6 => k_is); k_whole; intro x' d' h' F' N' lnews l2; (try k_lt lnews); (try k_lt2 l2); (try k_sweep); (refine' code_def ?k1 ?k2 ?k3 ?k4 ?k5 ?kA ?kF ?kK ?k6 ?k7 ?k8 ?k9 ?kB ?_ ?c2 ?c3 ?c4 ?c5; (case kA => exact rfl); (case kF => exact rfl); (case kK => first | exact rfl | assumption); (case k1 => k_asm); (case k2 => k_asm); (case k3 => k_asm); (case k4 => k_asm); (case k5 => k_asm); (case k6 => k_is); (case k7 => k_is); (case k8 => ktr_room); (case k9 => exact BindsTo.of_eq rfl); (case c5 => decide); (case kB => exact locs rfl); (case c2 => exact rfl); (case c3 => exact rfl); (case c4 => exact rfl); k_whole; intro g' L' h' FG' F' N' B' X' T'; (try dsimp only); (try k_lift B'); (try k_fold))))
  k_with "my all" => exact fun p hp => Nat.ne_of_lt (lnews p hp)
  k_with "my ne" => (k_here; (refine r_ne (isD_ne hg (by decide)) ?_))
  k_with "call ref" => ((with_reducible show wpAny _ _ (call (Value.ref 135) _) _ _ _); k_here; refine' cl_use (c_skip1 _ _ _ _ _ _ _ _ _ _ _ _ _ _ 0 (Int.le_refl _) hT0 hT hgg) ?k1 ?k2 ?k3 ?k4 ?k5 ?kK ?kd ?ku ?_; (case k1 => k_asm); (case k2 => k_asm); (case k3 => k_asm); (case k4 => first | k_asm | exact pm4 (by k_asm)); (case k5 => k_asm); (case kK => first | exact rfl | assumption); (case kd => ktr_room); (case ku => ktr_units); intro h9 tk9 F9 N9; (try dsimp only); (try k_fold); walk_say "SKIP1")
  k_with "call ref" => ((with_reducible show wpAny _ _ (call (Value.ref 135) _) _ _ _); k_here; refine' cl_use (c_skip0 _ _ _ _ _ _ _ _ _ _ _ _ _ _ ((decT A B).length : Int) hTa rfl hT) ?k1 ?k2 ?k3 ?k4 ?k5 ?kK ?kd ?ku ?_; (case k1 => k_asm); (case k2 => k_asm); (case k3 => k_asm); (case k4 => first | k_asm | exact pm4 (by k_asm)); (case k5 => k_asm); (case kK => first | exact rfl | assumption); (case kd => ktr_room); (case ku => ktr_units); intro h9 tk9 F9 N9; (try dsimp only); (try k_fold); walk_say "SKIP0")
  k_with "call ref" => ((with_reducible show wpAny _ _ (call (Value.ref 128) _) _ _ _); k_here; refine' cl_use (c_signG _ _ _ _ _ _ _ _ _ _ _ _ _ _ 0 _ hgd (Int.le_refl _) hTa hT) ?k1 ?k2 ?k3 ?k4 ?k5 ?kK ?kd ?ku ?_; (case k1 => k_asm); (case k2 => k_asm); (case k3 => k_asm); (case k4 => first | k_asm | exact pm4 (by k_asm)); (case k5 => k_asm); (case kK => first | exact rfl | assumption); (case kd => ktr_room); (case ku => ktr_units); intro t9 h9 tk9 F9 N9; (try dsimp only); (try k_fold); walk_say "SIGN1")
  k_with "call ref" => ((with_reducible show wpAny _ _ (call (Value.ref 128) _) _ _ _); k_here; refine' cl_use (c_signG _ _ _ _ _ _ _ _ _ _ _ _ _ _ ((decT A B).length : Int) _ (decT_end A B) hTa (Int.le_refl _) hT) ?k1 ?k2 ?k3 ?k4 ?k5 ?kK ?kd ?ku ?_; (case k1 => k_asm); (case k2 => k_asm); (case k3 => k_asm); (case k4 => first | k_asm | exact pm4 (by k_asm)); (case k5 => k_asm); (case kK => first | exact rfl | assumption); (case kd => ktr_room); (case ku => ktr_units); intro t9 h9 tk9 F9 N9; (try dsimp only); (try k_fold); walk_say "SIGN0")
  k_with "call ref" => ((with_reducible show wpAny _ _ (call (Value.ref 191) _) _ _ _); k_here; refine' cl_use (c_word _ _ _ _ _ _ _ _ _ _ _ _ _ _ _ hA hB hA1 hB1 hh hl hl2 ?kx ?kr) ?k1 ?k2 ?k3 ?k4 ?k5 ?kK ?kd ?ku ?_; (case k1 => k_asm); (case k2 => k_asm); (case k3 => k_asm); (case k4 => first | k_asm | exact pm4 (by k_asm)); (case k5 => k_asm); (case kK => first | exact rfl | assumption); (case kd => ktr_room); (case ku => ktr_units); (case kx => k_ne); (case kr => k_all); intro u2 q9 r9 t9 u9 v9 h9 tk9 F9 N9 l9 m9; (try k_lt l9); (try k_lt2 m9); (try dsimp only); (try k_fold); walk_say "WORD")
  k_steps
  all_goals
    (rename News _ _ _ _ => nN)
    exact hret _ _ _ _ _ _ _ _ _ (by assumption) (cb_drop nN up_sub)

abbrev RetAll (A B : List Nat) (news : Led) (h₀ : Heap) (L : Addr) (m : Nm) (s : Shared) (Q : Value → Shared → Prop) : Prop :=
  ∀ (wl q r : Addr) (t u v : Tok) (h' : Heap) (tk' : Nat), Fr h₀ L h' m →
    News h₀ L h' ((wl, listOf [Value.ref q].toArray 1) :: (q, tupO [.str (Str.ofString "dec") t, .ref r]) :: (r, tupO [.int (lowI (valI A * tenI B + valI B) (tenI B)) u, .int (lowI (tenI B) (valI A * tenI B + valI B)) v]) :: news) →
    Q (.ref wl) { s with heap := h', toks := tk' }
abbrev RetOne (A B : List Nat) (news : Led) (h₀ : Heap) (L : Addr) (m : Nm) (s : Shared) (Q : Value → Shared → Prop) : Prop :=
  ∀ (q r : Addr) (t u v : Tok) (h' : Heap) (tk' : Nat), Fr h₀ L h' m →
    News h₀ L h' ((q, tupO [.str (Str.ofString "dec") t, .ref r]) :: (r, tupO [.int (lowI (valI A * tenI B + valI B) (tenI B)) u, .int (lowI (tenI B) (valI A * tenI B + valI B)) v]) :: news) →
    Q (.ref q) { s with heap := h', toks := tk' }

set_option maxRecDepth 100000 in
set_option maxHeartbeats 8000000 in
theorem c_all (w : World) (mean : Mean) (mg mb : Nm) (news : Led) (A B : List Nat) (t : Tok)
    (hA : AllDigits A) (hB : AllDigits B) (hA1 : A ≠ []) (hB1 : B ≠ []) (hh : A.length ≤ 1 ∨ A.head? ≠ some 48) (hl : A.length + B.length ≤ 400) (hl2 : (B.length : Int) ≤ 206) :
    Cl w mean mg mb 110 212 [.str (sOf (decT A B)) t] news (RetAll A B news) := by
  dsimp only [Cl]
  w_top off
  k_fill
  intro dp un gd cn cs a₀ ccd cl outer A₀ base h₀ L m s Q E B₀ F X N T₀ hkk hd hu hret
  refine wpAny_call ?_
  k_dflt ktr_enter
  k_with_none
  k_with "call ref" => ((with_reducible show wpAny _ _ (call (Value.ref 205) _) _ _ _); k_here; refine' cl_use (c_upto _ _ _ _ _ _ _ _ hA hB hA1 hB1 hh hl hl2) ?k1 ?k2 ?k3 ?k4 ?k5 ?kK ?kd ?ku ?_; (case k1 => k_asm); (case k2 => k_asm); (case k3 => k_asm); (case k4 => k_asm); (case k5 => k_asm); (case kK => first | exact rfl | assumption); (case kd => ktr_room); (case ku => ktr_units); intro p9 w9 q9 r9 t9 u9 v9 h9 tk9 F9 N9; (try dsimp only); (try k_fold); walk_say "UPTO")
  k_steps
  all_goals
    (rename News _ _ _ _ => nN)
    exact hret _ _ _ _ _ _ _ _ (by assumption) (cb_drop nN (fun p hp => List.mem_cons_of_mem _ hp))

set_option maxRecDepth 100000 in
set_option maxHeartbeats 8000000 in
theorem c_one (w : World) (mean : Mean) (mg mb : Nm) (news : Led) (A B : List Nat) (t : Tok)
    (hA : AllDigits A) (hB : AllDigits B) (hA1 : A ≠ []) (hB1 : B ≠ []) (hh : A.length ≤ 1 ∨ A.head? ≠ some 48) (hl : A.length + B.length ≤ 400) (hl2 : (B.length : Int) ≤ 206) :
    Cl w mean mg mb 120 219 [.str (sOf (decT A B)) t] news (RetOne A B news) := by
  dsimp only [Cl]
  w_top off
  k_fill
  intro dp un gd cn cs a₀ ccd cl outer A₀ base h₀ L m s Q E B₀ F X N T₀ hkk hd hu hret
  refine wpAny_call ?_
  k_dflt ktr_enter
  k_with_none
  k_with "call ref" => ((with_reducible show wpAny _ _ (call (Value.ref 212) _) _ _ _); k_here; refine' cl_use (c_all _ _ _ _ _ _ _ _ hA hB hA1 hB1 hh hl hl2) ?k1 ?k2 ?k3 ?k4 ?k5 ?kK ?kd ?ku ?_; (case k1 => k_asm); (case k2 => k_asm); (case k3 => k_asm); (case k4 => k_asm); (case k5 => k_asm); (case kK => first | exact rfl | assumption); (case kd => ktr_room); (case ku => ktr_units); intro w9 q9 r9 t9 u9 v9 h9 tk9 F9 N9; (try dsimp only); (try k_fold); walk_say "ALL")
  k_steps
  all_goals
    (rename News _ _ _ _ => nN)
    exact hret _ _ _ _ _ _ _ (by assumption) (cb_drop nN (fun p hp => List.mem_cons_of_mem _ hp))
end Mine
end

-- part S2
section
open PySem PySem.W PyProof.Rows PySem.Calls PySem.Spec PySem.NumText
namespace Mine
theorem no46 {l : List Nat} (h : AllDigits l) : 46 ∉ l := fun hm => by
  have := h 46 hm
  omega
theorem cnt_app (c : Nat) (a b : List Nat) : cnt c (a ++ b) = cnt c a + cnt c b := by
  induction a with
  | nil => simp [cnt_nil]
  | cons n r ih => rw [List.cons_append, cnt_cons, cnt_cons, ih]; omega
theorem cnt_dec {A B : List Nat} (hA : AllDigits A) (hB : AllDigits B) : cnt 46 (decT A B) = 1 := by
  show cnt 46 (A ++ [46] ++ B) = 1
  rw [cnt_app, cnt_app, cnt_none 46 A (no46 hA), cnt_none 46 B (no46 hB)]
  rfl
theorem pt_is : PySem.Str.ofString "." = ⟨#[46]⟩ := by decide
theorem count_dec {A B : List Nat} (hA : AllDigits A) (hB : AllDigits B) : Txt.count (sOf (decT A B)) (PySem.Str.ofString ".") = 1 := by
  rw [pt_is, count_cnt, sOf_list, cnt_dec hA hB]
theorem first_free {a b p q : List Nat} (ha : 46 ∉ a) (hp : 46 ∉ p) (h : a ++ 46 :: b = p ++ 46 :: q) : a = p ∧ b = q := by
  induction a generalizing p with
  | nil =>
    cases p with
    | nil => exact ⟨rfl, by simpa using h⟩
    | cons c r =>
      simp only [List.nil_append, List.cons_append, List.cons.injEq] at h
      exact absurd (List.mem_cons_self ..) (h.1 ▸ hp)
  | cons x r ih =>
    cases p with
    | nil =>
      simp only [List.nil_append, List.cons_append, List.cons.injEq] at h
      exact absurd (List.mem_cons_self ..) (h.1 ▸ ha)
    | cons c r2 =>
      simp only [List.cons_append, List.cons.injEq] at h
      have := ih (fun hm => ha (List.mem_cons_of_mem _ hm)) (fun hm => hp (List.mem_cons_of_mem _ hm)) h.2
      exact ⟨by rw [h.1, this.1], this.2⟩
theorem str_sOf (x : PySem.Str) : x = sOf x.cps.toList := sOf_of rfl
theorem split_dec' {A B : List Nat} (hA : AllDigits A) (hB : AllDigits B) : Txt.split (sOf (decT A B)) (PySem.Str.ofString ".") = [sOf A, sOf B] := by
  rw [pt_is]
  have hl := split_len (sOf (decT A B)) 46
  rw [sOf_list, cnt_dec hA hB] at hl
  have hj := StrLaws.join_split (sOf (decT A B)) ⟨#[46]⟩
  have hf := StrLaws.split_free (sOf (decT A B)) 46
  generalize Txt.split (sOf (decT A B)) ⟨#[46]⟩ = l at *
  match l, hl, hj, hf with
  | [p, q], _, hj, hf =>
    have e : Str.join ⟨#[46]⟩ [p, q] = p ++ ⟨#[46]⟩ ++ q := rfl
    rw [e] at hj
    have hp := hf p (List.mem_cons_self ..)
    rw [str_sOf p, str_sOf q] at hj ⊢
    have e2 : (⟨#[46]⟩ : PySem.Str) = sOf [46] := rfl
    rw [e2, sOf_app, sOf_app, sOf_inj] at hj
    have h3 := first_free (no46 hA) hp (a := A) (b := B) (p := p.cps.toList) (q := q.cps.toList) (by
      have : p.cps.toList ++ [46] ++ q.cps.toList = A ++ [46] ++ B := hj
      simpa using this.symm)
    rw [← h3.1, ← h3.2]
  | [], hl, _, _ => simp at hl
  | [_], hl, _, _ => simp at hl
  | _ :: _ :: _ :: _, hl, _, _ => simp only [List.length_cons] at hl; omega

section
variable {prog : Program} {w : World} {A₀ : Around} {E : Value → Shared → Prop} {s : Shared} {Q : Value → Shared → Prop} {t u : Tok} {A B : List Nat} {h₀ : Heap} {L : Addr} {m : Nm} {news : Led}
theorem r_count (hA : AllDigits A) (hB : AllDigits B) (h : Q (.int 1 s.toks) { s with toks := s.toks + 1 }) : wpAny (model prog w) A₀ (call (.builtin "str.count") [.str (sOf (decT A B)) t, .str (PySem.Str.ofString ".") u]) Q E s :=
  SC.count (by rw [count_dec hA hB]; exact h)
theorem r_split (hA : AllDigits A) (hB : AllDigits B) (hl : (decT A B).length ≤ 1000) (F : Fr h₀ L s.heap m) (N : News h₀ L s.heap news)
    (h : ∀ (D : Addr) (ta tb : Tok) h' k, Fr h₀ L h' m → News h₀ L h' ((D, listOf [Value.str (sOf A) ta, Value.str (sOf B) tb].toArray 0) :: news) → Q (.ref D) { s with heap := h', toks := k }) :
    wpAny (model prog w) A₀ (call (.builtin "str.split") [.str (sOf (decT A B)) t, .str (PySem.Str.ofString ".") u]) Q E s := by
  refine splitN1 F N (by decide) (fun l h' k e F' N' => ?_) (by rw [sOf_len, sizeLine_eq]; omega)
  rw [split_dec' hA hB] at e
  match l, e with
  | [(a, ta), (b, tb)], e =>
    simp only [List.map_cons, List.map_nil, List.cons.injEq, and_true] at e
    obtain ⟨rfl, rfl⟩ := e
    exact h _ ta tb h' k F' N'
end
end Mine
end

-- part M6
section
open PySem PySem.W PyProof.Rows PySem.Calls PySem.Spec PySem.NumText
namespace Mine

theorem dvd_of_gcd {a b c : Int} (hg : Int.gcd a b = 1) (h : b ∣ c * a) : b ∣ c := by
  rw [← Int.natAbs_dvd_natAbs] at h ⊢
  rw [Int.natAbs_mul] at h
  have hc : Nat.Coprime b.natAbs a.natAbs := by
    have : Nat.gcd a.natAbs b.natAbs = 1 := hg
    rw [Nat.gcd_comm] at this
    exact this
  exact hc.dvd_of_dvd_mul_right h
/-- K times the ratio S/Y is whole just where the bottom of its lowest terms divides K -/
theorem low_dvd {S Y K : Int} (hY : 0 < Y) : lowI Y S ∣ K ↔ Y ∣ K * S := by
  have hco := lowI_co (x := S) hY
  have e1 := lowI_mul S Y
  have e2 := lowI_mul' S Y
  have hg : 0 < (Int.gcd S Y : Int) := by
    have := Int.gcd_pos_of_ne_zero_right S (show Y ≠ 0 by omega)
    omega
  generalize lowI S Y = a at *
  generalize lowI Y S = b at *
  generalize (Int.gcd S Y : Int) = g at *
  subst e1
  subst e2
  constructor
  · rintro ⟨c, rfl⟩
    exact ⟨c * a, by rw [Int.mul_assoc b c, Int.mul_assoc b g, ← Int.mul_assoc c a g, Int.mul_comm (c * a) g]⟩
  · intro h
    have h2 : b * g ∣ K * a * g := by rw [Int.mul_assoc]; exact h
    exact dvd_of_gcd hco ((Int.mul_dvd_mul_iff_right (by omega)).mp h2)

theorem sum_up {x1 y1 x2 y2 K : Int} (h1 : 0 < y1) (h2 : 0 < y2) (d1 : y1 ∣ K) (d2 : y2 ∣ K) : lowI (y1 * y2) (x1 * y2 + x2 * y1) ∣ K := by
  rw [low_dvd (Int.mul_pos h1 h2)]
  rw [Int.mul_add]
  refine Int.dvd_add ?_ ?_
  · obtain ⟨c, rfl⟩ := d1
    exact ⟨c * x1, by ac_rfl⟩
  · obtain ⟨c, rfl⟩ := d2
    exact ⟨c * x2, by ac_rfl⟩
theorem sum_down1 {x1 y1 x2 y2 K : Int} (h1 : 0 < y1) (h2 : 0 < y2) (hc : Int.gcd x1 y1 = 1) (d : lowI (y1 * y2) (x1 * y2 + x2 * y1) ∣ K) (d2 : y2 ∣ K) : y1 ∣ K := by
  rw [low_dvd (Int.mul_pos h1 h2), Int.mul_add] at d
  have e : y1 * y2 ∣ K * (x2 * y1) := by
    obtain ⟨c, rfl⟩ := d2
    exact ⟨c * x2, by ac_rfl⟩
  have d3 : y1 * y2 ∣ K * (x1 * y2) := by
    have := Int.dvd_sub d e
    rw [Int.add_sub_cancel] at this
    exact this
  have d4 : y1 * y2 ∣ (K * x1) * y2 := by rw [Int.mul_assoc]; exact d3
  exact dvd_of_gcd hc ((Int.mul_dvd_mul_iff_right (by omega)).mp d4)
theorem sum_down2 {x1 y1 x2 y2 K : Int} (h1 : 0 < y1) (h2 : 0 < y2) (hc : Int.gcd x2 y2 = 1) (d : lowI (y1 * y2) (x1 * y2 + x2 * y1) ∣ K) (d1 : y1 ∣ K) : y2 ∣ K := by
  refine sum_down1 (x1 := x2) (x2 := x1) h2 h1 hc ?_ d1
  rw [Int.mul_comm y2 y1, Int.add_comm]
  exact d

theorem dvd_places {b : Int} (hb : 0 < b) {p : Int} (hp : 1 ≤ p) : b ∣ (10 : Int) ^ p.toNat ↔ (places b ≠ -1 ∧ places b ≤ p) := by
  rw [dvd_iff hb (k := p.toNat) (by omega)]
  constructor
  · rintro ⟨a, b⟩; exact ⟨a, by omega⟩
  · rintro ⟨a, b⟩; exact ⟨a, by omega⟩

/-- what the sum's places are -/
structure SumPl (p1 p2 mm : Int) : Prop where
  r1 : p1 = -1 ∨ (1 ≤ p1 ∧ p1 ≤ 206)
  r2 : p2 = -1 ∨ (1 ≤ p2 ∧ p2 ≤ 206)
  r3 : mm = -1 ∨ 1 ≤ mm
  one1 : p1 = -1 → 1 ≤ p2 → mm = -1
  one2 : p2 = -1 → 1 ≤ p1 → mm = -1
  fin : 1 ≤ p1 → 1 ≤ p2 → 1 ≤ mm ∧ mm ≤ max p1 p2
  lt1 : 1 ≤ p1 → p1 < p2 → mm = p2
  lt2 : 1 ≤ p2 → p2 < p1 → mm = p1

theorem places_bd {x y : Int} (g : Good x y) : places y = -1 ∨ (1 ≤ places y ∧ places y ≤ 206) := by
  have h := places_log g.bp
  have h2 := log2_of (k := 206) (Int.le_of_lt g.bp) g.bh (by decide)
  rcases places_ge (b := y) with e | e
  · exact .inl e
  · exact .inr ⟨e, by omega⟩
theorem bot_pos {x1 y1 x2 y2 : Int} (h1 : 0 < y1) (h2 : 0 < y2) : 0 < lowI (y1 * y2) (x1 * y2 + x2 * y1) := lowI_pos (Int.mul_pos h1 h2)

theorem sum_pl {x1 y1 x2 y2 : Int} (g1 : Good x1 y1) (g2 : Good x2 y2) : SumPl (places y1) (places y2) (places (lowI (y1 * y2) (x1 * y2 + x2 * y1))) := by
  have b1 := places_bd g1
  have b2 := places_bd g2
  have hb := bot_pos (x1 := x1) (x2 := x2) g1.bp g2.bp
  have b3 := places_ge (b := lowI (y1 * y2) (x1 * y2 + x2 * y1))
  have up : 1 ≤ places y1 → 1 ≤ places y2 → places (lowI (y1 * y2) (x1 * y2 + x2 * y1)) ≠ -1 ∧ places (lowI (y1 * y2) (x1 * y2 + x2 * y1)) ≤ max (places y1) (places y2) := by
    intro h1 h2
    refine (dvd_places hb (by omega)).mp (sum_up g1.bp g2.bp ?_ ?_)
    · exact (dvd_places g1.bp (by omega)).mpr ⟨by omega, by omega⟩
    · exact (dvd_places g2.bp (by omega)).mpr ⟨by omega, by omega⟩
  have dn1 : 1 ≤ places (lowI (y1 * y2) (x1 * y2 + x2 * y1)) → 1 ≤ places y2 → places y1 ≠ -1 ∧ places y1 ≤ max (places (lowI (y1 * y2) (x1 * y2 + x2 * y1))) (places y2) := by
    intro h1 h2
    refine (dvd_places g1.bp (by omega)).mp (sum_down1 g1.bp g2.bp g1.co (x2 := x2) ?_ ?_)
    · exact (dvd_places hb (by omega)).mpr ⟨by omega, by omega⟩
    · exact (dvd_places g2.bp (by omega)).mpr ⟨by omega, by omega⟩
  have dn2 : 1 ≤ places (lowI (y1 * y2) (x1 * y2 + x2 * y1)) → 1 ≤ places y1 → places y2 ≠ -1 ∧ places y2 ≤ max (places (lowI (y1 * y2) (x1 * y2 + x2 * y1))) (places y1) := by
    intro h1 h2
    refine (dvd_places g2.bp (by omega)).mp (sum_down2 g1.bp g2.bp g2.co (x1 := x1) ?_ ?_)
    · exact (dvd_places hb (by omega)).mpr ⟨by omega, by omega⟩
    · exact (dvd_places g1.bp (by omega)).mpr ⟨by omega, by omega⟩
  generalize places y1 = p1 at *
  generalize places y2 = p2 at *
  generalize places (lowI (y1 * y2) (x1 * y2 + x2 * y1)) = mm at *
  refine ⟨b1, b2, b3, ?_, ?_, ?_, ?_, ?_⟩
  · intro h1 h2
    rcases b3 with h | h
    · exact h
    · exact absurd h1 (dn1 h h2).1
  · intro h1 h2
    rcases b3 with h | h
    · exact h
    · exact absurd h1 (dn2 h h2).1
  · intro h1 h2
    have := up h1 h2
    exact ⟨by omega, this.2⟩
  · intro h1 h2
    have u := up h1 (by omega)
    have v := dn2 (by omega) h1
    omega
  · intro h1 h2
    have u := up (by omega) h1
    have v := dn1 (by omega) h1
    omega

theorem sum_top {x1 y1 x2 y2 : Int} (g1 : Good x1 y1) (g2 : Good x2 y2) : 0 < x1 * y2 + x2 * y1 ∧ x1 * y2 + x2 * y1 < 2 ^ 308 := by
  have a := Int.mul_pos g1.tp g2.bp
  have b := Int.mul_pos g2.tp g1.bp
  have h1 := g1.th
  have h2 := g2.th
  have h3 := g1.bh
  have h4 := g2.bh
  have c : x1 * y2 ≤ (2 ^ 101 - 1) * 2 ^ 206 := mul_lt_mul' (Int.le_of_lt g1.tp) (Int.le_of_lt g2.bp) (by omega) (Int.le_of_lt h4)
  have d : x2 * y1 ≤ (2 ^ 101 - 1) * 2 ^ 206 := mul_lt_mul' (Int.le_of_lt g2.tp) (Int.le_of_lt g1.bp) (by omega) (Int.le_of_lt h3)
  have e : ((2 ^ 101 - 1) * 2 ^ 206 : Int) + (2 ^ 101 - 1) * 2 ^ 206 < 2 ^ 308 := by decide +kernel
  refine ⟨by omega, ?_⟩
  exact Int.lt_of_le_of_lt (Int.add_le_add c d) e
theorem good_sm {x y : Int} (g : Good x y) : Sm x ∧ Sm y := ⟨sm_of (k := 101) (Int.le_of_lt g.tp) g.th (by decide), sm_of (k := 206) (Int.le_of_lt g.bp) g.bh (by decide)⟩
theorem sm_prod {y1 y2 : Int} (h1 : 0 < y1) (h2 : 0 < y2) (b1 : y1 < 2 ^ 206) (b2 : y2 < 2 ^ 206) : Sm (y1 * y2) := by
  have c : y1 * y2 ≤ 2 ^ 206 * 2 ^ 206 := mul_lt_mul' (Int.le_of_lt h1) (Int.le_of_lt h2) (Int.le_of_lt b1) (Int.le_of_lt b2)
  have e : (2 ^ 206 * 2 ^ 206 : Int) = 2 ^ (206 + 206) := by rw [Int.pow_add]
  refine ⟨Int.le_of_lt (Int.mul_pos h1 h2), 413, by decide, ?_⟩
  rw [e] at c
  refine Int.lt_of_le_of_lt c ?_
  have : (2 : Int) ^ 413 = 2 ^ (206 + 206) * 2 := by rw [← Int.pow_succ]
  rw [this]
  have hp : (0 : Int) < 2 ^ (206 + 206) := Int.pow_pos (by decide)
  omega
end Mine
end

-- part M7
section
open PySem PySem.W PyProof.Rows PySem.Calls PySem.Spec PySem.NumText
namespace Mine
theorem digitsVal_app (A B : List Nat) : digitsVal (A ++ B) = digitsVal A * 10 ^ B.length + digitsVal B := by
  have key : ∀ (l : List Nat) (acc : Nat), l.foldl (fun acc c => acc * 10 + (c - 48)) acc = acc * 10 ^ l.length + digitsVal l := by
    intro l
    induction l with
    | nil => intro acc; simp [digitsVal]
    | cons c r ih =>
      intro acc
      have e : digitsVal (c :: r) = (c - 48) * 10 ^ r.length + digitsVal r := by
        show r.foldl _ (0 * 10 + (c - 48)) = _
        rw [ih]
        simp
      rw [List.foldl_cons, ih, e, List.length_cons, Nat.pow_succ, Nat.add_mul]
      rw [Nat.mul_assoc, Nat.mul_comm 10]
      omega
  show (A ++ B).foldl _ 0 = _
  rw [List.foldl_append, key]
  rfl
theorem val_dec {A B : List Nat} {p N : Int} (d : DecOk A B p N) : valI A * tenI B + valI B = N := by
  have h := d.val
  rw [digitsVal_app] at h
  have e : ((B.length : Int)).toNat = B.length := by omega
  show ((digitsVal A : Nat) : Int) * 10 ^ ((B.length : Int)).toNat + ((digitsVal B : Nat) : Int) = N
  rw [e, ← h]
  push_cast
  rfl
theorem low_back {x y c : Int} (hc : 0 < c) (hx : 0 < x) (hy : 0 < y) (hg : Int.gcd x y = 1) : lowI (x * c) (y * c) = x := by
  unfold lowI
  have e : (Int.gcd (x * c) (y * c) : Int) = c := by
    rw [Int.gcd_mul_right, hg, Nat.one_mul]
    omega
  rw [e, Int.mul_ediv_cancel _ (by omega)]
theorem dec_back {A B : List Nat} {M x y : Int} (hx : 0 < x) (hy : 0 < y) (hg : Int.gcd x y = 1) (hM : 1 ≤ M) (hd : y ∣ (10 : Int) ^ M.toNat) (d : DecOk A B M ((x * 10 ^ M.toNat).fdiv y)) :
    lowI (valI A * tenI B + valI B) (tenI B) = x ∧ lowI (tenI B) (valI A * tenI B + valI B) = y := by
  have et : tenI B = 10 ^ M.toNat := by
    have := d.bp
    show (10 : Int) ^ ((B.length : Int)).toNat = _
    rw [this]
  rw [val_dec d, et]
  have hp : (0 : Int) < 10 ^ M.toNat := Int.pow_pos (by decide)
  obtain ⟨c, hc⟩ := hd
  have hc0 : 0 < c := by
    rw [hc] at hp
    exact Int.pos_of_mul_pos_right hp hy
  have eN : (x * 10 ^ M.toNat).fdiv y = x * c := by
    rw [Int.fdiv_eq_ediv_of_nonneg _ (by omega), hc]
    rw [show x * (y * c) = (x * c) * y by ac_rfl]
    exact Int.mul_ediv_cancel _ (by omega)
  rw [eN, hc]
  exact ⟨low_back hc0 hx hy hg, low_back hc0 hy hx (by rw [Int.gcd_comm]; exact hg)⟩

/-- the least common multiple -/
theorem lcm_dvd_iff {a b K : Int} (ha : 0 < a) (hb : 0 < b) : (a * b) / (Int.gcd a b : Int) ∣ K ↔ a ∣ K ∧ b ∣ K := by
  obtain ⟨m, rfl⟩ := Int.eq_ofNat_of_zero_le (Int.le_of_lt ha)
  obtain ⟨n, rfl⟩ := Int.eq_ofNat_of_zero_le (Int.le_of_lt hb)
  have e : ((m : Int) * (n : Int)) / (Int.gcd (m : Int) (n : Int) : Int) = ((Nat.lcm m n : Nat) : Int) := by
    show _ = (((m * n) / Nat.gcd m n : Nat) : Int)
    simp only [Int.gcd, Int.natAbs_natCast]
    push_cast
    rfl
  rw [e]
  constructor
  · intro h
    exact ⟨Int.dvd_trans (Int.ofNat_dvd.mpr (Nat.dvd_lcm_left m n)) h, Int.dvd_trans (Int.ofNat_dvd.mpr (Nat.dvd_lcm_right m n)) h⟩
  · rintro ⟨h1, h2⟩
    rw [← Int.natAbs_dvd_natAbs] at h1 h2 ⊢
    rw [Int.natAbs_natCast] at h1 h2 ⊢
    exact Nat.lcm_dvd h1 h2
theorem lcm_pos {a b : Int} (ha : 0 < a) (hb : 0 < b) : 0 < (a * b) / (Int.gcd a b : Int) := by
  have hg := Int.gcd_pos_of_ne_zero_right a (show b ≠ 0 by omega)
  have hd : (Int.gcd a b : Int) ∣ a * b := Int.dvd_trans (Int.gcd_dvd_left ..) (Int.dvd_mul_right ..)
  obtain ⟨c, hc⟩ := hd
  rw [hc, Int.mul_ediv_cancel_left _ (by omega)]
  have hp := Int.mul_pos ha hb
  rw [hc] at hp
  exact Int.pos_of_mul_pos_right hp (by omega)
theorem lcm_pl {a b : Int} (ha : 0 < a) (hb : 0 < b) : places ((a * b) / (Int.gcd a b : Int)) = if places a = -1 ∨ places b = -1 then -1 else max (places a) (places b) := by
  have hl := lcm_pos ha hb
  have r1 := places_ge (b := a)
  have r2 := places_ge (b := b)
  have r3 := places_ge (b := (a * b) / (Int.gcd a b : Int))
  have key : ∀ p : Int, 1 ≤ p → ((places ((a * b) / (Int.gcd a b : Int)) ≠ -1 ∧ places ((a * b) / (Int.gcd a b : Int)) ≤ p) ↔ ((places a ≠ -1 ∧ places a ≤ p) ∧ (places b ≠ -1 ∧ places b ≤ p))) := by
    intro p hp
    rw [← dvd_places hl hp, ← dvd_places ha hp, ← dvd_places hb hp]
    exact lcm_dvd_iff ha hb
  generalize places a = p1 at *
  generalize places b = p2 at *
  generalize places ((a * b) / (Int.gcd a b : Int)) = mm at *
  split
  · rename_i h
    rcases r3 with e | e
    · exact e
    · have := (key mm e).mp ⟨by omega, Int.le_refl _⟩
      omega
  · rename_i h
    have h1 : 1 ≤ p1 := by omega
    have h2 : 1 ≤ p2 := by omega
    have k1 := (key (max p1 p2) (by omega)).mpr ⟨⟨by omega, by omega⟩, ⟨by omega, by omega⟩⟩
    have k2 := (key mm (by omega)).mp ⟨by omega, Int.le_refl _⟩
    omega

/-- a ratio of so many figures -/
theorem third_pl {t m : Int} (ht : t % 10 ≠ 0) (hm : 1 ≤ m) : places (lowI (10 ^ m.toNat) t) = m := by
  have hp : (0 : Int) < 10 ^ m.toNat := Int.pow_pos (by decide)
  have hb : 0 < lowI (10 ^ m.toNat) t := lowI_pos hp
  have up := (dvd_places hb hm).mp ((low_dvd hp).mpr (Int.dvd_mul_right ..))
  have r := places_ge (b := lowI (10 ^ m.toNat) t)
  by_cases hlt : places (lowI (10 ^ m.toNat) t) < m
  · exfalso
    have h1 : 1 ≤ places (lowI (10 ^ m.toNat) t) := by omega
    have d := (dvd_places hb h1).mpr ⟨by omega, Int.le_refl _⟩
    rw [low_dvd hp] at d
    generalize places (lowI (10 ^ m.toNat) t) = p at *
    have e : m.toNat = p.toNat + ((m.toNat - p.toNat - 1) + 1) := by omega
    rw [e, Int.pow_add] at d
    have hq : (0 : Int) < 10 ^ p.toNat := Int.pow_pos (by decide)
    have d2 := (Int.mul_dvd_mul_iff_left (by omega)).mp d
    rw [Int.pow_succ] at d2
    have d3 : (10 : Int) ∣ t := Int.dvd_trans (Int.dvd_mul_left ..) d2
    exact ht (Int.emod_eq_zero_of_dvd d3)
  · omega
end Mine
end

-- part C16
section
open PySem PySem.W PyProof.Rows PySem.Calls PySem.Spec PySem.NumText
namespace Mine
local macro_rules | `(tactic| k_all) => `(tactic| assumption)
local macro_rules | `(tactic| k_ne) => `(tactic| assumption)
local macro_rules | `(tactic| k_mem) => `(tactic| first | exact (by assumption) | exact (List.mem_cons_of_mem _ (by assumption)) | exact (List.mem_cons_of_mem _ (List.mem_cons_of_mem _ (by assumption))) | exact (List.mem_cons_of_mem _ (List.mem_cons_of_mem _ (List.mem_cons_of_mem _ (by assumption)))) | exact (List.mem_cons_of_mem _ (List.mem_cons_of_mem _ (List.mem_cons_of_mem _ (List.mem_cons_of_mem _ (by assumption))))) | exact (List.mem_cons_of_mem _ (List.mem_cons_of_mem _ (List.mem_cons_of_mem _ (List.mem_cons_of_mem _ (List.mem_cons_of_mem _ (by assumption)))))) | exact (List.mem_cons_of_mem _ (List.mem_cons_of_mem _ (List.mem_cons_of_mem _ (List.mem_cons_of_mem _ (List.mem_cons_of_mem _ (List.mem_cons_of_mem _ (by assumption))))))) | exact (List.mem_cons_of_mem _ (List.mem_cons_of_mem _ (List.mem_cons_of_mem _ (List.mem_cons_of_mem _ (List.mem_cons_of_mem _ (List.mem_cons_of_mem _ (List.mem_cons_of_mem _ (by assumption)))))))) | exact (List.mem_cons_of_mem _ (List.mem_cons_of_mem _ (List.mem_cons_of_mem _ (List.mem_cons_of_mem _ (List.mem_cons_of_mem _ (List.mem_cons_of_mem _ (List.mem_cons_of_mem _ (List.mem_cons_of_mem _ (by assumption))))))))))
local macro_rules | `(tactic| walk_at "call builtin:str.count") => `(tactic| (k_here; (refine r_count ?kb0 ?kb1 ?_); (case kb0 => assumption); (case kb1 => assumption)))
local macro_rules | `(tactic| walk_at "call builtin:str.split") => `(tactic| (k_here; (rename Fr _ _ _ _ => lF'); (rename News _ _ _ _ => lN'); (refine r_split ?kb0 ?kb1 ?kb2 lF' lN' ?_); (case kb0 => assumption); (case kb1 => assumption); (case kb2 => rw [decT_len]; omega); (clear lF' lN'); intro D9 ta9 tb9 h9 tk9 F9 N9))
local macro_rules | `(tactic| walk_at "call builtin:len") => `(tactic| (k_here; (with_reducible refine r_len ?kb0 ?_); (case kb0 => omega)))
local macro_rules | `(tactic| walk_at "binaryOp Mult int int") => `(tactic| (k_here; (with_reducible refine mul_int ?_ ?kba); (case kba => assumption)))

theorem retB {news news' : Led} {b : Bool} {h₀ h' : Heap} {L : Addr} {m : Nm} {s : Shared} {Q : Value → Shared → Prop} {tk' : Nat} (hret : RetB news true h₀ L m s Q) (e : b = true) (F : Fr h₀ L h' m) (N : News h₀ L h' news') (hs : ∀ p ∈ news, p ∈ news') : Q (.bool b) { s with heap := h', toks := tk' } := by
  subst e
  exact hret h' tk' F (cb_drop N hs)

set_option maxRecDepth 100000 in
set_option maxHeartbeats 8000000 in
theorem c_sum (w : World) (mean : Mean) (mg mb : Nm) (news : Led) (o1 o2 : Addr) (x1 y1 x2 y2 : Int) (t1 u1 t2 u2 : Tok) (g1 : Good x1 y1) (g2 : Good x2 y2)
    (hm1 : (o1, tupO [.int x1 t1, .int y1 u1]) ∈ news) (hm2 : (o2, tupO [.int x2 t2, .int y2 u2]) ∈ news) :
    Cl w mean mg mb 200 280 [.ref o1, .ref o2] news (RetB news true) := by
  dsimp only [Cl]
  w_top off
  k_fill
  intro dp un gd cn cs a₀ ccd cl outer A₀ base h₀ L m s Q E B₀ F X N T₀ hkk hd hu hret
  have m1 := mul_ok (good_sm g1).1 (good_sm g2).2
  have m2 := mul_ok (good_sm g2).1 (good_sm g1).2
  have m3 := mul_ok (good_sm g1).2 (good_sm g2).2
  have hS := (sum_top g1 g2).1
  have hS2 := (sum_top g1 g2).2
  have hY := Int.mul_pos g1.bp g2.bp
  have hsY := sm_prod g1.bp g2.bp g1.bh g2.bh
  have hb1 := g1.bp
  have hb2 := g2.bp
  have hb3 := bot_pos (x1 := x1) (x2 := x2) g1.bp g2.bp
  have hpl := sum_pl g1 g2
  obtain ⟨pr1, pr2, pr3, po1, po2, pf, pl1, pl2⟩ := hpl
  have ht1 : 0 < lowI (x1 * y2 + x2 * y1) (y1 * y2) := lowI_pos hS
  have ht2 : lowI (x1 * y2 + x2 * y1) (y1 * y2) < 2 ^ 308 := Int.lt_of_le_of_lt (lowI_le (Int.le_of_lt hS)) hS2
  have hsb : Sm (lowI (y1 * y2) (x1 * y2 + x2 * y1)) := hsY.le (Int.le_of_lt hb3) (lowI_le (Int.le_of_lt hY))
  have hco := lowI_co (x := x1 * y2 + x2 * y1) hY
  clear hS2
  refine wpAny_call ?_
  k_dflt ktr_enter
  k_with_none
  k_with "call ref" => ((with_reducible show wpAny _ _ (call (Value.ref 254) _) _ _ _); k_here; refine' cl_use (c_lowest _ _ _ _ _ _ _ _ _ (Int.le_of_lt hS) hY hsY) ?k1 ?k2 ?k3 ?k4 ?k5 ?kK ?kd ?ku ?_; (case k1 => k_asm); (case k2 => k_asm); (case k3 => k_asm); (case k4 => k_asm); (case k5 => k_asm); (case kK => first | exact rfl | assumption); (case kd => ktr_room); (case ku => ktr_units); intro q9 t9 u9 h9 tk9 F9 N9 l9; (try dsimp only); (try k_fold); walk_say "LOWEST")
  k_with "call ref" => ((with_reducible show wpAny _ _ (call (Value.ref 226) _) _ _ _); k_here; refine' cl_use (c_places _ _ _ _ _ _ _ ?hx) ?k1 ?k2 ?k3 ?k4 ?k5 ?kK ?kd ?ku ?_; (case k1 => k_asm); (case k2 => k_asm); (case k3 => k_asm); (case k4 => k_asm); (case k5 => k_asm); (case kK => first | exact rfl | assumption); (case kd => ktr_room); (case ku => ktr_units); (case hx => assumption); intro t9 h9 tk9 F9 N9; (try dsimp only); (try k_fold); walk_say "PLACES")
  k_with "call ref" => ((with_reducible show wpAny _ _ (call (Value.ref 233) _) _ _ _); k_here; refine' cl_use (c_dtext _ _ _ _ _ _ _ _ _ _ ht1 ht2 hb3 hsb ?kp ?kp2) ?k1 ?k2 ?k3 ?k4 ?k5 ?kK ?kd ?ku ?_; (case k1 => k_asm); (case k2 => k_asm); (case k3 => k_asm); (case k4 => k_asm); (case k5 => k_asm); (case kK => first | exact rfl | assumption); (case kd => ktr_room); (case ku => ktr_units); (case kp => omega); (case kp2 => omega); intro A9 B9 t9 h9 tk9 d9 F9 N9; (have dA := d9.a); (have dB := d9.b); (have dN := d9.an); (have dP := d9.bp); (have dL := d9.len); (have dH := d9.hd); (have dQ : B9 ≠ [] := fun e => by (rw [e, List.length_nil] at dP; omega)); (try dsimp only); (try k_fold); walk_say "DTEXT")
  k_with "call ref" => ((with_reducible show wpAny _ _ (call (Value.ref 219) _) _ _ _); k_here; refine' cl_use (c_one _ _ _ _ _ _ _ _ dA dB dN dQ dH dL ?kp) ?k1 ?k2 ?k3 ?k4 ?k5 ?kK ?kd ?ku ?_; (case k1 => k_asm); (case k2 => k_asm); (case k3 => k_asm); (case k4 => k_asm); (case k5 => k_asm); (case kK => first | exact rfl | assumption); (case kd => ktr_room); (case ku => ktr_units); (case kp => omega); intro q9 r9 t9 u9 v9 h9 tk9 F9 N9; (have db := dec_back ht1 hb3 hco ?kM ?kD d9); (case kM => omega); (case kD => exact (dvd_places hb3 (by omega)).mpr ⟨by omega, by omega⟩); (rw [db.1, db.2] at N9); (try dsimp only); (try k_fold); walk_say "ONE")
  k_steps
  all_goals
    (rename News _ _ _ _ => nN)
    first
    | (exfalso; omega)
    | exact retB hret (by first | rfl | exact beq_iff_eq.mpr (by omega)) (by assumption) nN (fun p hp => by repeat (first | exact hp | apply List.mem_cons_of_mem))
    | trace_state
end Mine
end

-- part C17
section
open PySem PySem.W PyProof.Rows PySem.Calls PySem.Spec PySem.NumText
namespace Mine
local macro_rules | `(tactic| k_all) => `(tactic| assumption)
local macro_rules | `(tactic| k_ne) => `(tactic| assumption)
local macro_rules | `(tactic| walk_at "binaryOp Mult int int") => `(tactic| (k_here; (with_reducible refine mul_int ?_ ?kba); (case kba => assumption)))
local macro_rules | `(tactic| walk_at "binaryOp FloorDiv int int") => `(tactic| (k_here; (with_reducible refine floordiv_int ?kbe ?_ (Or.inl (PyProof.noPylong_of_log2 ?kbp))); (case kbe => assumption); (case kbp => assumption)))

theorem mult_pl {y1 y2 : Int} (h1 : 0 < y1) (h2 : 0 < y2) : 0 < (y1 * y2).fdiv (Int.gcd y1 y2 : Int) ∧ ((places y1 = -1 ∨ places y2 = -1) → places ((y1 * y2).fdiv (Int.gcd y1 y2 : Int)) = -1) ∧ (places y1 ≠ -1 → places y2 ≠ -1 → places ((y1 * y2).fdiv (Int.gcd y1 y2 : Int)) = max (places y1) (places y2)) := by
  rw [Int.fdiv_eq_ediv_of_nonneg _ (by omega)]
  refine ⟨lcm_pos h1 h2, fun h => ?_, fun a b => ?_⟩
  · rw [lcm_pl h1 h2, if_pos h]
  · rw [lcm_pl h1 h2, if_neg (by omega)]

set_option maxRecDepth 100000 in
set_option maxHeartbeats 8000000 in
theorem c_mult (w : World) (mean : Mean) (mg mb : Nm) (news : Led) (x1 y1 x2 y2 : Int) (u1 u2 : Tok) (g1 : Good x1 y1) (g2 : Good x2 y2) :
    Cl w mean mg mb 200 287 [.int y1 u1, .int y2 u2] news (RetB news true) := by
  dsimp only [Cl]
  w_top off
  k_fill
  intro dp un gd cn cs a₀ ccd cl outer A₀ base h₀ L m s Q E B₀ F X N T₀ hkk hd hu hret
  have m3 := mul_ok (good_sm g1).2 (good_sm g2).2
  have hb1 := g1.bp
  have hb2 := g2.bp
  have hge1 := places_ge (b := y1)
  have hge2 := places_ge (b := y2)
  have hg := gcd_ne (x := y1) hb2
  have hg2 := gcd_sm (x := y1) hb2 (good_sm g2).2
  obtain ⟨hb3, hp1, hp2⟩ := mult_pl hb1 hb2
  refine wpAny_call ?_
  k_dflt ktr_enter
  k_with_none
  k_with "call ref" => ((with_reducible show wpAny _ _ (call (Value.ref 247) _) _ _ _); k_here; refine' cl_use (c_common _ _ _ _ _ _ _ _ _ (Int.le_of_lt hb1) (Int.le_of_lt hb2)) ?k1 ?k2 ?k3 ?k4 ?k5 ?kK ?kd ?ku ?_; (case k1 => k_asm); (case k2 => k_asm); (case k3 => k_asm); (case k4 => k_asm); (case k5 => k_asm); (case kK => first | exact rfl | assumption); (case kd => ktr_room); (case ku => ktr_units); intro t9 h9 tk9 F9 N9; (try dsimp only); (try k_fold); walk_say "COMMON")
  k_with "call ref" => ((with_reducible show wpAny _ _ (call (Value.ref 226) _) _ _ _); k_here; refine' cl_use (c_places _ _ _ _ _ _ _ ?hx) ?k1 ?k2 ?k3 ?k4 ?k5 ?kK ?kd ?ku ?_; (case k1 => k_asm); (case k2 => k_asm); (case k3 => k_asm); (case k4 => k_asm); (case k5 => k_asm); (case kK => first | exact rfl | assumption); (case kd => ktr_room); (case ku => ktr_units); (case hx => assumption); intro t9 h9 tk9 F9 N9; (try dsimp only); (try k_fold); walk_say "PLACES")
  k_steps
  all_goals
    (rename News _ _ _ _ => nN)
    first
    | exact retB hret (by first | rfl | exact beq_iff_eq.mpr (by omega)) (by assumption) nN (fun p hp => by repeat (first | exact hp | apply List.mem_cons_of_mem))
    | trace_state
end Mine
end

-- part LAW
section
open PySem PySem.W PyProof.Rows PySem.Calls PySem.Spec PySem.NumText
namespace Mine
theorem lw_perm {h₀ h : Heap} {L : Addr} {a b c : Addr × Obj} (N : News h₀ L h [a, c, b]) : News h₀ L h (a :: b :: [c]) := by
  intro p hp
  refine N p ?_
  simp only [List.mem_cons, List.not_mem_nil, or_false] at hp ⊢
  rcases hp with h | h | h <;> simp only [h, true_or, or_true]
theorem lw_len (ws : List Int) (f : Int → Int) : (List.map f (List.take 30 ws)).length ≤ 30 := by
  rw [List.length_map, List.length_take]; omega
theorem all_pos {vs : List Value} (h : ∀ v ∈ vs, ∃ k t, v = .int k t ∧ 0 < k) : ∀ (i : Nat) (v : Value), vs.toArray[i]? = some v → ∃ k t, v = .int k t ∧ 0 < k := by
  intro i v e
  rw [List.getElem?_toArray] at e
  exact h v (List.mem_of_getElem? e)
theorem eight {a b c d : Int} {t1 t2 t3 t4 t5 t6 t7 t8 : Tok} (ha : 0 < a) (hb : 0 < b) (hc : 0 < c) (hd : 0 < d) :
    ∀ (i : Nat) (v : Value), [Value.int a t1, .int b t2, .int c t3, .int d t4, .int 1 t5, .int 2 t6, .int 3 t7, .int 10 t8].toArray[i]? = some v → ∃ k t, v = .int k t ∧ 0 < k := by
  refine all_pos ?_
  simp only [List.forall_mem_cons]
  exact ⟨⟨_, _, rfl, ha⟩, ⟨_, _, rfl, hb⟩, ⟨_, _, rfl, hc⟩, ⟨_, _, rfl, hd⟩, ⟨_, _, rfl, by decide⟩, ⟨_, _, rfl, by decide⟩, ⟨_, _, rfl, by decide⟩, ⟨_, _, rfl, by decide⟩, fun _ h => nomatch h⟩
local macro_rules | `(tactic| walk_at "compareOp NotEq int int") => `(tactic| (with_reducible refine ne_same ?_))
theorem c_placesT (w : World) (mean : Mean) (mg mb : Nm) (news : Led) (t m : Int) (tk : Tok) (ht : t % 10 ≠ 0) (hm : 1 ≤ m) :
    Cl w mean mg mb 1 226 [.int (lowI (10 ^ m.toNat) t) tk] news (RetV news (fun u => .int m u)) := by
  have h := c_places w mean mg mb news (lowI (10 ^ m.toNat) t) tk (lowI_pos (Int.pow_pos (by decide)))
  rw [third_pl ht hm] at h
  exact h
end Mine
open Mine
set_option maxRecDepth 100000 in
set_option maxHeartbeats 8000000 in
theorem PySem.Challenge.cw_qz0009_01_holds : PySem.Challenge.rw_qz0009_01.Holds := by
  refine Mine.hd ?_
  k_go0
  (all_goals try k_fold)
  k_with_none
  k_with "call ref" => ((with_reducible show wpAny _ _ (call (Value.ref 261) _) _ _ _); k_here; k_dflt (refine' cl_use (c_lratio _ _ _ _ _ _ _ _ _ _ _ _ ?hne ?hr ?hI ?hl ?hP ?hk0 ?hk) ?k1 ?k2 ?k3 ?k4 ?k5 ?kK ?kd ?ku ?_; (case k1 => with_reducible assumption); (case k2 => with_reducible assumption); (case k3 => with_reducible assumption); (case k4 => first | with_reducible assumption | exact lw_perm (by with_reducible assumption) | exact dr_perm1 (by with_reducible assumption) | exact pm4 (by with_reducible assumption)); (case k5 => with_reducible assumption); (case kK => first | exact rfl | assumption); (case kd => ktr_room); (case ku => ktr_units); (case hne => k_ne); (case hr => k_all); (case hI => with_reducible assumption); (case hl => exact lw_len _ _); (case hP => first | with_reducible assumption | (rename Obj.IsDictOf _ _ _ => hPd; exact hPd)); (case hk0 => omega); (case hk => omega); intro q9 x9 y9 t9 u9 v9 o9 h9 tk9 G9 P9 F9 N9 l9; (try k_lt l9); (try dsimp only); (try k_fold); walk_say "RATIO"))
  k_with "call ref" => ((with_reducible show wpAny _ _ (call (Value.ref 240) _) _ _ _); k_here; k_dflt (refine' cl_use (c_draw _ _ _ _ _ _ _ _ _ _ _ _ _ _ ?hne ?hr ?hI ?hl ?hP ?hk0 ?hk ?hw) ?k1 ?k2 ?k3 ?k4 ?k5 ?kK ?kd ?ku ?_; (case k1 => with_reducible assumption); (case k2 => with_reducible assumption); (case k3 => with_reducible assumption); (case k4 => first | with_reducible assumption | exact lw_perm (by with_reducible assumption) | exact dr_perm1 (by with_reducible assumption) | exact pm4 (by with_reducible assumption)); (case k5 => with_reducible assumption); (case kK => first | exact rfl | assumption); (case kd => ktr_room); (case ku => ktr_units); (case hne => k_ne); (case hr => k_all); (case hI => with_reducible assumption); (case hl => exact lw_len _ _); (case hP => first | with_reducible assumption | (rename Obj.IsDictOf _ _ _ => hPd; exact hPd)); (case hk0 => omega); (case hk => omega); (case hw => first | decide | omega); intro v9 t9 u9 o9 h9 tk9 hv0 hv1 P9 F9 N9; (try dsimp only); (try k_fold); walk_say "DRAW"))
  k_with "call ref" => ((with_reducible show wpAny _ _ (call (Value.ref 254) _) _ _ _); k_here; k_dflt (refine' cl_use (c_lowest _ _ _ _ _ _ _ _ _ ?hx ?hy ?hs) ?k1 ?k2 ?k3 ?k4 ?k5 ?kK ?kd ?ku ?_; (case k1 => with_reducible assumption); (case k2 => with_reducible assumption); (case k3 => with_reducible assumption); (case k4 => with_reducible assumption); (case k5 => with_reducible assumption); (case kK => first | exact rfl | assumption); (case kd => ktr_room); (case ku => ktr_units); (case hx => omega); (case hy => exact (ten_le (by omega) (by omega)).1); (case hs => exact sm_tenp (by omega) (by omega)); intro q9 t9 u9 h9 tk9 F9 N9 l9; (try k_lt l9); (try dsimp only); (try k_fold); walk_say "LOWEST"))
  k_with "call ref" => ((with_reducible show wpAny _ _ (call (Value.ref 273) _) _ _ _); k_here; k_dflt (refine' cl_use (c_right _ _ _ _ _ _ _ _ ?hz ?hP) ?k1 ?k2 ?k3 ?k4 ?k5 ?kK ?kd ?ku ?_; (case k1 => with_reducible assumption); (case k2 => with_reducible assumption); (case k3 => with_reducible assumption); (case k4 => with_reducible assumption); (case k5 => with_reducible assumption); (case kK => first | exact rfl | assumption); (case kd => ktr_room); (case ku => ktr_units); (case hz => size_fits); (case hP => exact eight (Good.bp (by assumption)) (Good.bp (by assumption)) (lowI_pos (ten_le (by omega) (by omega)).1) (Int.mul_pos (Good.bp (by assumption)) (by decide))); intro h9 tk9 F9 N9; (try dsimp only); (try k_fold); walk_say "RIGHT"))
  k_with "call ref" => ((with_reducible show wpAny _ _ (call (Value.ref 226) _) _ _ _); k_here; k_dflt (refine' cl_use (c_placesT _ _ _ _ _ _ _ _ ?hx ?hy) ?k1 ?k2 ?k3 ?k4 ?k5 ?kK ?kd ?ku ?_; (case k1 => with_reducible assumption); (case k2 => with_reducible assumption); (case k3 => with_reducible assumption); (case k4 => with_reducible assumption); (case k5 => with_reducible assumption); (case kK => first | exact rfl | assumption); (case kd => ktr_room); (case ku => ktr_units); (case hx => omega); (case hy => omega); intro t9 h9 tk9 F9 N9; (try dsimp only); (try k_fold); walk_say "PLACES"))
  k_with "call ref" => ((with_reducible show wpAny _ _ (call (Value.ref 280) _) _ _ _); k_here; k_dflt (refine' cl_use (c_sum _ _ _ _ _ _ _ _ _ _ _ _ _ _ _ ?g1 ?g2 ?m1 ?m2) ?k1 ?k2 ?k3 ?k4 ?k5 ?kK ?kd ?ku ?_; (case k1 => with_reducible assumption); (case k2 => with_reducible assumption); (case k3 => with_reducible assumption); (case k4 => with_reducible assumption); (case k5 => with_reducible assumption); (case kK => first | exact rfl | assumption); (case kd => ktr_room); (case ku => ktr_units); (case m1 => k_mem); (case m2 => k_mem); (case g1 => with_reducible assumption); (case g2 => with_reducible assumption); intro h9 tk9 F9 N9; (try dsimp only); (try k_fold); walk_say "SUM"))
  k_with "call ref" => ((with_reducible show wpAny _ _ (call (Value.ref 287) _) _ _ _); k_here; k_dflt (refine' cl_use (c_mult _ _ _ _ _ _ _ _ _ _ _ ?g1 ?g2) ?k1 ?k2 ?k3 ?k4 ?k5 ?kK ?kd ?ku ?_; (case k1 => with_reducible assumption); (case k2 => with_reducible assumption); (case k3 => with_reducible assumption); (case k4 => with_reducible assumption); (case k5 => with_reducible assumption); (case kK => first | exact rfl | assumption); (case kd => ktr_room); (case ku => ktr_units); (case g1 => with_reducible assumption); (case g2 => with_reducible assumption); intro h9 tk9 F9 N9; (try dsimp only); (try k_fold); walk_say "MULT"))
  k_steps
end
