import PyProof.Rows.All
import Wide.All
import OpenK.AllK
import Wide.FinOn
import PySem.Challenge.RW_nt0549_01
set_option Elab.async false
set_option maxRecDepth 100000
set_option linter.all false

/-! Hk -/
section
open PySem PySem.W PyProof.Rows
namespace Mine

/-! the text's own parts, by their places in it -/
noncomputable abbrev prg0 : Program := PySem.Challenge.pw_nt0549_01
noncomputable def stm (i : Nat) : Stmt := (prg0.main.body[i]?).getD default
noncomputable def mth (i j : Nat) : Stmt := match stm i with
  | .ClassDef _ _ _ b .. => (b[j]?).getD default
  | _ => default
noncomputable def prmF : Stmt → Arguments
  | .FunctionDef _ p .. => p
  | _ => default
noncomputable def bodF : Stmt → List Stmt
  | .FunctionDef _ _ b .. => b
  | _ => []
noncomputable def scpF : Stmt → Scope
  | .FunctionDef _ _ _ _ _ _ s .. => s
  | _ => default
/-- _wall -/
noncomputable def pa0 : Arguments := by
  refine' (fun (y : Arguments) (_ : prmF (stm 0) = y) => y) _ ?h
  case h => conv => lhs; whnf
noncomputable def bd0 : List Stmt := by
  refine' (fun (y : List Stmt) (_ : bodF (stm 0) = y) => y) _ ?h
  case h => conv => lhs; whnf
noncomputable def sc0 : Scope := by
  refine' (fun (y : Scope) (_ : scpF (stm 0) = y) => y) _ ?h
  case h => conv => lhs; whnf
/-- PressError.__init__ -/
noncomputable def pa1 : Arguments := by
  refine' (fun (y : Arguments) (_ : prmF (mth 2 0) = y) => y) _ ?h
  case h => conv => lhs; whnf
noncomputable def bd1 : List Stmt := by
  refine' (fun (y : List Stmt) (_ : bodF (mth 2 0) = y) => y) _ ?h
  case h => conv => lhs; whnf
noncomputable def sc1 : Scope := by
  refine' (fun (y : Scope) (_ : scpF (mth 2 0) = y) => y) _ ?h
  case h => conv => lhs; whnf
/-- Plane.__init__ -/
noncomputable def pa2 : Arguments := by
  refine' (fun (y : Arguments) (_ : prmF (mth 5 0) = y) => y) _ ?h
  case h => conv => lhs; whnf
noncomputable def bd2 : List Stmt := by
  refine' (fun (y : List Stmt) (_ : bodF (mth 5 0) = y) => y) _ ?h
  case h => conv => lhs; whnf
noncomputable def sc2 : Scope := by
  refine' (fun (y : Scope) (_ : scpF (mth 5 0) = y) => y) _ ?h
  case h => conv => lhs; whnf
/-- Plane.at -/
noncomputable def pa3 : Arguments := by
  refine' (fun (y : Arguments) (_ : prmF (mth 5 1) = y) => y) _ ?h
  case h => conv => lhs; whnf
noncomputable def bd3 : List Stmt := by
  refine' (fun (y : List Stmt) (_ : bodF (mth 5 1) = y) => y) _ ?h
  case h => conv => lhs; whnf
noncomputable def sc3 : Scope := by
  refine' (fun (y : Scope) (_ : scpF (mth 5 1) = y) => y) _ ?h
  case h => conv => lhs; whnf
/-- Plane.put -/
noncomputable def pa4 : Arguments := by
  refine' (fun (y : Arguments) (_ : prmF (mth 5 2) = y) => y) _ ?h
  case h => conv => lhs; whnf
noncomputable def bd4 : List Stmt := by
  refine' (fun (y : List Stmt) (_ : bodF (mth 5 2) = y) => y) _ ?h
  case h => conv => lhs; whnf
noncomputable def sc4 : Scope := by
  refine' (fun (y : Scope) (_ : scpF (mth 5 2) = y) => y) _ ?h
  case h => conv => lhs; whnf
/-- level_value -/
noncomputable def pa5 : Arguments := by
  refine' (fun (y : Arguments) (_ : prmF (stm 8) = y) => y) _ ?h
  case h => conv => lhs; whnf
noncomputable def bd5 : List Stmt := by
  refine' (fun (y : List Stmt) (_ : bodF (stm 8) = y) => y) _ ?h
  case h => conv => lhs; whnf
noncomputable def sc5 : Scope := by
  refine' (fun (y : Scope) (_ : scpF (stm 8) = y) => y) _ ?h
  case h => conv => lhs; whnf
/-- nearest_level -/
noncomputable def pa6 : Arguments := by
  refine' (fun (y : Arguments) (_ : prmF (stm 9) = y) => y) _ ?h
  case h => conv => lhs; whnf
noncomputable def bd6 : List Stmt := by
  refine' (fun (y : List Stmt) (_ : bodF (stm 9) = y) => y) _ ?h
  case h => conv => lhs; whnf
noncomputable def sc6 : Scope := by
  refine' (fun (y : Scope) (_ : scpF (stm 9) = y) => y) _ ?h
  case h => conv => lhs; whnf
/-- check_levels -/
noncomputable def pa7 : Arguments := by
  refine' (fun (y : Arguments) (_ : prmF (stm 10) = y) => y) _ ?h
  case h => conv => lhs; whnf
noncomputable def bd7 : List Stmt := by
  refine' (fun (y : List Stmt) (_ : bodF (stm 10) = y) => y) _ ?h
  case h => conv => lhs; whnf
noncomputable def sc7 : Scope := by
  refine' (fun (y : Scope) (_ : scpF (stm 10) = y) => y) _ ?h
  case h => conv => lhs; whnf
/-- thresholds -/
noncomputable def pa8 : Arguments := by
  refine' (fun (y : Arguments) (_ : prmF (stm 11) = y) => y) _ ?h
  case h => conv => lhs; whnf
noncomputable def bd8 : List Stmt := by
  refine' (fun (y : List Stmt) (_ : bodF (stm 11) = y) => y) _ ?h
  case h => conv => lhs; whnf
noncomputable def sc8 : Scope := by
  refine' (fun (y : Scope) (_ : scpF (stm 11) = y) => y) _ ?h
  case h => conv => lhs; whnf
/-- ordered_level -/
noncomputable def pa9 : Arguments := by
  refine' (fun (y : Arguments) (_ : prmF (stm 12) = y) => y) _ ?h
  case h => conv => lhs; whnf
noncomputable def bd9 : List Stmt := by
  refine' (fun (y : List Stmt) (_ : bodF (stm 12) = y) => y) _ ?h
  case h => conv => lhs; whnf
noncomputable def sc9 : Scope := by
  refine' (fun (y : Scope) (_ : scpF (stm 12) = y) => y) _ ?h
  case h => conv => lhs; whnf
/-- ordered_plane -/
noncomputable def pa10 : Arguments := by
  refine' (fun (y : Arguments) (_ : prmF (stm 13) = y) => y) _ ?h
  case h => conv => lhs; whnf
noncomputable def bd10 : List Stmt := by
  refine' (fun (y : List Stmt) (_ : bodF (stm 13) = y) => y) _ ?h
  case h => conv => lhs; whnf
noncomputable def sc10 : Scope := by
  refine' (fun (y : Scope) (_ : scpF (stm 13) = y) => y) _ ?h
  case h => conv => lhs; whnf
/-- parts_of -/
noncomputable def pa11 : Arguments := by
  refine' (fun (y : Arguments) (_ : prmF (stm 14) = y) => y) _ ?h
  case h => conv => lhs; whnf
noncomputable def bd11 : List Stmt := by
  refine' (fun (y : List Stmt) (_ : bodF (stm 14) = y) => y) _ ?h
  case h => conv => lhs; whnf
noncomputable def sc11 : Scope := by
  refine' (fun (y : Scope) (_ : scpF (stm 14) = y) => y) _ ?h
  case h => conv => lhs; whnf
/-- Spreader.__init__ -/
noncomputable def pa12 : Arguments := by
  refine' (fun (y : Arguments) (_ : prmF (mth 15 0) = y) => y) _ ?h
  case h => conv => lhs; whnf
noncomputable def bd12 : List Stmt := by
  refine' (fun (y : List Stmt) (_ : bodF (mth 15 0) = y) => y) _ ?h
  case h => conv => lhs; whnf
noncomputable def sc12 : Scope := by
  refine' (fun (y : Scope) (_ : scpF (mth 15 0) = y) => y) _ ?h
  case h => conv => lhs; whnf
/-- Spreader.give -/
noncomputable def pa13 : Arguments := by
  refine' (fun (y : Arguments) (_ : prmF (mth 15 1) = y) => y) _ ?h
  case h => conv => lhs; whnf
noncomputable def bd13 : List Stmt := by
  refine' (fun (y : List Stmt) (_ : bodF (mth 15 1) = y) => y) _ ?h
  case h => conv => lhs; whnf
noncomputable def sc13 : Scope := by
  refine' (fun (y : Scope) (_ : scpF (mth 15 1) = y) => y) _ ?h
  case h => conv => lhs; whnf
/-- Spreader.level -/
noncomputable def pa14 : Arguments := by
  refine' (fun (y : Arguments) (_ : prmF (mth 15 2) = y) => y) _ ?h
  case h => conv => lhs; whnf
noncomputable def bd14 : List Stmt := by
  refine' (fun (y : List Stmt) (_ : bodF (mth 15 2) = y) => y) _ ?h
  case h => conv => lhs; whnf
noncomputable def sc14 : Scope := by
  refine' (fun (y : Scope) (_ : scpF (mth 15 2) = y) => y) _ ?h
  case h => conv => lhs; whnf
/-- Spreader.row -/
noncomputable def pa15 : Arguments := by
  refine' (fun (y : Arguments) (_ : prmF (mth 15 3) = y) => y) _ ?h
  case h => conv => lhs; whnf
noncomputable def bd15 : List Stmt := by
  refine' (fun (y : List Stmt) (_ : bodF (mth 15 3) = y) => y) _ ?h
  case h => conv => lhs; whnf
noncomputable def sc15 : Scope := by
  refine' (fun (y : Scope) (_ : scpF (mth 15 3) = y) => y) _ ?h
  case h => conv => lhs; whnf
/-- spread_plane -/
noncomputable def pa16 : Arguments := by
  refine' (fun (y : Arguments) (_ : prmF (stm 16) = y) => y) _ ?h
  case h => conv => lhs; whnf
noncomputable def bd16 : List Stmt := by
  refine' (fun (y : List Stmt) (_ : bodF (stm 16) = y) => y) _ ?h
  case h => conv => lhs; whnf
noncomputable def sc16 : Scope := by
  refine' (fun (y : Scope) (_ : scpF (stm 16) = y) => y) _ ?h
  case h => conv => lhs; whnf
/-- shown_levels -/
noncomputable def pa17 : Arguments := by
  refine' (fun (y : Arguments) (_ : prmF (stm 17) = y) => y) _ ?h
  case h => conv => lhs; whnf
noncomputable def bd17 : List Stmt := by
  refine' (fun (y : List Stmt) (_ : bodF (stm 17) = y) => y) _ ?h
  case h => conv => lhs; whnf
noncomputable def sc17 : Scope := by
  refine' (fun (y : Scope) (_ : scpF (stm 17) = y) => y) _ ?h
  case h => conv => lhs; whnf
/-- _law_pool -/
noncomputable def pa18 : Arguments := by
  refine' (fun (y : Arguments) (_ : prmF (stm 19) = y) => y) _ ?h
  case h => conv => lhs; whnf
noncomputable def bd18 : List Stmt := by
  refine' (fun (y : List Stmt) (_ : bodF (stm 19) = y) => y) _ ?h
  case h => conv => lhs; whnf
noncomputable def sc18 : Scope := by
  refine' (fun (y : Scope) (_ : scpF (stm 19) = y) => y) _ ?h
  case h => conv => lhs; whnf
/-- _law_take -/
noncomputable def pa19 : Arguments := by
  refine' (fun (y : Arguments) (_ : prmF (stm 20) = y) => y) _ ?h
  case h => conv => lhs; whnf
noncomputable def bd19 : List Stmt := by
  refine' (fun (y : List Stmt) (_ : bodF (stm 20) = y) => y) _ ?h
  case h => conv => lhs; whnf
noncomputable def sc19 : Scope := by
  refine' (fun (y : Scope) (_ : scpF (stm 20) = y) => y) _ ?h
  case h => conv => lhs; whnf
/-- _law_one -/
noncomputable def pa20 : Arguments := by
  refine' (fun (y : Arguments) (_ : prmF (stm 21) = y) => y) _ ?h
  case h => conv => lhs; whnf
noncomputable def bd20 : List Stmt := by
  refine' (fun (y : List Stmt) (_ : bodF (stm 21) = y) => y) _ ?h
  case h => conv => lhs; whnf
noncomputable def sc20 : Scope := by
  refine' (fun (y : Scope) (_ : scpF (stm 21) = y) => y) _ ?h
  case h => conv => lhs; whnf
/-- _law_levels_right -/
noncomputable def pa21 : Arguments := by
  refine' (fun (y : Arguments) (_ : prmF (stm 22) = y) => y) _ ?h
  case h => conv => lhs; whnf
noncomputable def bd21 : List Stmt := by
  refine' (fun (y : List Stmt) (_ : bodF (stm 22) = y) => y) _ ?h
  case h => conv => lhs; whnf
noncomputable def sc21 : Scope := by
  refine' (fun (y : Scope) (_ : scpF (stm 22) = y) => y) _ ?h
  case h => conv => lhs; whnf
/-- _law_number -/
noncomputable def pa22 : Arguments := by
  refine' (fun (y : Arguments) (_ : prmF (stm 23) = y) => y) _ ?h
  case h => conv => lhs; whnf
noncomputable def bd22 : List Stmt := by
  refine' (fun (y : List Stmt) (_ : bodF (stm 23) = y) => y) _ ?h
  case h => conv => lhs; whnf
noncomputable def sc22 : Scope := by
  refine' (fun (y : Scope) (_ : scpF (stm 23) = y) => y) _ ?h
  case h => conv => lhs; whnf
/-- _law_laid_right -/
noncomputable def pa23 : Arguments := by
  refine' (fun (y : Arguments) (_ : prmF (stm 24) = y) => y) _ ?h
  case h => conv => lhs; whnf
noncomputable def bd23 : List Stmt := by
  refine' (fun (y : List Stmt) (_ : bodF (stm 24) = y) => y) _ ?h
  case h => conv => lhs; whnf
noncomputable def sc23 : Scope := by
  refine' (fun (y : Scope) (_ : scpF (stm 24) = y) => y) _ ?h
  case h => conv => lhs; whnf
/-- _law_ordered_right -/
noncomputable def pa24 : Arguments := by
  refine' (fun (y : Arguments) (_ : prmF (stm 25) = y) => y) _ ?h
  case h => conv => lhs; whnf
noncomputable def bd24 : List Stmt := by
  refine' (fun (y : List Stmt) (_ : bodF (stm 25) = y) => y) _ ?h
  case h => conv => lhs; whnf
noncomputable def sc24 : Scope := by
  refine' (fun (y : Scope) (_ : scpF (stm 25) = y) => y) _ ?h
  case h => conv => lhs; whnf
/-- _law_places -/
noncomputable def pa25 : Arguments := by
  refine' (fun (y : Arguments) (_ : prmF (stm 26) = y) => y) _ ?h
  case h => conv => lhs; whnf
noncomputable def bd25 : List Stmt := by
  refine' (fun (y : List Stmt) (_ : bodF (stm 26) = y) => y) _ ?h
  case h => conv => lhs; whnf
noncomputable def sc25 : Scope := by
  refine' (fun (y : Scope) (_ : scpF (stm 26) = y) => y) _ ?h
  case h => conv => lhs; whnf
/-- _law_given -/
noncomputable def pa26 : Arguments := by
  refine' (fun (y : Arguments) (_ : prmF (stm 27) = y) => y) _ ?h
  case h => conv => lhs; whnf
noncomputable def bd26 : List Stmt := by
  refine' (fun (y : List Stmt) (_ : bodF (stm 27) = y) => y) _ ?h
  case h => conv => lhs; whnf
noncomputable def sc26 : Scope := by
  refine' (fun (y : Scope) (_ : scpF (stm 27) = y) => y) _ ?h
  case h => conv => lhs; whnf
/-- _law_spread_right -/
noncomputable def pa27 : Arguments := by
  refine' (fun (y : Arguments) (_ : prmF (stm 28) = y) => y) _ ?h
  case h => conv => lhs; whnf
noncomputable def bd27 : List Stmt := by
  refine' (fun (y : List Stmt) (_ : bodF (stm 28) = y) => y) _ ?h
  case h => conv => lhs; whnf
noncomputable def sc27 : Scope := by
  refine' (fun (y : Scope) (_ : scpF (stm 28) = y) => y) _ ?h
  case h => conv => lhs; whnf
/-- law -/
noncomputable def pa28 : Arguments := by
  refine' (fun (y : Arguments) (_ : prmF (stm 29) = y) => y) _ ?h
  case h => conv => lhs; whnf
noncomputable def bd28 : List Stmt := by
  refine' (fun (y : List Stmt) (_ : bodF (stm 29) = y) => y) _ ?h
  case h => conv => lhs; whnf
noncomputable def sc28 : Scope := by
  refine' (fun (y : Scope) (_ : scpF (stm 29) = y) => y) _ ?h
  case h => conv => lhs; whnf
noncomputable def o_43 : Params → Obj := fun P => { cls := Value.type "tuple", data := Data.seq #[] }
noncomputable def o_44 : Params → Obj := fun P => { cls := Value.none, data := Data.fields #[] }
noncomputable def o_45 : Params → Obj := fun P =>
  { cls := Value.type "code",
    data :=
      Data.fields
        #[Value.str (Str.ofString "<module>") 182, Value.str (Str.ofString "<module>") 183, Value.str (Str.ofString "/claim/cut.py") 184, Value.int 1 0, Value.int 0 0,
          Value.int 0 0, Value.int 0 0, Value.int 0 0, Value.ref 11, Value.bool false, Value.int 181 0, Value.ref 12, Value.none, Value.none, Value.none, Value.none,
          Value.int 185 0, Value.int 1 0, Value.str (Str.ofString "/claim/cut.py") 186] }
noncomputable def o_46 : Params → Obj := fun P =>
  { cls := Value.type "frame",
    slots := #[some (Value.ref 13), some (Value.ref 3), some (Value.ref 3), none, some (Value.str (Str.ofString "__main__") 164), none, some (Value.ref 0)] }
noncomputable def o_49 : Params → Obj := fun P =>
  { cls := Value.none,
    data :=
      Data.dict
        #[{ hash := PyData.keyHash P (Str.ofString "type.__subclasses__.Exception.0"), key := Value.str (Str.ofString "type.__subclasses__.Exception.0") 221,
            val := Value.int 38 0 },
          { hash := PyData.keyHash P (Str.ofString "type.__subclasses__.Exception.n"), key := Value.str (Str.ofString "type.__subclasses__.Exception.n") 222,
            val := Value.int 1 0 }]
        2 }
noncomputable def o_79 : Params → Obj := fun P =>
  { cls := Value.type "dict",
    data :=
      Data.dict
        #[{ hash := PyData.keyHash P (Str.ofString "__name__"), key := Value.str (Str.ofString "__name__") 165, val := Value.str (Str.ofString "pixelpress.planes") 241 },
          { hash := PyData.keyHash P (Str.ofString "__doc__"), key := Value.str (Str.ofString "__doc__") 166, val := Value.none },
          { hash := PyData.keyHash P (Str.ofString "__package__"), key := Value.str (Str.ofString "__package__") 167, val := Value.none },
          { hash := PyData.keyHash P (Str.ofString "__loader__"), key := Value.str (Str.ofString "__loader__") 168, val := Value.builtin "__main__.__loader__#opaque" },
          { hash := PyData.keyHash P (Str.ofString "__spec__"), key := Value.str (Str.ofString "__spec__") 169, val := Value.none },
          { hash := PyData.keyHash P (Str.ofString "__annotations__"), key := Value.str (Str.ofString "__annotations__") 170, val := Value.ref 6 },
          { hash := PyData.keyHash P (Str.ofString "__builtins__"), key := Value.str (Str.ofString "__builtins__") 171, val := Value.ref 4 },
          { hash := PyData.keyHash P (Str.ofString "__file__"), key := Value.str (Str.ofString "__file__") 173, val := Value.str (Str.ofString "/claim/cut.py") 172 },
          { hash := PyData.keyHash P (Str.ofString "__cached__"), key := Value.str (Str.ofString "__cached__") 174, val := Value.none },
          { hash := PyData.keyHash P (Str.ofString "_wall"), key := Value.str (Str.ofString "_wall") 193, val := Value.ref 21 },
          { hash := PyData.keyHash P (Str.ofString "PressError"), key := Value.str (Str.ofString "PressError") 224, val := Value.ref 38 },
          { hash := PyData.keyHash P (Str.ofString "RangeError"), key := Value.str (Str.ofString "RangeError") 240, val := Value.ref 51 }]
        12 }
noncomputable def o_80 : Params → Obj := fun P =>
  { cls := Value.none, data := Data.fields #[Value.int 1 0, Value.int 0 0, Value.ref 20, Value.int 5 0, Value.int 0 0, Value.ref 27, Value.int 10 0, Value.int 0 0, Value.ref 47] }
noncomputable def o_52 : Params → Obj := fun P => { cls := Value.type "tuple", data := Data.seq #[] }
noncomputable def o_53 : Params → Obj := fun P => { cls := Value.none, data := Data.fields #[] }
noncomputable def o_54 : Params → Obj := fun P => { cls := Value.type "tuple", data := Data.seq #[Value.str (Str.ofString "k") 190] }
noncomputable def o_55 : Params → Obj := fun P => { cls := Value.type "tuple", data := Data.seq #[] }
noncomputable def o_56 : Params → Obj := fun P =>
  { cls := Value.none,
    data :=
      Data.func
        { name := Str.ofString "_wall", qualname := Str.ofString "_wall", params := pa0, body := FuncBody.stmts bd0, scope := sc0, globals := 0, closure := [],
          defaults := Value.none, kwdefaults := Value.none } }
noncomputable def o_57 : Params → Obj := fun P =>
  { cls := Value.type "code",
    data :=
      Data.fields
        #[Value.str (Str.ofString "_wall") 187, Value.str (Str.ofString "_wall") 188, Value.str (Str.ofString "/claim/cut.py") 189, Value.int 1 0, Value.int 1 0, Value.int 0 0,
          Value.int 0 0, Value.int 3 0, Value.ref 15, Value.bool true, Value.int 181 0, Value.ref 16, Value.none, Value.ref 17, Value.ref 18, Value.ref 19, Value.int 191 0,
          Value.int 1 0, Value.str (Str.ofString "/claim/cut.py") 192] }
noncomputable def o_58 : Params → Obj := fun P =>
  { cls := Value.type "function",
    data :=
      Data.func
        { name := Str.ofString "_wall", qualname := Str.ofString "_wall", params := pa0, body := FuncBody.stmts bd0, scope := sc0, globals := 3, closure := [],
          defaults := Value.none, kwdefaults := Value.none, pyModule := Value.str (Str.ofString "__main__") 164, code := Value.ref 20 } }
noncomputable def o_59 : Params → Obj := fun P => { cls := Value.type "tuple", data := Data.seq #[Value.type "Exception"] }
noncomputable def o_60 : Params → Obj := fun P => { cls := Value.type "builtin_function_or_method", data := Data.fields #[Value.builtin "type.__prepare__", Value.type "type"] }
noncomputable def o_61 : Params → Obj := fun P =>
  { cls := Value.type "dict",
    data :=
      Data.dict
        #[{ hash := PyData.keyHash P (Str.ofString "__module__"), key := Value.str (Str.ofString "__module__") 203, val := Value.str (Str.ofString "pixelpress.errors") 194 },
          { hash := PyData.keyHash P (Str.ofString "__qualname__"), key := Value.str (Str.ofString "__qualname__") 205, val := Value.str (Str.ofString "PressError") 204 },
          { hash := PyData.keyHash P (Str.ofString "__firstlineno__"), key := Value.str (Str.ofString "__firstlineno__") 207, val := Value.int 5 206 },
          { hash := PyData.keyHash P (Str.ofString "__init__"), key := Value.str (Str.ofString "__init__") 215, val := Value.ref 35 },
          { hash := PyData.keyHash P (Str.ofString "__static_attributes__"), key := Value.str (Str.ofString "__static_attributes__") 217, val := Value.ref 36 }]
        5 }
noncomputable def o_62 : Params → Obj := fun P => { cls := Value.type "tuple", data := Data.seq #[] }
noncomputable def o_63 : Params → Obj := fun P => { cls := Value.none, data := Data.fields #[Value.int 7 0, Value.int 4 0, Value.ref 34] }
noncomputable def o_64 : Params → Obj := fun P =>
  { cls := Value.type "code",
    data :=
      Data.fields
        #[Value.str (Str.ofString "PressError") 198, Value.str (Str.ofString "PressError") 199, Value.str (Str.ofString "/claim/cut.py") 200, Value.int 5 0, Value.int 0 0,
          Value.int 0 0, Value.int 0 0, Value.int 0 0, Value.ref 25, Value.bool false, Value.int 181 0, Value.ref 26, Value.none, Value.none, Value.none, Value.none,
          Value.int 201 0, Value.int 5 0, Value.str (Str.ofString "/claim/cut.py") 202] }
noncomputable def o_65 : Params → Obj := fun P =>
  { cls := Value.type "frame",
    slots := #[some (Value.ref 27), some (Value.ref 3), some (Value.ref 24), none, some (Value.str (Str.ofString "pixelpress.errors") 194), none, some (Value.ref 0)] }
noncomputable def o_66 : Params → Obj := fun P => { cls := Value.type "tuple", data := Data.seq #[] }
noncomputable def o_67 : Params → Obj := fun P => { cls := Value.none, data := Data.fields #[] }
noncomputable def o_68 : Params → Obj := fun P => { cls := Value.type "tuple", data := Data.seq #[Value.str (Str.ofString "self") 211, Value.str (Str.ofString "message") 212] }
noncomputable def o_69 : Params → Obj := fun P => { cls := Value.type "tuple", data := Data.seq #[] }
noncomputable def o_70 : Params → Obj := fun P =>
  { cls := Value.none,
    data :=
      Data.func
        { name := Str.ofString "__init__", qualname := Str.ofString "PressError.__init__", params := pa1, body := FuncBody.stmts bd1, scope := sc1, globals := 0, closure := [],
          defaults := Value.none, kwdefaults := Value.none } }
noncomputable def o_71 : Params → Obj := fun P =>
  { cls := Value.type "code",
    data :=
      Data.fields
        #[Value.str (Str.ofString "__init__") 208, Value.str (Str.ofString "PressError.__init__") 209, Value.str (Str.ofString "/claim/cut.py") 210, Value.int 7 0, Value.int 2 0,
          Value.int 0 0, Value.int 0 0, Value.int 3 0, Value.ref 29, Value.bool true, Value.int 181 0, Value.ref 30, Value.none, Value.ref 31, Value.ref 32, Value.ref 33,
          Value.int 213 0, Value.int 7 0, Value.str (Str.ofString "/claim/cut.py") 214] }
noncomputable def o_72 : Params → Obj := fun P =>
  { cls := Value.type "function",
    data :=
      Data.func
        { name := Str.ofString "__init__", qualname := Str.ofString "PressError.__init__", params := pa1, body := FuncBody.stmts bd1, scope := sc1, globals := 3, closure := [],
          defaults := Value.none, kwdefaults := Value.none, pyModule := Value.str (Str.ofString "pixelpress.errors") 194, code := Value.ref 34 } }
noncomputable def o_73 : Params → Obj := fun P => { cls := Value.type "tuple", data := Data.seq #[Value.str (Str.ofString "message") 216] }
noncomputable def o_74 : Params → Obj := fun P =>
  { cls := Value.type "dict",
    data :=
      Data.dict
        #[{ hash := PyData.keyHash P (Str.ofString "__module__"), key := Value.str (Str.ofString "__module__") 203, val := Value.str (Str.ofString "pixelpress.errors") 194 },
          { hash := PyData.keyHash P (Str.ofString "__firstlineno__"), key := Value.str (Str.ofString "__firstlineno__") 207, val := Value.int 5 206 },
          { hash := PyData.keyHash P (Str.ofString "__init__"), key := Value.str (Str.ofString "__init__") 215, val := Value.ref 35 },
          { hash := PyData.keyHash P (Str.ofString "__static_attributes__"), key := Value.str (Str.ofString "__static_attributes__") 217, val := Value.ref 36 },
          { hash := PyData.keyHash P (Str.ofString "__weakref__"), key := Value.str (Str.ofString "__weakref__") 219, val := Value.ref 39 },
          { hash := PyData.keyHash P (Str.ofString "__doc__"), key := Value.str (Str.ofString "__doc__") 220, val := Value.none }]
        3 }
noncomputable def o_81 : Params → Obj := fun P =>
  { cls := Value.type "type",
    data :=
      Data.cls
        { name := Str.ofString "PressError", bases := [Value.type "Exception"], mro := [Value.ref 38, Value.type "Exception", Value.type "BaseException", Value.type "object"],
          ns := 37, qualname := Str.ofString "PressError", subclasses := [Value.ref 51] },
    slots :=
      #[some (Value.ref 22), none, some (Value.str (Str.ofString "PressError") 196), some (Value.str (Str.ofString "PressError") 204), some (Value.builtin "Exception.__new__"),
        some (Value.bool true)] }
noncomputable def o_76 : Params → Obj := fun P =>
  { cls := Value.type "getset_descriptor", data := Data.fields #[Value.str (Str.ofString "__weakref__") 218, Value.ref 38, Value.builtin "ExceptionGroup.__weakref__", Value.none] }
noncomputable def o_77 : Params → Obj := fun P => { cls := Value.type "super", data := Data.fields #[Value.ref 38, Value.ref 38, Value.ref 38] }
noncomputable def o_78 : Params → Obj := fun P => { cls := Value.type "builtin_function_or_method", data := Data.fields #[Value.builtin "object.__init_subclass__", Value.ref 38] }
noncomputable def o_82 : Params → Obj := fun P => { cls := Value.type "tuple", data := Data.seq #[Value.ref 38] }
noncomputable def o_83 : Params → Obj := fun P => { cls := Value.type "builtin_function_or_method", data := Data.fields #[Value.builtin "type.__prepare__", Value.type "type"] }
noncomputable def o_84 : Params → Obj := fun P =>
  { cls := Value.type "dict",
    data :=
      Data.dict
        #[{ hash := PyData.keyHash P (Str.ofString "__module__"), key := Value.str (Str.ofString "__module__") 232, val := Value.str (Str.ofString "pixelpress.errors") 194 },
          { hash := PyData.keyHash P (Str.ofString "__qualname__"), key := Value.str (Str.ofString "__qualname__") 234, val := Value.str (Str.ofString "RangeError") 233 },
          { hash := PyData.keyHash P (Str.ofString "__firstlineno__"), key := Value.str (Str.ofString "__firstlineno__") 236, val := Value.int 10 235 },
          { hash := PyData.keyHash P (Str.ofString "__static_attributes__"), key := Value.str (Str.ofString "__static_attributes__") 237, val := Value.ref 49 }]
        4 }
noncomputable def o_85 : Params → Obj := fun P => { cls := Value.type "tuple", data := Data.seq #[] }
noncomputable def o_86 : Params → Obj := fun P => { cls := Value.none, data := Data.fields #[] }
noncomputable def o_87 : Params → Obj := fun P =>
  { cls := Value.type "code",
    data :=
      Data.fields
        #[Value.str (Str.ofString "RangeError") 227, Value.str (Str.ofString "RangeError") 228, Value.str (Str.ofString "/claim/cut.py") 229, Value.int 10 0, Value.int 0 0,
          Value.int 0 0, Value.int 0 0, Value.int 0 0, Value.ref 45, Value.bool false, Value.int 181 0, Value.ref 46, Value.none, Value.none, Value.none, Value.none,
          Value.int 230 0, Value.int 10 0, Value.str (Str.ofString "/claim/cut.py") 231] }
noncomputable def o_88 : Params → Obj := fun P =>
  { cls := Value.type "frame",
    slots := #[some (Value.ref 47), some (Value.ref 3), some (Value.ref 44), none, some (Value.str (Str.ofString "pixelpress.errors") 194), none, some (Value.ref 0)] }
noncomputable def o_89 : Params → Obj := fun P => { cls := Value.type "tuple", data := Data.seq #[] }
noncomputable def o_90 : Params → Obj := fun P =>
  { cls := Value.type "dict",
    data :=
      Data.dict
        #[{ hash := PyData.keyHash P (Str.ofString "__module__"), key := Value.str (Str.ofString "__module__") 232, val := Value.str (Str.ofString "pixelpress.errors") 194 },
          { hash := PyData.keyHash P (Str.ofString "__firstlineno__"), key := Value.str (Str.ofString "__firstlineno__") 236, val := Value.int 10 235 },
          { hash := PyData.keyHash P (Str.ofString "__static_attributes__"), key := Value.str (Str.ofString "__static_attributes__") 237, val := Value.ref 49 },
          { hash := PyData.keyHash P (Str.ofString "__doc__"), key := Value.str (Str.ofString "__doc__") 238, val := Value.none }]
        2 }
noncomputable def o_91 : Params → Obj := fun P =>
  { cls := Value.type "type",
    data :=
      Data.cls
        { name := Str.ofString "RangeError", bases := [Value.ref 38], mro := [Value.ref 51, Value.ref 38, Value.type "Exception", Value.type "BaseException", Value.type "object"],
          ns := 50, qualname := Str.ofString "RangeError" },
    slots :=
      #[some (Value.ref 42), none, some (Value.str (Str.ofString "RangeError") 225), some (Value.str (Str.ofString "RangeError") 233), some (Value.builtin "Exception.__new__"),
        some (Value.bool true)] }
noncomputable def o_92 : Params → Obj := fun P => { cls := Value.type "super", data := Data.fields #[Value.ref 51, Value.ref 51, Value.ref 51] }
noncomputable def o_93 : Params → Obj := fun P => { cls := Value.type "builtin_function_or_method", data := Data.fields #[Value.builtin "object.__init_subclass__", Value.ref 51] }
noncomputable def o_143 : Params → Obj := fun P =>
  { cls := Value.type "dict",
    data :=
      Data.dict
        #[{ hash := PyData.keyHash P (Str.ofString "__name__"), key := Value.str (Str.ofString "__name__") 165, val := Value.str (Str.ofString "pixelpress.dithered") 295 },
          { hash := PyData.keyHash P (Str.ofString "__doc__"), key := Value.str (Str.ofString "__doc__") 166, val := Value.none },
          { hash := PyData.keyHash P (Str.ofString "__package__"), key := Value.str (Str.ofString "__package__") 167, val := Value.none },
          { hash := PyData.keyHash P (Str.ofString "__loader__"), key := Value.str (Str.ofString "__loader__") 168, val := Value.builtin "__main__.__loader__#opaque" },
          { hash := PyData.keyHash P (Str.ofString "__spec__"), key := Value.str (Str.ofString "__spec__") 169, val := Value.none },
          { hash := PyData.keyHash P (Str.ofString "__annotations__"), key := Value.str (Str.ofString "__annotations__") 170, val := Value.ref 6 },
          { hash := PyData.keyHash P (Str.ofString "__builtins__"), key := Value.str (Str.ofString "__builtins__") 171, val := Value.ref 4 },
          { hash := PyData.keyHash P (Str.ofString "__file__"), key := Value.str (Str.ofString "__file__") 173, val := Value.str (Str.ofString "/claim/cut.py") 172 },
          { hash := PyData.keyHash P (Str.ofString "__cached__"), key := Value.str (Str.ofString "__cached__") 174, val := Value.none },
          { hash := PyData.keyHash P (Str.ofString "_wall"), key := Value.str (Str.ofString "_wall") 193, val := Value.ref 21 },
          { hash := PyData.keyHash P (Str.ofString "PressError"), key := Value.str (Str.ofString "PressError") 224, val := Value.ref 38 },
          { hash := PyData.keyHash P (Str.ofString "RangeError"), key := Value.str (Str.ofString "RangeError") 240, val := Value.ref 51 },
          { hash := PyData.keyHash P (Str.ofString "Plane"), key := Value.str (Str.ofString "Plane") 294, val := Value.ref 84 },
          { hash := PyData.keyHash P (Str.ofString "WAYS"), key := Value.str (Str.ofString "WAYS") 310, val := Value.ref 93 },
          { hash := PyData.keyHash P (Str.ofString "level_value"), key := Value.str (Str.ofString "level_value") 319, val := Value.ref 100 },
          { hash := PyData.keyHash P (Str.ofString "nearest_level"), key := Value.str (Str.ofString "nearest_level") 330, val := Value.ref 107 },
          { hash := PyData.keyHash P (Str.ofString "check_levels"), key := Value.str (Str.ofString "check_levels") 338, val := Value.ref 114 },
          { hash := PyData.keyHash P (Str.ofString "thresholds"), key := Value.str (Str.ofString "thresholds") 344, val := Value.ref 119 },
          { hash := PyData.keyHash P (Str.ofString "ordered_level"), key := Value.str (Str.ofString "ordered_level") 355, val := Value.ref 126 },
          { hash := PyData.keyHash P (Str.ofString "ordered_plane"), key := Value.str (Str.ofString "ordered_plane") 361, val := Value.ref 131 },
          { hash := PyData.keyHash P (Str.ofString "parts_of"), key := Value.str (Str.ofString "parts_of") 372, val := Value.ref 138 }]
        21 }
noncomputable def o_144 : Params → Obj := fun P =>
  { cls := Value.none,
    data :=
      Data.fields
        #[Value.int 1 0, Value.int 0 0, Value.ref 20, Value.int 5 0, Value.int 0 0, Value.ref 27, Value.int 10 0, Value.int 0 0, Value.ref 47, Value.int 13 0, Value.int 0 0,
          Value.ref 59, Value.int 27 0, Value.int 0 0, Value.ref 99, Value.int 29 0, Value.int 0 0, Value.ref 106, Value.int 35 0, Value.int 0 0, Value.ref 113, Value.int 38 0,
          Value.int 0 0, Value.ref 118, Value.int 49 0, Value.int 0 0, Value.ref 125, Value.int 51 0, Value.int 0 0, Value.ref 130, Value.int 61 0, Value.int 0 0, Value.ref 137] }
noncomputable def o_96 : Params → Obj := fun P => { cls := Value.type "tuple", data := Data.seq #[] }
noncomputable def o_97 : Params → Obj := fun P => { cls := Value.type "builtin_function_or_method", data := Data.fields #[Value.builtin "type.__prepare__", Value.type "type"] }
noncomputable def o_98 : Params → Obj := fun P =>
  { cls := Value.type "dict",
    data :=
      Data.dict
        #[{ hash := PyData.keyHash P (Str.ofString "__module__"), key := Value.str (Str.ofString "__module__") 250, val := Value.str (Str.ofString "pixelpress.planes") 241 },
          { hash := PyData.keyHash P (Str.ofString "__qualname__"), key := Value.str (Str.ofString "__qualname__") 252, val := Value.str (Str.ofString "Plane") 251 },
          { hash := PyData.keyHash P (Str.ofString "__firstlineno__"), key := Value.str (Str.ofString "__firstlineno__") 254, val := Value.int 13 253 },
          { hash := PyData.keyHash P (Str.ofString "__init__"), key := Value.str (Str.ofString "__init__") 264, val := Value.ref 67 },
          { hash := PyData.keyHash P (Str.ofString "at"), key := Value.str (Str.ofString "at") 273, val := Value.ref 74 },
          { hash := PyData.keyHash P (Str.ofString "put"), key := Value.str (Str.ofString "put") 283, val := Value.ref 81 },
          { hash := PyData.keyHash P (Str.ofString "__static_attributes__"), key := Value.str (Str.ofString "__static_attributes__") 287, val := Value.ref 82 }]
        7 }
noncomputable def o_99 : Params → Obj := fun P => { cls := Value.type "tuple", data := Data.seq #[] }
noncomputable def o_100 : Params → Obj := fun P =>
  { cls := Value.none,
    data := Data.fields #[Value.int 15 0, Value.int 4 0, Value.ref 66, Value.int 20 0, Value.int 4 0, Value.ref 73, Value.int 23 0, Value.int 4 0, Value.ref 80] }
noncomputable def o_101 : Params → Obj := fun P =>
  { cls := Value.type "code",
    data :=
      Data.fields
        #[Value.str (Str.ofString "Plane") 245, Value.str (Str.ofString "Plane") 246, Value.str (Str.ofString "/claim/cut.py") 247, Value.int 13 0, Value.int 0 0, Value.int 0 0,
          Value.int 0 0, Value.int 0 0, Value.ref 57, Value.bool false, Value.int 181 0, Value.ref 58, Value.none, Value.none, Value.none, Value.none, Value.int 248 0,
          Value.int 13 0, Value.str (Str.ofString "/claim/cut.py") 249] }
noncomputable def o_102 : Params → Obj := fun P =>
  { cls := Value.type "frame",
    slots := #[some (Value.ref 59), some (Value.ref 3), some (Value.ref 56), none, some (Value.str (Str.ofString "pixelpress.planes") 241), none, some (Value.ref 0)] }
noncomputable def o_103 : Params → Obj := fun P => { cls := Value.type "tuple", data := Data.seq #[] }
noncomputable def o_104 : Params → Obj := fun P => { cls := Value.none, data := Data.fields #[] }
noncomputable def o_105 : Params → Obj := fun P =>
  { cls := Value.type "tuple",
    data := Data.seq #[Value.str (Str.ofString "self") 258, Value.str (Str.ofString "width") 259, Value.str (Str.ofString "height") 260, Value.str (Str.ofString "rows") 261] }
noncomputable def o_106 : Params → Obj := fun P => { cls := Value.type "tuple", data := Data.seq #[] }
noncomputable def o_107 : Params → Obj := fun P =>
  { cls := Value.none,
    data :=
      Data.func
        { name := Str.ofString "__init__", qualname := Str.ofString "Plane.__init__", params := pa2, body := FuncBody.stmts bd2, scope := sc2, globals := 0, closure := [],
          defaults := Value.none, kwdefaults := Value.none } }
noncomputable def o_108 : Params → Obj := fun P =>
  { cls := Value.type "code",
    data :=
      Data.fields
        #[Value.str (Str.ofString "__init__") 255, Value.str (Str.ofString "Plane.__init__") 256, Value.str (Str.ofString "/claim/cut.py") 257, Value.int 15 0, Value.int 4 0,
          Value.int 0 0, Value.int 0 0, Value.int 3 0, Value.ref 61, Value.bool true, Value.int 181 0, Value.ref 62, Value.none, Value.ref 63, Value.ref 64, Value.ref 65,
          Value.int 262 0, Value.int 15 0, Value.str (Str.ofString "/claim/cut.py") 263] }
noncomputable def o_109 : Params → Obj := fun P =>
  { cls := Value.type "function",
    data :=
      Data.func
        { name := Str.ofString "__init__", qualname := Str.ofString "Plane.__init__", params := pa2, body := FuncBody.stmts bd2, scope := sc2, globals := 3, closure := [],
          defaults := Value.none, kwdefaults := Value.none, pyModule := Value.str (Str.ofString "pixelpress.planes") 241, code := Value.ref 66 } }
noncomputable def o_110 : Params → Obj := fun P => { cls := Value.type "tuple", data := Data.seq #[] }
noncomputable def o_111 : Params → Obj := fun P => { cls := Value.none, data := Data.fields #[] }
noncomputable def o_112 : Params → Obj := fun P => { cls := Value.type "tuple", data := Data.seq #[Value.str (Str.ofString "self") 268, Value.str (Str.ofString "x") 269, Value.str (Str.ofString "y") 270] }
noncomputable def o_113 : Params → Obj := fun P => { cls := Value.type "tuple", data := Data.seq #[] }
noncomputable def o_114 : Params → Obj := fun P =>
  { cls := Value.none,
    data :=
      Data.func
        { name := Str.ofString "at", qualname := Str.ofString "Plane.at", params := pa3, body := FuncBody.stmts bd3, scope := sc3, globals := 0, closure := [],
          defaults := Value.none, kwdefaults := Value.none } }
noncomputable def o_115 : Params → Obj := fun P =>
  { cls := Value.type "code",
    data :=
      Data.fields
        #[Value.str (Str.ofString "at") 265, Value.str (Str.ofString "Plane.at") 266, Value.str (Str.ofString "/claim/cut.py") 267, Value.int 20 0, Value.int 3 0, Value.int 0 0,
          Value.int 0 0, Value.int 3 0, Value.ref 68, Value.bool true, Value.int 181 0, Value.ref 69, Value.none, Value.ref 70, Value.ref 71, Value.ref 72, Value.int 271 0,
          Value.int 20 0, Value.str (Str.ofString "/claim/cut.py") 272] }
noncomputable def o_116 : Params → Obj := fun P =>
  { cls := Value.type "function",
    data :=
      Data.func
        { name := Str.ofString "at", qualname := Str.ofString "Plane.at", params := pa3, body := FuncBody.stmts bd3, scope := sc3, globals := 3, closure := [],
          defaults := Value.none, kwdefaults := Value.none, pyModule := Value.str (Str.ofString "pixelpress.planes") 241, code := Value.ref 73 } }
noncomputable def o_117 : Params → Obj := fun P => { cls := Value.type "tuple", data := Data.seq #[] }
noncomputable def o_118 : Params → Obj := fun P => { cls := Value.none, data := Data.fields #[] }
noncomputable def o_119 : Params → Obj := fun P =>
  { cls := Value.type "tuple",
    data := Data.seq #[Value.str (Str.ofString "self") 277, Value.str (Str.ofString "x") 278, Value.str (Str.ofString "y") 279, Value.str (Str.ofString "value") 280] }
noncomputable def o_120 : Params → Obj := fun P => { cls := Value.type "tuple", data := Data.seq #[] }
noncomputable def o_121 : Params → Obj := fun P =>
  { cls := Value.none,
    data :=
      Data.func
        { name := Str.ofString "put", qualname := Str.ofString "Plane.put", params := pa4, body := FuncBody.stmts bd4, scope := sc4, globals := 0, closure := [],
          defaults := Value.none, kwdefaults := Value.none } }
noncomputable def o_122 : Params → Obj := fun P =>
  { cls := Value.type "code",
    data :=
      Data.fields
        #[Value.str (Str.ofString "put") 274, Value.str (Str.ofString "Plane.put") 275, Value.str (Str.ofString "/claim/cut.py") 276, Value.int 23 0, Value.int 4 0, Value.int 0 0,
          Value.int 0 0, Value.int 3 0, Value.ref 75, Value.bool true, Value.int 181 0, Value.ref 76, Value.none, Value.ref 77, Value.ref 78, Value.ref 79, Value.int 281 0,
          Value.int 23 0, Value.str (Str.ofString "/claim/cut.py") 282] }
noncomputable def o_123 : Params → Obj := fun P =>
  { cls := Value.type "function",
    data :=
      Data.func
        { name := Str.ofString "put", qualname := Str.ofString "Plane.put", params := pa4, body := FuncBody.stmts bd4, scope := sc4, globals := 3, closure := [],
          defaults := Value.none, kwdefaults := Value.none, pyModule := Value.str (Str.ofString "pixelpress.planes") 241, code := Value.ref 80 } }
noncomputable def o_124 : Params → Obj := fun P => { cls := Value.type "tuple", data := Data.seq #[Value.str (Str.ofString "height") 284, Value.str (Str.ofString "rows") 285, Value.str (Str.ofString "width") 286] }
noncomputable def o_125 : Params → Obj := fun P =>
  { cls := Value.type "dict",
    data :=
      Data.dict
        #[{ hash := PyData.keyHash P (Str.ofString "__module__"), key := Value.str (Str.ofString "__module__") 250, val := Value.str (Str.ofString "pixelpress.planes") 241 },
          { hash := PyData.keyHash P (Str.ofString "__firstlineno__"), key := Value.str (Str.ofString "__firstlineno__") 254, val := Value.int 13 253 },
          { hash := PyData.keyHash P (Str.ofString "__init__"), key := Value.str (Str.ofString "__init__") 264, val := Value.ref 67 },
          { hash := PyData.keyHash P (Str.ofString "at"), key := Value.str (Str.ofString "at") 273, val := Value.ref 74 },
          { hash := PyData.keyHash P (Str.ofString "put"), key := Value.str (Str.ofString "put") 283, val := Value.ref 81 },
          { hash := PyData.keyHash P (Str.ofString "__static_attributes__"), key := Value.str (Str.ofString "__static_attributes__") 287, val := Value.ref 82 },
          { hash := PyData.keyHash P (Str.ofString "__dict__"), key := Value.str (Str.ofString "__dict__") 289, val := Value.ref 85 },
          { hash := PyData.keyHash P (Str.ofString "__weakref__"), key := Value.str (Str.ofString "__weakref__") 291, val := Value.ref 86 },
          { hash := PyData.keyHash P (Str.ofString "__doc__"), key := Value.str (Str.ofString "__doc__") 292, val := Value.none }]
        4 }
noncomputable def o_126 : Params → Obj := fun P =>
  { cls := Value.type "type",
    data := Data.cls { name := Str.ofString "Plane", bases := [Value.type "object"], mro := [Value.ref 84, Value.type "object"], ns := 83, qualname := Str.ofString "Plane" },
    slots :=
      #[none, none, some (Value.str (Str.ofString "Plane") 243), some (Value.str (Str.ofString "Plane") 251), some (Value.builtin "object.__new__"), some (Value.bool true)] }
noncomputable def o_127 : Params → Obj := fun P =>
  { cls := Value.type "getset_descriptor",
    data := Data.fields #[Value.str (Str.ofString "__dict__") 288, Value.ref 84, Value.builtin "function.__dict__", Value.builtin "function.__dict__#set"] }
noncomputable def o_128 : Params → Obj := fun P =>
  { cls := Value.type "getset_descriptor", data := Data.fields #[Value.str (Str.ofString "__weakref__") 290, Value.ref 84, Value.builtin "ExceptionGroup.__weakref__", Value.none] }
noncomputable def o_129 : Params → Obj := fun P => { cls := Value.type "super", data := Data.fields #[Value.ref 84, Value.ref 84, Value.ref 84] }
noncomputable def o_130 : Params → Obj := fun P => { cls := Value.type "builtin_function_or_method", data := Data.fields #[Value.builtin "object.__init_subclass__", Value.ref 84] }
noncomputable def o_131 : Params → Obj := fun P => { cls := Value.type "tuple", data := Data.seq #[Value.int 1 297, Value.int 0 298, Value.int 7 299] }
noncomputable def o_132 : Params → Obj := fun P => { cls := Value.type "tuple", data := Data.seq #[Value.int (-1) 301, Value.int 1 302, Value.int 3 303] }
noncomputable def o_133 : Params → Obj := fun P => { cls := Value.type "tuple", data := Data.seq #[Value.int 0 304, Value.int 1 305, Value.int 5 306] }
noncomputable def o_134 : Params → Obj := fun P => { cls := Value.type "tuple", data := Data.seq #[Value.int 1 307, Value.int 1 308, Value.int 1 309] }
noncomputable def o_135 : Params → Obj := fun P => { cls := Value.type "tuple", data := Data.seq #[Value.ref 89, Value.ref 90, Value.ref 91, Value.ref 92] }
noncomputable def o_136 : Params → Obj := fun P => { cls := Value.type "tuple", data := Data.seq #[] }
noncomputable def o_137 : Params → Obj := fun P => { cls := Value.none, data := Data.fields #[] }
noncomputable def o_138 : Params → Obj := fun P => { cls := Value.type "tuple", data := Data.seq #[Value.str (Str.ofString "index") 314, Value.str (Str.ofString "levels") 315, Value.str (Str.ofString "most") 316] }
noncomputable def o_139 : Params → Obj := fun P => { cls := Value.type "tuple", data := Data.seq #[] }
noncomputable def o_140 : Params → Obj := fun P =>
  { cls := Value.none,
    data :=
      Data.func
        { name := Str.ofString "level_value", qualname := Str.ofString "level_value", params := pa5, body := FuncBody.stmts bd5, scope := sc5, globals := 0, closure := [],
          defaults := Value.none, kwdefaults := Value.none } }
noncomputable def o_141 : Params → Obj := fun P =>
  { cls := Value.type "code",
    data :=
      Data.fields
        #[Value.str (Str.ofString "level_value") 311, Value.str (Str.ofString "level_value") 312, Value.str (Str.ofString "/claim/cut.py") 313, Value.int 27 0, Value.int 3 0,
          Value.int 0 0, Value.int 0 0, Value.int 3 0, Value.ref 94, Value.bool true, Value.int 181 0, Value.ref 95, Value.none, Value.ref 96, Value.ref 97, Value.ref 98,
          Value.int 317 0, Value.int 27 0, Value.str (Str.ofString "/claim/cut.py") 318] }
noncomputable def o_142 : Params → Obj := fun P =>
  { cls := Value.type "function",
    data :=
      Data.func
        { name := Str.ofString "level_value", qualname := Str.ofString "level_value", params := pa5, body := FuncBody.stmts bd5, scope := sc5, globals := 3, closure := [],
          defaults := Value.none, kwdefaults := Value.none, pyModule := Value.str (Str.ofString "pixelpress.dithered") 295, code := Value.ref 99 } }
noncomputable def o_145 : Params → Obj := fun P => { cls := Value.type "tuple", data := Data.seq #[] }
noncomputable def o_146 : Params → Obj := fun P => { cls := Value.none, data := Data.fields #[] }
noncomputable def o_147 : Params → Obj := fun P =>
  { cls := Value.type "tuple",
    data :=
      Data.seq
        #[Value.str (Str.ofString "value") 323, Value.str (Str.ofString "levels") 324, Value.str (Str.ofString "most") 325, Value.str (Str.ofString "best") 326,
          Value.str (Str.ofString "index") 327] }
noncomputable def o_148 : Params → Obj := fun P => { cls := Value.type "tuple", data := Data.seq #[] }
noncomputable def o_149 : Params → Obj := fun P =>
  { cls := Value.none,
    data :=
      Data.func
        { name := Str.ofString "nearest_level", qualname := Str.ofString "nearest_level", params := pa6, body := FuncBody.stmts bd6, scope := sc6, globals := 0, closure := [],
          defaults := Value.none, kwdefaults := Value.none } }
noncomputable def o_150 : Params → Obj := fun P =>
  { cls := Value.type "code",
    data :=
      Data.fields
        #[Value.str (Str.ofString "nearest_level") 320, Value.str (Str.ofString "nearest_level") 321, Value.str (Str.ofString "/claim/cut.py") 322, Value.int 29 0, Value.int 3 0,
          Value.int 0 0, Value.int 0 0, Value.int 3 0, Value.ref 101, Value.bool true, Value.int 181 0, Value.ref 102, Value.none, Value.ref 103, Value.ref 104, Value.ref 105,
          Value.int 328 0, Value.int 29 0, Value.str (Str.ofString "/claim/cut.py") 329] }
noncomputable def o_151 : Params → Obj := fun P =>
  { cls := Value.type "function",
    data :=
      Data.func
        { name := Str.ofString "nearest_level", qualname := Str.ofString "nearest_level", params := pa6, body := FuncBody.stmts bd6, scope := sc6, globals := 3, closure := [],
          defaults := Value.none, kwdefaults := Value.none, pyModule := Value.str (Str.ofString "pixelpress.dithered") 295, code := Value.ref 106 } }
noncomputable def o_152 : Params → Obj := fun P => { cls := Value.type "tuple", data := Data.seq #[] }
noncomputable def o_153 : Params → Obj := fun P => { cls := Value.none, data := Data.fields #[] }
noncomputable def o_154 : Params → Obj := fun P => { cls := Value.type "tuple", data := Data.seq #[Value.str (Str.ofString "levels") 334, Value.str (Str.ofString "most") 335] }
noncomputable def o_155 : Params → Obj := fun P => { cls := Value.type "tuple", data := Data.seq #[] }
noncomputable def o_156 : Params → Obj := fun P =>
  { cls := Value.none,
    data :=
      Data.func
        { name := Str.ofString "check_levels", qualname := Str.ofString "check_levels", params := pa7, body := FuncBody.stmts bd7, scope := sc7, globals := 0, closure := [],
          defaults := Value.none, kwdefaults := Value.none } }
noncomputable def o_157 : Params → Obj := fun P =>
  { cls := Value.type "code",
    data :=
      Data.fields
        #[Value.str (Str.ofString "check_levels") 331, Value.str (Str.ofString "check_levels") 332, Value.str (Str.ofString "/claim/cut.py") 333, Value.int 35 0, Value.int 2 0,
          Value.int 0 0, Value.int 0 0, Value.int 3 0, Value.ref 108, Value.bool true, Value.int 181 0, Value.ref 109, Value.none, Value.ref 110, Value.ref 111, Value.ref 112,
          Value.int 336 0, Value.int 35 0, Value.str (Str.ofString "/claim/cut.py") 337] }
noncomputable def o_158 : Params → Obj := fun P =>
  { cls := Value.type "function",
    data :=
      Data.func
        { name := Str.ofString "check_levels", qualname := Str.ofString "check_levels", params := pa7, body := FuncBody.stmts bd7, scope := sc7, globals := 3, closure := [],
          defaults := Value.none, kwdefaults := Value.none, pyModule := Value.str (Str.ofString "pixelpress.dithered") 295, code := Value.ref 113 } }
noncomputable def o_159 : Params → Obj := fun P => { cls := Value.type "tuple", data := Data.seq #[] }
noncomputable def o_160 : Params → Obj := fun P => { cls := Value.none, data := Data.fields #[] }
noncomputable def o_161 : Params → Obj := fun P =>
  { cls := Value.none,
    data :=
      Data.func
        { name := Str.ofString "thresholds", qualname := Str.ofString "thresholds", params := pa8, body := FuncBody.stmts bd8, scope := sc8, globals := 0, closure := [],
          defaults := Value.none, kwdefaults := Value.none } }
noncomputable def o_162 : Params → Obj := fun P =>
  { cls := Value.type "code",
    data :=
      Data.fields
        #[Value.str (Str.ofString "thresholds") 339, Value.str (Str.ofString "thresholds") 340, Value.str (Str.ofString "/claim/cut.py") 341, Value.int 38 0, Value.int 1 0,
          Value.int 0 0, Value.int 0 0, Value.int 3 0, Value.ref 115, Value.bool true, Value.int 181 0, Value.ref 116, Value.none, Value.none, Value.none, Value.ref 117,
          Value.int 342 0, Value.int 38 0, Value.str (Str.ofString "/claim/cut.py") 343] }
noncomputable def o_163 : Params → Obj := fun P =>
  { cls := Value.type "function",
    data :=
      Data.func
        { name := Str.ofString "thresholds", qualname := Str.ofString "thresholds", params := pa8, body := FuncBody.stmts bd8, scope := sc8, globals := 3, closure := [],
          defaults := Value.none, kwdefaults := Value.none, pyModule := Value.str (Str.ofString "pixelpress.dithered") 295, code := Value.ref 118 } }
noncomputable def o_164 : Params → Obj := fun P => { cls := Value.type "tuple", data := Data.seq #[] }
noncomputable def o_165 : Params → Obj := fun P => { cls := Value.none, data := Data.fields #[] }
noncomputable def o_166 : Params → Obj := fun P =>
  { cls := Value.type "tuple",
    data :=
      Data.seq
        #[Value.str (Str.ofString "value") 348, Value.str (Str.ofString "threshold") 349, Value.str (Str.ofString "area") 350, Value.str (Str.ofString "levels") 351,
          Value.str (Str.ofString "most") 352] }
noncomputable def o_167 : Params → Obj := fun P => { cls := Value.type "tuple", data := Data.seq #[] }
noncomputable def o_168 : Params → Obj := fun P =>
  { cls := Value.none,
    data :=
      Data.func
        { name := Str.ofString "ordered_level", qualname := Str.ofString "ordered_level", params := pa9, body := FuncBody.stmts bd9, scope := sc9, globals := 0, closure := [],
          defaults := Value.none, kwdefaults := Value.none } }
noncomputable def o_169 : Params → Obj := fun P =>
  { cls := Value.type "code",
    data :=
      Data.fields
        #[Value.str (Str.ofString "ordered_level") 345, Value.str (Str.ofString "ordered_level") 346, Value.str (Str.ofString "/claim/cut.py") 347, Value.int 49 0, Value.int 5 0,
          Value.int 0 0, Value.int 0 0, Value.int 3 0, Value.ref 120, Value.bool true, Value.int 181 0, Value.ref 121, Value.none, Value.ref 122, Value.ref 123, Value.ref 124,
          Value.int 353 0, Value.int 49 0, Value.str (Str.ofString "/claim/cut.py") 354] }
noncomputable def o_170 : Params → Obj := fun P =>
  { cls := Value.type "function",
    data :=
      Data.func
        { name := Str.ofString "ordered_level", qualname := Str.ofString "ordered_level", params := pa9, body := FuncBody.stmts bd9, scope := sc9, globals := 3, closure := [],
          defaults := Value.none, kwdefaults := Value.none, pyModule := Value.str (Str.ofString "pixelpress.dithered") 295, code := Value.ref 125 } }
noncomputable def o_171 : Params → Obj := fun P => { cls := Value.type "tuple", data := Data.seq #[] }
noncomputable def o_172 : Params → Obj := fun P => { cls := Value.none, data := Data.fields #[] }
noncomputable def o_173 : Params → Obj := fun P =>
  { cls := Value.none,
    data :=
      Data.func
        { name := Str.ofString "ordered_plane", qualname := Str.ofString "ordered_plane", params := pa10, body := FuncBody.stmts bd10, scope := sc10, globals := 0, closure := [],
          defaults := Value.none, kwdefaults := Value.none } }
noncomputable def o_174 : Params → Obj := fun P =>
  { cls := Value.type "code",
    data :=
      Data.fields
        #[Value.str (Str.ofString "ordered_plane") 356, Value.str (Str.ofString "ordered_plane") 357, Value.str (Str.ofString "/claim/cut.py") 358, Value.int 51 0, Value.int 4 0,
          Value.int 0 0, Value.int 0 0, Value.int 3 0, Value.ref 127, Value.bool true, Value.int 181 0, Value.ref 128, Value.none, Value.none, Value.none, Value.ref 129,
          Value.int 359 0, Value.int 51 0, Value.str (Str.ofString "/claim/cut.py") 360] }
noncomputable def o_175 : Params → Obj := fun P =>
  { cls := Value.type "function",
    data :=
      Data.func
        { name := Str.ofString "ordered_plane", qualname := Str.ofString "ordered_plane", params := pa10, body := FuncBody.stmts bd10, scope := sc10, globals := 3, closure := [],
          defaults := Value.none, kwdefaults := Value.none, pyModule := Value.str (Str.ofString "pixelpress.dithered") 295, code := Value.ref 130 } }
noncomputable def o_176 : Params → Obj := fun P => { cls := Value.type "tuple", data := Data.seq #[] }
noncomputable def o_177 : Params → Obj := fun P => { cls := Value.none, data := Data.fields #[] }
noncomputable def o_178 : Params → Obj := fun P =>
  { cls := Value.type "tuple",
    data :=
      Data.seq
        #[Value.str (Str.ofString "error") 365, Value.str (Str.ofString "found") 366, Value.str (Str.ofString "turn") 367, Value.str (Str.ofString "step") 368,
          Value.str (Str.ofString "part") 369] }
noncomputable def o_179 : Params → Obj := fun P => { cls := Value.type "tuple", data := Data.seq #[] }
noncomputable def o_180 : Params → Obj := fun P =>
  { cls := Value.none,
    data :=
      Data.func
        { name := Str.ofString "parts_of", qualname := Str.ofString "parts_of", params := pa11, body := FuncBody.stmts bd11, scope := sc11, globals := 0, closure := [],
          defaults := Value.none, kwdefaults := Value.none } }
noncomputable def o_181 : Params → Obj := fun P =>
  { cls := Value.type "code",
    data :=
      Data.fields
        #[Value.str (Str.ofString "parts_of") 362, Value.str (Str.ofString "parts_of") 363, Value.str (Str.ofString "/claim/cut.py") 364, Value.int 61 0, Value.int 1 0,
          Value.int 0 0, Value.int 0 0, Value.int 3 0, Value.ref 132, Value.bool true, Value.int 181 0, Value.ref 133, Value.none, Value.ref 134, Value.ref 135, Value.ref 136,
          Value.int 370 0, Value.int 61 0, Value.str (Str.ofString "/claim/cut.py") 371] }
noncomputable def o_182 : Params → Obj := fun P =>
  { cls := Value.type "function",
    data :=
      Data.func
        { name := Str.ofString "parts_of", qualname := Str.ofString "parts_of", params := pa11, body := FuncBody.stmts bd11, scope := sc11, globals := 3, closure := [],
          defaults := Value.none, kwdefaults := Value.none, pyModule := Value.str (Str.ofString "pixelpress.dithered") 295, code := Value.ref 137 } }
noncomputable def o_183 : Params → Obj := fun P =>
  { cls := Value.type "dict",
    data :=
      Data.dict
        #[{ hash := PyData.keyHash P (Str.ofString "__name__"), key := Value.str (Str.ofString "__name__") 165, val := Value.str (Str.ofString "law_nt0549_01") 453 },
          { hash := PyData.keyHash P (Str.ofString "__doc__"), key := Value.str (Str.ofString "__doc__") 166, val := Value.none },
          { hash := PyData.keyHash P (Str.ofString "__package__"), key := Value.str (Str.ofString "__package__") 167, val := Value.none },
          { hash := PyData.keyHash P (Str.ofString "__loader__"), key := Value.str (Str.ofString "__loader__") 168, val := Value.builtin "__main__.__loader__#opaque" },
          { hash := PyData.keyHash P (Str.ofString "__spec__"), key := Value.str (Str.ofString "__spec__") 169, val := Value.none },
          { hash := PyData.keyHash P (Str.ofString "__annotations__"), key := Value.str (Str.ofString "__annotations__") 170, val := Value.ref 6 },
          { hash := PyData.keyHash P (Str.ofString "__builtins__"), key := Value.str (Str.ofString "__builtins__") 171, val := Value.ref 4 },
          { hash := PyData.keyHash P (Str.ofString "__file__"), key := Value.str (Str.ofString "__file__") 173, val := Value.str (Str.ofString "/claim/cut.py") 172 },
          { hash := PyData.keyHash P (Str.ofString "__cached__"), key := Value.str (Str.ofString "__cached__") 174, val := Value.none },
          { hash := PyData.keyHash P (Str.ofString "_wall"), key := Value.str (Str.ofString "_wall") 193, val := Value.ref 21 },
          { hash := PyData.keyHash P (Str.ofString "PressError"), key := Value.str (Str.ofString "PressError") 224, val := Value.ref 38 },
          { hash := PyData.keyHash P (Str.ofString "RangeError"), key := Value.str (Str.ofString "RangeError") 240, val := Value.ref 51 },
          { hash := PyData.keyHash P (Str.ofString "Plane"), key := Value.str (Str.ofString "Plane") 294, val := Value.ref 84 },
          { hash := PyData.keyHash P (Str.ofString "WAYS"), key := Value.str (Str.ofString "WAYS") 310, val := Value.ref 93 },
          { hash := PyData.keyHash P (Str.ofString "level_value"), key := Value.str (Str.ofString "level_value") 319, val := Value.ref 100 },
          { hash := PyData.keyHash P (Str.ofString "nearest_level"), key := Value.str (Str.ofString "nearest_level") 330, val := Value.ref 107 },
          { hash := PyData.keyHash P (Str.ofString "check_levels"), key := Value.str (Str.ofString "check_levels") 338, val := Value.ref 114 },
          { hash := PyData.keyHash P (Str.ofString "thresholds"), key := Value.str (Str.ofString "thresholds") 344, val := Value.ref 119 },
          { hash := PyData.keyHash P (Str.ofString "ordered_level"), key := Value.str (Str.ofString "ordered_level") 355, val := Value.ref 126 },
          { hash := PyData.keyHash P (Str.ofString "ordered_plane"), key := Value.str (Str.ofString "ordered_plane") 361, val := Value.ref 131 },
          { hash := PyData.keyHash P (Str.ofString "parts_of"), key := Value.str (Str.ofString "parts_of") 372, val := Value.ref 138 },
          { hash := PyData.keyHash P (Str.ofString "Spreader"), key := Value.str (Str.ofString "Spreader") 440, val := Value.ref 174 },
          { hash := PyData.keyHash P (Str.ofString "spread_plane"), key := Value.str (Str.ofString "spread_plane") 446, val := Value.ref 183 },
          { hash := PyData.keyHash P (Str.ofString "shown_levels"), key := Value.str (Str.ofString "shown_levels") 452, val := Value.ref 188 }]
        24 }
noncomputable def o_184 : Params → Obj := fun P =>
  { cls := Value.none,
    data :=
      Data.fields
        #[Value.int 1 0, Value.int 0 0, Value.ref 20, Value.int 5 0, Value.int 0 0, Value.ref 27, Value.int 10 0, Value.int 0 0, Value.ref 47, Value.int 13 0, Value.int 0 0,
          Value.ref 59, Value.int 27 0, Value.int 0 0, Value.ref 99, Value.int 29 0, Value.int 0 0, Value.ref 106, Value.int 35 0, Value.int 0 0, Value.ref 113, Value.int 38 0,
          Value.int 0 0, Value.ref 118, Value.int 49 0, Value.int 0 0, Value.ref 125, Value.int 51 0, Value.int 0 0, Value.ref 130, Value.int 61 0, Value.int 0 0, Value.ref 137,
          Value.int 67 0, Value.int 0 0, Value.ref 144, Value.int 97 0, Value.int 0 0, Value.ref 182, Value.int 102 0, Value.int 0 0, Value.ref 187] }
noncomputable def o_185 : Params → Obj := fun P => { cls := Value.type "tuple", data := Data.seq #[] }
noncomputable def o_186 : Params → Obj := fun P => { cls := Value.type "builtin_function_or_method", data := Data.fields #[Value.builtin "type.__prepare__", Value.type "type"] }
noncomputable def o_187 : Params → Obj := fun P =>
  { cls := Value.type "dict",
    data :=
      Data.dict
        #[{ hash := PyData.keyHash P (Str.ofString "__module__"), key := Value.str (Str.ofString "__module__") 380, val := Value.str (Str.ofString "pixelpress.dithered") 295 },
          { hash := PyData.keyHash P (Str.ofString "__qualname__"), key := Value.str (Str.ofString "__qualname__") 382, val := Value.str (Str.ofString "Spreader") 381 },
          { hash := PyData.keyHash P (Str.ofString "__firstlineno__"), key := Value.str (Str.ofString "__firstlineno__") 384, val := Value.int 67 383 },
          { hash := PyData.keyHash P (Str.ofString "__init__"), key := Value.str (Str.ofString "__init__") 390, val := Value.ref 150 },
          { hash := PyData.keyHash P (Str.ofString "give"), key := Value.str (Str.ofString "give") 400, val := Value.ref 157 },
          { hash := PyData.keyHash P (Str.ofString "level"), key := Value.str (Str.ofString "level") 415, val := Value.ref 164 },
          { hash := PyData.keyHash P (Str.ofString "row"), key := Value.str (Str.ofString "row") 427, val := Value.ref 171 },
          { hash := PyData.keyHash P (Str.ofString "__static_attributes__"), key := Value.str (Str.ofString "__static_attributes__") 433, val := Value.ref 172 }]
        8 }
noncomputable def o_188 : Params → Obj := fun P => { cls := Value.type "tuple", data := Data.seq #[] }
noncomputable def o_189 : Params → Obj := fun P =>
  { cls := Value.none,
    data :=
      Data.fields
        #[Value.int 69 0, Value.int 4 0, Value.ref 149, Value.int 76 0, Value.int 4 0, Value.ref 156, Value.int 82 0, Value.int 4 0, Value.ref 163, Value.int 90 0, Value.int 4 0,
          Value.ref 170] }
noncomputable def o_190 : Params → Obj := fun P =>
  { cls := Value.type "code",
    data :=
      Data.fields
        #[Value.str (Str.ofString "Spreader") 375, Value.str (Str.ofString "Spreader") 376, Value.str (Str.ofString "/claim/cut.py") 377, Value.int 67 0, Value.int 0 0,
          Value.int 0 0, Value.int 0 0, Value.int 0 0, Value.ref 142, Value.bool false, Value.int 181 0, Value.ref 143, Value.none, Value.none, Value.none, Value.none,
          Value.int 378 0, Value.int 67 0, Value.str (Str.ofString "/claim/cut.py") 379] }
noncomputable def o_191 : Params → Obj := fun P =>
  { cls := Value.type "frame",
    slots := #[some (Value.ref 144), some (Value.ref 3), some (Value.ref 141), none, some (Value.str (Str.ofString "pixelpress.dithered") 295), none, some (Value.ref 0)] }
noncomputable def o_192 : Params → Obj := fun P => { cls := Value.type "tuple", data := Data.seq #[] }
noncomputable def o_193 : Params → Obj := fun P => { cls := Value.none, data := Data.fields #[] }
noncomputable def o_194 : Params → Obj := fun P =>
  { cls := Value.none,
    data :=
      Data.func
        { name := Str.ofString "__init__", qualname := Str.ofString "Spreader.__init__", params := pa12, body := FuncBody.stmts bd12, scope := sc12, globals := 0, closure := [],
          defaults := Value.none, kwdefaults := Value.none } }
noncomputable def o_195 : Params → Obj := fun P =>
  { cls := Value.type "code",
    data :=
      Data.fields
        #[Value.str (Str.ofString "__init__") 385, Value.str (Str.ofString "Spreader.__init__") 386, Value.str (Str.ofString "/claim/cut.py") 387, Value.int 69 0, Value.int 4 0,
          Value.int 0 0, Value.int 0 0, Value.int 3 0, Value.ref 146, Value.bool true, Value.int 181 0, Value.ref 147, Value.none, Value.none, Value.none, Value.ref 148,
          Value.int 388 0, Value.int 69 0, Value.str (Str.ofString "/claim/cut.py") 389] }
noncomputable def o_196 : Params → Obj := fun P =>
  { cls := Value.type "function",
    data :=
      Data.func
        { name := Str.ofString "__init__", qualname := Str.ofString "Spreader.__init__", params := pa12, body := FuncBody.stmts bd12, scope := sc12, globals := 3, closure := [],
          defaults := Value.none, kwdefaults := Value.none, pyModule := Value.str (Str.ofString "pixelpress.dithered") 295, code := Value.ref 149 } }
noncomputable def o_197 : Params → Obj := fun P => { cls := Value.type "tuple", data := Data.seq #[] }
noncomputable def o_198 : Params → Obj := fun P => { cls := Value.none, data := Data.fields #[] }
noncomputable def o_199 : Params → Obj := fun P =>
  { cls := Value.type "tuple",
    data := Data.seq #[Value.str (Str.ofString "self") 394, Value.str (Str.ofString "x") 395, Value.str (Str.ofString "y") 396, Value.str (Str.ofString "error") 397] }
noncomputable def o_200 : Params → Obj := fun P => { cls := Value.type "tuple", data := Data.seq #[] }
noncomputable def o_201 : Params → Obj := fun P =>
  { cls := Value.none,
    data :=
      Data.func
        { name := Str.ofString "give", qualname := Str.ofString "Spreader.give", params := pa13, body := FuncBody.stmts bd13, scope := sc13, globals := 0, closure := [],
          defaults := Value.none, kwdefaults := Value.none } }
noncomputable def o_202 : Params → Obj := fun P =>
  { cls := Value.type "code",
    data :=
      Data.fields
        #[Value.str (Str.ofString "give") 391, Value.str (Str.ofString "Spreader.give") 392, Value.str (Str.ofString "/claim/cut.py") 393, Value.int 76 0, Value.int 4 0,
          Value.int 0 0, Value.int 0 0, Value.int 3 0, Value.ref 151, Value.bool true, Value.int 181 0, Value.ref 152, Value.none, Value.ref 153, Value.ref 154, Value.ref 155,
          Value.int 398 0, Value.int 76 0, Value.str (Str.ofString "/claim/cut.py") 399] }
noncomputable def o_203 : Params → Obj := fun P =>
  { cls := Value.type "function",
    data :=
      Data.func
        { name := Str.ofString "give", qualname := Str.ofString "Spreader.give", params := pa13, body := FuncBody.stmts bd13, scope := sc13, globals := 3, closure := [],
          defaults := Value.none, kwdefaults := Value.none, pyModule := Value.str (Str.ofString "pixelpress.dithered") 295, code := Value.ref 156 } }
noncomputable def o_204 : Params → Obj := fun P => { cls := Value.type "tuple", data := Data.seq #[] }
noncomputable def o_205 : Params → Obj := fun P => { cls := Value.none, data := Data.fields #[] }
noncomputable def o_206 : Params → Obj := fun P =>
  { cls := Value.type "tuple",
    data :=
      Data.seq
        #[Value.str (Str.ofString "self") 404, Value.str (Str.ofString "x") 405, Value.str (Str.ofString "y") 406, Value.str (Str.ofString "along") 407,
          Value.str (Str.ofString "value") 408, Value.str (Str.ofString "index") 409, Value.str (Str.ofString "parts") 410, Value.str (Str.ofString "way") 411,
          Value.str (Str.ofString "part") 412] }
noncomputable def o_207 : Params → Obj := fun P => { cls := Value.type "tuple", data := Data.seq #[] }
noncomputable def o_208 : Params → Obj := fun P =>
  { cls := Value.none,
    data :=
      Data.func
        { name := Str.ofString "level", qualname := Str.ofString "Spreader.level", params := pa14, body := FuncBody.stmts bd14, scope := sc14, globals := 0, closure := [],
          defaults := Value.none, kwdefaults := Value.none } }
noncomputable def o_209 : Params → Obj := fun P =>
  { cls := Value.type "code",
    data :=
      Data.fields
        #[Value.str (Str.ofString "level") 401, Value.str (Str.ofString "Spreader.level") 402, Value.str (Str.ofString "/claim/cut.py") 403, Value.int 82 0, Value.int 4 0,
          Value.int 0 0, Value.int 0 0, Value.int 3 0, Value.ref 158, Value.bool true, Value.int 181 0, Value.ref 159, Value.none, Value.ref 160, Value.ref 161, Value.ref 162,
          Value.int 413 0, Value.int 82 0, Value.str (Str.ofString "/claim/cut.py") 414] }
noncomputable def o_210 : Params → Obj := fun P =>
  { cls := Value.type "function",
    data :=
      Data.func
        { name := Str.ofString "level", qualname := Str.ofString "Spreader.level", params := pa14, body := FuncBody.stmts bd14, scope := sc14, globals := 3, closure := [],
          defaults := Value.none, kwdefaults := Value.none, pyModule := Value.str (Str.ofString "pixelpress.dithered") 295, code := Value.ref 163 } }
noncomputable def o_211 : Params → Obj := fun P => { cls := Value.type "tuple", data := Data.seq #[] }
noncomputable def o_212 : Params → Obj := fun P => { cls := Value.none, data := Data.fields #[] }
noncomputable def o_213 : Params → Obj := fun P =>
  { cls := Value.type "tuple",
    data :=
      Data.seq
        #[Value.str (Str.ofString "self") 419, Value.str (Str.ofString "y") 420, Value.str (Str.ofString "found") 421, Value.str (Str.ofString "along") 422,
          Value.str (Str.ofString "places") 423, Value.str (Str.ofString "x") 424] }
noncomputable def o_214 : Params → Obj := fun P => { cls := Value.type "tuple", data := Data.seq #[] }
noncomputable def o_215 : Params → Obj := fun P =>
  { cls := Value.none,
    data :=
      Data.func
        { name := Str.ofString "row", qualname := Str.ofString "Spreader.row", params := pa15, body := FuncBody.stmts bd15, scope := sc15, globals := 0, closure := [],
          defaults := Value.none, kwdefaults := Value.none } }
noncomputable def o_216 : Params → Obj := fun P =>
  { cls := Value.type "code",
    data :=
      Data.fields
        #[Value.str (Str.ofString "row") 416, Value.str (Str.ofString "Spreader.row") 417, Value.str (Str.ofString "/claim/cut.py") 418, Value.int 90 0, Value.int 2 0,
          Value.int 0 0, Value.int 0 0, Value.int 3 0, Value.ref 165, Value.bool true, Value.int 181 0, Value.ref 166, Value.none, Value.ref 167, Value.ref 168, Value.ref 169,
          Value.int 425 0, Value.int 90 0, Value.str (Str.ofString "/claim/cut.py") 426] }
noncomputable def o_217 : Params → Obj := fun P =>
  { cls := Value.type "function",
    data :=
      Data.func
        { name := Str.ofString "row", qualname := Str.ofString "Spreader.row", params := pa15, body := FuncBody.stmts bd15, scope := sc15, globals := 3, closure := [],
          defaults := Value.none, kwdefaults := Value.none, pyModule := Value.str (Str.ofString "pixelpress.dithered") 295, code := Value.ref 170 } }
noncomputable def o_218 : Params → Obj := fun P =>
  { cls := Value.type "tuple",
    data :=
      Data.seq
        #[Value.str (Str.ofString "carried") 428, Value.str (Str.ofString "levels") 429, Value.str (Str.ofString "lost") 430, Value.str (Str.ofString "most") 431,
          Value.str (Str.ofString "plane") 432] }
noncomputable def o_219 : Params → Obj := fun P =>
  { cls := Value.type "dict",
    data :=
      Data.dict
        #[{ hash := PyData.keyHash P (Str.ofString "__module__"), key := Value.str (Str.ofString "__module__") 380, val := Value.str (Str.ofString "pixelpress.dithered") 295 },
          { hash := PyData.keyHash P (Str.ofString "__firstlineno__"), key := Value.str (Str.ofString "__firstlineno__") 384, val := Value.int 67 383 },
          { hash := PyData.keyHash P (Str.ofString "__init__"), key := Value.str (Str.ofString "__init__") 390, val := Value.ref 150 },
          { hash := PyData.keyHash P (Str.ofString "give"), key := Value.str (Str.ofString "give") 400, val := Value.ref 157 },
          { hash := PyData.keyHash P (Str.ofString "level"), key := Value.str (Str.ofString "level") 415, val := Value.ref 164 },
          { hash := PyData.keyHash P (Str.ofString "row"), key := Value.str (Str.ofString "row") 427, val := Value.ref 171 },
          { hash := PyData.keyHash P (Str.ofString "__static_attributes__"), key := Value.str (Str.ofString "__static_attributes__") 433, val := Value.ref 172 },
          { hash := PyData.keyHash P (Str.ofString "__dict__"), key := Value.str (Str.ofString "__dict__") 435, val := Value.ref 175 },
          { hash := PyData.keyHash P (Str.ofString "__weakref__"), key := Value.str (Str.ofString "__weakref__") 437, val := Value.ref 176 },
          { hash := PyData.keyHash P (Str.ofString "__doc__"), key := Value.str (Str.ofString "__doc__") 438, val := Value.none }]
        4 }
noncomputable def o_220 : Params → Obj := fun P =>
  { cls := Value.type "type",
    data :=
      Data.cls { name := Str.ofString "Spreader", bases := [Value.type "object"], mro := [Value.ref 174, Value.type "object"], ns := 173, qualname := Str.ofString "Spreader" },
    slots :=
      #[none, none, some (Value.str (Str.ofString "Spreader") 373), some (Value.str (Str.ofString "Spreader") 381), some (Value.builtin "object.__new__"), some (Value.bool true)] }
noncomputable def o_221 : Params → Obj := fun P =>
  { cls := Value.type "getset_descriptor",
    data := Data.fields #[Value.str (Str.ofString "__dict__") 434, Value.ref 174, Value.builtin "function.__dict__", Value.builtin "function.__dict__#set"] }
noncomputable def o_222 : Params → Obj := fun P =>
  { cls := Value.type "getset_descriptor",
    data := Data.fields #[Value.str (Str.ofString "__weakref__") 436, Value.ref 174, Value.builtin "ExceptionGroup.__weakref__", Value.none] }
noncomputable def o_223 : Params → Obj := fun P => { cls := Value.type "super", data := Data.fields #[Value.ref 174, Value.ref 174, Value.ref 174] }
noncomputable def o_224 : Params → Obj := fun P => { cls := Value.type "builtin_function_or_method", data := Data.fields #[Value.builtin "object.__init_subclass__", Value.ref 174] }
noncomputable def o_225 : Params → Obj := fun P => { cls := Value.type "tuple", data := Data.seq #[] }
noncomputable def o_226 : Params → Obj := fun P => { cls := Value.none, data := Data.fields #[] }
noncomputable def o_227 : Params → Obj := fun P =>
  { cls := Value.none,
    data :=
      Data.func
        { name := Str.ofString "spread_plane", qualname := Str.ofString "spread_plane", params := pa16, body := FuncBody.stmts bd16, scope := sc16, globals := 0, closure := [],
          defaults := Value.none, kwdefaults := Value.none } }
noncomputable def o_228 : Params → Obj := fun P =>
  { cls := Value.type "code",
    data :=
      Data.fields
        #[Value.str (Str.ofString "spread_plane") 441, Value.str (Str.ofString "spread_plane") 442, Value.str (Str.ofString "/claim/cut.py") 443, Value.int 97 0, Value.int 3 0,
          Value.int 0 0, Value.int 0 0, Value.int 3 0, Value.ref 179, Value.bool true, Value.int 181 0, Value.ref 180, Value.none, Value.none, Value.none, Value.ref 181,
          Value.int 444 0, Value.int 97 0, Value.str (Str.ofString "/claim/cut.py") 445] }
noncomputable def o_229 : Params → Obj := fun P =>
  { cls := Value.type "function",
    data :=
      Data.func
        { name := Str.ofString "spread_plane", qualname := Str.ofString "spread_plane", params := pa16, body := FuncBody.stmts bd16, scope := sc16, globals := 3, closure := [],
          defaults := Value.none, kwdefaults := Value.none, pyModule := Value.str (Str.ofString "pixelpress.dithered") 295, code := Value.ref 182 } }
noncomputable def o_230 : Params → Obj := fun P => { cls := Value.type "tuple", data := Data.seq #[] }
noncomputable def o_231 : Params → Obj := fun P => { cls := Value.none, data := Data.fields #[] }
noncomputable def o_232 : Params → Obj := fun P =>
  { cls := Value.none,
    data :=
      Data.func
        { name := Str.ofString "shown_levels", qualname := Str.ofString "shown_levels", params := pa17, body := FuncBody.stmts bd17, scope := sc17, globals := 0, closure := [],
          defaults := Value.none, kwdefaults := Value.none } }
noncomputable def o_233 : Params → Obj := fun P =>
  { cls := Value.type "code",
    data :=
      Data.fields
        #[Value.str (Str.ofString "shown_levels") 447, Value.str (Str.ofString "shown_levels") 448, Value.str (Str.ofString "/claim/cut.py") 449, Value.int 102 0, Value.int 3 0,
          Value.int 0 0, Value.int 0 0, Value.int 3 0, Value.ref 184, Value.bool true, Value.int 181 0, Value.ref 185, Value.none, Value.none, Value.none, Value.ref 186,
          Value.int 450 0, Value.int 102 0, Value.str (Str.ofString "/claim/cut.py") 451] }
noncomputable def o_234 : Params → Obj := fun P =>
  { cls := Value.type "function",
    data :=
      Data.func
        { name := Str.ofString "shown_levels", qualname := Str.ofString "shown_levels", params := pa17, body := FuncBody.stmts bd17, scope := sc17, globals := 3, closure := [],
          defaults := Value.none, kwdefaults := Value.none, pyModule := Value.str (Str.ofString "pixelpress.dithered") 295, code := Value.ref 187 } }
noncomputable def o_235 : Params → Obj := fun P =>
  { cls := Value.type "dict",
    data :=
      Data.dict
        #[{ hash := PyData.keyHash P (Str.ofString "__name__"), key := Value.str (Str.ofString "__name__") 165, val := Value.str (Str.ofString "law_nt0549_01") 453 },
          { hash := PyData.keyHash P (Str.ofString "__doc__"), key := Value.str (Str.ofString "__doc__") 166, val := Value.none },
          { hash := PyData.keyHash P (Str.ofString "__package__"), key := Value.str (Str.ofString "__package__") 167, val := Value.none },
          { hash := PyData.keyHash P (Str.ofString "__loader__"), key := Value.str (Str.ofString "__loader__") 168, val := Value.builtin "__main__.__loader__#opaque" },
          { hash := PyData.keyHash P (Str.ofString "__spec__"), key := Value.str (Str.ofString "__spec__") 169, val := Value.none },
          { hash := PyData.keyHash P (Str.ofString "__annotations__"), key := Value.str (Str.ofString "__annotations__") 170, val := Value.ref 6 },
          { hash := PyData.keyHash P (Str.ofString "__builtins__"), key := Value.str (Str.ofString "__builtins__") 171, val := Value.ref 4 },
          { hash := PyData.keyHash P (Str.ofString "__file__"), key := Value.str (Str.ofString "__file__") 173, val := Value.str (Str.ofString "/claim/cut.py") 172 },
          { hash := PyData.keyHash P (Str.ofString "__cached__"), key := Value.str (Str.ofString "__cached__") 174, val := Value.none },
          { hash := PyData.keyHash P (Str.ofString "_wall"), key := Value.str (Str.ofString "_wall") 193, val := Value.ref 21 },
          { hash := PyData.keyHash P (Str.ofString "PressError"), key := Value.str (Str.ofString "PressError") 224, val := Value.ref 38 },
          { hash := PyData.keyHash P (Str.ofString "RangeError"), key := Value.str (Str.ofString "RangeError") 240, val := Value.ref 51 },
          { hash := PyData.keyHash P (Str.ofString "Plane"), key := Value.str (Str.ofString "Plane") 294, val := Value.ref 84 },
          { hash := PyData.keyHash P (Str.ofString "WAYS"), key := Value.str (Str.ofString "WAYS") 310, val := Value.ref 93 },
          { hash := PyData.keyHash P (Str.ofString "level_value"), key := Value.str (Str.ofString "level_value") 319, val := Value.ref 100 },
          { hash := PyData.keyHash P (Str.ofString "nearest_level"), key := Value.str (Str.ofString "nearest_level") 330, val := Value.ref 107 },
          { hash := PyData.keyHash P (Str.ofString "check_levels"), key := Value.str (Str.ofString "check_levels") 338, val := Value.ref 114 },
          { hash := PyData.keyHash P (Str.ofString "thresholds"), key := Value.str (Str.ofString "thresholds") 344, val := Value.ref 119 },
          { hash := PyData.keyHash P (Str.ofString "ordered_level"), key := Value.str (Str.ofString "ordered_level") 355, val := Value.ref 126 },
          { hash := PyData.keyHash P (Str.ofString "ordered_plane"), key := Value.str (Str.ofString "ordered_plane") 361, val := Value.ref 131 },
          { hash := PyData.keyHash P (Str.ofString "parts_of"), key := Value.str (Str.ofString "parts_of") 372, val := Value.ref 138 },
          { hash := PyData.keyHash P (Str.ofString "Spreader"), key := Value.str (Str.ofString "Spreader") 440, val := Value.ref 174 },
          { hash := PyData.keyHash P (Str.ofString "spread_plane"), key := Value.str (Str.ofString "spread_plane") 446, val := Value.ref 183 },
          { hash := PyData.keyHash P (Str.ofString "shown_levels"), key := Value.str (Str.ofString "shown_levels") 452, val := Value.ref 188 },
          { hash := PyData.keyHash P (Str.ofString "_law_pool"), key := Value.str (Str.ofString "_law_pool") 465, val := Value.ref 195 },
          { hash := PyData.keyHash P (Str.ofString "_law_take"), key := Value.str (Str.ofString "_law_take") 474, val := Value.ref 202 },
          { hash := PyData.keyHash P (Str.ofString "_law_one"), key := Value.str (Str.ofString "_law_one") 482, val := Value.ref 209 },
          { hash := PyData.keyHash P (Str.ofString "_law_levels_right"), key := Value.str (Str.ofString "_law_levels_right") 488, val := Value.ref 214 },
          { hash := PyData.keyHash P (Str.ofString "_law_number"), key := Value.str (Str.ofString "_law_number") 498, val := Value.ref 221 },
          { hash := PyData.keyHash P (Str.ofString "_law_laid_right"), key := Value.str (Str.ofString "_law_laid_right") 514, val := Value.ref 228 },
          { hash := PyData.keyHash P (Str.ofString "_law_ordered_right"), key := Value.str (Str.ofString "_law_ordered_right") 520, val := Value.ref 233 },
          { hash := PyData.keyHash P (Str.ofString "_law_places"), key := Value.str (Str.ofString "_law_places") 526, val := Value.ref 238 },
          { hash := PyData.keyHash P (Str.ofString "_law_given"), key := Value.str (Str.ofString "_law_given") 536, val := Value.ref 245 },
          { hash := PyData.keyHash P (Str.ofString "_law_spread_right"), key := Value.str (Str.ofString "_law_spread_right") 542, val := Value.ref 250 },
          { hash := PyData.keyHash P (Str.ofString "law"), key := Value.str (Str.ofString "law") 548, val := Value.ref 255 }]
        35 }
noncomputable def o_236 : Params → Obj := fun P =>
  { cls := Value.none,
    data :=
      Data.fields
        #[Value.int 1 0, Value.int 0 0, Value.ref 20, Value.int 5 0, Value.int 0 0, Value.ref 27, Value.int 10 0, Value.int 0 0, Value.ref 47, Value.int 13 0, Value.int 0 0,
          Value.ref 59, Value.int 27 0, Value.int 0 0, Value.ref 99, Value.int 29 0, Value.int 0 0, Value.ref 106, Value.int 35 0, Value.int 0 0, Value.ref 113, Value.int 38 0,
          Value.int 0 0, Value.ref 118, Value.int 49 0, Value.int 0 0, Value.ref 125, Value.int 51 0, Value.int 0 0, Value.ref 130, Value.int 61 0, Value.int 0 0, Value.ref 137,
          Value.int 67 0, Value.int 0 0, Value.ref 144, Value.int 97 0, Value.int 0 0, Value.ref 182, Value.int 102 0, Value.int 0 0, Value.ref 187, Value.int 106 0, Value.int 0 0,
          Value.ref 194, Value.int 113 0, Value.int 0 0, Value.ref 201, Value.int 120 0, Value.int 0 0, Value.ref 208, Value.int 122 0, Value.int 0 0, Value.ref 213,
          Value.int 127 0, Value.int 0 0, Value.ref 220, Value.int 132 0, Value.int 0 0, Value.ref 227, Value.int 142 0, Value.int 0 0, Value.ref 232, Value.int 161 0,
          Value.int 0 0, Value.ref 237, Value.int 169 0, Value.int 0 0, Value.ref 244, Value.int 174 0, Value.int 0 0, Value.ref 249, Value.int 194 0, Value.int 0 0,
          Value.ref 254] }
noncomputable def o_237 : Params → Obj := fun P => { cls := Value.type "tuple", data := Data.seq #[] }
noncomputable def o_238 : Params → Obj := fun P => { cls := Value.none, data := Data.fields #[] }
noncomputable def o_239 : Params → Obj := fun P =>
  { cls := Value.type "tuple",
    data :=
      Data.seq
        #[Value.str (Str.ofString "script") 458, Value.str (Str.ofString "k") 459, Value.str (Str.ofString "cell") 460, Value.str (Str.ofString "big") 461,
          Value.str (Str.ofString "mixed") 462] }
noncomputable def o_240 : Params → Obj := fun P => { cls := Value.type "tuple", data := Data.seq #[] }
noncomputable def o_241 : Params → Obj := fun P =>
  { cls := Value.none,
    data :=
      Data.func
        { name := Str.ofString "_law_pool", qualname := Str.ofString "_law_pool", params := pa18, body := FuncBody.stmts bd18, scope := sc18, globals := 0, closure := [],
          defaults := Value.none, kwdefaults := Value.none } }
noncomputable def o_242 : Params → Obj := fun P =>
  { cls := Value.type "code",
    data :=
      Data.fields
        #[Value.str (Str.ofString "_law_pool") 455, Value.str (Str.ofString "_law_pool") 456, Value.str (Str.ofString "/claim/cut.py") 457, Value.int 106 0, Value.int 2 0,
          Value.int 0 0, Value.int 0 0, Value.int 3 0, Value.ref 189, Value.bool true, Value.int 181 0, Value.ref 190, Value.none, Value.ref 191, Value.ref 192, Value.ref 193,
          Value.int 463 0, Value.int 106 0, Value.str (Str.ofString "/claim/cut.py") 464] }
noncomputable def o_243 : Params → Obj := fun P =>
  { cls := Value.type "function",
    data :=
      Data.func
        { name := Str.ofString "_law_pool", qualname := Str.ofString "_law_pool", params := pa18, body := FuncBody.stmts bd18, scope := sc18, globals := 3, closure := [],
          defaults := Value.none, kwdefaults := Value.none, pyModule := Value.str (Str.ofString "law_nt0549_01") 453, code := Value.ref 194 } }
noncomputable def o_244 : Params → Obj := fun P => { cls := Value.type "tuple", data := Data.seq #[] }
noncomputable def o_245 : Params → Obj := fun P => { cls := Value.none, data := Data.fields #[] }
noncomputable def o_246 : Params → Obj := fun P => { cls := Value.type "tuple", data := Data.seq #[Value.str (Str.ofString "source") 469, Value.str (Str.ofString "top") 470, Value.str (Str.ofString "drawn") 471] }
noncomputable def o_247 : Params → Obj := fun P => { cls := Value.type "tuple", data := Data.seq #[] }
noncomputable def o_248 : Params → Obj := fun P =>
  { cls := Value.none,
    data :=
      Data.func
        { name := Str.ofString "_law_take", qualname := Str.ofString "_law_take", params := pa19, body := FuncBody.stmts bd19, scope := sc19, globals := 0, closure := [],
          defaults := Value.none, kwdefaults := Value.none } }
noncomputable def o_249 : Params → Obj := fun P =>
  { cls := Value.type "code",
    data :=
      Data.fields
        #[Value.str (Str.ofString "_law_take") 466, Value.str (Str.ofString "_law_take") 467, Value.str (Str.ofString "/claim/cut.py") 468, Value.int 113 0, Value.int 2 0,
          Value.int 0 0, Value.int 0 0, Value.int 3 0, Value.ref 196, Value.bool true, Value.int 181 0, Value.ref 197, Value.none, Value.ref 198, Value.ref 199, Value.ref 200,
          Value.int 472 0, Value.int 113 0, Value.str (Str.ofString "/claim/cut.py") 473] }
noncomputable def o_250 : Params → Obj := fun P =>
  { cls := Value.type "function",
    data :=
      Data.func
        { name := Str.ofString "_law_take", qualname := Str.ofString "_law_take", params := pa19, body := FuncBody.stmts bd19, scope := sc19, globals := 3, closure := [],
          defaults := Value.none, kwdefaults := Value.none, pyModule := Value.str (Str.ofString "law_nt0549_01") 453, code := Value.ref 201 } }
noncomputable def o_251 : Params → Obj := fun P => { cls := Value.type "tuple", data := Data.seq #[] }
noncomputable def o_252 : Params → Obj := fun P => { cls := Value.none, data := Data.fields #[] }
noncomputable def o_253 : Params → Obj := fun P => { cls := Value.type "tuple", data := Data.seq #[Value.str (Str.ofString "source") 478, Value.str (Str.ofString "things") 479] }
noncomputable def o_254 : Params → Obj := fun P => { cls := Value.type "tuple", data := Data.seq #[] }
noncomputable def o_255 : Params → Obj := fun P =>
  { cls := Value.none,
    data :=
      Data.func
        { name := Str.ofString "_law_one", qualname := Str.ofString "_law_one", params := pa20, body := FuncBody.stmts bd20, scope := sc20, globals := 0, closure := [],
          defaults := Value.none, kwdefaults := Value.none } }
noncomputable def o_256 : Params → Obj := fun P =>
  { cls := Value.type "code",
    data :=
      Data.fields
        #[Value.str (Str.ofString "_law_one") 475, Value.str (Str.ofString "_law_one") 476, Value.str (Str.ofString "/claim/cut.py") 477, Value.int 120 0, Value.int 2 0,
          Value.int 0 0, Value.int 0 0, Value.int 3 0, Value.ref 203, Value.bool true, Value.int 181 0, Value.ref 204, Value.none, Value.ref 205, Value.ref 206, Value.ref 207,
          Value.int 480 0, Value.int 120 0, Value.str (Str.ofString "/claim/cut.py") 481] }
noncomputable def o_257 : Params → Obj := fun P =>
  { cls := Value.type "function",
    data :=
      Data.func
        { name := Str.ofString "_law_one", qualname := Str.ofString "_law_one", params := pa20, body := FuncBody.stmts bd20, scope := sc20, globals := 3, closure := [],
          defaults := Value.none, kwdefaults := Value.none, pyModule := Value.str (Str.ofString "law_nt0549_01") 453, code := Value.ref 208 } }
noncomputable def o_258 : Params → Obj := fun P => { cls := Value.type "tuple", data := Data.seq #[] }
noncomputable def o_259 : Params → Obj := fun P => { cls := Value.none, data := Data.fields #[] }
noncomputable def o_260 : Params → Obj := fun P =>
  { cls := Value.none,
    data :=
      Data.func
        { name := Str.ofString "_law_levels_right", qualname := Str.ofString "_law_levels_right", params := pa21, body := FuncBody.stmts bd21, scope := sc21, globals := 0,
          closure := [], defaults := Value.none, kwdefaults := Value.none } }
noncomputable def o_261 : Params → Obj := fun P =>
  { cls := Value.type "code",
    data :=
      Data.fields
        #[Value.str (Str.ofString "_law_levels_right") 483, Value.str (Str.ofString "_law_levels_right") 484, Value.str (Str.ofString "/claim/cut.py") 485, Value.int 122 0,
          Value.int 2 0, Value.int 0 0, Value.int 0 0, Value.int 3 0, Value.ref 210, Value.bool true, Value.int 181 0, Value.ref 211, Value.none, Value.none, Value.none,
          Value.ref 212, Value.int 486 0, Value.int 122 0, Value.str (Str.ofString "/claim/cut.py") 487] }
noncomputable def o_262 : Params → Obj := fun P =>
  { cls := Value.type "function",
    data :=
      Data.func
        { name := Str.ofString "_law_levels_right", qualname := Str.ofString "_law_levels_right", params := pa21, body := FuncBody.stmts bd21, scope := sc21, globals := 3,
          closure := [], defaults := Value.none, kwdefaults := Value.none, pyModule := Value.str (Str.ofString "law_nt0549_01") 453, code := Value.ref 213 } }
noncomputable def o_263 : Params → Obj := fun P => { cls := Value.type "tuple", data := Data.seq #[] }
noncomputable def o_264 : Params → Obj := fun P => { cls := Value.none, data := Data.fields #[] }
noncomputable def o_265 : Params → Obj := fun P =>
  { cls := Value.type "tuple",
    data := Data.seq #[Value.str (Str.ofString "x") 492, Value.str (Str.ofString "y") 493, Value.str (Str.ofString "side") 494, Value.str (Str.ofString "half") 495] }
noncomputable def o_266 : Params → Obj := fun P => { cls := Value.type "tuple", data := Data.seq #[] }
noncomputable def o_267 : Params → Obj := fun P =>
  { cls := Value.none,
    data :=
      Data.func
        { name := Str.ofString "_law_number", qualname := Str.ofString "_law_number", params := pa22, body := FuncBody.stmts bd22, scope := sc22, globals := 0, closure := [],
          defaults := Value.none, kwdefaults := Value.none } }
noncomputable def o_268 : Params → Obj := fun P =>
  { cls := Value.type "code",
    data :=
      Data.fields
        #[Value.str (Str.ofString "_law_number") 489, Value.str (Str.ofString "_law_number") 490, Value.str (Str.ofString "/claim/cut.py") 491, Value.int 127 0, Value.int 3 0,
          Value.int 0 0, Value.int 0 0, Value.int 3 0, Value.ref 215, Value.bool true, Value.int 181 0, Value.ref 216, Value.none, Value.ref 217, Value.ref 218, Value.ref 219,
          Value.int 496 0, Value.int 127 0, Value.str (Str.ofString "/claim/cut.py") 497] }
noncomputable def o_269 : Params → Obj := fun P =>
  { cls := Value.type "function",
    data :=
      Data.func
        { name := Str.ofString "_law_number", qualname := Str.ofString "_law_number", params := pa22, body := FuncBody.stmts bd22, scope := sc22, globals := 3, closure := [],
          defaults := Value.none, kwdefaults := Value.none, pyModule := Value.str (Str.ofString "law_nt0549_01") 453, code := Value.ref 220 } }
noncomputable def o_270 : Params → Obj := fun P => { cls := Value.type "tuple", data := Data.seq #[] }
noncomputable def o_271 : Params → Obj := fun P => { cls := Value.none, data := Data.fields #[] }
noncomputable def o_272 : Params → Obj := fun P =>
  { cls := Value.type "tuple",
    data :=
      Data.seq
        #[Value.str (Str.ofString "plane") 502, Value.str (Str.ofString "side") 503, Value.str (Str.ofString "levels") 504, Value.str (Str.ofString "most") 505,
          Value.str (Str.ofString "found") 506, Value.str (Str.ofString "area") 507, Value.str (Str.ofString "y") 508, Value.str (Str.ofString "due") 509,
          Value.str (Str.ofString "x") 510, Value.str (Str.ofString "raised") 511] }
noncomputable def o_273 : Params → Obj := fun P => { cls := Value.type "tuple", data := Data.seq #[] }
noncomputable def o_274 : Params → Obj := fun P =>
  { cls := Value.none,
    data :=
      Data.func
        { name := Str.ofString "_law_laid_right", qualname := Str.ofString "_law_laid_right", params := pa23, body := FuncBody.stmts bd23, scope := sc23, globals := 0,
          closure := [], defaults := Value.none, kwdefaults := Value.none } }
noncomputable def o_275 : Params → Obj := fun P =>
  { cls := Value.type "code",
    data :=
      Data.fields
        #[Value.str (Str.ofString "_law_laid_right") 499, Value.str (Str.ofString "_law_laid_right") 500, Value.str (Str.ofString "/claim/cut.py") 501, Value.int 132 0,
          Value.int 4 0, Value.int 0 0, Value.int 0 0, Value.int 3 0, Value.ref 222, Value.bool true, Value.int 181 0, Value.ref 223, Value.none, Value.ref 224, Value.ref 225,
          Value.ref 226, Value.int 512 0, Value.int 132 0, Value.str (Str.ofString "/claim/cut.py") 513] }
noncomputable def o_276 : Params → Obj := fun P =>
  { cls := Value.type "function",
    data :=
      Data.func
        { name := Str.ofString "_law_laid_right", qualname := Str.ofString "_law_laid_right", params := pa23, body := FuncBody.stmts bd23, scope := sc23, globals := 3,
          closure := [], defaults := Value.none, kwdefaults := Value.none, pyModule := Value.str (Str.ofString "law_nt0549_01") 453, code := Value.ref 227 } }
noncomputable def o_277 : Params → Obj := fun P => { cls := Value.type "tuple", data := Data.seq #[] }
noncomputable def o_278 : Params → Obj := fun P => { cls := Value.none, data := Data.fields #[] }
noncomputable def o_279 : Params → Obj := fun P =>
  { cls := Value.none,
    data :=
      Data.func
        { name := Str.ofString "_law_ordered_right", qualname := Str.ofString "_law_ordered_right", params := pa24, body := FuncBody.stmts bd24, scope := sc24, globals := 0,
          closure := [], defaults := Value.none, kwdefaults := Value.none } }
noncomputable def o_280 : Params → Obj := fun P =>
  { cls := Value.type "code",
    data :=
      Data.fields
        #[Value.str (Str.ofString "_law_ordered_right") 515, Value.str (Str.ofString "_law_ordered_right") 516, Value.str (Str.ofString "/claim/cut.py") 517, Value.int 142 0,
          Value.int 4 0, Value.int 0 0, Value.int 0 0, Value.int 3 0, Value.ref 229, Value.bool true, Value.int 181 0, Value.ref 230, Value.none, Value.none, Value.none,
          Value.ref 231, Value.int 518 0, Value.int 142 0, Value.str (Str.ofString "/claim/cut.py") 519] }
noncomputable def o_281 : Params → Obj := fun P =>
  { cls := Value.type "function",
    data :=
      Data.func
        { name := Str.ofString "_law_ordered_right", qualname := Str.ofString "_law_ordered_right", params := pa24, body := FuncBody.stmts bd24, scope := sc24, globals := 3,
          closure := [], defaults := Value.none, kwdefaults := Value.none, pyModule := Value.str (Str.ofString "law_nt0549_01") 453, code := Value.ref 232 } }
noncomputable def o_282 : Params → Obj := fun P => { cls := Value.type "tuple", data := Data.seq #[] }
noncomputable def o_283 : Params → Obj := fun P => { cls := Value.none, data := Data.fields #[] }
noncomputable def o_284 : Params → Obj := fun P =>
  { cls := Value.none,
    data :=
      Data.func
        { name := Str.ofString "_law_places", qualname := Str.ofString "_law_places", params := pa25, body := FuncBody.stmts bd25, scope := sc25, globals := 0, closure := [],
          defaults := Value.none, kwdefaults := Value.none } }
noncomputable def o_285 : Params → Obj := fun P =>
  { cls := Value.type "code",
    data :=
      Data.fields
        #[Value.str (Str.ofString "_law_places") 521, Value.str (Str.ofString "_law_places") 522, Value.str (Str.ofString "/claim/cut.py") 523, Value.int 161 0, Value.int 2 0,
          Value.int 0 0, Value.int 0 0, Value.int 3 0, Value.ref 234, Value.bool true, Value.int 181 0, Value.ref 235, Value.none, Value.none, Value.none, Value.ref 236,
          Value.int 524 0, Value.int 161 0, Value.str (Str.ofString "/claim/cut.py") 525] }
noncomputable def o_286 : Params → Obj := fun P =>
  { cls := Value.type "function",
    data :=
      Data.func
        { name := Str.ofString "_law_places", qualname := Str.ofString "_law_places", params := pa25, body := FuncBody.stmts bd25, scope := sc25, globals := 3, closure := [],
          defaults := Value.none, kwdefaults := Value.none, pyModule := Value.str (Str.ofString "law_nt0549_01") 453, code := Value.ref 237 } }
noncomputable def o_287 : Params → Obj := fun P => { cls := Value.type "tuple", data := Data.seq #[] }
noncomputable def o_288 : Params → Obj := fun P => { cls := Value.none, data := Data.fields #[] }
noncomputable def o_289 : Params → Obj := fun P =>
  { cls := Value.type "tuple",
    data := Data.seq #[Value.str (Str.ofString "come") 530, Value.str (Str.ofString "lost") 531, Value.str (Str.ofString "spot") 532, Value.str (Str.ofString "error") 533] }
noncomputable def o_290 : Params → Obj := fun P => { cls := Value.type "tuple", data := Data.seq #[] }
noncomputable def o_291 : Params → Obj := fun P =>
  { cls := Value.none,
    data :=
      Data.func
        { name := Str.ofString "_law_given", qualname := Str.ofString "_law_given", params := pa26, body := FuncBody.stmts bd26, scope := sc26, globals := 0, closure := [],
          defaults := Value.none, kwdefaults := Value.none } }
noncomputable def o_292 : Params → Obj := fun P =>
  { cls := Value.type "code",
    data :=
      Data.fields
        #[Value.str (Str.ofString "_law_given") 527, Value.str (Str.ofString "_law_given") 528, Value.str (Str.ofString "/claim/cut.py") 529, Value.int 169 0, Value.int 4 0,
          Value.int 0 0, Value.int 0 0, Value.int 3 0, Value.ref 239, Value.bool true, Value.int 181 0, Value.ref 240, Value.none, Value.ref 241, Value.ref 242, Value.ref 243,
          Value.int 534 0, Value.int 169 0, Value.str (Str.ofString "/claim/cut.py") 535] }
noncomputable def o_293 : Params → Obj := fun P =>
  { cls := Value.type "function",
    data :=
      Data.func
        { name := Str.ofString "_law_given", qualname := Str.ofString "_law_given", params := pa26, body := FuncBody.stmts bd26, scope := sc26, globals := 3, closure := [],
          defaults := Value.none, kwdefaults := Value.none, pyModule := Value.str (Str.ofString "law_nt0549_01") 453, code := Value.ref 244 } }
noncomputable def o_294 : Params → Obj := fun P => { cls := Value.type "tuple", data := Data.seq #[] }
noncomputable def o_295 : Params → Obj := fun P => { cls := Value.none, data := Data.fields #[] }
noncomputable def o_296 : Params → Obj := fun P =>
  { cls := Value.none,
    data :=
      Data.func
        { name := Str.ofString "_law_spread_right", qualname := Str.ofString "_law_spread_right", params := pa27, body := FuncBody.stmts bd27, scope := sc27, globals := 0,
          closure := [], defaults := Value.none, kwdefaults := Value.none } }
noncomputable def o_297 : Params → Obj := fun P =>
  { cls := Value.type "code",
    data :=
      Data.fields
        #[Value.str (Str.ofString "_law_spread_right") 537, Value.str (Str.ofString "_law_spread_right") 538, Value.str (Str.ofString "/claim/cut.py") 539, Value.int 174 0,
          Value.int 3 0, Value.int 0 0, Value.int 0 0, Value.int 3 0, Value.ref 246, Value.bool true, Value.int 181 0, Value.ref 247, Value.none, Value.none, Value.none,
          Value.ref 248, Value.int 540 0, Value.int 174 0, Value.str (Str.ofString "/claim/cut.py") 541] }
noncomputable def o_298 : Params → Obj := fun P =>
  { cls := Value.type "function",
    data :=
      Data.func
        { name := Str.ofString "_law_spread_right", qualname := Str.ofString "_law_spread_right", params := pa27, body := FuncBody.stmts bd27, scope := sc27, globals := 3,
          closure := [], defaults := Value.none, kwdefaults := Value.none, pyModule := Value.str (Str.ofString "law_nt0549_01") 453, code := Value.ref 249 } }
noncomputable def o_299 : Params → Obj := fun P => { cls := Value.type "tuple", data := Data.seq #[] }
noncomputable def o_300 : Params → Obj := fun P => { cls := Value.none, data := Data.fields #[] }
noncomputable def o_301 : Params → Obj := fun P =>
  { cls := Value.none,
    data :=
      Data.func
        { name := Str.ofString "law", qualname := Str.ofString "law", params := pa28, body := FuncBody.stmts bd28, scope := sc28, globals := 0, closure := [],
          defaults := Value.none, kwdefaults := Value.none } }
noncomputable def o_302 : Params → Obj := fun P =>
  { cls := Value.type "code",
    data :=
      Data.fields
        #[Value.str (Str.ofString "law") 543, Value.str (Str.ofString "law") 544, Value.str (Str.ofString "/claim/cut.py") 545, Value.int 194 0, Value.int 1 0, Value.int 0 0,
          Value.int 0 0, Value.int 3 0, Value.ref 251, Value.bool true, Value.int 181 0, Value.ref 252, Value.none, Value.none, Value.none, Value.ref 253, Value.int 546 0,
          Value.int 194 0, Value.str (Str.ofString "/claim/cut.py") 547] }
noncomputable def o_303 : Params → Obj := fun P =>
  { cls := Value.type "function",
    data :=
      Data.func
        { name := Str.ofString "law", qualname := Str.ofString "law", params := pa28, body := FuncBody.stmts bd28, scope := sc28, globals := 3, closure := [],
          defaults := Value.none, kwdefaults := Value.none, pyModule := Value.str (Str.ofString "law_nt0549_01") 453, code := Value.ref 254 } }
noncomputable def hA : Params → Heap := fun P => ⟨⟨[boot_o_0 P, boot_o_1 P, boot_o_2 P, boot_o_3 P, boot_o_4 P, boot_o_5 P, boot_o_6 P, boot_o_7 P, boot_o_8 P, boot_o_9 P, boot_o_10 P, o_43 P, o_44 P, o_45 P, o_46 P]⟩, {}⟩
noncomputable def hB : Params → Heap := fun P => ⟨⟨[boot_o_0 P, boot_o_1 P, o_49 P, o_79 P, boot_o_4 P, boot_o_5 P, boot_o_6 P, boot_o_7 P, boot_o_8 P, boot_o_9 P, boot_o_10 P, o_43 P, o_80 P, o_45 P, o_46 P, o_52 P, o_53 P, o_54 P, o_55 P, o_56 P, o_57 P, o_58 P, o_59 P, o_60 P, o_61 P, o_62 P, o_63 P, o_64 P, o_65 P, o_66 P, o_67 P, o_68 P, o_69 P, o_70 P, o_71 P, o_72 P, o_73 P, o_74 P, o_81 P, o_76 P, o_77 P, o_78 P, o_82 P, o_83 P, o_84 P, o_85 P, o_86 P, o_87 P, o_88 P, o_89 P, o_90 P, o_91 P, o_92 P, o_93 P]⟩, {}⟩
noncomputable def hC : Params → Heap := fun P => ⟨⟨[boot_o_0 P, boot_o_1 P, o_49 P, o_143 P, boot_o_4 P, boot_o_5 P, boot_o_6 P, boot_o_7 P, boot_o_8 P, boot_o_9 P, boot_o_10 P, o_43 P, o_144 P, o_45 P, o_46 P, o_52 P, o_53 P, o_54 P, o_55 P, o_56 P, o_57 P, o_58 P, o_59 P, o_60 P, o_61 P, o_62 P, o_63 P, o_64 P, o_65 P, o_66 P, o_67 P, o_68 P, o_69 P, o_70 P, o_71 P, o_72 P, o_73 P, o_74 P, o_81 P, o_76 P, o_77 P, o_78 P, o_82 P, o_83 P, o_84 P, o_85 P, o_86 P, o_87 P, o_88 P, o_89 P, o_90 P, o_91 P, o_92 P, o_93 P, o_96 P, o_97 P, o_98 P, o_99 P, o_100 P, o_101 P, o_102 P, o_103 P, o_104 P, o_105 P, o_106 P, o_107 P, o_108 P, o_109 P, o_110 P, o_111 P, o_112 P, o_113 P, o_114 P, o_115 P, o_116 P, o_117 P, o_118 P, o_119 P, o_120 P, o_121 P, o_122 P, o_123 P, o_124 P, o_125 P, o_126 P, o_127 P, o_128 P, o_129 P, o_130 P, o_131 P, o_132 P, o_133 P, o_134 P, o_135 P, o_136 P, o_137 P, o_138 P, o_139 P, o_140 P, o_141 P, o_142 P, o_145 P, o_146 P, o_147 P, o_148 P, o_149 P, o_150 P, o_151 P, o_152 P, o_153 P, o_154 P, o_155 P, o_156 P, o_157 P, o_158 P, o_159 P, o_160 P, o_161 P, o_162 P, o_163 P, o_164 P, o_165 P, o_166 P, o_167 P, o_168 P, o_169 P, o_170 P, o_171 P, o_172 P, o_173 P, o_174 P, o_175 P, o_176 P, o_177 P, o_178 P, o_179 P, o_180 P, o_181 P, o_182 P]⟩, {}⟩
noncomputable def hD : Params → Heap := fun P => ⟨⟨[boot_o_0 P, boot_o_1 P, o_49 P, o_183 P, boot_o_4 P, boot_o_5 P, boot_o_6 P, boot_o_7 P, boot_o_8 P, boot_o_9 P, boot_o_10 P, o_43 P, o_184 P, o_45 P, o_46 P, o_52 P, o_53 P, o_54 P, o_55 P, o_56 P, o_57 P, o_58 P, o_59 P, o_60 P, o_61 P, o_62 P, o_63 P, o_64 P, o_65 P, o_66 P, o_67 P, o_68 P, o_69 P, o_70 P, o_71 P, o_72 P, o_73 P, o_74 P, o_81 P, o_76 P, o_77 P, o_78 P, o_82 P, o_83 P, o_84 P, o_85 P, o_86 P, o_87 P, o_88 P, o_89 P, o_90 P, o_91 P, o_92 P, o_93 P, o_96 P, o_97 P, o_98 P, o_99 P, o_100 P, o_101 P, o_102 P, o_103 P, o_104 P, o_105 P, o_106 P, o_107 P, o_108 P, o_109 P, o_110 P, o_111 P, o_112 P, o_113 P, o_114 P, o_115 P, o_116 P, o_117 P, o_118 P, o_119 P, o_120 P, o_121 P, o_122 P, o_123 P, o_124 P, o_125 P, o_126 P, o_127 P, o_128 P, o_129 P, o_130 P, o_131 P, o_132 P, o_133 P, o_134 P, o_135 P, o_136 P, o_137 P, o_138 P, o_139 P, o_140 P, o_141 P, o_142 P, o_145 P, o_146 P, o_147 P, o_148 P, o_149 P, o_150 P, o_151 P, o_152 P, o_153 P, o_154 P, o_155 P, o_156 P, o_157 P, o_158 P, o_159 P, o_160 P, o_161 P, o_162 P, o_163 P, o_164 P, o_165 P, o_166 P, o_167 P, o_168 P, o_169 P, o_170 P, o_171 P, o_172 P, o_173 P, o_174 P, o_175 P, o_176 P, o_177 P, o_178 P, o_179 P, o_180 P, o_181 P, o_182 P, o_185 P, o_186 P, o_187 P, o_188 P, o_189 P, o_190 P, o_191 P, o_192 P, o_193 P, o_194 P, o_195 P, o_196 P, o_197 P, o_198 P, o_199 P, o_200 P, o_201 P, o_202 P, o_203 P, o_204 P, o_205 P, o_206 P, o_207 P, o_208 P, o_209 P, o_210 P, o_211 P, o_212 P, o_213 P, o_214 P, o_215 P, o_216 P, o_217 P, o_218 P, o_219 P, o_220 P, o_221 P, o_222 P, o_223 P, o_224 P, o_225 P, o_226 P, o_227 P, o_228 P, o_229 P, o_230 P, o_231 P, o_232 P, o_233 P, o_234 P]⟩, {}⟩
noncomputable def hF : Params → Heap := fun P => ⟨⟨[boot_o_0 P, boot_o_1 P, o_49 P, o_235 P, boot_o_4 P, boot_o_5 P, boot_o_6 P, boot_o_7 P, boot_o_8 P, boot_o_9 P, boot_o_10 P, o_43 P, o_236 P, o_45 P, o_46 P, o_52 P, o_53 P, o_54 P, o_55 P, o_56 P, o_57 P, o_58 P, o_59 P, o_60 P, o_61 P, o_62 P, o_63 P, o_64 P, o_65 P, o_66 P, o_67 P, o_68 P, o_69 P, o_70 P, o_71 P, o_72 P, o_73 P, o_74 P, o_81 P, o_76 P, o_77 P, o_78 P, o_82 P, o_83 P, o_84 P, o_85 P, o_86 P, o_87 P, o_88 P, o_89 P, o_90 P, o_91 P, o_92 P, o_93 P, o_96 P, o_97 P, o_98 P, o_99 P, o_100 P, o_101 P, o_102 P, o_103 P, o_104 P, o_105 P, o_106 P, o_107 P, o_108 P, o_109 P, o_110 P, o_111 P, o_112 P, o_113 P, o_114 P, o_115 P, o_116 P, o_117 P, o_118 P, o_119 P, o_120 P, o_121 P, o_122 P, o_123 P, o_124 P, o_125 P, o_126 P, o_127 P, o_128 P, o_129 P, o_130 P, o_131 P, o_132 P, o_133 P, o_134 P, o_135 P, o_136 P, o_137 P, o_138 P, o_139 P, o_140 P, o_141 P, o_142 P, o_145 P, o_146 P, o_147 P, o_148 P, o_149 P, o_150 P, o_151 P, o_152 P, o_153 P, o_154 P, o_155 P, o_156 P, o_157 P, o_158 P, o_159 P, o_160 P, o_161 P, o_162 P, o_163 P, o_164 P, o_165 P, o_166 P, o_167 P, o_168 P, o_169 P, o_170 P, o_171 P, o_172 P, o_173 P, o_174 P, o_175 P, o_176 P, o_177 P, o_178 P, o_179 P, o_180 P, o_181 P, o_182 P, o_185 P, o_186 P, o_187 P, o_188 P, o_189 P, o_190 P, o_191 P, o_192 P, o_193 P, o_194 P, o_195 P, o_196 P, o_197 P, o_198 P, o_199 P, o_200 P, o_201 P, o_202 P, o_203 P, o_204 P, o_205 P, o_206 P, o_207 P, o_208 P, o_209 P, o_210 P, o_211 P, o_212 P, o_213 P, o_214 P, o_215 P, o_216 P, o_217 P, o_218 P, o_219 P, o_220 P, o_221 P, o_222 P, o_223 P, o_224 P, o_225 P, o_226 P, o_227 P, o_228 P, o_229 P, o_230 P, o_231 P, o_232 P, o_233 P, o_234 P, o_237 P, o_238 P, o_239 P, o_240 P, o_241 P, o_242 P, o_243 P, o_244 P, o_245 P, o_246 P, o_247 P, o_248 P, o_249 P, o_250 P, o_251 P, o_252 P, o_253 P, o_254 P, o_255 P, o_256 P, o_257 P, o_258 P, o_259 P, o_260 P, o_261 P, o_262 P, o_263 P, o_264 P, o_265 P, o_266 P, o_267 P, o_268 P, o_269 P, o_270 P, o_271 P, o_272 P, o_273 P, o_274 P, o_275 P, o_276 P, o_277 P, o_278 P, o_279 P, o_280 P, o_281 P, o_282 P, o_283 P, o_284 P, o_285 P, o_286 P, o_287 P, o_288 P, o_289 P, o_290 P, o_291 P, o_292 P, o_293 P, o_294 P, o_295 P, o_296 P, o_297 P, o_298 P, o_299 P, o_300 P, o_301 P, o_302 P, o_303 P]⟩, {}⟩

/-- what stands behind the top, as far as the walk reads it -/
noncomputable def Kx : Params → Frag := fun P => [(2, o_49 P), (3, o_235 P), (15, o_52 P), (17, o_54 P), (18, o_55 P), (20, o_57 P), (21, o_58 P), (22, o_59 P), (29, o_66 P), (31, o_68 P), (32, o_69 P), (34, o_71 P), (35, o_72 P), (36, o_73 P), (37, o_74 P), (38, o_81 P), (39, o_76 P), (42, o_82 P), (49, o_89 P), (50, o_90 P), (51, o_91 P), (61, o_103 P), (63, o_105 P), (64, o_106 P), (66, o_108 P), (67, o_109 P), (68, o_110 P), (70, o_112 P), (71, o_113 P), (73, o_115 P), (74, o_116 P), (75, o_117 P), (77, o_119 P), (78, o_120 P), (80, o_122 P), (81, o_123 P), (82, o_124 P), (83, o_125 P), (84, o_126 P), (85, o_127 P), (86, o_128 P), (89, o_131 P), (90, o_132 P), (91, o_133 P), (92, o_134 P), (93, o_135 P), (94, o_136 P), (96, o_138 P), (97, o_139 P), (99, o_141 P), (100, o_142 P), (101, o_145 P), (103, o_147 P), (104, o_148 P), (106, o_150 P), (107, o_151 P), (108, o_152 P), (110, o_154 P), (111, o_155 P), (113, o_157 P), (114, o_158 P), (115, o_159 P), (118, o_162 P), (119, o_163 P), (120, o_164 P), (122, o_166 P), (123, o_167 P), (125, o_169 P), (126, o_170 P), (127, o_171 P), (130, o_174 P), (131, o_175 P), (132, o_176 P), (134, o_178 P), (135, o_179 P), (137, o_181 P), (138, o_182 P), (146, o_192 P), (149, o_195 P), (150, o_196 P), (151, o_197 P), (153, o_199 P), (154, o_200 P), (156, o_202 P), (157, o_203 P), (158, o_204 P), (160, o_206 P), (161, o_207 P), (163, o_209 P), (164, o_210 P), (165, o_211 P), (167, o_213 P), (168, o_214 P), (170, o_216 P), (171, o_217 P), (172, o_218 P), (173, o_219 P), (174, o_220 P), (175, o_221 P), (176, o_222 P), (179, o_225 P), (182, o_228 P), (183, o_229 P), (184, o_230 P), (187, o_233 P), (188, o_234 P), (189, o_237 P), (191, o_239 P), (192, o_240 P), (194, o_242 P), (195, o_243 P), (196, o_244 P), (198, o_246 P), (199, o_247 P), (201, o_249 P), (202, o_250 P), (203, o_251 P), (205, o_253 P), (206, o_254 P), (208, o_256 P), (209, o_257 P), (210, o_258 P), (213, o_261 P), (214, o_262 P), (215, o_263 P), (217, o_265 P), (218, o_266 P), (220, o_268 P), (221, o_269 P), (222, o_270 P), (224, o_272 P), (225, o_273 P), (227, o_275 P), (228, o_276 P), (229, o_277 P), (232, o_280 P), (233, o_281 P), (234, o_282 P), (237, o_285 P), (238, o_286 P), (239, o_287 P), (241, o_289 P), (242, o_290 P), (244, o_292 P), (245, o_293 P), (246, o_294 P), (249, o_297 P), (250, o_298 P), (251, o_299 P), (254, o_302 P), (255, o_303 P)]
noncomputable def kAt : List Addr := [2, 3, 15, 17, 18, 20, 21, 22, 29, 31, 32, 34, 35, 36, 37, 38, 39, 42, 49, 50, 51, 61, 63, 64, 66, 67, 68, 70, 71, 73, 74, 75, 77, 78, 80, 81, 82, 83, 84, 85, 86, 89, 90, 91, 92, 93, 94, 96, 97, 99, 100, 101, 103, 104, 106, 107, 108, 110, 111, 113, 114, 115, 118, 119, 120, 122, 123, 125, 126, 127, 130, 131, 132, 134, 135, 137, 138, 146, 149, 150, 151, 153, 154, 156, 157, 158, 160, 161, 163, 164, 165, 167, 168, 170, 171, 172, 173, 174, 175, 176, 179, 182, 183, 184, 187, 188, 189, 191, 192, 194, 195, 196, 198, 199, 201, 202, 203, 205, 206, 208, 209, 210, 213, 214, 215, 217, 218, 220, 221, 222, 224, 225, 227, 228, 229, 232, 233, 234, 237, 238, 239, 241, 242, 244, 245, 246, 249, 250, 251, 254, 255]
noncomputable def qv : Program := view prg0 [0, 2, 3, 5, 7, 8, 9, 10, 11, 12, 13, 14, 15, 16, 17, 19, 20, 21, 22, 23, 24, 25, 26, 27, 28, 29]
theorem kAt_eq : ∀ P, kAt = (Kx P).map (·.1) := fun _ => by kernel_rfl
noncomputable def hook0 : Hook := kHook Kx kAt kAt_eq
end Mine
end

/-! Hs -/
section
open PySem PySem.W PyProof.Rows
namespace Mine
noncomputable section
noncomputable def p0 : Pos := ⟨0, 0, 0, 0⟩
noncomputable def env0 : Env := { scope := prg0.main.scope, locals := mainNs, globals := mainNs, cells := [], code := .ref 13, frame := some 14 }
noncomputable def cE : Code := .body (behindTheImports prg0) env0
noncomputable def lA : List Stmt := [stm 0, stm 1, stm 2, stm 3, stm 4]
noncomputable def lB : List Stmt := [stm 5, stm 6, stm 7, stm 8, stm 9, stm 10, stm 11, stm 12, stm 13, stm 14]
noncomputable def lC : List Stmt := [stm 15, stm 16, stm 17, stm 18]
noncomputable def lD : List Stmt := [stm 19, stm 20, stm 21, stm 22, stm 23, stm 24, stm 25, stm 26, stm 27, stm 28, stm 29]
theorem parts : behindTheImports prg0 = lA ++ (lB ++ (lC ++ (lD ++ []))) := by kernel_rfl
noncomputable abbrev an : Option Value := some (.ref 6)
theorem s_pre : ∀ w : World, (fun os => topGo treeTable prg0 w 11 an 12 ⟨boot_heap w.params, #[], boot_drawn, boot_toks, os⟩ (topStub prg0)) = fun os => some (⟨hA w.params, #[], {}, 187, os⟩, ⟨denote treeTable cE, cE, p0, [topFrame p0]⟩) := fun w => by kernel_rfl
theorem s_block : ∀ w : World, (fun os => segRun treeTable prg0 w 11 an 1 5 ⟨hA w.params, #[], {}, 187, os⟩ (blockOf (behindTheImports prg0) env0 cE p0 [topFrame p0])) = fun os => some (.next, ⟨hA w.params, #[], {}, 187, os⟩, cE, p0) := fun w => by kernel_rfl
theorem s_A : ∀ w : World, (fun os => segRun treeTable prg0 w 11 an 1 600 ⟨hA w.params, #[], {}, 187, os⟩ (piecesOf lA env0 cE p0 [topFrame p0])) = fun os => some (.next, ⟨hB w.params, #[], {}, 243, os⟩, cE, ⟨12, 0, 12, 8⟩) := fun w => by kernel_rfl
theorem s_B : ∀ w : World, (fun os => segRun treeTable prg0 w 11 an 1 600 ⟨hB w.params, #[], {}, 243, os⟩ (piecesOf lB env0 cE ⟨12, 0, 12, 8⟩ [topFrame p0])) = fun os => some (.next, ⟨hC w.params, #[], {}, 373, os⟩, cE, ⟨61, 0, 66, 16⟩) := fun w => by kernel_rfl
theorem s_C : ∀ w : World, (fun os => segRun treeTable prg0 w 11 an 1 500 ⟨hC w.params, #[], {}, 373, os⟩ (piecesOf lC env0 cE ⟨61, 0, 66, 16⟩ [topFrame p0])) = fun os => some (.next, ⟨hD w.params, #[], {}, 455, os⟩, cE, ⟨105, 0, 105, 8⟩) := fun w => by kernel_rfl
theorem s_D : ∀ w : World, (fun os => segRun treeTable prg0 w 11 an 1 500 ⟨hD w.params, #[], {}, 455, os⟩ (piecesOf lD env0 cE ⟨105, 0, 105, 8⟩ [topFrame p0])) = fun os => some (.next, ⟨hF w.params, #[], {}, 549, os⟩, cE, ⟨194, 0, 204, 78⟩) := fun w => by kernel_rfl
theorem s_fin : ∀ w : World, (fun os => topRun treeTable prg0 w 11 an 40 ⟨hF w.params, #[], {}, 549, os⟩ ⟨doneF .next, cE, ⟨194, 0, 204, 78⟩, [topFrame p0]⟩) = fun os => some ⟨hF w.params, #[], {}, 549, os⟩ := fun w => by kernel_rfl
theorem s_run (w : World) (os : OsState) : topRun treeTable prg0 w 11 an (12 + (5 + (600 + (600 + (500 + (500 + 40)))))) ⟨boot_heap w.params, #[], boot_drawn, boot_toks, os⟩ (topStub prg0) = some ⟨hF w.params, #[], {}, 549, os⟩ := by
  refine go_top (congrFun (s_pre w) os) (piece_block (congrFun (s_block w) os) ?_)
  rw [parts]
  exact piece_app (congrFun (s_A w) os) (piece_app (congrFun (s_B w) os) (piece_app (congrFun (s_C w) os) (piece_app (congrFun (s_D w) os) (congrFun (s_fin w) os))))
theorem s_size : ∀ w : World, ((boot_heap w.params).isNs mainGlobals && (#[] : Array GenState).size == 0, (boot_heap w.params).objs.size, (boot_heap w.params).nsMap mainGlobals "__annotations__") = (true, 11, an) := fun w => by kernel_rfl
theorem s_open : ∀ w : World, (fencedOpening treeTable prg0 w 3636).map (fun s => (s.heap, s.gens, s.drawn, s.toks)) = some (boot_heap w.params, Array.mk [], boot_drawn, boot_toks) := boot_open (by kernel_rfl) (by decide) (fun s => by kernel_rfl)
end
end Mine
end

/-! Hl -/
section
open PySem PySem.W PyProof.Rows
namespace Mine
noncomputable abbrev rw1 : RowW := OpenRow.toRowW PySem.Challenge.rw_nt0549_01.row
theorem s_looks : ∀ w : World, (fun os => ((staticsOk (importedModules prg0.main.body) (boot_heap w.params) (hF w.params) && namesBound prg0 (hF w.params) && gensDone ⟨hF w.params, #[], {}, 549, os⟩ && laidKept (boot_heap w.params) (hF w.params)),
    openSeen qv [] (importedModules prg0.main.body) (fun s => xlAt qv [] s && recOk rw1.records s) true ⟨hF w.params, #[], {}, 549, os⟩, hook0.obs ⟨hF w.params, #[], {}, 549, os⟩)) = fun _ => (true, openGood qv [], hook0.val w) := fun w => by kernel_rfl
theorem s_left : LeftO prg0 qv [] (fun s => xlAt qv [] s && recOk rw1.records s) hook0.obs hook0.val 3636 := LeftO.of_pieces s_open s_size s_run (by decide) s_looks
theorem said : PySem.Challenge.rw_nt0549_01.wellSaid = true := by
  unfold OpenLaw.wellSaid
  (repeat' (with_reducible refine look_both ?_ ?_)) <;> decide +kernel
end Mine
end

/-! VBase -/
section
open PySem PySem.W PyProof.Rows PySem.Calls
namespace Mine

/-- values without addresses and tokens -/
inductive AV where
  | int (i : Int)
  | bool (b : Bool)
  | none
  | top (v : Value)
  | tup (vs : List AV)
  | ref (k : Nat)
  | rng (a b c : Int)

/-- the call's own objects that may turn -/
inductive AO where
  | list (vs : List AV)
  | inst (C : Addr) (d : Nat)
  | attrs (fs : List (PySem.Str × AV))
  | dict (es : List ((Int × Int) × AV))

mutual
inductive VRep (φ : Nat → Addr) (n : Nat) (h : Heap) : AV → Value → Prop
  | int {i : Int} {t : Tok} : VRep φ n h (.int i) (.int i t)
  | bool {b : Bool} : VRep φ n h (.bool b) (.bool b)
  | none : VRep φ n h .none .none
  | top {v : Value} : VRep φ n h (.top v) v
  | tup {vs : List AV} {items : List Value} {a : Addr} {o : Obj} {ep : Nat} : h.get? a = some o → o.cls = .type "tuple" → o.data = .seq items.toArray ep → VReps φ n h vs items → VRep φ n h (.tup vs) (.ref a)
  | ref {k : Nat} : k < n → VRep φ n h (.ref k) (.ref (φ k))
  | rng {a b c : Int} {r : Addr} {t u v : Tok} : IsRange h r a b c t u v → VRep φ n h (.rng a b c) (.ref r)
inductive VReps (φ : Nat → Addr) (n : Nat) (h : Heap) : List AV → List Value → Prop
  | nil : VReps φ n h [] []
  | cons {a : AV} {v : Value} {as : List AV} {vs : List Value} : VRep φ n h a v → VReps φ n h as vs → VReps φ n h (a :: as) (v :: vs)
end

inductive Attrs (φ : Nat → Addr) (n : Nat) (h : Heap) : List (PySem.Str × AV) → List DictEntry → Prop
  | nil : Attrs φ n h [] []
  | cons {x : PySem.Str} {a : AV} {hs : Int} {t : Tok} {v : Value} {fs es} : VRep φ n h a v → Attrs φ n h fs es → Attrs φ n h ((x, a) :: fs) (⟨hs, .str x t, v⟩ :: es)

/-- the world's part that a dict's table hangs on -/
noncomputable abbrev PW := Program × World
noncomputable abbrev DictAt (H : PW) (h : Heap) (d : Addr) (xs : List (List Int × Addr × Value)) : Prop := h.DictOfH (tupleKind (intKind H.1 H.2)) d xs

inductive DEnt (φ : Nat → Addr) (n : Nat) (h : Heap) : List ((Int × Int) × AV) → List (List Int × Addr × Value) → Prop
  | nil : DEnt φ n h [] []
  | cons {k : Int × Int} {a : AV} {ka : Addr} {v : Value} {fs es} : VRep φ n h a v → DEnt φ n h fs es → DEnt φ n h ((k, a) :: fs) (([k.1, k.2], ka, v) :: es)

noncomputable def ORep (H : PW) (φ : Nat → Addr) (n : Nat) (h : Heap) (a : Addr) : AO → Prop
  | .list vs => ∃ items ep, h.get? a = some { cls := .type "list", data := .seq (List.toArray items) ep } ∧ VReps φ n h vs items ∧ vs.length ≤ 4096
  | .inst C d => h.get? a = some (instObj C (φ d)) ∧ d < n
  | .attrs fs => ∃ es ep, h.get? a = some (W.dictOf es ep) ∧ Attrs φ n h fs es ∧ fs.length ≤ 64
  | .dict es => ∃ xs, DictAt H h a xs ∧ DEnt φ n h es xs ∧ es.length ≤ 4096

structure Rep (H : PW) (T : Heap) (φ : Nat → Addr) (σ : List AO) (h : Heap) : Prop where
  top : ∀ b o, T.get? b = some o → h.get? b = some o
  low : ∀ k, k < σ.length → T.objs.size ≤ φ k
  inj : ∀ i j, i < σ.length → j < σ.length → φ i = φ j → i = j
  obj : ∀ k o, σ[k]? = some o → ORep H φ σ.length h (φ k) o
end Mine
end

/-! VStep -/
section
open PySem PySem.W PyProof.Rows PySem.Calls
namespace Mine

/-- what never turns: tuples and ranges -/
noncomputable def frozen (o : Obj) : Prop := (o.cls = .type "tuple" ∨ o.cls = .type "range") ∧ ((∃ items n, o.data = .seq items n) ∨ ∃ vs, o.data = .fields vs)
theorem frozen.notDict {o : Obj} (f : frozen o) {es : Array DictEntry} {n : Nat} (h : o.data = .dict es n) : False := by
  rcases f.2 with ⟨_, _, q⟩ | ⟨_, q⟩ <;> rw [h] at q <;> cases q
theorem frozen.notCell {o : Obj} (f : frozen o) {v : Option Value} (h : o.data = .cell v) : False := by
  rcases f.2 with ⟨_, _, q⟩ | ⟨_, q⟩ <;> rw [h] at q <;> cases q

noncomputable def Froz (h h' : Heap) : Prop := ∀ b o, h.get? b = some o → frozen o → h'.get? b = some o
theorem Froz.refl (h : Heap) : Froz h h := fun _ _ e _ => e
theorem Froz.trans {h h' h'' : Heap} (a : Froz h h') (b : Froz h' h'') : Froz h h'' := fun x o e f => b x o (a x o e f) f

theorem frozen_tup {o : Obj} {items : Array Value} {ep : Nat} (h : o.cls = .type "tuple") (hd : o.data = .seq items ep) : frozen o := ⟨.inl h, .inl ⟨_, _, hd⟩⟩

mutual
theorem VRep.mono {φ φ' : Nat → Addr} {n n' : Nat} {h h' : Heap} (hf : Froz h h') (hn : n ≤ n') (hφ : ∀ k, k < n → φ' k = φ k) : ∀ {a : AV} {v : Value}, VRep φ n h a v → VRep φ' n' h' a v
  | _, _, .int => .int
  | _, _, .bool => .bool
  | _, _, .none => .none
  | _, _, .top => .top
  | _, _, .tup e c d r => .tup (hf _ _ e (frozen_tup c d)) c d (VReps.mono hf hn hφ r)
  | _, _, .ref hk => by rw [← hφ _ hk]; exact .ref (Nat.lt_of_lt_of_le hk hn)
  | _, _, .rng e => .rng (hf _ _ e ⟨.inr rfl, .inr ⟨_, rfl⟩⟩)
theorem VReps.mono {φ φ' : Nat → Addr} {n n' : Nat} {h h' : Heap} (hf : Froz h h') (hn : n ≤ n') (hφ : ∀ k, k < n → φ' k = φ k) : ∀ {as : List AV} {vs : List Value}, VReps φ n h as vs → VReps φ' n' h' as vs
  | _, _, .nil => .nil
  | _, _, .cons a r => .cons (VRep.mono hf hn hφ a) (VReps.mono hf hn hφ r)
end

theorem VReps.length {φ : Nat → Addr} {n : Nat} {h : Heap} : ∀ {as : List AV} {vs : List Value}, VReps φ n h as vs → as.length = vs.length
  | _, _, .nil => rfl
  | _, _, .cons _ r => by simp [r.length]
theorem VReps.get {φ : Nat → Addr} {n : Nat} {h : Heap} : ∀ {as : List AV} {vs : List Value}, VReps φ n h as vs → ∀ {i : Nat} {a : AV}, as[i]? = some a → ∃ v, vs[i]? = some v ∧ VRep φ n h a v
  | _, _, .nil, i, a, e => by simp at e
  | _, _, .cons x r, 0, a, e => by simp at e; subst e; exact ⟨_, rfl, x⟩
  | _, _, .cons x r, i + 1, a, e => by simp at e; obtain ⟨v, h1, h2⟩ := r.get e; exact ⟨v, by simpa using h1, h2⟩
theorem VReps.append {φ : Nat → Addr} {n : Nat} {h : Heap} : ∀ {as bs : List AV} {vs ws : List Value}, VReps φ n h as vs → VReps φ n h bs ws → VReps φ n h (as ++ bs) (vs ++ ws)
  | _, _, _, _, .nil, b => b
  | _, _, _, _, .cons a r, b => .cons a (r.append b)
theorem VReps.set {φ : Nat → Addr} {n : Nat} {h : Heap} : ∀ {as : List AV} {vs : List Value}, VReps φ n h as vs → ∀ (i : Nat) {a : AV} {v : Value}, VRep φ n h a v → VReps φ n h (as.set i a) (vs.set i v)
  | _, _, .nil, _, _, _, _ => .nil
  | _, _, .cons x r, 0, _, _, z => .cons z r
  | _, _, .cons x r, i + 1, _, _, z => .cons x (r.set i z)
theorem VReps.replicate {φ : Nat → Addr} {n : Nat} {h : Heap} {a : AV} {v : Value} (x : VRep φ n h a v) : ∀ k, VReps φ n h (List.replicate k a) (List.replicate k v)
  | 0 => .nil
  | k + 1 => .cons x (VReps.replicate x k)

theorem Attrs.mono {φ φ' : Nat → Addr} {n n' : Nat} {h h' : Heap} (hf : Froz h h') (hn : n ≤ n') (hφ : ∀ k, k < n → φ' k = φ k) : ∀ {fs es}, Attrs φ n h fs es → Attrs φ' n' h' fs es
  | _, _, .nil => .nil
  | _, _, .cons a r => .cons (a.mono hf hn hφ) (Attrs.mono hf hn hφ r)
theorem Attrs.length {φ : Nat → Addr} {n : Nat} {h : Heap} : ∀ {fs es}, Attrs φ n h fs es → fs.length = es.length
  | _, _, .nil => rfl
  | _, _, .cons _ r => by simp [r.length]
theorem DEnt.mono {φ φ' : Nat → Addr} {n n' : Nat} {h h' : Heap} (hf : Froz h h') (hn : n ≤ n') (hφ : ∀ k, k < n → φ' k = φ k) : ∀ {fs es}, DEnt φ n h fs es → DEnt φ' n' h' fs es
  | _, _, .nil => .nil
  | _, _, .cons a r => .cons (a.mono hf hn hφ) (DEnt.mono hf hn hφ r)
theorem DEnt.length {φ : Nat → Addr} {n : Nat} {h : Heap} : ∀ {fs es}, DEnt φ n h fs es → fs.length = es.length
  | _, _, .nil => rfl
  | _, _, .cons _ r => by simp [r.length]
theorem DictAt.mono {H : PW} {h h' : Heap} {a : Addr} {xs : List (List Int × Addr × Value)} (hf : Froz h h') (hk : ∀ x, h.get? a = some x → h'.get? a = some x) (d : DictAt H h a xs) : DictAt H h' a xs := by
  obtain ⟨o, es, ep, e, x, dd, l, ks, nd⟩ := d
  refine ⟨o, es, ep, hk _ e, x, dd, l, fun y hy => ?_, nd⟩
  obtain ⟨o', items, n, h1, h2, h3, h4⟩ := ks y hy
  exact ⟨o', items, n, hf _ _ h1 (frozen_tup h2 h3), h2, h3, h4⟩

variable {H : PW} {T : Heap}

/-- an object's stand, the heap grown and it itself kept -/
theorem ORep.mono {φ φ' : Nat → Addr} {n n' : Nat} {h h' : Heap} {a : Addr} {o : AO} (hf : Froz h h') (hn : n ≤ n') (hφ : ∀ k, k < n → φ' k = φ k) (hk : ∀ x, h.get? a = some x → h'.get? a = some x)
    (r : ORep H φ n h a o) : ORep H φ' n' h' a o := by
  cases o with
  | list vs => obtain ⟨items, ep, e, v, l⟩ := r; exact ⟨items, ep, hk _ e, v.mono hf hn hφ, l⟩
  | inst C d => obtain ⟨e, l⟩ := r; exact ⟨by rw [hφ d l]; exact hk _ e, Nat.lt_of_lt_of_le l hn⟩
  | attrs fs => obtain ⟨es, ep, e, v, l⟩ := r; exact ⟨es, ep, hk _ e, v.mono hf hn hφ, l⟩
  | dict fs => obtain ⟨xs, e, v, l⟩ := r; exact ⟨xs, e.mono hf hk, v.mono hf hn hφ, l⟩

theorem ORep.some {φ : Nat → Addr} {n : Nat} {h : Heap} {a : Addr} {o : AO} (r : ORep H φ n h a o) : ∃ x, h.get? a = some x ∧ ¬ frozen x := by
  cases o with
  | list vs => obtain ⟨items, ep, e, v, l⟩ := r; exact ⟨_, e, fun f => by rcases f.1 with q | q <;> simp at q⟩
  | inst C d => obtain ⟨e, l⟩ := r; exact ⟨_, e, fun f => by rcases f.1 with q | q <;> simp at q⟩
  | attrs fs => obtain ⟨es, ep, e, v, l⟩ := r; exact ⟨_, e, fun f => f.notDict rfl⟩
  | dict fs => obtain ⟨xs, e, v, l⟩ := r; obtain ⟨o, es, ep, h1, h2, h3, _⟩ := e; exact ⟨_, h1, fun f => f.notDict h3⟩

theorem Rep.lt {φ : Nat → Addr} {σ : List AO} {h : Heap} (R : Rep H T φ σ h) {k : Nat} (hk : k < σ.length) : φ k < h.objs.size := by
  obtain ⟨x, e, _⟩ := (R.obj k σ[k] (List.getElem?_eq_getElem hk)).some
  exact Heap.lt_size e

/-- what a step keeps: all but the call's own objects and what X names -/
structure StepX (H : PW) (T : Heap) (X : Addr → Prop) (φ : Nat → Addr) (σ : List AO) (s : Shared) (φ' : Nat → Addr) (σ' : List AO) (s' : Shared) : Prop where
  same : s' = { s with heap := s'.heap, toks := s'.toks }
  agree : ∀ k, k < σ.length → φ' k = φ k
  len : σ.length ≤ σ'.length
  rep : Rep H T φ' σ' s'.heap
  ext : ∀ b o, s.heap.get? b = some o → ¬ X b → (∀ k, k < σ.length → φ k ≠ b) → s'.heap.get? b = some o
  new : ∀ k, σ.length ≤ k → k < σ'.length → s.heap.get? (φ' k) = none
  live : ∀ b o, s.heap.get? b = some o → ∃ o', s'.heap.get? b = some o'

structure Step (H : PW) (T : Heap) (L : Addr) (φ : Nat → Addr) (σ : List AO) (s : Shared) (φ' : Nat → Addr) (σ' : List AO) (s' : Shared) : Prop extends StepX H T (· = L) φ σ s φ' σ' s' where
  ns : ∀ m, s.heap.Ns L m → s'.heap.Ns L m

/-- the place of a namespace is none of a frozen thing -/
theorem Ns.notFrozen {h : Heap} {L : Addr} {m : PySem.Str → Option Value} (N : h.Ns L m) {o : Obj} (e : h.get? L = some o) : ¬ frozen o := by
  obtain ⟨o', es, ep, h1, h2, _⟩ := N
  rw [h1] at e; cases e
  exact fun f => f.notDict h2

theorem StepX.froz {X : Addr → Prop} {φ φ' : Nat → Addr} {σ σ' : List AO} {s s' : Shared} (S : StepX H T X φ σ s φ' σ' s') (R : Rep H T φ σ s.heap) (hX : ∀ b o, X b → s.heap.get? b = some o → ¬ frozen o) : Froz s.heap s'.heap := by
  intro b o e f
  refine S.ext b o e (fun hx => hX b o hx e f) fun k hk q => ?_
  subst q
  obtain ⟨x, e', nf⟩ := (R.obj k σ[k] (List.getElem?_eq_getElem hk)).some
  rw [e] at e'; cases e'
  exact nf f
theorem Step.froz {L : Addr} {φ φ' : Nat → Addr} {σ σ' : List AO} {s s' : Shared} (S : Step H T L φ σ s φ' σ' s') (R : Rep H T φ σ s.heap) {m : PySem.Str → Option Value} (N : s.heap.Ns L m) : Froz s.heap s'.heap :=
  S.toStepX.froz R fun b o hb e => by subst hb; exact Ns.notFrozen N e

theorem StepX.refl {X : Addr → Prop} {φ : Nat → Addr} {σ : List AO} {s : Shared} (R : Rep H T φ σ s.heap) : StepX H T X φ σ s φ σ s :=
  ⟨rfl, fun _ _ => rfl, Nat.le_refl _, R, fun _ _ e _ _ => e, fun k h1 h2 => absurd h2 (Nat.not_lt.mpr h1), fun _ o e => ⟨o, e⟩⟩
theorem Step.refl {L : Addr} {φ : Nat → Addr} {σ : List AO} {s : Shared} (R : Rep H T φ σ s.heap) : Step H T L φ σ s φ σ s := ⟨StepX.refl R, fun _ n => n⟩

theorem StepX.trans {X : Addr → Prop} {φ φ₁ φ₂ : Nat → Addr} {σ σ₁ σ₂ : List AO} {s s₁ s₂ : Shared} (a : StepX H T X φ σ s φ₁ σ₁ s₁) (b : StepX H T X φ₁ σ₁ s₁ φ₂ σ₂ s₂) : StepX H T X φ σ s φ₂ σ₂ s₂ := by
  refine ⟨?_, fun k hk => (b.agree k (Nat.lt_of_lt_of_le hk a.len)).trans (a.agree k hk), Nat.le_trans a.len b.len, b.rep, fun x o e hx hφ => ?_, fun k h1 h2 => ?_, fun x o e => let ⟨o', e'⟩ := a.live x o e; b.live x o' e'⟩
  · rw [b.same, a.same]
  · refine b.ext x o (a.ext x o e hx hφ) hx fun k hk q => ?_
    by_cases hk' : k < σ.length
    · rw [a.agree k hk'] at q; exact hφ k hk' q
    · have := a.new k (Nat.le_of_not_lt hk') hk
      rw [q, e] at this; cases this
  · by_cases hk' : k < σ₁.length
    · rw [b.agree k hk']; exact a.new k h1 hk'
    · have h3 := b.new k (Nat.le_of_not_lt hk') h2
      cases h4 : s.heap.get? (φ₂ k) with
      | none => rfl
      | some o => obtain ⟨o', h5⟩ := a.live _ o h4; rw [h3] at h5; cases h5
theorem Step.trans {L : Addr} {φ φ₁ φ₂ : Nat → Addr} {σ σ₁ σ₂ : List AO} {s s₁ s₂ : Shared} (a : Step H T L φ σ s φ₁ σ₁ s₁) (b : Step H T L φ₁ σ₁ s₁ φ₂ σ₂ s₂) : Step H T L φ σ s φ₂ σ₂ s₂ :=
  ⟨a.toStepX.trans b.toStepX, fun m n => b.ns m (a.ns m n)⟩
theorem StepX.weaken {X Y : Addr → Prop} {φ φ' : Nat → Addr} {σ σ' : List AO} {s s' : Shared} (a : StepX H T X φ σ s φ' σ' s') (h : ∀ b, X b → Y b) : StepX H T Y φ σ s φ' σ' s' :=
  ⟨a.same, a.agree, a.len, a.rep, fun b o e hb hφ => a.ext b o e (fun hx => hb (h b hx)) hφ, a.new, a.live⟩

/-- the heap only grown, nothing of ours turned -/
theorem Step.ofKeep {L : Addr} {φ : Nat → Addr} {σ : List AO} {s : Shared} {h' : Heap} {tk : Nat} (R : Rep H T φ σ s.heap) (hk : ∀ b o, s.heap.get? b = some o → h'.get? b = some o) :
    Step H T L φ σ s φ σ { s with heap := h', toks := tk } :=
  ⟨⟨rfl, fun _ _ => rfl, Nat.le_refl _, ⟨fun b o e => hk b o (R.top b o e), R.low, R.inj, fun k o e => (R.obj k o e).mono (fun b o e _ => hk b o e) (Nat.le_refl _) (fun _ _ => rfl) (fun x e => hk _ x e)⟩, fun b o e _ _ => hk b o e, fun k h1 h2 => absurd h2 (Nat.not_lt.mpr h1), fun b o e => ⟨o, hk b o e⟩⟩,
    fun m ⟨o, es, ep, e, r⟩ => ⟨o, es, ep, hk _ _ e, r⟩⟩
theorem Step.ofTok {L : Addr} {φ : Nat → Addr} {σ : List AO} {s : Shared} {tk : Nat} (R : Rep H T φ σ s.heap) : Step H T L φ σ s φ σ { s with toks := tk } :=
  Step.ofKeep (h' := s.heap) R (fun _ _ e => e)

/-- own cells of a frame -/
noncomputable def OwnC (env : Env) (c : Addr) : Prop := ∃ x, env.kindOf x = some .cell ∧ env.cells.lookup x = some c

structure Frm (T : Heap) (φ : Nat → Addr) (n : Nat) (h : Heap) (env : Env) (ρ : PySem.Str → Option AV) : Prop where
  ns : ∃ m, h.Ns env.locals m ∧ ∀ x v, ρ x = some v → env.kindOf x = some .local → ∃ v', m x = some v' ∧ VRep φ n h v v'
  cl : ∀ x v, ρ x = some v → env.kindOf x = some .cell ∨ env.kindOf x = some .free → ∃ c v', env.cells.lookup x = some c ∧ h.IsCell c (some v') ∧ VRep φ n h v v'
  own : ∀ x, env.kindOf x = some .cell → ∃ c v₀, env.cells.lookup x = some c ∧ h.IsCell c v₀
  apart : ∀ x y c, env.kindOf x = some .cell → env.cells.lookup x = some c → env.cells.lookup y = some c → x = y
  low : T.objs.size ≤ env.locals
  foot : ∀ k, k < n → φ k ≠ env.locals
  cells : ∀ x c, env.cells.lookup x = some c → c ≠ env.locals ∧ T.objs.size ≤ c ∧ (∃ v₀, h.IsCell c v₀) ∧ ∀ k, k < n → φ k ≠ c

theorem IsCell.at {h h' : Heap} {c : Addr} {v : Option Value} (x : h.IsCell c v) (hk : ∀ o, h.get? c = some o → h'.get? c = some o) : h'.IsCell c v := let ⟨o, e, d⟩ := x; ⟨o, hk o e, d⟩

theorem Frm.step {φ φ' : Nat → Addr} {σ σ' : List AO} {s s' : Shared} {env : Env} {ρ : PySem.Str → Option AV} (F : Frm T φ σ.length s.heap env ρ) (R : Rep H T φ σ s.heap) (S : Step H T env.locals φ σ s φ' σ' s') : Frm T φ' σ'.length s'.heap env ρ := by
  obtain ⟨m, N, hm⟩ := F.ns
  have fz := S.froz R N
  have kc : ∀ x c, env.cells.lookup x = some c → ∀ v, s.heap.IsCell c v → s'.heap.IsCell c v := fun x c hc v hv => by
    obtain ⟨h1, _, _, h2⟩ := F.cells x c hc
    exact IsCell.at hv fun o e => S.ext c o e h1 h2
  refine ⟨⟨m, S.ns m N, fun x v e k => ?_⟩, fun x v e k => ?_, fun x k => ?_, F.apart, F.low, fun k hk q => ?_, fun x c hc => ?_⟩
  · obtain ⟨v', h1, h2⟩ := hm x v e k; exact ⟨v', h1, h2.mono fz S.len S.agree⟩
  · obtain ⟨c, v', h1, h2, h3⟩ := F.cl x v e k; exact ⟨c, v', h1, kc x c h1 _ h2, h3.mono fz S.len S.agree⟩
  · obtain ⟨c, v₀, h1, h2⟩ := F.own x k; exact ⟨c, v₀, h1, kc x c h1 _ h2⟩
  · by_cases hk' : k < σ.length
    · rw [S.agree k hk'] at q; exact F.foot k hk' q
    · have h1 := S.new k (Nat.le_of_not_lt hk') hk
      obtain ⟨o, es, ep, e, _⟩ := N
      rw [q, e] at h1; cases h1
  · obtain ⟨h1, h2, ⟨v₀, h3⟩, h4⟩ := F.cells x c hc
    refine ⟨h1, h2, ⟨v₀, kc x c hc _ h3⟩, fun k hk q => ?_⟩
    by_cases hk' : k < σ.length
    · rw [S.agree k hk'] at q; exact h4 k hk' q
    · have h5 := S.new k (Nat.le_of_not_lt hk') hk
      obtain ⟨o, e, _⟩ := h3
      rw [q, e] at h5; cases h5
end Mine
end

/-! VEv -/
section
open PySem PySem.W PyProof.Rows PySem.Calls
namespace Mine

structure Cx where
  prog : Program
  w : World
  T : Heap
  K : Frag
  p : Program
  loose : List PySem.Str
  mg : PySem.Str → Option Value
  mb : PySem.Str → Option Value
  X : K.In T
  TR : TopRead p loose mg mb T
noncomputable abbrev Cx.H (C : Cx) : PW := (C.prog, C.w)
noncomputable abbrev Cx.M (C : Cx) : Model := model C.prog C.w

structure AOk (n : Nat) (A : Around) : Prop where
  hd : A.handled = none
  dp : A.depth + n < recursionLimit
  un : A.units + 8 * n + 100 < cLine

theorem AOk.mono {n n' : Nat} {A : Around} (a : AOk n A) (h : n' ≤ n) : AOk n' A := ⟨a.hd, by have := a.dp; omega, by have := a.un; omega⟩

noncomputable abbrev Loc := PySem.Str → Option AV
noncomputable def upd (ρ : Loc) (x : PySem.Str) (v : AV) : Loc := fun y => if y = x then some v else ρ y
noncomputable abbrev Kv := AV → List AO → Prop

/-- what is handed on behind a tree -/
noncomputable def Post (C : Cx) (L : Addr) (φ : Nat → Addr) (σ : List AO) (s : Shared) (K : Kv) (Q : Value → Shared → Prop) : Prop :=
  ∀ φ' σ' s' v v', K v σ' → Step C.H C.T L φ σ s φ' σ' s' → VRep φ' σ'.length s'.heap v v' → Q v' s'

noncomputable def TrC (C : Cx) (n : Nat) (env : Env) (ρ : Loc) (σ : List AO) (t : Sem Value) (K : Kv) : Prop :=
  ∀ A φ s Q E, AOk n A → Rep C.H C.T φ σ s.heap → Frm C.T φ σ.length s.heap env ρ → Post C env.locals φ σ s K Q → wpAny C.M A t Q E s
noncomputable abbrev EvC (C : Cx) (n : Nat) (env : Env) (ρ : Loc) (σ : List AO) (e : Expr) (K : Kv) : Prop := TrC C n env ρ σ (eval e env) K

/-- a tree over one value, over two -/
noncomputable def Tr1C (C : Cx) (n : Nat) (env : Env) (ρ : Loc) (σ : List AO) (a : AV) (t : Value → Sem Value) (K : Kv) : Prop :=
  ∀ A φ s Q E a', AOk n A → Rep C.H C.T φ σ s.heap → Frm C.T φ σ.length s.heap env ρ → VRep φ σ.length s.heap a a' → Post C env.locals φ σ s K Q → wpAny C.M A (t a') Q E s
noncomputable def Tr2C (C : Cx) (n : Nat) (env : Env) (ρ : Loc) (σ : List AO) (a b : AV) (t : Value → Value → Sem Value) (K : Kv) : Prop :=
  ∀ A φ s Q E a' b', AOk n A → Rep C.H C.T φ σ s.heap → Frm C.T φ σ.length s.heap env ρ → VRep φ σ.length s.heap a a' → VRep φ σ.length s.heap b b' → Post C env.locals φ σ s K Q → wpAny C.M A (t a' b') Q E s
/-- a test -/
noncomputable def BoC (C : Cx) (n : Nat) (env : Env) (ρ : Loc) (σ : List AO) (t : Sem Bool) (K : Bool → List AO → Prop) : Prop :=
  ∀ A φ s Q E, AOk n A → Rep C.H C.T φ σ s.heap → Frm C.T φ σ.length s.heap env ρ → (∀ φ' σ' s' b, K b σ' → Step C.H C.T env.locals φ σ s φ' σ' s' → Q b s') → wpAny C.M A t Q E s
/-- a list of values -/
noncomputable def VsC (C : Cx) (n : Nat) (env : Env) (ρ : Loc) (σ : List AO) (t : Sem (List Value)) (K : List AV → List AO → Prop) : Prop :=
  ∀ A φ s Q E, AOk n A → Rep C.H C.T φ σ s.heap → Frm C.T φ σ.length s.heap env ρ → (∀ φ' σ' s' vs vs', K vs σ' → Step C.H C.T env.locals φ σ s φ' σ' s' → VReps φ' σ'.length s'.heap vs vs' → Q vs' s') → wpAny C.M A t Q E s

variable {C : Cx} {n : Nat} {env : Env} {ρ : Loc} {σ : List AO} {K : Kv}

theorem Post.after {L : Addr} {φ φ₁ : Nat → Addr} {σ₁ : List AO} {s s₁ : Shared} {Q : Value → Shared → Prop} (P : Post C L φ σ s K Q) (S : Step C.H C.T L φ σ s φ₁ σ₁ s₁) : Post C L φ₁ σ₁ s₁ K Q :=
  fun φ' σ' s' v v' hk S' V => P φ' σ' s' v v' hk (S.trans S') V
theorem VRep.step {φ φ₁ : Nat → Addr} {σ₁ : List AO} {s s₁ : Shared} {a : AV} {a' : Value} (V : VRep φ σ.length s.heap a a') (R : Rep C.H C.T φ σ s.heap) (F : Frm C.T φ σ.length s.heap env ρ) (S : Step C.H C.T env.locals φ σ s φ₁ σ₁ s₁) : VRep φ₁ σ₁.length s₁.heap a a' := by
  obtain ⟨m, N, _⟩ := F.ns
  exact V.mono (S.froz R N) S.len S.agree
theorem VReps.step {φ φ₁ : Nat → Addr} {σ₁ : List AO} {s s₁ : Shared} {a : List AV} {a' : List Value} (V : VReps φ σ.length s.heap a a') (R : Rep C.H C.T φ σ s.heap) (F : Frm C.T φ σ.length s.heap env ρ) (S : Step C.H C.T env.locals φ σ s φ₁ σ₁ s₁) : VReps φ₁ σ₁.length s₁.heap a a' := by
  obtain ⟨m, N, _⟩ := F.ns
  exact V.mono (S.froz R N) S.len S.agree

/-- the plainest end: nothing of ours turned -/
theorem Post.tok {L : Addr} {φ : Nat → Addr} {s : Shared} {Q : Value → Shared → Prop} {v : AV} {v' : Value} {tk : Nat} (P : Post C L φ σ s K Q) (R : Rep C.H C.T φ σ s.heap) (hk : K v σ) (V : VRep φ σ.length s.heap v v') : Q v' { s with toks := tk } :=
  P φ σ _ v v' hk (Step.ofTok R) V
theorem Post.now {L : Addr} {φ : Nat → Addr} {s : Shared} {Q : Value → Shared → Prop} {v : AV} {v' : Value} (P : Post C L φ σ s K Q) (R : Rep C.H C.T φ σ s.heap) (hk : K v σ) (V : VRep φ σ.length s.heap v v') : Q v' s :=
  P φ σ _ v v' hk (Step.refl R) V

theorem TrC.mono {t : Sem Value} {K' : Kv} (h : TrC C n env ρ σ t K) (hk : ∀ v σ', K v σ' → K' v σ') : TrC C n env ρ σ t K' :=
  fun A φ s Q E hA R F P => h A φ s Q E hA R F fun φ' σ' s' v v' k S V => P φ' σ' s' v v' (hk _ _ k) S V

theorem ev_int {i : Int} {k : Nat} {pos : Pos} (h : K (.int i) σ) : EvC C n env ρ σ (.Constant (.int i) k pos) K :=
  fun _ _ _ _ _ _ R _ P => wpAny_Constant_int (P.tok R h .int)
theorem ev_bool {b : Bool} {k : Nat} {pos : Pos} (h : K (.bool b) σ) : EvC C n env ρ σ (.Constant (.bool b) k pos) K :=
  fun _ _ _ _ _ _ R _ P => wpAny_Constant_bool (P.now R h .bool)

theorem ev_loc {x : PySem.Str} {pos : Pos} {v : AV} (hv : ρ x = some v) (h : K v σ) (hl : env.kindOf x = some .local) (hk : env.scope.kind = .function) (hd : (x == ("__debug__" : PySem.Str)) = false) :
    EvC C n env ρ σ (.Name x pos) K := fun _ _ _ _ _ _ R F P => by
  obtain ⟨m, N, hm⟩ := F.ns
  obtain ⟨v', h1, h2⟩ := hm x v hv hl
  exact wpAny_Name (wpAny_loadName_local hk hl N h1 (P.now R h h2)) hd
theorem ev_cell {x : PySem.Str} {pos : Pos} {v : AV} (hv : ρ x = some v) (h : K v σ) (hl : env.kindOf x = some .cell) (hk : env.scope.kind = .function) (hd : (x == ("__debug__" : PySem.Str)) = false) :
    EvC C n env ρ σ (.Name x pos) K := fun _ _ _ _ _ _ R F P => by
  obtain ⟨c, v', h1, h2, h3⟩ := F.cl x v hv (.inl hl)
  exact wpAny_Name (wpAny_loadName_cell hk hl h1 h2 (P.now R h h3)) hd
theorem ev_free {x : PySem.Str} {pos : Pos} {v : AV} (hv : ρ x = some v) (h : K v σ) (hl : env.kindOf x = some .free) (hk : env.scope.kind = .function) (hd : (x == ("__debug__" : PySem.Str)) = false) (hd' : (x == ("__classdict__" : PySem.Str)) = false) :
    EvC C n env ρ σ (.Name x pos) K := fun _ _ _ _ _ _ R F P => by
  obtain ⟨c, v', h1, h2, h3⟩ := F.cl x v hv (.inr hl)
  exact wpAny_Name (wpAny_loadName_free hk hl h1 h2 (P.now R h h3) hd') hd

theorem Rep.Kin {φ : Nat → Addr} {h : Heap} (R : Rep C.H C.T φ σ h) : C.K.In h := C.X.keeps R.top

theorem ev_globV {x : PySem.Str} {pos : Pos} {v : Value} {a : AV} (e : nsIn C.K mainGlobals x = some (some v)) (ha : ∀ φ m h, C.K.In h → VRep φ m h a v) (h : K a σ) (hg : env.globals = mainGlobals) (hk : env.scope.kind = .function) (hl : env.kindOf x = some .globalImplicit) (hd : (x == ("__debug__" : PySem.Str)) = false) :
    EvC C n env ρ σ (.Name x pos) K := fun _ _ _ _ _ _ R _ P =>
  Name_function_global hk hl (loadGlobal_global (env := env) (by rw [hg]; exact C.TR.g.keeps R.top) (mg_of C.X C.TR.g e) (P.now R h (ha _ _ _ R.Kin))) hd
theorem ev_glob {x : PySem.Str} {pos : Pos} {v : Value} (e : nsIn C.K mainGlobals x = some (some v)) (h : K (.top v) σ) (hg : env.globals = mainGlobals) (hk : env.scope.kind = .function) (hl : env.kindOf x = some .globalImplicit) (hd : (x == ("__debug__" : PySem.Str)) = false) :
    EvC C n env ρ σ (.Name x pos) K := ev_globV e (fun _ _ _ _ => .top) h hg hk hl hd
theorem ev_blt {x : PySem.Str} {pos : Pos} {v : Value} (e : nsIn C.K mainGlobals x = some none) (hv : bootBuiltins x = some v) (hn : x ≠ "__name__") (h : K (.top v) σ) (hg : env.globals = mainGlobals) (hb : env.builtins = builtinsNs) (hk : env.scope.kind = .function) (hl : env.kindOf x = some .globalImplicit) (hd : (x == ("__debug__" : PySem.Str)) = false) :
    EvC C n env ρ σ (.Name x pos) K := fun _ _ _ _ _ _ R _ P =>
  Name_function_global hk hl (loadGlobal_builtin (env := env) (by rw [hg]; exact C.TR.g.keeps R.top) (mg_none_of C.X C.TR.g e) (by rw [hb]; exact C.TR.b.keeps R.top) ((C.TR.builtins x hn).trans hv) (P.now R h .top)) hd

/-! two operands -/
noncomputable def BinC (C : Cx) (n : Nat) (env : Env) (ρ : Loc) (op : Operator) (a b : AV) (σ : List AO) (K : Kv) : Prop := Tr2C C n env ρ σ a b (binaryOp op) K
noncomputable def CmpC (C : Cx) (n : Nat) (env : Env) (ρ : Loc) (op : CmpOp) (a b : AV) (σ : List AO) (K : Kv) : Prop := Tr2C C n env ρ σ a b (compareOp op) K

theorem ev_bin {l r : Expr} {op : Operator} {pos : Pos} (h : EvC C n env ρ σ l fun a σ₁ => EvC C n env ρ σ₁ r fun b σ₂ => BinC C n env ρ op a b σ₂ K) : EvC C n env ρ σ (.BinOp l op r pos) K := by
  intro A φ s Q E hA R F P
  refine wpAny_BinOp (h A φ s _ E hA R F ?_)
  intro φ₁ σ₁ s₁ a a' ha S₁ Va
  have F₁ := F.step R S₁
  refine ha A φ₁ s₁ _ E hA S₁.rep F₁ ?_
  intro φ₂ σ₂ s₂ b b' hb S₂ Vb
  exact hb A φ₂ s₂ Q E a' b' hA S₂.rep (F₁.step S₁.rep S₂) (Va.step S₁.rep F₁ S₂) Vb (P.after (S₁.trans S₂))
theorem ev_cmp {l r : Expr} {op : CmpOp} {pos : Pos} (h : EvC C n env ρ σ l fun a σ₁ => EvC C n env ρ σ₁ r fun b σ₂ => CmpC C n env ρ op a b σ₂ K) (hm : behindInMarks op r = false) : EvC C n env ρ σ (.Compare l [op] [r] pos) K := by
  intro A φ s Q E hA R F P
  refine wpAny_Compare1 (h A φ s _ E hA R F ?_) hm
  intro φ₁ σ₁ s₁ a a' ha S₁ Va
  have F₁ := F.step R S₁
  refine ha A φ₁ s₁ _ E hA S₁.rep F₁ ?_
  intro φ₂ σ₂ s₂ b b' hb S₂ Vb
  exact hb A φ₂ s₂ Q E a' b' hA S₂.rep (F₁.step S₁.rep S₂) (Va.step S₁.rep F₁ S₂) Vb (P.after (S₁.trans S₂))
theorem ev_neg {x : Expr} {pos : Pos} (h : EvC C n env ρ σ x fun a σ₁ => ∃ i, a = .int i ∧ K (.int (-i)) σ₁) : EvC C n env ρ σ (.UnaryOp .USub x pos) K := by
  intro A φ s Q E hA R F P
  refine wpAny_UnaryOp (h A φ s _ E hA R F ?_)
  rintro φ₁ σ₁ s₁ a a' ⟨i, rfl, hk⟩ S₁ Va
  cases Va
  exact neg_int ((P.after S₁).tok S₁.rep hk .int)

theorem bin_add {i j : Int} (h : K (.int (i + j)) σ) : BinC C n env ρ .Add (.int i) (.int j) σ K := by
  intro A φ s Q E a' b' hA R F Va Vb P
  cases Va; cases Vb
  exact add_int (P.tok R h .int)
theorem bin_sub {i j : Int} (h : K (.int (i - j)) σ) : BinC C n env ρ .Sub (.int i) (.int j) σ K := by
  intro A φ s Q E a' b' hA R F Va Vb P
  cases Va; cases Vb
  exact sub_int (P.tok R h .int)
theorem bin_mul {i j : Int} (hm : IntMulOk i j) (h : K (.int (i * j)) σ) : BinC C n env ρ .Mult (.int i) (.int j) σ K := by
  intro A φ s Q E a' b' hA R F Va Vb P
  cases Va; cases Vb
  exact mul_int (P.tok R h .int) hm
theorem bin_div {i j : Int} (hj : j ≠ 0) (hp : Builtin.divisionGoesByPylong i j = false) (h : K (.int (i.fdiv j)) σ) : BinC C n env ρ .FloorDiv (.int i) (.int j) σ K := by
  intro A φ s Q E a' b' hA R F Va Vb P
  cases Va; cases Vb
  exact floordiv_int hj (P.tok R h .int) (.inl hp)
theorem bin_mod {i j : Int} (hj : j ≠ 0) (h : K (.int (i.fmod j)) σ) : BinC C n env ρ .Mod (.int i) (.int j) σ K := by
  intro A φ s Q E a' b' hA R F Va Vb P
  cases Va; cases Vb
  exact mod_int' hj (P.tok R h .int)

theorem cmp_lt {i j : Int} (h : K (.bool (decide (i < j))) σ) : CmpC C n env ρ .Lt (.int i) (.int j) σ K := by
  intro A φ s Q E a' b' hA R F Va Vb P
  cases Va; cases Vb
  exact lt_int (P.now R h .bool)
theorem cmp_le {i j : Int} (h : K (.bool (decide (i ≤ j))) σ) : CmpC C n env ρ .LtE (.int i) (.int j) σ K := by
  intro A φ s Q E a' b' hA R F Va Vb P
  cases Va; cases Vb
  exact le_int (P.now R h .bool)
theorem cmp_gt {i j : Int} (h : K (.bool (decide (i > j))) σ) : CmpC C n env ρ .Gt (.int i) (.int j) σ K := by
  intro A φ s Q E a' b' hA R F Va Vb P
  cases Va; cases Vb
  exact gt_int (P.now R h .bool)
theorem cmp_ge {i j : Int} (h : K (.bool (decide (i ≥ j))) σ) : CmpC C n env ρ .GtE (.int i) (.int j) σ K := by
  intro A φ s Q E a' b' hA R F Va Vb P
  cases Va; cases Vb
  exact ge_int (P.now R h .bool)
theorem cmp_eq {i j : Int} (h : K (.bool (i == j)) σ) : CmpC C n env ρ .Eq (.int i) (.int j) σ K := by
  intro A φ s Q E a' b' hA R F Va Vb P
  cases Va; cases Vb
  exact eq_int (P.now R h .bool)
theorem cmp_ne {i j : Int} (h : K (.bool (i != j)) σ) : CmpC C n env ρ .NotEq (.int i) (.int j) σ K := by
  intro A φ s Q E a' b' hA R F Va Vb P
  cases Va; cases Vb
  exact ne_int (P.now R h .bool)
end Mine
end

/-! VEx -/
section
open PySem PySem.W PyProof.Rows PySem.Calls
namespace Mine
variable {C : Cx} {n : Nat} {env : Env} {ρ : Loc} {σ : List AO} {K : Kv}

theorem Frm.len {φ : Nat → Addr} {h : Heap} (F : Frm C.T φ n h env ρ) : env.locals < h.objs.size := by
  obtain ⟨m, ⟨o, es, ep, e, _⟩, _⟩ := F.ns
  exact Heap.lt_size e
theorem Rep.topsize {φ : Nat → Addr} {h : Heap} {s : Shared} (_R : Rep C.H C.T φ σ s.heap) (F : Frm C.T φ σ.length s.heap env ρ) : C.T.objs.size ≤ s.heap.objs.size := Nat.le_of_lt (Nat.lt_of_le_of_lt F.low F.len)

/-! a new object of ours -/
noncomputable def put (φ : Nat → Addr) (k : Nat) (a : Addr) : Nat → Addr := fun i => if i = k then a else φ i

theorem Step.alloc {L : Addr} {φ : Nat → Addr} {s : Shared} {o : Obj} {ao : AO} {tk : Nat} (R : Rep C.H C.T φ σ s.heap) (hT : C.T.objs.size ≤ s.heap.objs.size)
    (hf : o.isFreed = false) (ho : ORep C.H (put φ σ.length s.heap.objs.size) (σ.length + 1) (s.heap.push o) s.heap.objs.size ao) :
    Step C.H C.T L φ σ s (put φ σ.length s.heap.objs.size) (σ ++ [ao]) { s with heap := s.heap.push o, toks := tk } := by
  have hk : ∀ b x, s.heap.get? b = some x → (s.heap.push o).get? b = some x := fun b x e => Heap.get?_push_of_some _ e
  have hag : ∀ k, k < σ.length → put φ σ.length s.heap.objs.size k = φ k := fun k hk => by unfold put; rw [if_neg (Nat.ne_of_lt hk)]
  have hself : put φ σ.length s.heap.objs.size σ.length = s.heap.objs.size := by unfold put; rw [if_pos rfl]
  have hlen : (σ ++ [ao]).length = σ.length + 1 := by simp
  refine ⟨⟨rfl, hag, by simp, ⟨fun b x e => hk b x (R.top b x e), fun k h => ?_, fun i j hi hj e => ?_, fun k x e => ?_⟩, fun b x e _ _ => hk b x e, fun k h1 h2 => ?_, fun b x e => ⟨x, hk b x e⟩⟩, fun m ⟨x, es, ep, e, r⟩ => ⟨x, es, ep, hk _ _ e, r⟩⟩
  · rw [hlen] at h
    by_cases q : k = σ.length
    · subst q; rw [hself]; exact hT
    · rw [hag k (by omega)]; exact R.low k (by omega)
  · rw [hlen] at hi hj
    by_cases p : i = σ.length <;> by_cases q : j = σ.length
    · rw [p, q]
    · subst p; rw [hself, hag j (by omega)] at e
      exact absurd (R.lt (k := j) (by omega)) (by rw [← e]; exact Nat.lt_irrefl _)
    · subst q; rw [hself, hag i (by omega)] at e
      exact absurd (R.lt (k := i) (by omega)) (by rw [e]; exact Nat.lt_irrefl _)
    · rw [hag i (by omega), hag j (by omega)] at e; exact R.inj i j (by omega) (by omega) e
  · rw [hlen]
    by_cases q : k < σ.length
    · rw [List.getElem?_append_left q] at e
      rw [hag k q]
      exact (R.obj k x e).mono (fun b x e _ => hk b x e) (Nat.le_succ _) hag (fun x e => hk _ x e)
    · rw [List.getElem?_append_right (Nat.le_of_not_lt q)] at e
      have hkk : k = σ.length := by
        cases hz : k - σ.length with
        | zero => omega
        | succ z => rw [hz] at e; simp at e
      subst hkk
      rw [Nat.sub_self] at e
      cases e
      rw [hself]; exact ho
  · rw [hlen] at h2
    have : k = σ.length := by omega
    subst this; rw [hself]
    cases h4 : s.heap.get? s.heap.objs.size with
    | none => rfl
    | some o => exact absurd (Heap.lt_size h4) (Nat.lt_irrefl _)

/-- a new thing that is not ours: a tuple, a range, a table of the machine's -/
theorem Step.push {L : Addr} {φ : Nat → Addr} {s : Shared} {o : Obj} {tk : Nat} (R : Rep C.H C.T φ σ s.heap) : Step C.H C.T L φ σ s φ σ { s with heap := s.heap.push o, toks := tk } :=
  Step.ofKeep R (fun b x e => Heap.get?_push_of_some _ e)

/-! values in a row -/
theorem vs_nil {pos : Pos} {K' : List AV → List AO → Prop} (h : K' [] σ) : VsC C n env ρ σ (spliced (backTo pos (starEach [] env))) K' :=
  fun A φ s Q E _ R _ P => wpAny_items_nil (P φ σ s [] [] h (Step.refl R) .nil)
theorem vs_cons {pos : Pos} {e : Expr} {rest : List Expr} {K' : List AV → List AO → Prop} (h : EvC C n env ρ σ e fun v σ₁ => VsC C n env ρ σ₁ (spliced (backTo pos (starEach rest env))) fun vs σ₂ => K' (v :: vs) σ₂)
    (he : starEach (e :: rest) env = (false, eval e env) :: starEach rest env) : VsC C n env ρ σ (spliced (backTo pos (starEach (e :: rest) env))) K' := by
  intro A φ s Q E hA R F P
  refine wpAny_items_cons (h A φ s _ E hA R F ?_) he
  intro φ₁ σ₁ s₁ v v' hv S₁ V₁
  have F₁ := F.step R S₁
  refine hv A φ₁ s₁ _ E hA S₁.rep F₁ ?_
  intro φ₂ σ₂ s₂ vs vs' hvs S₂ V₂
  exact P φ₂ σ₂ s₂ _ _ hvs (S₁.trans S₂) (.cons (V₁.step S₁.rep F₁ S₂) V₂)

theorem ev_tuple {elts : List Expr} {k : Nat} {pos : Pos} (h : VsC C n env ρ σ (spliced (backTo pos (starEach elts env))) fun vs σ₁ => vs.length ≤ 4096 ∧ K (.tup vs) σ₁) : EvC C n env ρ σ (.Tuple elts k pos) K := by
  intro A φ s Q E hA R F P
  refine wpAny_Tuple (h A φ s _ E hA R F ?_)
  intro φ₁ σ₁ s₁ vs vs' hv S₁ V₁
  refine ⟨by rw [← V₁.length, sizeLine_eq]; have := hv.1; omega, ?_⟩
  have S₂ : Step C.H C.T env.locals φ₁ σ₁ s₁ φ₁ σ₁ { s₁ with heap := s₁.heap.push { cls := Value.type "tuple", data := Data.seq vs'.toArray } } := Step.push S₁.rep
  exact P φ₁ σ₁ _ _ _ hv.2 (S₁.trans S₂) (.tup (Heap.get?_push_size _ rfl) rfl rfl (V₁.step S₁.rep (F.step R S₁) S₂))

theorem ev_list {elts : List Expr} {pos : Pos} (h : VsC C n env ρ σ (spliced (backTo pos (starEach elts env))) fun vs σ₁ => vs.length ≤ 4096 ∧ K (.ref σ₁.length) (σ₁ ++ [.list vs])) : EvC C n env ρ σ (.List elts pos) K := by
  intro A φ s Q E hA R F P
  refine wpAny_List (h A φ s _ E hA R F ?_)
  intro φ₁ σ₁ s₁ vs vs' hv S₁ V₁
  refine ⟨by rw [← V₁.length, sizeLine_eq]; have := hv.1; omega, ?_⟩
  have F₁ := F.step R S₁
  have S₂ : Step C.H C.T env.locals φ₁ σ₁ s₁ (put φ₁ σ₁.length s₁.heap.objs.size) (σ₁ ++ [.list vs]) { s₁ with heap := s₁.heap.push { cls := Value.type "list", data := Data.seq vs'.toArray } } :=
    Step.alloc S₁.rep (S₁.rep.topsize (h := s₁.heap) F₁) rfl ⟨vs', 0, Heap.get?_push_size _ rfl, V₁.mono (fun b x e _ => Heap.get?_push_of_some _ e) (Nat.le_succ _) (fun k hk => by unfold put; rw [if_neg (Nat.ne_of_lt hk)]), hv.1⟩
  refine P _ _ _ _ _ hv.2 (S₁.trans S₂) ?_
  have := VRep.ref (φ := put φ₁ σ₁.length s₁.heap.objs.size) (n := (σ₁ ++ [AO.list vs]).length) (h := s₁.heap.push { cls := Value.type "list", data := Data.seq vs'.toArray }) (k := σ₁.length) (by simp)
  have e : put φ₁ σ₁.length s₁.heap.objs.size σ₁.length = s₁.heap.objs.size := by unfold put; rw [if_pos rfl]
  rw [e] at this; exact this

/-! tests -/
noncomputable abbrev Kb := Bool → List AO → Prop
theorem bo_val {e : Expr} {K' : Kb} (h : EvC C n env ρ σ e fun v σ₁ => ∃ b, v = .bool b ∧ K' b σ₁) (he : PySem.isTrue e env (eval e env) = (do let v ← eval e env; standAt e.pos; holding [v] (truthy v))) : BoC C n env ρ σ (PySem.isTrue e env (eval e env)) K' := by
  intro A φ s Q E hA R F P
  refine wpAny_isTrue_value (h A φ s _ E hA R F ?_) he
  rintro φ₁ σ₁ s₁ v v' ⟨b, rfl, hk⟩ S₁ V
  cases V
  exact wpAny_truthy_bool (P _ _ _ _ hk S₁)
theorem bo_cmp {l r : Expr} {op : CmpOp} {pos : Pos} {whole : Sem Value} {K' : Kb} (h : EvC C n env ρ σ l fun a σ₁ => EvC C n env ρ σ₁ r fun b σ₂ => CmpC C n env ρ op a b σ₂ fun v σ₃ => ∃ t, v = .bool t ∧ K' t σ₃) (hm : behindInMarks op r = false) :
    BoC C n env ρ σ (PySem.isTrue (.Compare l [op] [r] pos) env whole) K' := by
  intro A φ s Q E hA R F P
  refine wpAny_isTrue_Compare1 (h A φ s _ E hA R F ?_) hm
  intro φ₁ σ₁ s₁ a a' ha S₁ Va
  have F₁ := F.step R S₁
  refine ha A φ₁ s₁ _ E hA S₁.rep F₁ ?_
  intro φ₂ σ₂ s₂ b b' hb S₂ Vb
  refine hb A φ₂ s₂ _ E a' b' hA S₂.rep (F₁.step S₁.rep S₂) (Va.step S₁.rep F₁ S₂) Vb ?_
  rintro φ₃ σ₃ s₃ v v' ⟨t, rfl, hk⟩ S₃ V
  cases V
  exact wpAny_truthy_bool (P _ _ _ _ hk ((S₁.trans S₂).trans S₃))
theorem bo_chain {l r₁ r₂ : Expr} {op₁ op₂ : CmpOp} {pos : Pos} {whole : Sem Value} {K' : Kb}
    (h : EvC C n env ρ σ l fun a σ₁ => EvC C n env ρ σ₁ r₁ fun b σ₂ => CmpC C n env ρ op₁ a b σ₂ fun v σ₃ => ∃ t, v = .bool t ∧ (t = false → K' false σ₃) ∧ (t = true → EvC C n env ρ σ₃ r₂ fun c σ₄ => CmpC C n env ρ op₂ b c σ₄ fun v σ₅ => ∃ t, v = .bool t ∧ K' t σ₅))
    (hm : lastMarks [op₁, op₂] [r₁, r₂] = false) : BoC C n env ρ σ (PySem.isTrue (.Compare l [op₁, op₂] [r₁, r₂] pos) env whole) K' := by
  intro A φ s Q E hA R F P
  refine isTrue_chain (h A φ s _ E hA R F ?_) hm
  intro φ₁ σ₁ s₁ a a' ha S₁ Va
  have F₁ := F.step R S₁
  show wpAny _ _ (do
    let rv ← holding [a'] (eval r₁ env)
    standAt pos
    let c ← holding [a', rv] (compareOp op₁ a' rv)
    release [a', rv] [c]
    if ← holding [c, rv] (truthy c) then testChain pos rv [op₂] [eval r₂ env] else pure false) _ _ _
  refine wpAny_bind (wpAny_holding (ha A φ₁ s₁ _ E hA S₁.rep F₁ ?_))
  intro φ₂ σ₂ s₂ b b' hb S₂ Vb
  have F₂ := F₁.step S₁.rep S₂
  refine wpAny_bind (wpAny_standAt (wpAny_bind (wpAny_holding (hb A φ₂ s₂ _ E a' b' hA S₂.rep F₂ (Va.step S₁.rep F₁ S₂) Vb ?_))))
  rintro φ₃ σ₃ s₃ v v' ⟨t, rfl, hf, ht⟩ S₃ V
  cases V
  have S' := (S₁.trans S₂).trans S₃
  refine wpAny_bind (wpAny_release (wpAny_bind (wpAny_holding (wpAny_truthy_bool ?_))))
  cases t with
  | false => exact wpAny_pure (P _ _ _ _ (hf rfl) S')
  | true =>
    have F₃ := F₂.step S₂.rep S₃
    show wpAny _ _ (do
      let rv ← holding [b'] (eval r₂ env)
      standAt pos
      let c ← operate [b', rv] (compareOp op₂ b' rv)
      holding [c] (truthy c)) _ _ _
    refine wpAny_bind (wpAny_holding (ht rfl A φ₃ s₃ _ E hA S₃.rep F₃ ?_))
    intro φ₄ σ₄ s₄ c c' hc S₄ Vc
    have F₄ := F₃.step S₃.rep S₄
    refine wpAny_bind (wpAny_standAt (wpAny_bind (wpAny_operating (hc A φ₄ s₄ _ E b' c' hA S₄.rep F₄ ((Vb.step S₂.rep F₂ S₃).step S₃.rep F₃ S₄) Vc ?_))))
    rintro φ₅ σ₅ s₅ v v' ⟨t, rfl, hk⟩ S₅ V
    cases V
    exact wpAny_holding (wpAny_truthy_bool (P _ _ _ _ hk ((S'.trans S₄).trans S₅)))
theorem bo_not {x : Expr} {pos : Pos} {whole : Sem Value} {K' : Kb} (h : BoC C n env ρ σ (PySem.isTrue x env (eval x env)) fun b σ₁ => K' (!b) σ₁) : BoC C n env ρ σ (PySem.isTrue (.UnaryOp .Not x pos) env whole) K' :=
  fun A φ s Q E hA R F P => wpAny_isTrue_Not (h A φ s _ E hA R F fun φ₁ σ₁ s₁ b hb S₁ => P _ _ _ _ hb S₁)
theorem bo_and {x y : Expr} {pos : Pos} {whole : Sem Value} {K' : Kb} (h : BoC C n env ρ σ (PySem.isTrue x env (eval x env)) fun b σ₁ => (b = false → K' false σ₁) ∧ (b = true → BoC C n env ρ σ₁ (PySem.isTrue y env (eval y env)) K')) :
    BoC C n env ρ σ (PySem.isTrue (.BoolOp .And [x, y] pos) env whole) K' := fun A φ s Q E hA R F P =>
  wpAny_isTrue_BoolOp (wpAny_allTrue_And_cons (h A φ s _ E hA R F fun φ₁ σ₁ s₁ b hb S₁ => by
    cases b with
    | false => exact P _ _ _ _ (hb.1 rfl) S₁
    | true => exact wpAny_allTrue_And_cons (hb.2 rfl A φ₁ s₁ _ E hA S₁.rep (F.step R S₁) fun φ₂ σ₂ s₂ b hb S₂ => by
        cases b with
        | false => exact P _ _ _ _ hb (S₁.trans S₂)
        | true => exact wpAny_allTrue_And_nil (P _ _ _ _ hb (S₁.trans S₂)))))
theorem bo_or {x y : Expr} {pos : Pos} {whole : Sem Value} {K' : Kb} (h : BoC C n env ρ σ (PySem.isTrue x env (eval x env)) fun b σ₁ => (b = true → K' true σ₁) ∧ (b = false → BoC C n env ρ σ₁ (PySem.isTrue y env (eval y env)) K')) :
    BoC C n env ρ σ (PySem.isTrue (.BoolOp .Or [x, y] pos) env whole) K' := fun A φ s Q E hA R F P =>
  wpAny_isTrue_BoolOp (wpAny_allTrue_Or_cons (h A φ s _ E hA R F fun φ₁ σ₁ s₁ b hb S₁ => by
    cases b with
    | true => exact P _ _ _ _ (hb.1 rfl) S₁
    | false => exact wpAny_allTrue_Or_cons (hb.2 rfl A φ₁ s₁ _ E hA S₁.rep (F.step R S₁) fun φ₂ σ₂ s₂ b hb S₂ => by
        cases b with
        | true => exact P _ _ _ _ hb (S₁.trans S₂)
        | false => exact wpAny_allTrue_Or_nil (P _ _ _ _ hb (S₁.trans S₂)))))
theorem ev_ite {test body orelse : Expr} {pos : Pos} (h : BoC C n env ρ σ (PySem.isTrue test env (eval test env)) fun b σ₁ => (b = true → EvC C n env ρ σ₁ body K) ∧ (b = false → EvC C n env ρ σ₁ orelse K)) : EvC C n env ρ σ (.IfExp test body orelse pos) K :=
  fun A φ s Q E hA R F P => wpAny_IfExp (h A φ s _ E hA R F fun φ₁ σ₁ s₁ b hb S₁ => by
    cases b with
    | true => exact hb.1 rfl A φ₁ s₁ Q E hA S₁.rep (F.step R S₁) (P.after S₁)
    | false => exact hb.2 rfl A φ₁ s₁ Q E hA S₁.rep (F.step R S₁) (P.after S₁))

/-! an item -/
noncomputable def SubC (C : Cx) (n : Nat) (env : Env) (ρ : Loc) (value slice : Expr) (a i : AV) (σ : List AO) (K : Kv) : Prop := Tr2C C n env ρ σ a i (subscriptTail value slice) K
theorem ev_sub {value slice : Expr} {pos : Pos} (h : EvC C n env ρ σ value fun a σ₁ => EvC C n env ρ σ₁ slice fun i σ₂ => SubC C n env ρ value slice a i σ₂ K) : EvC C n env ρ σ (.Subscript value slice pos) K := by
  intro A φ s Q E hA R F P
  refine Subscript_ (h A φ s _ E hA R F ?_)
  intro φ₁ σ₁ s₁ a a' ha S₁ Va
  have F₁ := F.step R S₁
  refine ha A φ₁ s₁ _ E hA S₁.rep F₁ ?_
  intro φ₂ σ₂ s₂ b b' hb S₂ Vb
  exact hb A φ₂ s₂ Q E a' b' hA S₂.rep (F₁.step S₁.rep S₂) (Va.step S₁.rep F₁ S₂) Vb (P.after (S₁.trans S₂))

noncomputable def PlainSlice (slice : Expr) : Prop := ∀ o i, subscripted slice false o i = operate [o, i] (getItem o i)

theorem Rep.list {φ : Nat → Addr} {h : Heap} (R : Rep C.H C.T φ σ h) {k : Nat} {vs : List AV} (e : σ[k]? = some (.list vs)) : ∃ items, h.IsList (φ k) items.toArray ∧ VReps φ σ.length h vs items ∧ vs.length ≤ 4096 := by
  obtain ⟨items, ep, h1, h2, h3⟩ := R.obj k _ e
  exact ⟨items, ⟨_, h1, rfl, ep, rfl⟩, h2, h3⟩

theorem sub_list {value slice : Expr} {k : Nat} {vs : List AV} {j : Int} {v : AV} (e : σ[k]? = some (.list vs)) (h0 : 0 ≤ j) (hj : vs[j.toNat]? = some v) (h : K v σ) (hs : PlainSlice slice) : SubC C n env ρ value slice (.ref k) (.int j) σ K := by
  intro A φ s Q E a' b' hA R F Va Vb P
  cases Va; cases Vb
  obtain ⟨items, hl, hv, hn⟩ := R.list e
  obtain ⟨v', h1, h2⟩ := hv.get hj
  have hlt : j.toNat < vs.length := (List.getElem?_eq_some_iff.mp hj).1
  exact tail_any hl.typeIs slot_list_getitem.lookup (wpAny_getItem_list hl h0 (by omega) (by simpa using h1) (P.now R h h2)) (hs _ _)
theorem sub_last {value slice : Expr} {k : Nat} {vs : List AV} {j : Int} {v : AV} (e : σ[k]? = some (.list vs)) (h0 : j < 0) (hj : 0 ≤ j + vs.length) (hv : vs[(j + vs.length).toNat]? = some v) (h : K v σ) (hs : PlainSlice slice) : SubC C n env ρ value slice (.ref k) (.int j) σ K := by
  intro A φ s Q E a' b' hA R F Va Vb P
  cases Va; cases Vb
  obtain ⟨items, hl, hvs, hn⟩ := R.list e
  obtain ⟨v', h1, h2⟩ := hvs.get hv
  have hsz : items.length = vs.length := hvs.length.symm
  exact tail_any hl.typeIs slot_list_getitem.lookup (wpAny_getItem_list_neg hl h0 (by simp only [List.size_toArray]; omega) (by omega) (by simp only [List.size_toArray, hsz]; simpa using h1) (P.now R h h2)) (hs _ _)
theorem sub_tup {value slice : Expr} {vs : List AV} {j : Int} {i : Nat} {v : AV} (hj : seqIndex? j vs.length = some i) (h0 : -4096 ≤ j) (h1 : j ≤ 4096) (hv : vs[i]? = some v) (h : K v σ) (hs : PlainSlice slice) : SubC C n env ρ value slice (.tup vs) (.int j) σ K := by
  intro A φ s Q E a' b' hA R F Va Vb P
  cases Vb
  cases Va with
  | tup e c d r =>
    obtain ⟨v', h2, h3⟩ := r.get hv
    have ht : IsTup s.heap _ _ := ⟨_, e, c, _, d⟩
    exact tail_any ht.typeIs slot_tuple_getitem.lookup (getItem_tuple ht (by omega) (by omega) (by simp only [List.size_toArray, ← r.length]; exact hj) (by simpa using h2) (P.now R h h3)) (hs _ _)

/-! calls: the callee, the arguments, the call itself -/
noncomputable def CallC (C : Cx) (n : Nat) (env : Env) (ρ : Loc) (σ : List AO) (f : AV) (vs : List AV) (K : Kv) : Prop :=
  ∀ A φ s Q E f' vs', AOk n A → Rep C.H C.T φ σ s.heap → Frm C.T φ σ.length s.heap env ρ → VRep φ σ.length s.heap f f' → VReps φ σ.length s.heap vs vs' → Post C env.locals φ σ s K Q → wpAny C.M A (PySem.call f' vs') Q E s

theorem evs_any (pos : Pos) (env : Env) : ∀ rest : List Expr, (∀ e ∈ rest, starEach [e] env = [(false, eval e env)]) → (backTo pos (starEach rest env)).any (·.1) = false := by
  intro rest h
  have key : ∀ rest : List Expr, (∀ e ∈ rest, starEach [e] env = [(false, eval e env)]) → ∀ p ∈ starEach rest env, p.1 = false := by
    intro rest
    induction rest with
    | nil => intro _ p hp; cases hp
    | cons e r ih =>
      intro h p hp
      have he := h e List.mem_cons_self
      have : starEach (e :: r) env = (false, eval e env) :: starEach r env := by
        cases e <;> first | rfl | (exfalso; simp [starEach] at he)
      rw [this] at hp
      rcases List.mem_cons.mp hp with rfl | hp
      · rfl
      · exact ih (fun e he => h e (List.mem_cons_of_mem _ he)) p hp
  rw [List.any_eq_false]
  intro p hp
  unfold backTo at hp
  obtain ⟨q, hq, rfl⟩ := List.mem_map.mp hp
  simp [key rest h q hq]

noncomputable def canCall (K : Frag) (f : Value) : Bool := match f with
  | .type _ => true
  | .builtin _ => true
  | f => keepIn K f
theorem callW {A : Around} {E : Value → Shared → Prop} {Q : Value → Shared → Prop} {s : Shared} {pos : Pos} {f : Value} {first : List Value} {args : List Expr} (hK : C.K.In s.heap) (hk : canCall C.K f = true) (hstar : ∀ e ∈ args, starEach [e] env = [(false, eval e env)])
    (h : wpAny C.M A (spliced (backTo pos (starEach args env))) (fun vs s₂ => C.K.In s₂.heap ∧ wpAny C.M A (PySem.call f (first ++ vs)) Q E s₂) E s) : wpAny C.M A (callWith pos f first (backTo pos (starEach args env)) []) Q E s := by
  have hp := evs_any pos env args hstar
  have hcons : ∀ e rest, args = e :: rest → starEach (e :: rest) env = (false, eval e env) :: starEach rest env := fun e rest q => by
    have := hstar e (by rw [q]; exact List.mem_cons_self)
    cases e <;> first | rfl | (exfalso; simp [starEach] at this)
  have h' : wpAny C.M A (spliced (backTo pos (starEach args env))) (fun vs s₂ => wpAny C.M A (PySem.call f (first ++ vs)) Q E s₂) E s := wpAny_mono h (fun _ _ x => x.2) fun _ _ x => x
  have hev : ∀ f', f' = f → wpAny C.M A (evalArgs f' true (backTo pos (starEach args env)) []) (fun a s₁ => wpAny C.M A (PySem.call f (first ++ a.pos) a.kw) Q E s₁) E s := fun f' _ => by
    cases args with
    | nil =>
      have h0 : wpAny C.M A (pure []) (fun vs s₂ => wpAny C.M A (PySem.call f (first ++ vs)) Q E s₂) E s := h'
      exact evalArgs_nil3 (Q := fun a s₁ => wpAny C.M A (PySem.call f (first ++ a.pos) a.kw) Q E s₁) (fun Γ p hΓ => h0 Γ p hΓ Γ p hΓ)
    | cons e rest =>
      rw [hcons e rest rfl] at h' ⊢
      exact Calls.evalArgs_plain h'
  unfold canCall at hk
  split at hk
  · exact PySem.callWith_type hp (hev _ rfl)
  · exact Calls.callWith_builtin hp (hev _ rfl)
  · cases args with
    | nil => exact callWith_K0 hK hk (by have := h; rw [show spliced (backTo pos (starEach [] env)) = pure [] from rfl] at this; exact fun Γ p hΓ => (this Γ p hΓ).2 Γ p hΓ)
    | cons e rest => exact callWith_K C.X hk h (hcons e rest rfl) (evs_any pos env rest fun e he => hstar e (List.mem_cons_of_mem _ he))

theorem ev_call {x : PySem.Str} {p pos : Pos} {args : List Expr} {f : Value} (hk : canCall C.K f = true)
    (h : EvC C n env ρ σ (.Name x p) fun fv σ₁ => fv = .top f ∧ VsC C n env ρ σ₁ (spliced (backTo pos (starEach args env))) fun vs σ₂ => CallC C n env ρ σ₂ (.top f) vs K)
    (hstar : ∀ e ∈ args, starEach [e] env = [(false, eval e env)]) : EvC C n env ρ σ (.Call (.Name x p) args [] pos) K := by
  intro A φ s Q E hA R F P
  refine wpAny_Call_NameR (h A φ s _ E hA R F ?_)
  rintro φ₁ σ₁ s₁ fv f' ⟨rfl, ha⟩ S₁ Vf
  cases Vf
  have F₁ := F.step R S₁
  refine callW S₁.rep.Kin hk hstar (ha A φ₁ s₁ _ E hA S₁.rep F₁ ?_)
  intro φ₂ σ₂ s₂ vs vs' hv S₂ V₂
  exact ⟨S₂.rep.Kin, hv A φ₂ s₂ Q E f vs' hA S₂.rep (F₁.step S₁.rep S₂) .top V₂ (P.after (S₁.trans S₂))⟩

/-- a method's call: the object, what its name gives, the arguments -/
noncomputable def MethC (C : Cx) (n : Nat) (env : Env) (ρ : Loc) (σ : List AO) (o : AV) (name : PySem.Str) (f : Value) : Prop :=
  ∀ A φ s (Q : Value × List Value → Shared → Prop) E o' pl, AOk n A → Rep C.H C.T φ σ s.heap → Frm C.T φ σ.length s.heap env ρ → VRep φ σ.length s.heap o o' → Q (f, [o']) s → wpAny C.M A (getMethod o' name pl) Q E s

theorem ev_meth {o : Expr} {name : PySem.Str} {apos pos : Pos} {args : List Expr} {f : Value} {pl : Sem Bool} (hk : canCall C.K f = true)
    (h : EvC C n env ρ σ o fun ov σ₁ => MethC C n env ρ σ₁ ov name f ∧ VsC C n env ρ σ₁ (spliced (backTo pos (starEach args env))) fun vs σ₂ => CallC C n env ρ σ₂ (.top f) (ov :: vs) K)
    (hstar : ∀ e ∈ args, starEach [e] env = [(false, eval e env)])
    (he : eval (.Call (.Attribute o name apos) args [] pos) env = (do
      let ov ← eval o env
      standAt apos.atName
      let (f, first) ← holding [ov] (getMethod ov name pl)
      callWith pos f first (backTo pos (starEach args env)) [])) : EvC C n env ρ σ (.Call (.Attribute o name apos) args [] pos) K := by
  intro A φ s Q E hA R F P
  refine MethodCall_ (h A φ s _ E hA R F ?_) he
  rintro φ₁ σ₁ s₁ ov o' ⟨hm, ha⟩ S₁ Vo
  have F₁ := F.step R S₁
  refine hm A φ₁ s₁ _ E o' pl hA S₁.rep F₁ Vo ?_
  refine callW S₁.rep.Kin hk hstar (ha A φ₁ s₁ _ E hA S₁.rep F₁ ?_)
  intro φ₂ σ₂ s₂ vs vs' hv S₂ V₂
  exact ⟨S₂.rep.Kin, hv A φ₂ s₂ Q E f (o' :: vs') hA S₂.rep (F₁.step S₁.rep S₂) .top (.cons (Vo.step S₁.rep F₁ S₂) V₂) (P.after (S₁.trans S₂))⟩

/-! attributes -/
theorem Attrs.getL {φ : Nat → Addr} {m : Nat} {h : Heap} {x : PySem.Str} : ∀ {fs es}, Attrs φ m h fs es → ∀ {a}, fs.lookup x = some a → ∃ v, W.getL x es = some (some v) ∧ VRep φ m h a v := by
  intro fs es A
  induction A with
  | nil => intro a e; simp at e
  | cons V r ih =>
    rename_i y a' hs t v fs es
    intro a e
    rw [List.lookup_cons] at e
    unfold W.getL
    rw [List.find?_cons]
    by_cases q : x = y
    · subst q
      simp at e; subst e
      exact ⟨v, by simp [Value.isStr], V⟩
    · have q1 : (x == y) = false := by simpa using q
      rw [q1] at e
      obtain ⟨v', h1, h2⟩ := ih e
      refine ⟨v', ?_, h2⟩
      have q2 : (Value.str y t).isStr x = false := by simp [Value.isStr]; exact fun e => q e.symm
      simp only [q2]
      unfold W.getL at h1
      revert h1
      cases List.find? (fun x_1 => x_1.key.isStr x) es with
      | some e => exact id
      | none => simp only [List.any_cons]; intro h1; split at h1 <;> simp_all

theorem ev_attr {value : Expr} {attr : PySem.Str} {pos : Pos} (h : EvC C n env ρ σ value fun a σ₁ => Tr1C C n env ρ σ₁ a (fun o => getAttr o attr true) K)
    (he : eval (.Attribute value attr pos) env = (do
      let o ← eval value env
      standAt pos.atName
      let r ← holding [o] (getAttr o attr true)
      letTemporaryGo value o r
      pure r)) : EvC C n env ρ σ (.Attribute value attr pos) K := by
  intro A φ s Q E hA R F P
  refine Attribute_any_ (h A φ s _ E hA R F ?_) he
  intro φ₁ σ₁ s₁ a a' ha S₁ Va
  exact ha A φ₁ s₁ Q E a' hA S₁.rep (F.step R S₁) Va (P.after S₁)

theorem Rep.inst {φ : Nat → Addr} {h : Heap} (R : Rep C.H C.T φ σ h) {k : Nat} {c : Addr} {d : Nat} {fs : List (PySem.Str × AV)} (e : σ[k]? = some (.inst c d)) (ed : σ[d]? = some (.attrs fs)) :
    ∃ es ep, W.InstAt h (φ k) (instObj c (φ d)) c (some (W.dictOf es ep)) ∧ h.get? (φ d) = some (W.dictOf es ep) ∧ Attrs φ σ.length h fs es ∧ fs.length ≤ 64 := by
  obtain ⟨h1, h2⟩ := R.obj k _ e
  obtain ⟨es, ep, h3, h4, h5⟩ := R.obj d _ ed
  exact ⟨es, ep, ⟨h1, rfl, rfl, h3⟩, h3, h4, h5⟩

theorem handed_of {φ : Nat → Addr} {m : Nat} {h : Heap} {a : AV} {v : Value} (V : VRep φ m h a v) (ht : ∀ x, a = .top x → handedIn x = true) : handedIn v = true := by
  cases V <;> first | exact ht _ rfl | rfl

theorem attr_own {k d : Nat} {c : Addr} {fs : List (PySem.Str × AV)} {attr : PySem.Str} {v : AV} {o : Option Value} (e : σ[k]? = some (.inst c d)) (ed : σ[d]? = some (.attrs fs)) (hv : fs.lookup attr = some v) (h : K v σ)
    (hg : plainGet C.K c attr = true) (hh : hasDictIn C.K c = true) (ha : findIn C.K (.ref c) attr = some o) (hn : noGet C.K o = true) (ht : ∀ x, v = .top x → handedIn x = true) :
    Tr1C C n env ρ σ (.ref k) (fun o => getAttr o attr true) K := by
  intro A φ s Q E a' hA R F Va P
  cases Va
  obtain ⟨es, ep, I, _, hAt, _⟩ := R.inst e ed
  obtain ⟨v', h1, h2⟩ := hAt.getL hv
  obtain ⟨m, N, _⟩ := F.ns
  have Fr' : Fr C.T env.locals s.heap m := ⟨N, R.top, F.low⟩
  exact get_own Fr' C.X I hg hh ha hn h1 (handed_of h2 ht) (P.tok R h h2)

theorem meth_inst {k d : Nat} {c f : Addr} {fs : List (PySem.Str × AV)} {name : PySem.Str} (e : σ[k]? = some (.inst c d)) (ed : σ[d]? = some (.attrs fs)) (hno : fs.lookup name = none)
    (hg : plainGet C.K c name = true) (hf : findIn C.K (.ref c) name = some (some (.ref f))) (ht : isFn C.K (.ref f) = true) : MethC C n env ρ σ (.ref k) name (.ref f) := by
  intro A φ s Q E o' pl hA R F Vo hQ
  cases Vo
  obtain ⟨es, ep, I, _, hAt, _⟩ := R.inst e ed
  obtain ⟨m, N, _⟩ := F.ns
  have Fr' : Fr C.T env.locals s.heap m := ⟨N, R.top, F.low⟩
  have hl : W.getL name es = some none := by
    have key : ∀ {fs es}, Attrs φ σ.length s.heap fs es → fs.lookup name = none → W.getL name es = some none := by
      intro fs es A
      induction A with
      | nil => intro _; rfl
      | cons V r ih =>
        rename_i y a' hs t v fs es
        intro e
        rw [List.lookup_cons] at e
        by_cases q : name = y
        · subst q; simp at e
        · have q1 : (name == y) = false := by simpa using q
          rw [q1] at e
          have h1 := ih e
          have q2 : (Value.str y t).isStr name = false := by simp [Value.isStr]; exact fun e => q e.symm
          unfold W.getL at h1 ⊢
          rw [List.find?_cons]
          simp only [q2]
          revert h1
          cases List.find? (fun x_1 => x_1.key.isStr name) es with
          | some e => simp
          | none => simp only [List.any_cons]; intro h1; split at h1 <;> simp_all [DictEntry.refKey]
    exact key hAt hno
  exact method_inst Fr' C.X I hg hf ht hl hQ
end Mine
end

/-! VSt -/
section
open PySem PySem.W PyProof.Rows PySem.Calls
namespace Mine
variable {C : Cx} {n : Nat} {env : Env} {ρ : Loc} {σ : List AO}

inductive AF where
  | next | brk | cont
  | ret (v : AV)

inductive FRep (φ : Nat → Addr) (n : Nat) (h : Heap) : AF → Flow → Prop
  | next : FRep φ n h .next .next
  | brk : FRep φ n h .brk .brk
  | cont : FRep φ n h .cont .cont
  | ret {a : AV} {v : Value} : VRep φ n h a v → FRep φ n h (.ret a) (.ret v)

noncomputable def Foot (env : Env) (b : Addr) : Prop := b = env.locals ∨ OwnC env b

noncomputable abbrev Kf := AF → Loc → List AO → Prop
noncomputable def PostF (C : Cx) (env : Env) (φ : Nat → Addr) (σ : List AO) (s : Shared) (K : Kf) (Q : Flow → Shared → Prop) : Prop :=
  ∀ φ' ρ' σ' s' f f', K f ρ' σ' → StepX C.H C.T (Foot env) φ σ s φ' σ' s' → Frm C.T φ' σ'.length s'.heap env ρ' → FRep φ' σ'.length s'.heap f f' → Q f' s'
noncomputable def ExC (C : Cx) (n : Nat) (env : Env) (ρ : Loc) (σ : List AO) (t : Sem Flow) (K : Kf) : Prop :=
  ∀ A φ s Q E, AOk n A → Rep C.H C.T φ σ s.heap → Frm C.T φ σ.length s.heap env ρ → PostF C env φ σ s K Q → wpAny C.M A t Q E s
/-- a store: the frame's names may turn, nothing comes of it -/
noncomputable def StC (C : Cx) (n : Nat) (env : Env) (ρ : Loc) (σ : List AO) (t : Sem Unit) (K : Loc → List AO → Prop) : Prop :=
  ∀ A φ s Q E, AOk n A → Rep C.H C.T φ σ s.heap → Frm C.T φ σ.length s.heap env ρ → (∀ φ' ρ' σ' s', K ρ' σ' → StepX C.H C.T (Foot env) φ σ s φ' σ' s' → Frm C.T φ' σ'.length s'.heap env ρ' → Q () s') → wpAny C.M A t Q E s

theorem Step.toFoot {φ φ' : Nat → Addr} {σ σ' : List AO} {s s' : Shared} (S : Step C.H C.T env.locals φ σ s φ' σ' s') : StepX C.H C.T (Foot env) φ σ s φ' σ' s' := S.toStepX.weaken fun _ h => .inl h
theorem Frm.notFrozen {φ : Nat → Addr} {m : Nat} {h : Heap} (F : Frm C.T φ m h env ρ) : ∀ b o, Foot env b → h.get? b = some o → ¬ frozen o := by
  intro b o hb e f
  rcases hb with rfl | ⟨x, h1, h2⟩
  · obtain ⟨m, N, _⟩ := F.ns; exact Ns.notFrozen N e f
  · obtain ⟨c, v₀, h3, o', h4, h5⟩ := F.own x h1
    rw [h2] at h3; cases h3
    rw [e] at h4; cases h4
    exact f.notCell h5
theorem VRep.stepX {φ φ₁ : Nat → Addr} {σ₁ : List AO} {s s₁ : Shared} {a : AV} {a' : Value} (V : VRep φ σ.length s.heap a a') (R : Rep C.H C.T φ σ s.heap) (F : Frm C.T φ σ.length s.heap env ρ) (S : StepX C.H C.T (Foot env) φ σ s φ₁ σ₁ s₁) : VRep φ₁ σ₁.length s₁.heap a a' :=
  V.mono (S.froz R F.notFrozen) S.len S.agree
theorem VReps.stepX {φ φ₁ : Nat → Addr} {σ₁ : List AO} {s s₁ : Shared} {a : List AV} {a' : List Value} (V : VReps φ σ.length s.heap a a') (R : Rep C.H C.T φ σ s.heap) (F : Frm C.T φ σ.length s.heap env ρ) (S : StepX C.H C.T (Foot env) φ σ s φ₁ σ₁ s₁) : VReps φ₁ σ₁.length s₁.heap a a' :=
  V.mono (S.froz R F.notFrozen) S.len S.agree
theorem PostF.after {φ φ₁ : Nat → Addr} {σ₁ : List AO} {s s₁ : Shared} {K : Kf} {Q : Flow → Shared → Prop} (P : PostF C env φ σ s K Q) (S : StepX C.H C.T (Foot env) φ σ s φ₁ σ₁ s₁) : PostF C env φ₁ σ₁ s₁ K Q :=
  fun φ' ρ' σ' s' f f' hk S' F V => P φ' ρ' σ' s' f f' hk (S.trans S') F V

/-- the frame, and the named cells of its own -/
noncomputable def FootN (env : Env) (names : List PySem.Str) (b : Addr) : Prop := b = env.locals ∨ ∃ x, x ∈ names ∧ env.kindOf x = some .cell ∧ env.cells.lookup x = some b
theorem FootN.foot {names : List PySem.Str} {b : Addr} (h : FootN env names b) : Foot env b := h.elim .inl fun ⟨x, _, h1, h2⟩ => .inr ⟨x, h1, h2⟩
theorem FootN.sub {names names' : List PySem.Str} {b : Addr} (h : FootN env names b) (hs : ∀ x ∈ names, x ∈ names') : FootN env names' b := h.elim .inl fun ⟨x, h0, h1, h2⟩ => .inr ⟨x, hs x h0, h1, h2⟩

theorem store_local {A : Around} {φ : Nat → Addr} {s : Shared} {Q : Unit → Shared → Prop} {E : Value → Shared → Prop} {x : PySem.Str} {a : AV} {v : Value} (R : Rep C.H C.T φ σ s.heap) (F : Frm C.T φ σ.length s.heap env ρ) (V : VRep φ σ.length s.heap a v)
    (hl : env.kindOf x = some .local) (hk : env.scope.kind = .function)
    (h : ∀ s', StepX C.H C.T (FootN env [x]) φ σ s φ σ s' → Frm C.T φ σ.length s'.heap env (upd ρ x a) → Q () s') : wpAny C.M A (storeName env x v) Q E s := by
  obtain ⟨m, N, hm⟩ := F.ns
  refine wpAny_storeName_local hl N (fun h' N' hs => ?_) (by rw [hk]; rfl)
  have hlt : ∀ b o, C.T.get? b = some o → b ≠ env.locals := fun b o e => Nat.ne_of_lt (Nat.lt_of_lt_of_le (Heap.lt_size e) F.low)
  have fz : Froz s.heap h' := fun b o e f => (hs.2 b fun q => by subst q; exact Ns.notFrozen N e f).trans e
  have S : StepX C.H C.T (FootN env [x]) φ σ s φ σ { s with heap := h', toks := s.toks + 1 } :=
    ⟨rfl, fun _ _ => rfl, Nat.le_refl _, ⟨fun b o e => (hs.2 b (hlt b o e)).trans (R.top b o e), R.low, R.inj, fun k o e => (R.obj k o e).mono fz (Nat.le_refl _) (fun _ _ => rfl)
      fun z ez => (hs.2 _ (F.foot k (List.getElem?_eq_some_iff.mp e).1)).trans ez⟩, fun b o e hb _ => (hs.2 b fun q => hb (.inl q)).trans e, fun k h1 h2 => absurd h2 (Nat.not_lt.mpr h1), fun b o e => by
      by_cases q : b = env.locals
      · subst q; obtain ⟨o', _, _, e', _⟩ := N'; exact ⟨o', e'⟩
      · exact ⟨o, (hs.2 b q).trans e⟩⟩
  refine h _ S ⟨⟨_, N', fun y b e k => ?_⟩, fun y b e k => ?_, fun y k => ?_, F.apart, F.low, F.foot, fun y c hc => ?_⟩
  · unfold upd at e
    by_cases q : y = x
    · subst q; rw [if_pos rfl] at e; cases e; exact ⟨v, if_pos rfl, V.mono fz (Nat.le_refl _) fun _ _ => rfl⟩
    · rw [if_neg q] at e
      obtain ⟨v', h1, h2⟩ := hm y b e k
      exact ⟨v', (if_neg q).trans h1, h2.mono fz (Nat.le_refl _) fun _ _ => rfl⟩
  · unfold upd at e
    by_cases q : y = x
    · subst q; rw [hl] at k; rcases k with k | k <;> cases k
    · rw [if_neg q] at e
      obtain ⟨c, v', h1, h2, h3⟩ := F.cl y b e k
      exact ⟨c, v', h1, IsCell.at h2 fun o e => (hs.2 c (F.cells y c h1).1).trans e, h3.mono fz (Nat.le_refl _) fun _ _ => rfl⟩
  · obtain ⟨c, v₀, h1, h2⟩ := F.own y k
    exact ⟨c, v₀, h1, IsCell.at h2 fun o e => (hs.2 c (F.cells y c h1).1).trans e⟩
  · obtain ⟨h1, h2, ⟨v₀, h3⟩, h4⟩ := F.cells y c hc
    exact ⟨h1, h2, ⟨v₀, IsCell.at h3 fun o e => (hs.2 c h1).trans e⟩, h4⟩

theorem store_cell {A : Around} {φ : Nat → Addr} {s : Shared} {Q : Unit → Shared → Prop} {E : Value → Shared → Prop} {x : PySem.Str} {a : AV} {v : Value} (R : Rep C.H C.T φ σ s.heap) (F : Frm C.T φ σ.length s.heap env ρ) (V : VRep φ σ.length s.heap a v)
    (hl : env.kindOf x = some .cell) (hk : env.scope.kind = .function)
    (h : ∀ s', StepX C.H C.T (FootN env [x]) φ σ s φ σ s' → Frm C.T φ σ.length s'.heap env (upd ρ x a) → Q () s') : wpAny C.M A (storeName env x v) Q E s := by
  obtain ⟨m, N, hm⟩ := F.ns
  obtain ⟨c, v₀, hc, hv⟩ := F.own x hl
  obtain ⟨c1, c2, _, c4⟩ := F.cells x c hc
  refine wpAny_storeName_cell hk hl hc hv fun h' hv' hs => ?_
  have hlt : ∀ b o, C.T.get? b = some o → b ≠ c := fun b o e => Nat.ne_of_lt (Nat.lt_of_lt_of_le (Heap.lt_size e) c2)
  have fz : Froz s.heap h' := fun b o e f => (hs.2 b fun q => by subst q; exact F.notFrozen b o (.inr ⟨x, hl, hc⟩) e f).trans e
  have S : StepX C.H C.T (FootN env [x]) φ σ s φ σ { s with heap := h' } :=
    ⟨rfl, fun _ _ => rfl, Nat.le_refl _, ⟨fun b o e => (hs.2 b (hlt b o e)).trans (R.top b o e), R.low, R.inj, fun k o e => (R.obj k o e).mono fz (Nat.le_refl _) (fun _ _ => rfl)
      fun z ez => (hs.2 _ (c4 k (List.getElem?_eq_some_iff.mp e).1)).trans ez⟩, fun b o e hb _ => (hs.2 b fun q => hb (.inr ⟨x, List.mem_singleton.mpr rfl, hl, q ▸ hc⟩)).trans e, fun k h1 h2 => absurd h2 (Nat.not_lt.mpr h1), fun b o e => by
      by_cases q : b = c
      · subst q; obtain ⟨o', e', _⟩ := hv'; exact ⟨o', e'⟩
      · exact ⟨o, (hs.2 b q).trans e⟩⟩
  have other : ∀ y d, env.cells.lookup y = some d → y ≠ x → d ≠ c := fun y d hd hyx q => hyx ((F.apart x y c hl hc (q ▸ hd)).symm)
  refine h _ S ⟨⟨m, ?_, fun y b e k => ?_⟩, fun y b e k => ?_, fun y k => ?_, F.apart, F.low, F.foot, fun y d hd => ?_⟩
  · obtain ⟨o, es, ep, e, r⟩ := N; exact ⟨o, es, ep, (hs.2 _ (Ne.symm c1)).trans e, r⟩
  · unfold upd at e
    by_cases q : y = x
    · subst q; rw [hl] at k; cases k
    · rw [if_neg q] at e
      obtain ⟨v', h1, h2⟩ := hm y b e k
      exact ⟨v', h1, h2.mono fz (Nat.le_refl _) fun _ _ => rfl⟩
  · unfold upd at e
    by_cases q : y = x
    · subst q; rw [if_pos rfl] at e; cases e; exact ⟨c, v, hc, hv', V.mono fz (Nat.le_refl _) fun _ _ => rfl⟩
    · rw [if_neg q] at e
      obtain ⟨d, v', h1, h2, h3⟩ := F.cl y b e k
      exact ⟨d, v', h1, IsCell.at h2 fun o e => (hs.2 d (other y d h1 q)).trans e, h3.mono fz (Nat.le_refl _) fun _ _ => rfl⟩
  · by_cases q : y = x
    · subst q; exact ⟨c, _, hc, hv'⟩
    · obtain ⟨d, v₁, h1, h2⟩ := F.own y k
      exact ⟨d, v₁, h1, IsCell.at h2 fun o e => (hs.2 d (other y d h1 q)).trans e⟩
  · obtain ⟨h1, h2, ⟨v₁, h3⟩, h4⟩ := F.cells y d hd
    refine ⟨h1, h2, ?_, h4⟩
    by_cases q : d = c
    · exact ⟨_, q ▸ hv'⟩
    · exact ⟨v₁, IsCell.at h3 fun o e => (hs.2 d q).trans e⟩

theorem store_name {A : Around} {φ : Nat → Addr} {s : Shared} {Q : Unit → Shared → Prop} {E : Value → Shared → Prop} {x : PySem.Str} {a : AV} {v : Value} (R : Rep C.H C.T φ σ s.heap) (F : Frm C.T φ σ.length s.heap env ρ) (V : VRep φ σ.length s.heap a v)
    (hl : env.kindOf x = some .local ∨ env.kindOf x = some .cell) (hk : env.scope.kind = .function)
    (h : ∀ s', StepX C.H C.T (FootN env [x]) φ σ s φ σ s' → Frm C.T φ σ.length s'.heap env (upd ρ x a) → Q () s') : wpAny C.M A (storeName env x v) Q E s :=
  hl.elim (fun hl => store_local R F V hl hk h) fun hl => store_cell R F V hl hk h

/-! statements -/
theorem ex_nil {K : Kf} (h : K .next ρ σ) : ExC C n env ρ σ (execs [] env) K := fun _ φ s _ _ _ R F P => wpAny_execs_nil (P φ ρ σ s _ _ h (StepX.refl R) F .next)
theorem ex_cons {st : Stmt} {rest : List Stmt} {K : Kf} (h : ExC C n env ρ σ (exec st env) fun f ρ₁ σ₁ => match f with | .next => ExC C n env ρ₁ σ₁ (execs rest env) K | f => K f ρ₁ σ₁) : ExC C n env ρ σ (execs (st :: rest) env) K := by
  intro A φ s Q E hA R F P
  refine wpAny_execs_cons (h A φ s _ E hA R F ?_)
  intro φ₁ ρ₁ σ₁ s₁ f f' hk S₁ F₁ V
  cases V with
  | next => exact hk A φ₁ s₁ Q E hA S₁.rep F₁ (P.after S₁)
  | brk => exact P _ _ _ _ _ _ hk S₁ F₁ .brk
  | cont => exact P _ _ _ _ _ _ hk S₁ F₁ .cont
  | ret v => exact P _ _ _ _ _ _ hk S₁ F₁ (.ret v)
theorem ex_ret {e : Expr} {pos : Pos} {K : Kf} (h : EvC C n env ρ σ e fun v σ₁ => K (.ret v) ρ σ₁) : ExC C n env ρ σ (exec (.Return (some e) pos) env) K :=
  fun A φ s Q E hA R F P => wpAny_Return_some (h A φ s _ E hA R F fun φ₁ σ₁ s₁ v v' hk S₁ V => P _ _ _ _ _ _ hk S₁.toFoot (F.step R S₁) (.ret V))
theorem ex_if {test : Expr} {body orelse : List Stmt} {pos : Pos} {K : Kf} (h : BoC C n env ρ σ (PySem.isTrue test env (eval test env)) fun b σ₁ => (b = true → ExC C n env ρ σ₁ (execs body env) K) ∧ (b = false → ExC C n env ρ σ₁ (execs orelse env) K)) :
    ExC C n env ρ σ (exec (.If test body orelse pos) env) K := fun A φ s Q E hA R F P =>
  wpAny_If (h A φ s _ E hA R F fun φ₁ σ₁ s₁ b hb S₁ => by
    cases b with
    | true => exact hb.1 rfl A φ₁ s₁ Q E hA S₁.rep (F.step R S₁) (P.after S₁.toFoot)
    | false => exact hb.2 rfl A φ₁ s₁ Q E hA S₁.rep (F.step R S₁) (P.after S₁.toFoot))
theorem ex_assign {x : PySem.Str} {p pos : Pos} {value : Expr} {K : Kf} (h : EvC C n env ρ σ value fun v σ₁ => K .next (upd ρ x v) σ₁) (hl : env.kindOf x = some .local ∨ env.kindOf x = some .cell) (hk : env.scope.kind = .function)
    (hs : swapsWith value (some (.Name x p)) pos.line env = pure false) : ExC C n env ρ σ (exec (.Assign [.Name x p] value pos) env) K :=
  fun A φ s Q E hA R F P => wpAny_Assign_Name (h A φ s _ E hA R F fun φ₁ σ₁ s₁ v v' hv S₁ V =>
    store_name S₁.rep (F.step R S₁) V hl hk fun s₂ S₂ F₂ => P _ _ _ _ _ _ hv (S₁.toFoot.trans (S₂.weaken fun _ h => h.foot)) F₂ .next) hs
theorem ex_expr {e : Expr} {pos : Pos} {K : Kf} (h : EvC C n env ρ σ e fun v σ₁ => (v = .none ∨ ∃ i, v = .int i) ∧ K .next ρ σ₁) (hi : interactive env = false) (hs : swapsWith e none pos.line env = pure false) : ExC C n env ρ σ (exec (.Expr e pos) env) K :=
  fun A φ s Q E hA R F P => wpAny_Expr (h A φ s _ E hA R F fun φ₁ σ₁ s₁ v v' hv S₁ V => by
    obtain ⟨hv, hk⟩ := hv
    rcases hv with rfl | ⟨i, rfl⟩ <;> cases V <;> exact P _ _ _ _ _ _ hk S₁.toFoot (F.step R S₁) .next) hi hs
end Mine
end

/-! VCall -/
section
open PySem PySem.W PyProof.Rows PySem.Calls
namespace Mine
variable {C : Cx} {n : Nat} {env : Env} {ρ : Loc} {σ : List AO} {K : Kv}

theorem put_le {φ : Nat → Addr} {k : Nat} {D : Addr} : ∀ i, i < k → put φ k D i = φ i := fun i hi => by unfold put; rw [if_neg (Nat.ne_of_lt hi)]
noncomputable def mkEnv (scope : Scope) (L : Addr) (cl : List (PySem.Str × Addr)) (qual : PySem.Str) (fn : Option Addr) (cd : Value) (fr : Option Addr) : Env :=
  { scope := scope, locals := L, globals := mainGlobals, cells := cl, qual := qual, func := fn, code := cd, frame := fr, builtins := builtinsNs }
noncomputable def locs (bs : List (PySem.Str × AV)) : Loc := fun x => bs.lookup x
noncomputable def retOf : AF → AV
  | .ret v => v
  | _ => .none

theorem zip_lookup {φ : Nat → Addr} {m : Nat} {h : Heap} : ∀ {names : List PySem.Str} {vs : List AV} {vs' : List Value}, VReps φ m h vs vs' → ∀ {x : PySem.Str} {v : AV}, (names.zip vs).lookup x = some v → ∃ v', (names.zip vs').lookup x = some v' ∧ VRep φ m h v v' := by
  intro names
  induction names with
  | nil => intro vs vs' _ x v e; simp at e
  | cons y r ih =>
    intro vs vs' V x v e
    cases V with
    | nil => simp at e
    | cons V0 Vr =>
      simp only [List.zip_cons_cons, List.lookup_cons] at e ⊢
      cases hq : x == y with
      | true => rw [hq] at e; cases e; exact ⟨_, rfl, V0⟩
      | false => rw [hq] at e; exact ih Vr e
theorem lookup_mem_fst {α : Type} {l : List (PySem.Str × α)} {x : PySem.Str} {v : α} (h : l.lookup x = some v) : x ∈ l.map (·.1) := List.mem_map.mpr ⟨_, mem_of_lookup h, rfl⟩

theorem bindL_not {kindOf : PySem.Str → Option NameKind} : ∀ {bs : List (PySem.Str × Value)} {m : PySem.Str → Option Value} {x : PySem.Str}, x ∉ bs.map (·.1) → bindL kindOf bs m x = m x
  | [], _, _, _ => rfl
  | (y, v) :: r, m, x, h => by
    simp only [List.map_cons, List.mem_cons, not_or] at h
    unfold bindL
    rw [bindL_not h.2]
    split
    · exact if_neg h.1
    · rfl
theorem bindL_get {kindOf : PySem.Str → Option NameKind} : ∀ {bs : List (PySem.Str × Value)} {m : PySem.Str → Option Value} {x : PySem.Str} {v : Value}, (bs.map (·.1)).Nodup → bs.lookup x = some v → kindOf x = some .local → bindL kindOf bs m x = some v
  | (y, v') :: r, m, x, v, hn, h, hk => by
    simp only [List.map_cons, List.nodup_cons] at hn
    rw [List.lookup_cons] at h
    unfold bindL
    by_cases q : x = y
    · subst q
      simp at h; subst h
      rw [bindL_not hn.1, if_pos hk, if_pos rfl]
    · have : (x == y) = false := by simpa using q
      rw [this] at h
      exact bindL_get hn.2 h hk
theorem bindC_not {kindOf : PySem.Str → Option NameKind} : ∀ {bs : List (PySem.Str × Value)} {m : PySem.Str → Option Value} {x : PySem.Str}, x ∉ bs.map (·.1) → bindC kindOf bs m x = m x
  | [], _, _, _ => rfl
  | (y, v) :: r, m, x, h => by
    simp only [List.map_cons, List.mem_cons, not_or] at h
    unfold bindC
    rw [bindC_not h.2]
    split
    · rfl
    · exact if_neg h.1
theorem bindC_get {kindOf : PySem.Str → Option NameKind} : ∀ {bs : List (PySem.Str × Value)} {m : PySem.Str → Option Value} {x : PySem.Str} {v : Value}, (bs.map (·.1)).Nodup → bs.lookup x = some v → kindOf x = some .cell → bindC kindOf bs m x = some v
  | (y, v') :: r, m, x, v, hn, h, hk => by
    simp only [List.map_cons, List.nodup_cons] at hn
    rw [List.lookup_cons] at h
    unfold bindC
    by_cases q : x = y
    · subst q
      simp at h; subst h
      rw [bindC_not hn.1, if_neg (by rw [hk]; decide), if_pos rfl]
    · have : (x == y) = false := by simpa using q
      rw [this] at h
      exact bindC_get hn.2 h hk

theorem zip_fst {α : Type} : ∀ {names : List PySem.Str} {vs : List α}, vs.length = names.length → (names.zip vs).map (·.1) = names
  | [], [], _ => rfl
  | [], _ :: _, h => by simp at h
  | _ :: _, [], h => by simp at h
  | x :: r, v :: vs, h => by simp only [List.zip_cons_cons, List.map_cons]; rw [zip_fst (by simpa using h)]

/-- a def's call as a run of its own -/
noncomputable def CodeFC (C : Cx) (m : Nat) (env : Env) (ρ : Loc) (σ : List AO) (f : Addr) (vs : List AV) (K : Kv) : Prop :=
  ∀ A φ s (R : Result → Shared → Prop) vs', AOk m A → Rep C.H C.T φ σ s.heap → Frm C.T φ σ.length s.heap env ρ → VReps φ σ.length s.heap vs vs' →
    (∀ φ' σ' s' v v', K v σ' → Step C.H C.T env.locals φ σ s φ' σ' s' → VRep φ' σ'.length s'.heap v v' → R (.ok (.ret v')) s') → codeAny C.M A (.call (.ref f) ⟨vs', []⟩) R s
theorem CodeFC.call {m : Nat} {f : Addr} {vs : List AV} (h : CodeFC C m env ρ σ f vs K) : CallC C m env ρ σ (.top (.ref f)) vs K := by
  intro A φ s Q E f' vs' hA R F Vf V P
  cases Vf
  exact wpAny_call (h A φ s _ vs' hA R F V fun φ' σ' s' v v' hk S V => P φ' σ' s' v v' hk S V)
theorem code_fn {f : Addr} {m : Nat} {name qual : PySem.Str} {params : Arguments} {body : List Stmt} {scope : Scope} {dV kV doc pm cdv ct oc : Value} {an od : Option Addr} {osl : Array (Option Value)} {names : List PySem.Str} {vs : List AV}
    (ho : C.K.lookup f = some ⟨oc, od, .func (fnOf name qual params body scope dV kV doc pm an cdv ct), osl⟩) (hcd : codeIn C.K cdv qual = true) (hlen : vs.length = names.length) (hnd : names.Nodup)
    (hb : ∀ vs' : List Value, vs'.length = names.length → bindArgs (fnOf name qual params body scope dV kV doc pm an cdv ct) ⟨vs', []⟩ = pure (names.zip vs'))
    (hkind : ∀ x ∈ names, scope.names.lookup x = some .local ∨ scope.names.lookup x = some .cell)
    (hco : scope.isCoroutine = false) (hgen : scope.isGenerator = false) (hk : scope.kind = .function)
    (h : ∀ L cl, ExC C m (mkEnv scope L cl (qual ++ ".<locals>.") (some f) cdv (some L)) (locs (names.zip vs)) σ (execs body (mkEnv scope L cl (qual ++ ".<locals>.") (some f) cdv (some L)))
      fun fl _ σ' => (fl = .next ∨ ∃ v, fl = .ret v) ∧ K (retOf fl) σ') : CodeFC C (m + 1) env ρ σ f vs K := by
  intro A φ s RR vs' hA R F V P
  have hlen' : vs'.length = names.length := by rw [← V.length]; exact hlen
  have hNk : ∀ x ∈ names.zip vs', scope.names.lookup x.1 = some .local ∨ scope.names.lookup x.1 = some .cell := fun x hx => hkind x.1 (by
    have : x.1 ∈ (names.zip vs').map (·.1) := List.mem_map_of_mem hx
    rwa [zip_fst hlen'] at this)
  refine (codeAny_call_cells (fd := fnOf name qual params body scope dV kV doc pm an cdv ct) (body := body) (binds := names.zip vs') (by have := hA.dp; omega) (R.Kin _ _ ho) rfl (C.TR.nolimit.keeps R.top) (codeRec_of R.Kin hcd) rfl (hb vs' hlen') rfl
    (fun x hx => (hNk x hx).imp id fun hc => ⟨hc, W.cellsFrom_some _ _ _ (.inl hc)⟩) (fun s₁ x => ?_) hco hgen hk)
  have e0 : callEnvC (fnOf name qual params body scope dV kV doc pm an cdv ct) s.heap.objs.size f = mkEnv scope s.heap.objs.size (cellsFrom (s.heap.objs.size + 1) scope.names []) (qual ++ ".<locals>.") (some f) cdv (some s.heap.objs.size) := rfl
  rw [e0] at x ⊢
  have x' : InCallC s s.heap.objs.size (bindL (mkEnv scope s.heap.objs.size (cellsFrom (s.heap.objs.size + 1) scope.names []) (qual ++ ".<locals>.") (some f) cdv (some s.heap.objs.size)).kindOf (names.zip vs') fun _ => none)
      (cellsFrom (s.heap.objs.size + 1) scope.names []) (bindC (mkEnv scope s.heap.objs.size (cellsFrom (s.heap.objs.size + 1) scope.names []) (qual ++ ".<locals>.") (some f) cdv (some s.heap.objs.size)).kindOf (names.zip vs') fun _ => none) s₁ := x
  clear x
  specialize h s.heap.objs.size (cellsFrom (s.heap.objs.size + 1) scope.names [])
  revert x' h
  generalize hE : mkEnv scope s.heap.objs.size (cellsFrom (s.heap.objs.size + 1) scope.names []) (qual ++ ".<locals>.") (some f) cdv (some s.heap.objs.size) = env'
  intro h x'
  have hcells : env'.cells = cellsFrom (s.heap.objs.size + 1) scope.names [] := by rw [← hE]; rfl
  have hlocals : env'.locals = s.heap.objs.size := by rw [← hE]; rfl
  have hkindOf : ∀ y, env'.kindOf y = scope.names.lookup y := fun y => by rw [← hE]; rfl
  have keep := x'.toInCall.keep
  obtain ⟨h₁, tk, rfl⟩ := x'.toInCall.same
  have hsz : s.heap.objs.size < h₁.objs.size := x'.toInCall.ns.lt
  have S₀ : Step C.H C.T env.locals φ σ s φ σ { s with heap := h₁, toks := tk } := Step.ofKeep R keep
  have V₁ := V.step R F S₀
  have F₁ : Frm C.T φ σ.length h₁ env' (locs (names.zip vs)) := by
    refine ⟨⟨_, hlocals ▸ x'.toInCall.ns, fun y v e k => ?_⟩, fun y v e k => ?_, fun y k => ?_, fun y z c k e e' => ?_, ?_, fun k hk q => ?_, fun y c e => ?_⟩
    · obtain ⟨v', h2, h3⟩ := zip_lookup V₁ e
      exact ⟨v', bindL_get (by rw [zip_fst hlen']; exact hnd) h2 k, h3⟩
    · obtain ⟨v', h2, h3⟩ := zip_lookup V₁ e
      have hmem : y ∈ names := by have := lookup_mem_fst h2; rwa [zip_fst hlen'] at this
      have hc : scope.names.lookup y = some .cell := by
        rcases hkind y hmem with q | q
        · rw [hkindOf, q] at k; rcases k with k | k <;> cases k
        · exact q
      obtain ⟨c, hc'⟩ := Option.isSome_iff_exists.mp (W.cellsFrom_some scope.names (s.heap.objs.size + 1) [] (.inl hc))
      have := x'.cell y c hc'
      rw [bindC_get (by rw [zip_fst hlen']; exact hnd) h2 (by rw [hkindOf]; exact hc)] at this
      exact ⟨c, v', by rw [hcells]; exact hc', this, h3⟩
    · obtain ⟨c, hc'⟩ := Option.isSome_iff_exists.mp (W.cellsFrom_some scope.names (s.heap.objs.size + 1) [] (.inl (by rw [← hkindOf]; exact k)))
      exact ⟨c, _, by rw [hcells]; exact hc', x'.cell y c hc'⟩
    · rw [hcells] at e e'
      exact name_of_addr x'.apart (mem_of_lookup e) (mem_of_lookup e')
    · rw [hlocals]; exact R.topsize (h := s.heap) F
    · have := R.lt hk; rw [hlocals] at q; exact absurd this (by rw [q]; exact Nat.lt_irrefl _)
    · rw [hcells] at e
      have h2 := x'.above y c (mem_of_lookup e)
      refine ⟨by rw [hlocals]; exact Nat.ne_of_gt h2, Nat.le_trans (R.topsize (h := s.heap) F) (Nat.le_of_lt h2), ⟨_, x'.cell y c e⟩, fun k hk q => ?_⟩
      have := R.lt hk
      rw [q] at this
      exact absurd (Nat.lt_trans h2 this) (Nat.lt_irrefl _)
  have hA' : AOk m (A.deeper env') := ⟨hA.hd, by have := hA.dp; show A.depth + 1 + m < _; omega, by have := hA.un; show A.units + 3 + 8 * m + 100 < _; omega⟩
  refine h _ φ _ _ _ hA' S₀.rep F₁ ?_
  intro φ₂ ρ₂ σ₂ s₂ fl fl' hfl S₂ F₂ Vf
  have S₃ : Step C.H C.T env.locals φ σ s φ₂ σ₂ s₂ := by
    have ext : ∀ b o, s.heap.get? b = some o → (∀ k, k < σ.length → φ k ≠ b) → s₂.heap.get? b = some o := fun b o e hφ => S₂.ext b o (keep b o e) (fun hb => by
      have hlt := Heap.lt_size e
      rcases hb with rfl | ⟨y, hy, hc⟩
      · rw [hlocals] at hlt; exact Nat.lt_irrefl _ hlt
      · rw [hcells] at hc; have := x'.above y b (mem_of_lookup hc); exact absurd (Nat.lt_trans this hlt) (Nat.lt_irrefl _)) hφ
    refine ⟨⟨by rw [S₂.same], S₂.agree, S₂.len, S₂.rep, fun b o e _ hφ => ext b o e hφ, fun k h1 h2 => ?_, fun b o e => S₂.live b o (keep b o e)⟩, fun m ⟨o, es, ep, e, r⟩ => ⟨o, es, ep, ext _ o e F.foot, r⟩⟩
    have h3 := S₂.new k h1 h2
    cases h4 : s.heap.get? (φ₂ k) with
    | none => rfl
    | some o => rw [keep _ o h4] at h3; cases h3
  obtain ⟨hfl, hk⟩ := hfl
  rcases hfl with rfl | ⟨v, rfl⟩
  · cases Vf
    exact P _ _ _ _ _ hk S₃ .none
  · cases Vf with
    | ret V => exact P _ _ _ _ _ hk S₃ V

theorem call_fn {f : Addr} {m : Nat} {name qual : PySem.Str} {params : Arguments} {body : List Stmt} {scope : Scope} {dV kV doc pm cdv ct oc : Value} {an od : Option Addr} {osl : Array (Option Value)} {names : List PySem.Str} {vs : List AV}
    (ho : C.K.lookup f = some ⟨oc, od, .func (fnOf name qual params body scope dV kV doc pm an cdv ct), osl⟩) (hcd : codeIn C.K cdv qual = true) (hlen : vs.length = names.length) (hnd : names.Nodup)
    (hb : ∀ vs' : List Value, vs'.length = names.length → bindArgs (fnOf name qual params body scope dV kV doc pm an cdv ct) ⟨vs', []⟩ = pure (names.zip vs'))
    (hkind : ∀ x ∈ names, scope.names.lookup x = some .local ∨ scope.names.lookup x = some .cell)
    (hco : scope.isCoroutine = false) (hgen : scope.isGenerator = false) (hk : scope.kind = .function)
    (h : ∀ L cl, ExC C m (mkEnv scope L cl (qual ++ ".<locals>.") (some f) cdv (some L)) (locs (names.zip vs)) σ (execs body (mkEnv scope L cl (qual ++ ".<locals>.") (some f) cdv (some L)))
      fun fl _ σ' => (fl = .next ∨ ∃ v, fl = .ret v) ∧ K (retOf fl) σ') : CallC C (m + 1) env ρ σ (.top (.ref f)) vs K :=
  (code_fn ho hcd hlen hnd hb hkind hco hgen hk h).call

theorem AOk.under {m : Nat} {A : Around} {c : Addr} {vs : List Value} (h : AOk (m + 1) A) : AOk m (A.under (.builtin "type.__call__" ⟨.ref c :: vs, []⟩)) :=
  ⟨h.hd, by have := h.dp; show A.depth + 1 + m < _; omega, by have := h.un; show A.units + 1 + 8 * m + 100 < _; omega⟩
theorem call_class {c fI : Addr} {m : Nat} {vs : List AV} (hm : makesIn C.K c = true) (hi : findIn C.K (.ref c) "__init__" = some (some (.ref fI))) (hf : isFn C.K (.ref fI) = true)
    (h : CodeFC C m env ρ (σ ++ [.attrs []] ++ [.inst c σ.length]) fI (.ref (σ.length + 1) :: vs) fun v σ' => v = .none ∧ K (.ref (σ.length + 1)) σ') : CallC C (m + 1) env ρ σ (.top (.ref c)) vs K := by
  intro A φ s Q E f' vs' hA R F Vf V P
  cases Vf
  have X := R.Kin
  refine wpAny_call ?_
  have R' := R; have F' := F; have V' := V; have P' := P
  refine make_core (makes_of X hm) (looks_findIn X hi) (fun self => bind_fn X self (beq_iff_eq.mp hf)) (.inl rfl) ?_
  have S₁ : ∀ L, Step C.H C.T L φ σ s (put φ σ.length s.heap.objs.size) (σ ++ [.attrs []]) { s with heap := s.heap.push emptyDict } := fun L => Step.alloc R (R.topsize (h := s.heap) F) rfl ⟨[], 0, Heap.get?_push_size _ rfl, .nil, by simp⟩
  have F₁ := F.step R (S₁ _)
  have hput : put φ σ.length s.heap.objs.size σ.length = s.heap.objs.size := by unfold put; rw [if_pos rfl]
  have S₂ : ∀ L, Step C.H C.T L (put φ σ.length s.heap.objs.size) (σ ++ [.attrs []]) { s with heap := s.heap.push emptyDict } (put (put φ σ.length s.heap.objs.size) (σ ++ [AO.attrs []]).length (s.heap.push emptyDict).objs.size) (σ ++ [.attrs []] ++ [.inst c σ.length]) { s with heap := (s.heap.push emptyDict).push (instObj c s.heap.objs.size) } := fun L =>
    Step.alloc (S₁ L).rep ((S₁ L).rep.topsize (h := s.heap) F₁) rfl ⟨by rw [put_le _ (by simp), hput]; exact Heap.get?_push_size _ rfl, by simp; omega⟩
  have F₂ := F₁.step (S₁ 0).rep (S₂ _)
  have S := (S₁ env.locals).trans (S₂ env.locals)
  have hx : (put (put φ σ.length s.heap.objs.size) (σ ++ [AO.attrs []]).length (s.heap.push emptyDict).objs.size) (σ.length + 1) = s.heap.objs.size + 1 := by
    unfold put
    rw [if_pos (by simp), Heap.size_push]
  refine h _ _ _ _ _ hA.under S.rep F₂ (.cons (by rw [← hx]; exact .ref (by simp)) (V.step R F S)) ?_
  rintro φ' σ' s' v v' ⟨rfl, hk⟩ S₃ V₃
  cases V₃
  refine ⟨rfl, ?_⟩
  have hlt : σ.length + 1 < (σ ++ [AO.attrs []] ++ [AO.inst c σ.length]).length := by simp
  have := P φ' σ' s' (.ref (σ.length + 1)) (.ref (φ' (σ.length + 1))) hk (S.trans S₃) (.ref (Nat.lt_of_lt_of_le hlt S₃.len))
  rw [S₃.agree _ hlt, hx] at this
  exact this
end Mine
end

/-! VFor -/
section
open PySem PySem.W PyProof.Rows PySem.Calls
namespace Mine
variable {C : Cx} {n : Nat} {env : Env} {ρ : Loc} {σ : List AO}

structure Src (C : Cx) (I : Addr) (items : List AV) (Kept : List AO → Prop) (St : Nat → (Nat → Addr) → List AO → Heap → Prop) : Prop where
  item : ∀ A φ σ s Q E i v, A.handled = none → Rep C.H C.T φ σ s.heap → Kept σ → items[i]? = some v → St i φ σ s.heap →
    (∀ v' h' tk, VRep φ σ.length s.heap v v' → St (i + 1) φ σ h' → (∀ b o, b ≠ I → s.heap.get? b = some o → h'.get? b = some o) → Q (some v') { s with heap := h', toks := tk }) → wpAny C.M A (pyNext (.ref I)) Q E s
  done : ∀ A φ σ s Q E, A.handled = none → Rep C.H C.T φ σ s.heap → Kept σ → St items.length φ σ s.heap →
    (∀ h' tk, (∀ b o, b ≠ I → s.heap.get? b = some o → h'.get? b = some o) → Q none { s with heap := h', toks := tk }) → wpAny C.M A (pyNext (.ref I)) Q E s
  keep : ∀ i φ σ h φ' σ' h', St i φ σ h → (∀ k, k < σ.length → φ' k = φ k) → σ.length ≤ σ'.length → (∀ o, h.get? I = some o → h'.get? I = some o) → Froz h h' → St i φ' σ' h'
  here : ∀ i φ σ h, St i φ σ h → ∃ o, h.get? I = some o ∧ ¬ frozen o
  go : ∀ A φ σ s Q E i target v, St i φ σ s.heap → Q () s → wpAny C.M A (letOwnedTupleGo target (.ref I) v) Q E s
  self : ∀ A φ σ s (Q : Value → Shared → Prop) E i, A.handled = none → St i φ σ s.heap → Q (.ref I) s → wpAny C.M A (pyIter (.ref I)) Q E s

/-- apart from the frame and from what is ours -/
structure Off (φ : Nat → Addr) (m : Nat) (env : Env) (I : Addr) : Prop where
  l : I ≠ env.locals
  c : ∀ x, env.cells.lookup x ≠ some I
  o : ∀ k, k < m → φ k ≠ I

theorem Off.foot {φ : Nat → Addr} {m : Nat} {I : Addr} (o : Off φ m env I) : ¬ Foot env I := fun h => by
  rcases h with rfl | ⟨x, _, h⟩
  · exact o.l rfl
  · exact o.c x h

/-- only what is apart has turned -/
theorem rep_off {I : Addr} {φ : Nat → Addr} {s : Shared} {h' : Heap} (R : Rep C.H C.T φ σ s.heap) (F : Frm C.T φ σ.length s.heap env ρ) (O : Off φ σ.length env I) (hT : C.T.get? I = none)
    (hnf : ∀ o, s.heap.get? I = some o → ¬ frozen o) (hk : ∀ b o, b ≠ I → s.heap.get? b = some o → h'.get? b = some o) : Rep C.H C.T φ σ h' ∧ Frm C.T φ σ.length h' env ρ ∧ Froz s.heap h' := by
  have fz : Froz s.heap h' := fun b o e f => hk b o (fun q => hnf o (q ▸ e) f) e
  refine ⟨⟨fun b o e => hk b o (fun q => by rw [q, hT] at e; cases e) (R.top b o e), R.low, R.inj, fun k o e => (R.obj k o e).mono fz (Nat.le_refl _) (fun _ _ => rfl) fun x ex => hk _ x (O.o k (List.getElem?_eq_some_iff.mp e).1) ex⟩, ?_, fz⟩
  obtain ⟨m, ⟨o, es, ep, e, r⟩, hm⟩ := F.ns
  refine ⟨⟨m, ⟨o, es, ep, hk _ _ (Ne.symm O.l) e, r⟩, fun x v hx kx => ?_⟩, fun x v hx kx => ?_, fun x kx => ?_, F.apart, F.low, F.foot, fun x c hc => ?_⟩
  · obtain ⟨v', h1, h2⟩ := hm x v hx kx; exact ⟨v', h1, h2.mono fz (Nat.le_refl _) fun _ _ => rfl⟩
  · obtain ⟨c, v', h1, h2, h3⟩ := F.cl x v hx kx
    exact ⟨c, v', h1, IsCell.at h2 fun o e => hk c o (fun q => O.c x (q ▸ h1)) e, h3.mono fz (Nat.le_refl _) fun _ _ => rfl⟩
  · obtain ⟨c, v₀, h1, h2⟩ := F.own x kx
    exact ⟨c, v₀, h1, IsCell.at h2 fun o e => hk c o (fun q => O.c x (q ▸ h1)) e⟩
  · obtain ⟨h1, h2, ⟨v₀, h3⟩, h4⟩ := F.cells x c hc
    exact ⟨h1, h2, ⟨v₀, IsCell.at h3 fun o e => hk c o (fun q => O.c x (q ▸ hc)) e⟩, h4⟩
theorem turn_off {I : Addr} {φ : Nat → Addr} {s : Shared} {h' : Heap} {tk : Nat} (R : Rep C.H C.T φ σ s.heap) (F : Frm C.T φ σ.length s.heap env ρ) (O : Off φ σ.length env I) (hT : C.T.get? I = none)
    (hnf : ∀ o, s.heap.get? I = some o → ¬ frozen o) (hal : ∃ o, h'.get? I = some o) (hk : ∀ b o, b ≠ I → s.heap.get? b = some o → h'.get? b = some o) :
    StepX C.H C.T (fun b => Foot env b ∨ b = I) φ σ s φ σ { s with heap := h', toks := tk } ∧ Frm C.T φ σ.length h' env ρ ∧ Froz s.heap h' := by
  obtain ⟨R₁, F₁, fz⟩ := rep_off R F O hT hnf hk
  exact ⟨⟨rfl, fun _ _ => rfl, Nat.le_refl _, R₁, fun b o e hb _ => hk b o (fun q => hb (.inr q)) e, fun k h1 h2 => absurd h2 (Nat.not_lt.mpr h1), fun b o e => by
      by_cases q : b = I
      · subst q; exact hal
      · exact ⟨o, hk b o q e⟩⟩, F₁, fz⟩

theorem Off.step {X : Addr → Prop} {φ φ' : Nat → Addr} {σ' : List AO} {I : Addr} {s s' : Shared} (O : Off φ σ.length env I) (S : StepX C.H C.T X φ σ s φ' σ' s') (hI : ∃ o, s.heap.get? I = some o) : Off φ' σ'.length env I := by
  refine ⟨O.l, O.c, fun k hk q => ?_⟩
  by_cases hk' : k < σ.length
  · rw [S.agree k hk'] at q; exact O.o k hk' q
  · obtain ⟨o, e⟩ := hI
    have := S.new k (Nat.le_of_not_lt hk') hk
    rw [q, e] at this; cases this

theorem for_core {I : Addr} {items : List AV} {Kept : List AO → Prop} {St : Nat → (Nat → Addr) → List AO → Heap → Prop} {target : Expr} {body : List Stmt} {K : Kf} {A : Around} {φ : Nat → Addr} {s₀ s : Shared} {R : Result → Shared → Prop}
    (src : Src C I items Kept St) (J : Nat → Loc → List AO → Prop) (hJ : J 0 ρ σ) (hkept : ∀ i ρ' σ', J i ρ' σ' → Kept σ')
    (step : ∀ i v ρ' σ', items[i]? = some v → J i ρ' σ' → ∀ A φ s Q E v', AOk n A → Rep C.H C.T φ σ' s.heap → Frm C.T φ σ'.length s.heap env ρ' → VRep φ σ'.length s.heap v v' →
      (∀ φ₁ ρ₁ σ₁ s₁, ExC C n env ρ₁ σ₁ (execs body env) (fun f ρ₂ σ₂ => match f with | .next => J (i + 1) ρ₂ σ₂ | .cont => J (i + 1) ρ₂ σ₂ | .brk => K .next ρ₂ σ₂ | .ret v => K (.ret v) ρ₂ σ₂) → StepX C.H C.T (Foot env) φ σ' s φ₁ σ₁ s₁ → Frm C.T φ₁ σ₁.length s₁.heap env ρ₁ → Q () s₁) → wpAny C.M A (assign target env v') Q E s)
    (done : ∀ ρ' σ', J items.length ρ' σ' → K .next ρ' σ')
    (hA : AOk n A) (hT : C.T.get? I = none) (hF : Frm C.T φ σ.length s.heap env ρ) (hO : Off φ σ.length env I) (hst : St 0 φ σ s.heap)
    (hS : StepX C.H C.T (fun b => Foot env b ∨ b = I) φ σ s₀ φ σ s) (hI : s₀.heap.get? I = none)
    (hQ : ∀ φ' ρ' σ' s' f f', K f ρ' σ' → StepX C.H C.T (Foot env) φ σ s₀ φ' σ' s' → Frm C.T φ' σ'.length s'.heap env ρ' → FRep φ' σ'.length s'.heap f f' → R (.ok f') s') :
    codeAny C.M A (.forLoop target (.ref I) body [] env) R s := by
  have out : ∀ {φ' σ' s'}, StepX C.H C.T (fun b => Foot env b ∨ b = I) φ σ s₀ φ' σ' s' → StepX C.H C.T (Foot env) φ σ s₀ φ' σ' s' := fun S =>
    ⟨S.same, S.agree, S.len, S.rep, fun b o e hb hφ => S.ext b o e (fun h => h.elim hb fun q => by rw [q, hI] at e; cases e) hφ, S.new, S.live⟩
  refine codeAny_forLoop_any (fun k s' => ∃ i φ' ρ' σ', J i ρ' σ' ∧ StepX C.H C.T (fun b => Foot env b ∨ b = I) φ σ s₀ φ' σ' s' ∧ Frm C.T φ' σ'.length s'.heap env ρ' ∧ Off φ' σ'.length env I ∧ St i φ' σ' s'.heap ∧ i ≤ items.length ∧ k = items.length + 1 - i) ?_ (items.length + 1)
    ⟨0, φ, ρ, σ, hJ, hS, hF, hO, hst, Nat.zero_le _, rfl⟩
  rintro k s' ⟨i, φ', ρ', σ', hj, S, F, O, st, hi, rfl⟩
  obtain ⟨oI, eI, nfI⟩ := src.here _ _ _ _ st
  have nf : ∀ o, s'.heap.get? I = some o → ¬ frozen o := fun o e => by rw [eI] at e; cases e; exact nfI
  cases hv : items[i]? with
  | none =>
    have hin : i = items.length := Nat.le_antisymm hi (by simpa using hv)
    subst hin
    refine src.done A φ' σ' s' _ _ hA.hd S.rep (hkept _ _ _ hj) st fun h' tk hk => wpAny_execs_nil ?_
    obtain ⟨R₁, F₁, fz⟩ := rep_off S.rep F O hT nf hk
    have S' := out S
    refine hQ φ' ρ' σ' _ _ _ (done _ _ hj) ⟨by rw [S.same], S.agree, S.len, R₁, fun b o e hb hφ => ?_, S.new, fun b o e => ?_⟩ F₁ .next
    · exact hk b o (fun q => by rw [q, hI] at e; cases e) (S'.ext b o e hb hφ)
    · obtain ⟨o', e'⟩ := S.live b o e
      exact ⟨o', hk b o' (fun q => by rw [q, hI] at e; cases e) e'⟩
  | some v =>
    have hlt : i < items.length := (List.getElem?_eq_some_iff.mp hv).1
    refine src.item A φ' σ' s' _ _ i v hA.hd S.rep (hkept _ _ _ hj) hv st fun v' h' tk V st' hk => ?_
    obtain ⟨o₁, e₁, nf₁⟩ := src.here _ _ _ _ st'
    obtain ⟨S₁, F₁, fz⟩ := turn_off (tk := tk) S.rep F O hT nf ⟨o₁, e₁⟩ hk
    refine src.go A φ' σ' { s' with heap := h', toks := tk } _ _ (i + 1) target v' st' ?_
    refine step i v ρ' σ' hv hj A φ' _ _ _ v' hA S₁.rep F₁ (V.mono fz (Nat.le_refl _) fun _ _ => rfl) ?_
    intro φ₂ ρ₂ σ₂ s₂ hex S₂ F₂
    have O₂ := O.step S₂ ⟨o₁, e₁⟩
    refine hex A φ₂ s₂ _ _ hA S₂.rep F₂ ?_
    intro φ₃ ρ₃ σ₃ s₃ f f' hf S₃ F₃ Vf
    have e₂ : s₂.heap.get? I = some o₁ := S₂.ext I o₁ e₁ O.foot O.o
    have e₃ : s₃.heap.get? I = some o₁ := S₃.ext I o₁ e₂ O₂.foot O₂.o
    have O₃ := O₂.step S₃ ⟨o₁, e₂⟩
    have S' := ((S.trans S₁).trans (S₂.weaken fun b h => .inl h)).trans (S₃.weaken fun b h => .inl h)
    have st₃ : St (i + 1) φ₃ σ₃ s₃.heap := by
      have st₂ := src.keep _ _ _ _ φ₂ σ₂ s₂.heap st' S₂.agree S₂.len (fun o e => by rw [e₁] at e; cases e; exact e₂) (S₂.froz S₁.rep F₁.notFrozen)
      exact src.keep _ _ _ _ φ₃ σ₃ s₃.heap st₂ S₃.agree S₃.len (fun o e => by rw [e₂] at e; cases e; exact e₃) (S₃.froz S₂.rep F₂.notFrozen)
    cases Vf with
    | next => exact ⟨items.length + 1 - (i + 1), by omega, i + 1, φ₃, ρ₃, σ₃, hf, S', F₃, O₃, st₃, hlt, rfl⟩
    | cont => exact ⟨items.length + 1 - (i + 1), by omega, i + 1, φ₃, ρ₃, σ₃, hf, S', F₃, O₃, st₃, hlt, rfl⟩
    | brk => exact hQ _ _ _ _ _ _ hf (out S') F₃ .next
    | ret V => exact hQ _ _ _ _ _ _ hf (out S') F₃ (.ret V)
end Mine
end

/-! VLoop -/
section
open PySem PySem.W PyProof.Rows PySem.Calls
namespace Mine
variable {C : Cx} {n : Nat} {env : Env} {ρ : Loc} {σ : List AO}

theorem letGo_plain {M : Model} {A : Around} {E : Value → Shared → Prop} {s : Shared} {Q : Unit → Shared → Prop} {I : Addr} {o : Obj} {nm : String} {target : Expr} {v : Value} (ho : s.heap.get? I = some o) (hc : o.cls = .type nm)
    (hn : ["enumerate", "zip", "dict_itemiterator", "dict_reverseitemiterator", "odict_iterator", "itertools.zip_longest", "itertools.pairwise"].contains nm = false) (h : Q () s) : wpAny M A (letOwnedTupleGo target (.ref I) v) Q E s := by
  unfold letOwnedTupleGo
  split
  all_goals first
    | (cases v <;> first
        | exact wpAny_pure h
        | (refine wpAny_bind (wpAny_load ho ?_)
           rw [hc]
           split
           · rename_i n vs e1 e2
             cases e1
             rw [hn, Bool.false_and, if_neg (by decide)]
             exact wpAny_pure h
           · exact wpAny_pure h))
    | exact wpAny_pure h

theorem iterObj_nf {h : Heap} {I : Addr} {o : Obj} {nm : String} (_e : h.get? I = some o) (hc : o.cls = .type nm) (h1 : nm ≠ "tuple") (h2 : nm ≠ "range") : ¬ frozen o := fun f => by
  rcases f.1 with q | q <;> rw [hc] at q <;> injection q with q <;> first | exact h1 q | exact h2 q

theorem src_list {I : Addr} {k : Nat} {vs : List AV} : Src C I vs (fun σ => σ[k]? = some (.list vs)) (fun i φ σ h => h.IsListIter I (φ k) i ∧ k < σ.length) where
  item := fun A φ σ s Q E i v hh R hk hv st hQ => by
    obtain ⟨items, hl, V, _⟩ := R.list hk
    obtain ⟨v', h1, h2⟩ := V.get hv
    obtain ⟨st, hlt⟩ := st
    refine wpAny_pyNext_list_item st hl (by simpa using h1) fun h' hit hs => ?_
    exact hQ v' h' s.toks h2 ⟨hit, hlt⟩ fun b o hb e => (hs.2 b hb).trans e
  done := fun A φ σ s Q E hh R hk st hQ => by
    obtain ⟨items, hl, V, _⟩ := R.list hk
    refine wpAny_pyNext_list_end hh st.1 hl (by simp [V.length]) fun h' he => hQ h' s.toks fun b o hb e => he b o hb e
  keep := fun i φ σ h φ' σ' h' st hφ hn hk _ => by
    obtain ⟨⟨o, e, r⟩, hlt⟩ := st
    refine ⟨?_, Nat.lt_of_lt_of_le hlt hn⟩
    rw [hφ k hlt]; exact ⟨o, hk o e, r⟩
  here := fun i φ σ h st => by obtain ⟨⟨o, e, hc, _⟩, _⟩ := st; exact ⟨o, e, iterObj_nf e hc (by decide) (by decide)⟩
  go := fun A φ σ s Q E i target v st h => by obtain ⟨⟨o, e, hc, _⟩, _⟩ := st; exact letGo_plain e hc (by decide) h
  self := fun A φ σ s Q E i hh st h => wpAny_pyIter_listiter st.1 h

noncomputable def rngItems (a c : Int) (m : Nat) : List AV := (List.range m).map fun (i : Nat) => AV.int (a + (i : Int) * c)
theorem rngItems_get {a c : Int} {m i : Nat} {v : AV} (h : (rngItems a c m)[i]? = some v) : i < m ∧ v = .int (a + (i : Int) * c) := by
  unfold rngItems at h
  rw [List.getElem?_map] at h
  cases hi : (List.range m)[i]? with
  | none => rw [hi] at h; cases h
  | some j =>
    rw [hi] at h; cases h
    obtain ⟨h1, h2⟩ := List.getElem?_eq_some_iff.mp hi
    simp at h1 h2
    subst h2; exact ⟨h1, rfl⟩
theorem rngItems_len {a c : Int} {m : Nat} : (rngItems a c m).length = m := by simp [rngItems]

theorem src_rng {I : Addr} {a c : Int} {m : Nat} : Src C I (rngItems a c m) (fun _ => True) (fun i _ _ h => IsRangeIter h I (a + (i : Int) * c) ((m : Int) - i) c) where
  item := fun A φ σ s Q E i v hh R _ hv st hQ => by
    obtain ⟨hi, rfl⟩ := rngItems_get hv
    refine (Walks.range (prog := C.prog) (w := C.w) (A := A) hh I a c m).item i s Q E hi st fun v' h' tk hv st' hk => ?_
    obtain ⟨t, rfl⟩ := hv
    exact hQ _ h' tk .int st' fun b o hb e => hk b o (by simpa using hb) e
  done := fun A φ σ s Q E hh R _ st hQ => by
    rw [rngItems_len] at st
    exact (Walks.range (prog := C.prog) (w := C.w) (A := A) hh I a c m).done s Q E st fun h' tk hk => hQ h' tk fun b o hb e => hk b o (by simpa using hb) e
  keep := fun i φ σ h φ' σ' h' st _ _ hk _ => hk _ st
  here := fun i φ σ h st => ⟨_, st, iterObj_nf st rfl (by decide) (by decide)⟩
  go := fun A φ σ s Q E i target v st h => letGo_plain st rfl (by decide) h
  self := fun A φ σ s Q E i hh st h => (Walks.range (prog := C.prog) (w := C.w) (A := A) hh I a c m).self i s Q E st h

theorem src_tup {I a : Addr} {items : List Value} {vs : List AV} (hne : a ≠ I) : Src C I vs (fun _ => True) (fun i φ σ h => h.IsTupleIter I a i ∧ (∃ o ep, h.get? a = some o ∧ o.cls = .type "tuple" ∧ o.data = .seq items.toArray ep) ∧ VReps φ σ.length h vs items) where
  item := fun A φ σ s Q E i v hh R _ hv st hQ => by
    obtain ⟨st, ⟨o, ep, e, hc, hd⟩, V⟩ := st
    obtain ⟨v', h1, h2⟩ := V.get hv
    have hi : i < items.toArray.size := by have := (List.getElem?_eq_some_iff.mp hv).1; rw [V.length] at this; simpa using this
    refine (Walks.tuple (prog := C.prog) (w := C.w) (A := A) hh I a hne items.toArray).item i s Q E hi ⟨st, ⟨o, e, hc, ep, hd⟩⟩ fun v'' h' tk hv' st' hk => ?_
    have : v'' = v' := by
      have h3 : items[i]? = some v'' := by simpa using hv'
      rw [h1] at h3; exact (Option.some.inj h3).symm
    subst this
    have fz : Froz s.heap h' := fun b o e f => hk b o (by
      intro q
      have q : b = I := by simpa using q
      subst q
      obtain ⟨o', e', hc', _⟩ := st
      rw [e] at e'; cases e'
      exact iterObj_nf e hc' (by decide) (by decide) f) e
    exact hQ _ h' tk h2 ⟨st'.1, ⟨o, ep, fz _ _ e (frozen_tup hc hd), hc, hd⟩, V.mono fz (Nat.le_refl _) fun _ _ => rfl⟩ fun b o hb e => hk b o (by simpa using hb) e
  done := fun A φ σ s Q E hh R _ st hQ => by
    obtain ⟨st, ⟨o, ep, e, hc, hd⟩, V⟩ := st
    have hl : vs.length = items.toArray.size := by rw [V.length]; simp
    rw [hl] at st
    exact (Walks.tuple (prog := C.prog) (w := C.w) (A := A) hh I a hne items.toArray).done s Q E ⟨st, ⟨o, e, hc, ep, hd⟩⟩ fun h' tk hk => hQ h' tk fun b o hb e => hk b o (by simpa using hb) e
  keep := fun i φ σ h φ' σ' h' st hφ hn hk fz => by
    obtain ⟨⟨o', e', r'⟩, ⟨o, ep, e, hc, hd⟩, V⟩ := st
    exact ⟨⟨o', hk _ e', r'⟩, ⟨o, ep, fz _ _ e (frozen_tup hc hd), hc, hd⟩, V.mono fz hn hφ⟩
  here := fun i φ σ h st => by obtain ⟨⟨o, e, hc, _⟩, _⟩ := st; exact ⟨o, e, iterObj_nf e hc (by decide) (by decide)⟩
  go := fun A φ σ s Q E i target v st h => by obtain ⟨⟨o, e, hc, _⟩, _⟩ := st; exact letGo_plain e hc (by decide) h
  self := fun A φ σ s Q E i hh st h => by
    obtain ⟨st, ⟨o, ep, e, hc, hd⟩, V⟩ := st
    exact (Walks.tuple (prog := C.prog) (w := C.w) (A := A) hh I a hne items.toArray).self i s Q E ⟨st, ⟨o, e, hc, ep, hd⟩⟩ h

/-- what may be gone through, its items, and what has to stay -/
inductive IterOk : AV → List AV → (List AO → Prop) → Prop
  | list {k : Nat} {vs : List AV} : IterOk (.ref k) vs (fun σ => σ[k]? = some (.list vs))
  | tup {vs : List AV} : IterOk (.tup vs) vs (fun _ => True)
  | rng {a b c : Int} {m : Nat} : Builtin.Range.small a b c = true → Builtin.Range.rangeSize a b c = m → IterOk (.rng a b c) (rngItems a c m) (fun _ => True)

theorem iter_start {it : AV} {items : List AV} {Kept : List AO → Prop} (ok : IterOk it items Kept) {A : Around} {φ : Nat → Addr} {s : Shared} {it' : Value} {Q : Value → Shared → Prop} {E : Value → Shared → Prop}
    (R : Rep C.H C.T φ σ s.heap) (hk : Kept σ) (V : VRep φ σ.length s.heap it it')
    (h : ∀ St o, Src C s.heap.objs.size items Kept St → St 0 φ σ (s.heap.push o) → Q (.ref s.heap.objs.size) { s with heap := s.heap.push o }) : wpAny C.M A (pyIter it') Q E s := by
  cases ok with
  | list =>
    cases V with
    | ref hlt =>
      obtain ⟨its, hl, _⟩ := R.list hk
      exact wpAny_pyIter_list hl (h _ _ src_list ⟨⟨_, Heap.get?_push_size _ rfl, rfl, rfl⟩, hlt⟩)
  | tup =>
    cases V with
    | tup e c d r =>
      have hne := Nat.ne_of_lt (Heap.lt_size e)
      refine wpAny_pyIter_tuple ⟨_, e, c, _, d⟩ (h _ _ (src_tup hne) ⟨⟨_, Heap.get?_push_size _ rfl, rfl, rfl⟩, ⟨_, _, Heap.get?_push_of_some _ e, c, d⟩, r.mono (fun b x e _ => Heap.get?_push_of_some _ e) (Nat.le_refl _) fun _ _ => rfl⟩)
  | rng hs hm =>
    cases V with
    | rng hr =>
      refine wpAny_pyIter_range hr hs ?_
      rw [hm]
      refine h _ _ src_rng ?_
      have := fun x y z : Int => Heap.get?_push_size s.heap (o := { cls := Value.type "range_iterator", data := Data.fields #[rawInt x, rawInt y, rawInt z] }) rfl
      simpa using this _ _ _

/-- a target takes a value -/
noncomputable def TgtC (C : Cx) (n : Nat) (env : Env) (target : Expr) (v : AV) (ρ : Loc) (σ : List AO) (K : Loc → List AO → Prop) : Prop :=
  ∀ A φ s Q E v', AOk n A → Rep C.H C.T φ σ s.heap → Frm C.T φ σ.length s.heap env ρ → VRep φ σ.length s.heap v v' →
    (∀ φ₁ ρ₁ σ₁ s₁, K ρ₁ σ₁ → StepX C.H C.T (Foot env) φ σ s φ₁ σ₁ s₁ → Frm C.T φ₁ σ₁.length s₁.heap env ρ₁ → Q () s₁) → wpAny C.M A (assign target env v') Q E s

noncomputable def TgtN (C : Cx) (n : Nat) (env : Env) (names : List PySem.Str) (target : Expr) (v : AV) (ρ : Loc) (σ : List AO) (K : Loc → List AO → Prop) : Prop :=
  ∀ A φ s Q E v', AOk n A → Rep C.H C.T φ σ s.heap → Frm C.T φ σ.length s.heap env ρ → VRep φ σ.length s.heap v v' →
    (∀ φ₁ ρ₁ σ₁ s₁, K ρ₁ σ₁ → StepX C.H C.T (FootN env names) φ σ s φ₁ σ₁ s₁ → Frm C.T φ₁ σ₁.length s₁.heap env ρ₁ → Q () s₁) → wpAny C.M A (assign target env v') Q E s
theorem TgtN.toC {names : List PySem.Str} {target : Expr} {v : AV} {K : Loc → List AO → Prop} (h : TgtN C n env names target v ρ σ K) : TgtC C n env target v ρ σ K :=
  fun A φ s Q E v' hA R F V P => h A φ s Q E v' hA R F V fun φ₁ ρ₁ σ₁ s₁ k S F => P φ₁ ρ₁ σ₁ s₁ k (S.weaken fun _ h => h.foot) F
theorem tgt_name {names : List PySem.Str} {x : PySem.Str} {p : Pos} {v : AV} {K : Loc → List AO → Prop} (h : K (upd ρ x v) σ) (hl : env.kindOf x = some .local ∨ env.kindOf x = some .cell) (hk : env.scope.kind = .function) (hx : x ∈ names) : TgtN C n env names (.Name x p) v ρ σ K :=
  fun _ φ s _ _ v' _ R F V P => wpAny_assign_Name (store_name R F V hl hk fun s' S F' => P φ _ σ s' h (S.weaken fun _ h => h.sub fun y hy => by rw [List.mem_singleton.mp hy]; exact hx) F')

/-- several targets in a row -/
noncomputable def TgtsN (C : Cx) (n : Nat) (env : Env) (names : List PySem.Str) (ts : List (Value → Sem Unit)) (vs : List AV) (ρ : Loc) (σ : List AO) (K : Loc → List AO → Prop) : Prop :=
  ∀ A φ s Q E vs', AOk n A → Rep C.H C.T φ σ s.heap → Frm C.T φ σ.length s.heap env ρ → VReps φ σ.length s.heap vs vs' →
    (∀ φ₁ ρ₁ σ₁ s₁, K ρ₁ σ₁ → StepX C.H C.T (FootN env names) φ σ s φ₁ σ₁ s₁ → Frm C.T φ₁ σ₁.length s₁.heap env ρ₁ → Q () s₁) → wpAny C.M A (assignInOrder ts vs') Q E s
theorem tgts_nil {names : List PySem.Str} {K : Loc → List AO → Prop} (h : K ρ σ) : TgtsN C n env names [] [] ρ σ K := fun _ φ s _ _ _ _ R F V P => by
  cases V; exact assignInOrder_nil (P _ _ _ _ h (StepX.refl R) F)
theorem tgts_cons {names : List PySem.Str} {t : Expr} {ts : List (Value → Sem Unit)} {v : AV} {vs : List AV} {K : Loc → List AO → Prop} (h : TgtN C n env names t v ρ σ fun ρ₁ σ₁ => TgtsN C n env names ts vs ρ₁ σ₁ K) : TgtsN C n env names (assign t env :: ts) (v :: vs) ρ σ K := fun A φ s Q E vs' hA R F V P => by
  cases V with
  | cons V0 Vr =>
    refine assignInOrder_cons (h A φ s _ E _ hA R F V0 ?_)
    intro φ₁ ρ₁ σ₁ s₁ hk S₁ F₁
    exact hk A φ₁ s₁ Q E _ hA S₁.rep F₁ (Vr.stepX R F (S₁.weaken fun _ h => h.foot)) fun φ₂ ρ₂ σ₂ s₂ hk S₂ F₂ => P _ _ _ _ hk (S₁.trans S₂) F₂
theorem keep_all {h h' : Heap} (he : Heap.ExtBut h.objs.size h h') : ∀ b o, h.get? b = some o → h'.get? b = some o := fun b o e => he b o (Nat.ne_of_lt (Heap.lt_size e)) e
theorem tgt_tup {names : List PySem.Str} {elts : List Expr} {k : Nat} {pos : Pos} {vs : List AV} {K : Loc → List AO → Prop} (h : TgtsN C n env names ((assignEach elts env).map (·.2)) vs ρ σ K) (hn : (assignEach elts env).length = vs.length) (hstar : (assignEach elts env).findIdx? (·.1) = none) :
    TgtN C n env names (.Tuple elts k pos) (.tup vs) ρ σ K := fun A φ s Q E v' hA R F V P => by
  cases V with
  | tup e c d r =>
    refine assign_Tuple_tuple hA.hd ⟨_, e, c, _, d⟩ (by rw [hn, r.length]; simp) hstar fun h' he => ?_
    have S₀ : Step C.H C.T env.locals φ σ s φ σ { s with heap := h' } := Step.ofKeep R (keep_all he)
    refine h A φ _ Q E _ hA S₀.rep (F.step R S₀) ?_ fun φ₁ ρ₁ σ₁ s₁ hk S F => P _ _ _ _ hk ((S₀.toStepX.weaken fun _ h => .inl h).trans S) F
    exact r.step R F S₀

noncomputable def updL : List PySem.Str → List AV → Loc → Loc
  | x :: xs, v :: vs, ρ => updL xs vs (upd ρ x v)
  | _, _, ρ => ρ
theorem ex_assignT {elts : List Expr} {k : Nat} {tpos pos : Pos} {value : Expr} {K : Kf} (h : EvC C n env ρ σ value fun v σ₁ => TgtC C n env (.Tuple elts k tpos) v ρ σ₁ fun ρ₁ σ₂ => K .next ρ₁ σ₂)
    (hs : swapsWithSole [.Tuple elts k tpos] value pos.line env = pure false) (hw : swappedStores [.Tuple elts k tpos] value env = pure none) : ExC C n env ρ σ (exec (.Assign [.Tuple elts k tpos] value pos) env) K :=
  fun A φ s Q E hA R F P => Assign_Tuple (h A φ s _ E hA R F fun φ₁ σ₁ s₁ v v' hv S₁ V =>
    hv A φ₁ s₁ _ E v' hA S₁.rep (F.step R S₁) V fun φ₂ ρ₂ σ₂ s₂ hk S₂ F₂ => P _ _ _ _ _ _ hk (S₁.toFoot.trans S₂) F₂ .next) hs hw
theorem bind_row {A : Around} {E : Value → Shared → Prop} (hk : env.scope.kind = .function) (names : List PySem.Str) : ∀ {vs : List AV} {ρ : Loc} {vs' : List Value} {φ : Nat → Addr} {σ : List AO} {s : Shared} {Q : Unit → Shared → Prop}, (∀ x ∈ names, env.kindOf x = some .local ∨ env.kindOf x = some .cell) →
    Rep C.H C.T φ σ s.heap → Frm C.T φ σ.length s.heap env ρ → VReps φ σ.length s.heap vs vs' → vs.length = names.length → (∀ s', StepX C.H C.T (Foot env) φ σ s φ σ s' → Frm C.T φ σ.length s'.heap env (updL names vs ρ) → Q () s') →
    wpAny C.M A (assignInOrder (names.map fun n => bindName env n) vs') Q E s := by
  induction names with
  | nil =>
    intro vs ρ vs' φ σ s Q hl R F V hn h
    cases V with
    | nil => exact assignInOrder_nil (h _ (StepX.refl R) F)
    | cons V0 Vr => simp at hn
  | cons x r ih =>
    intro vs ρ vs' φ σ s Q hl R F V hn h
    cases V with
    | nil => simp at hn
    | cons V0 Vr =>
      refine assignInOrder_cons (bindName_ (store_name R F V0 (hl x List.mem_cons_self) hk fun s' S F' => ?_))
      have S' := S.weaken (Y := Foot env) fun _ h => h.foot
      exact ih (fun y hy => hl y (List.mem_cons_of_mem _ hy)) S.rep F' (Vr.stepX R F S') (by simpa using hn) fun s'' S'' F'' => h s'' (S'.trans S'') F''
theorem VReps.reverse {φ : Nat → Addr} {m : Nat} {h : Heap} : ∀ {as : List AV} {vs : List Value}, VReps φ m h as vs → VReps φ m h as.reverse vs.reverse
  | _, _, .nil => .nil
  | _, _, .cons a r => by rw [List.reverse_cons, List.reverse_cons]; exact (VReps.reverse r).append (.cons a .nil)
theorem ex_assignS {elts : List Expr} {k : Nat} {tpos pos : Pos} {value : Expr} {names : List PySem.Str} {K : Kf} (h : EvC C n env ρ σ value fun v σ₁ => ∃ vs, v = .tup vs ∧ vs.length = names.length ∧ K .next (updL names.reverse vs.reverse ρ) σ₁)
    (hw : swappedStores [.Tuple elts k tpos] value env = pure (some names)) (hs : swapsWithSole [.Tuple elts k tpos] value pos.line env = pure false) (hl : ∀ x ∈ names, env.kindOf x = some .local ∨ env.kindOf x = some .cell) (hk : env.scope.kind = .function) :
    ExC C n env ρ σ (exec (.Assign [.Tuple elts k tpos] value pos) env) K := fun A φ s Q E hA R F P =>
  Assign_Tuple_swapped (h A φ s _ E hA R F fun φ₁ σ₁ s₁ v v' hv S₁ V => by
    obtain ⟨vs, rfl, hn, hk'⟩ := hv
    have F₁ := F.step R S₁
    cases V with
    | tup e c d r =>
      rename_i items _ _ _
      have ht : IsTup s₁.heap _ items.toArray := ⟨_, e, c, _, d⟩
      have hnn : names.length = items.toArray.size := by rw [← hn, r.length]; simp
      rw [hnn]
      refine unpackItems_tuple hA.hd ht fun h' he => ?_
      have S₀ : Step C.H C.T env.locals φ₁ σ₁ s₁ φ₁ σ₁ { s₁ with heap := h' } := Step.ofKeep S₁.rep (keep_all he)
      have F₂ := F₁.step S₁.rep S₀
      have V₂ := r.step S₁.rep F₁ S₀
      have := V₂.reverse
      exact bind_row (ρ := ρ) hk _ (fun x hx => hl x (List.mem_reverse.mp hx)) S₀.rep F₂ this (by simp [hn]) fun s' S' F' => P _ _ _ _ _ _ hk' (((S₁.trans S₀).toFoot).trans S') F' .next) hs hw

theorem off_new {φ : Nat → Addr} {s : Shared} (R : Rep C.H C.T φ σ s.heap) (F : Frm C.T φ σ.length s.heap env ρ) : Off φ σ.length env s.heap.objs.size :=
  ⟨fun q => by have := F.len; rw [← q] at this; exact Nat.lt_irrefl _ this, fun x q => by obtain ⟨_, _, ⟨v, hv⟩, _⟩ := F.cells x _ q; exact Nat.lt_irrefl _ hv.lt, fun k hk q => by have := R.lt hk; rw [q] at this; exact Nat.lt_irrefl _ this⟩
theorem get_size (h : Heap) : h.get? h.objs.size = none := by
  cases e : h.get? h.objs.size with
  | none => rfl
  | some o => exact absurd (Heap.lt_size e) (Nat.lt_irrefl _)

theorem ex_for {target iter : Expr} {body : List Stmt} {pos : Pos} {K : Kf}
    (h : EvC C n env ρ σ iter fun it σ₁ => ∃ items Kept, IterOk it items Kept ∧ ∃ J : Nat → Loc → List AO → Prop, J 0 ρ σ₁ ∧ (∀ i ρ' σ', J i ρ' σ' → Kept σ') ∧
      (∀ i v ρ' σ', items[i]? = some v → J i ρ' σ' → TgtC C n env target v ρ' σ' fun ρ₁ σ₁ => ExC C n env ρ₁ σ₁ (execs body env) fun f ρ₂ σ₂ => match f with | .next => J (i + 1) ρ₂ σ₂ | .cont => J (i + 1) ρ₂ σ₂ | .brk => K .next ρ₂ σ₂ | .ret v => K (.ret v) ρ₂ σ₂) ∧
      (∀ ρ' σ', J items.length ρ' σ' → K .next ρ' σ'))
    (hs : ∀ x, foldedSetIterable iter env x = pure x) : ExC C n env ρ σ (exec (.For target iter body [] pos) env) K := by
  intro A φ s Q E hA R F P
  refine wpAny_For (h A φ s _ E hA R F ?_) hs
  rintro φ₁ σ₁ s₁ it it' ⟨items, Kept, ok, J, hJ, hkept, step, done⟩ S₁ V
  have F₁ := F.step R S₁
  refine iter_start ok S₁.rep (hkept _ _ _ hJ) V fun St o src st => ?_
  have hT : C.T.get? s₁.heap.objs.size = none := by
    cases e : C.T.get? s₁.heap.objs.size with
    | none => rfl
    | some x => exact absurd (Heap.lt_size (S₁.rep.top _ _ e)) (Nat.lt_irrefl _)
  have S₂ : Step C.H C.T env.locals φ₁ σ₁ s₁ φ₁ σ₁ { s₁ with heap := s₁.heap.push o } := Step.push S₁.rep
  have F₂ := F₁.step S₁.rep S₂
  refine for_core (K := K) src J hJ hkept (fun i v ρ' σ' hv hj A φ s Q E v' hA R F V P => step i v ρ' σ' hv hj A φ s Q E v' hA R F V P) done hA hT F₂ (off_new S₁.rep F₁) st (S₂.toStepX.weaken fun b h => .inl (.inl h)) (get_size _) ?_
  intro φ' ρ' σ' s' f f' hk S' F' Vf
  exact P φ' ρ' σ' s' f f' hk (S₁.toFoot.trans S') F' Vf
end Mine
end

/-! VBlt -/
section
open PySem PySem.W PyProof.Rows PySem.Calls
namespace Mine
variable {C : Cx} {n : Nat} {env : Env} {ρ : Loc} {σ : List AO} {K : Kv}

theorem Ns.uniq {h : Heap} {L : Addr} {m m' : PySem.Str → Option Value} (a : h.Ns L m) (b : h.Ns L m') : m = m' := by
  obtain ⟨o, es, ep, e, d, _, f⟩ := a
  obtain ⟨o', es', ep', e', d', _, f'⟩ := b
  rw [e] at e'; cases e'
  rw [d] at d'; cases d'
  exact funext fun x => (f x).symm.trans (f' x)

/-- a frame's ground and a ledger that cover the whole heap but the frame itself -/
noncomputable def cutHeap (h : Heap) (L : Addr) : Heap := ⟨h.objs.extract 0 L, h.life⟩
theorem cut_get {h : Heap} {L b : Addr} : (cutHeap h L).get? b = if b < L then h.get? b else none := by
  unfold cutHeap Heap.get?
  show (match (h.objs.extract 0 L)[b]? with | some ⟨_, _, .freed, _⟩ => none | o => o) = _
  have key : (h.objs.extract 0 L)[b]? = if b < L then h.objs[b]? else none := by
    rw [Array.getElem?_extract, Nat.zero_add, Nat.sub_zero]
    by_cases q : b < L
    · rw [if_pos q]
      by_cases z : b < h.objs.size
      · rw [if_pos (Nat.lt_min.mpr ⟨q, z⟩)]
      · rw [if_neg fun y => z (Nat.lt_min.mp y).2, Array.getElem?_eq_none (Nat.le_of_not_lt z)]
    · rw [if_neg q, if_neg fun y => q (Nat.lt_min.mp y).1]
  rw [key]
  by_cases q : b < L
  · rw [if_pos q, if_pos q]; rfl
  · rw [if_neg q, if_neg q]
noncomputable def ledgerOf (h : Heap) (L : Addr) : List (Addr × Obj) := (List.range h.objs.size).filterMap fun b => if L < b then (h.get? b).map fun o => (b, o) else none
theorem ledger_mem {h : Heap} {L : Addr} {p : Addr × Obj} : p ∈ ledgerOf h L ↔ L < p.1 ∧ h.get? p.1 = some p.2 := by
  unfold ledgerOf
  rw [List.mem_filterMap]
  constructor
  · rintro ⟨b, _, e⟩
    by_cases q : L < b
    · rw [if_pos q] at e
      cases g : h.get? b with
      | none => rw [g] at e; cases e
      | some o => rw [g] at e; cases e; exact ⟨q, g⟩
    · rw [if_neg q] at e; cases e
  · rintro ⟨q, g⟩
    exact ⟨p.1, List.mem_range.mpr (Heap.lt_size g), by rw [if_pos q, g]; rfl⟩
theorem cover {h : Heap} {L : Addr} {m : PySem.Str → Option Value} (N : h.Ns L m) : Fr (cutHeap h L) L h m ∧ News (cutHeap h L) L h (ledgerOf h L) := by
  refine ⟨⟨N, fun b o e => ?_, ?_⟩, fun p hp => ?_⟩
  · rw [cut_get] at e
    by_cases q : b < L
    · rwa [if_pos q] at e
    · rw [if_neg q] at e; cases e
  · show (h.objs.extract 0 L).size ≤ L
    rw [Array.size_extract]; omega
  · obtain ⟨q, g⟩ := ledger_mem.mp hp
    exact ⟨g, Nat.ne_of_gt q, by rw [cut_get, if_neg (Nat.not_lt.mpr (Nat.le_of_lt q))]⟩
theorem uncover {h h' : Heap} {L : Addr} {m : PySem.Str → Option Value} {news : List (Addr × Obj)} (F : Fr (cutHeap h L) L h' m) (N : News (cutHeap h L) L h' news) {b : Addr} {o : Obj} (hm : ∀ p ∈ ledgerOf h L, p.1 = b → p ∈ news) (hb : b ≠ L) (e : h.get? b = some o) : h'.get? b = some o := by
  by_cases q : b < L
  · exact F.keep b o (by rw [cut_get, if_pos q]; exact e)
  · exact (N _ (hm (b, o) (ledger_mem.mpr ⟨Nat.lt_of_le_of_ne (Nat.le_of_not_lt q) (Ne.symm hb), e⟩) rfl)).1

/-- a step whose heap keeps all but the frame, and the frame's names -/
theorem Step.ofKeepL {φ : Nat → Addr} {s : Shared} {h' : Heap} {tk : Nat} (R : Rep C.H C.T φ σ s.heap) (F : Frm C.T φ σ.length s.heap env ρ) (hk : ∀ b o, b ≠ env.locals → s.heap.get? b = some o → h'.get? b = some o) (hns : ∀ m, s.heap.Ns env.locals m → h'.Ns env.locals m) :
    Step C.H C.T env.locals φ σ s φ σ { s with heap := h', toks := tk } := by
  obtain ⟨m, N, _⟩ := F.ns
  have fz : Froz s.heap h' := fun b o e f => hk b o (fun q => by subst q; exact Ns.notFrozen N e f) e
  exact ⟨⟨rfl, fun _ _ => rfl, Nat.le_refl _, ⟨fun b o e => hk b o (Nat.ne_of_lt (Nat.lt_of_lt_of_le (Heap.lt_size e) F.low)) (R.top b o e), R.low, R.inj, fun k o e => (R.obj k o e).mono fz (Nat.le_refl _) (fun _ _ => rfl) fun x ex => hk _ x (F.foot k (List.getElem?_eq_some_iff.mp e).1) ex⟩,
    fun b o e hb _ => hk b o hb e, fun k h1 h2 => absurd h2 (Nat.not_lt.mpr h1), fun b o e => by
      by_cases q : b = env.locals
      · subst q; obtain ⟨o', _, _, e', _⟩ := hns m N; exact ⟨o', e'⟩
      · exact ⟨o, hk b o q e⟩⟩, hns⟩

/-- a new thing of ours at a free place -/
theorem Step.made {L : Addr} {φ : Nat → Addr} {s : Shared} {D : Addr} {ao : AO} (R : Rep C.H C.T φ σ s.heap) (hT : C.T.objs.size ≤ D) (hD : ∀ k, k < σ.length → φ k ≠ D)
    (ho : ORep C.H (put φ σ.length D) (σ.length + 1) s.heap D ao) {s₀ : Shared} (S₀ : Step C.H C.T L φ σ s₀ φ σ s) (h₀ : s₀.heap.get? D = none) :
    Step C.H C.T L φ σ s₀ (put φ σ.length D) (σ ++ [ao]) s := by
  have hag : ∀ k, k < σ.length → put φ σ.length D k = φ k := fun k hk => by unfold put; rw [if_neg (Nat.ne_of_lt hk)]
  have hself : put φ σ.length D σ.length = D := by unfold put; rw [if_pos rfl]
  have hlen : (σ ++ [ao]).length = σ.length + 1 := by simp
  refine ⟨⟨S₀.same, hag, by simp, ⟨R.top, fun k h => ?_, fun i j hi hj e => ?_, fun k x e => ?_⟩, S₀.ext, fun k h1 h2 => ?_, S₀.live⟩, S₀.ns⟩
  · rw [hlen] at h
    by_cases q : k = σ.length
    · subst q; rw [hself]; exact hT
    · rw [hag k (by omega)]; exact R.low k (by omega)
  · rw [hlen] at hi hj
    by_cases p : i = σ.length <;> by_cases q : j = σ.length
    · rw [p, q]
    · subst p; rw [hself, hag j (by omega)] at e; exact absurd e.symm (hD j (by omega))
    · subst q; rw [hself, hag i (by omega)] at e; exact absurd e (hD i (by omega))
    · rw [hag i (by omega), hag j (by omega)] at e; exact R.inj i j (by omega) (by omega) e
  · rw [hlen]
    by_cases q : k < σ.length
    · rw [List.getElem?_append_left q] at e
      rw [hag k q]
      exact (R.obj k x e).mono (Froz.refl _) (Nat.le_succ _) hag (fun x e => e)
    · rw [List.getElem?_append_right (Nat.le_of_not_lt q)] at e
      have hkk : k = σ.length := by
        cases hz : k - σ.length with
        | zero => omega
        | succ z => rw [hz] at e; simp at e
      subst hkk
      rw [Nat.sub_self] at e
      cases e
      rw [hself]; exact ho
  · rw [hlen] at h2
    have : k = σ.length := by omega
    subst this; rw [hself]; exact h₀

noncomputable def iL (ns : List Int) : List AV := ns.map .int
theorem VReps.toInts {φ : Nat → Addr} {m : Nat} {h : Heap} : ∀ {ns : List Int} {vs : List Value}, VReps φ m h (iL ns) vs → IntsAre vs ns
  | [], _, .nil => .nil
  | i :: ns, _, .cons a r => by cases a; exact .cons _ _ (VReps.toInts r)
theorem IntsAre.reps {φ : Nat → Addr} {m : Nat} {h : Heap} : ∀ {ns : List Int} {vs : List Value}, IntsAre vs ns → VReps φ m h (iL ns) vs
  | _, _, .nil => .nil
  | _, _, .cons _ _ r => .cons .int (IntsAre.reps r)

theorem put_ref {φ : Nat → Addr} {σ : List AO} {ao : AO} {h : Heap} {D : Addr} : VRep (put φ σ.length D) (σ ++ [ao]).length h (.ref σ.length) (.ref D) := by
  have := VRep.ref (φ := put φ σ.length D) (n := (σ ++ [ao]).length) (h := h) (k := σ.length) (by simp)
  have e : put φ σ.length D σ.length = D := by unfold put; rw [if_pos rfl]
  rw [e] at this; exact this

theorem VReps.one {φ : Nat → Addr} {m : Nat} {h : Heap} {a : AV} {vs : List Value} (V : VReps φ m h [a] vs) : ∃ v, vs = [v] ∧ VRep φ m h a v := by
  cases V with
  | cons A r => cases r; exact ⟨_, rfl, A⟩
theorem VReps.two {φ : Nat → Addr} {m : Nat} {h : Heap} {a b : AV} {vs : List Value} (V : VReps φ m h [a, b] vs) : ∃ v w, vs = [v, w] ∧ VRep φ m h a v ∧ VRep φ m h b w := by
  cases V with
  | cons A r => obtain ⟨w, rfl, B⟩ := r.one; exact ⟨_, _, rfl, A, B⟩
theorem VReps.three {φ : Nat → Addr} {m : Nat} {h : Heap} {a b c : AV} {vs : List Value} (V : VReps φ m h [a, b, c] vs) : ∃ v w x, vs = [v, w, x] ∧ VRep φ m h a v ∧ VRep φ m h b w ∧ VRep φ m h c x := by
  cases V with
  | cons A r => obtain ⟨w, x, rfl, B, D⟩ := r.two; exact ⟨_, _, _, rfl, A, B, D⟩

/-! built-ins -/
theorem b_range1 {a : Int} (h : K (.rng 0 a 1) σ) : CallC C n env ρ σ (.top (.type "range")) [.int a] K := by
  intro A φ s Q E f' vs' hA R F Vf V P
  cases Vf; obtain ⟨_, rfl, V0⟩ := V.one; cases V0
  refine call_range_1 ?_
  exact P φ σ _ _ _ h (Step.push R) (.rng (Heap.get?_push_size _ rfl))
theorem b_range2 {a b : Int} (h : K (.rng a b 1) σ) : CallC C n env ρ σ (.top (.type "range")) [.int a, .int b] K := by
  intro A φ s Q E f' vs' hA R F Vf V P
  cases Vf; obtain ⟨_, _, rfl, V0, V1⟩ := V.two; cases V0; cases V1
  refine call_range_2 ?_
  exact P φ σ _ _ _ h (Step.push R) (.rng (Heap.get?_push_size _ rfl))
theorem b_range3 {a b c : Int} (hc : c ≠ 0) (hp : Builtin.divisionGoesByPylong (b - a) c = false) (h : K (.rng a b c) σ) : CallC C n env ρ σ (.top (.type "range")) [.int a, .int b, .int c] K := by
  intro A φ s Q E f' vs' hA R F Vf V P
  cases Vf; obtain ⟨_, _, _, rfl, V0, V1, V2⟩ := V.three; cases V0; cases V1; cases V2
  refine call_range_3 hc ?_ (.inl hp)
  exact P φ σ _ _ _ h (Step.push R) (.rng (Heap.get?_push_size _ rfl))
theorem b_abs {a : Int} (h : K (.int (if a < 0 then -a else a)) σ) : CallC C n env ρ σ (.top (.builtin "abs")) [.int a] K := by
  intro A φ s Q E f' vs' hA R F Vf V P
  cases Vf; obtain ⟨_, rfl, V0⟩ := V.one; cases V0
  exact call_abs_int fun u tk => P.tok R h .int
theorem b_int_int {a : Int} (h : K (.int a) σ) : CallC C n env ρ σ (.top (.type "int")) [.int a] K := by
  intro A φ s Q E f' vs' hA R F Vf V P
  cases Vf; obtain ⟨_, rfl, V0⟩ := V.one; cases V0
  exact call_int_int (P.now R h .int)
theorem b_int_bool {b : Bool} (h : K (.int (if b then 1 else 0)) σ) : CallC C n env ρ σ (.top (.type "int")) [.bool b] K := by
  intro A φ s Q E f' vs' hA R F Vf V P
  cases Vf; obtain ⟨_, rfl, V0⟩ := V.one; cases V0
  exact call_int_bool (P.tok R h .int)
theorem b_max {a b : Int} (h : K (.int (if b > a then b else a)) σ) : CallC C n env ρ σ (.top (.builtin "max")) [.int a, .int b] K := by
  intro A φ s Q E f' vs' hA R F Vf V P
  cases Vf; obtain ⟨_, _, rfl, V0, V1⟩ := V.two; cases V0; cases V1
  refine max_two_ints hA.hd fun h' tk hk => ?_
  by_cases q : b > a
  · rw [if_pos q] at h ⊢
    exact P φ σ _ _ _ h (Step.ofKeep R hk) .int
  · rw [if_neg q] at h ⊢
    exact P φ σ _ _ _ h (Step.ofKeep R hk) .int
theorem b_len {k : Nat} {vs : List AV} (e : σ[k]? = some (.list vs)) (h : K (.int vs.length) σ) : CallC C n env ρ σ (.top (.builtin "len")) [.ref k] K := by
  intro A φ s Q E f' vs' hA R F Vf V P
  cases Vf; obtain ⟨_, rfl, V0⟩ := V.one; cases V0
  obtain ⟨items, hl, hv, hn⟩ := R.list e
  have hlen : vs.length = items.length := hv.length
  refine call_len_list hl (by simp only [List.size_toArray]; omega) ?_
  simp only [List.size_toArray, ← hlen]
  exact P.tok R h .int
theorem b_sum {k : Nat} {ns : List Int} (e : σ[k]? = some (.list (iL ns))) (h : K (.int ns.sum) σ) : CallC C n env ρ σ (.top (.builtin "sum")) [.ref k] K := by
  intro A φ s Q E f' vs' hA R F Vf V P
  cases Vf; obtain ⟨_, rfl, V0⟩ := V.one; cases V0
  obtain ⟨items, hl, hv, hn⟩ := R.list e
  obtain ⟨m, N, _⟩ := F.ns
  obtain ⟨F', N'⟩ := cover N
  refine sumK hA.hd F' N' hl hv.toInts fun h' tk t' F₁ N₁ => ?_
  exact P φ σ _ _ _ h (Step.ofKeepL R F (fun b o hb e => uncover F₁ N₁ (fun p hp _ => hp) hb e) fun m' Nm => by rw [Ns.uniq Nm N]; exact F₁.ns) .int
theorem b_min {k : Nat} {ns : List Int} (e : σ[k]? = some (.list (iL ns))) (hne : 0 < ns.length) (h : ∀ M, M ∈ ns → (∀ a ∈ ns, M ≤ a) → K (.int M) σ) : CallC C n env ρ σ (.top (.builtin "min")) [.ref k] K := by
  intro A φ s Q E f' vs' hA R F Vf V P
  cases Vf; obtain ⟨_, rfl, V0⟩ := V.one; cases V0
  obtain ⟨items, hl, hv, hn⟩ := R.list e
  obtain ⟨m, N, _⟩ := F.ns
  obtain ⟨F', N'⟩ := cover N
  refine kso_min F' N' hl hv.toInts hne hA.hd fun h' M t tk F₁ N₁ hM hle => ?_
  exact P φ σ _ _ _ (h M hM hle) (Step.ofKeepL R F (fun b o hb e => uncover F₁ N₁ (fun p hp _ => hp) hb e) fun m' Nm => by rw [Ns.uniq Nm N]; exact F₁.ns) .int
theorem b_sorted {k : Nat} {ns : List Int} (e : σ[k]? = some (.list (iL ns))) (hlt : ns.length < 64) (h : ∀ ns', ns'.Perm ns → ns'.Pairwise (· ≤ ·) → K (.ref σ.length) (σ ++ [.list (iL ns')])) : CallC C n env ρ σ (.top (.builtin "sorted")) [.ref k] K := by
  intro A φ s Q E f' vs' hA R F Vf V P
  cases Vf; obtain ⟨_, rfl, V0⟩ := V.one; cases V0
  obtain ⟨items, hl, hv, hn⟩ := R.list e
  obtain ⟨m, N, _⟩ := F.ns
  obtain ⟨F', N'⟩ := cover N
  have hlen : items.length = ns.length := by rw [← hv.length]; simp [iL]
  refine sorted_N F' N' hl hv.toInts (by rw [hlen]; exact hlt) fun h' vs' ns' e F₁ N₁ hi hp hs => ?_
  have S₀ : Step C.H C.T env.locals φ σ s φ σ { s with heap := h', toks := s.toks } := Step.ofKeepL R F (fun b o hb e => uncover F₁ N₁ (fun p hp _ => .tail _ hp) hb e) fun m' Nm => by rw [Ns.uniq Nm N]; exact F₁.ns
  have gD : s.heap.get? (s.heap.objs.size + 1) = none := by
    cases z : s.heap.get? (s.heap.objs.size + 1) with
    | none => rfl
    | some o => exact absurd (Heap.lt_size z) (Nat.not_lt.mpr (Nat.le_succ _))
  refine P _ _ _ _ _ (h ns' hp hs) (Step.made (ao := .list (iL ns')) S₀.rep (Nat.le_succ_of_le (R.topsize (h := s.heap) F)) (fun k hk q => ?_) ⟨vs', _, (N₁ _ (.head _)).1, IntsAre.reps hi, ?_⟩ S₀ gD) put_ref
  · have := R.lt hk
    rw [q] at this
    exact absurd (Nat.lt_trans (Nat.lt_succ_self _) this) (Nat.lt_irrefl _)
  · have h1 := hp.length_eq
    have h2 : (iL ns').length = ns'.length := by simp [iL]
    rw [h2, h1]; omega
theorem b_list_rng {a b c : Int} {m : Nat} (hs : Builtin.Range.small a b c = true) (hm : Builtin.Range.rangeSize a b c = m) (hle : m ≤ 4096) (h : K (.ref σ.length) (σ ++ [.list (rngItems a c m)])) : CallC C n env ρ σ (.top (.type "list")) [.rng a b c] K := by
  intro A φ s Q E f' vs' hA R F Vf V P
  cases Vf; obtain ⟨_, rfl, V0⟩ := V.one
  cases V0 with
  | rng hr =>
    refine call_list_range hA.hd hr hs hm (by omega) fun h' tk acc c' hk hD hacc => ?_
    have S₀ : Step C.H C.T env.locals φ σ s φ σ { s with heap := h', toks := tk } := Step.ofKeep R hk
    have key : ∀ (l : List Value) (i₀ : Nat), (∀ j v, l[j]? = some v → ∃ t, v = Value.int (a + ((i₀ + j : Nat) : Int) * c) t) → VReps (put φ σ.length s.heap.objs.size) (σ.length + 1) h' ((List.range' i₀ l.length).map fun (i : Nat) => AV.int (a + (i : Int) * c)) l := by
      intro l
      induction l with
      | nil => intro i₀ _; exact .nil
      | cons v r ih =>
        intro i₀ hj
        obtain ⟨t, rfl⟩ := hj 0 v rfl
        refine .cons ?_ ?_
        · exact VRep.int
        · refine ih (i₀ + 1) fun j v hv => ?_
          obtain ⟨t, e⟩ := hj (j + 1) v (by simpa using hv)
          exact ⟨t, by rw [e]; congr 3; omega⟩
    have hl : acc.toList.length = m := by simpa using hacc.1
    have k0 := key acc.toList 0 fun j v hv => by
      obtain ⟨t, e⟩ := hacc.2 j v (by simpa using hv)
      exact ⟨t, by rw [e]; simp⟩
    rw [hl, ← List.range_eq_range'] at k0
    refine P _ _ _ _ _ h (Step.made (ao := .list (rngItems a c m)) S₀.rep (R.topsize (h := s.heap) F) (fun k hk q => by have := R.lt hk; rw [q] at this; exact Nat.lt_irrefl _ this) ⟨acc.toList, c', by simpa using hD, k0, by simp [rngItems]; omega⟩ S₀ (get_size _)) put_ref
end Mine
end

/-! VObj -/
section
open PySem PySem.W PyProof.Rows PySem.Calls
namespace Mine
variable {C : Cx} {n : Nat} {env : Env} {ρ : Loc} {σ : List AO} {K : Kv}

/-- one thing of ours turned -/
theorem Step.turn {φ : Nat → Addr} {s : Shared} {h' : Heap} {tk : Nat} {k : Nat} {ao : AO} (R : Rep C.H C.T φ σ s.heap) (F : Frm C.T φ σ.length s.heap env ρ) (hk : k < σ.length) (hs : Heap.SameBut (φ k) s.heap h') (ho : ORep C.H φ σ.length h' (φ k) ao) :
    Step C.H C.T env.locals φ σ s φ (σ.set k ao) { s with heap := h', toks := tk } := by
  have hne : ∀ b o, s.heap.get? b = some o → frozen o → b ≠ φ k := fun b o e f q => by
    obtain ⟨x, e', nf⟩ := (R.obj k σ[k] (List.getElem?_eq_getElem hk)).some
    rw [q, e'] at e; cases e; exact nf f
  have fz : Froz s.heap h' := fun b o e f => (hs.2 b (hne b o e f)).trans e
  refine ⟨⟨rfl, fun _ _ => rfl, by simp, ⟨fun b o e => (hs.2 b fun q => ?_).trans (R.top b o e), fun j hj => R.low j (by simpa using hj), fun i j hi hj => R.inj i j (by simpa using hi) (by simpa using hj), fun j o e => ?_⟩,
    fun b o e _ hφ => (hs.2 b fun q => hφ k hk q.symm).trans e, fun j h1 h2 => absurd (by simpa using h2) (Nat.not_lt.mpr h1), fun b o e => ?_⟩, fun m ⟨o, es, ep, e, r⟩ => ⟨o, es, ep, (hs.2 _ fun q => F.foot k hk q.symm).trans e, r⟩⟩
  · have h1 := Heap.lt_size e
    have h2 := R.low k hk
    rw [q] at h1; exact absurd h1 (Nat.not_lt.mpr h2)
  · rw [List.length_set]
    by_cases q : j = k
    · subst q
      rw [List.getElem?_set_self hk] at e
      cases e; exact ho
    · rw [List.getElem?_set_ne (Ne.symm q)] at e
      refine (R.obj j o e).mono fz (Nat.le_refl _) (fun _ _ => rfl) fun x ex => (hs.2 _ fun z => ?_).trans ex
      exact q (R.inj j k (List.getElem?_eq_some_iff.mp e).1 hk z)
  · by_cases q : b = φ k
    · obtain ⟨x, e', _⟩ := ho.some
      exact ⟨x, by rw [q]; exact e'⟩
    · exact ⟨o, (hs.2 b q).trans e⟩

theorem Rep.listAt {φ : Nat → Addr} {h : Heap} (R : Rep C.H C.T φ σ h) {k : Nat} {vs : List AV} (e : σ[k]? = some (.list vs)) : ∃ items ep, h.get? (φ k) = some (W.listOf (List.toArray items) ep) ∧ VReps φ σ.length h vs items ∧ vs.length ≤ 4096 := R.obj k _ e
theorem turn_froz {φ : Nat → Addr} {s : Shared} {h' : Heap} {k : Nat} (R : Rep C.H C.T φ σ s.heap) (hk : k < σ.length) (hs : Heap.SameBut (φ k) s.heap h') : Froz s.heap h' := fun b o e f => (hs.2 b fun q => by
  obtain ⟨x, e', nf⟩ := (R.obj k σ[k] (List.getElem?_eq_getElem hk)).some
  rw [q, e'] at e; cases e; exact nf f).trans e

theorem b_append {k : Nat} {vs : List AV} {v : AV} (e : σ[k]? = some (.list vs)) (hn : vs.length < 4096) (h : K .none (σ.set k (.list (vs ++ [v])))) : CallC C n env ρ σ (.top (.builtin "list.append")) [.ref k, v] K := by
  intro A φ s Q E f' vs' hA R F Vf V P
  cases Vf; obtain ⟨_, v', rfl, V0, V1⟩ := V.two; cases V0 with
  | ref hk =>
    obtain ⟨items, ep, he, hv, _⟩ := R.listAt e
    have hlen := hv.length
    refine append_at he (fun h' hs he' => ?_) (by rw [sizeLine_eq]; simp only [List.size_toArray]; omega)
    have fz := turn_froz R hk hs
    exact P φ _ _ _ _ h (Step.turn (tk := s.toks) (ao := .list (vs ++ [v])) R F hk hs ⟨items ++ [v'], ep + 1, by rw [he']; simp, (hv.mono fz (Nat.le_refl _) fun _ _ => rfl).append (.cons (V1.mono fz (Nat.le_refl _) fun _ _ => rfl) .nil), by simp; omega⟩) .none

theorem meth_list {k : Nat} {vs : List AV} {name : PySem.Str} {id : String} (e : σ[k]? = some (.list vs)) (slot : Slot "list" name id) (hty : typeOf (.builtin id) = pure (.type "method_descriptor")) : MethC C n env ρ σ (.ref k) name (.builtin id) := by
  intro A φ s Q E o' pl hA R F Vo hQ
  cases Vo with
  | ref hk =>
    obtain ⟨items, ep, he, hv, _⟩ := R.listAt e
    exact getMethod_builtin ⟨_, he, rfl⟩ PySem.F.plainAttrs_list slot hty (fun a e => by cases e; exact ⟨_, he, rfl⟩) hQ

/-! stores into a list, an own object -/
noncomputable def SetC (C : Cx) (n : Nat) (env : Env) (ρ : Loc) (o i v : AV) (σ : List AO) (K : List AO → Prop) : Prop :=
  ∀ A φ s (Q : Unit → Shared → Prop) E o' i' v', AOk n A → Rep C.H C.T φ σ s.heap → Frm C.T φ σ.length s.heap env ρ → VRep φ σ.length s.heap o o' → VRep φ σ.length s.heap i i' → VRep φ σ.length s.heap v v' →
    (∀ φ' σ' s', K σ' → Step C.H C.T env.locals φ σ s φ' σ' s' → Q () s') → wpAny C.M A (setItem o' i' v') Q E s

theorem set_list {k : Nat} {vs : List AV} {j : Int} {v : AV} {K : List AO → Prop} (e : σ[k]? = some (.list vs)) (h0 : 0 ≤ j) (hj : j < vs.length) (h : K (σ.set k (.list (vs.set j.toNat v)))) : SetC C n env ρ (.ref k) (.int j) v σ K := by
  intro A φ s Q E o' i' v' hA R F Vo Vi Vv P
  cases Vi; cases Vo with
  | ref hk =>
    obtain ⟨items, ep, he, hv, hn⟩ := R.listAt e
    have hlen := hv.length
    refine ki_setAt he h0 (by omega) (by simp only [List.size_toArray]; omega) ?_
    have hs : Heap.SameBut (φ k) s.heap (s.heap.update (φ k) (Obj.mapSeq fun x => x.setIfInBounds j.toNat v')) := Heap.SameBut.update ..
    have fz := turn_froz R hk hs
    have hg := Heap.get?_update_self (Obj.mapSeq fun x => x.setIfInBounds j.toNat v') he (by rfl)
    refine P φ _ _ h (Step.turn (tk := s.toks) (ao := .list (vs.set j.toNat v)) R F hk hs ⟨items.set j.toNat v', ep, ?_, (hv.mono fz (Nat.le_refl _) fun _ _ => rfl).set _ (Vv.mono fz (Nat.le_refl _) fun _ _ => rfl), by simpa using hn⟩)
    rw [hg]
    simp [Obj.mapSeq]

theorem ex_setItem {o i value : Expr} {p pos : Pos} {K : Kf} (h : EvC C n env ρ σ value fun v σ₁ => EvC C n env ρ σ₁ o fun ov σ₂ => EvC C n env ρ σ₂ i fun iv σ₃ => SetC C n env ρ ov iv v σ₃ fun σ₄ => K .next ρ σ₄)
    (hs : swapsWith value (some (.Subscript o i p)) pos.line env = pure false) : ExC C n env ρ σ (exec (.Assign [.Subscript o i p] value pos) env) K := by
  intro A φ s Q E hA R F P
  refine wpAny_Assign_Subscript (h A φ s _ E hA R F ?_) hs
  intro φ₁ σ₁ s₁ v v' hv S₁ V₁
  have F₁ := F.step R S₁
  refine hv A φ₁ s₁ _ E hA S₁.rep F₁ ?_
  intro φ₂ σ₂ s₂ ov ov' ho S₂ V₂
  have F₂ := F₁.step S₁.rep S₂
  refine ho A φ₂ s₂ _ E hA S₂.rep F₂ ?_
  intro φ₃ σ₃ s₃ iv iv' hi S₃ V₃
  have F₃ := F₂.step S₂.rep S₃
  refine hi A φ₃ s₃ _ E ov' iv' v' hA S₃.rep F₃ (V₂.step S₂.rep F₂ S₃) V₃ ((V₁.step S₁.rep F₁ S₂).step S₂.rep F₂ S₃) ?_
  intro φ₄ σ₄ s₄ hk S₄
  exact P _ _ _ _ _ _ hk (((S₁.trans S₂).trans S₃).trans S₄).toFoot (F₃.step S₃.rep S₄) .next

noncomputable def putA (x : PySem.Str) (v : AV) : List (PySem.Str × AV) → List (PySem.Str × AV)
  | [] => [(x, v)]
  | (y, w) :: r => if x = y then (y, v) :: r else (y, w) :: putA x v r
theorem Attrs.put {φ : Nat → Addr} {m : Nat} {h : Heap} {x : PySem.Str} {hs : Int} {t : Tok} {a : AV} {v : Value} (V : VRep φ m h a v) : ∀ {fs es}, Attrs φ m h fs es → Attrs φ m h (putA x a fs) (W.putL x hs (.str x t) v es)
  | _, _, .nil => .cons V .nil
  | _, _, .cons (x := y) (hs := hs') (t := t') V0 r => by
    unfold putA W.putL
    by_cases q : x = y
    · subst q
      rw [if_pos rfl, if_pos (by simp [Value.isStr])]
      exact .cons V r
    · rw [if_neg q, if_neg (by simp [Value.isStr]; exact fun e => q e.symm)]
      exact .cons V0 (Attrs.put V r)
theorem putA_len (x : PySem.Str) (v : AV) : ∀ fs : List (PySem.Str × AV), (putA x v fs).length ≤ fs.length + 1
  | [] => by simp [putA]
  | (y, w) :: r => by
    unfold putA
    split
    · simp
    · simp; exact putA_len x v r
theorem Attrs.getL_some {φ : Nat → Addr} {m : Nat} {h : Heap} {x : PySem.Str} : ∀ {fs es}, Attrs φ m h fs es → (W.getL x es).isSome = true := by
  intro fs es A
  have key : ∀ {fs es}, Attrs φ m h fs es → es.any (·.refKey) = false := by
    intro fs es A
    induction A with
    | nil => rfl
    | cons V r ih => rw [List.any_cons, ih]; rfl
  unfold W.getL
  cases List.find? (fun x_1 => x_1.key.isStr x) es with
  | some e => rfl
  | none => rw [key A]; rfl

/-- all that stands apart from the ground, the frame and one dict -/
noncomputable def led (T h : Heap) (L d : Addr) : List (Addr × Obj) := (List.range h.objs.size).filterMap fun b => if T.get? b = none ∧ b ≠ L ∧ b ≠ d then (h.get? b).map fun o => (b, o) else none
theorem led_mem {T h : Heap} {L d : Addr} {p : Addr × Obj} : p ∈ led T h L d ↔ T.get? p.1 = none ∧ p.1 ≠ L ∧ p.1 ≠ d ∧ h.get? p.1 = some p.2 := by
  unfold led
  rw [List.mem_filterMap]
  constructor
  · rintro ⟨b, _, e⟩
    by_cases q : T.get? b = none ∧ b ≠ L ∧ b ≠ d
    · rw [if_pos q] at e
      cases g : h.get? b with
      | none => rw [g] at e; cases e
      | some o => rw [g] at e; cases e; exact ⟨q.1, q.2.1, q.2.2, g⟩
    · rw [if_neg q] at e; cases e
  · rintro ⟨q1, q2, q3, g⟩
    exact ⟨p.1, List.mem_range.mpr (Heap.lt_size g), by rw [if_pos ⟨q1, q2, q3⟩, g]; rfl⟩

theorem ex_setAttr {o value : Expr} {attr : PySem.Str} {p pos : Pos} {K : Kf} (h : EvC C n env ρ σ value fun v σ₁ => EvC C n env ρ σ₁ o fun ov σ₂ => ∃ k d c fs, ov = .ref k ∧ σ₂[k]? = some (.inst c d) ∧ σ₂[d]? = some (.attrs fs) ∧ fs.length < 64 ∧
      (findIn C.K (.ref c) "__setattr__" = some (some (.builtin "object.__setattr__")) ∧ plainOver C.K c = true ∧ takerIn C.K c attr = some none ∧ hasDictIn C.K c = true) ∧ K .next ρ (σ₂.set d (.attrs (putA attr v fs))))
    (hs : swapsWith value (some (.Attribute o attr p)) pos.line env = pure false) : ExC C n env ρ σ (exec (.Assign [.Attribute o attr p] value pos) env) K := by
  intro A φ s Q E hA R F P
  refine plainObj_wpAny_Assign_Attribute (h A φ s _ E hA R F ?_) hs
  intro φ₁ σ₁ s₁ v v' hv S₁ V₁
  have F₁ := F.step R S₁
  refine hv A φ₁ s₁ _ E hA S₁.rep F₁ ?_
  rintro φ₂ σ₂ s₂ ov ov' ⟨k, d, c, fs, rfl, ek, ed, hfl, ⟨h1, h2, h3, h4⟩, hk⟩ S₂ V₂
  have F₂ := F₁.step S₁.rep S₂
  have R₂ := S₂.rep
  have V₁' := V₁.step S₁.rep F₁ S₂
  cases V₂ with
  | ref hlt =>
    obtain ⟨es, ep, I, hd, hAt, _⟩ := R₂.inst ek ed
    have hdl : d < σ₂.length := (List.getElem?_eq_some_iff.mp ed).1
    obtain ⟨m, N, _⟩ := F₂.ns
    obtain ⟨Fr', N'⟩ := cover N
    have hdL : φ₂ d ≠ env.locals := F₂.foot d hdl
    have Fr₀ : Fr C.T env.locals s₂.heap m := ⟨N, R₂.top, F₂.low⟩
    have hTd : C.T.get? (φ₂ d) = none := by
      cases z : C.T.get? (φ₂ d) with
      | none => rfl
      | some o => exact absurd (Heap.lt_size z) (Nat.not_lt.mpr (R₂.low d hdl))
    have N₀ : News C.T env.locals s₂.heap ((φ₂ d, W.dictOf es ep) :: led C.T s₂.heap env.locals (φ₂ d)) := fun p hp => by
      rcases List.mem_cons.mp hp with rfl | hp
      · exact ⟨hd, hdL, hTd⟩
      · obtain ⟨z1, z2, z3, z4⟩ := led_mem.mp hp; exact ⟨z4, z2, z1⟩
    refine set_dict Fr₀ C.X N₀ I rfl h1 h2 h3 h4 hAt.getL_some rfl (.head fun p hp => (led_mem.mp hp).2.2.1) ?_ fun h' F' N' => ?_
    · have := (Attrs.put (x := attr) (hs := PyData.keyHash C.w.params attr) (t := s₂.toks + 1) V₁' hAt).length
      rw [← this]; have := putA_len attr v fs; omega
    · have k2 := (N' (φ₂ d, _) (.head _)).1
      have k1 : ∀ b o, b ≠ env.locals → b ≠ φ₂ d → s₂.heap.get? b = some o → h'.get? b = some o := fun b o hb hb' e => by
        cases z : C.T.get? b with
        | some o' => have := R₂.top b o' z; rw [e] at this; cases this; exact F'.keep b o z
        | none => exact (N' (b, o) (.tail _ (led_mem.mpr ⟨z, hb, hb', e⟩))).1
      have fz : Froz s₂.heap h' := fun b o e f => k1 b o (fun q => by subst q; exact Ns.notFrozen N e f) (fun q => by
        rw [q, hd] at e; cases e; exact f.notDict rfl) e
      have S₃ : Step C.H C.T env.locals φ₂ σ₂ s₂ φ₂ (σ₂.set d (.attrs (putA attr v fs))) { s₂ with heap := h', toks := s₂.toks + 2 } := by
        refine ⟨⟨rfl, fun _ _ => rfl, by simp, ⟨fun b o e => ?_, fun j hj => R₂.low j (by simpa using hj), fun i j hi hj => R₂.inj i j (by simpa using hi) (by simpa using hj), fun j o e => ?_⟩, fun b o e hb hφ => k1 b o hb (fun q => hφ d hdl q.symm) e, fun j g1 g2 => absurd (by simpa using g2) (Nat.not_lt.mpr g1), fun b o e => ?_⟩, fun m' Nm => by rw [Ns.uniq Nm N]; exact F'.ns⟩
        · have g1 := Heap.lt_size e
          exact k1 b o (Nat.ne_of_lt (Nat.lt_of_lt_of_le g1 F₂.low)) (Nat.ne_of_lt (Nat.lt_of_lt_of_le g1 (R₂.low d hdl))) (R₂.top b o e)
        · rw [List.length_set]
          by_cases q : j = d
          · subst q
            rw [List.getElem?_set_self hdl] at e
            cases e
            refine ⟨_, _, k2, Attrs.put (V₁'.mono fz (Nat.le_refl _) fun _ _ => rfl) (hAt.mono fz (Nat.le_refl _) fun _ _ => rfl), ?_⟩
            have := putA_len attr v fs; omega
          · rw [List.getElem?_set_ne (Ne.symm q)] at e
            have hjl := (List.getElem?_eq_some_iff.mp e).1
            exact (R₂.obj j o e).mono fz (Nat.le_refl _) (fun _ _ => rfl) fun x ex => k1 _ x (F₂.foot j hjl) (fun z => q (R₂.inj j d hjl hdl z)) ex
        · by_cases q : b = env.locals
          · subst q; obtain ⟨o', _, _, e', _⟩ := F'.ns; exact ⟨o', e'⟩
          · by_cases q' : b = φ₂ d
            · subst q'; exact ⟨_, k2⟩
            · exact ⟨o, k1 b o q q' e⟩
      exact P _ _ _ _ _ _ hk ((S₁.trans S₂).trans S₃).toFoot (F₂.step R₂ S₃) .next
end Mine
end

/-! VComp -/
section
open PySem PySem.W PyProof.Rows PySem.Calls
namespace Mine
variable {C : Cx} {n : Nat} {env : Env} {ρ : Loc} {σ : List AO} {K : Kv}

/-! the names of a comprehension -/
noncomputable def closL (env : Env) : List (PySem.Str × NameKind) → List (PySem.Str × Addr) → List (PySem.Str × Addr)
  | [], acc => acc
  | (n, k) :: r, acc => closL env r (if k == .free then (n, (env.cells.lookup n).getD 0) :: acc else acc)
theorem clos_forIn (f : PySem.Str × NameKind → List (PySem.Str × Addr) → Sem (ForInStep (List (PySem.Str × Addr))))
    (hf : ∀ name kind cs, f (name, kind) cs = if kind == .free then (do let a ← cellOf env name; pure (.yield ((name, a) :: cs))) else pure (.yield cs)) :
    ∀ (names : List (PySem.Str × NameKind)) (acc : List (PySem.Str × Addr)), (∀ x ∈ names, x.2 = .free → (env.cells.lookup x.1).isSome = true) → forIn names acc f = pure (closL env names acc)
  | [], acc, _ => rfl
  | (name, kind) :: r, acc, h => by
    rw [List.forIn_cons, hf]
    have hr := clos_forIn f hf r
    unfold closL
    by_cases q : kind = .free
    · subst q
      obtain ⟨c, hc⟩ := Option.isSome_iff_exists.mp (h (name, .free) List.mem_cons_self rfl)
      simp only [beq_self_eq_true, if_true, cellOf, hc, Option.getD_some]
      exact hr _ fun x hx => h x (List.mem_cons_of_mem _ hx)
    · have q' : (kind == NameKind.free) = false := by simpa using q
      simp only [q', Bool.false_eq_true, if_false]
      exact hr _ fun x hx => h x (List.mem_cons_of_mem _ hx)
theorem closureFor_eq {scope : Scope} (h : ∀ x ∈ scope.names, x.2 = .free → (env.cells.lookup x.1).isSome = true) : closureFor scope env = pure (closL env scope.names []) := by
  simp only [closureFor]
  rw [clos_forIn (env := env) _ (fun name kind cs => by cases hk : kind == NameKind.free <;> simp [hk]) _ _ h]
  rfl
theorem closL_mem : ∀ {names : List (PySem.Str × NameKind)} {acc : List (PySem.Str × Addr)} {x : PySem.Str} {c : Addr}, (x, c) ∈ closL env names acc → (x, c) ∈ acc ∨ ((x, NameKind.free) ∈ names ∧ c = (env.cells.lookup x).getD 0)
  | [], _, _, _, h => .inl h
  | (y, k) :: r, acc, x, c, h => by
    unfold closL at h
    rcases closL_mem h with h | ⟨h1, h2⟩
    · by_cases q : k = .free
      · subst q
        rcases List.mem_cons.mp h with e | h
        · cases e; exact .inr ⟨List.mem_cons_self, rfl⟩
        · exact .inl h
      · have q' : (k == NameKind.free) = false := by simpa using q
        rw [q'] at h; exact .inl h
    · exact .inr ⟨List.mem_cons_of_mem _ h1, h2⟩
theorem closL_has : ∀ {names : List (PySem.Str × NameKind)} {acc : List (PySem.Str × Addr)} {x : PySem.Str}, ((x, NameKind.free) ∈ names ∨ ∃ c, (x, c) ∈ acc) → ∃ c, (x, c) ∈ closL env names acc
  | [], _, _, h => h.elim (fun h => nomatch h) id
  | (y, k) :: r, acc, x, h => by
    unfold closL
    refine closL_has ?_
    rcases h with h | ⟨c, h⟩
    · rcases List.mem_cons.mp h with e | h
      · cases e; exact .inr ⟨_, List.mem_cons_self⟩
      · exact .inl h
    · refine .inr ⟨c, ?_⟩
      split
      · exact List.mem_cons_of_mem _ h
      · exact h
theorem lookup_has {α : Type} : ∀ {l : List (PySem.Str × α)} {x : PySem.Str} {c : α}, (x, c) ∈ l → ∃ c', l.lookup x = some c'
  | (y, d) :: r, x, c, h => by
    rw [List.lookup_cons]
    cases q : x == y with
    | true => exact ⟨d, rfl⟩
    | false =>
      rcases List.mem_cons.mp h with e | h
      · cases e; simp at q
      · exact lookup_has h
theorem closL_lookup {names : List (PySem.Str × NameKind)} {x : PySem.Str} {c : Addr} (hx : (x, NameKind.free) ∈ names) (hc : env.cells.lookup x = some c) : (closL env names []).lookup x = some c := by
  obtain ⟨c₁, h₁⟩ := closL_has (env := env) (names := names) (acc := []) (.inl hx)
  obtain ⟨c', h'⟩ := lookup_has h₁
  rcases closL_mem (mem_of_lookup h') with h | ⟨_, h⟩
  · cases h
  · rw [h', h, hc]; rfl
theorem cellsFrom_app : ∀ (names : List (PySem.Str × NameKind)) (n : Nat) (acc : List (PySem.Str × Addr)), cellsFrom n names acc = cellsFrom n names [] ++ acc
  | [], _, _ => rfl
  | (x, k) :: r, n, acc => by
    unfold cellsFrom
    split
    · rw [cellsFrom_app r (n + 1) ((x, n) :: acc), cellsFrom_app r (n + 1) [(x, n)], List.append_assoc]; rfl
    · exact cellsFrom_app r n acc
theorem cellsFrom_mem : ∀ {names : List (PySem.Str × NameKind)} {n : Nat} {acc : List (PySem.Str × Addr)} {x : PySem.Str} {c : Addr}, (x, c) ∈ cellsFrom n names acc → (x, NameKind.cell) ∈ names ∨ (x, c) ∈ acc
  | [], _, _, _, _, h => .inr h
  | (y, k) :: r, n, acc, x, c, h => by
    unfold cellsFrom at h
    split at h
    · rename_i hk
      rcases cellsFrom_mem h with h | h
      · exact .inl (List.mem_cons_of_mem _ h)
      · rcases List.mem_cons.mp h with e | h
        · cases e; exact .inl (by rw [eq_of_beq hk]; exact List.mem_cons_self)
        · exact .inr h
    · rcases cellsFrom_mem h with h | h
      · exact .inl (List.mem_cons_of_mem _ h)
      · exact .inr h
theorem nodup_one {α β : Type} {l : List (α × β)} {x : α} {a b : β} (hn : (l.map (·.1)).Nodup) (ha : (x, a) ∈ l) (hb : (x, b) ∈ l) : a = b := by
  induction l with
  | nil => cases ha
  | cons y r ih =>
    simp only [List.map_cons, List.nodup_cons] at hn
    rcases List.mem_cons.mp ha with ea | ha <;> rcases List.mem_cons.mp hb with eb | hb
    · rw [← ea] at eb; exact (Prod.mk.inj eb).2.symm
    · exact absurd (by rw [← ea]; exact List.mem_map_of_mem (f := (·.1)) hb) hn.1
    · exact absurd (by rw [← eb]; exact List.mem_map_of_mem (f := (·.1)) ha) hn.1
    · exact ih hn.2 ha hb
theorem nodup_lookup {β : Type} {l : List (PySem.Str × β)} {x : PySem.Str} {a : β} (hn : (l.map (·.1)).Nodup) (ha : (x, a) ∈ l) : l.lookup x = some a := by
  obtain ⟨c, hc⟩ := lookup_has ha
  rw [hc, nodup_one hn ha (mem_of_lookup hc)]

theorem ab1 {a b : Nat} (h1 : a + 1 ≤ b) (h2 : b < a) : False := by omega
theorem ab2 {a b : Nat} (h1 : a + 1 ≤ b) (h2 : b = a) : False := by omega
theorem ab3 {a b : Nat} (h1 : a < b) (h2 : a = b) : False := by omega
theorem relabel_lookup {scope : Scope} {x : PySem.Str} {k : NameKind} (h : (relabel scope env).names.lookup x = some k) : ∃ k', scope.names.lookup x = some k' ∧ (k = k' ∨ (k' = .free ∧ k = .cell ∧ env.kindOf x = some .cell)) := by
  unfold relabel at h
  revert h
  generalize scope.names = names
  induction names with
  | nil => intro h; simp at h
  | cons y r ih =>
    obtain ⟨y, k₀⟩ := y
    intro h
    rw [List.map_cons] at h
    by_cases q : (k₀ == .free && env.scope.kind == .function && env.kindOf y == some .cell) = true
    · dsimp only at h
      rw [if_pos q, List.lookup_cons] at h
      rw [List.lookup_cons]
      cases z : x == y with
      | true =>
        rw [z] at h
        simp only [Bool.and_eq_true, beq_iff_eq] at q
        cases h
        exact ⟨k₀, rfl, .inr ⟨q.1.1, rfl, by rw [eq_of_beq z]; exact q.2⟩⟩
      | false => rw [z] at h; exact ih h
    · dsimp only at h
      rw [if_neg q, List.lookup_cons] at h
      rw [List.lookup_cons]
      cases z : x == y with
      | true => rw [z] at h; cases h; exact ⟨_, rfl, .inl rfl⟩
      | false => rw [z] at h; exact ih h

noncomputable def cLoc (scope : Scope) (ρ : Loc) : Loc := fun x => if scope.names.lookup x = some .free then ρ x else none

noncomputable def compEnv2 (scope : Scope) (L : Addr) (env : Env) : Env :=
  { scope := relabel scope env, locals := L, globals := env.globals, cells := cellsFrom (L + 1) scope.names (closL env scope.names []), qual := env.qual, func := none, code := env.code, frame := env.frame, builtins := env.builtins }

noncomputable def freeOk (scope : Scope) (env : Env) (ρ : Loc) : Bool := scope.names.all fun x => x.2 != .free || ((env.kindOf x.1 == some .cell || env.kindOf x.1 == some .free) && (ρ x.1).isSome)

theorem pushCells_size (names : List (PySem.Str × NameKind)) : ∀ h : Heap, h.objs.size ≤ (pushCells h names).objs.size := by
  induction names with
  | nil => intro h; exact Nat.le_refl _
  | cons x r ih =>
    intro h
    unfold pushCells
    split
    · refine Nat.le_trans ?_ (ih _); rw [Heap.size_push]; exact Nat.le_succ _
    · exact ih _

theorem wpAny_compEnv {M : Model} {A : Around} {E : Value → Shared → Prop} {s : Shared} {scope : Scope} {cl : List (PySem.Str × Addr)} {Q : Env → Shared → Prop}
    (hQ : Q (newEnv scope s.heap.objs.size env.globals (cellsFrom (s.heap.objs.size + 1) scope.names cl) env.qual none .none (some env) builtinsNs) { s with heap := pushCells (s.heap.push { cls := .type "dict", data := .dict #[] }) scope.names }) :
    wpAny M A (newFunctionEnv scope env.globals cl [] env.qual none .none (some env)) Q E s := by
  simp only [newFunctionEnv, Option.isSome_some, if_true]
  refine wpAny_bind (wpAny_alloc ?_)
  refine wpAny_bind (wpAny_layCells _ (fun name kind cells => by cases hkc : kind == NameKind.cell <;> simp [hkc]) _ _ _ _ ?_)
  rw [show ({ s with heap := s.heap.push { cls := .type "dict", data := .dict #[] } } : Shared).heap.objs.size = s.heap.objs.size + 1 from Heap.size_push ..]
  exact wpAny_bind (wpAny_pure (wpAny_pure hQ))

/-- the frame of a comprehension -/
theorem comp_frm {scope : Scope} {φ : Nat → Addr} {m : Nat} {h : Heap} {tp : Nat} (htop : C.T.objs.size ≤ h.objs.size) (hφ : ∀ k, k < m → φ k < h.objs.size) (F : Frm C.T φ m h env ρ) (hnd : (scope.names.map (·.1)).Nodup) (hf : freeOk scope env ρ = true)
    (hL : h.objs.size = tp) : Frm C.T φ m (pushCells (h.push { cls := .type "dict", data := .dict #[] }) scope.names) (compEnv2 scope tp env) (cLoc scope ρ) ∧ (∀ x ∈ scope.names, x.2 = .free → (env.cells.lookup x.1).isSome = true) ∧
      (∀ x, scope.names.lookup x = some .cell → ∀ c, (compEnv2 scope tp env).cells.lookup x = some c → h.get? c = none) ∧
      (∀ x c, (compEnv2 scope tp env).cells.lookup x = some c → h.get? c = none ∨ ∃ y, env.cells.lookup y = some c) := by
  subst hL
  have keep : ∀ b o, h.get? b = some o → (pushCells (h.push { cls := .type "dict", data := .dict #[] }) scope.names).get? b = some o := fun b o e => pushCells_keeps _ _ b o (Heap.get?_push_of_some _ e)
  have ok := cellsFrom_ok scope.names (h.push { cls := .type "dict", data := .dict #[] }) (h.objs.size + 1) [] ⟨fun _ _ hm => (nomatch hm), List.Pairwise.nil⟩ (by rw [Heap.size_push]; exact Nat.le_refl _)
  rw [Heap.size_push] at ok
  have hfree : ∀ x, (x, NameKind.free) ∈ scope.names → (env.kindOf x = some .cell ∨ env.kindOf x = some .free) ∧ ∃ v, ρ x = some v := fun x hx => by
    have := List.all_eq_true.mp hf _ hx
    simp only [bne_self_eq_false, Bool.false_or, Bool.and_eq_true, Bool.or_eq_true, beq_iff_eq] at this
    exact ⟨this.1, Option.isSome_iff_exists.mp this.2⟩
  have hfc : ∀ x, (x, NameKind.free) ∈ scope.names → ∃ c, env.cells.lookup x = some c := fun x hx => by
    obtain ⟨h1, v, h2⟩ := hfree x hx
    obtain ⟨c, _, h3, _⟩ := F.cl x v h2 h1
    exact ⟨c, h3⟩
  have cells_eq : ∀ x, (compEnv2 scope h.objs.size env).cells.lookup x = ((cellsFrom (h.objs.size + 1) scope.names []).lookup x).or ((closL env scope.names []).lookup x) := fun x => by
    show (cellsFrom (h.objs.size + 1) scope.names (closL env scope.names [])).lookup x = _
    rw [cellsFrom_app, List.lookup_append]
  have own_free : ∀ x, (x, NameKind.free) ∈ scope.names → (cellsFrom (h.objs.size + 1) scope.names []).lookup x = none := fun x hx => by
    cases z : (cellsFrom (h.objs.size + 1) scope.names []).lookup x with
    | none => rfl
    | some c =>
      rcases cellsFrom_mem (mem_of_lookup z) with q | q
      · have := nodup_one hnd hx q; cases this
      · cases q
  have look_free : ∀ x c, (x, NameKind.free) ∈ scope.names → env.cells.lookup x = some c → (compEnv2 scope h.objs.size env).cells.lookup x = some c := fun x c hx hc => by
    rw [cells_eq, own_free x hx, closL_lookup hx hc]; rfl
  have look : ∀ x c, (compEnv2 scope h.objs.size env).cells.lookup x = some c → ((x, c) ∈ cellsFrom (h.objs.size + 1) scope.names [] ∧ (x, NameKind.cell) ∈ scope.names) ∨ ((x, NameKind.free) ∈ scope.names ∧ env.cells.lookup x = some c) := fun x c hc => by
    rw [cells_eq] at hc
    cases z : (cellsFrom (h.objs.size + 1) scope.names []).lookup x with
    | some c' =>
      rw [z] at hc; cases hc
      rcases cellsFrom_mem (mem_of_lookup z) with q | q
      · exact .inl ⟨mem_of_lookup z, q⟩
      · cases q
    | none =>
      rw [z] at hc
      have hc' : (closL env scope.names []).lookup x = some c := hc
      rcases closL_mem (mem_of_lookup hc') with q | ⟨q, e⟩
      · cases q
      · obtain ⟨c', h'⟩ := hfc x q
        rw [h'] at e
        exact .inr ⟨q, by rw [h', e]; rfl⟩
  have fz : Froz h (pushCells (h.push { cls := .type "dict", data := .dict #[] }) scope.names) := fun b o e _ => keep b o e
  refine ⟨⟨⟨_, (Heap.Ns.new h (.type "dict")).keeps (pushCells_keeps _ _), fun x v hx k => ?_⟩, fun x v hx k => ?_, fun x k => ?_, fun x y c k hx hy => ?_, htop, fun k hk q => ?_, fun x c hc => ?_⟩, fun x hx he => ?_, fun x hx c hc => ?_, fun x c hc => ?_⟩
  · exfalso
    unfold cLoc at hx
    by_cases q : scope.names.lookup x = some .free
    · obtain ⟨k', h1, h2⟩ := relabel_lookup k
      rw [q] at h1; cases h1
      rcases h2 with h2 | ⟨_, h2, _⟩ <;> cases h2
    · rw [if_neg q] at hx; cases hx
  · unfold cLoc at hx
    by_cases q : scope.names.lookup x = some .free
    · rw [if_pos q] at hx
      have hm := mem_of_lookup q
      obtain ⟨c, v', h1, h2, h3⟩ := F.cl x v hx (hfree x hm).1
      exact ⟨c, v', look_free x c hm h1, IsCell.at h2 fun o e => keep c o e, h3.mono fz (Nat.le_refl _) fun _ _ => rfl⟩
    · rw [if_neg q] at hx; cases hx
  · obtain ⟨k', h1, h2⟩ := relabel_lookup k
    rcases h2 with h2 | ⟨h2, _, h4⟩
    · subst h2
      obtain ⟨c, hc⟩ := Option.isSome_iff_exists.mp (W.cellsFrom_some scope.names (h.objs.size + 1) [] (.inl h1))
      refine ⟨c, none, ?_, (ok.empty x c (mem_of_lookup hc)).1⟩
      rw [cells_eq, hc]; rfl
    · subst h2
      obtain ⟨c, v₀, h5, h6⟩ := F.own x h4
      exact ⟨c, v₀, look_free x c (mem_of_lookup h1) h5, IsCell.at h6 fun o e => keep c o e⟩
  · obtain ⟨k', h1, h2⟩ := relabel_lookup k
    rcases look x c hx with ⟨a1, a2⟩ | ⟨a1, a2⟩ <;> rcases look y c hy with ⟨b1, b2⟩ | ⟨b1, b2⟩
    · exact name_of_addr ok.apart a1 b1
    · have h3 := (ok.empty x c a1).2
      obtain ⟨_, _, ⟨v₀, h4⟩, _⟩ := F.cells y c b2
      exact (ab1 h3 h4.lt).elim
    · have h3 := (ok.empty y c b1).2
      obtain ⟨_, _, ⟨v₀, h4⟩, _⟩ := F.cells x c a2
      exact (ab1 h3 h4.lt).elim
    · rcases h2 with h2 | ⟨_, _, h4⟩
      · subst h2
        have := nodup_one hnd a1 (mem_of_lookup h1)
        cases this
      · exact F.apart x y c h4 a2 b2
  · have := hφ k hk
    have q' : φ k = h.objs.size := q
    rw [q'] at this; exact Nat.lt_irrefl _ this
  · rcases look x c hc with ⟨a1, a2⟩ | ⟨a1, a2⟩
    · obtain ⟨h1, h2⟩ := ok.empty x c a1
      exact ⟨fun q => ab2 h2 q, Nat.le_trans htop (Nat.le_of_succ_le h2), ⟨_, h1⟩, fun k hk q => ab1 h2 (by have := hφ k hk; rw [q] at this; exact this)⟩
    · obtain ⟨h1, h2, ⟨v₀, h3⟩, h4⟩ := F.cells x c a2
      exact ⟨fun q => ab3 h3.lt q, h2, ⟨v₀, IsCell.at h3 fun o e => keep c o e⟩, h4⟩
  · obtain ⟨x, k⟩ := x
    have he : k = .free := he
    subst he
    obtain ⟨c, hc⟩ := hfc x hx
    show (env.cells.lookup x).isSome = true
    rw [hc]; rfl
  · rcases look x c hc with ⟨a1, a2⟩ | ⟨a1, a2⟩
    · have := (ok.empty x c a1).2
      cases z : h.get? c with
      | none => rfl
      | some o => exact (ab1 this (Heap.lt_size z)).elim
    · have := nodup_one hnd a1 (mem_of_lookup hx); cases this
  · rcases look x c hc with ⟨a1, _⟩ | ⟨_, a2⟩
    · have := (ok.empty x c a1).2
      refine .inl ?_
      cases z : h.get? c with
      | none => rfl
      | some o => exact (ab1 this (Heap.lt_size z)).elim
    · exact .inr ⟨x, a2⟩

theorem Frm.weaken {φ : Nat → Addr} {m : Nat} {h : Heap} {ρ' : Loc} (F : Frm C.T φ m h env ρ) (hs : ∀ x v, ρ' x = some v → ρ x = some v) : Frm C.T φ m h env ρ' := by
  obtain ⟨m, N, hm⟩ := F.ns
  exact ⟨⟨m, N, fun x v e k => hm x v (hs x v e) k⟩, fun x v e k => F.cl x v (hs x v e) k, F.own, F.apart, F.low, F.foot, F.cells⟩

theorem StepX.close {φ φ' : Nat → Addr} {σ' : List AO} {s s' : Shared} (S : StepX C.H C.T (fun b => s.heap.get? b = none) φ σ s φ' σ' s') (F : Frm C.T φ σ.length s.heap env ρ) : Step C.H C.T env.locals φ σ s φ' σ' s' :=
  ⟨⟨S.same, S.agree, S.len, S.rep, fun b o e _ hφ => S.ext b o e (fun q => by rw [q] at e; cases e) hφ, S.new, S.live⟩,
    fun _ ⟨o, es, ep, e, r⟩ => ⟨o, es, ep, S.ext _ o e (fun q => by rw [q] at e; cases e) F.foot, r⟩⟩

/-- one thing turned that is none of ours -/
theorem turn_one {I : Addr} {φ : Nat → Addr} {s : Shared} {h' : Heap} {tk : Nat} (R : Rep C.H C.T φ σ s.heap) (hO : ∀ k, k < σ.length → φ k ≠ I) (hT : C.T.get? I = none)
    (hnf : ∀ o, s.heap.get? I = some o → ¬ frozen o) (hal : ∃ o, h'.get? I = some o) (hk : ∀ b o, b ≠ I → s.heap.get? b = some o → h'.get? b = some o) :
    StepX C.H C.T (fun b => b = I) φ σ s φ σ { s with heap := h', toks := tk } := by
  have fz : Froz s.heap h' := fun b o e f => hk b o (fun q => hnf o (q ▸ e) f) e
  exact ⟨rfl, fun _ _ => rfl, Nat.le_refl _, ⟨fun b o e => hk b o (fun q => by rw [q, hT] at e; cases e) (R.top b o e), R.low, R.inj, fun k o e => (R.obj k o e).mono fz (Nat.le_refl _) (fun _ _ => rfl) fun x ex => hk _ x (hO k (List.getElem?_eq_some_iff.mp e).1) ex⟩,
    fun b o e hb _ => hk b o hb e, fun k h1 h2 => absurd h2 (Nat.not_lt.mpr h1), fun b o e => by
      by_cases q : b = I
      · subst q; exact hal
      · exact ⟨o, hk b o q e⟩⟩

noncomputable def IfsC (C : Cx) (n : Nat) (env : Env) (ρ : Loc) (σ : List AO) (ifs : List Expr) (K : Bool → List AO → Prop) : Prop :=
  BoC C n env ρ σ (forIn ifs true fun c r => if r = true then do let ok ← PySem.isTrue c env (eval c env); pure (ForInStep.yield ok) else pure (ForInStep.yield r)) K
theorem ifs_nil {K : Bool → List AO → Prop} (h : K true σ) : IfsC C n env ρ σ [] K := fun _ _ _ _ _ _ R _ P => wpAny_tests_nil (P _ _ _ _ h (Step.refl R))
theorem ifs_one {c : Expr} {K : Bool → List AO → Prop} (h : BoC C n env ρ σ (PySem.isTrue c env (eval c env)) K) : IfsC C n env ρ σ [c] K := fun A φ s Q E hA R F P => wpAny_tests_one (h A φ s Q E hA R F P)

theorem heap_none {T : Heap} {b : Addr} (h : T.objs.size ≤ b) : T.get? b = none := by
  cases e : T.get? b with
  | none => rfl
  | some o => exact absurd (Heap.lt_size e) (Nat.not_lt.mpr h)

theorem comp_core {elt target iter : Expr} {ifs : List Expr} {scope : Scope} {pos : Pos} {names : List PySem.Str} {it : AV} {items : List AV} {Kept : List AO → Prop} (ok : IterOk it items Kept)
    {A : Around} {φ : Nat → Addr} {s : Shared} {it' : Value} {E : Value → Shared → Prop} {RR : Value → Addr → Result → Shared → Prop}
    (hA : AOk n A) (R : Rep C.H C.T φ σ s.heap) (F : Frm C.T φ σ.length s.heap env ρ) (hkp : Kept σ) (V : VRep φ σ.length s.heap it it')
    (hnd : (scope.names.map (·.1)).Nodup) (hf : freeOk scope env ρ = true) (hnm : ∀ x ∈ names, scope.names.lookup x = some .local ∨ scope.names.lookup x = some .cell)
    (J : Nat → List AO → Prop) (hJ : J 0 (σ ++ [.list []])) (hkept : ∀ i σ', J i σ' → Kept σ')
    (step : ∀ L i v σ', items[i]? = some v → J i σ' → TgtN C n (compEnv2 scope L env) names target v (cLoc scope ρ) σ' fun ρ₁ σ₁ => (∀ x v, cLoc scope ρ x = some v → ρ₁ x = some v) ∧
      IfsC C n (compEnv2 scope L env) ρ₁ σ₁ ifs fun b σ₂ => (b = false → J (i + 1) σ₂) ∧ (b = true → EvC C n (compEnv2 scope L env) ρ₁ σ₂ elt fun v σ₃ => ∃ vs, σ₃[σ.length]? = some (.list vs) ∧ vs.length < 4096 ∧ J (i + 1) (σ₃.set σ.length (.list (vs ++ [v])))))
    (done : ∀ φ' σ' s' L m, J items.length σ' → StepX C.H C.T (fun b => s.heap.get? b = none) φ σ s φ' σ' s' → s'.heap.Ns L m → s.heap.get? L = none → (∀ k, k < σ'.length → φ' k ≠ L) → C.T.objs.size ≤ L → σ.length < σ'.length → RR (.ref (φ' σ.length)) L (.ok .next) s') :
    wpAny C.M A (pyIter it') (fun it s₂ => wpAny C.M A (newList []) (fun acc s₃ => wpAny C.M A (newFunctionEnv scope env.globals (closL env scope.names []) [] env.qual none .none (some env)) (fun cenv s₄ =>
      codeAny C.M A (.compStart (.ListComp elt [⟨target, iter, ifs, 0⟩] scope pos) 0 it acc { cenv with scope := relabel scope env }) (RR acc cenv.locals) s₄) E s₃) E s₂) E s := by
  refine iter_start ok R hkp V fun St o src st => ?_
  refine wpAny_newObj_type (hd := by size_fits) (wpAny_compEnv ?_)
  have hIs : s.heap.get? s.heap.objs.size = none := get_size _
  have hT := R.topsize (h := s.heap) F
  have push₁ : ∀ L, Step C.H C.T L φ σ s φ σ { s with heap := s.heap.push o } := fun L => Step.push R
  have F₁ := F.step R (push₁ _)
  have alloc₂ : ∀ L, Step C.H C.T L φ σ { s with heap := s.heap.push o } (put φ σ.length (s.heap.push o).objs.size) (σ ++ [.list []]) { s with heap := (s.heap.push o).push { cls := .type "list", dict := none, data := .seq ([] : List Value).toArray } } := fun L =>
    Step.alloc (push₁ L).rep ((push₁ L).rep.topsize (h := s.heap) F₁) rfl ⟨[], 0, Heap.get?_push_size _ rfl, .nil, by simp⟩
  have F₂ := F₁.step (push₁ 0).rep (alloc₂ _)
  have st₂ : St 0 (put φ σ.length (s.heap.push o).objs.size) (σ ++ [.list []]) ((s.heap.push o).push { cls := .type "list", dict := none, data := .seq ([] : List Value).toArray }) :=
    src.keep _ _ _ _ _ _ _ st (fun k hk => put_le k hk) (by simp) (fun _ e => Heap.get?_push_of_some _ e) (fun _ _ e _ => Heap.get?_push_of_some _ e)
  have R₂ := (alloc₂ 0).rep
  have hTs : C.T.objs.size ≤ ((s.heap.push o).push { cls := .type "list", dict := none, data := .seq ([] : List Value).toArray }).objs.size := R₂.topsize (h := s.heap) (s := { s with heap := (s.heap.push o).push { cls := .type "list", dict := none, data := .seq ([] : List Value).toArray } }) F₂
  have below : ∀ b o', s.heap.get? b = some o' → ((s.heap.push o).push { cls := .type "list", dict := none, data := .seq ([] : List Value).toArray }).get? b = some o' := fun b o' e => Heap.get?_push_of_some _ (Heap.get?_push_of_some _ e)
  have SS₂ : StepX C.H C.T (fun b => s.heap.get? b = none) φ σ s (put φ σ.length (s.heap.push o).objs.size) (σ ++ [.list []]) { s with heap := (s.heap.push o).push { cls := .type "list", dict := none, data := .seq ([] : List Value).toArray } } :=
    ((push₁ s.heap.objs.size).trans (alloc₂ s.heap.objs.size)).toStepX.weaken fun b h => by rw [h]; exact hIs
  have hsD : (put φ σ.length (s.heap.push o).objs.size) σ.length = (s.heap.push o).objs.size := by unfold put; rw [if_pos rfl]
  revert st₂ R₂ F₂ SS₂ below hTs hsD
  clear alloc₂
  generalize hP : put φ σ.length (s.heap.push o).objs.size = φ₂
  generalize hH : (s.heap.push o).push { cls := .type "list", dict := none, data := .seq ([] : List Value).toArray } = h₂
  intro F₂ st₂ R₂ hTs below SS₂ hsD
  have hI₂ : h₂.get? s.heap.objs.size ≠ none := by
    obtain ⟨o', e, _⟩ := src.here _ _ _ _ st₂
    rw [e]; exact fun q => nomatch q
  have hsz : s.heap.objs.size < h₂.objs.size := by rw [← hH, Heap.size_push, Heap.size_push]; omega
  obtain ⟨Fc, hclo, hown, hcells⟩ := comp_frm (scope := scope) hTs (fun k hk => R₂.lt hk) F₂ hnd hf rfl
  have hO₂ : Off φ₂ (σ ++ [AO.list []]).length (compEnv2 scope h₂.objs.size env) s.heap.objs.size := by
    refine ⟨Nat.ne_of_lt hsz, fun x q => ?_, fun k hk q => ?_⟩
    · rcases hcells x _ q with h | ⟨y, h⟩
      · exact hI₂ h
      · obtain ⟨_, _, ⟨v, hv⟩, _⟩ := F.cells y _ h; exact Nat.lt_irrefl _ hv.lt
    · have := R₂.obj k _ (List.getElem?_eq_getElem hk)
      obtain ⟨x, e, _⟩ := this.some
      by_cases hk' : k < σ.length
      · have h1 := SS₂.agree k hk'
        rw [h1] at q
        have h2 := R.lt hk'
        rw [q] at h2; exact Nat.lt_irrefl _ h2
      · have hkk : k = σ.length := by simp at hk; omega
        subst hkk
        rw [hsD, Heap.size_push] at q
        exact Nat.succ_ne_self _ q
  have S₄ : ∀ L, Step C.H C.T L φ₂ (σ ++ [AO.list []]) { s with heap := h₂ } φ₂ (σ ++ [AO.list []]) { s with heap := pushCells (h₂.push { cls := .type "dict", data := .dict #[] }) scope.names } := fun L => Step.ofKeep R₂ fun b o e => pushCells_keeps _ _ b o (Heap.get?_push_of_some _ e)
  have st₄ := src.keep _ _ _ _ φ₂ (σ ++ [AO.list []]) (pushCells (h₂.push { cls := .type "dict", data := .dict #[] }) scope.names) st₂ (fun _ _ => rfl) (Nat.le_refl _) (fun o e => pushCells_keeps _ _ _ o (Heap.get?_push_of_some _ e)) (fun b o e _ => pushCells_keeps _ _ b o (Heap.get?_push_of_some _ e))
  have SS₄ := SS₂.trans ((S₄ s.heap.objs.size).toStepX.weaken (Y := fun b => s.heap.get? b = none) fun b h => by rw [h]; exact hIs)
  have hLs : s.heap.get? h₂.objs.size = none := heap_none (Nat.le_of_lt hsz)
  have hTI : C.T.get? s.heap.objs.size = none := heap_none hT
  have carry : ∀ {j : Nat} {X : Addr → Prop} {φa φb : Nat → Addr} {σa σb : List AO} {sa sb : Shared}, Rep C.H C.T φa σa sa.heap → StepX C.H C.T X φa σa sa φb σb sb → ¬ X s.heap.objs.size → (∀ b o, X b → sa.heap.get? b = some o → ¬ frozen o) → Off φa σa.length (compEnv2 scope h₂.objs.size env) s.heap.objs.size → St j φa σa sa.heap →
      Off φb σb.length (compEnv2 scope h₂.objs.size env) s.heap.objs.size ∧ St j φb σb sb.heap := fun ra S hX hfz O st => by
    obtain ⟨oI, eI, nfI⟩ := src.here _ _ _ _ st
    exact ⟨O.step S ⟨oI, eI⟩, src.keep _ _ _ _ _ _ _ st S.agree S.len (fun o e => S.ext _ o e hX O.o) (S.froz ra hfz)⟩
  have loop : codeAny C.M A (.compLoop (.ListComp elt [⟨target, iter, ifs, 0⟩] scope pos) 0 (.ref s.heap.objs.size) (.ref (s.heap.push o).objs.size) (compEnv2 scope h₂.objs.size env)) (RR (.ref (s.heap.push o).objs.size) h₂.objs.size)
      { s with heap := pushCells (h₂.push { cls := .type "dict", data := .dict #[] }) scope.names } := by
    refine codeAny_loop rfl (fun k s' => ∃ i φ' σ', J i σ' ∧ StepX C.H C.T (fun b => s.heap.get? b = none) φ σ s φ' σ' s' ∧ Frm C.T φ' σ'.length s'.heap (compEnv2 scope h₂.objs.size env) (cLoc scope ρ) ∧ Off φ' σ'.length (compEnv2 scope h₂.objs.size env) s.heap.objs.size ∧ St i φ' σ' s'.heap ∧ i ≤ items.length ∧ k = items.length + 1 - i ∧ φ' σ.length = (s.heap.push o).objs.size ∧ σ.length < σ'.length) ?_ (items.length + 1)
      ⟨0, φ₂, σ ++ [AO.list []], hJ, SS₄, Fc, hO₂, st₄, Nat.zero_le _, rfl, hsD, by simp⟩
    rintro k s' ⟨i, φ', σ', hj, SS, F', O, st', hi, rfl, hD, hlt⟩
    show wpAny _ A ((compTurn (.ListComp elt [⟨target, iter, ifs, 0⟩] scope pos) 0 (.ref s.heap.objs.size) (.ref (s.heap.push o).objs.size) (compEnv2 scope h₂.objs.size env)).onRaise (fun x => do noteFrame x (compEnv2 scope h₂.objs.size env); theTreesLotGoes x)) _ _ s'
    refine wpAny_noted ?_
    rw [compTurn_list]
    refine wpAny_bind (wpAny_standAt (wpAny_bind ?_))
    obtain ⟨oI, eI, nfI⟩ := src.here _ _ _ _ st'
    have nf : ∀ o, s'.heap.get? s.heap.objs.size = some o → ¬ frozen o := fun o e => by rw [eI] at e; cases e; exact nfI
    cases hv : items[i]? with
    | none =>
      have hin : i = items.length := Nat.le_antisymm hi (by simpa using hv)
      subst hin
      refine src.done A φ' σ' s' _ _ hA.hd SS.rep (hkept _ _ hj) st' fun h' tk hk => wpAny_pure ?_
      obtain ⟨m, N, _⟩ := F'.ns
      obtain ⟨R₅, F₅, fz⟩ := rep_off SS.rep F' O hTI nf hk
      obtain ⟨m₅, N₅, _⟩ := F₅.ns
      have SS₅ : StepX C.H C.T (fun b => s.heap.get? b = none) φ σ s φ' σ' { s' with heap := h', toks := tk } := ⟨by rw [SS.same], SS.agree, SS.len, R₅, fun b o e hb hφ => hk b o (fun q => by rw [q, hIs] at e; cases e) (SS.ext b o e hb hφ), SS.new, fun b o e => by
        obtain ⟨o', e'⟩ := SS.live b o e
        exact ⟨o', hk b o' (fun q => by rw [q, hIs] at e; cases e) e'⟩⟩
      have := done φ' σ' _ h₂.objs.size m₅ hj SS₅ N₅ hLs F₅.foot (Nat.le_trans hT (Nat.le_of_lt hsz)) hlt
      rw [hD] at this
      exact this
    | some v =>
      have hlti : i < items.length := (List.getElem?_eq_some_iff.mp hv).1
      refine src.item A φ' σ' s' _ _ i v hA.hd SS.rep (hkept _ _ hj) hv st' fun v' h' tk V' st₁ hk => ?_
      obtain ⟨o₁, e₁, nf₁⟩ := src.here _ _ _ _ st₁
      have S₁ := turn_one (tk := tk) SS.rep O.o hTI nf ⟨o₁, e₁⟩ hk
      obtain ⟨_, F₁', fz⟩ := rep_off SS.rep F' O hTI nf hk
      have SS₁ := SS.trans (S₁.weaken (Y := fun b => s.heap.get? b = none) fun b h => by rw [h]; exact hIs)
      refine wpAny_bind (src.go A φ' σ' { s' with heap := h', toks := tk } _ _ (i + 1) target v' st₁ ?_)
      refine wpAny_bind (step h₂.objs.size i v σ' hv hj A φ' _ _ _ v' hA S₁.rep F₁' (V'.mono fz (Nat.le_refl _) fun _ _ => rfl) ?_)
      rintro φa ρa σa sa ⟨hsub, hifs⟩ Sa Fa
      have hXa : ∀ b, FootN (compEnv2 scope h₂.objs.size env) names b → s.heap.get? b = none := fun b hb => by
        rcases hb with rfl | ⟨x, hx, h1, h2⟩
        · exact hLs
        · obtain ⟨k', h3, h4⟩ := relabel_lookup h1
          have hc : scope.names.lookup x = some .cell := by
            rcases h4 with h4 | ⟨h4, _, _⟩
            · rw [h3, ← h4]
            · rcases hnm x hx with q | q
              · rw [h3, h4] at q; cases q
              · exact q
          have h5 := hown x hc b h2
          cases z : s.heap.get? b with
          | none => rfl
          | some o' => rw [below b o' z] at h5; cases h5
      have SSa := SS₁.trans (Sa.weaken hXa)
      obtain ⟨Oa, sta⟩ := carry S₁.rep Sa (fun h => O.foot h.foot) (fun b o hb e => F₁'.notFrozen b o hb.foot e) (O.step S₁ ⟨oI, eI⟩) st₁
      refine wpAny_bind (hifs A φa sa _ _ hA Sa.rep Fa ?_)
      rintro φb σb sb b ⟨hb0, hb1⟩ Sb
      have Fb := Fa.step Sa.rep Sb
      have SSb := SSa.trans (Sb.toStepX.weaken (Y := fun b => s.heap.get? b = none) fun b h => by rw [h]; exact hLs)
      obtain ⟨Ob, stb⟩ := carry Sa.rep Sb.toStepX (fun h => Oa.l h) (fun b o hb e => Fa.notFrozen b o (.inl hb) e) Oa sta
      have hDa : φa σ.length = (s.heap.push o).objs.size := (Sa.agree _ hlt).trans hD
      have hla : σ.length < σa.length := Nat.lt_of_lt_of_le hlt Sa.len
      have hDb : φb σ.length = (s.heap.push o).objs.size := (Sb.agree _ hla).trans hDa
      have hlb : σ.length < σb.length := Nat.lt_of_lt_of_le hla Sb.len
      cases b with
      | false =>
        exact wpAny_pure ⟨rfl, items.length + 1 - (i + 1), by omega, i + 1, φb, σb, hb0 rfl, SSb, Fb.weaken hsub, Ob, stb, hlti, rfl, hDb, hlb⟩
      | true =>
        refine wpAny_bind (wpAny_bind (hb1 rfl A φb sb _ _ hA Sb.rep Fb ?_))
        rintro φc σc sc vc vc' ⟨vs, e, hn, hj'⟩ Sc Vc
        have Fc' := Fb.step Sb.rep Sc
        have SSc := SSb.trans (Sc.toStepX.weaken (Y := fun b => s.heap.get? b = none) fun b h => by rw [h]; exact hLs)
        obtain ⟨Oc, stc⟩ := carry Sb.rep Sc.toStepX (fun h => Ob.l h) (fun b o hb e => Fb.notFrozen b o (.inl hb) e) Ob stb
        have hDc : φc σ.length = (s.heap.push o).objs.size := (Sc.agree _ hlb).trans hDb
        have hlc : σ.length < σc.length := Nat.lt_of_lt_of_le hlb Sc.len
        refine wpAny_bind (b_append (C := C) (n := n) (env := compEnv2 scope h₂.objs.size env) (ρ := ρa) (v := vc) (K := fun _ σ₅ => σ₅ = σc.set σ.length (.list (vs ++ [vc]))) e hn rfl A φc sc _ _ (.builtin "list.append") [.ref (s.heap.push o).objs.size, vc'] hA Sc.rep Fc' .top (.cons (by rw [← hDc]; exact .ref hlc) (.cons Vc .nil)) ?_)
        rintro φd σd sd r r' rfl Sd _
        have Fd := Fc'.step Sc.rep Sd
        have SSd := SSc.trans (Sd.toStepX.weaken (Y := fun b => s.heap.get? b = none) fun b h => by rw [h]; exact hLs)
        obtain ⟨Od, std⟩ := carry Sc.rep Sd.toStepX (fun h => Oc.l h) (fun b o hb e => Fc'.notFrozen b o (.inl hb) e) Oc stc
        exact wpAny_pure (wpAny_pure ⟨rfl, items.length + 1 - (i + 1), by omega, i + 1, φd, _, hj', SSd, Fd.weaken hsub, Od, std, hlti, rfl, (Sd.agree _ hlc).trans hDc, by simpa using hlc⟩)
  exact codeAny_compStart_list loop (src.self A _ _ _ _ _ _ hA.hd st₄ loop)

/-- what is asked of a comprehension's turns -/
noncomputable def CompC (C : Cx) (n : Nat) (env : Env) (ρ : Loc) (σ : List AO) (scope : Scope) (names : List PySem.Str) (target elt : Expr) (ifs : List Expr) (it : AV) (D : List AO → Prop) : Prop :=
  ∃ items Kept, IterOk it items Kept ∧ ∃ J : Nat → List AO → Prop, J 0 (σ ++ [.list []]) ∧ Kept σ ∧ (∀ i σ', J i σ' → Kept σ') ∧
    (∀ L i v σ', items[i]? = some v → J i σ' → TgtN C n (compEnv2 scope L env) names target v (cLoc scope ρ) σ' fun ρ₁ σ₁ => (∀ x v, cLoc scope ρ x = some v → ρ₁ x = some v) ∧
      IfsC C n (compEnv2 scope L env) ρ₁ σ₁ ifs fun b σ₂ => (b = false → J (i + 1) σ₂) ∧ (b = true → EvC C n (compEnv2 scope L env) ρ₁ σ₂ elt fun v σ₃ => ∃ vs, σ₃[σ.length]? = some (.list vs) ∧ vs.length < 4096 ∧ J (i + 1) (σ₃.set σ.length (.list (vs ++ [v]))))) ∧
    ∀ σ', J items.length σ' → D σ'

theorem names_of {scope : Scope} (hnd : (scope.names.map (·.1)).Nodup) : ∀ x ∈ scope.names, x.2 = NameKind.local → scope.names.lookup x.1 = some NameKind.local := fun x hx e => by
  obtain ⟨x, k⟩ := x
  have e : k = .local := e
  subst e
  exact nodup_lookup hnd hx
theorem ns_off {h h' : Heap} {L : Addr} (hs : Heap.SameBut L h h') : ∀ b o, b ≠ L → h.get? b = some o → h'.get? b = some o := fun b o hb e => (hs.2 b hb).trans e
theorem ns_live {h h' : Heap} {L : Addr} {m : PySem.Str → Option Value} (N : h.Ns L m) (hs : Heap.SameBut L h h') : L < h'.objs.size := by
  obtain ⟨o, _, _, e, _⟩ := N
  have := Heap.lt_size e
  rw [hs.1]; exact this
theorem StepX.last {φ φ' : Nat → Addr} {σ' : List AO} {s s' : Shared} {h' : Heap} {L : Addr} {m : PySem.Str → Option Value} (SS : StepX C.H C.T (fun b => s.heap.get? b = none) φ σ s φ' σ' s') (hs : Heap.SameBut L s'.heap h') (N : s'.heap.Ns L m) (hLs : s.heap.get? L = none)
    (hO : ∀ k, k < σ'.length → φ' k ≠ L) (hTL : C.T.objs.size ≤ L) : StepX C.H C.T (fun b => s.heap.get? b = none) φ σ s φ' σ' { s' with heap := h' } := by
  have hk := ns_off hs
  have fz : Froz s'.heap h' := fun b o e f => hk b o (fun q => Ns.notFrozen N (q ▸ e) f) e
  have hT : C.T.get? L = none := heap_none hTL
  have R := SS.rep
  refine ⟨by rw [SS.same], SS.agree, SS.len, ⟨fun b o e => hk b o (fun q => by rw [q, hT] at e; cases e) (R.top b o e), R.low, R.inj, fun k o e => (R.obj k o e).mono fz (Nat.le_refl _) (fun _ _ => rfl) fun x ex => hk _ x (hO k (List.getElem?_eq_some_iff.mp e).1) ex⟩, fun b o e hb hφ => ?_, SS.new, fun b o e => ?_⟩
  · exact hk b o (fun q => by rw [q, hLs] at e; cases e) (SS.ext b o e hb hφ)
  · obtain ⟨o', e'⟩ := SS.live b o e
    exact ⟨o', hk b o' (fun q => by rw [q, hLs] at e; cases e) e'⟩

theorem ev_comp {elt target iter : Expr} {ifs : List Expr} {scope : Scope} {pos : Pos} (names : List PySem.Str)
    (h : EvC C n env ρ σ iter fun it σ₁ => CompC C n env ρ σ₁ scope names target elt ifs it fun σ' => K (.ref σ₁.length) σ')
    (hs : ∀ x, foldedSetIterable iter env x = pure x) (hkind : scope.kind = .function) (hnd : (scope.names.map (·.1)).Nodup) (hf : freeOk scope env ρ = true)
    (hnm : ∀ x ∈ names, scope.names.lookup x = some .local ∨ scope.names.lookup x = some .cell) : EvC C n env ρ σ (.ListComp elt [⟨target, iter, ifs, 0⟩] scope pos) K := by
  intro A φ s Q E hA R F P
  rw [eval_ListComp]
  have hcl := closureFor_eq (env := env) (scope := scope) (comp_frm (scope := scope) (R.topsize (h := s.heap) F) (fun k hk => R.lt hk) F hnd hf rfl).2.1
  refine wpAny_comprehension_free (use := none) rfl hs hcl hkind (names_of hnd) (h A φ s _ E hA R F ?_)
  rintro φ₁ σ₁ s₁ it it' ⟨items, Kept, ok, J, hJ, hk0, hkept, step, done⟩ S₁ V
  refine comp_core (RR := fun acc L => compPost C.M A E none Q acc L) ok hA S₁.rep (F.step R S₁) hk0 V hnd hf hnm J hJ hkept step ?_
  intro φ' σ' s' L m hj SS N hL hO hTL hlt
  refine ⟨m, N, fun h' hs' => ?_⟩
  have SS' := (SS.last hs' N hL hO hTL).close (F.step R S₁)
  exact P φ' σ' _ _ _ (done σ' hj) (S₁.trans SS') (.ref hlt)

theorem ex_assignComp {elt target iter : Expr} {ifs : List Expr} {scope : Scope} {pos spos py : Pos} {y : PySem.Str} {K : Kf} (names : List PySem.Str)
    (h : EvC C n env ρ σ iter fun it σ₁ => CompC C n env ρ σ₁ scope names target elt ifs it fun σ' => K .next (upd ρ y (.ref σ₁.length)) σ')
    (hsw : swapsWith (.ListComp elt [⟨target, iter, ifs, 0⟩] scope pos) (some (.Name y py)) spos.line env = pure true)
    (hs : ∀ x, foldedSetIterable iter env x = pure x) (hkind : scope.kind = .function) (hnd : (scope.names.map (·.1)).Nodup) (hf : freeOk scope env ρ = true)
    (hnm : ∀ x ∈ names, scope.names.lookup x = some .local ∨ scope.names.lookup x = some .cell) (hy : env.kindOf y = some .local) (hk : env.scope.kind = .function) :
    ExC C n env ρ σ (exec (.Assign [.Name y py] (.ListComp elt [⟨target, iter, ifs, 0⟩] scope pos) spos) env) K := by
  intro A φ s Q E hA R F P
  rw [exec_Assign_Name_used _ _ _ _ hsw]
  refine wpAny_bind (wpAny_standAt (wpAny_bind ?_))
  show wpAny _ A (do let _ ← comprehension (.ListComp elt [⟨target, iter, ifs, 0⟩] scope pos) scope env _ (newList []) false (eval iter env) (some (assign (.Name y py) env))) _ _ s
  have hcl := closureFor_eq (env := env) (scope := scope) (comp_frm (scope := scope) (R.topsize (h := s.heap) F) (fun k hk => R.lt hk) F hnd hf rfl).2.1
  refine wpAny_bind (wpAny_mono (wpAny_comprehension_free (use := some (assign (.Name y py) env)) (Q := fun _ s' => Q .next s') rfl hs hcl hkind (names_of hnd) (h A φ s _ E hA R F ?_)) (fun _ s' hq => wpAny_pure (wpAny_pure hq)) fun _ _ e => e)
  rintro φ₁ σ₁ s₁ it it' ⟨items, Kept, ok, J, hJ, hk0, hkept, step, done⟩ S₁ V
  have F₁ := F.step R S₁
  refine comp_core (RR := fun acc L => compPost C.M A E (some (assign (.Name y py) env)) (fun _ s' => Q .next s') acc L) ok hA S₁.rep F₁ hk0 V hnd hf hnm J hJ hkept step ?_
  intro φ' σ' s' L m hj SS N hL hO hTL hlt
  have SS' := SS.close F₁
  have F' := F₁.step S₁.rep SS'
  have hLl : L ≠ env.locals := fun q => by
    obtain ⟨_, ⟨o, _, _, e, _⟩, _⟩ := F₁.ns
    rw [← q, hL] at e; cases e
  show wpAny _ A (assign (.Name y py) env (.ref (φ' σ₁.length))) _ _ _
  refine wpAny_assign_Name (store_local SS'.rep F' (.ref hlt) hy hk fun s'' S'' F'' => ?_)
  have hLf : ¬ FootN env [y] L := fun q => by
    rcases q with q | ⟨x, _, _, hx⟩
    · exact hLl q
    · obtain ⟨_, _, ⟨_, o, e, _⟩, _⟩ := F₁.cells x L hx
      rw [hL] at e; cases e
  have N'' : s''.heap.Ns L m := by obtain ⟨o, es, ep, e, r⟩ := N; exact ⟨o, es, ep, S''.ext L o e hLf hO, r⟩
  refine ⟨m, N'', fun h' hs' => ?_⟩
  have hk' := ns_off hs'
  have hLc : ∀ x, env.cells.lookup x ≠ some L := fun x hx => by
    obtain ⟨_, _, ⟨_, o, e, _⟩, _⟩ := F₁.cells x L hx
    rw [hL] at e; cases e
  obtain ⟨R₅, F₅, fz⟩ := rep_off S''.rep F'' ⟨hLl, hLc, hO⟩ (heap_none hTL) (fun o e => Ns.notFrozen N'' e) hk'
  have S₅ := (S₁.trans SS').toFoot.trans (S''.weaken fun _ h => h.foot)
  refine P φ' _ σ' _ _ _ (done σ' hj) ⟨by rw [S₅.same], S₅.agree, S₅.len, R₅, fun b o e hb hφ => ?_, S₅.new, fun b o e => ?_⟩ F₅ .next
  · refine hk' b o (fun q => ?_) (S₅.ext b o e hb hφ)
    obtain ⟨o', e'⟩ := S₁.live b o e
    rw [q, hL] at e'; cases e'
  · obtain ⟨o', e'⟩ := S₅.live b o e
    refine ⟨o', hk' b o' (fun q => ?_) e'⟩
    obtain ⟨o'', e''⟩ := S₁.live b o e
    rw [q, hL] at e''; cases e''

/-! loops with named bindings -/
noncomputable def BindsIn (ρ : Loc) (bs : List (PySem.Str × AV)) : Prop := ∀ p ∈ bs, ρ p.1 = some p.2
theorem BindsIn.nil : BindsIn ρ [] := fun _ h => nomatch h
theorem BindsIn.cons {x : PySem.Str} {v : AV} {bs : List (PySem.Str × AV)} (h : ρ x = some v) (hr : BindsIn ρ bs) : BindsIn ρ ((x, v) :: bs) := fun p hp => by
  rcases List.mem_cons.mp hp with rfl | hp
  · exact h
  · exact hr p hp
theorem BindsIn.sub {bs : List (PySem.Str × AV)} (h : BindsIn ρ bs) : ∀ x v, locs bs x = some v → ρ x = some v := fun x v e => h (x, v) (mem_of_lookup e)
theorem csub_refl {scope : Scope} : ∀ x v, cLoc scope ρ x = some v → cLoc scope ρ x = some v := fun _ _ h => h
theorem csub_upd {scope : Scope} {ρ₁ : Loc} {y : PySem.Str} {w : AV} (h : (scope.names.lookup y == some .free) = false) (hr : ∀ x v, cLoc scope ρ x = some v → ρ₁ x = some v) : ∀ x v, cLoc scope ρ x = some v → upd ρ₁ y w x = some v := fun x v e => by
  unfold upd
  by_cases q : x = y
  · subst q
    unfold cLoc at e
    by_cases z : scope.names.lookup x = some .free
    · rw [z] at h; cases h
    · rw [if_neg z] at e; cases e
  · rw [if_neg q]; exact hr x v e

theorem ex_weaken {t : Sem Flow} {K : Kf} {ρ' : Loc} (hs : ∀ x v, ρ' x = some v → ρ x = some v) (h : ExC C n env ρ' σ t K) : ExC C n env ρ σ t K := fun A φ s Q E hA R F P => h A φ s Q E hA R (F.weaken hs) P

theorem ex_forB {target iter : Expr} {body : List Stmt} {pos : Pos} {K : Kf} (names : List PySem.Str)
    (h : EvC C n env ρ σ iter fun it σ₁ => ∃ items Kept, IterOk it items Kept ∧ ∃ J : Nat → List (PySem.Str × AV) → List AO → Prop, (∃ bs, BindsIn ρ bs ∧ J 0 bs σ₁) ∧ (∀ i bs σ', J i bs σ' → Kept σ') ∧
      (∀ i v bs σ', items[i]? = some v → J i bs σ' → TgtN C n env names target v (locs bs) σ' fun ρ₁ σ₁ => ExC C n env ρ₁ σ₁ (execs body env) fun f ρ₂ σ₂ => match f with | .next => ∃ bs', BindsIn ρ₂ bs' ∧ J (i + 1) bs' σ₂ | .cont => ∃ bs', BindsIn ρ₂ bs' ∧ J (i + 1) bs' σ₂ | .brk => K .next ρ₂ σ₂ | .ret v => K (.ret v) ρ₂ σ₂) ∧
      (∀ bs σ', J items.length bs σ' → ∀ ρ', BindsIn ρ' bs → K .next ρ' σ'))
    (hs : ∀ x, foldedSetIterable iter env x = pure x) : ExC C n env ρ σ (exec (.For target iter body [] pos) env) K := by
  refine ex_for (TrC.mono h ?_) hs
  rintro it σ₁ ⟨items, Kept, ok, J, ⟨bs, hb, hJ⟩, hkept, step, done⟩
  refine ⟨items, Kept, ok, fun i ρ' σ' => ∃ bs, BindsIn ρ' bs ∧ J i bs σ', ⟨bs, hb, hJ⟩, fun i ρ' σ' ⟨bs, _, hj⟩ => hkept i bs σ' hj, ?_, fun ρ' σ' ⟨bs, hb, hj⟩ => done bs σ' hj ρ' hb⟩
  rintro i v ρ' σ' hv ⟨bs, hb, hj⟩
  exact fun A φ s Q E v' hA R F V P => (step i v bs σ' hv hj).toC A φ s Q E v' hA R (F.weaken hb.sub) V P
end Mine
end

/-! VMore -/
section
open PySem PySem.W PyProof.Rows PySem.Calls PySem.SeqAt
namespace Mine
variable {C : Cx} {n : Nat} {env : Env} {ρ : Loc} {σ : List AO} {K : Kv}

/-- a new thing of ours that the library's rule made -/
theorem post_made {φ : Nat → Addr} {s : Shared} {Q : Value → Shared → Prop} {h' : Heap} {m : PySem.Str → Option Value} {D : Addr} {o : Obj} {ao : AO} {tk : Nat} (P : Post C env.locals φ σ s K Q) (R : Rep C.H C.T φ σ s.heap) (F : Frm C.T φ σ.length s.heap env ρ) (N : s.heap.Ns env.locals m)
    (F₁ : Fr (cutHeap s.heap env.locals) env.locals h' m) (N₁ : News (cutHeap s.heap env.locals) env.locals h' ((D, o) :: ledgerOf s.heap env.locals)) (hD : s.heap.objs.size ≤ D)
    (ho : Froz s.heap h' → h'.get? D = some o → ORep C.H (put φ σ.length D) (σ.length + 1) h' D ao) (h : K (.ref σ.length) (σ ++ [ao])) : Q (.ref D) { s with heap := h', toks := tk } := by
  have S₀ : Step C.H C.T env.locals φ σ s φ σ { s with heap := h', toks := tk } := Step.ofKeepL R F (fun b o hb e => uncover F₁ N₁ (fun p hp _ => .tail _ hp) hb e) fun m' Nm => by rw [Ns.uniq Nm N]; exact F₁.ns
  exact P _ _ _ _ _ h (Step.made (ao := ao) S₀.rep (Nat.le_trans (R.topsize (h := s.heap) F) hD) (fun k hk q => absurd (R.lt hk) (by rw [q]; exact Nat.not_lt.mpr hD)) (ho (S₀.froz R N) (N₁ _ (.head _)).1) S₀ (heap_none hD)) put_ref

theorem bin_addL {i j : Nat} {vs ws : List AV} (e : σ[i]? = some (.list vs)) (e' : σ[j]? = some (.list ws)) (hn : vs.length + ws.length ≤ 4096) (h : K (.ref σ.length) (σ ++ [.list (vs ++ ws)])) : BinC C n env ρ .Add (.ref i) (.ref j) σ K := by
  intro A φ s Q E a' b' hA R F Va Vb P
  cases Va; cases Vb
  obtain ⟨items, hl, hv, _⟩ := R.list e
  obtain ⟨items', hl', hv', _⟩ := R.list e'
  obtain ⟨m, N, _⟩ := F.ns
  obtain ⟨F', N'⟩ := cover N
  have h1 := hv.length
  have h2 := hv'.length
  refine add_arrays F' N' hl hl' (fun h' F₁ N₁ => ?_) (by simp only [List.size_toArray, sizeLine_eq]; omega)
  exact post_made (ao := .list (vs ++ ws)) (tk := s.toks) P R F N F₁ N₁ (Nat.le_refl _) (fun fz hg => ⟨items ++ items', 0, hg, (hv.append hv').mono fz (Nat.le_succ _) put_le, by simpa using hn⟩) h

theorem bin_mulL {i : Nat} {v : AV} {x : Int} (e : σ[i]? = some (.list [v])) (h0 : 0 ≤ x) (h1 : x ≤ 4096) (h : K (.ref σ.length) (σ ++ [.list (List.replicate x.toNat v)])) : BinC C n env ρ .Mult (.ref i) (.int x) σ K := by
  intro A φ s Q E a' b' hA R F Va Vb P
  cases Vb
  cases Va with
  | ref hk =>
    obtain ⟨items, ep, he, hv, _⟩ := R.listAt e
    obtain ⟨m, N, _⟩ := F.ns
    obtain ⟨F', N'⟩ := cover N
    obtain ⟨v', rfl, V⟩ := hv.one
    refine mul_list F' N' he (by omega) (by omega) (by simp; omega) fun h' F₁ N₁ => ?_
    refine post_made (ao := .list (List.replicate x.toNat v)) (tk := s.toks) P R F N F₁ N₁ (Nat.le_refl _) (fun fz hg => ⟨List.replicate x.toNat v', 0, ?_, (VReps.replicate V _).mono fz (Nat.le_succ _) put_le, by simp; omega⟩) h
    rw [hg, listMul_foldl]
    have e0 : ∀ k : Nat, (List.replicate k [v']).flatten = List.replicate k v' := fun k => by
      induction k with
      | zero => rfl
      | succ k ih => rw [List.replicate_succ, List.flatten_cons, ih]; rfl
    simp [e0]

theorem cmp_eqL {i j : Nat} {ns ms : List Int} (e : σ[i]? = some (.list (iL ns))) (e' : σ[j]? = some (.list (iL ms))) (h : K (.bool (decide (ns = ms))) σ) : CmpC C n env ρ .Eq (.ref i) (.ref j) σ K := by
  intro A φ s Q E a' b' hA R F Va Vb P
  cases Va; cases Vb
  obtain ⟨items, hl, hv, _⟩ := R.list e
  obtain ⟨items', hl', hv', _⟩ := R.list e'
  exact eq_intsK hl hv.toInts hl' hv'.toInts (by have := hA.un; omega) (P.now R h .bool)
theorem cmp_neL {i j : Nat} {ns ms : List Int} (e : σ[i]? = some (.list (iL ns))) (e' : σ[j]? = some (.list (iL ms))) (h : K (.bool (!decide (ns = ms))) σ) : CmpC C n env ρ .NotEq (.ref i) (.ref j) σ K := by
  intro A φ s Q E a' b' hA R F Va Vb P
  cases Va; cases Vb
  obtain ⟨items, hl, hv, _⟩ := R.list e
  obtain ⟨items', hl', hv', _⟩ := R.list e'
  exact ne_intsK hl hv.toInts hl' hv'.toInts (by have := hA.un; omega) (P.now R h .bool)

/-! a list of lists of ints -/
inductive RowsAt (σ : List AO) : List AV → List (List Int) → Prop
  | nil : RowsAt σ [] []
  | cons {k : Nat} {ns : List Int} {vs : List AV} {m : List (List Int)} : σ[k]? = some (.list (iL ns)) → RowsAt σ vs m → RowsAt σ (.ref k :: vs) (ns :: m)
noncomputable def MatAt (σ : List AO) (k : Nat) (m : List (List Int)) : Prop := ∃ vs, σ[k]? = some (.list vs) ∧ RowsAt σ vs m
theorem RowsAt.grow {τ : List AO} {vs : List AV} {m : List (List Int)} (h : RowsAt σ vs m) (hk : ∀ (k : Nat) (o : AO), σ[k]? = some o → τ[k]? = some o) : RowsAt τ vs m := by
  induction h with
  | nil => exact .nil
  | cons e _ ih => exact .cons (hk _ _ e) ih
theorem MatAt.grow {τ : List AO} {k : Nat} {m : List (List Int)} (h : MatAt σ k m) (hk : ∀ (k : Nat) (o : AO), σ[k]? = some o → τ[k]? = some o) : MatAt τ k m := let ⟨vs, e, r⟩ := h; ⟨vs, hk _ _ e, r.grow hk⟩
theorem RowsAt.get {vs : List AV} {m : List (List Int)} (h : RowsAt σ vs m) : ∀ {i : Nat} {ns : List Int}, m[i]? = some ns → ∃ k, vs[i]? = some (.ref k) ∧ σ[k]? = some (.list (iL ns)) := by
  induction h with
  | nil => intro i ns e; simp at e
  | cons e _ ih =>
    intro i ns e'
    cases i with
    | zero => simp at e'; subst e'; exact ⟨_, rfl, e⟩
    | succ i => simp at e'; obtain ⟨k, h1, h2⟩ := ih e'; exact ⟨k, by simpa using h1, h2⟩
theorem RowsAt.length {vs : List AV} {m : List (List Int)} (h : RowsAt σ vs m) : vs.length = m.length := by
  induction h with
  | nil => rfl
  | cons _ _ ih => simp [ih]
theorem RowsAt.append {vs ws : List AV} {m m' : List (List Int)} (h : RowsAt σ vs m) (h' : RowsAt σ ws m') : RowsAt σ (vs ++ ws) (m ++ m') := by
  induction h with
  | nil => exact h'
  | cons e _ ih => exact .cons e ih

theorem RowsAt.reads {φ : Nat → Addr} {h : Heap} (R : Rep C.H C.T φ σ h) {vs : List AV} {m : List (List Int)} (r : RowsAt σ vs m) : ∀ {items : List Value}, VReps φ σ.length h vs items → ∃ as, ReadsAll h items (m.map fun ns => PyData.list (ns.map .int)) as := by
  induction r with
  | nil => intro items V; cases V; exact ⟨_, .nil⟩
  | cons e _ ih =>
    intro items V
    cases V with
    | cons V0 Vr =>
      cases V0
      obtain ⟨its, hl, hv, _⟩ := R.list e
      obtain ⟨as, ha⟩ := ih Vr
      exact ⟨_, .cons (reads_of_ints hl hv.toInts) ha⟩
theorem eqvAll_ints : ∀ ns ms : List Int, PyData.eqvAll (ns.map .int) (ms.map .int) = decide (ns = ms)
  | [], [] => rfl
  | [], _ :: _ => by simp [PyData.eqvAll]
  | _ :: _, [] => by simp [PyData.eqvAll]
  | a :: r, b :: t => by
    simp only [List.map_cons, PyData.eqvAll, PyData.eqv, eqvAll_ints r t]
    by_cases h1 : a = b <;> by_cases h2 : r = t <;> simp [h1, h2]
theorem eqvAll_rows : ∀ m m' : List (List Int), PyData.eqvAll (m.map fun ns => PyData.list (ns.map .int)) (m'.map fun ns => PyData.list (ns.map .int)) = decide (m = m')
  | [], [] => rfl
  | [], _ :: _ => by simp [PyData.eqvAll]
  | _ :: _, [] => by simp [PyData.eqvAll]
  | a :: r, b :: t => by
    simp only [List.map_cons, PyData.eqvAll, PyData.eqv, eqvAll_rows r t, eqvAll_ints]
    by_cases h1 : a = b <;> by_cases h2 : r = t <;> simp [h1, h2]
theorem shaped_rows (m : List (List Int)) : shaped (.list (m.map fun ns => PyData.list (ns.map .int))) = true := by
  have h1 : ∀ m : List (List Int), PyData.canLayAll0 (m.map fun ns => PyData.list (ns.map .int)) = true := fun m => by
    induction m with
    | nil => simp [PyData.canLayAll0]
    | cons a r ih =>
      have := canLay_of_shaped (shaped_ints a)
      simp only [List.map_cons, PyData.canLayAll0, ih, this, Bool.and_self]
  have h2 : ∀ m : List (List Int), PyData.depthAll (m.map fun ns => PyData.list (ns.map .int)) ≤ 2 := fun m => by
    induction m with
    | nil => simp [PyData.depthAll]
    | cons a r ih =>
      have := W.depthAll_ints a
      simp only [List.map_cons, PyData.depthAll, PyData.depth]
      omega
  have h2 := h2 m
  have h3 : PyData.depth (.list (m.map fun ns => PyData.list (ns.map .int))) ≤ 64 := by simp only [PyData.depth]; omega
  show (PyData.canLay0 _ && decide (PyData.depth _ ≤ 64)) = true
  rw [Bool.and_eq_true]
  exact ⟨by simp only [PyData.canLay0]; exact h1 m, decide_eq_true h3⟩
theorem cmp_neM {i j : Nat} {m m' : List (List Int)} (e : MatAt σ i m) (e' : MatAt σ j m') (h : K (.bool (!decide (m = m'))) σ) : CmpC C n env ρ .NotEq (.ref i) (.ref j) σ K := by
  intro A φ s Q E a' b' hA R F Va Vb P
  cases Va; cases Vb
  obtain ⟨vs, e, r⟩ := e
  obtain ⟨ws, e', r'⟩ := e'
  obtain ⟨items, ⟨o, ho, hc, k, hd⟩, hv, _⟩ := R.list e
  obtain ⟨items', ⟨o', ho', hc', k', hd'⟩, hv', _⟩ := R.list e'
  obtain ⟨as, ha⟩ := r.reads R hv
  obtain ⟨bs, hb⟩ := r'.reads R hv'
  refine ne_dataH (Reads.list ho hc hd (by simpa using ha)) (Reads.list ho' hc' hd' (by simpa using hb)) (shaped_rows m) (shaped_rows m') (by have := hA.un; omega) ?_
  simp only [PyData.eqv, eqvAll_rows]
  exact P.now R h .bool

/-! a tuple's head -/
theorem adjust_upto (b n : Nat) (hb : b ≤ n) : Builtin.Slice.sliceAdjust none (some (b : Int)) 1 (n : Int) = (0, (b : Int)) := by
  unfold Builtin.Slice.sliceAdjust
  have h1 : ¬ ((1 : Int) < 0) := by omega
  have h2 : ¬ ((b : Int) < 0) := by omega
  simp only [h1, h2, if_false]
  congr 1
  omega
theorem places_upto (b : Nat) : Builtin.Slice.slicePlaces 0 (b : Int) 1 = b := by
  unfold Builtin.Slice.slicePlaces
  have h1 : (1 : Int) > 0 := by omega
  simp only [h1, if_true, Int.ediv_one]
  split <;> omega
theorem sliceApplied_upto {prog : Program} {w : World} {A : Around} {E : Value → Shared → Prop} {s : Shared} {sl : Addr} {b n : Nat} {u : Tok} {Q : Int × Int × Nat → Shared → Prop} (hs : s.heap.IsSliceOf sl .none (.int b u) .none) (hb : b ≤ n) (h : Q (0, 1, b) s) :
    wpAny (model prog w) A (Builtin.Slice.sliceApplied (.ref sl) (pure (n : Int))) Q E s := by
  obtain ⟨os, hos, hcs, hds⟩ := id hs
  unfold Builtin.Slice.sliceApplied Builtin.Slice.sliceFields
  refine wpAny_bind (wpAny_bind (wpAny_field hos hds (x := .none) rfl (wpAny_bind (wpAny_field hos hds (x := .int b u) rfl (wpAny_bind (wpAny_field hos hds (x := .none) rfl (wpAny_pure ?_)))))))
  refine wpAny_bind (slicePart_none ?_)
  show wpAny _ _ (if ((1 : Int) == 0) = true then _ else _) _ _ s
  rw [if_neg (by decide)]
  refine wpAny_bind (slicePart_none (wpAny_bind (slicePart_int (wpAny_bind (wpAny_pure ?_)))))
  show wpAny _ _ (match Builtin.Slice.sliceAdjust none (some (b : Int)) 1 (n : Int) with | (lo, hi) => pure (lo, (1 : Int), Builtin.Slice.slicePlaces lo hi 1)) _ _ s
  rw [adjust_upto b n hb]
  show wpAny _ _ (pure ((0 : Int), (1 : Int), Builtin.Slice.slicePlaces 0 (b : Int) 1)) _ _ s
  rw [places_upto b]
  exact wpAny_pure h
theorem pick_upto (xs : Array Value) (b : Nat) : ((List.range b).filterMap fun (k : Nat) => xs[((0 : Int) + (k : Int) * 1).toNat]?).toArray = (xs.toList.take b).toArray := by
  have e : (fun (k : Nat) => xs[((0 : Int) + (k : Int) * 1).toNat]?) = fun k => xs[0 + k]? := by
    funext k
    have : ((0 : Int) + (k : Int) * 1).toNat = 0 + k := by omega
    rw [this]
  rw [e]
  have := pick_run xs 0 b
  rw [List.filterMap_map] at this
  have e2 : ((fun x => xs[x]?) ∘ fun x => 0 + x) = fun k => xs[0 + k]? := rfl
  rw [e2] at this
  rw [this, List.drop_zero]
theorem getItem_tuple_upto {prog : Program} {w : World} {A : Around} {E : Value → Shared → Prop} {s : Shared} {t sl : Addr} {items : Array Value} {b : Nat} {u : Tok} {Q : Value → Shared → Prop} (ht : IsTup s.heap t items) (hs : s.heap.IsSliceOf sl .none (.int b u) .none) (hb : b < items.size)
    (h : Q (.ref s.heap.objs.size) { s with heap := s.heap.push { cls := .type "tuple", data := .seq (items.toList.take b).toArray } })
    (hsz : items.size ≤ sizeLine) : wpAny (model prog w) A (getItem (.ref t) (.ref sl)) Q E s := by
  have hdrop : sizeOk (.seq (items.toList.take b).toArray) := by
    show (items.toList.take b).toArray.size ≤ sizeLine
    rw [List.size_toArray, List.length_take, Array.length_toList]
    omega
  obtain ⟨os, hos, hcs, hds⟩ := id hs
  have hTs : s.TypeIs (.ref sl) "slice" := ⟨os, hos, hcs⟩
  unfold getItem
  try with_reducible refine wpAny_holding ?_
  first | refine wpAny_bind (wpAny_pure ?_) | skip
  refine wpAny_bind (wpAny_sequenceKey ht.typeIs (by decide) ?_)
  refine wpAny_bind (wpAny_callSpecial?_slot (name := PySem.Str.ofString "__getitem__") ht.typeIs slot_tuple_getitem
    (wpAny_call_entry slot_tuple_getitem ht.typeIs entry_tuple_getitem ?_ (args_tuple_getitem _ _)))
  show wpAny _ _ (Builtin.Tuple.tupleItemsOf (.ref t) >>= _) _ _ s
  refine wpAny_bind (tupleItemsOf_ ht ?_)
  refine wpAny_bind (wpAny_typeOf hTs ?_)
  rw [if_pos (by decide)]
  refine wpAny_bind (sliceApplied_upto hs (Nat.le_of_lt hb) ?_)
  have hno : ¬ (((0 : Int) == 0 && (1 : Int) == 1 && b == items.size) = true) := by
    have : (b == items.size) = false := by rw [beq_eq_false_iff_ne]; omega
    rw [this]; simp
  show wpAny _ _ (if ((0 : Int) == 0 && (1 : Int) == 1 && b == items.size) = true then _ else _) _ _ s
  rw [if_neg hno, pick_upto items b]
  first
    | exact wpAny_bind (m := Builtin.Tuple.tupleExact _) (wpAny_newObj_type (wpAny_pure ⟨_, rfl, wpAny_pure h⟩) hdrop)
    | exact wpAny_bind (m := Builtin.Tuple.tupleExact _) (wpAny_newObj_type (wpAny_bind (wpAny_pure (wpAny_pure ⟨_, rfl, wpAny_pure h⟩))) hdrop)
    | exact wpAny_bind (wpAny_bind (m := Builtin.Tuple.tupleExact _) (wpAny_newObj_type (wpAny_pure (wpAny_pure ⟨_, rfl, wpAny_pure h⟩)) hdrop))
    | exact wpAny_bind (wpAny_bind (m := Builtin.Tuple.tupleExact _) (wpAny_newObj_type (wpAny_pure ⟨_, rfl, wpAny_pure h⟩) hdrop))

theorem VReps.take {φ : Nat → Addr} {m : Nat} {h : Heap} : ∀ {as : List AV} {vs : List Value} (_ : VReps φ m h as vs) (k : Nat), VReps φ m h (as.take k) (vs.take k)
  | _, _, _, 0 => .nil
  | _, _, .nil, _ + 1 => .nil
  | _, _, .cons a r, k + 1 => .cons a (r.take k)
theorem ev_upto {value : Expr} {k : Nat} {b : Nat} {p p' pos : Pos} (h : EvC C n env ρ σ value fun v σ₁ => ∃ vs, v = .tup vs ∧ b < vs.length ∧ vs.length ≤ 4096 ∧ K (.tup (vs.take b)) σ₁)
    (ht : ∀ o r, letTemporaryGo value o r = pure ()) : EvC C n env ρ σ (.Subscript value (.Slice none (some (.Constant (.int (b : Int)) k p)) none p') pos) K := by
  intro A φ s Q E hA R F P
  refine wpAny_Subscript_Slice slot_tuple_getitem.lookup (h A φ s _ E hA R F ?_) ht
  rintro φ₁ σ₁ s₁ v v' ⟨vs, rfl, hb, hle, hk⟩ S₁ V
  have F₁ := F.step R S₁
  refine wpAny_Slice ?_
  refine wpAny_pure ?_
  refine wpAny_Constant_int (k := k) (pos := p) ?_
  refine wpAny_pure ?_
  cases V with
  | tup e c d r =>
    rename_i items _ _ _
    have hl := r.length
    have hpush : ∀ (o o' : Obj) b x, s₁.heap.get? b = some x → ((s₁.heap.push o).push o').get? b = some x := fun o o' b x e => Heap.get?_push_of_some _ (Heap.get?_push_of_some _ e)
    refine ⟨⟨_, Heap.get?_push_of_some _ e, c⟩, getItem_tuple_upto ⟨_, Heap.get?_push_of_some _ e, c, _, d⟩ (Heap.IsSliceOf.new ..) (by simpa [← hl] using hb) ?_ (by simp only [List.size_toArray, ← hl, sizeLine_eq]; omega)⟩
    have S₂ : Step C.H C.T env.locals φ₁ σ₁ s₁ φ₁ σ₁ { s₁ with heap := (s₁.heap.push { cls := .type "slice", data := .fields #[.none, .int (b : Int) s₁.toks, .none] }).push { cls := .type "tuple", data := .seq (items.toArray.toList.take b).toArray }, toks := s₁.toks + 1 } := Step.ofKeep S₁.rep (hpush _ _)
    refine P _ _ _ _ _ hk (S₁.trans S₂) (.tup (Heap.get?_push_size _ rfl) rfl rfl ?_)
    have := (r.take b).step S₁.rep F₁ S₂
    simpa using this
end Mine
end

/-! VDict -/
section
open PySem PySem.W PyProof.Rows PySem.Calls PySem.SeqAt
namespace Mine
variable {C : Cx} {n : Nat} {env : Env} {ρ : Loc} {σ : List AO} {K : Kv}

noncomputable abbrev tk (H : PW) := tupleKind (intKind H.1 H.2)
theorem pair_key {φ : Nat → Addr} {m : Nat} {h : Heap} {x y : Int} {v : Value} (V : VRep φ m h (.tup [.int x, .int y]) v) : ∃ a, v = .ref a ∧ (tk C.H).is h [x, y] a := by
  cases V with
  | tup e c d r =>
    obtain ⟨v0, v1, rfl, V0, V1⟩ := r.two
    cases V0; cases V1
    exact ⟨_, rfl, _, _, _, e, c, d, .cons (by simp [intKind, Value.isInt]) (.cons (by simp [intKind, Value.isInt]) .nil)⟩

theorem DEnt.at_none {φ : Nat → Addr} {m : Nat} {h : Heap} {k : Int × Int} : ∀ {fs xs}, DEnt φ m h fs xs → fs.lookup k = none → atKey xs [k.1, k.2] = none
  | _, _, .nil, _ => rfl
  | _, _, .cons (k := k') _ r, e => by
    rw [List.lookup_cons] at e
    by_cases q : k = k'
    · subst q; simp at e
    · have q1 : (k == k') = false := by simpa using q
      rw [q1] at e
      have ih := DEnt.at_none r e
      unfold atKey at ih ⊢
      rw [List.find?_cons]
      have : (decide ([k'.1, k'.2] = [k.1, k.2])) = false := by
        rw [decide_eq_false_iff_not]
        intro z
        simp only [List.cons.injEq, and_true] at z
        exact q (Prod.ext z.1.symm z.2.symm)
      simp only [this]
      exact ih
theorem DEnt.at_some {φ : Nat → Addr} {m : Nat} {h : Heap} {k : Int × Int} {a : AV} : ∀ {fs xs}, DEnt φ m h fs xs → fs.lookup k = some a → ∃ ka v, atKey xs [k.1, k.2] = some (ka, v) ∧ VRep φ m h a v
  | _, _, .cons (k := k') (ka := ka) (v := v) V r, e => by
    rw [List.lookup_cons] at e
    by_cases q : k = k'
    · subst q; simp at e; subst e
      exact ⟨ka, v, by unfold atKey; rw [List.find?_cons]; simp, V⟩
    · have q1 : (k == k') = false := by simpa using q
      rw [q1] at e
      obtain ⟨ka', v', ih, V'⟩ := DEnt.at_some r e
      refine ⟨ka', v', ?_, V'⟩
      unfold atKey at ih ⊢
      rw [List.find?_cons]
      have : (decide ([k'.1, k'.2] = [k.1, k.2])) = false := by
        rw [decide_eq_false_iff_not]
        intro z
        simp only [List.cons.injEq, and_true] at z
        exact q (Prod.ext z.1.symm z.2.symm)
      simp only [this]
      exact ih

noncomputable def dset (fs : List ((Int × Int) × AV)) (k : Int × Int) (v : AV) : List ((Int × Int) × AV) := if (fs.lookup k).isSome then fs.map (fun p => if p.1 = k then (p.1, v) else p) else fs ++ [(k, v)]
theorem dset_len (fs : List ((Int × Int) × AV)) (k : Int × Int) (v : AV) : (dset fs k v).length ≤ fs.length + 1 := by
  unfold dset; split <;> simp
theorem DEnt.append {φ : Nat → Addr} {m : Nat} {h : Heap} : ∀ {fs gs xs ys}, DEnt φ m h fs xs → DEnt φ m h gs ys → DEnt φ m h (fs ++ gs) (xs ++ ys)
  | _, _, _, _, .nil, b => b
  | _, _, _, _, .cons V r, b => .cons V (r.append b)
theorem DEnt.mapPut {φ : Nat → Addr} {m : Nat} {h : Heap} {k : Int × Int} {a : AV} {v : Value} (V : VRep φ m h a v) : ∀ {fs xs}, DEnt φ m h fs xs → DEnt φ m h (fs.map (fun p => if p.1 = k then (p.1, a) else p)) (xs.map (putAt [k.1, k.2] v))
  | _, _, .nil => .nil
  | _, _, .cons (k := k') W0 r => by
    rw [List.map_cons, List.map_cons]
    by_cases q : k' = k
    · subst q
      simp only [if_true, putAt]
      exact .cons V (DEnt.mapPut V r)
    · have : ¬ ([k'.1, k'.2] = [k.1, k.2]) := fun z => by
        simp only [List.cons.injEq, and_true] at z
        exact q (Prod.ext z.1 z.2)
      simp only [putAt, if_neg this, if_neg q]
      exact .cons W0 (DEnt.mapPut V r)
theorem DEnt.stored {φ : Nat → Addr} {m : Nat} {h : Heap} {k : Int × Int} {a : AV} {v : Value} {ka : Addr} {fs xs} (D : DEnt φ m h fs xs) (V : VRep φ m h a v) : DEnt φ m h (dset fs k a) (storedH xs [k.1, k.2] ka v) := by
  unfold dset storedH
  cases e : fs.lookup k with
  | none => rw [D.at_none e]; simp only [Option.isSome_none, Bool.false_eq_true, if_false]; exact D.append (.cons V .nil)
  | some b =>
    obtain ⟨_, _, h1, _⟩ := D.at_some e
    rw [h1]; simp only [Option.isSome_some, if_true]; exact D.mapPut V

theorem Rep.dict {φ : Nat → Addr} {h : Heap} (R : Rep C.H C.T φ σ h) {k : Nat} {es : List ((Int × Int) × AV)} (e : σ[k]? = some (.dict es)) : ∃ xs, DictAt C.H h (φ k) xs ∧ DEnt φ σ.length h es xs ∧ es.length ≤ 4096 := R.obj k _ e
theorem not_modules {φ : Nat → Addr} {h : Heap} (R : Rep C.H C.T φ σ h) {k : Nat} (hk : k < σ.length) : (φ k == sysModules) = false := by
  have h1 := R.low k hk
  have h2 : 3 < C.T.objs.size := C.TR.g.lt
  have : φ k ≠ 1 := fun q => by rw [q] at h1; exact absurd (Nat.lt_of_lt_of_le h2 h1) (by decide)
  exact beq_eq_false_iff_ne.mpr this

theorem cmp_inD {k : Nat} {es : List ((Int × Int) × AV)} {x y : Int} (e : σ[k]? = some (.dict es)) (h : K (.bool (es.lookup (x, y)).isSome) σ) : CmpC C n env ρ .In (.tup [.int x, .int y]) (.ref k) σ K := by
  intro A φ s Q E a' b' hA R F Va Vb P
  obtain ⟨xs, hd, D, _⟩ := R.dict e
  cases Vb with
  | ref hk =>
    obtain ⟨ka, rfl, hkey⟩ := pair_key (C := C) Va
    refine wpAny_in_heap (knd := tk C.H) (tupleKind_room_in1 (by have := hA.un; omega)) hkey (not_modules R hk) hd ?_
    cases z : es.lookup (x, y) with
    | none => have := D.at_none z; rw [this]; rw [z] at h; exact P.tok R h .bool
    | some a => obtain ⟨_, _, h1, _⟩ := D.at_some z; rw [h1]; rw [z] at h; exact P.tok R h .bool
theorem sub_dict {value slice : Expr} {k : Nat} {es : List ((Int × Int) × AV)} {x y : Int} {v : AV} (e : σ[k]? = some (.dict es)) (hv : es.lookup (x, y) = some v) (h : K v σ) (hs : PlainSlice slice) : SubC C n env ρ value slice (.ref k) (.tup [.int x, .int y]) σ K := by
  intro A φ s Q E a' b' hA R F Va Vb P
  obtain ⟨xs, hd, D, _⟩ := R.dict e
  cases Va with
  | ref hk =>
    obtain ⟨ka, rfl, hkey⟩ := pair_key (C := C) Vb
    obtain ⟨_, v', h1, V⟩ := D.at_some hv
    exact tail_any hd.typeIs slot_dict_getitem.lookup (wpAny_getItem_heap (knd := tk C.H) (tupleKind_room_in1 (by have := hA.un; omega)) hkey hd h1 (P.tok R h V)) (hs _ _)
theorem set_dictD {k : Nat} {es : List ((Int × Int) × AV)} {x y : Int} {v : AV} {K : List AO → Prop} (e : σ[k]? = some (.dict es)) (hn : es.length < 4096) (h : K (σ.set k (.dict (dset es (x, y) v)))) : SetC C n env ρ (.ref k) (.tup [.int x, .int y]) v σ K := by
  intro A φ s Q E o' i' v' hA R F Vo Vi Vv P
  obtain ⟨xs, hd, D, _⟩ := R.dict e
  cases Vo with
  | ref hk =>
    obtain ⟨ka, rfl, hkey⟩ := pair_key (C := C) Vi
    have hlen := D.length
    refine wpAny_setItem_heap (knd := tk C.H) (tupleKind_room_in1 (by have := hA.un; omega)) hkey hd (fun h' hd' hs => ?_) (by rw [sizeLine_eq]; omega)
    have fz := turn_froz R hk hs
    refine P φ _ _ h (Step.turn (tk := s.toks + (tk C.H).draws [x, y]) (ao := .dict (dset es (x, y) v)) R F hk hs ⟨_, hd', ?_, by have := dset_len es (x, y) v; omega⟩)
    exact DEnt.stored (k := (x, y)) (D.mono fz (Nat.le_refl _) fun _ _ => rfl) (Vv.mono fz (Nat.le_refl _) fun _ _ => rfl)
end Mine
end

/-! VDict2 -/
section
open PySem PySem.W PyProof.Rows PySem.Calls PySem.SeqAt
namespace Mine
variable {C : Cx} {n : Nat} {env : Env} {ρ : Loc} {σ : List AO} {K : Kv}

theorem keys_none : typeLookup (.type "list") "keys" = pure none := by rw [typeLookup_type, builtinLookup_eq_fast]; kernel_rfl
set_option maxHeartbeats 1000000 in
theorem getAttrQ_miss_list {prog : Program} {w : World} {A : Around} {E : Value → Shared → Prop} {s : Shared} {a : Addr} {xs : Array Value} {k : Nat} {sl : Array (Option Value)} {Q : Option Value → Shared → Prop}
    (hx : s.heap.get? a = some { cls := .type "list", dict := none, data := .seq xs k, slots := sl }) (hA : A.handled = none)
    (h : ∀ h' tk, (∀ b o, s.heap.get? b = some o → h'.get? b = some o) → Q none { s with heap := h', toks := tk }) :
    wpAny (model prog w) A (getAttr? (.ref a) "keys") Q E s := by
  obtain ⟨hp, g, d, tk, os⟩ := s
  have hT : ∀ tk', (⟨hp, g, d, tk', os⟩ : Shared).TypeIs (.ref a) "list" := fun _ => ⟨_, hx, rfl⟩
  have f1 := sub_AttributeError
  have f3 := F.slot_list_getattribute.lookup
  have f4 := F.slot_list_getattribute.bind (.ref a)
  have f5 := am_list_getattr_none
  unfold getAttr? getAttrBy?
  refine wpAny_bind ?_
  refine wpAny_mkText ?_
  refine wpAny_bind (wpAny_attempt ?_)
  unfold getAttrBy
  repeat (any_goals (first | assumption | exact hT _ | ((with_reducible show wpAny _ _ (call (Value.builtin "list.__getattribute__") _ _) _ _ _); refine call_meets F.slot_list_getattribute (hT _) am_entry_list_getattribute (F.args_list_getattribute_2 _ _) (meets_getattribute_miss_list a xs k sl _ _ keys_none (by decide) (by decide)) ⟨hx, hA, fun h' tk' e hx' => ?_⟩) | wp_step))
  obtain ⟨t', u', he⟩ := hx'.there
  show wpAny _ _ (getattributeRaised _ _ _ _ _ _ _) _ _ _
  unfold getattributeRaised
  repeat (any_goals (first | assumption | wp_step))
  exact h _ _ hx'.keeps

theorem plain_dul : plainId "dict.update.loop" = true := by decide +kernel
theorem entry_dul : entryFor table "dict.update.loop" = some Builtin.«dict.update.loop» := entryFor_of_tree (by kernel_rfl)
theorem pairItems_tup {prog : Program} {w : World} {A : Around} {E : Value → Shared → Prop} {s : Shared} {a : Addr} {o : Obj} {items : List Value} {ep : Nat} {Q : List Value → Shared → Prop} (e : s.heap.get? a = some o) (hc : o.cls = .type "tuple") (hd : o.data = .seq items.toArray ep) (h : Q items s) :
    wpAny (model prog w) A (Builtin.Dict.pairItems (.ref a)) Q E s := by
  unfold Builtin.Dict.pairItems
  refine wpAny_bind (wpAny_typeOf (T := "tuple") ⟨o, e, hc⟩ ?_)
  rw [if_pos (by decide)]
  refine wpAny_bind (wpAny_seqItems e hd ?_)
  refine wpAny_pure ?_
  simpa using h

noncomputable def pairAV (p : (Int × Int) × AV) : AV := .tup [.tup [.int p.1.1, .int p.1.2], p.2]

theorem take_nodup_lookup : ∀ {es : List ((Int × Int) × AV)} {i : Nat} {p : (Int × Int) × AV}, (es.map (·.1)).Nodup → es[i]? = some p → (es.take i).lookup p.1 = none
  | [], _, _, _, e => by simp at e
  | x :: r, 0, p, _, _ => rfl
  | x :: r, i + 1, p, hn, e => by
    simp only [List.map_cons, List.nodup_cons] at hn
    simp only [List.getElem?_cons_succ] at e
    rw [List.take_succ_cons, List.lookup_cons]
    have : (p.1 == x.1) = false := by
      rw [beq_eq_false_iff_ne]
      intro q
      exact hn.1 (by rw [← q]; exact List.mem_map_of_mem (f := (·.1)) (List.mem_of_getElem? e))
    rw [this]
    exact take_nodup_lookup hn.2 e

theorem dict_loop {A : Around} {R : Result → Shared → Prop} {φ : Nat → Addr} {m : Nat} {l it d : Addr} {items : List Value} {es : List ((Int × Int) × AV)} (hh : A.handled = none) (hu : A.units + 1 < cLine) (hli : l ≠ it) (hld : l ≠ d) (hdi : d ≠ it) (hn : (es.map (·.1)).Nodup) (hlen : es.length ≤ 4096) :
    ∀ (k i : Nat) (s : Shared) (xs : List (List Int × Addr × Value)), k = es.length - i → i ≤ es.length → s.heap.IsListIter it l i → s.heap.IsList l items.toArray → DictAt C.H s.heap d xs → DEnt φ m s.heap (es.take i) xs → VReps φ m s.heap (es.map pairAV) items →
      (∀ h' tk xs', DictAt C.H h' d xs' → DEnt φ m h' es xs' → (∀ b o, b ≠ it → b ≠ d → s.heap.get? b = some o → h'.get? b = some o) → R (.ok (.ret .none)) { s with heap := h', toks := tk }) →
      codeAny C.M A (.builtin "dict.update.loop" ⟨[.ref d, .ref it, rawInt i, .none], []⟩) R s := by
  intro k
  induction k with
  | zero =>
    intro i s xs hk hi hit hl hd D V hR
    have hi' : i = es.length := by omega
    subst hi'
    have hVl := V.length
    rw [List.length_map] at hVl
    refine codeAny_builtin entry_dul ?_
    rw [Around.under_plainId plain_dul _]
    unfold Builtin.«dict.update.loop»
    show wpAny _ _ (pyNext (.ref it) >>= _) _ _ s
    refine wpAny_bind (wpAny_pyNext_list_end hh hit hl (by simp [hVl]) fun h' he => ?_)
    show wpAny _ _ (Builtin.Dict.addKeywords d [] >>= _) _ _ _
    refine wpAny_bind (wpAny_pure (wpAny_pure ?_))
    rw [List.take_length] at D
    have fz : Froz s.heap h' := fun b o e f => he b o (fun q => by
      obtain ⟨o', e', hc, _⟩ := hit
      rw [q, e'] at e; cases e
      exact iterObj_nf e' hc (by decide) (by decide) f) e
    exact hR h' s.toks xs (hd.mono fz fun x e => he _ x hdi e) (D.mono fz (Nat.le_refl _) fun _ _ => rfl) fun b o hb _ e => he b o hb e
  | succ k ih =>
    intro i s xs hk hi hit hl hd D V hR
    have hlt : i < es.length := by omega
    obtain ⟨v, hv, Vi⟩ := V.get (i := i) (a := pairAV es[i]) (by simp [hlt])
    refine codeAny_builtin entry_dul ?_
    rw [Around.under_plainId plain_dul _]
    unfold Builtin.«dict.update.loop»
    show wpAny _ _ (pyNext (.ref it) >>= _) _ _ s
    refine wpAny_bind (wpAny_pyNext_list_item hit hl (by simpa using hv) fun h' hit' hs' => ?_)
    have fz : Froz s.heap h' := fun b o e f => (hs'.2 b (fun q => by
      obtain ⟨o', e', hc, _⟩ := hit
      rw [q, e'] at e; cases e
      exact iterObj_nf e' hc (by decide) (by decide) f)).trans e
    have Vi' := Vi.mono fz (Nat.le_refl _) (φ' := φ) fun _ _ => rfl
    have hd' := hd.mono fz fun x e => (hs'.2 d hdi).trans e
    have D' := D.mono fz (Nat.le_refl _) (φ' := φ) fun _ _ => rfl
    unfold pairAV at Vi'
    cases Vi' with
    | tup e c dd r =>
      obtain ⟨kv, vv, rfl, Vk, Vv⟩ := r.two
      obtain ⟨ka, rfl, hkey⟩ := pair_key (C := C) Vk
      refine wpAny_bind (wpAny_holding (wpAny_bind (wpAny_tryCatch (pairItems_tup e c dd ?_))))
      refine wpAny_holding (wpAny_dictSet_heap (knd := tk C.H) (by show A.in1.units < cLine; rw [units_in1]; exact hu) hkey hd' (fun h'' hd'' hs'' => ?_) (by have := D.length; rw [← this, List.length_take, sizeLine_eq]; omega))
      have hnf : ∀ o, h'.get? d = some o → ¬ frozen o := fun o e' f => by
        obtain ⟨o', es', ep, e1, _, e3, _⟩ := hd'
        rw [e1] at e'; cases e'
        exact f.notDict e3
      have fz' : Froz h' h'' := fun b o e' f => (hs''.2 b fun q => hnf o (q ▸ e') f).trans e'
      have hnew := D'.at_none (take_nodup_lookup hn (List.getElem?_eq_getElem hlt))
      have hst := storedH_new hnew ka vv
      have e1 : es.take (i + 1) = es.take i ++ [es[i]] := by rw [List.take_add_one, List.getElem?_eq_getElem hlt]; rfl
      refine wpAny_pure ⟨Code.quiet_builtin _ (by decide +kernel), ?_⟩
      have hc : rawInt ((i : Int) + 1) = rawInt ((i + 1 : Nat) : Int) := by rw [Int.natCast_succ]
      show codeAny _ _ (.builtin "dict.update.loop" ⟨[.ref d, .ref it, rawInt ((i : Int) + 1), .none], []⟩) _ _
      rw [hc]
      have hd3 : DictAt C.H h'' d (xs ++ [([es[i].1.1, es[i].1.2], ka, vv)]) := by rw [← hst]; exact hd''
      refine ih (i + 1) _ (xs ++ [([es[i].1.1, es[i].1.2], ka, vv)]) (by omega) hlt (hit'.extBut hs''.extBut (Ne.symm hdi)) ((hl.extBut hs'.extBut hli).extBut hs''.extBut hld) hd3 ?_ ?_ ?_
      · rw [e1]
        exact (D'.mono fz' (Nat.le_refl _) fun _ _ => rfl).append (.cons (k := es[i].1) (Vv.mono fz' (Nat.le_refl _) fun _ _ => rfl) .nil)
      · exact (V.mono fz (Nat.le_refl _) fun _ _ => rfl).mono fz' (Nat.le_refl _) fun _ _ => rfl
      · intro h3 tk3 xs3 q1 q2 q3
        exact hR h3 tk3 xs3 q1 q2 fun b o hb hb' e' => q3 b o hb hb' ((hs''.2 b hb').trans ((hs'.2 b hb).trans e'))

set_option maxHeartbeats 1000000 in
theorem b_dict {k : Nat} {es : List ((Int × Int) × AV)} (e : σ[k]? = some (.list (es.map pairAV))) (hn : (es.map (·.1)).Nodup) (h : K (.ref σ.length) (σ ++ [.dict es])) : CallC C n env ρ σ (.top (.type "dict")) [.ref k] K := by
  intro A φ s Q E f' vs' hA R F Vf V P
  cases Vf; obtain ⟨_, rfl, V0⟩ := V.one; cases V0 with
  | ref hk =>
    obtain ⟨items, ep, he, hv, hlen⟩ := R.listAt e
    rw [List.length_map] at hlen
    have keep : ∀ b o, s.heap.get? b = some o → (s.heap.push { cls := .type "dict", data := .dict #[] }).get? b = some o := fun b o e => Heap.get?_push_of_some _ e
    have hdict : (s.heap.push { cls := .type "dict", data := .dict #[] }).get? s.heap.objs.size = some { cls := .type "dict", data := .dict #[] } := Heap.get?_push_size _ rfl
    refine callType_codes (Q₁ := fun obj s₁ => obj = .ref s.heap.objs.size ∧ s₁ = { s with heap := s.heap.push { cls := .type "dict", data := .dict #[] } }) PySem.F.kt_called_dict (PySem.F.kt_typeCall_dict_1 _) PySem.F.entry_dict_init (kt_code_dict_new _ ⟨rfl, rfl⟩) ?_
    rintro obj s₁ ⟨rfl, rfl⟩
    have hty : ({ s with heap := s.heap.push { cls := .type "dict", data := .dict #[] } } : Shared).TypeIs (.ref s.heap.objs.size) "dict" := ⟨_, hdict, rfl⟩
    have hl : ({ s with heap := s.heap.push { cls := .type "dict", data := .dict #[] } } : Shared).TypeIs (.ref (φ k)) "list" := ⟨_, keep _ _ he, rfl⟩
    refine ⟨hty, PySem.F.args_dict_init_2 _ _, ?_⟩
    unfold Builtin.«dict.__init__»
    refine wpAny_bind ?_
    unfold Builtin.Dict.selfAndRest
    refine wpAny_bind (wpAny_notOrdered_dict hty ?_)
    show wpAny _ _ (pure (s.heap.objs.size, [Value.ref (φ k)])) _ _ _
    refine wpAny_pure ?_
    show wpAny _ _ (Builtin.Dict.updateFrom "dict.__init__" s.heap.objs.size (.ref (φ k)) [] .none) _ _ _
    unfold Builtin.Dict.updateFrom
    refine wpAny_bind (wpAny_typeOf hl ?_)
    rw [if_pos (by decide)]
    refine wpAny_bind (getAttrQ_miss_list (keep _ _ he) hA.hd fun h₁ tk₁ hk₁ => ?_)
    simp only [Option.isNone_none, if_true]
    refine wpAny_bind (wpAny_rule ?_)
    have hl₁ : h₁.IsList (φ k) items.toArray := ⟨_, hk₁ _ _ (keep _ _ he), rfl, _, rfl⟩
    refine wpAny_bind (wpAny_pyIter_list hl₁ ?_)
    refine wpAny_pure ⟨Code.quiet_builtin _ (by decide +kernel), ?_⟩
    have hDlt : s.heap.objs.size < h₁.objs.size := Heap.lt_size (hk₁ _ _ hdict)
    have hklt : φ k < h₁.objs.size := Heap.lt_size (hk₁ _ _ (keep _ _ he))
    have hkl : φ k < s.heap.objs.size := R.lt hk
    have kp : ∀ b o, s.heap.get? b = some o → (h₁.push { cls := .type "list_iterator", data := .fields #[.ref (φ k), .int 0 0] }).get? b = some o := fun b o e => Heap.get?_push_of_some _ (hk₁ _ _ (keep _ _ e))
    have fz : Froz s.heap (h₁.push { cls := .type "list_iterator", data := .fields #[.ref (φ k), .int 0 0] }) := fun b o e _ => kp b o e
    refine dict_loop (C := C) (φ := φ) (m := σ.length) (es := es) (l := φ k) (items := items) (A := A.in1) hA.hd (by rw [units_in1]; have := hA.un; omega) (Nat.ne_of_lt hklt) (Nat.ne_of_lt hkl) (Nat.ne_of_lt hDlt) hn hlen es.length 0 _ [] rfl (Nat.zero_le _)
      ⟨_, Heap.get?_push_size _ rfl, rfl, rfl⟩ ⟨_, Heap.get?_push_of_some _ (hk₁ _ _ (keep _ _ he)), rfl, _, rfl⟩
      ⟨_, #[], 0, Heap.get?_push_of_some _ (hk₁ _ _ hdict), ⟨rfl, rfl, rfl⟩, rfl, rfl, (fun _ h => nomatch h), List.nodup_nil⟩ (by rw [List.take_zero]; exact .nil) (hv.mono fz (Nat.le_refl _) fun _ _ => rfl) ?_
    intro h' tk xs' hd' D' hk'
    have hI : s.heap.get? h₁.objs.size = none := heap_none (Nat.le_of_lt hDlt)
    have hall : ∀ b o, s.heap.get? b = some o → h'.get? b = some o := fun b o e => hk' b o (fun q => by rw [q, hI] at e; cases e) (fun q => by rw [q, get_size] at e; cases e) (kp b o e)
    have S₀ : Step C.H C.T env.locals φ σ s φ σ { s with heap := h', toks := tk } := Step.ofKeep R hall
    refine ⟨rfl, P _ _ _ _ _ h (Step.made (ao := .dict es) S₀.rep (R.topsize (h := s.heap) F) (fun k hk q => absurd (R.lt hk) (by rw [q]; exact Nat.lt_irrefl _)) ⟨xs', hd', D'.mono (Froz.refl _) (Nat.le_succ _) put_le, hlen⟩ S₀ (get_size _)) put_ref⟩
end Mine
end

/-! VZip -/
section
open PySem PySem.W PyProof.Rows PySem.Calls PySem.SeqAt
namespace Mine
variable {C : Cx} {n : Nat} {env : Env} {ρ : Loc} {σ : List AO} {K : Kv}

section
variable {prog : Program} {w : World} {A : Around} {E : Value → Shared → Prop} {s : Shared}
theorem nextOf_tup_item {it t : Addr} {i : Nat} {items : Array Value} {x : Value} {Q : Value → Shared → Prop} (hit : s.heap.IsTupleIter it t i) (ht : s.heap.IsTuple t items) (hx : items[i]? = some x)
    (hQ : ∀ h', h'.IsTupleIter it t (i + 1) → Heap.SameBut it s.heap h' → Q x { s with heap := h' }) : wpAny (model prog w) A (Builtin.SmallTypes.nextOf (.ref it)) Q E s := by
  obtain ⟨o, ho, hc, hd⟩ := id hit
  obtain ⟨ol, hol, _, nl, hdl⟩ := ht
  unfold Builtin.SmallTypes.nextOf
  refine wpAny_bind (wpAny_callSpecial?_slot (name := PySem.Str.ofString "__next__") hit.typeIs PySem.F.slot_tuple_iterator_next
    (wpAny_call_entry PySem.F.slot_tuple_iterator_next hit.typeIs PySem.F.entry_tuple_iterator_next ?_ (PySem.F.args_tuple_iterator_next_1 _)))
  show wpAny _ _ (field (.ref it) 0 >>= _) _ _ s
  refine wpAny_bind (wpAny_field ho hd (x := .ref t) rfl ?_)
  show wpAny _ _ (if (Value.ref t == Value.none) = true then _ else _) _ _ s
  rw [if_neg (show ¬ ((Value.ref t == Value.none) = true) from Bool.false_ne_true)]
  show wpAny _ _ (field (.ref it) 1 >>= _) _ _ s
  refine wpAny_bind (wpAny_field ho hd (x := .int i 0) rfl ?_)
  show wpAny _ _ (seqItems? (.ref t) >>= _) _ _ s
  refine wpAny_bind (wpAny_seqItems hol hdl ?_)
  simp only [Int.toNat_natCast, hx]
  refine wpAny_bind (wpAny_setField ho hd (by simp) (wpAny_pure ⟨x, rfl, wpAny_pure (hQ _ ?_ (Heap.SameBut.update ..))⟩))
  exact ⟨_, Heap.get?_update_self _ ho (Obj.isFreed_of_fields (Obj.data_mapFields hd _)), (Obj.cls_mapFields ..).trans hc, by
    rw [Obj.data_mapFields hd]; simp [rawInt]⟩
theorem nextOf_tup_end {it t : Addr} {i : Nat} {items : Array Value} {Q : Value → Shared → Prop} (hh : A.handled = none) (hit : s.heap.IsTupleIter it t i) (ht : s.heap.IsTuple t items) (hx : items[i]? = none)
    (hE : ∀ h' e, Heap.ExtBut it s.heap h' → (∃ o, h'.get? e = some o ∧ o.cls = .type "StopIteration") → E (.ref e) { s with heap := h' }) : wpAny (model prog w) A (Builtin.SmallTypes.nextOf (.ref it)) Q E s := by
  obtain ⟨o, ho, hc, hd⟩ := id hit
  obtain ⟨ol, hol, _, nl, hdl⟩ := ht
  unfold Builtin.SmallTypes.nextOf
  refine wpAny_bind (wpAny_callSpecial?_slot (name := PySem.Str.ofString "__next__") hit.typeIs PySem.F.slot_tuple_iterator_next
    (wpAny_call_entry PySem.F.slot_tuple_iterator_next hit.typeIs PySem.F.entry_tuple_iterator_next ?_ (PySem.F.args_tuple_iterator_next_1 _)))
  show wpAny _ _ (field (.ref it) 0 >>= _) _ _ s
  refine wpAny_bind (wpAny_field ho hd (x := .ref t) rfl ?_)
  show wpAny _ _ (if (Value.ref t == Value.none) = true then _ else _) _ _ s
  rw [if_neg (show ¬ ((Value.ref t == Value.none) = true) from Bool.false_ne_true)]
  show wpAny _ _ (field (.ref it) 1 >>= _) _ _ s
  refine wpAny_bind (wpAny_field ho hd (x := .int i 0) rfl ?_)
  show wpAny _ _ (seqItems? (.ref t) >>= _) _ _ s
  refine wpAny_bind (wpAny_seqItems hol hdl ?_)
  simp only [Int.toNat_natCast, hx]
  refine wpAny_bind (wpAny_rule (wpAny_bind (wpAny_setField ho hd (by simp) ?_)))
  show wpAny _ _ (newExc (.type "StopIteration") [] >>= _) _ _ _
  refine wpAny_bind ?_
  simp only [newExc, newTuple]
  refine wpAny_bind (wpAny_newObj_type ?_ (by size_fits))
  refine wpAny_bind (m := firstArgMember _ _) (wpAny_of_eq (a := Value.none) (by first | rfl | (simp only [firstArgMember]; rfl)) ?_)
  refine wpAny_newObj_type ?_ (by size_fits)
  simp only [raiseNew]
  refine wpAny_bind (wpAny_handled ?_)
  first | rw [show A.in1.handled = none from hh] | rw [hh]
  refine wpAny_bind (wpAny_pure (wpAny_throw ?_))
  exact hE _ _ (((Heap.SameBut.update ..).extBut.push _).push _) ⟨_, Heap.get?_push_size _ rfl, rfl⟩

theorem tl_next_item {z TI TO i1 i2 l1 l2 : Addr} {k1 k2 : Nat} {xs ys : Array Value} {x y a b : Value} {Q : Value → Shared → Prop} (D : ZipApart z TI TO i1 i2 l1 l2)
    (hz : IsZip s.heap z TI TO .none) (hTI : IsPair s.heap TI (.ref i1) (.ref i2)) (hTO : IsPair s.heap TO a b)
    (h1 : s.heap.IsTupleIter i1 l1 k1) (h2 : s.heap.IsListIter i2 l2 k2) (hl1 : s.heap.IsTuple l1 xs) (hl2 : s.heap.IsList l2 ys) (hx : xs[k1]? = some x) (hy : ys[k2]? = some y)
    (hQ : ∀ h', IsZip h' z TI TO (rawInt s.heap.objs.size) → IsPair h' TO x y → h'.IsTupleIter i1 l1 (k1 + 1) → h'.IsListIter i2 l2 (k2 + 1) → IsPair h' s.heap.objs.size x y → h'.objs.size = s.heap.objs.size + 1 →
      (∀ c o, c ≠ z → c ≠ TO → c ≠ i1 → c ≠ i2 → s.heap.get? c = some o → h'.get? c = some o) → Q (.ref s.heap.objs.size) { s with heap := h' }) :
    wpAny (model prog w) A (Builtin.«zip.__next__» ⟨[.ref z], []⟩) (fun fin s' => ∃ v, fin = .done (.ret v) ∧ Q v s') E s := by
  show wpAny _ _ (field (.ref z) 2 >>= _) _ _ _
  refine wpAny_bind (wpAny_field hz rfl (x := .bool false) rfl ?_)
  show wpAny _ _ (field (.ref z) 3 >>= _) _ _ _
  refine wpAny_bind (wpAny_field hz rfl (x := .ref TI) rfl ?_)
  refine wpAny_bind (wpAny_seqItems hTI rfl ?_)
  show wpAny _ _ (Builtin.SmallTypes.ownedTupleIsFree (.ref z) >>= _) _ _ _
  refine wpAny_bind ?_
  unfold Builtin.SmallTypes.ownedTupleIsFree
  refine wpAny_bind (wpAny_field hz rfl (x := .none) rfl (wpAny_pure ?_))
  simp only [if_true]
  refine wpAny_bind (wpAny_rule ?_)
  refine wpAny_bind (wpAny_field hz rfl (x := .ref TO) rfl ?_)
  refine wpAny_bind (wpAny_setField_rec hz (by simp) fun h₁ hz₁ hs₁ => ?_)
  replace hz₁ : IsZip h₁ z TI TO .ellipsis := hz₁
  refine wpAny_bind ?_
  simp only [List.zipIdx_cons, List.zipIdx_nil, List.forIn_cons, List.forIn_nil]
  refine wpAny_bind (wpAny_bind (wpAny_onRaise ?_))
  show wpAny _ _ (Builtin.SmallTypes.nextOf (.ref i1) >>= _) _ _ _
  refine wpAny_bind (nextOf_tup_item (h1.at fun o e => hs₁.extBut _ o D.i1z e) (hl1.at fun o e => hs₁.extBut _ o D.l1z e) hx fun h₂ h1₂ hs₂ => wpAny_pure ?_)
  have hTO₂ : IsPair h₂ TO a b := hs₂.extBut _ _ D.TOi1 (hs₁.extBut _ _ D.TOz hTO)
  refine wpAny_bind (wpAny_seqItems hTO₂ rfl ?_)
  refine wpAny_bind (wpAny_updateSeq_pair hTO₂ fun h₃ hTO₃ hs₃ => ?_)
  replace hTO₃ : IsPair h₃ TO x b := hTO₃
  refine wpAny_bind (wpAny_letGo (wpAny_pure ?_))
  refine wpAny_bind (wpAny_bind (wpAny_onRaise ?_))
  show wpAny _ _ (Builtin.SmallTypes.nextOf (.ref i2) >>= _) _ _ _
  refine wpAny_bind (wpAny_nextOf_list_item (((h2.extBut hs₁.extBut D.i2z).extBut hs₂.extBut D.i12.symm).extBut hs₃.extBut D.TOi2.symm)
    (((hl2.extBut hs₁.extBut D.l2z).extBut hs₂.extBut D.l2i1).extBut hs₃.extBut D.l2TO) hy fun h₄ h2₄ hs₄ => wpAny_pure ?_)
  have hTO₄ : IsPair h₄ TO x b := hs₄.extBut _ _ D.TOi2 hTO₃
  refine wpAny_bind (wpAny_seqItems hTO₄ rfl ?_)
  refine wpAny_bind (wpAny_updateSeq_pair hTO₄ fun h₅ hTO₅ hs₅ => ?_)
  replace hTO₅ : IsPair h₅ TO x y := hTO₅
  refine wpAny_bind (wpAny_letGo (wpAny_pure (wpAny_pure ?_)))
  refine wpAny_bind (wpAny_seqItems hTO₅ rfl ?_)
  refine wpAny_bind (wpAny_newTuple ?_)
  have hsz : h₅.objs.size = s.heap.objs.size := by rw [hs₅.1, hs₄.1, hs₃.1, hs₂.1, hs₁.1]
  have hz₅ : IsZip h₅ z TI TO .ellipsis := hs₅.extBut _ _ D.TOz.symm (hs₄.extBut _ _ D.i2z.symm (hs₃.extBut _ _ D.TOz.symm (hs₂.extBut _ _ D.i1z.symm hz₁)))
  have hk₅ : ∀ c o, c ≠ z → c ≠ TO → c ≠ i1 → c ≠ i2 → s.heap.get? c = some o → h₅.get? c = some o := fun c o c1 c2 c3 c4 e =>
    hs₅.extBut _ _ c2 (hs₄.extBut _ _ c4 (hs₃.extBut _ _ c2 (hs₂.extBut _ _ c3 (hs₁.extBut _ _ c1 e))))
  have h1₅ : h₅.IsTupleIter i1 l1 (k1 + 1) := h1₂.at fun o e => hs₅.extBut _ o D.TOi1.symm (hs₄.extBut _ o D.i12 (hs₃.extBut _ o D.TOi1.symm e))
  have h2₅ : h₅.IsListIter i2 l2 (k2 + 1) := h2₄.extBut hs₅.extBut D.TOi2.symm
  have hzlt : z < h₅.objs.size := Heap.lt_size hz₅
  have hTOlt : TO < h₅.objs.size := Heap.lt_size hTO₅
  show wpAny _ _ (Builtin.SmallTypes.ownedTupleHandOut (.ref z) (.ref h₅.objs.size) >>= _) _ _ _
  refine wpAny_bind ?_
  unfold Builtin.SmallTypes.ownedTupleHandOut
  have hz₆ : IsZip (h₅.push { cls := .type "tuple", data := .seq #[x, y] }) z TI TO .ellipsis := Heap.get?_push_of_some _ hz₅
  refine wpAny_bind (wpAny_setField_rec hz₆ (by simp) fun h₇ hz₇ hs₇ => ?_)
  replace hz₇ : IsZip h₇ z TI TO (rawInt h₅.objs.size) := hz₇
  refine wpAny_setField_rec hz₇ (by simp) fun h₈ hz₈ hs₈ => ?_
  replace hz₈ : IsZip h₈ z TI TO (rawInt h₅.objs.size) := hz₈
  have up : ∀ c o, c ≠ z → h₅.get? c = some o → h₈.get? c = some o := fun c o c1 e => hs₈.extBut _ _ c1 (hs₇.extBut _ _ c1 (Heap.get?_push_of_some _ e))
  have hT₈ : IsPair h₈ h₅.objs.size x y := hs₈.extBut _ _ (Nat.ne_of_gt hzlt) (hs₇.extBut _ _ (Nat.ne_of_gt hzlt) (Heap.get?_push_size _ rfl))
  have hz8 : h₈.objs.size = h₅.objs.size + 1 := by rw [hs₈.1, hs₇.1, Heap.size_push]
  rw [hsz] at hz₈ hT₈ hz8
  refine wpAny_pure ⟨_, rfl, ?_⟩
  show Q (.ref h₅.objs.size) _
  rw [hsz]
  exact hQ h₈ hz₈ (up _ _ D.TOz hTO₅) (h1₅.at fun o e => up _ o D.i1z e) (h2₅.at fun o e => up _ o D.i2z e) hT₈ hz8 fun c o c1 c2 c3 c4 e => up c o c1 (hk₅ c o c1 c2 c3 c4 e)

theorem tl_next_end {z TI TO i1 i2 l1 l2 : Addr} {k1 k2 : Nat} {xs : Array Value} {a b : Value} {Q : Fin → Shared → Prop} (hh : A.handled = none) (D : ZipApart z TI TO i1 i2 l1 l2)
    (hz : IsZip s.heap z TI TO .none) (hTI : IsPair s.heap TI (.ref i1) (.ref i2)) (hTO : IsPair s.heap TO a b)
    (h1 : s.heap.IsTupleIter i1 l1 k1) (h2 : s.heap.IsListIter i2 l2 k2) (hl1 : s.heap.IsTuple l1 xs) (hend : xs[k1]? = none)
    (hE : ∀ h' e, (∀ c o, c ≠ z → c ≠ TO → c ≠ i1 → c ≠ i2 → s.heap.get? c = some o → h'.get? c = some o) → (∃ o, h'.get? e = some o ∧ o.cls = .type "StopIteration") → E (.ref e) { s with heap := h' }) :
    wpAny (model prog w) A (Builtin.«zip.__next__» ⟨[.ref z], []⟩) Q E s := by
  show wpAny _ _ (field (.ref z) 2 >>= _) _ _ _
  refine wpAny_bind (wpAny_field hz rfl (x := .bool false) rfl ?_)
  show wpAny _ _ (field (.ref z) 3 >>= _) _ _ _
  refine wpAny_bind (wpAny_field hz rfl (x := .ref TI) rfl ?_)
  refine wpAny_bind (wpAny_seqItems hTI rfl ?_)
  show wpAny _ _ (Builtin.SmallTypes.ownedTupleIsFree (.ref z) >>= _) _ _ _
  refine wpAny_bind ?_
  unfold Builtin.SmallTypes.ownedTupleIsFree
  refine wpAny_bind (wpAny_field hz rfl (x := .none) rfl (wpAny_pure ?_))
  simp only [if_true]
  refine wpAny_bind (wpAny_rule ?_)
  refine wpAny_bind (wpAny_field hz rfl (x := .ref TO) rfl ?_)
  refine wpAny_bind (wpAny_setField_rec hz (by simp) fun h₁ hz₁ hs₁ => ?_)
  replace hz₁ : IsZip h₁ z TI TO .ellipsis := hz₁
  refine wpAny_bind ?_
  simp only [List.zipIdx_cons, List.zipIdx_nil, List.forIn_cons, List.forIn_nil]
  refine wpAny_bind (wpAny_bind (wpAny_onRaise ?_))
  show wpAny _ _ (Builtin.SmallTypes.nextOf (.ref i1) >>= _) _ _ _
  refine wpAny_bind (nextOf_tup_end hh (h1.at fun o e => hs₁.extBut _ o D.i1z e) (hl1.at fun o e => hs₁.extBut _ o D.l1z e) hend fun h₂ e hs₂ he => ?_)
  obtain ⟨oe, hoe, hce⟩ := he
  have hz₂ : IsZip h₂ z TI TO .ellipsis := hs₂ _ _ D.i1z.symm hz₁
  have hez : e ≠ z := fun x => by subst x; rw [hz₂] at hoe; cases hoe; simp at hce
  exact wpAny_setField_rec hz₂ (by simp) fun h₃ _ hs₃ => hE h₃ e (fun c o c1 _ c3 _ x => hs₃.extBut _ _ c1 (hs₂ _ _ c3 (hs₁.extBut _ _ c1 x))) ⟨oe, hs₃.extBut _ _ hez hoe, hce⟩

theorem tl_pyNext_item {z TI TO i1 i2 l1 l2 : Addr} {k1 k2 : Nat} {xs ys : Array Value} {x y a b : Value} {Q : Option Value → Shared → Prop} (D : ZipApart z TI TO i1 i2 l1 l2)
    (hz : IsZip s.heap z TI TO .none) (hTI : IsPair s.heap TI (.ref i1) (.ref i2)) (hTO : IsPair s.heap TO a b)
    (h1 : s.heap.IsTupleIter i1 l1 k1) (h2 : s.heap.IsListIter i2 l2 k2) (hl1 : s.heap.IsTuple l1 xs) (hl2 : s.heap.IsList l2 ys) (hx : xs[k1]? = some x) (hy : ys[k2]? = some y)
    (hQ : ∀ h', IsZip h' z TI TO (rawInt s.heap.objs.size) → IsPair h' TO x y → h'.IsTupleIter i1 l1 (k1 + 1) → h'.IsListIter i2 l2 (k2 + 1) → IsPair h' s.heap.objs.size x y → h'.objs.size = s.heap.objs.size + 1 →
      (∀ c o, c ≠ z → c ≠ TO → c ≠ i1 → c ≠ i2 → s.heap.get? c = some o → h'.get? c = some o) → Q (some (.ref s.heap.objs.size)) { s with heap := h' }) :
    wpAny (model prog w) A (pyNext (.ref z)) Q E s := by
  have hT : s.TypeIs (.ref z) "zip" := ⟨_, hz, rfl⟩
  unfold pyNext
  exact wpAny_bind (wpAny_attempt (wpAny_callSpecial?_slot (name := PySem.Str.ofString "__next__") hT PySem.F.slot_zip_next
    (wpAny_call_entry PySem.F.slot_zip_next hT PySem.F.entry_zip_next
      (tl_next_item D hz hTI hTO h1 h2 hl1 hl2 hx hy fun h' a1 a2 a3 a4 a5 a6 a7 => wpAny_pure (hQ h' a1 a2 a3 a4 a5 a6 a7)) (PySem.F.args_zip_next_1 _))))
theorem tl_pyNext_end {z TI TO i1 i2 l1 l2 : Addr} {k1 k2 : Nat} {xs : Array Value} {a b : Value} {Q : Option Value → Shared → Prop} (hh : A.handled = none) (D : ZipApart z TI TO i1 i2 l1 l2)
    (hz : IsZip s.heap z TI TO .none) (hTI : IsPair s.heap TI (.ref i1) (.ref i2)) (hTO : IsPair s.heap TO a b)
    (h1 : s.heap.IsTupleIter i1 l1 k1) (h2 : s.heap.IsListIter i2 l2 k2) (hl1 : s.heap.IsTuple l1 xs) (hend : xs[k1]? = none)
    (hQ : ∀ h', (∀ c o, c ≠ z → c ≠ TO → c ≠ i1 → c ≠ i2 → s.heap.get? c = some o → h'.get? c = some o) → Q none { s with heap := h' }) : wpAny (model prog w) A (pyNext (.ref z)) Q E s := by
  have hT : s.TypeIs (.ref z) "zip" := ⟨_, hz, rfl⟩
  unfold pyNext
  refine wpAny_bind (wpAny_attempt (wpAny_callSpecial?_slot (name := PySem.Str.ofString "__next__") hT PySem.F.slot_zip_next
    (wpAny_call_entry PySem.F.slot_zip_next hT PySem.F.entry_zip_next (tl_next_end hh D hz hTI hTO h1 h2 hl1 hend fun h' e hk he => ?_) (PySem.F.args_zip_next_1 _))))
  obtain ⟨o, ho, hc⟩ := he
  refine wpAny_bind (wpAny_isInstance (T := "StopIteration") (b := true) ⟨o, ho, hc⟩ isSubtype_stop ?_)
  exact wpAny_pure (hQ _ hk)

theorem meets_zip_tl (l1 l2 : Addr) (xs ys : Array Value) :
    Meets (Builtin.«zip.__new__» ⟨[.type "zip", .ref l1, .ref l2], []⟩) (fun _ R s => s.heap.IsTuple l1 xs ∧ s.heap.IsList l2 ys ∧
      ∀ h' z TI TO i1 i2, z = s.heap.objs.size + 4 → TI = s.heap.objs.size + 2 → TO = s.heap.objs.size + 3 → i1 = s.heap.objs.size → i2 = s.heap.objs.size + 1 →
        IsZip h' z TI TO .none → IsPair h' TI (.ref i1) (.ref i2) → IsPair h' TO .none .none → h'.IsTupleIter i1 l1 0 → h'.IsListIter i2 l2 0 → (∀ c o, s.heap.get? c = some o → h'.get? c = some o) → R (.ok (.ret (.ref z))) { s with heap := h' }) :=
  .of_wp fun prog w A R s h => by
    obtain ⟨hp, g, d, tk, os⟩ := s; obtain ⟨hl1, hl2, h⟩ := h
    have hsub := sub_zip
    have hL1 : Heap.IsTuple (Shared.heap ⟨hp, g, d, tk, os⟩) l1 xs := hl1
    have hL2 : Heap.IsList (Shared.heap ⟨hp.push { cls := .type "tuple_iterator", data := .fields #[.ref l1, .int 0 0] }, g, d, tk, os⟩) l2 ys := Heap.IsList.push hl2 _
    wp_walk using wpAny_pyIter_tuple hL1, wpAny_pyIter_list hL2
    refine ⟨_, rfl, h _ _ _ _ _ _ ?_ ?_ ?_ rfl ?_ (Heap.get?_push_size _ rfl) (Heap.get?_push_of_some _ (Heap.get?_push_of_some _ (Heap.get?_push_size _ rfl))) (Heap.get?_push_of_some _ (Heap.get?_push_size _ rfl))
      ⟨_, Heap.get?_push_of_some _ (Heap.get?_push_of_some _ (Heap.get?_push_of_some _ (Heap.get?_push_of_some _ (Heap.get?_push_size _ rfl)))), rfl, rfl⟩ ⟨_, Heap.get?_push_of_some _ (Heap.get?_push_of_some _ (Heap.get?_push_of_some _ (Heap.get?_push_size _ rfl))), rfl, rfl⟩
      fun c o x => Heap.get?_push_of_some _ (Heap.get?_push_of_some _ (Heap.get?_push_of_some _ (Heap.get?_push_of_some _ (Heap.get?_push_of_some _ x))))⟩ <;> simp only [Heap.size_push]
theorem call_zip_tl {l1 l2 : Addr} {xs ys : Array Value} {Q : Value → Shared → Prop} (hl1 : s.heap.IsTuple l1 xs) (hl2 : s.heap.IsList l2 ys)
    (h : ∀ h' z TI TO i1 i2, z = s.heap.objs.size + 4 → TI = s.heap.objs.size + 2 → TO = s.heap.objs.size + 3 → i1 = s.heap.objs.size → i2 = s.heap.objs.size + 1 →
        IsZip h' z TI TO .none → IsPair h' TI (.ref i1) (.ref i2) → IsPair h' TO .none .none → h'.IsTupleIter i1 l1 0 → h'.IsListIter i2 l2 0 → (∀ c o, s.heap.get? c = some o → h'.get? c = some o) → Q (.ref z) { s with heap := h' }) :
    wpAny (model prog w) A (call (.type "zip") [.ref l1, .ref l2]) Q E s := by
  refine callType_new PySem.F.called_zip (by decide) (PySem.F.typeCall_zip_2 _ _) (PySem.F.newCall_zip_2 _ _) (fun obj => PySem.F.args_object_init_3 obj _ _) PySem.F.entry_zip_new
    (meets_zip_tl l1 l2 xs ys) ⟨hl1, hl2, fun h' z TI TO i1 i2 a1 a2 a3 a4 a5 b1 b2 b3 b4 b5 b6 => ?_⟩
  exact ⟨⟨_, b1, rfl⟩, h h' z TI TO i1 i2 a1 a2 a3 a4 a5 b1 b2 b3 b4 b5 b6⟩
end

noncomputable def flatV : AV → Bool
  | .tup _ => false
  | .rng _ _ _ => false
  | _ => true
noncomputable def flatO : AO → Bool
  | .list vs => vs.all flatV
  | .inst _ _ => true
  | .attrs fs => fs.all fun p => flatV p.2
  | .dict _ => false
theorem VRep.flat {φ : Nat → Addr} {m : Nat} {h h' : Heap} {a : AV} {v : Value} (V : VRep φ m h a v) (hf : flatV a = true) : VRep φ m h' a v := by
  cases V with
  | int => exact .int
  | bool => exact .bool
  | none => exact .none
  | top => exact .top
  | ref hk => exact .ref hk
  | tup => cases hf
  | rng => cases hf
theorem VReps.flat {φ : Nat → Addr} {m : Nat} {h h' : Heap} : ∀ {as : List AV} {vs : List Value}, VReps φ m h as vs → as.all flatV = true → VReps φ m h' as vs
  | _, _, .nil, _ => .nil
  | _, _, .cons a r, hf => by
    simp only [List.all_cons, Bool.and_eq_true] at hf
    exact .cons (a.flat hf.1) (VReps.flat r hf.2)
theorem Attrs.flat {φ : Nat → Addr} {m : Nat} {h h' : Heap} : ∀ {fs es}, Attrs φ m h fs es → (fs.all fun p => flatV p.2) = true → Attrs φ m h' fs es
  | _, _, .nil, _ => .nil
  | _, _, .cons a r, hf => by
    simp only [List.all_cons, Bool.and_eq_true] at hf
    exact .cons (a.flat hf.1) (Attrs.flat r hf.2)
theorem ORep.flat {φ : Nat → Addr} {m : Nat} {h h' : Heap} {a : Addr} {o : AO} (r : ORep C.H φ m h a o) (hf : flatO o = true) (hk : ∀ x, h.get? a = Option.some x → h'.get? a = Option.some x) : ORep C.H φ m h' a o := by
  cases o with
  | list vs => obtain ⟨items, ep, e, v, l⟩ := r; exact ⟨items, ep, hk _ e, v.flat hf, l⟩
  | inst C d => obtain ⟨e, l⟩ := r; exact ⟨hk _ e, l⟩
  | attrs fs => obtain ⟨es, ep, e, v, l⟩ := r; exact ⟨es, ep, hk _ e, v.flat hf, l⟩
  | dict fs => cases hf

/-- several things turned that are none of ours -/
theorem turn_flat {B : Addr → Prop} {φ : Nat → Addr} {s : Shared} {h' : Heap} {tk : Nat} {bs : List (PySem.Str × AV)} (R : Rep C.H C.T φ σ s.heap) (F : Frm C.T φ σ.length s.heap env (locs bs)) (hf : ∀ o ∈ σ, flatO o = true) (hb : ∀ p ∈ bs, flatV p.2 = true)
    (hO : ∀ k, k < σ.length → ¬ B (φ k)) (hT : ∀ b, B b → C.T.get? b = none) (hl : ¬ B env.locals) (hc : ∀ x c, env.cells.lookup x = some c → ¬ B c) (hal : ∀ b, B b → ∃ o, h'.get? b = some o) (hk : ∀ b o, ¬ B b → s.heap.get? b = some o → h'.get? b = some o) :
    StepX C.H C.T B φ σ s φ σ { s with heap := h', toks := tk } ∧ Frm C.T φ σ.length h' env (locs bs) := by
  have hv : ∀ x v, locs bs x = some v → flatV v = true := fun x v e => hb (x, v) (mem_of_lookup e)
  refine ⟨⟨rfl, fun _ _ => rfl, Nat.le_refl _, ⟨fun b o e => hk b o (fun q => by rw [hT b q] at e; cases e) (R.top b o e), R.low, R.inj, fun k o e => ORep.flat (R.obj k o e) (hf o (List.mem_of_getElem? e)) fun x ex => hk _ x (hO k (List.getElem?_eq_some_iff.mp e).1) ex⟩,
    fun b o e hb _ => hk b o hb e, fun k h1 h2 => absurd h2 (Nat.not_lt.mpr h1), fun b o e => ?_⟩, ?_⟩
  · by_cases q : B b
    · exact hal b q
    · exact ⟨o, hk b o q e⟩
  · obtain ⟨m, ⟨o, es, ep, e, r⟩, hm⟩ := F.ns
    refine ⟨⟨m, ⟨o, es, ep, hk _ _ hl e, r⟩, fun x v hx kx => ?_⟩, fun x v hx kx => ?_, fun x kx => ?_, F.apart, F.low, F.foot, fun x c hx => ?_⟩
    · obtain ⟨v', h1, h2⟩ := hm x v hx kx; exact ⟨v', h1, h2.flat (hv x v hx)⟩
    · obtain ⟨c, v', h1, h2, h3⟩ := F.cl x v hx kx
      exact ⟨c, v', h1, IsCell.at h2 fun o e => hk c o (hc x c h1) e, h3.flat (hv x v hx)⟩
    · obtain ⟨c, v₀, h1, h2⟩ := F.own x kx
      exact ⟨c, v₀, h1, IsCell.at h2 fun o e => hk c o (hc x c h1) e⟩
    · obtain ⟨h1, h2, ⟨v₀, h3⟩, h4⟩ := F.cells x c hx
      exact ⟨h1, h2, ⟨v₀, IsCell.at h3 fun o e => hk c o (hc x c hx) e⟩, h4⟩

theorem rg (a b k : Nat) (h : b = a + k) (hk : k ≤ 4) : a ≤ b ∧ b ≤ a + 4 := by omega
set_option maxHeartbeats 1000000 in
theorem ex_forZip {elts : List Expr} {tk0 : Nat} {tp p pos ipos : Pos} {x : PySem.Str} {args : List Expr} {body : List Stmt} {K : Kf} (names : List PySem.Str) {t : Addr} {ways : List AV} {witems : List Value}
    (hW : ∀ φ m h, C.K.In h → (∃ o ep, h.get? t = some o ∧ o.cls = .type "tuple" ∧ o.data = .seq witems.toArray ep) ∧ VReps φ m h ways witems)
    (h : EvC C n env ρ σ (.Name x p) fun fv σ₁ => fv = .top (.type "zip") ∧ VsC C n env ρ σ₁ (spliced (backTo ipos (starEach args env))) fun vs σ₂ => ∃ l parts, vs = [.top (.ref t), .ref l] ∧ σ₂[l]? = some (.list parts) ∧ parts.length = ways.length ∧
      ∃ J : Nat → List (PySem.Str × AV) → List AO → Prop, (∃ bs, BindsIn ρ bs ∧ J 0 bs σ₂) ∧ (∀ i bs σ', J i bs σ' → σ'[l]? = some (.list parts) ∧ (∀ o ∈ σ', flatO o = true) ∧ (∀ p ∈ bs, flatV p.2 = true)) ∧
      (∀ i wv pv bs σ', ways[i]? = some wv → parts[i]? = some pv → J i bs σ' → TgtN C n env names (.Tuple elts tk0 tp) (.tup [wv, pv]) (locs bs) σ' fun ρ₁ σ₁ => ExC C n env ρ₁ σ₁ (execs body env) fun f ρ₂ σ₂ => f = .next ∧ ∃ bs', BindsIn ρ₂ bs' ∧ J (i + 1) bs' σ₂) ∧
      (∀ bs σ', J ways.length bs σ' → K .next (locs bs) σ'))
    (hstar : ∀ e ∈ args, starEach [e] env = [(false, eval e env)]) (hs : ∀ x', foldedSetIterable (.Call (.Name x p) args [] ipos) env x' = pure x') :
    ExC C n env ρ σ (exec (.For (.Tuple elts tk0 tp) (.Call (.Name x p) args [] ipos) body [] pos) env) K := by
  intro A φ s Q E hA R F P
  refine wpAny_For (wpAny_Call_NameR (h A φ s _ E hA R F ?_)) hs
  rintro φ₁ σ₁ s₁ fv f' ⟨rfl, ha⟩ S₁ Vf
  cases Vf
  have F₁ := F.step R S₁
  refine callW S₁.rep.Kin rfl hstar (ha A φ₁ s₁ _ E hA S₁.rep F₁ ?_)
  rintro φ₂ σ₂ s₂ vs vs' ⟨l, parts, rfl, hl, hpl, J, ⟨bs₀, hb₀, hJ⟩, hinv, step, done⟩ S₂ V₂
  have F₂ := F₁.step S₁.rep S₂
  have R₂ := S₂.rep
  refine ⟨R₂.Kin, ?_⟩
  obtain ⟨v0, v1, rfl, V0, V1⟩ := V₂.two
  cases V0
  cases V1 with
  | ref hlk =>
  obtain ⟨⟨ot, ept, et, ct, dt⟩, Vw⟩ := hW φ₂ σ₂.length s₂.heap R₂.Kin
  obtain ⟨pitems, hpi, Vp, _⟩ := R₂.list hl
  refine call_zip_tl (l1 := t) (l2 := φ₂ l) (xs := witems.toArray) ⟨ot, et, ct, _, dt⟩ hpi ?_
  intro h' z TI TO i1 i2 ez eTI eTO e1 e2 hz hTI hTO h1 h2 hkeep
  refine wpAny_pyIter_zip hz ?_
  have hTlt : C.T.objs.size ≤ s₂.heap.objs.size := R₂.topsize (h := s.heap) F₂
  -- what turns
  let B : Addr → Prop := fun b => b = z ∨ b = TO ∨ b = i1 ∨ b = i2
  let B' : Addr → Prop := fun b => s₂.heap.objs.size ≤ b ∧ b ≤ s₂.heap.objs.size + 4
  have hBB : ∀ b, B b → B' b := fun b hb => by
    rcases hb with rfl | rfl | rfl | rfl
    · exact rg _ _ 4 ez (by decide)
    · exact rg _ _ 3 eTO (by decide)
    · exact rg _ _ 0 e1 (by decide)
    · exact rg _ _ 1 e2 (by decide)
  have hTIB : B' TI := rg _ _ 2 eTI (by decide)
  have fresh : ∀ b, B' b → s₂.heap.get? b = none := fun b hb => heap_none hb.1
  have hBT : ∀ b, B' b → C.T.get? b = none := fun b hb => heap_none (Nat.le_trans hTlt hb.1)
  have S₃ : Step C.H C.T env.locals φ₂ σ₂ s₂ φ₂ σ₂ { s₂ with heap := h' } := Step.ofKeep R₂ hkeep
  have F₃ := F₂.step R₂ S₃
  have live' : ∀ b, B' b → ∃ o, h'.get? b = some o := fun b hb => by
    obtain ⟨_, q1, _⟩ := h1
    obtain ⟨_, q2, _⟩ := h2
    have : b = i1 ∨ b = i2 ∨ b = TI ∨ b = TO ∨ b = z := by
      rw [e1, e2, eTI, eTO, ez]
      obtain ⟨ha, hb⟩ := hb
      have key : ∀ x y : Nat, y ≤ x → x ≤ y + 4 → x = y ∨ x = y + 1 ∨ x = y + 2 ∨ x = y + 3 ∨ x = y + 4 := by intro x y; omega
      exact key _ _ ha hb
    rcases this with q | q | q | q | q <;> rw [q]
    · exact ⟨_, q1⟩
    · exact ⟨_, q2⟩
    · exact ⟨_, hTI⟩
    · exact ⟨_, hTO⟩
    · exact ⟨_, hz⟩
  have hlB : ¬ B' env.locals := fun q => by
    obtain ⟨_, ⟨o, _, _, e, _⟩, _⟩ := F₂.ns
    rw [fresh _ q] at e; cases e
  have hcB : ∀ x c, env.cells.lookup x = some c → ¬ B' c := fun x c hx q => by
    obtain ⟨_, _, ⟨_, o, e, _⟩, _⟩ := F₂.cells x c hx
    rw [fresh _ q] at e; cases e
  have hFoot : ∀ b, B' b → ¬ Foot env b := fun b hb hf => by
    rcases hf with rfl | ⟨x, _, hx⟩
    · exact hlB hb
    · exact hcB x b hx hb
  have hne : ∀ a b : Nat, a ≠ b → a ≠ b := fun _ _ h => h
  have ht2 : t < s₂.heap.objs.size := Heap.lt_size et
  have hl2 : φ₂ l < s₂.heap.objs.size := R₂.lt hlk
  have D : ZipApart z TI TO i1 i2 t (φ₂ l) := by
    rw [ez, eTI, eTO, e1, e2]
    constructor <;> first | exact Nat.ne_of_lt (by omega) | exact Nat.ne_of_gt (by omega) | exact fun q => absurd ht2 (by rw [q]; exact Nat.not_lt.mpr (by omega)) | exact fun q => absurd hl2 (by rw [q]; exact Nat.not_lt.mpr (by omega))
  have hwl : ways.length = witems.length := Vw.length
  let St : Nat → Heap → Prop := fun i h => IsZip h z TI TO .none ∧ IsPair h TI (.ref i1) (.ref i2) ∧ (∃ a b, IsPair h TO a b) ∧ h.IsTupleIter i1 t i ∧ h.IsListIter i2 (φ₂ l) i
  refine codeAny_forLoop_any (fun k s' => ∃ i φ' bs σ', J i bs σ' ∧ StepX C.H C.T (fun b => Foot env b ∨ B' b) φ₂ σ₂ { s₂ with heap := h' } φ' σ' s' ∧ Frm C.T φ' σ'.length s'.heap env (locs bs) ∧ St i s'.heap ∧ (∀ k, k < σ'.length → ¬ B' (φ' k)) ∧ i ≤ ways.length ∧ k = ways.length + 1 - i) ?_ (ways.length + 1)
    ⟨0, φ₂, bs₀, σ₂, hJ, StepX.refl S₃.rep, F₃.weaken hb₀.sub, ⟨hz, hTI, ⟨_, _, hTO⟩, h1, h2⟩, fun k hk q => absurd (R₂.lt hk) (Nat.not_lt.mpr q.1), Nat.zero_le _, rfl⟩
  rintro k s' ⟨i, φ', bs, σ', hj, SS, F', ⟨gz, gTI, ⟨a, b, gTO⟩, g1, g2⟩, hO, hi, rfl⟩
  obtain ⟨hkl, hfl, hfb⟩ := hinv i bs σ' hj
  have R' := SS.rep
  obtain ⟨⟨ot', ept', et', ct', dt'⟩, Vw'⟩ := hW φ' σ'.length s'.heap R'.Kin
  have hll : φ' l = φ₂ l := SS.agree l hlk
  cases hv : ways[i]? with
  | none =>
    have hin : i = ways.length := Nat.le_antisymm hi (by simpa using hv)
    subst hin
    refine tl_pyNext_end hA.hd D gz gTI gTO g1 g2 (xs := witems.toArray) ⟨ot', et', ct', _, dt'⟩ (by simp [hwl]) fun h'' hk'' => wpAny_execs_nil ?_
    have hkB : ∀ b o, ¬ B b → s'.heap.get? b = some o → h''.get? b = some o := fun b o hb e => hk'' b o (fun q => hb (.inl q)) (fun q => hb (.inr (.inl q))) (fun q => hb (.inr (.inr (.inl q)))) (fun q => hb (.inr (.inr (.inr q)))) e
    -- the end: what was turned was none of ours
    have hR'' : Rep C.H C.T φ' σ' h'' := ⟨fun b o e => hkB b o (fun q => by rw [hBT b (hBB b q)] at e; cases e) (R'.top b o e), R'.low, R'.inj, fun k o e => ORep.flat (R'.obj k o e) (hfl o (List.mem_of_getElem? e)) fun x ex => hkB _ x (fun q => hO k (List.getElem?_eq_some_iff.mp e).1 (hBB _ q)) ex⟩
    have hv : ∀ x v, locs bs x = some v → flatV v = true := fun x v e => hfb (x, v) (mem_of_lookup e)
    have F'' : Frm C.T φ' σ'.length h'' env (locs bs) := by
      obtain ⟨m, ⟨o, es, ep, e, r⟩, hm⟩ := F'.ns
      refine ⟨⟨m, ⟨o, es, ep, hkB _ _ (fun q => hlB (hBB _ q)) e, r⟩, fun x v hx kx => ?_⟩, fun x v hx kx => ?_, fun x kx => ?_, F'.apart, F'.low, F'.foot, fun x c hx => ?_⟩
      · obtain ⟨v', h1, h2⟩ := hm x v hx kx; exact ⟨v', h1, h2.flat (hv x v hx)⟩
      · obtain ⟨c, v', h1, h2, h3⟩ := F'.cl x v hx kx
        exact ⟨c, v', h1, IsCell.at h2 fun o e => hkB c o (fun q => hcB x c h1 (hBB _ q)) e, h3.flat (hv x v hx)⟩
      · obtain ⟨c, v₀, h1, h2⟩ := F'.own x kx
        exact ⟨c, v₀, h1, IsCell.at h2 fun o e => hkB c o (fun q => hcB x c h1 (hBB _ q)) e⟩
      · obtain ⟨h1, h2, ⟨v₀, h3⟩, h4⟩ := F'.cells x c hx
        exact ⟨h1, h2, ⟨v₀, IsCell.at h3 fun o e => hkB c o (fun q => hcB x c hx (hBB _ q)) e⟩, h4⟩
    have S₁₂₃ := ((S₁.trans S₂).trans S₃)
    have old : ∀ b o, s.heap.get? b = some o → ¬ B b := fun b o e q => by
      obtain ⟨o', e'⟩ := (S₁.trans S₂).live b o e
      rw [fresh b (hBB b q)] at e'; cases e'
    have old' : ∀ b o, s.heap.get? b = some o → ¬ B' b := fun b o e q => by
      obtain ⟨o', e'⟩ := (S₁.trans S₂).live b o e
      rw [fresh b q] at e'; cases e'
    have TT := (S₁₂₃.toFoot.weaken (Y := fun b => Foot env b ∨ B' b) fun b h => .inl h).trans SS
    refine P φ' (locs bs) σ' _ _ _ (done bs σ' hj) ⟨by rw [TT.same], TT.agree, TT.len, hR'', fun b o e hb hφ => hkB b o (old b o e) (TT.ext b o e (fun q => q.elim hb fun q => old' b o e q) hφ), TT.new, fun b o e => ?_⟩ F'' .next
    obtain ⟨o', e'⟩ := TT.live b o e
    exact ⟨o', hkB b o' (old b o e) e'⟩
  | some wv =>
    have hlti : i < ways.length := (List.getElem?_eq_some_iff.mp hv).1
    obtain ⟨wv', hw1, hw2⟩ := Vw'.get hv
    obtain ⟨pits, hpi', Vp', _⟩ := R'.list hkl
    rw [hll] at hpi'
    have hpv : parts[i]? = some parts[i] := List.getElem?_eq_getElem (by rw [hpl]; exact hlti)
    obtain ⟨pv', hp1, hp2⟩ := Vp'.get hpv
    have hpf : flatV parts[i] = true := by
      have := hfl _ (List.mem_of_getElem? hkl)
      exact List.all_eq_true.mp this _ (List.getElem_mem _)
    refine tl_pyNext_item D gz gTI gTO g1 g2 (xs := witems.toArray) ⟨ot', et', ct', _, dt'⟩ hpi' (by simpa using hw1) (by simpa using hp1) ?_
    intro h₁ b1 b2 b3 b4 b5 b6 b7
    refine wpAny_letOwnedTupleGo_zip b1 fun h₂ c1 cs => ?_
    have hTn : s'.heap.objs.size ≠ z := Nat.ne_of_gt (Heap.lt_size gz)
    have k2 : ∀ b o, ¬ B b → s'.heap.get? b = some o → h₂.get? b = some o := fun b o hb e => (cs.2 b fun q => hb (.inl q)).trans (b7 b o (fun q => hb (.inl q)) (fun q => hb (.inr (.inl q))) (fun q => hb (.inr (.inr (.inl q)))) (fun q => hb (.inr (.inr (.inr q)))) e)
    have hal : ∀ b, B b → ∃ o, h₂.get? b = some o := fun b hb => by
      obtain ⟨_, q1, _⟩ := b3
      obtain ⟨_, q2, _⟩ := b4
      rcases hb with rfl | rfl | rfl | rfl
      · exact ⟨_, c1⟩
      · exact ⟨_, (cs.2 _ D.TOz).trans b2⟩
      · exact ⟨_, (cs.2 _ D.i1z).trans q1⟩
      · exact ⟨_, (cs.2 _ D.i2z).trans q2⟩
    obtain ⟨S₄, F₄⟩ := turn_flat (B := B) (tk := s'.toks) R' F' hfl hfb (fun k hk q => hO k hk (hBB _ q)) (fun b q => hBT b (hBB _ q)) (fun q => hlB (hBB _ q)) (fun x c hx q => hcB x c hx (hBB _ q)) hal k2
    have gT₂ : IsPair h₂ s'.heap.objs.size wv' pv' := (cs.2 _ hTn).trans b5
    have Vw₂ : VRep φ' σ'.length h₂ wv wv' := by
      obtain ⟨_, Vw₂⟩ := hW φ' σ'.length h₂ S₄.rep.Kin
      obtain ⟨v'', q1, q2⟩ := Vw₂.get hv
      rw [hw1] at q1; cases q1; exact q2
    have st₂ : St (i + 1) h₂ := ⟨c1, (cs.2 _ D.TIz).trans (b7 _ _ D.TIz D.TITO D.TIi1 D.TIi2 gTI), ⟨_, _, (cs.2 _ D.TOz).trans b2⟩, b3.at fun o e => (cs.2 _ D.i1z).trans e, b4.at fun o e => (cs.2 _ D.i2z).trans e⟩
    refine step i wv parts[i] bs σ' hv hpv hj A φ' { s' with heap := h₂ } _ _ (.ref s'.heap.objs.size) hA S₄.rep F₄ (.tup (items := [wv', pv']) gT₂ rfl rfl (.cons Vw₂ (.cons (hp2.flat hpf) .nil))) ?_
    intro φ₅ ρ₅ σ₅ s₅ hex S₅ F₅
    refine hex A φ₅ s₅ _ _ hA S₅.rep F₅ ?_
    rintro φ₆ ρ₆ σ₆ s₆ f f' ⟨rfl, bs', hb', hj'⟩ S₆ F₆ Vf
    cases Vf
    have S₅' := (S₅.weaken (Y := Foot env) fun _ h => h.foot).trans S₆
    have SS' := (SS.trans (S₄.weaken fun b h => .inr (hBB b h))).trans (S₅'.weaken fun b h => .inl h)
    have up : ∀ b o, B' b → h₂.get? b = some o → s₆.heap.get? b = some o := fun b o hb e => S₅'.ext b o e (hFoot b hb) fun k hk q => hO k hk (q ▸ hb)
    obtain ⟨d1, d2, ⟨a', b', d3⟩, d4, d5⟩ := st₂
    refine ⟨ways.length + 1 - (i + 1), by omega, i + 1, φ₆, bs', σ₆, hj', SS', F₆.weaken hb'.sub, ⟨up _ _ (hBB _ (.inl rfl)) d1, up _ _ hTIB d2, ⟨a', b', up _ _ (hBB _ (.inr (.inl rfl))) d3⟩, d4.at fun o e => up _ o (hBB _ (.inr (.inr (.inl rfl)))) e, d5.at fun o e => up _ o (hBB _ (.inr (.inr (.inr rfl)))) e⟩, fun k hk q => ?_, hlti, rfl⟩
    by_cases hk' : k < σ₂.length
    · rw [SS'.agree k hk'] at q; exact absurd (R₂.lt hk') (Nat.not_lt.mpr q.1)
    · have := SS'.new k (Nat.le_of_not_lt hk') hk
      obtain ⟨o, e⟩ := live' _ q
      have this : h'.get? (φ₆ k) = none := this
      rw [e] at this; cases this
end Mine
end

/-! VLast -/
section
open PySem PySem.W PyProof.Rows PySem.Calls PySem.SeqAt
namespace Mine
variable {C : Cx} {n : Nat} {env : Env} {ρ : Loc} {σ : List AO} {K : Kv}

theorem ex_while {test : Expr} {body : List Stmt} {pos : Pos} {K : Kf} (J : Nat → List (PySem.Str × AV) → List AO → Prop) {n₀ : Nat} {bs₀ : List (PySem.Str × AV)} (hb : BindsIn ρ bs₀) (hJ : J n₀ bs₀ σ)
    (step : ∀ k bs σ', J k bs σ' → BoC C n env (locs bs) σ' (PySem.isTrue test env (eval test env)) fun b σ₁ => (b = true → ExC C n env (locs bs) σ₁ (execs body env) fun f ρ₂ σ₂ => f = .next ∧ ∃ k' bs', k' < k ∧ BindsIn ρ₂ bs' ∧ J k' bs' σ₂) ∧ (b = false → K .next (locs bs) σ₁)) :
    ExC C n env ρ σ (exec (.While test body [] pos) env) K := by
  intro A φ s Q E hA R F P
  refine wpAny_While (codeAny_whileLoop (fun k s' => ∃ φ' bs σ', J k bs σ' ∧ StepX C.H C.T (Foot env) φ σ s φ' σ' s' ∧ Frm C.T φ' σ'.length s'.heap env (locs bs)) ?_ n₀ ⟨φ, bs₀, σ, hJ, StepX.refl R, F.weaken hb.sub⟩)
  rintro k s' ⟨φ', bs, σ', hj, S, F'⟩
  refine step k bs σ' hj A φ' s' _ _ hA S.rep F' ?_
  rintro φ₁ σ₁ s₁ b ⟨ht, hf⟩ S₁
  have F₁ := F'.step S.rep S₁
  cases b with
  | true =>
    simp only [if_true]
    refine ht rfl A φ₁ s₁ _ _ hA S₁.rep F₁ ?_
    rintro φ₂ ρ₂ σ₂ s₂ f f' ⟨rfl, k', bs', hlt, hb', hj'⟩ S₂ F₂ Vf
    cases Vf
    exact ⟨k', hlt, φ₂, bs', σ₂, hj', (S.trans S₁.toFoot).trans S₂, F₂.weaken hb'.sub⟩
  | false =>
    simp only [Bool.false_eq_true, if_false]
    exact wpAny_execs_nil (P _ _ _ _ _ _ (hf rfl) (S.trans S₁.toFoot) F₁ .next)

/-- x.append(e) -/
theorem ev_append {o e : Expr} {apos pos : Pos} {pl : Sem Bool} (h : EvC C n env ρ σ o fun ov σ₁ => ∃ k, ov = .ref k ∧ (∃ vs₀, σ₁[k]? = some (.list vs₀)) ∧ EvC C n env ρ σ₁ e fun v σ₂ => ∃ vs, σ₂[k]? = some (.list vs) ∧ vs.length < 4096 ∧ K .none (σ₂.set k (.list (vs ++ [v]))))
    (hst : starEach [e] env = [(false, eval e env)]) (he : eval (.Call (.Attribute o "append" apos) [e] [] pos) env = (do
      let ov ← eval o env
      standAt apos.atName
      let (f, first) ← holding [ov] (getMethod ov "append" pl)
      callWith pos f first (backTo pos (starEach [e] env)) [])) : EvC C n env ρ σ (.Call (.Attribute o "append" apos) [e] [] pos) K := by
  refine ev_meth (f := .builtin "list.append") (pl := pl) rfl (TrC.mono h ?_) (fun x hx => by rcases List.mem_cons.mp hx with rfl | hx; exact hst; cases hx) he
  rintro ov σ₁ ⟨k, rfl, ⟨vs₀, e₀⟩, h₁⟩
  refine ⟨meth_list e₀ slot_list_append (by kernel_rfl), ?_⟩
  refine vs_cons (TrC.mono h₁ ?_) (by rw [hst]; rfl)
  rintro v σ₂ ⟨vs, e₂, hn, hk⟩
  exact vs_nil (b_append e₂ hn hk)
end Mine
end

/-! VComp2 -/
section
open PySem PySem.W PyProof.Rows PySem.Calls PySem.SeqAt
namespace Mine
variable {C : Cx} {n : Nat} {env : Env} {ρ : Loc} {σ : List AO} {K : Kv}

theorem compTurn_two (elt t1 i1 t2 i2 : Expr) (ifs1 ifs2 : List Expr) (scope : Scope) (pos : Pos) (it acc : Value) (env : Env) :
    compTurn (.ListComp elt [⟨t1, i1, ifs1, 0⟩, ⟨t2, i2, ifs2, 0⟩] scope pos) 0 it acc env = (do
      standAt i1.pos
      match ← pyNext it with
      | none => pure (.done .next)
      | some v =>
        letOwnedTupleGo t1 it v
        assign t1 env v
        let mut ok := true
        for c in ifs1 do
          if ok then ok ← isTrue c env (eval c env)
        if ok then
          (do
            let x ← eval i2 env
            standAt i2.pos
            let x ← foldedSetIterable i2 env x
            let _ ← runOwn (.compStart (.ListComp elt [⟨t1, i1, ifs1, 0⟩, ⟨t2, i2, ifs2, 0⟩] scope pos) 1 (← holding [x] (pyIter x)) acc env) env
            again (.compLoop (.ListComp elt [⟨t1, i1, ifs1, 0⟩, ⟨t2, i2, ifs2, 0⟩] scope pos) 0 it acc env))
        else again (.compLoop (.ListComp elt [⟨t1, i1, ifs1, 0⟩, ⟨t2, i2, ifs2, 0⟩] scope pos) 0 it acc env)) := by rfl
theorem compTurn_in (elt t1 i1 t2 i2 : Expr) (ifs1 ifs2 : List Expr) (scope : Scope) (pos : Pos) (it acc : Value) (env : Env) :
    compTurn (.ListComp elt [⟨t1, i1, ifs1, 0⟩, ⟨t2, i2, ifs2, 0⟩] scope pos) 1 it acc env = (do
      standAt i2.pos
      match ← pyNext it with
      | none => pure (.done .next)
      | some v =>
        letOwnedTupleGo t2 it v
        assign t2 env v
        let mut ok := true
        for c in ifs2 do
          if ok then ok ← isTrue c env (eval c env)
        if ok then
          (do let _ ← call (.builtin "list.append") [acc, ← eval elt env])
        again (.compLoop (.ListComp elt [⟨t1, i1, ifs1, 0⟩, ⟨t2, i2, ifs2, 0⟩] scope pos) 1 it acc env)) := by rfl
theorem codeAny_compStart_one {prog : Program} {w : World} {A : Around} {R : Result → Shared → Prop} {s : Shared} {elt t1 i1 t2 i2 : Expr} {ifs1 ifs2 : List Expr} {scope : Scope} {pos : Pos} {it acc : Value} {env : Env}
    (h0 : codeAny (model prog w) A (.compLoop (.ListComp elt [⟨t1, i1, ifs1, 0⟩, ⟨t2, i2, ifs2, 0⟩] scope pos) 1 it acc env) R s)
    (h : wpAny (model prog w) A (pyIter it) (fun it' s' => codeAny (model prog w) A (.compLoop (.ListComp elt [⟨t1, i1, ifs1, 0⟩, ⟨t2, i2, ifs2, 0⟩] scope pos) 1 it' acc env) R s')
      (notedBy (model prog w) A env fun x s' => R (.error x) s') s) :
    codeAny (model prog w) A (.compStart (.ListComp elt [⟨t1, i1, ifs1, 0⟩, ⟨t2, i2, ifs2, 0⟩] scope pos) 1 it acc env) R s := by
  refine codeAny_of_tree ?_
  show wpAny _ _ ((compStart (.ListComp elt [⟨t1, i1, ifs1, 0⟩, ⟨t2, i2, ifs2, 0⟩] scope pos) 1 it acc env).onRaise (fun x => do noteFrame x env; standAt theWindowsPlace)) _ _ s
  refine wpAny_notedAt ?_
  unfold compStart
  show wpAny _ _ (ask >>= _) _ _ s
  refine wpAny_bind (wpAny_askSetting (wpAny_ite ?_))
  split
  · first
      | exact wpAny_bind (wpAny_pure (wpAny_pure (And.intro rfl h0)))
      | exact wpAny_pure (And.intro rfl h0)
  · first
      | exact wpAny_bind (wpAny_rule (wpAny_bind (wpAny_standAt (wpAny_bind (wpAny_mono h (fun it' s' h' => wpAny_pure (And.intro rfl h')) fun _ _ x => x)))))
      | (refine wpAny_bind (wpAny_rule ?_); show wpAny _ _ (standAt i2.pos >>= _) _ _ s; exact wpAny_bind (wpAny_standAt (wpAny_bind (wpAny_mono h (fun it' s' h' => wpAny_pure (And.intro rfl h')) fun _ _ x => x))))

/-- the inner turns of a comprehension, none of which gives anything -/
noncomputable def InnerNo (C : Cx) (n : Nat) (env : Env) (ρ : Loc) (σ : List AO) (names : List PySem.Str) (t2 : Expr) (ifs2 : List Expr) (items : List AV) : Prop :=
  ∀ (j : Nat) (u : AV), items[j]? = some u → TgtN C n env names t2 u ρ σ fun ρ₂ σ₄ => (∀ x v, ρ x = some v → ρ₂ x = some v) ∧ σ₄ = σ ∧ IfsC C n env ρ₂ σ ifs2 fun b σ₅ => b = false ∧ σ₅ = σ

theorem in_core {elt t1 i1 t2 i2 : Expr} {ifs1 ifs2 : List Expr} {scope : Scope} {pos : Pos} {names : List PySem.Str} {I : Addr} {acc : Value} {items : List AV} {Kept : List AO → Prop} {St : Nat → (Nat → Addr) → List AO → Heap → Prop} {A : Around} {φ : Nat → Addr} {s₀ s : Shared} {R : Result → Shared → Prop}
    (src : Src C I items Kept St) (hkept : Kept σ) (step : InnerNo C n env ρ σ names t2 ifs2 items)
    (hA : AOk n A) (hT : C.T.get? I = none) (hF : Frm C.T φ σ.length s.heap env ρ) (hO : Off φ σ.length env I) (hst : St 0 φ σ s.heap)
    (hS : StepX C.H C.T (fun b => FootN env names b ∨ b = I) φ σ s₀ φ σ s) (hI : s₀.heap.get? I = none)
    (hQ : ∀ φ' s', StepX C.H C.T (FootN env names) φ σ s₀ φ' σ s' → Frm C.T φ' σ.length s'.heap env ρ → R (.ok .next) s') :
    codeAny C.M A (.compLoop (.ListComp elt [⟨t1, i1, ifs1, 0⟩, ⟨t2, i2, ifs2, 0⟩] scope pos) 1 (.ref I) acc env) R s := by
  have out : ∀ {φ' s'}, StepX C.H C.T (fun b => FootN env names b ∨ b = I) φ σ s₀ φ' σ s' → StepX C.H C.T (FootN env names) φ σ s₀ φ' σ s' := fun S =>
    ⟨S.same, S.agree, S.len, S.rep, fun b o e hb hφ => S.ext b o e (fun h => h.elim hb fun q => by rw [q, hI] at e; cases e) hφ, S.new, S.live⟩
  refine codeAny_loop rfl (fun k s' => ∃ i φ', StepX C.H C.T (fun b => FootN env names b ∨ b = I) φ σ s₀ φ' σ s' ∧ Frm C.T φ' σ.length s'.heap env ρ ∧ Off φ' σ.length env I ∧ St i φ' σ s'.heap ∧ i ≤ items.length ∧ k = items.length + 1 - i) ?_ (items.length + 1)
    ⟨0, φ, hS, hF, hO, hst, Nat.zero_le _, rfl⟩
  rintro k s' ⟨i, φ', S, F, O, st, hi, rfl⟩
  show wpAny _ A ((compTurn (.ListComp elt [⟨t1, i1, ifs1, 0⟩, ⟨t2, i2, ifs2, 0⟩] scope pos) 1 (.ref I) acc env).onRaise (fun x => do noteFrame x env; theTreesLotGoes x)) _ _ s'
  refine wpAny_noted ?_
  rw [compTurn_in]
  refine wpAny_bind (wpAny_standAt (wpAny_bind ?_))
  obtain ⟨oI, eI, nfI⟩ := src.here _ _ _ _ st
  have nf : ∀ o, s'.heap.get? I = some o → ¬ frozen o := fun o e => by rw [eI] at e; cases e; exact nfI
  cases hv : items[i]? with
  | none =>
    have hin : i = items.length := Nat.le_antisymm hi (by simpa using hv)
    subst hin
    refine src.done A φ' σ s' _ _ hA.hd S.rep hkept st fun h' tk hk => wpAny_pure ?_
    obtain ⟨R₁, F₁, fz⟩ := rep_off S.rep F O hT nf hk
    have S' := out S
    refine hQ φ' _ ⟨by rw [S.same], S.agree, S.len, R₁, fun b o e hb hφ => ?_, S.new, fun b o e => ?_⟩ F₁
    · exact hk b o (fun q => by rw [q, hI] at e; cases e) (S'.ext b o e hb hφ)
    · obtain ⟨o', e'⟩ := S.live b o e
      exact ⟨o', hk b o' (fun q => by rw [q, hI] at e; cases e) e'⟩
  | some v =>
    have hlt : i < items.length := (List.getElem?_eq_some_iff.mp hv).1
    refine src.item A φ' σ s' _ _ i v hA.hd S.rep hkept hv st fun v' h' tk V st' hk => ?_
    obtain ⟨o₁, e₁, nf₁⟩ := src.here _ _ _ _ st'
    have S₁ := turn_one (tk := tk) S.rep O.o hT nf ⟨o₁, e₁⟩ hk
    obtain ⟨_, F₁, fz⟩ := rep_off S.rep F O hT nf hk
    refine wpAny_bind (src.go A φ' σ { s' with heap := h', toks := tk } _ _ (i + 1) t2 v' st' ?_)
    refine wpAny_bind (step i v hv A φ' _ _ _ v' hA S₁.rep F₁ (V.mono fz (Nat.le_refl _) fun _ _ => rfl) ?_)
    rintro φ₂ ρ₂ σ₂ s₂ ⟨hsub, rfl, hifs⟩ S₂ F₂
    have O₂ := O.step S₂ ⟨o₁, e₁⟩
    refine wpAny_bind (hifs A φ₂ s₂ _ _ hA S₂.rep F₂ ?_)
    rintro φ₃ σ₃ s₃ b ⟨rfl, rfl⟩ S₃
    have F₃ := F₂.step S₂.rep S₃
    have e₂ : s₂.heap.get? I = some o₁ := S₂.ext I o₁ e₁ (fun h => O.foot h.foot) O.o
    have e₃ : s₃.heap.get? I = some o₁ := S₃.ext I o₁ e₂ O₂.l O₂.o
    have O₃ := O₂.step S₃.toStepX ⟨o₁, e₂⟩
    have S' := ((S.trans (S₁.weaken (Y := fun b => FootN env names b ∨ b = I) fun b h => .inr h)).trans (S₂.weaken fun b h => .inl h)).trans (S₃.toStepX.weaken fun b h => .inl (.inl h))
    have st₃ : St (i + 1) φ₃ σ₃ s₃.heap := by
      have st₂ := src.keep _ _ _ _ φ₂ σ₃ s₂.heap st' S₂.agree S₂.len (fun o e => by rw [e₁] at e; cases e; exact e₂) (S₂.froz S₁.rep fun b o hb e => F₁.notFrozen b o hb.foot e)
      exact src.keep _ _ _ _ φ₃ σ₃ s₃.heap st₂ S₃.agree S₃.len (fun o e => by rw [e₂] at e; cases e; exact e₃) (S₃.toStepX.froz S₂.rep fun b o hb e => F₂.notFrozen b o (.inl hb) e)
    exact wpAny_pure ⟨rfl, items.length + 1 - (i + 1), by omega, i + 1, φ₃, S', F₃.weaken hsub, O₃, st₃, hlt, rfl⟩

theorem comp_core2 {elt target iter t2 i2 : Expr} {ifs ifs2 : List Expr} {scope : Scope} {pos : Pos} {names : List PySem.Str} {it : AV} {items : List AV} {Kept : List AO → Prop} (ok : IterOk it items Kept)
    {A : Around} {φ : Nat → Addr} {s : Shared} {it' : Value} {E : Value → Shared → Prop} {RR : Value → Addr → Result → Shared → Prop}
    (hA : AOk n A) (R : Rep C.H C.T φ σ s.heap) (F : Frm C.T φ σ.length s.heap env ρ) (hkp : Kept σ) (V : VRep φ σ.length s.heap it it')
    (hnd : (scope.names.map (·.1)).Nodup) (hf : freeOk scope env ρ = true) (hnm : ∀ x ∈ names, scope.names.lookup x = some .local ∨ scope.names.lookup x = some .cell)
    (J : Nat → List AO → Prop) (hJ : J 0 (σ ++ [.list []])) (hkept : ∀ i σ', J i σ' → Kept σ')
    (step : ∀ L i v σ', items[i]? = some v → J i σ' → TgtN C n (compEnv2 scope L env) names target v (cLoc scope ρ) σ' fun ρ₁ σ₁ => (∀ x v, cLoc scope ρ x = some v → ρ₁ x = some v) ∧
      IfsC C n (compEnv2 scope L env) ρ₁ σ₁ ifs fun b σ₂ => (b = false → J (i + 1) σ₂) ∧ (b = true → EvC C n (compEnv2 scope L env) ρ₁ σ₂ i2 fun it2 σ₃ => J (i + 1) σ₃ ∧ ∃ items2 Kept2, IterOk it2 items2 Kept2 ∧ Kept2 σ₃ ∧ InnerNo C n (compEnv2 scope L env) ρ₁ σ₃ names t2 ifs2 items2))
    (hs2 : ∀ E x, foldedSetIterable i2 E x = pure x)
    (done : ∀ φ' σ' s' L m, J items.length σ' → StepX C.H C.T (fun b => s.heap.get? b = none) φ σ s φ' σ' s' → s'.heap.Ns L m → s.heap.get? L = none → (∀ k, k < σ'.length → φ' k ≠ L) → C.T.objs.size ≤ L → σ.length < σ'.length → RR (.ref (φ' σ.length)) L (.ok .next) s') :
    wpAny C.M A (pyIter it') (fun it s₂ => wpAny C.M A (newList []) (fun acc s₃ => wpAny C.M A (newFunctionEnv scope env.globals (closL env scope.names []) [] env.qual none .none (some env)) (fun cenv s₄ =>
      codeAny C.M A (.compStart (.ListComp elt [⟨target, iter, ifs, 0⟩, ⟨t2, i2, ifs2, 0⟩] scope pos) 0 it acc { cenv with scope := relabel scope env }) (RR acc cenv.locals) s₄) E s₃) E s₂) E s := by
  refine iter_start ok R hkp V fun St o src st => ?_
  refine wpAny_newObj_type (hd := by size_fits) (wpAny_compEnv ?_)
  have hIs : s.heap.get? s.heap.objs.size = none := get_size _
  have hT := R.topsize (h := s.heap) F
  have push₁ : ∀ L, Step C.H C.T L φ σ s φ σ { s with heap := s.heap.push o } := fun L => Step.push R
  have F₁ := F.step R (push₁ _)
  have alloc₂ : ∀ L, Step C.H C.T L φ σ { s with heap := s.heap.push o } (put φ σ.length (s.heap.push o).objs.size) (σ ++ [.list []]) { s with heap := (s.heap.push o).push { cls := .type "list", dict := none, data := .seq ([] : List Value).toArray } } := fun L =>
    Step.alloc (push₁ L).rep ((push₁ L).rep.topsize (h := s.heap) F₁) rfl ⟨[], 0, Heap.get?_push_size _ rfl, .nil, by simp⟩
  have F₂ := F₁.step (push₁ 0).rep (alloc₂ _)
  have st₂ : St 0 (put φ σ.length (s.heap.push o).objs.size) (σ ++ [.list []]) ((s.heap.push o).push { cls := .type "list", dict := none, data := .seq ([] : List Value).toArray }) :=
    src.keep _ _ _ _ _ _ _ st (fun k hk => put_le k hk) (by simp) (fun _ e => Heap.get?_push_of_some _ e) (fun _ _ e _ => Heap.get?_push_of_some _ e)
  have R₂ := (alloc₂ 0).rep
  have hTs : C.T.objs.size ≤ ((s.heap.push o).push { cls := .type "list", dict := none, data := .seq ([] : List Value).toArray }).objs.size := R₂.topsize (h := s.heap) (s := { s with heap := (s.heap.push o).push { cls := .type "list", dict := none, data := .seq ([] : List Value).toArray } }) F₂
  have below : ∀ b o', s.heap.get? b = some o' → ((s.heap.push o).push { cls := .type "list", dict := none, data := .seq ([] : List Value).toArray }).get? b = some o' := fun b o' e => Heap.get?_push_of_some _ (Heap.get?_push_of_some _ e)
  have SS₂ : StepX C.H C.T (fun b => s.heap.get? b = none) φ σ s (put φ σ.length (s.heap.push o).objs.size) (σ ++ [.list []]) { s with heap := (s.heap.push o).push { cls := .type "list", dict := none, data := .seq ([] : List Value).toArray } } :=
    ((push₁ s.heap.objs.size).trans (alloc₂ s.heap.objs.size)).toStepX.weaken fun b h => by rw [h]; exact hIs
  have hsD : (put φ σ.length (s.heap.push o).objs.size) σ.length = (s.heap.push o).objs.size := by unfold put; rw [if_pos rfl]
  revert st₂ R₂ F₂ SS₂ below hTs hsD
  clear alloc₂
  generalize hP : put φ σ.length (s.heap.push o).objs.size = φ₂
  generalize hH : (s.heap.push o).push { cls := .type "list", dict := none, data := .seq ([] : List Value).toArray } = h₂
  intro F₂ st₂ R₂ hTs below SS₂ hsD
  have hI₂ : h₂.get? s.heap.objs.size ≠ none := by
    obtain ⟨o', e, _⟩ := src.here _ _ _ _ st₂
    rw [e]; exact fun q => nomatch q
  have hsz : s.heap.objs.size < h₂.objs.size := by rw [← hH, Heap.size_push, Heap.size_push]; omega
  obtain ⟨Fc, hclo, hown, hcells⟩ := comp_frm (scope := scope) hTs (fun k hk => R₂.lt hk) F₂ hnd hf rfl
  have hO₂ : Off φ₂ (σ ++ [AO.list []]).length (compEnv2 scope h₂.objs.size env) s.heap.objs.size := by
    refine ⟨Nat.ne_of_lt hsz, fun x q => ?_, fun k hk q => ?_⟩
    · rcases hcells x _ q with h | ⟨y, h⟩
      · exact hI₂ h
      · obtain ⟨_, _, ⟨v, hv⟩, _⟩ := F.cells y _ h; exact Nat.lt_irrefl _ hv.lt
    · have := R₂.obj k _ (List.getElem?_eq_getElem hk)
      obtain ⟨x, e, _⟩ := this.some
      by_cases hk' : k < σ.length
      · have h1 := SS₂.agree k hk'
        rw [h1] at q
        have h2 := R.lt hk'
        rw [q] at h2; exact Nat.lt_irrefl _ h2
      · have hkk : k = σ.length := by simp at hk; omega
        subst hkk
        rw [hsD, Heap.size_push] at q
        exact Nat.succ_ne_self _ q
  have S₄ : ∀ L, Step C.H C.T L φ₂ (σ ++ [AO.list []]) { s with heap := h₂ } φ₂ (σ ++ [AO.list []]) { s with heap := pushCells (h₂.push { cls := .type "dict", data := .dict #[] }) scope.names } := fun L => Step.ofKeep R₂ fun b o e => pushCells_keeps _ _ b o (Heap.get?_push_of_some _ e)
  have st₄ := src.keep _ _ _ _ φ₂ (σ ++ [AO.list []]) (pushCells (h₂.push { cls := .type "dict", data := .dict #[] }) scope.names) st₂ (fun _ _ => rfl) (Nat.le_refl _) (fun o e => pushCells_keeps _ _ _ o (Heap.get?_push_of_some _ e)) (fun b o e _ => pushCells_keeps _ _ b o (Heap.get?_push_of_some _ e))
  have SS₄ := SS₂.trans ((S₄ s.heap.objs.size).toStepX.weaken (Y := fun b => s.heap.get? b = none) fun b h => by rw [h]; exact hIs)
  have hLs : s.heap.get? h₂.objs.size = none := heap_none (Nat.le_of_lt hsz)
  have hTI : C.T.get? s.heap.objs.size = none := heap_none hT
  have carry : ∀ {j : Nat} {X : Addr → Prop} {φa φb : Nat → Addr} {σa σb : List AO} {sa sb : Shared}, Rep C.H C.T φa σa sa.heap → StepX C.H C.T X φa σa sa φb σb sb → ¬ X s.heap.objs.size → (∀ b o, X b → sa.heap.get? b = some o → ¬ frozen o) → Off φa σa.length (compEnv2 scope h₂.objs.size env) s.heap.objs.size → St j φa σa sa.heap →
      Off φb σb.length (compEnv2 scope h₂.objs.size env) s.heap.objs.size ∧ St j φb σb sb.heap := fun ra S hX hfz O st => by
    obtain ⟨oI, eI, nfI⟩ := src.here _ _ _ _ st
    exact ⟨O.step S ⟨oI, eI⟩, src.keep _ _ _ _ _ _ _ st S.agree S.len (fun o e => S.ext _ o e hX O.o) (S.froz ra hfz)⟩
  have loop : codeAny C.M A (.compLoop (.ListComp elt [⟨target, iter, ifs, 0⟩, ⟨t2, i2, ifs2, 0⟩] scope pos) 0 (.ref s.heap.objs.size) (.ref (s.heap.push o).objs.size) (compEnv2 scope h₂.objs.size env)) (RR (.ref (s.heap.push o).objs.size) h₂.objs.size)
      { s with heap := pushCells (h₂.push { cls := .type "dict", data := .dict #[] }) scope.names } := by
    refine codeAny_loop rfl (fun k s' => ∃ i φ' σ', J i σ' ∧ StepX C.H C.T (fun b => s.heap.get? b = none) φ σ s φ' σ' s' ∧ Frm C.T φ' σ'.length s'.heap (compEnv2 scope h₂.objs.size env) (cLoc scope ρ) ∧ Off φ' σ'.length (compEnv2 scope h₂.objs.size env) s.heap.objs.size ∧ St i φ' σ' s'.heap ∧ i ≤ items.length ∧ k = items.length + 1 - i ∧ φ' σ.length = (s.heap.push o).objs.size ∧ σ.length < σ'.length) ?_ (items.length + 1)
      ⟨0, φ₂, σ ++ [AO.list []], hJ, SS₄, Fc, hO₂, st₄, Nat.zero_le _, rfl, hsD, by simp⟩
    rintro k s' ⟨i, φ', σ', hj, SS, F', O, st', hi, rfl, hD, hlt⟩
    show wpAny _ A ((compTurn (.ListComp elt [⟨target, iter, ifs, 0⟩, ⟨t2, i2, ifs2, 0⟩] scope pos) 0 (.ref s.heap.objs.size) (.ref (s.heap.push o).objs.size) (compEnv2 scope h₂.objs.size env)).onRaise (fun x => do noteFrame x (compEnv2 scope h₂.objs.size env); theTreesLotGoes x)) _ _ s'
    refine wpAny_noted ?_
    rw [compTurn_two]
    refine wpAny_bind (wpAny_standAt (wpAny_bind ?_))
    obtain ⟨oI, eI, nfI⟩ := src.here _ _ _ _ st'
    have nf : ∀ o, s'.heap.get? s.heap.objs.size = some o → ¬ frozen o := fun o e => by rw [eI] at e; cases e; exact nfI
    cases hv : items[i]? with
    | none =>
      have hin : i = items.length := Nat.le_antisymm hi (by simpa using hv)
      subst hin
      refine src.done A φ' σ' s' _ _ hA.hd SS.rep (hkept _ _ hj) st' fun h' tk hk => wpAny_pure ?_
      obtain ⟨m, N, _⟩ := F'.ns
      obtain ⟨R₅, F₅, fz⟩ := rep_off SS.rep F' O hTI nf hk
      obtain ⟨m₅, N₅, _⟩ := F₅.ns
      have SS₅ : StepX C.H C.T (fun b => s.heap.get? b = none) φ σ s φ' σ' { s' with heap := h', toks := tk } := ⟨by rw [SS.same], SS.agree, SS.len, R₅, fun b o e hb hφ => hk b o (fun q => by rw [q, hIs] at e; cases e) (SS.ext b o e hb hφ), SS.new, fun b o e => by
        obtain ⟨o', e'⟩ := SS.live b o e
        exact ⟨o', hk b o' (fun q => by rw [q, hIs] at e; cases e) e'⟩⟩
      have := done φ' σ' _ h₂.objs.size m₅ hj SS₅ N₅ hLs F₅.foot (Nat.le_trans hT (Nat.le_of_lt hsz)) hlt
      rw [hD] at this
      exact this
    | some v =>
      have hlti : i < items.length := (List.getElem?_eq_some_iff.mp hv).1
      refine src.item A φ' σ' s' _ _ i v hA.hd SS.rep (hkept _ _ hj) hv st' fun v' h' tk V' st₁ hk => ?_
      obtain ⟨o₁, e₁, nf₁⟩ := src.here _ _ _ _ st₁
      have S₁ := turn_one (tk := tk) SS.rep O.o hTI nf ⟨o₁, e₁⟩ hk
      obtain ⟨_, F₁', fz⟩ := rep_off SS.rep F' O hTI nf hk
      have SS₁ := SS.trans (S₁.weaken (Y := fun b => s.heap.get? b = none) fun b h => by rw [h]; exact hIs)
      refine wpAny_bind (src.go A φ' σ' { s' with heap := h', toks := tk } _ _ (i + 1) target v' st₁ ?_)
      refine wpAny_bind (step h₂.objs.size i v σ' hv hj A φ' _ _ _ v' hA S₁.rep F₁' (V'.mono fz (Nat.le_refl _) fun _ _ => rfl) ?_)
      rintro φa ρa σa sa ⟨hsub, hifs⟩ Sa Fa
      have hXa : ∀ b, FootN (compEnv2 scope h₂.objs.size env) names b → s.heap.get? b = none := fun b hb => by
        rcases hb with rfl | ⟨x, hx, h1, h2⟩
        · exact hLs
        · obtain ⟨k', h3, h4⟩ := relabel_lookup h1
          have hc : scope.names.lookup x = some .cell := by
            rcases h4 with h4 | ⟨h4, _, _⟩
            · rw [h3, ← h4]
            · rcases hnm x hx with q | q
              · rw [h3, h4] at q; cases q
              · exact q
          have h5 := hown x hc b h2
          cases z : s.heap.get? b with
          | none => rfl
          | some o' => rw [below b o' z] at h5; cases h5
      have SSa := SS₁.trans (Sa.weaken hXa)
      obtain ⟨Oa, sta⟩ := carry S₁.rep Sa (fun h => O.foot h.foot) (fun b o hb e => F₁'.notFrozen b o hb.foot e) (O.step S₁ ⟨oI, eI⟩) st₁
      refine wpAny_bind (hifs A φa sa _ _ hA Sa.rep Fa ?_)
      rintro φb σb sb b ⟨hb0, hb1⟩ Sb
      have Fb := Fa.step Sa.rep Sb
      have SSb := SSa.trans (Sb.toStepX.weaken (Y := fun b => s.heap.get? b = none) fun b h => by rw [h]; exact hLs)
      obtain ⟨Ob, stb⟩ := carry Sa.rep Sb.toStepX (fun h => Oa.l h) (fun b o hb e => Fa.notFrozen b o (.inl hb) e) Oa sta
      have hDa : φa σ.length = (s.heap.push o).objs.size := (Sa.agree _ hlt).trans hD
      have hla : σ.length < σa.length := Nat.lt_of_lt_of_le hlt Sa.len
      have hDb : φb σ.length = (s.heap.push o).objs.size := (Sb.agree _ hla).trans hDa
      have hlb : σ.length < σb.length := Nat.lt_of_lt_of_le hla Sb.len
      cases b with
      | false =>
        exact wpAny_pure ⟨rfl, items.length + 1 - (i + 1), by omega, i + 1, φb, σb, hb0 rfl, SSb, Fb.weaken hsub, Ob, stb, hlti, rfl, hDb, hlb⟩
      | true =>
        refine wpAny_bind (hb1 rfl A φb sb _ _ hA Sb.rep Fb ?_)
        rintro φc σc sc vc vc' ⟨hj', items2, Kept2, ok2, hk2, step2⟩ Sc Vc
        have Fc' := Fb.step Sb.rep Sc
        have SSc := SSb.trans (Sc.toStepX.weaken (Y := fun b => s.heap.get? b = none) fun b h => by rw [h]; exact hLs)
        obtain ⟨Oc, stc⟩ := carry Sb.rep Sc.toStepX (fun h => Ob.l h) (fun b o hb e => Fb.notFrozen b o (.inl hb) e) Ob stb
        have hDc : φc σ.length = (s.heap.push o).objs.size := (Sc.agree _ hlb).trans hDb
        have hlc : σ.length < σc.length := Nat.lt_of_lt_of_le hlb Sc.len
        refine wpAny_bind (wpAny_standAt (wpAny_bind (wpAny_of_eq (hs2 _ _) (wpAny_bind (wpAny_holding (iter_start ok2 Sc.rep hk2 Vc fun St2 o2 src2 st2 => ?_))))))
        refine wpAny_bind (wpAny_runOwn ?_)
        have hT2 : C.T.get? sc.heap.objs.size = none := heap_none (Sc.rep.topsize (h := sc.heap) Fc')
        have Sp : ∀ L, Step C.H C.T L φc σc sc φc σc { sc with heap := sc.heap.push o2 } := fun L => Step.push Sc.rep
        have Fp := Fc'.step Sc.rep (Sp _)
        have fin : ∀ φe se, StepX C.H C.T (FootN (compEnv2 scope h₂.objs.size env) names) φc σc sc φe σc se → Frm C.T φe σc.length se.heap (compEnv2 scope h₂.objs.size env) ρa →
            (∃ m, m < items.length + 1 - i ∧ ∃ i φ' σ', J i σ' ∧ StepX C.H C.T (fun b => s.heap.get? b = none) φ σ s φ' σ' se ∧ Frm C.T φ' σ'.length se.heap (compEnv2 scope h₂.objs.size env) (cLoc scope ρ) ∧ Off φ' σ'.length (compEnv2 scope h₂.objs.size env) s.heap.objs.size ∧ St i φ' σ' se.heap ∧ i ≤ items.length ∧ m = items.length + 1 - i ∧ φ' σ.length = (s.heap.push o).objs.size ∧ σ.length < σ'.length) := fun φe se Se Fe => by
          have SSe := SSc.trans (Se.weaken hXa)
          obtain ⟨Oe, ste⟩ := carry Sc.rep Se (fun h => Oc.foot h.foot) (fun b o hb e => Fc'.notFrozen b o hb.foot e) Oc stc
          exact ⟨items.length + 1 - (i + 1), by omega, i + 1, φe, σc, hj', SSe, Fe.weaken hsub, Oe, ste, hlti, rfl, (Se.agree _ hlc).trans hDc, hlc⟩
        have inner : ∀ R', (∀ se, (∃ m, m < items.length + 1 - i ∧ ∃ i φ' σ', J i σ' ∧ StepX C.H C.T (fun b => s.heap.get? b = none) φ σ s φ' σ' se ∧ Frm C.T φ' σ'.length se.heap (compEnv2 scope h₂.objs.size env) (cLoc scope ρ) ∧ Off φ' σ'.length (compEnv2 scope h₂.objs.size env) s.heap.objs.size ∧ St i φ' σ' se.heap ∧ i ≤ items.length ∧ m = items.length + 1 - i ∧ φ' σ.length = (s.heap.push o).objs.size ∧ σ.length < σ'.length) → R' (.ok .next) se) → codeAny C.M A (.compLoop (.ListComp elt [⟨target, iter, ifs, 0⟩, ⟨t2, i2, ifs2, 0⟩] scope pos) 1 (.ref sc.heap.objs.size) (.ref (s.heap.push o).objs.size) (compEnv2 scope h₂.objs.size env)) R' { sc with heap := sc.heap.push o2 } := fun R' hR' =>
          in_core src2 hk2 step2 hA hT2 Fp (off_new Sc.rep Fc') st2 ((Sp (compEnv2 scope h₂.objs.size env).locals).toStepX.weaken fun b h => .inl (.inl h)) (get_size _) fun φe se Se Fe => hR' se (fin φe se Se Fe)
        refine codeAny_compStart_one (inner _ fun se q => ?_) (src2.self A _ _ _ _ _ _ hA.hd st2 (inner _ fun se q => ?_))
        · exact wpAny_pure ⟨rfl, q⟩
        · exact wpAny_pure ⟨rfl, q⟩
  exact codeAny_compStart_list loop (src.self A _ _ _ _ _ _ hA.hd st₄ loop)


theorem ev_comp2 {elt target iter t2 i2 : Expr} {ifs ifs2 : List Expr} {scope : Scope} {pos : Pos} (names : List PySem.Str)
    (h : EvC C n env ρ σ iter fun it σ₁ => ∃ items Kept, IterOk it items Kept ∧ ∃ J : Nat → List AO → Prop, J 0 (σ₁ ++ [.list []]) ∧ Kept σ₁ ∧ (∀ i σ', J i σ' → Kept σ') ∧
      (∀ L i v σ', items[i]? = some v → J i σ' → TgtN C n (compEnv2 scope L env) names target v (cLoc scope ρ) σ' fun ρ₁ σ₂ => (∀ x v, cLoc scope ρ x = some v → ρ₁ x = some v) ∧
        IfsC C n (compEnv2 scope L env) ρ₁ σ₂ ifs fun b σ₃ => (b = false → J (i + 1) σ₃) ∧ (b = true → EvC C n (compEnv2 scope L env) ρ₁ σ₃ i2 fun it2 σ₄ => J (i + 1) σ₄ ∧ ∃ items2 Kept2, IterOk it2 items2 Kept2 ∧ Kept2 σ₄ ∧ InnerNo C n (compEnv2 scope L env) ρ₁ σ₄ names t2 ifs2 items2)) ∧
      ∀ σ', J items.length σ' → K (.ref σ₁.length) σ')
    (hs : ∀ x, foldedSetIterable iter env x = pure x) (hs2 : ∀ E x, foldedSetIterable i2 E x = pure x) (hkind : scope.kind = .function) (hnd : (scope.names.map (·.1)).Nodup) (hf : freeOk scope env ρ = true)
    (hnm : ∀ x ∈ names, scope.names.lookup x = some .local ∨ scope.names.lookup x = some .cell) : EvC C n env ρ σ (.ListComp elt [⟨target, iter, ifs, 0⟩, ⟨t2, i2, ifs2, 0⟩] scope pos) K := by
  intro A φ s Q E hA R F P
  rw [eval_ListComp]
  have hcl := closureFor_eq (env := env) (scope := scope) (comp_frm (scope := scope) (R.topsize (h := s.heap) F) (fun k hk => R.lt hk) F hnd hf rfl).2.1
  refine wpAny_comprehension_free (use := none) rfl hs hcl hkind (names_of hnd) (h A φ s _ E hA R F ?_)
  rintro φ₁ σ₁ s₁ it it' ⟨items, Kept, ok, J, hJ, hk0, hkept, step, done⟩ S₁ V
  refine comp_core2 (RR := fun acc L => compPost C.M A E none Q acc L) ok hA S₁.rep (F.step R S₁) hk0 V hnd hf hnm J hJ hkept step hs2 ?_
  intro φ' σ' s' L m hj SS N hL hO hTL hlt
  refine ⟨m, N, fun h' hs' => ?_⟩
  have SS' := (SS.last hs' N hL hO hTL).close (F.step R S₁)
  exact P φ' σ' _ _ _ (done σ' hj) (S₁.trans SS') (.ref hlt)
end Mine
end

section
open PySem PySem.W PyProof.Rows PySem.Calls PySem.SeqAt
namespace Mine
/-! VTac -/
structure CxOk (C : Cx) : Prop where
  k : C.K = Kx C.w.params
variable {C : Cx} {n : Nat} {env : Env} {ρ : Loc} {σ : List AO} {K : Kv}

theorem ps_const {c : Const} {k : Nat} {p : Pos} : PlainSlice (.Constant c k p) := fun _ _ => rfl
theorem ps_name {x : PySem.Str} {p : Pos} : PlainSlice (.Name x p) := fun _ _ => rfl
theorem ps_bin {l r : Expr} {o : Operator} {p : Pos} : PlainSlice (.BinOp l o r p) := fun _ _ => rfl
theorem ps_un {l : Expr} {o : UnaryOp} {p : Pos} : PlainSlice (.UnaryOp o l p) := fun _ _ => rfl
theorem ps_call {f : Expr} {a : List Expr} {k : List Keyword} {p : Pos} : PlainSlice (.Call f a k p) := fun _ _ => rfl
theorem ps_tup {es : List Expr} {k : Nat} {p : Pos} : PlainSlice (.Tuple es k p) := fun _ _ => rfl

theorem ev_callG {x : PySem.Str} {p pos : Pos} {args : List Expr} {f : Value} (e : nsIn C.K mainGlobals x = some (some f)) (hk : canCall C.K f = true)
    (h : VsC C n env ρ σ (spliced (backTo pos (starEach args env))) fun vs σ₂ => CallC C n env ρ σ₂ (.top f) vs K)
    (hg : env.globals = mainGlobals) (hf : env.scope.kind = .function) (hl : env.kindOf x = some .globalImplicit) (hd : (x == ("__debug__" : PySem.Str)) = false) (hstar : ∀ e ∈ args, starEach [e] env = [(false, eval e env)]) :
    EvC C n env ρ σ (.Call (.Name x p) args [] pos) K := ev_call hk (ev_glob e ⟨rfl, h⟩ hg hf hl hd) hstar
theorem ev_callB {x : PySem.Str} {p pos : Pos} {args : List Expr} {f : Value} (e : nsIn C.K mainGlobals x = some none) (hv : bootBuiltins x = some f) (hn : x ≠ "__name__") (hk : canCall C.K f = true)
    (h : VsC C n env ρ σ (spliced (backTo pos (starEach args env))) fun vs σ₂ => CallC C n env ρ σ₂ (.top f) vs K)
    (hg : env.globals = mainGlobals) (hb : env.builtins = builtinsNs) (hf : env.scope.kind = .function) (hl : env.kindOf x = some .globalImplicit) (hd : (x == ("__debug__" : PySem.Str)) = false) (hstar : ∀ e ∈ args, starEach [e] env = [(false, eval e env)]) :
    EvC C n env ρ σ (.Call (.Name x p) args [] pos) K := ev_call hk (ev_blt e hv hn ⟨rfl, h⟩ hg hb hf hl hd) hstar

theorem bt_range : bootBuiltins "range" = some (.type "range") := by kernel_rfl
theorem bt_abs : bootBuiltins "abs" = some (.builtin "abs") := by kernel_rfl
theorem bt_len : bootBuiltins "len" = some (.builtin "len") := by kernel_rfl
theorem bt_int : bootBuiltins "int" = some (.type "int") := by kernel_rfl
theorem bt_max : bootBuiltins "max" = some (.builtin "max") := by kernel_rfl
theorem bt_min : bootBuiltins "min" = some (.builtin "min") := by kernel_rfl
theorem bt_sum : bootBuiltins "sum" = some (.builtin "sum") := by kernel_rfl
theorem bt_sorted : bootBuiltins "sorted" = some (.builtin "sorted") := by kernel_rfl
theorem bt_list : bootBuiltins "list" = some (.type "list") := by kernel_rfl
theorem bt_dict : bootBuiltins "dict" = some (.type "dict") := by kernel_rfl
theorem bt_zip : bootBuiltins "zip" = some (.type "zip") := by kernel_rfl
theorem bo_t {b : Bool} {P : Bool → Prop} (h : P b) : ∃ t, AV.bool b = .bool t ∧ P t := ⟨b, rfl, h⟩
theorem star_nil {env : Env} : ∀ e ∈ ([] : List Expr), starEach [e] env = [(false, eval e env)] := fun _ h => nomatch h
theorem star_cons {env : Env} {e : Expr} {r : List Expr} (h : starEach [e] env = [(false, eval e env)]) (hr : ∀ e ∈ r, starEach [e] env = [(false, eval e env)]) : ∀ x ∈ e :: r, starEach [x] env = [(false, eval x env)] :=
  fun x hx => by rcases List.mem_cons.mp hx with rfl | hx; exact h; exact hr x hx

local macro_rules | `(tactic| walk_at "star") => `(tactic| first | exact star_nil | (refine star_cons rfl ?_; walk_at "star"))
local macro_rules | `(tactic| walk_at "hyp") => `(tactic| first | assumption | omega | decide)
local macro_rules | `(tactic| walk_at "evN") => `(tactic| first
  | ((with_reducible refine' ev_loc ?hv ?_ ?hl ?hk ?hd); (case hl => rfl); (case hv => rfl); (case hk => rfl); (case hd => decide))
  | ((with_reducible refine' ev_cell ?hv ?_ ?hl ?hk ?hd); (case hl => rfl); (case hv => rfl); (case hk => rfl); (case hd => decide))
  | ((with_reducible refine' ev_free ?hv ?_ ?hl ?hk ?hd ?he); (case hl => rfl); (case hv => rfl); (case hk => rfl); (case hd => decide); (case he => decide)))
local macro_rules | `(tactic| walk_at "evC") => `(tactic| first
  | ((with_reducible refine' ev_callG ?he ?hk ?_ ?hg ?hf ?hl ?hd ?hs); (case hl => rfl); (case he => (rw [CxOk.k (by assumption)]; rfl)); (case hk => (rw [CxOk.k (by assumption)]; rfl)); (case hg => rfl); (case hf => rfl); (case hd => decide); (case hs => walk_at "star"))
  | ((with_reducible refine' ev_callB ?he ?hv ?hn ?hk ?_ ?hg ?hb ?hf ?hl ?hd ?hs); (case hl => rfl); (case he => (rw [CxOk.k (by assumption)]; rfl)); (case hv => (first | exact bt_range | exact bt_abs | exact bt_len | exact bt_int | exact bt_max | exact bt_min | exact bt_sum | exact bt_sorted | exact bt_list | exact bt_dict | exact bt_zip)); (case hn => decide); (case hk => rfl); (case hg => rfl); (case hb => rfl); (case hf => rfl); (case hd => decide); (case hs => walk_at "star")))
local macro_rules | `(tactic| walk_at "evS") => `(tactic| first
  | with_reducible refine ex_nil ?_
  | with_reducible refine ex_cons ?_
  | with_reducible refine ex_ret ?_
  | ((with_reducible refine' ex_assign ?_ ?hl ?hk ?hs); (case hs => rfl); (case hl => (first | exact .inl rfl | exact .inr rfl)); (case hk => rfl))
  | ((with_reducible refine' ex_expr ?_ ?hi ?hs); (case hs => rfl); (case hi => rfl))
  | with_reducible refine ex_if ?_
  | ((with_reducible refine' ex_setItem ?_ ?hs); (case hs => rfl)))
local macro_rules | `(tactic| walk_at "evB") => `(tactic| first
  | ((with_reducible refine bo_cmp ?_ ?hm); (case hm => rfl))
  | ((with_reducible refine bo_chain ?_ ?hm); (case hm => rfl))
  | with_reducible refine bo_not ?_
  | with_reducible refine bo_and ?_
  | with_reducible refine bo_or ?_
  | ((with_reducible refine bo_val ?_ ?he); (case he => rfl)))
local macro_rules | `(tactic| walk_at "ev") => `(tactic| first
  | walk_at "evN"
  | with_reducible refine ev_int ?_
  | with_reducible refine ev_bool ?_
  | with_reducible refine ev_bin ?_
  | ((with_reducible refine ev_cmp ?_ ?hm); (case hm => rfl))
  | with_reducible refine vs_nil ?_
  | ((with_reducible refine vs_cons ?_ ?he); (case he => rfl))
  | with_reducible refine bin_add ?_
  | with_reducible refine bin_sub ?_
  | with_reducible refine bin_mul (IntMulOk.of_right (intBits_le_64 (by omega) (by omega))) ?_
  | with_reducible refine bin_mul (IntMulOk.of_left (intBits_le_64 (by omega) (by omega))) ?_
  | with_reducible refine bin_div (by omega) (PyProof.noPylong_small (by omega)) ?_
  | with_reducible refine bin_mod (by omega) ?_
  | with_reducible refine cmp_lt ?_
  | with_reducible refine cmp_le ?_
  | with_reducible refine cmp_gt ?_
  | with_reducible refine cmp_ge ?_
  | with_reducible refine cmp_eq ?_
  | with_reducible refine cmp_ne ?_
  | with_reducible refine ev_sub ?_
  | with_reducible refine ev_list ?_
  | with_reducible refine ev_tuple ?_
  | with_reducible refine ev_ite ?_
  | with_reducible refine bo_t ?_
  | walk_at "evC"
  | walk_at "evB"
  | walk_at "evS")
local macro_rules | `(tactic| walk_at "wk") => `(tactic| repeat walk_at "ev")
local macro_rules | `(tactic| walk_at "args") => `(tactic| (rintro (_ | ⟨a, _ | ⟨b, _ | ⟨c, _ | ⟨d, _ | ⟨e, _ | ⟨f, r⟩⟩⟩⟩⟩⟩) hv <;> first | rfl | cases hv))

/-! VTop -/
section
variable {C : Cx} {K : Kv}

/-- the outermost call: nothing of ours stands yet -/
noncomputable def CodeT (C : Cx) (m : Nat) (f : Addr) (vs : List AV) (K : Kv) : Prop :=
  ∀ A s (R : Result → Shared → Prop) vs', AOk m A → s.heap = C.T → VReps (fun _ => 0) 0 s.heap vs vs' →
    (∀ φ' σ' s' v v', K v σ' → s' = { s with heap := s'.heap, toks := s'.toks } → (∀ b o, s.heap.get? b = some o → s'.heap.get? b = some o) → VRep φ' (List.length σ') s'.heap v v' → R (.ok (.ret v')) s') → codeAny C.M A (.call (.ref f) ⟨vs', []⟩) R s
theorem rep_nil {h : Heap} (e : h = C.T) : Rep C.H C.T (fun _ => 0) [] h :=
  ⟨fun b o q => by rw [e]; exact q, fun k hk => absurd hk (Nat.not_lt_zero k), fun i j hi => absurd hi (Nat.not_lt_zero i), fun k o e => nomatch e⟩
theorem code_top {f : Addr} {m : Nat} {name qual : PySem.Str} {params : Arguments} {body : List Stmt} {scope : Scope} {dV kV doc pm cdv ct oc : Value} {an od : Option Addr} {osl : Array (Option Value)} {names : List PySem.Str} {vs : List AV}
    (ho : C.K.lookup f = some ⟨oc, od, .func (fnOf name qual params body scope dV kV doc pm an cdv ct), osl⟩) (hcd : codeIn C.K cdv qual = true) (hlen : vs.length = names.length) (hnd : names.Nodup)
    (hb : ∀ vs' : List Value, vs'.length = names.length → bindArgs (fnOf name qual params body scope dV kV doc pm an cdv ct) ⟨vs', []⟩ = pure (names.zip vs'))
    (hkind : ∀ x ∈ names, scope.names.lookup x = some .local ∨ scope.names.lookup x = some .cell)
    (hco : scope.isCoroutine = false) (hgen : scope.isGenerator = false) (hk : scope.kind = .function)
    (h : ∀ L cl, ExC C m (mkEnv scope L cl (qual ++ ".<locals>.") (some f) cdv (some L)) (locs (names.zip vs)) [] (execs body (mkEnv scope L cl (qual ++ ".<locals>.") (some f) cdv (some L)))
      fun fl _ σ' => (fl = .next ∨ ∃ v, fl = .ret v) ∧ K (retOf fl) σ') : CodeT C (m + 1) f vs K := by
  intro A s RR vs' hA hT V P
  have R := rep_nil (C := C) hT
  generalize hφ : (fun _ => 0 : Nat → Addr) = φ at R V
  generalize hσ : ([] : List AO) = σ at R h
  have hσ0 : σ.length = 0 := by rw [← hσ]; rfl
  rw [← hσ0] at V
  have hlen' : vs'.length = names.length := by rw [← V.length]; exact hlen
  have hNk : ∀ x ∈ names.zip vs', scope.names.lookup x.1 = some .local ∨ scope.names.lookup x.1 = some .cell := fun x hx => hkind x.1 (by
    have : x.1 ∈ (names.zip vs').map (·.1) := List.mem_map_of_mem hx
    rwa [zip_fst hlen'] at this)
  refine (codeAny_call_cells (fd := fnOf name qual params body scope dV kV doc pm an cdv ct) (body := body) (binds := names.zip vs') (by have := hA.dp; omega) (R.Kin _ _ ho) rfl (C.TR.nolimit.keeps R.top) (codeRec_of R.Kin hcd) rfl (hb vs' hlen') rfl
    (fun x hx => (hNk x hx).imp id fun hc => ⟨hc, W.cellsFrom_some _ _ _ (.inl hc)⟩) (fun s₁ x => ?_) hco hgen hk)
  have e0 : callEnvC (fnOf name qual params body scope dV kV doc pm an cdv ct) s.heap.objs.size f = mkEnv scope s.heap.objs.size (cellsFrom (s.heap.objs.size + 1) scope.names []) (qual ++ ".<locals>.") (some f) cdv (some s.heap.objs.size) := rfl
  rw [e0] at x ⊢
  have x' : InCallC s s.heap.objs.size (bindL (mkEnv scope s.heap.objs.size (cellsFrom (s.heap.objs.size + 1) scope.names []) (qual ++ ".<locals>.") (some f) cdv (some s.heap.objs.size)).kindOf (names.zip vs') fun _ => none)
      (cellsFrom (s.heap.objs.size + 1) scope.names []) (bindC (mkEnv scope s.heap.objs.size (cellsFrom (s.heap.objs.size + 1) scope.names []) (qual ++ ".<locals>.") (some f) cdv (some s.heap.objs.size)).kindOf (names.zip vs') fun _ => none) s₁ := x
  clear x
  specialize h s.heap.objs.size (cellsFrom (s.heap.objs.size + 1) scope.names [])
  revert x' h
  generalize hE : mkEnv scope s.heap.objs.size (cellsFrom (s.heap.objs.size + 1) scope.names []) (qual ++ ".<locals>.") (some f) cdv (some s.heap.objs.size) = env'
  intro h x'
  have hcells : env'.cells = cellsFrom (s.heap.objs.size + 1) scope.names [] := by rw [← hE]; rfl
  have hlocals : env'.locals = s.heap.objs.size := by rw [← hE]; rfl
  have hkindOf : ∀ y, env'.kindOf y = scope.names.lookup y := fun y => by rw [← hE]; rfl
  have keep := x'.toInCall.keep
  obtain ⟨h₁, tk, rfl⟩ := x'.toInCall.same
  have hsz : s.heap.objs.size < h₁.objs.size := x'.toInCall.ns.lt
  have S₀ : Step C.H C.T 0 φ σ s φ σ { s with heap := h₁, toks := tk } := Step.ofKeep R keep
  have V₁ : VReps φ σ.length h₁ vs vs' := V.mono (fun b o e _ => keep b o e) (Nat.le_refl _) (fun _ _ => rfl)
  have hTs : C.T.objs.size ≤ s.heap.objs.size := Nat.le_of_eq (by rw [hT])
  have F₁ : Frm C.T φ σ.length h₁ env' (locs (names.zip vs)) := by
    refine ⟨⟨_, hlocals ▸ x'.toInCall.ns, fun y v e k => ?_⟩, fun y v e k => ?_, fun y k => ?_, fun y z c k e e' => ?_, ?_, fun k hk q => ?_, fun y c e => ?_⟩
    · obtain ⟨v', h2, h3⟩ := zip_lookup V₁ e
      exact ⟨v', bindL_get (by rw [zip_fst hlen']; exact hnd) h2 k, h3⟩
    · obtain ⟨v', h2, h3⟩ := zip_lookup V₁ e
      have hmem : y ∈ names := by have := lookup_mem_fst h2; rwa [zip_fst hlen'] at this
      have hc : scope.names.lookup y = some .cell := by
        rcases hkind y hmem with q | q
        · rw [hkindOf, q] at k; rcases k with k | k <;> cases k
        · exact q
      obtain ⟨c, hc'⟩ := Option.isSome_iff_exists.mp (W.cellsFrom_some scope.names (s.heap.objs.size + 1) [] (.inl hc))
      have := x'.cell y c hc'
      rw [bindC_get (by rw [zip_fst hlen']; exact hnd) h2 (by rw [hkindOf]; exact hc)] at this
      exact ⟨c, v', by rw [hcells]; exact hc', this, h3⟩
    · obtain ⟨c, hc'⟩ := Option.isSome_iff_exists.mp (W.cellsFrom_some scope.names (s.heap.objs.size + 1) [] (.inl (by rw [← hkindOf]; exact k)))
      exact ⟨c, _, by rw [hcells]; exact hc', x'.cell y c hc'⟩
    · rw [hcells] at e e'
      exact name_of_addr x'.apart (mem_of_lookup e) (mem_of_lookup e')
    · rw [hlocals]; exact hTs
    · have := R.lt hk; rw [hlocals] at q; exact absurd this (by rw [q]; exact Nat.lt_irrefl _)
    · rw [hcells] at e
      have h2 := x'.above y c (mem_of_lookup e)
      refine ⟨by rw [hlocals]; exact Nat.ne_of_gt h2, Nat.le_trans (hTs) (Nat.le_of_lt h2), ⟨_, x'.cell y c e⟩, fun k hk q => ?_⟩
      have := R.lt hk
      rw [q] at this
      exact absurd (Nat.lt_trans h2 this) (Nat.lt_irrefl _)
  have hA' : AOk m (A.deeper env') := ⟨hA.hd, by have := hA.dp; show A.depth + 1 + m < _; omega, by have := hA.un; show A.units + 3 + 8 * m + 100 < _; omega⟩
  refine h _ φ _ _ _ hA' S₀.rep F₁ ?_
  intro φ₂ ρ₂ σ₂ s₂ fl fl' hfl S₂ F₂ Vf
  have same : s₂ = { s with heap := s₂.heap, toks := s₂.toks } := by rw [S₂.same]
  have ext : ∀ b o, s.heap.get? b = some o → s₂.heap.get? b = some o := fun b o e => S₂.ext b o (keep b o e) (fun hb => by
      have hlt := Heap.lt_size e
      rcases hb with rfl | ⟨y, hy, hc⟩
      · rw [hlocals] at hlt; exact Nat.lt_irrefl _ hlt
      · rw [hcells] at hc; have := x'.above y b (mem_of_lookup hc); exact absurd (Nat.lt_trans this hlt) (Nat.lt_irrefl _)) (fun k hk => absurd hk (by omega))
  obtain ⟨hfl, hk⟩ := hfl
  rcases hfl with rfl | ⟨v, rfl⟩
  · cases Vf
    exact P φ₂ _ _ _ _ hk same ext .none
  · cases Vf with
    | ret V => exact P φ₂ _ _ _ _ hk same ext V
end

/-! VF1 -/
section
variable {C : Cx} {n : Nat} {env : Env} {ρ : Loc} {σ : List AO} {K : Kv}
noncomputable abbrev bd (x : PySem.Str) (v : AV) : PySem.Str × AV := (x, v)
/-- what a level stands for -/
noncomputable def lv (i l m : Int) : Int := (i * m + (l - 1).fdiv 2).fdiv (l - 1)
theorem ct_level_value (hC : CxOk C) {i l m : Int} (hl : 2 ≤ l) (hl' : l ≤ 4) (hm : 0 ≤ m) (hm' : m ≤ 255) (h : K (.int (lv i l m)) σ) : CallC C (n + 1) env ρ σ (.top (.ref 100)) [.int i, .int l, .int m] K := by
  refine call_fn (f := 100) (names := ["index", "levels", "most"]) (by rw [hC.k]; rfl) (by rw [hC.k]; rfl) rfl (by decide +kernel) (by walk_at "args") (by decide +kernel) rfl rfl rfl ?_
  intro L cl
  dsimp only [bd5, sc5]
  walk_at "wk"
  exact ⟨.inr ⟨_, rfl⟩, h⟩

theorem rng_ok {a b : Int} {m : Nat} (h : (b - a).toNat = m) : Builtin.Range.rangeSize a b 1 = m := by
  unfold Builtin.Range.rangeSize
  simp only [Int.ediv_one]
  split <;> split <;> omega
noncomputable def ab (x : Int) : Int := if x < 0 then -x else x
noncomputable def nearF (l m v : Int) : Nat → Int
  | 0 => 0
  | k + 1 => if ab (lv (1 + (k : Int) * 1) l m - v) < ab (lv (nearF l m v k) l m - v) then 1 + (k : Int) * 1 else nearF l m v k
theorem ct_nearest_level (hC : CxOk C) {v l m : Int} (hl : 2 ≤ l) (hl' : l ≤ 4) (hm : 0 ≤ m) (hm' : m ≤ 255) (h : K (.int (nearF l m v (l - 1).toNat)) σ) : CallC C (n + 2) env ρ σ (.top (.ref 107)) [.int v, .int l, .int m] K := by
  refine call_fn (f := 107) (names := ["value", "levels", "most"]) (by rw [hC.k]; rfl) (by rw [hC.k]; rfl) rfl (by decide +kernel) (by walk_at "args") (by decide +kernel) rfl rfl rfl ?_
  intro L cl
  dsimp only [bd6, sc6]
  walk_at "wk"
  refine ex_forB ["index"] ?_ (fun _ => rfl)
  walk_at "wk"
  refine b_range2 ?_
  refine ⟨_, _, .rng (m := (l - 1).toNat) (small_one (by omega) (by omega) (by omega) (by omega)) (rng_ok rfl), fun i bs σ' => bs = [bd "value" (.int v), bd "levels" (.int l), bd "most" (.int m), bd "best" (.int (nearF l m v i))] ∧ σ' = σ, ⟨_, .cons rfl (.cons rfl (.cons rfl (.cons rfl .nil))), rfl, rfl⟩, fun _ _ _ _ => trivial, ?_, ?_⟩
  · rintro i w bs σ' hv ⟨rfl, rfl⟩
    obtain ⟨hi, rfl⟩ := rngItems_get hv
    refine tgt_name ?_ (.inl rfl) rfl (by decide)
    walk_at "wk"
    refine ct_level_value hC hl hl' hm hm' ?_
    walk_at "wk"
    refine b_abs ?_
    walk_at "wk"
    refine ct_level_value hC hl hl' hm hm' ?_
    walk_at "wk"
    refine b_abs ?_
    walk_at "wk"
    have e1 : nearF l m v (i + 1) = if ab (lv (1 + (i : Int) * 1) l m - v) < ab (lv (nearF l m v i) l m - v) then 1 + (i : Int) * 1 else nearF l m v i := rfl
    unfold ab at e1
    refine ⟨fun hb => ?_, fun hb => ?_⟩
    · rw [if_pos (of_decide_eq_true hb)] at e1
      walk_at "wk"
      exact ⟨_, .cons rfl (.cons rfl (.cons rfl (.cons rfl .nil))), by rw [e1], rfl⟩
    · rw [if_neg (of_decide_eq_false hb)] at e1
      walk_at "wk"
      exact ⟨_, .cons rfl (.cons rfl (.cons rfl (.cons rfl .nil))), by rw [e1], rfl⟩
  · rintro bs σ' ⟨rfl, rfl⟩ ρ' hb
    rw [rngItems_len] at hb
    have hbest := hb ("best", .int (nearF l m v (l - 1).toNat)) (by simp)
    walk_at "wk"
    refine ev_loc hbest ?_ rfl rfl (by decide)
    exact ⟨.inr ⟨_, rfl⟩, h⟩
end

/-! VF2 -/
section
variable {C : Cx} {n : Nat} {env : Env} {ρ : Loc} {σ : List AO} {K : Kv}

theorem ct_check_levels (hC : CxOk C) {l m : Int} (hl : 2 ≤ l) (hm : l ≤ m + 1) (h : K .none σ) : CallC C (n + 1) env ρ σ (.top (.ref 114)) [.int l, .int m] K := by
  refine call_fn (f := 114) (names := ["levels", "most"]) (by rw [hC.k]; rfl) (by rw [hC.k]; rfl) rfl (by decide +kernel) (by walk_at "args") (by decide +kernel) rfl rfl rfl ?_
  intro L cl
  dsimp only [bd7, sc7]
  walk_at "wk"
  refine ⟨fun hb => ?_, fun hb => ?_⟩
  · exact absurd (of_decide_eq_true hb) (by omega)
  walk_at "wk"
  refine ⟨fun hb => ?_, fun hb => ?_⟩
  · exact absurd (of_decide_eq_true hb) (by omega)
  walk_at "wk"
  exact ⟨.inl rfl, h⟩

/-- an ordered level -/
noncomputable def ol (v t a l m : Int) : Int := (v * (l - 1) * a + t * m).fdiv (m * a)
theorem ma_pos {m a : Int} (hm : 1 ≤ m) (ha : 1 ≤ a) : 1 ≤ m * a := by
  have := Int.mul_le_mul hm ha (by omega) (by omega); omega
theorem ma_le {m a x y : Int} (hm : m ≤ x) (ha : a ≤ y) (h0 : 0 ≤ a) (hx : 0 ≤ x) : m * a ≤ x * y := Int.mul_le_mul hm ha h0 hx
theorem ct_ordered_level (hC : CxOk C) {v t a l m : Int} (hl : 2 ≤ l) (hl' : l ≤ 4) (hm : 1 ≤ m) (hm' : m ≤ 255) (ha : 1 ≤ a) (ha' : a ≤ 16) (h : K (.int (ol v t a l m)) σ) : CallC C (n + 1) env ρ σ (.top (.ref 126)) [.int v, .int t, .int a, .int l, .int m] K := by
  refine call_fn (f := 126) (names := ["value", "threshold", "area", "levels", "most"]) (by rw [hC.k]; rfl) (by rw [hC.k]; rfl) rfl (by decide +kernel) (by walk_at "args") (by decide +kernel) rfl rfl rfl ?_
  intro L cl
  dsimp only [bd9, sc9]
  have h1 := ma_pos hm ha
  have h2 := ma_le hm' ha' (by omega) (by decide)
  walk_at "wk"
  exact ⟨.inr ⟨_, rfl⟩, h⟩

/-! planes -/
noncomputable def plane (w h : Int) (r : Nat) : AO := .attrs [bd "width" (.int w), bd "height" (.int h), bd "rows" (.ref r)]
end

/-! VF3 -/
section
variable {C : Cx} {n : Nat} {env : Env} {ρ : Loc} {σ : List AO} {K : Kv}

noncomputable def way (a b c : Int) : AV := .tup [.int a, .int b, .int c]
noncomputable def WAYS : List AV := [way 1 0 7, way (-1) 1 3, way 0 1 5, way 1 1 1]
theorem tup_of {K : Frag} {h : Heap} {φ : Nat → Addr} {m : Nat} {a : Addr} {vs : List AV} {items : List Value} {ep : Nat} {sl : Array (Option Value)} (X : K.In h) (hl : K.lookup a = some { cls := .type "tuple", dict := none, data := .seq items.toArray ep, slots := sl }) (V : VReps φ m h vs items) : VRep φ m h (.tup vs) (.ref a) :=
  .tup (X _ _ hl) rfl rfl V
theorem ways_items (hC : CxOk C) {φ : Nat → Addr} {m : Nat} {h : Heap} (X : C.K.In h) : VReps φ m h WAYS [.ref 89, .ref 90, .ref 91, .ref 92] := by
  refine .cons (tup_of X (by rw [hC.k]; rfl) (.cons .int (.cons .int (.cons .int .nil)))) (.cons (tup_of X (by rw [hC.k]; rfl) (.cons .int (.cons .int (.cons .int .nil)))) (.cons (tup_of X (by rw [hC.k]; rfl) (.cons .int (.cons .int (.cons .int .nil)))) (.cons (tup_of X (by rw [hC.k]; rfl) (.cons .int (.cons .int (.cons .int .nil)))) .nil)))
theorem ways_rep (hC : CxOk C) : ∀ φ m h, C.K.In h → VRep φ m h (.tup WAYS) (.ref 93) := fun φ m h X => tup_of X (by rw [hC.k]; rfl) (ways_items hC X)
theorem ways_heap (hC : CxOk C) : ∀ (φ : Nat → Addr) (m : Nat) h, C.K.In h → (∃ o ep, h.get? 93 = some o ∧ o.cls = .type "tuple" ∧ o.data = .seq ([.ref 89, .ref 90, .ref 91, .ref 92] : List Value).toArray ep) ∧ VReps φ m h WAYS [.ref 89, .ref 90, .ref 91, .ref 92] := fun φ m h X =>
  ⟨⟨_, _, X 93 _ (by rw [hC.k]; rfl), rfl, rfl⟩, ways_items hC X⟩

/-- the parts of an error -/
noncomputable def partsF (e : Int) : List Int := [(e * 7).fdiv 16, (e * 3).fdiv 16, (e * 5).fdiv 16, e - ((e * 7).fdiv 16 + ((e * 3).fdiv 16 + ((e * 5).fdiv 16 + 0)))]

theorem set_last {α : Type} {σ : List α} {a b : α} : (σ ++ [a]).set σ.length b = σ ++ [b] := by
  rw [List.set_append_right _ _ (Nat.le_refl _)]; simp
theorem get_last {α : Type} {σ : List α} {a : α} : (σ ++ [a])[σ.length]? = some a := by simp
theorem ct_parts_of (hC : CxOk C) {e : Int} (h : K (.ref σ.length) (σ ++ [.list (iL (partsF e))])) : CallC C (n + 1) env ρ σ (.top (.ref 138)) [.int e] K := by
  refine call_fn (f := 138) (names := ["error"]) (by rw [hC.k]; rfl) (by rw [hC.k]; rfl) rfl (by decide +kernel) (by walk_at "args") (by decide +kernel) rfl rfl rfl ?_
  intro L cl
  dsimp only [bd11, sc11]
  walk_at "wk"
  refine ⟨by simp, ?_⟩
  walk_at "wk"
  refine ex_forB ["turn", "step", "part"] ?_ (fun _ => rfl)
  refine ev_upto (b := 3) ?_ (fun _ _ => rfl)
  refine ev_globV (v := .ref 93) (a := .tup WAYS) (by rw [hC.k]; rfl) (ways_rep hC) ?_ rfl rfl rfl (by decide)
  refine ⟨_, rfl, by decide, by decide, ?_⟩
  refine ⟨_, _, .tup, fun i bs σ' => bs = [bd "error" (.int e), bd "found" (.ref σ.length)] ∧ σ' = σ ++ [.list (iL ((partsF e).take i))], ⟨_, .cons rfl (.cons rfl .nil), rfl, rfl⟩, fun _ _ _ _ => trivial, ?_, ?_⟩
  · rintro i w bs σ' hv ⟨rfl, rfl⟩
    have key : ∃ a b c, w = way a b c ∧ -10 ≤ c ∧ c ≤ 10 ∧ (partsF e).take (i + 1) = (partsF e).take i ++ [(e * c).fdiv 16] ∧ i < 3 := by
      match i, hv with
      | 0, hv => cases hv; exact ⟨1, 0, 7, rfl, by decide, by decide, rfl, by decide⟩
      | 1, hv => cases hv; exact ⟨-1, 1, 3, rfl, by decide, by decide, rfl, by decide⟩
      | 2, hv => cases hv; exact ⟨0, 1, 5, rfl, by decide, by decide, rfl, by decide⟩
      | i + 3, hv => simp [WAYS] at hv
    obtain ⟨a, b, c, rfl, c1, c2, hs, hi⟩ := key
    unfold way
    refine tgt_tup ?_ rfl rfl
    refine tgts_cons (tgt_name ?_ (.inl rfl) rfl (by decide))
    refine tgts_cons (tgt_name ?_ (.inl rfl) rfl (by decide))
    refine tgts_cons (tgt_name ?_ (.inl rfl) rfl (by decide))
    refine tgts_nil ?_
    walk_at "wk"
    refine ev_append ?_ rfl rfl
    walk_at "wk"
    refine ⟨_, rfl, ⟨_, get_last⟩, ?_⟩
    walk_at "wk"
    refine ⟨_, get_last, by simp [iL]; omega, ?_⟩
    refine ⟨.inl rfl, ?_⟩
    walk_at "wk"
    exact ⟨_, .cons rfl (.cons rfl .nil), rfl, by rw [set_last, hs]; simp [iL]⟩
  · rintro bs σ' ⟨rfl, rfl⟩ ρ' hb
    have h1 := hb (bd "error" (.int e)) (by simp)
    have h2 := hb (bd "found" (.ref σ.length)) (by simp)
    refine ex_weaken (ρ' := locs [bd "error" (.int e), bd "found" (.ref σ.length)]) hb.sub ?_
    walk_at "wk"
    refine ev_append ?_ rfl rfl
    walk_at "wk"
    refine ⟨_, rfl, ⟨_, get_last⟩, ?_⟩
    walk_at "wk"
    refine b_sum (ns := [(e * 7).fdiv 16, (e * 3).fdiv 16, (e * 5).fdiv 16]) get_last ?_
    walk_at "wk"
    refine ⟨_, get_last, by simp [iL]; omega, ?_⟩
    refine ⟨.inl rfl, ?_⟩
    walk_at "wk"
    refine ⟨.inr ⟨_, rfl⟩, ?_⟩
    rw [set_last]
    exact h
end

/-! VF4 -/
section
variable {C : Cx} {n : Nat} {env : Env} {ρ : Loc} {σ : List AO} {K : Kv}

theorem at_pl (hC : CxOk C) {k d : Nat} {fs : List (PySem.Str × AV)} {attr : PySem.Str} {v : AV} (e : σ[k]? = some (.inst 84 d)) (ed : σ[d]? = some (.attrs fs)) (ha : attr = "width" ∨ attr = "height" ∨ attr = "rows") (hv : fs.lookup attr = some v) (ht : ∀ x, v = .top x → handedIn x = true) (h : K v σ) :
    Tr1C C n env ρ σ (.ref k) (fun o => getAttr o attr true) K := by
  rcases ha with rfl | rfl | rfl <;>
  exact attr_own (o := none) e ed hv h (by rw [hC.k]; rfl) (by rw [hC.k]; rfl) (by rw [hC.k]; rfl) (by rw [hC.k]; rfl) ht
theorem at_sp (hC : CxOk C) {k d : Nat} {fs : List (PySem.Str × AV)} {attr : PySem.Str} {v : AV} (e : σ[k]? = some (.inst 174 d)) (ed : σ[d]? = some (.attrs fs)) (ha : attr = "plane" ∨ attr = "levels" ∨ attr = "most" ∨ attr = "carried" ∨ attr = "lost") (hv : fs.lookup attr = some v) (ht : ∀ x, v = .top x → handedIn x = true) (h : K v σ) :
    Tr1C C n env ρ σ (.ref k) (fun o => getAttr o attr true) K := by
  rcases ha with rfl | rfl | rfl | rfl | rfl <;>
  exact attr_own (o := none) e ed hv h (by rw [hC.k]; rfl) (by rw [hC.k]; rfl) (by rw [hC.k]; rfl) (by rw [hC.k]; rfl) ht

/-! where the plane and the spreader stand -/
noncomputable def rowI (w : Nat) (f : Nat → Int) : List Int := (List.range w).map f
theorem rowI_len {w : Nat} {f : Nat → Int} : (rowI w f).length = w := by simp [rowI]
theorem rowI_get {w x : Nat} {f : Nat → Int} (h : x < w) : (iL (rowI w f))[x]? = some (.int (f x)) := by simp [iL, rowI, h]
theorem rowI_set {w x : Nat} {f : Nat → Int} (v : Int) : (iL (rowI w f)).set x (.int v) = iL (rowI w fun i => if i = x then v else f i) := by
  apply List.ext_getElem?
  intro i
  simp only [iL, rowI, List.getElem?_set, List.length_map, List.length_range, List.getElem?_map]
  by_cases h : i < w
  · rw [List.getElem?_range h]
    by_cases q : x = i
    · subst q; simp [h]
    · simp [q, Ne.symm q]
  · have : (List.range w)[i]? = none := by simp; omega
    rw [this]
    by_cases q : x = i
    · subst q; simp [h]
    · simp [q]

noncomputable def spA (kp : Nat) (l m : Int) (kc : Nat) (lost : Int) : AO := .attrs [bd "plane" (.ref kp), bd "levels" (.int l), bd "most" (.int m), bd "carried" (.ref kc), bd "lost" (.int lost)]
structure PlaneAt (σ : List AO) (b kp dp r : Nat) (w h : Nat) (M : Nat → Nat → Int) : Prop where
  lt : kp < b ∧ dp < b ∧ r < b
  inst : σ[kp]? = some (.inst 84 dp)
  attrs : σ[dp]? = some (plane w h r)
  rows : ∃ rr : Nat → Nat, σ[r]? = some (.list ((List.range h).map fun y => .ref (rr y))) ∧ ∀ y, y < h → rr y < b ∧ σ[rr y]? = some (.list (iL (rowI w (M y))))
noncomputable def cr (b y : Nat) : Nat := b + 4 + 2 * y
structure Sp (σ : List AO) (b kp dp r : Nat) (l m : Int) (w h : Nat) (M Cm : Nat → Nat → Int) (lost : Int) : Prop where
  pl : PlaneAt σ b kp dp r w h M
  inst : σ[b + 1]? = some (.inst 174 b)
  attrs : σ[b]? = some (spA kp l m (b + 2) lost)
  car : σ[b + 2]? = some (.list ((List.range h).map fun y => .ref (cr b y)))
  rows : ∀ y, y < h → σ[cr b y]? = some (.list (iL (rowI w (Cm y))))
/-- all but the spreader's own things -/
noncomputable def Kept (b h : Nat) (σ σ' : List AO) : Prop := σ.length ≤ σ'.length ∧ ∀ k, k < σ.length → k ≠ b → (∀ y, y < h → k ≠ cr b y) → σ'[k]? = σ[k]?
theorem Kept.trans {b h : Nat} {σ σ' σ'' : List AO} (a : Kept b h σ σ') (c : Kept b h σ' σ'') : Kept b h σ σ'' := ⟨Nat.le_trans a.1 c.1, fun k h1 h2 h3 => (c.2 k (Nat.lt_of_lt_of_le h1 a.1) h2 h3).trans (a.2 k h1 h2 h3)⟩
theorem Kept.refl {b h : Nat} {σ : List AO} : Kept b h σ σ := ⟨Nat.le_refl _, fun _ _ _ _ => rfl⟩
theorem Kept.at {b h : Nat} {σ σ' : List AO} (a : Kept b h σ σ') {k : Nat} {o : AO} (e : σ[k]? = some o) (h1 : k ≠ b) (h2 : ∀ y, y < h → k ≠ cr b y) : σ'[k]? = some o := (a.2 k (List.getElem?_eq_some_iff.mp e).1 h1 h2).trans e
theorem PlaneAt.kept {σ σ' : List AO} {b kp dp r w h : Nat} {M : Nat → Nat → Int} (p : PlaneAt σ b kp dp r w h M) (a : ∀ k o, k < b → σ[k]? = some o → σ'[k]? = some o) : PlaneAt σ' b kp dp r w h M := by
  obtain ⟨rr, h1, h2⟩ := p.rows
  exact ⟨p.lt, a _ _ p.lt.1 p.inst, a _ _ p.lt.2.1 p.attrs, rr, a _ _ p.lt.2.2 h1, fun y hy => ⟨(h2 y hy).1, a _ _ (h2 y hy).1 (h2 y hy).2⟩⟩

noncomputable def upd2 (f : Nat → Nat → Int) (y x : Nat) (v : Int) : Nat → Nat → Int := fun y' x' => if y' = y then (if x' = x then v else f y' x') else f y' x'
noncomputable abbrev St2 := (Nat → Nat → Int) × Int
noncomputable def gv (w h : Nat) (S : St2) (x y e : Int) : St2 := if (0 ≤ x ∧ x < w) ∧ y < h then (upd2 S.1 y.toNat x.toNat (S.1 y.toNat x.toNat + e), S.2) else (S.1, S.2 + e)
noncomputable def Flat (σ : List AO) : Prop := ∀ o ∈ σ, flatO o = true
theorem Flat.set {σ : List AO} (f : Flat σ) {k : Nat} {o : AO} (h : flatO o = true) : Flat (σ.set k o) := fun x hx => by
  rcases List.mem_or_eq_of_mem_set hx with h1 | rfl
  · exact f x h1
  · exact h
theorem Flat.app {σ τ : List AO} (f : Flat σ) (g : Flat τ) : Flat (σ ++ τ) := fun x hx => by
  rcases List.mem_append.mp hx with h | h
  · exact f x h
  · exact g x h
theorem flat_iL (ns : List Int) : flatO (.list (iL ns)) = true := by
  simp [flatO, iL, flatV]

variable {b kp dp r w h : Nat} {l m : Int} {M Cm : Nat → Nat → Int} {lost : Int}
theorem cr_inj {b y y' : Nat} (e : cr b y = cr b y') : y = y' := by unfold cr at e; omega
theorem Sp.setRow {y x : Nat} {v : Int} (S : Sp σ b kp dp r l m w h M Cm lost) (hy : y < h) : Sp (σ.set (cr b y) (.list (iL (rowI w fun i => if i = x then v else Cm y i)))) b kp dp r l m w h M (upd2 Cm y x v) lost := by
  have hlt := (List.getElem?_eq_some_iff.mp (S.rows y hy)).1
  have ne : ∀ k o, k ≠ cr b y → σ[k]? = some o → (σ.set (cr b y) (.list (iL (rowI w fun i => if i = x then v else Cm y i))))[k]? = some o := fun k o hk e => by rw [List.getElem?_set_ne (Ne.symm hk)]; exact e
  refine ⟨S.pl.kept fun k o hk e => ne k o (by unfold cr; omega) e, ne _ _ (by unfold cr; omega) S.inst, ne _ _ (by unfold cr; omega) S.attrs, ne _ _ (by unfold cr; omega) S.car, fun y' hy' => ?_⟩
  by_cases q : y' = y
  · subst q
    rw [List.getElem?_set_self hlt, show upd2 Cm y' x v y' = fun i => if i = x then v else Cm y' i from by funext i; simp [upd2]]
  · rw [List.getElem?_set_ne (fun z => q (cr_inj z).symm), S.rows y' hy', show upd2 Cm y x v y' = Cm y' from by funext i; simp [upd2, q]]
theorem Sp.setLost {v : Int} (S : Sp σ b kp dp r l m w h M Cm lost) : Sp (σ.set b (spA kp l m (b + 2) v)) b kp dp r l m w h M Cm v := by
  have hlt := (List.getElem?_eq_some_iff.mp S.attrs).1
  have ne : ∀ k o, k ≠ b → σ[k]? = some o → (σ.set b (spA kp l m (b + 2) v))[k]? = some o := fun k o hk e => by rw [List.getElem?_set_ne (Ne.symm hk)]; exact e
  exact ⟨S.pl.kept fun k o hk e => ne k o (by omega) e, ne _ _ (by omega) S.inst, List.getElem?_set_self hlt, ne _ _ (by omega) S.car, fun y hy => ne _ _ (by unfold cr; omega) (S.rows y hy)⟩
theorem Kept.set {k : Nat} {o : AO} (hk : k = b ∨ ∃ y, y < h ∧ k = cr b y) : Kept b h σ (σ.set k o) := by
  refine ⟨by simp, fun j _ h2 h3 => List.getElem?_set_ne fun q => ?_⟩
  rcases hk with rfl | ⟨y, hy, rfl⟩
  · exact h2 q.symm
  · exact h3 y hy q.symm

theorem range_ref {h y : Nat} {f : Nat → Nat} (hy : y < h) : ((List.range h).map fun y => AV.ref (f y))[y]? = some (.ref (f y)) := by simp [hy]
theorem ct_give (hC : CxOk C) {x y e : Int} (hy0 : 0 ≤ y) (hw : w ≤ 4096) (S : Sp σ b kp dp r l m w h M Cm lost)
    (hK : ∀ σ', σ'.length = σ.length → Kept b h σ σ' → Sp σ' b kp dp r l m w h M (gv w h (Cm, lost) x y e).1 (gv w h (Cm, lost) x y e).2 → (Flat σ → Flat σ') → K .none σ') : CallC C (n + 1) env ρ σ (.top (.ref 157)) [.ref (b + 1), .int x, .int y, .int e] K := by
  refine call_fn (f := 157) (names := ["self", "x", "y", "error"]) (by rw [hC.k]; rfl) (by rw [hC.k]; rfl) rfl (by decide +kernel) (by walk_at "args") (by decide +kernel) rfl rfl rfl ?_
  intro L cl
  dsimp only [bd13, sc13]
  have hpl := S.pl
  have hlost : ¬ ((0 ≤ x ∧ x < w) ∧ y < h) → ∀ σ', σ' = σ.set b (spA kp l m (b + 2) (lost + e)) → K .none σ' := fun hn σ' q => by
    subst q
    have e1 : gv w h (Cm, lost) x y e = (Cm, lost + e) := if_neg hn
    refine hK _ (by simp) (Kept.set (.inl rfl)) ?_ fun f => f.set rfl
    rw [e1]; exact S.setLost
  have hpa : σ[dp]? = some (.attrs [bd "width" (.int w), bd "height" (.int h), bd "rows" (.ref r)]) := hpl.attrs
  have hsa : σ[b]? = some (.attrs [bd "plane" (.ref kp), bd "levels" (.int l), bd "most" (.int m), bd "carried" (.ref (b + 2)), bd "lost" (.int lost)]) := S.attrs
  have nt : ∀ k x, AV.ref k = .top x → handedIn x = true := fun _ _ q => by cases q
  have ni : ∀ k x, AV.int k = .top x → handedIn x = true := fun _ _ q => by cases q
  have sa : findIn C.K (.ref 174) "__setattr__" = some (some (.builtin "object.__setattr__")) ∧ plainOver C.K 174 = true ∧ takerIn C.K 174 "lost" = some none ∧ hasDictIn C.K 174 = true := by rw [hC.k]; exact ⟨rfl, rfl, rfl, rfl⟩
  walk_at "wk"
  refine ⟨fun h0 => ⟨fun _ => ⟨fun q => (by cases q), fun _ => ?else1⟩, fun q => (by cases q)⟩, fun h0 => ?_⟩
  rotate_left
  refine ev_attr ?_ rfl
  refine ev_attr ?_ rfl
  walk_at "wk"
  refine at_sp hC S.inst hsa (.inl rfl) rfl (nt _) ?_
  refine at_pl hC hpl.inst hpa (.inl rfl) rfl (ni _) ?_
  walk_at "wk"
  refine ⟨fun h1 => ⟨fun q => (by cases q), fun _ => ?else2⟩, fun h1 => ?_⟩
  rotate_left
  walk_at "wk"
  refine ev_attr ?_ rfl
  refine ev_attr ?_ rfl
  walk_at "wk"
  refine at_sp hC S.inst hsa (.inl rfl) rfl (nt _) ?_
  refine at_pl hC hpl.inst hpa (.inr (.inl rfl)) rfl (ni _) ?_
  walk_at "wk"
  refine ⟨fun h2 => ?_, fun h2 => ?else3⟩
  · have g0 := of_decide_eq_true h0
    have g1 := of_decide_eq_true h1
    have g2 := of_decide_eq_true h2
    have hx : x.toNat < w := by omega
    have hy : y.toNat < h := by omega
    walk_at "wk"
    refine ev_attr ?_ rfl
    walk_at "wk"
    refine at_sp hC S.inst hsa (.inr (.inr (.inr (.inl rfl)))) rfl (nt _) ?_
    walk_at "wk"
    refine sub_list S.car hy0 (range_ref hy) ?_ ps_name
    walk_at "wk"
    refine sub_list (S.rows _ hy) g0 (rowI_get hx) ?_ ps_name
    walk_at "wk"
    refine ev_attr ?_ rfl
    walk_at "wk"
    refine at_sp hC S.inst hsa (.inr (.inr (.inr (.inl rfl)))) rfl (nt _) ?_
    walk_at "wk"
    refine sub_list S.car hy0 (range_ref hy) ?_ ps_name
    walk_at "wk"
    refine set_list (S.rows _ hy) g0 (by simp [iL, rowI]; omega) ?_
    walk_at "wk"
    refine ⟨.inl rfl, ?_⟩
    have e1 : gv w h (Cm, lost) x y e = (upd2 Cm y.toNat x.toNat (Cm y.toNat x.toNat + e), lost) := if_pos ⟨⟨g0, g1⟩, g2⟩
    rw [rowI_set]
    refine hK _ (by simp) (Kept.set (.inr ⟨_, hy, rfl⟩)) ?_ fun f => f.set (flat_iL _)
    rw [e1]
    exact S.setRow hy
  all_goals
    walk_at "wk"
    refine ex_setAttr ?_ rfl
    walk_at "wk"
    refine ev_attr ?_ rfl
    walk_at "wk"
    refine at_sp hC S.inst hsa (.inr (.inr (.inr (.inr rfl)))) rfl (ni _) ?_
    walk_at "wk"
    refine ⟨_, _, _, _, rfl, S.inst, hsa, by simp, sa, ?_⟩
    walk_at "wk"
    refine ⟨.inl rfl, ?_⟩
    refine hlost ?_ _ rfl
    first
      | (rintro ⟨⟨z, _⟩, _⟩; exact absurd z (of_decide_eq_false h0))
      | (rintro ⟨⟨_, z⟩, _⟩; exact absurd z (of_decide_eq_false h1))
      | (rintro ⟨⟨_, _⟩, z⟩; exact absurd z (of_decide_eq_false h2))
end

/-! VF5 -/
section
variable {C : Cx} {n : Nat} {env : Env} {ρ : Loc} {σ : List AO} {K : Kv}
variable {b kp dp r w h : Nat} {l m : Int} {M Cm : Nat → Nat → Int} {lost : Int}

noncomputable def vF (M : Nat → Nat → Int) (S : St2) (x y : Nat) : Int := M y x + S.1 y x
noncomputable def idxF (l m : Int) (M : Nat → Nat → Int) (S : St2) (x y : Nat) : Int := nearF l m (vF M S x y) (l - 1).toNat
noncomputable def errF (l m : Int) (M : Nat → Nat → Int) (S : St2) (x y : Nat) : Int := vF M S x y - lv (idxF l m M S x y) l m
noncomputable def wx : Nat → Int
  | 0 => 1
  | 1 => -1
  | 2 => 0
  | _ => 1
noncomputable def wy : Nat → Int
  | 0 => 0
  | _ => 1
noncomputable def gives (w h : Nat) (S : St2) (x y : Nat) (a : Int) (p : List Int) : Nat → St2
  | 0 => S
  | i + 1 => gv w h (gives w h S x y a p i) (x + a * wx i) (y + wy i) (p.getD i 0)
noncomputable def stepF (w h : Nat) (l m : Int) (M : Nat → Nat → Int) (S : St2) (x y : Nat) (a : Int) : St2 := gives w h S x y a (partsF (errF l m M S x y)) 4

theorem Kept.app {τ : List AO} : Kept b h σ (σ ++ τ) := ⟨by simp, fun k h1 _ _ => List.getElem?_append_left h1⟩
theorem Sp.app {τ : List AO} (S : Sp σ b kp dp r l m w h M Cm lost) : Sp (σ ++ τ) b kp dp r l m w h M Cm lost := by
  have ne : ∀ (k : Nat) (o : AO), σ[k]? = some o → (σ ++ τ)[k]? = some o := fun k o e => by rw [List.getElem?_append_left (List.getElem?_eq_some_iff.mp e).1]; exact e
  exact ⟨S.pl.kept fun k o _ e => ne k o e, ne _ _ S.inst, ne _ _ S.attrs, ne _ _ S.car, fun y hy => ne _ _ (S.rows y hy)⟩
theorem Sp.lenb (S : Sp σ b kp dp r l m w h M Cm lost) : b + 2 < σ.length := (List.getElem?_eq_some_iff.mp S.car).1
theorem Sp.lencr (S : Sp σ b kp dp r l m w h M Cm lost) {y : Nat} (hy : y < h) : cr b y < σ.length := (List.getElem?_eq_some_iff.mp (S.rows y hy)).1
theorem get_app {τ : List AO} {k : Nat} {o : AO} (e : σ[k]? = some o) : (σ ++ τ)[k]? = some o := by rw [List.getElem?_append_left (List.getElem?_eq_some_iff.mp e).1]; exact e
theorem partsF_get {e : Int} {i : Nat} (hi : i < 4) : (iL (partsF e))[i]? = some (.int ((partsF e).getD i 0)) := by
  have : i = 0 ∨ i = 1 ∨ i = 2 ∨ i = 3 := by omega
  rcases this with rfl | rfl | rfl | rfl <;> rfl

theorem range_refI {h y : Nat} {f : Nat → Nat} (hy : y < h) : ((List.range h).map fun y => AV.ref (f y))[((y : Nat) : Int).toNat]? = some (.ref (f y)) := range_ref hy
theorem rowI_getI {w x : Nat} {f : Nat → Int} (h : x < w) : (iL (rowI w f))[((x : Nat) : Int).toNat]? = some (.int (f x)) := rowI_get h
set_option maxHeartbeats 1000000 in
theorem ct_level (hC : CxOk C) {x y : Nat} {a : Int} (hx : x < w) (hy : y < h) (ha : -1 ≤ a) (ha' : a ≤ 1) (hl : 2 ≤ l) (hl' : l ≤ 4) (hm : 0 ≤ m) (hm' : m ≤ 255) (hw : w ≤ 4096) (S : Sp σ b kp dp r l m w h M Cm lost) (hf : Flat σ)
    (hK : ∀ σ', Kept b h σ σ' → Sp σ' b kp dp r l m w h M (stepF w h l m M (Cm, lost) x y a).1 (stepF w h l m M (Cm, lost) x y a).2 → Flat σ' → K (.int (idxF l m M (Cm, lost) x y)) σ') :
    CallC C (n + 3) env ρ σ (.top (.ref 164)) [.ref (b + 1), .int x, .int y, .int a] K := by
  refine call_fn (f := 164) (names := ["self", "x", "y", "along"]) (by rw [hC.k]; rfl) (by rw [hC.k]; rfl) rfl (by decide +kernel) (by walk_at "args") (by decide +kernel) rfl rfl rfl ?_
  intro L cl
  dsimp only [bd14, sc14]
  have hpl := S.pl
  have hpa : σ[dp]? = some (.attrs [bd "width" (.int w), bd "height" (.int h), bd "rows" (.ref r)]) := hpl.attrs
  have hsa : σ[b]? = some (.attrs [bd "plane" (.ref kp), bd "levels" (.int l), bd "most" (.int m), bd "carried" (.ref (b + 2)), bd "lost" (.int lost)]) := S.attrs
  have nt : ∀ k x, AV.ref k = .top x → handedIn x = true := fun _ _ q => by cases q
  have ni : ∀ k x, AV.int k = .top x → handedIn x = true := fun _ _ q => by cases q
  obtain ⟨rr, hr1, hr2⟩ := hpl.rows
  walk_at "wk"
  refine ev_attr ?_ rfl
  refine ev_attr ?_ rfl
  walk_at "wk"
  refine at_sp hC S.inst hsa (.inl rfl) rfl (nt _) ?_
  refine at_pl hC hpl.inst hpa (.inr (.inr rfl)) rfl (nt _) ?_
  walk_at "wk"
  refine sub_list hr1 (by omega) (range_refI hy) ?_ ps_name
  walk_at "wk"
  refine sub_list (hr2 y hy).2 (by omega) (rowI_getI hx) ?_ ps_name
  refine ev_sub ?_
  refine ev_sub ?_
  refine ev_attr ?_ rfl
  walk_at "wk"
  refine at_sp hC S.inst hsa (.inr (.inr (.inr (.inl rfl)))) rfl (nt _) ?_
  walk_at "wk"
  refine sub_list S.car (by omega) (range_refI hy) ?_ ps_name
  walk_at "wk"
  refine sub_list (S.rows y hy) (by omega) (rowI_getI hx) ?_ ps_name
  walk_at "wk"
  refine ev_attr ?_ rfl
  walk_at "wk"
  refine at_sp hC S.inst hsa (.inr (.inl rfl)) rfl (ni _) ?_
  walk_at "wk"
  refine ev_attr ?_ rfl
  walk_at "wk"
  refine at_sp hC S.inst hsa (.inr (.inr (.inl rfl))) rfl (ni _) ?_
  walk_at "wk"
  refine ct_nearest_level hC hl hl' hm hm' ?_
  walk_at "wk"
  refine ev_attr ?_ rfl
  walk_at "wk"
  refine at_sp hC S.inst hsa (.inr (.inl rfl)) rfl (ni _) ?_
  walk_at "wk"
  refine ev_attr ?_ rfl
  walk_at "wk"
  refine at_sp hC S.inst hsa (.inr (.inr (.inl rfl))) rfl (ni _) ?_
  walk_at "wk"
  refine ct_level_value hC hl hl' hm hm' ?_
  walk_at "wk"
  refine ct_parts_of hC ?_
  walk_at "wk"
  have hb2 := S.lenb
  refine ex_forZip ["way", "part"] (ways_heap hC) ?_ (by walk_at "star") (fun _ => rfl)
  refine ev_blt (by rw [hC.k]; rfl) bt_zip (by decide) ?_ rfl rfl rfl rfl (by decide)
  refine ⟨rfl, ?_⟩
  refine vs_cons ?_ rfl
  refine ev_glob (v := .ref 93) (by rw [hC.k]; rfl) ?_ rfl rfl rfl (by decide)
  walk_at "wk"
  refine ⟨_, _, rfl, get_last, rfl, fun i bs σ' => bs = [bd "self" (.ref (b + 1)), bd "x" (.int x), bd "y" (.int y), bd "along" (.int a), bd "index" (.int (idxF l m M (Cm, lost) x y))] ∧
      Kept b h (σ ++ [.list (iL (partsF (errF l m M (Cm, lost) x y)))]) σ' ∧ Sp σ' b kp dp r l m w h M (gives w h (Cm, lost) x y a (partsF (errF l m M (Cm, lost) x y)) i).1 (gives w h (Cm, lost) x y a (partsF (errF l m M (Cm, lost) x y)) i).2 ∧ Flat σ', ?_, ?_, ?_, ?_⟩
  · exact ⟨_, .cons rfl (.cons rfl (.cons rfl (.cons rfl (.cons rfl .nil)))), rfl, Kept.refl, S.app, hf.app (by intro o ho; rw [List.mem_singleton.mp ho]; exact flat_iL _)⟩
  · rintro i bs σ' ⟨rfl, hk, hs, hf'⟩
    refine ⟨hk.at get_last (by omega) (fun y hy => ?_), hf', by simp [flatV]⟩
    have := S.lencr hy; omega
  · rintro i wv pv bs σ' hwv hpv ⟨rfl, hk, hs, hf'⟩
    have hi : i < 4 := by have := (List.getElem?_eq_some_iff.mp hwv).1; simpa [WAYS] using this
    have key : ∃ c, wv = way (wx i) (wy i) c ∧ -1 ≤ wx i ∧ wx i ≤ 1 ∧ 0 ≤ wy i := by
      have : i = 0 ∨ i = 1 ∨ i = 2 ∨ i = 3 := by omega
      rcases this with rfl | rfl | rfl | rfl <;> (cases hwv; exact ⟨_, rfl, by decide, by decide, by decide⟩)
    obtain ⟨c, rfl, hw1, hw2, hw3⟩ := key
    have hpv' : pv = .int ((partsF (errF l m M (Cm, lost) x y)).getD i 0) := by
      have := partsF_get (e := errF l m M (Cm, lost) x y) hi
      exact Option.some.inj (hpv.symm.trans this)
    subst hpv'
    unfold way
    refine tgt_tup ?_ rfl rfl
    refine tgts_cons (tgt_name ?_ (.inl rfl) rfl (by decide))
    refine tgts_cons (tgt_name ?_ (.inl rfl) rfl (by decide))
    refine tgts_nil ?_
    walk_at "wk"
    refine ev_meth (f := .ref 157) (by rw [hC.k]; rfl) ?_ (by walk_at "star") rfl
    walk_at "wk"
    refine ⟨meth_inst hs.inst hs.attrs rfl (by rw [hC.k]; rfl) (by rw [hC.k]; rfl) (by rw [hC.k]; rfl), ?_⟩
    walk_at "wk"
    refine sub_tup (i := 0) rfl (by decide) (by decide) rfl ?_ ps_const
    walk_at "wk"
    refine sub_tup (i := 1) rfl (by decide) (by decide) rfl ?_ ps_const
    walk_at "wk"
    refine ct_give hC (by omega) hw hs fun σ'' hlen hk2 hs2 hf2 => ?_
    refine ⟨.inl rfl, ?_⟩
    walk_at "wk"
    exact ⟨rfl, _, .cons rfl (.cons rfl (.cons rfl (.cons rfl (.cons rfl .nil)))), rfl, hk.trans hk2, hs2, hf2 hf'⟩
  · rintro bs σ' ⟨rfl, hk, hs, hf'⟩
    walk_at "wk"
    exact ⟨.inr ⟨_, rfl⟩, hK _ (Kept.app.trans hk) hs hf'⟩
end

/-! VF6 -/
section
variable {C : Cx} {n : Nat} {env : Env} {ρ : Loc} {σ : List AO} {K : Kv}
variable {b kp dp r w h : Nat} {l m : Int} {M Cm : Nat → Nat → Int} {lost : Int}

noncomputable def alongF (y : Nat) : Int := if y % 2 = 0 then 1 else -1
noncomputable def px (y w i : Nat) : Nat := if y % 2 = 0 then i else w - 1 - i
noncomputable abbrev RSt := (Nat → Int) × St2
noncomputable def rowStep (w h : Nat) (l m : Int) (M : Nat → Nat → Int) (y : Nat) (R : RSt) (x : Nat) : RSt := (fun i => if i = x then idxF l m M R.2 x y else R.1 i, stepF w h l m M R.2 x y (alongF y))
noncomputable def rowSt (w h : Nat) (l m : Int) (M : Nat → Nat → Int) (y : Nat) (S : St2) : Nat → RSt
  | 0 => (fun _ => 0, S)
  | i + 1 => rowStep w h l m M y (rowSt w h l m M y S i) (px y w i)

theorem Kept.setNew {σ' : List AO} {k : Nat} {o : AO} (hk : Kept b h σ σ') (hl : σ.length ≤ k) : Kept b h σ (σ'.set k o) :=
  ⟨by simpa using hk.1, fun j h1 h2 h3 => by rw [List.getElem?_set_ne (by omega)]; exact hk.2 j h1 h2 h3⟩
theorem Sp.setOther {k : Nat} {o : AO} (S : Sp σ b kp dp r l m w h M Cm lost) (hk : b + 2 < k) (hk' : ∀ y, y < h → cr b y < k) : Sp (σ.set k o) b kp dp r l m w h M Cm lost := by
  have ne : ∀ j x, j ≠ k → σ[j]? = some x → (σ.set k o)[j]? = some x := fun j x hj e => by rw [List.getElem?_set_ne (Ne.symm hj)]; exact e
  exact ⟨S.pl.kept fun j x hj e => ne j x (by omega) e, ne _ _ (by omega) S.inst, ne _ _ (by omega) S.attrs, ne _ _ (by omega) S.car, fun y hy => ne _ _ (by have := hk' y hy; omega) (S.rows y hy)⟩
theorem size_dn (a b : Int) : Builtin.Range.rangeSize a b (-1) = if a > b then a - b else 0 := by
  unfold Builtin.Range.rangeSize
  rw [if_neg (by decide)]
  split
  · rw [Int.neg_neg, Int.ediv_one]; omega
  · rfl
theorem small_dn {a b : Int} (ha : -(2 ^ 62) ≤ a) (ha' : a < 2 ^ 62) (hb : -(2 ^ 62) ≤ b) (hb' : b < 2 ^ 62) : Builtin.Range.small a b (-1) = true := by
  unfold Builtin.Range.small
  rw [size_dn, if_neg (show ¬ ((-1 : Int) > 0) by decide)]
  simp only [Builtin.Range.rangeFitsLong, Bool.and_eq_true, Bool.or_eq_true, decide_eq_true_eq, beq_iff_eq]
  split <;> omega
theorem rng_up {w : Nat} : rngItems 0 1 w = (List.range w).map fun (i : Nat) => AV.int (i : Int) := by
  unfold rngItems; congr 1; funext i; congr 1; omega
theorem rng_dn {w : Nat} : rngItems ((w : Int) - 1) (-1) w = (List.range w).map fun (i : Nat) => AV.int ((w - 1 - i : Nat) : Int) := by
  unfold rngItems
  apply List.map_congr_left
  intro i hi
  rw [List.mem_range] at hi
  congr 1; omega
theorem map_get {w i : Nat} {f : Nat → AV} {v : AV} (h : ((List.range w).map f)[i]? = some v) : i < w ∧ v = f i := by
  rw [List.getElem?_map] at h
  by_cases hi : i < w
  · rw [List.getElem?_range hi] at h; cases h; exact ⟨hi, rfl⟩
  · have : (List.range w)[i]? = none := by simp; omega
    rw [this] at h; cases h
theorem rowI_const {w : Nat} : (List.replicate ((w : Nat) : Int).toNat (AV.int 0)) = iL (rowI w fun _ => 0) := by
  apply List.ext_getElem?
  intro i
  simp [iL, rowI, List.getElem?_replicate]
  by_cases hi : i < w
  · rw [List.getElem?_range hi, if_pos hi]; rfl
  · have : (List.range w)[i]? = none := by simp; omega
    rw [this, if_neg hi]; rfl

set_option maxHeartbeats 1000000 in
theorem ct_row (hC : CxOk C) {y : Nat} (hy : y < h) (hl : 2 ≤ l) (hl' : l ≤ 4) (hm : 0 ≤ m) (hm' : m ≤ 255) (hw : w ≤ 4096) (S : Sp σ b kp dp r l m w h M Cm lost) (hf : Flat σ)
    (hK : ∀ σ', Kept b h σ σ' → Sp σ' b kp dp r l m w h M (rowSt w h l m M y (Cm, lost) w).2.1 (rowSt w h l m M y (Cm, lost) w).2.2 → Flat σ' → σ'[σ.length + 1]? = some (.list (iL (rowI w (rowSt w h l m M y (Cm, lost) w).1))) → K (.ref (σ.length + 1)) σ') :
    CallC C (n + 4) env ρ σ (.top (.ref 171)) [.ref (b + 1), .int y] K := by
  refine call_fn (f := 171) (names := ["self", "y"]) (by rw [hC.k]; rfl) (by rw [hC.k]; rfl) rfl (by decide +kernel) (by walk_at "args") (by decide +kernel) rfl rfl rfl ?_
  intro L cl
  dsimp only [bd15, sc15]
  have hpl := S.pl
  have nt : ∀ k x, AV.ref k = .top x → handedIn x = true := fun _ _ q => by cases q
  have ni : ∀ k x, AV.int k = .top x → handedIn x = true := fun _ _ q => by cases q
  have hsa : ∀ τ, (σ ++ τ)[b]? = some (.attrs [bd "plane" (.ref kp), bd "levels" (.int l), bd "most" (.int m), bd "carried" (.ref (b + 2)), bd "lost" (.int lost)]) := fun τ => get_app S.attrs
  have hpa : ∀ τ, (σ ++ τ)[dp]? = some (.attrs [bd "width" (.int w), bd "height" (.int h), bd "rows" (.ref r)]) := fun τ => get_app hpl.attrs
  have hb2 := S.lenb
  walk_at "wk"
  refine ⟨by simp, ?_⟩
  refine ev_attr ?_ rfl
  refine ev_attr ?_ rfl
  walk_at "wk"
  refine at_sp hC (get_app S.inst) (hsa _) (.inl rfl) rfl (nt _) ?_
  refine at_pl hC (get_app hpl.inst) (hpa _) (.inl rfl) rfl (ni _) ?_
  refine bin_mulL (v := .int 0) get_last (by omega) (by omega) ?_
  rw [rowI_const]
  walk_at "evS"
  walk_at "evS"
  refine TrC.mono (K := fun v σ' => v = .int (alongF y) ∧ σ' = σ ++ [.list [.int 0]] ++ [.list (iL (rowI w fun _ => 0))]) ?_ ?_
  · walk_at "wk"
    unfold alongF
    have e0 : ((y : Int).fmod 2 == 0) = decide (y % 2 = 0) := by
      rw [Int.fmod_eq_emod_of_nonneg _ (by omega)]
      by_cases q : y % 2 = 0
      · rw [decide_eq_true q, beq_iff_eq]; omega
      · rw [decide_eq_false q, beq_eq_false_iff_ne]; omega
    rw [e0]
    refine ⟨fun q => ?_, fun q => ?_⟩
    · rw [if_pos (of_decide_eq_true q)]
      walk_at "wk"
      exact ⟨rfl, rfl⟩
    · rw [if_neg (of_decide_eq_false q)]
      refine ev_neg ?_
      walk_at "wk"
      exact ⟨_, rfl, rfl, rfl⟩
  rintro _ _ ⟨rfl, rfl⟩
  walk_at "evS"
  walk_at "evS"
  refine TrC.mono (K := fun v σ' => σ' = σ ++ [.list [.int 0]] ++ [.list (iL (rowI w fun _ => 0))] ∧ IterOk v ((List.range w).map fun (i : Nat) => AV.int ((px y w i : Nat) : Int)) (fun _ => True)) ?_ ?_
  · walk_at "wk"
    unfold alongF px
    refine ⟨fun q => ?_, fun q => ?_⟩
    · have q' : y % 2 = 0 := by
        by_cases z : y % 2 = 0
        · exact z
        · rw [if_neg z] at q; exact absurd q (by decide)
      walk_at "wk"
      refine ev_attr ?_ rfl
      refine ev_attr ?_ rfl
      walk_at "wk"
      rw [List.append_assoc]
      refine at_sp hC (get_app S.inst) (hsa _) (.inl rfl) rfl (nt _) ?_
      refine at_pl hC (get_app hpl.inst) (hpa _) (.inl rfl) rfl (ni _) ?_
      walk_at "wk"
      refine b_range1 ?_
      refine ⟨rfl, ?_⟩
      simp only [q', if_true]
      rw [← rng_up]
      exact .rng (small_one (by omega) (by omega) (by omega) (by omega)) (rng_ok (by omega))
    · have q' : ¬ y % 2 = 0 := fun z => by rw [if_pos z] at q; exact absurd q (by decide)
      walk_at "wk"
      refine ev_attr ?_ rfl
      refine ev_attr ?_ rfl
      walk_at "wk"
      rw [List.append_assoc]
      refine at_sp hC (get_app S.inst) (hsa _) (.inl rfl) rfl (nt _) ?_
      refine at_pl hC (get_app hpl.inst) (hpa _) (.inl rfl) rfl (ni _) ?_
      walk_at "wk"
      refine ev_neg ?_
      walk_at "wk"
      refine ⟨_, rfl, ?_⟩
      walk_at "wk"
      refine ev_neg ?_
      walk_at "wk"
      refine ⟨_, rfl, ?_⟩
      walk_at "wk"
      refine b_range3 (by decide) (PyProof.noPylong_small (by decide)) ?_
      refine ⟨rfl, ?_⟩
      simp only [q', if_false]
      rw [← rng_dn]
      exact .rng (small_dn (by omega) (by omega) (by omega) (by omega)) (by rw [size_dn]; split <;> omega)
  rintro v σ₂ ⟨rfl, hit⟩
  walk_at "wk"
  refine ex_forB ["x"] ?_ (fun _ => rfl)
  walk_at "wk"
  refine ⟨_, _, hit, fun i bs σ' => bs = [bd "self" (.ref (b + 1)), bd "y" (.int y), bd "found" (.ref (σ.length + 1)), bd "along" (.int (alongF y))] ∧ Kept b h σ σ' ∧ Sp σ' b kp dp r l m w h M (rowSt w h l m M y (Cm, lost) i).2.1 (rowSt w h l m M y (Cm, lost) i).2.2 ∧ Flat σ' ∧ σ'[σ.length + 1]? = some (.list (iL (rowI w (rowSt w h l m M y (Cm, lost) i).1))), ?_, fun _ _ _ _ => trivial, ?_, ?_⟩
  · refine ⟨_, .cons rfl (.cons rfl (.cons (by simp [upd]; rfl) (.cons rfl .nil))), rfl, ?_, ?_, ?_, ?_⟩
    · rw [List.append_assoc]; exact Kept.app
    · rw [List.append_assoc]; exact S.app
    · exact (hf.app (by intro o ho; rw [List.mem_singleton.mp ho]; rfl)).app (by intro o ho; rw [List.mem_singleton.mp ho]; exact flat_iL _)
    · simp [rowSt]
  · rintro i v bs σ' hv ⟨rfl, hk, hs, hf', hfd⟩
    obtain ⟨hi, rfl⟩ := map_get hv
    have hx : px y w i < w := by unfold px; split <;> omega
    refine tgt_name ?_ (.inl rfl) rfl (by decide)
    walk_at "wk"
    refine ev_meth (f := .ref 164) (by rw [hC.k]; rfl) ?_ (by walk_at "star") rfl
    walk_at "wk"
    refine ⟨meth_inst hs.inst hs.attrs rfl (by rw [hC.k]; rfl) (by rw [hC.k]; rfl) (by rw [hC.k]; rfl), ?_⟩
    walk_at "wk"
    refine ct_level hC hx hy (by unfold alongF; split <;> decide) (by unfold alongF; split <;> decide) hl hl' hm hm' hw hs hf' fun σ'' hk2 hs2 hf2 => ?_
    have hfd2 := hk2.at hfd (by omega) (fun y hy => by have := S.lencr hy; omega)
    walk_at "wk"
    refine set_list hfd2 (by omega) (by simp [iL, rowI]; omega) ?_
    walk_at "wk"
    refine ⟨_, .cons rfl (.cons rfl (.cons rfl (.cons rfl .nil))), rfl, (hk.trans hk2).setNew (by omega), hs2.setOther (by omega) (fun y hy => by have := S.lencr hy; omega), hf2.set ?_, ?_⟩
    · rw [show ((px y w i : Nat) : Int).toNat = px y w i from rfl, rowI_set]; exact flat_iL _
    · rw [List.getElem?_set_self (List.getElem?_eq_some_iff.mp hfd2).1, show ((px y w i : Nat) : Int).toNat = px y w i from rfl, rowI_set]
      rfl
  · rintro bs σ' ⟨rfl, hk, hs, hf', hfd⟩ ρ' hb
    simp only [List.length_map, List.length_range] at hk hs hf' hfd
    have hfound := hb (bd "found" (.ref (σ.length + 1))) (by simp)
    walk_at "wk"
    refine ev_loc hfound ?_ rfl rfl (by decide)
    exact ⟨.inr ⟨_, rfl⟩, hK _ hk hs hf' hfd⟩
end

/-! VF7 -/
section
variable {C : Cx} {n : Nat} {env : Env} {ρ : Loc} {σ : List AO} {K : Kv}
variable {b kp dp r w h : Nat} {l m : Int} {M Cm : Nat → Nat → Int} {lost : Int}

theorem set_mid {α : Type} {σ : List α} {a c : α} {τ : List α} : (σ ++ [a] ++ τ).set σ.length c = σ ++ [c] ++ τ := by
  rw [List.append_assoc, List.set_append_right _ _ (Nat.le_refl _)]; simp
theorem get_mid {α : Type} {σ : List α} {a : α} {τ : List α} : (σ ++ [a] ++ τ)[σ.length]? = some a := by simp
theorem len2 {α : Type} {σ : List α} {a c : α} : (σ ++ [a] ++ [c])[σ.length + 1]? = some c := by simp

theorem plA {x : PySem.Str} {v : AV} {fs : List (PySem.Str × AV)} {n : Nat} (h : fs.length + (n + 1) < 64) : (putA x v fs).length + n < 64 := by have := putA_len x v fs; omega
theorem ct_Plane (hC : CxOk C) {wi hi : Int} {r : Nat} (h : K (.ref (σ.length + 1)) (σ ++ [.attrs [bd "width" (.int wi), bd "height" (.int hi), bd "rows" (.ref r)]] ++ [.inst 84 σ.length])) : CallC C (n + 2) env ρ σ (.top (.ref 84)) [.int wi, .int hi, .ref r] K := by
  refine call_class (fI := 67) (by rw [hC.k]; rfl) (by rw [hC.k]; rfl) (by rw [hC.k]; rfl) ?_
  refine code_fn (f := 67) (names := ["self", "width", "height", "rows"]) (by rw [hC.k]; rfl) (by rw [hC.k]; rfl) rfl (by decide +kernel) (by walk_at "args") (by decide +kernel) rfl rfl rfl ?_
  intro L cl
  dsimp only [bd2, sc2]
  have sa : ∀ x : PySem.Str, takerIn C.K 84 x = some none → findIn C.K (.ref 84) "__setattr__" = some (some (.builtin "object.__setattr__")) ∧ plainOver C.K 84 = true ∧ takerIn C.K 84 x = some none ∧ hasDictIn C.K 84 = true := fun x hx => ⟨by rw [hC.k]; rfl, by rw [hC.k]; rfl, hx, by rw [hC.k]; rfl⟩
  walk_at "wk"
  refine ex_setAttr ?_ rfl
  walk_at "wk"
  refine ⟨_, _, _, _, rfl, len2, get_mid, by simp, sa _ (by rw [hC.k]; rfl), ?_⟩
  rw [set_mid]
  walk_at "wk"
  refine ex_setAttr ?_ rfl
  walk_at "wk"
  refine ⟨_, _, _, _, rfl, len2, get_mid, (by show _ + 0 < 64; (repeat refine plA ?_); simp), sa _ (by rw [hC.k]; rfl), ?_⟩
  rw [set_mid]
  walk_at "wk"
  refine ex_setAttr ?_ rfl
  walk_at "wk"
  refine ⟨_, _, _, _, rfl, len2, get_mid, (by show _ + 0 < 64; (repeat refine plA ?_); simp), sa _ (by rw [hC.k]; rfl), ?_⟩
  rw [set_mid]
  walk_at "wk"
  exact ⟨.inl rfl, rfl, h⟩

/-- all that was there is there still -/
noncomputable def Keeps (σ σ' : List AO) : Prop := ∀ (k : Nat) (o : AO), σ[k]? = some o → σ'[k]? = some o
theorem Keeps.len {σ σ' : List AO} (h : Keeps σ σ') : σ.length ≤ σ'.length := by
  rcases Nat.eq_zero_or_pos σ.length with e | e
  · omega
  · have := h (σ.length - 1) _ (List.getElem?_eq_getElem (by omega))
    have := (List.getElem?_eq_some_iff.mp this).1
    omega
theorem Keeps.app {τ : List AO} : Keeps σ (σ ++ τ) := fun _ _ e => get_app e
theorem Keeps.trans {σ σ' σ'' : List AO} (a : Keeps σ σ') (c : Keeps σ' σ'') : Keeps σ σ'' := fun k o e => c k o (a k o e)
theorem Keeps.refl : Keeps σ σ := fun _ _ e => e

/-! a new spreader -/
noncomputable def rowsJ (w : Nat) : Nat → List AO
  | 0 => []
  | i + 1 => rowsJ w i ++ [.list [.int 0]] ++ [.list (iL (rowI w fun _ => 0))]
theorem rowsJ_len {w i : Nat} : (rowsJ w i).length = 2 * i := by
  induction i with
  | zero => rfl
  | succ i ih => simp [rowsJ, ih]; omega
theorem rowsJ_get {w i y : Nat} (hy : y < i) : (rowsJ w i)[2 * y + 1]? = some (.list (iL (rowI w fun _ => 0))) := by
  induction i with
  | zero => omega
  | succ i ih =>
    unfold rowsJ
    by_cases q : y < i
    · rw [List.append_assoc, List.getElem?_append_left (by rw [rowsJ_len]; omega)]; exact ih q
    · have : y = i := by omega
      subst this
      rw [show 2 * y + 1 = (rowsJ w y ++ [AO.list [.int 0]]).length from by simp [rowsJ_len]]
      exact get_last
theorem rowsJ_flat {w i : Nat} : Flat (rowsJ w i) := by
  induction i with
  | zero => intro o ho; cases ho
  | succ i ih => exact (ih.app (by intro o ho; rw [List.mem_singleton.mp ho]; rfl)).app (by intro o ho; rw [List.mem_singleton.mp ho]; exact flat_iL _)
theorem map_succ {α : Type} {i : Nat} {f : Nat → α} : (List.range (i + 1)).map f = (List.range i).map f ++ [f i] := by rw [List.range_succ, List.map_append]; rfl

set_option maxHeartbeats 1000000 in
theorem ct_Spreader (hC : CxOk C) (hw : w ≤ 4096) (hh : h < 4096) (hp : PlaneAt σ σ.length kp dp r w h M)
    (hK : ∀ σ', Sp σ' σ.length kp dp r l m w h M (fun _ _ => 0) 0 → (Flat σ → Flat σ') → Keeps σ σ' → K (.ref (σ.length + 1)) σ') : CallC C (n + 2) env ρ σ (.top (.ref 174)) [.ref kp, .int l, .int m] K := by
  refine call_class (fI := 150) (by rw [hC.k]; rfl) (by rw [hC.k]; rfl) (by rw [hC.k]; rfl) ?_
  refine code_fn (f := 150) (names := ["self", "plane", "levels", "most"]) (by rw [hC.k]; rfl) (by rw [hC.k]; rfl) rfl (by decide +kernel) (by walk_at "args") (by decide +kernel) rfl rfl rfl ?_
  intro L cl
  dsimp only [bd12, sc12]
  have nt : ∀ k x, AV.ref k = .top x → handedIn x = true := fun _ _ q => by cases q
  have ni : ∀ k x, AV.int k = .top x → handedIn x = true := fun _ _ q => by cases q
  have sa : ∀ x : PySem.Str, takerIn C.K 174 x = some none → findIn C.K (.ref 174) "__setattr__" = some (some (.builtin "object.__setattr__")) ∧ plainOver C.K 174 = true ∧ takerIn C.K 174 x = some none ∧ hasDictIn C.K 174 = true := fun x hx => ⟨by rw [hC.k]; rfl, by rw [hC.k]; rfl, hx, by rw [hC.k]; rfl⟩
  walk_at "wk"
  refine ex_setAttr ?_ rfl
  walk_at "wk"
  refine ⟨_, _, _, _, rfl, len2, get_mid, by simp, sa _ (by rw [hC.k]; rfl), ?_⟩
  rw [set_mid]
  walk_at "wk"
  refine ex_setAttr ?_ rfl
  walk_at "wk"
  refine ⟨_, _, _, _, rfl, len2, get_mid, (by show _ + 0 < 64; (repeat refine plA ?_); simp), sa _ (by rw [hC.k]; rfl), ?_⟩
  rw [set_mid]
  walk_at "wk"
  refine ex_setAttr ?_ rfl
  walk_at "wk"
  refine ⟨_, _, _, _, rfl, len2, get_mid, (by show _ + 0 < 64; (repeat refine plA ?_); simp), sa _ (by rw [hC.k]; rfl), ?_⟩
  rw [set_mid]
  walk_at "wk"
  refine ex_setAttr ?_ rfl
  refine ev_comp ["y"] ?_ (fun _ => rfl) rfl (by decide +kernel) rfl (by decide +kernel)
  walk_at "wk"
  refine ev_attr ?_ rfl
  walk_at "wk"
  have hpi : ∀ τ τ', (σ ++ τ ++ τ')[kp]? = some (.inst 84 dp) := fun τ τ' => get_app (get_app hp.inst)
  have hpa : ∀ τ τ', (σ ++ τ ++ τ')[dp]? = some (.attrs [bd "width" (.int w), bd "height" (.int h), bd "rows" (.ref r)]) := fun τ τ' => get_app (get_app hp.attrs)
  refine at_pl hC (hpi _ _) (hpa _ _) (.inr (.inl rfl)) rfl (ni _) ?_
  walk_at "wk"
  refine b_range1 ?_
  generalize hσ₁ : σ ++ [AO.attrs (putA (Str.ofString "most") (AV.int m) (putA (Str.ofString "levels") (AV.int l) (putA (Str.ofString "plane") (AV.ref kp) [])))] ++ [AO.inst 174 σ.length] = σ₁
  have hl1 : σ₁.length = σ.length + 2 := by rw [← hσ₁]; simp
  refine ⟨_, _, .rng (m := h) (small_one (by omega) (by omega) (by omega) (by omega)) (rng_ok (by omega)), fun i σ' => σ' = σ₁ ++ [.list ((List.range i).map fun y => .ref (cr σ.length y))] ++ rowsJ w i, ?_, trivial, fun _ _ _ => trivial, ?_, ?_⟩
  · simp [rowsJ]
  · rintro L2 i v σ' hv rfl
    obtain ⟨hi, rfl⟩ := rngItems_get hv
    refine tgt_name ?_ (.inl rfl) rfl (by decide)
    refine ⟨csub_upd (by decide +kernel) csub_refl, ?_⟩
    refine ifs_nil ⟨fun q => (by cases q), fun _ => ?_⟩
    walk_at "wk"
    refine ⟨by simp, ?_⟩
    refine ev_attr ?_ rfl
    walk_at "wk"
    have hpi2 : ∀ τ τ' τ'' , (σ₁ ++ τ ++ τ' ++ τ'')[kp]? = some (.inst 84 dp) := fun τ τ' τ'' => get_app (get_app (get_app (by rw [← hσ₁]; exact hpi _ _)))
    have hpa2 : ∀ τ τ' τ'' , (σ₁ ++ τ ++ τ' ++ τ'')[dp]? = some (.attrs [bd "width" (.int w), bd "height" (.int h), bd "rows" (.ref r)]) := fun τ τ' τ'' => get_app (get_app (get_app (by rw [← hσ₁]; exact hpa _ _)))
    refine at_pl hC (hpi2 _ _ _) (hpa2 _ _ _) (.inl rfl) rfl (ni _) ?_
    refine bin_mulL (v := .int 0) get_last (by omega) (by omega) ?_
    rw [rowI_const]
    refine ⟨_, get_app (get_app get_mid), by simp; omega, ?_⟩
    dsimp only
    rw [List.append_assoc, List.append_assoc, set_mid, map_succ]
    have : cr σ.length i = (σ₁ ++ [AO.list ((List.range i).map fun y => .ref (cr σ.length y))] ++ rowsJ w i ++ [AO.list [AV.int 0]]).length := by simp [hl1, rowsJ_len, cr]; omega
    rw [this]
    simp [rowsJ]
  · rintro σ' rfl
    rw [rngItems_len]
    walk_at "wk"
    have hA : ∀ τ, (σ₁ ++ τ)[σ.length]? = some (.attrs (putA (Str.ofString "most") (AV.int m) (putA (Str.ofString "levels") (AV.int l) (putA (Str.ofString "plane") (AV.ref kp) [])))) := fun τ => get_app (by rw [← hσ₁]; exact get_mid)
    have hI : ∀ τ, (σ₁ ++ τ)[σ.length + 1]? = some (.inst 174 σ.length) := fun τ => get_app (by rw [← hσ₁]; exact len2)
    rw [List.append_assoc]
    refine ⟨_, _, _, _, rfl, hI _, hA _, (by show _ + 0 < 64; (repeat refine plA ?_); simp), sa _ (by rw [hC.k]; rfl), ?_⟩
    walk_at "wk"
    refine ex_setAttr ?_ rfl
    walk_at "wk"
    rw [← hσ₁, List.append_assoc, List.append_assoc σ, ← List.append_assoc, set_mid]
    refine ⟨_, _, _, _, rfl, by simp, get_mid, (by show _ + 0 < 64; (repeat refine plA ?_); simp), sa _ (by rw [hC.k]; rfl), ?_⟩
    rw [set_mid]
    walk_at "wk"
    refine ⟨.inl rfl, rfl, hK _ ?_ ?_ (fun k o e => by rw [List.append_assoc]; exact get_app e)⟩
    · have old : ∀ k o, σ[k]? = some o → ∀ τ, (σ ++ τ)[k]? = some o := fun k o e τ => get_app e
      refine ⟨hp.kept fun k o _ e => by rw [List.append_assoc]; exact get_app e, by simp, ?_, ?_, fun y hy => ?_⟩
      · have e2 : ∀ a c : AO, (σ ++ [a] ++ [c]).length = σ.length + 2 := by simp
        rw [get_mid, e2]; rfl
      · simp
      · rw [List.append_assoc, List.getElem?_append_right (by unfold cr; omega)]
        have : cr σ.length y - σ.length = (2 * y + 1) + 3 := by unfold cr; omega
        rw [this]
        simp only [List.singleton_append, List.cons_append, List.nil_append, List.getElem?_cons_succ]
        exact rowsJ_get hy
    · intro f
      refine (f.app (by intro o ho; rw [List.mem_singleton.mp ho]; rfl)).app ?_
      refine Flat.app (by intro o ho; rw [List.mem_singleton.mp ho]; rfl) ?_
      refine Flat.app (by intro o ho; rw [List.mem_singleton.mp ho]; simp [flatO, flatV]) rowsJ_flat
end

/-! VF8 -/
section
variable {C : Cx} {n : Nat} {env : Env} {ρ : Loc} {σ : List AO} {K : Kv}
variable {b kp dp r w h : Nat} {l m : Int} {M Cm : Nat → Nat → Int} {lost : Int}

noncomputable def allSt (w h : Nat) (l m : Int) (M : Nat → Nat → Int) : Nat → St2
  | 0 => (fun _ _ => 0, 0)
  | y + 1 => (rowSt w h l m M y (allSt w h l m M y) w).2
noncomputable def fnd (w h : Nat) (l m : Int) (M : Nat → Nat → Int) (y : Nat) : Nat → Int := (rowSt w h l m M y (allSt w h l m M y) w).1
theorem PlaneAt.weak {b' : Nat} (p : PlaneAt σ b kp dp r w h M) (hb : b ≤ b') : PlaneAt σ b' kp dp r w h M := by
  obtain ⟨rr, h1, h2⟩ := p.rows
  exact ⟨⟨by have := p.lt.1; omega, by have := p.lt.2.1; omega, by have := p.lt.2.2; omega⟩, p.inst, p.attrs, rr, h1, fun y hy => ⟨by have := (h2 y hy).1; omega, (h2 y hy).2⟩⟩
set_option maxHeartbeats 2000000 in
theorem ct_spread_plane (hC : CxOk C) (hl : 2 ≤ l) (hl' : l ≤ 4) (hm : 0 ≤ m) (hm' : m ≤ 255) (hlm : l ≤ m + 1) (hw : w ≤ 4096) (hh : h < 4096) (hp : PlaneAt σ σ.length kp dp r w h M) (hf : Flat σ)
    (hK : ∀ σ' k' d' r', Keeps σ σ' → Flat σ' → PlaneAt σ' σ'.length k' d' r' w h (fnd w h l m M) → K (.tup [.ref k', .int (allSt w h l m M h).2]) σ') :
    CallC C (n + 5) env ρ σ (.top (.ref 183)) [.ref kp, .int l, .int m] K := by
  refine call_fn (f := 183) (names := ["plane", "levels", "most"]) (by rw [hC.k]; rfl) (by rw [hC.k]; rfl) rfl (by decide +kernel) (by walk_at "args") (by decide +kernel) rfl rfl rfl ?_
  intro L cl
  dsimp only [bd16, sc16]
  have nt : ∀ k x, AV.ref k = .top x → handedIn x = true := fun _ _ q => by cases q
  have ni : ∀ k x, AV.int k = .top x → handedIn x = true := fun _ _ q => by cases q
  walk_at "wk"
  refine ct_check_levels hC hl hlm ?_
  refine ⟨.inl rfl, ?_⟩
  walk_at "wk"
  refine ct_Spreader hC hw hh hp fun σ₁ S₁ hf₁ hk₁ => ?_
  walk_at "evS"
  refine ex_assignComp ["y"] ?_ rfl (fun _ => rfl) rfl (by decide +kernel) rfl (by decide +kernel) rfl rfl
  walk_at "wk"
  refine ev_attr ?_ rfl
  walk_at "wk"
  have hpa1 : σ₁[dp]? = some (.attrs [bd "width" (.int w), bd "height" (.int h), bd "rows" (.ref r)]) := S₁.pl.attrs
  refine at_pl hC S₁.pl.inst hpa1 (.inr (.inl rfl)) rfl (ni _) ?_
  walk_at "wk"
  refine b_range1 ?_
  have hb2 := S₁.lenb
  refine ⟨_, _, .rng (m := h) (small_one (by omega) (by omega) (by omega) (by omega)) (rng_ok (by omega)), fun i σ' => ∃ fr : Nat → Nat, σ'[σ₁.length]? = some (.list ((List.range i).map fun y => .ref (fr y))) ∧ (∀ y, y < i → σ₁.length < fr y ∧ σ'[fr y]? = some (.list (iL (rowI w (fnd w h l m M y))))) ∧
      Sp σ' σ.length kp dp r l m w h M (allSt w h l m M i).1 (allSt w h l m M i).2 ∧ Flat σ' ∧ Keeps σ σ', ?_, trivial, fun _ _ _ => trivial, ?_, ?_⟩
  · exact ⟨fun _ => 0, get_last, fun y hy => by omega, S₁.app, (hf₁ hf).app (by intro o ho; rw [List.mem_singleton.mp ho]; rfl), hk₁.trans Keeps.app⟩
  · rintro L2 i v σ' hv ⟨fr, ha, hfr, hs, hf', hold⟩
    obtain ⟨hi, rfl⟩ := rngItems_get hv
    refine tgt_name ?_ (.inl rfl) rfl (by decide)
    refine ⟨csub_upd (by decide +kernel) csub_refl, ?_⟩
    refine ifs_nil ⟨fun q => (by cases q), fun _ => ?_⟩
    refine ev_meth (f := .ref 171) (by rw [hC.k]; rfl) ?_ (by walk_at "star") rfl
    walk_at "wk"
    refine ⟨meth_inst hs.inst hs.attrs rfl (by rw [hC.k]; rfl) (by rw [hC.k]; rfl) (by rw [hC.k]; rfl), ?_⟩
    walk_at "wk"
    rw [show (0 : Int) + (i : Int) * 1 = ((i : Nat) : Int) from by omega]
    refine ct_row hC hi hl hl' hm hm' hw hs hf' fun σ'' hk2 hs2 hf2 hrow => ?_
    have hla : σ₁.length < σ'.length := (List.getElem?_eq_some_iff.mp ha).1
    have ha2 := hk2.at ha (by omega) (fun y hy => by have := S₁.lencr hy; omega)
    refine ⟨_, ha2, by simp; omega, ?_⟩
    refine ⟨fun y => if y = i then σ'.length + 1 else fr y, ?_, fun y hy => ?_, hs2.setOther (by omega) (fun y hy => by have := S₁.lencr hy; omega), hf2.set (by simp [flatO, flatV]), fun k o e => ?_⟩
    · rw [List.getElem?_set_self (List.getElem?_eq_some_iff.mp ha2).1, map_succ]
      congr 3
      · apply List.map_congr_left
        intro y hy
        rw [List.mem_range] at hy
        dsimp only
        rw [if_neg (by omega)]
      · dsimp only
        rw [if_pos rfl]
    · dsimp only
      by_cases q : y = i
      · subst q
        rw [if_pos rfl]
        exact ⟨by omega, by rw [List.getElem?_set_ne (by omega)]; exact hrow⟩
      · rw [if_neg q]
        obtain ⟨q1, q2⟩ := hfr y (by omega)
        refine ⟨q1, ?_⟩
        rw [List.getElem?_set_ne (by omega)]
        exact hk2.at q2 (by omega) (fun y' hy' => by have := S₁.lencr hy'; omega)
    · have hk := (List.getElem?_eq_some_iff.mp e).1
      rw [List.getElem?_set_ne (by omega)]
      exact hk2.at (hold k o e) (by omega) (fun y hy => by unfold cr; omega)
  · rintro σ' ⟨fr, ha, hfr, hs, hf', hold⟩
    rw [rngItems_len] at ha hfr hs
    have hpa2 : σ'[dp]? = some (.attrs [bd "width" (.int w), bd "height" (.int h), bd "rows" (.ref r)]) := hs.pl.attrs
    walk_at "wk"
    refine ev_attr ?_ rfl
    walk_at "wk"
    refine at_pl hC hs.pl.inst hpa2 (.inl rfl) rfl (ni _) ?_
    walk_at "wk"
    refine ev_attr ?_ rfl
    walk_at "wk"
    refine at_pl hC hs.pl.inst hpa2 (.inr (.inl rfl)) rfl (ni _) ?_
    walk_at "wk"
    refine ct_Plane hC ?_
    walk_at "wk"
    refine ev_attr ?_ rfl
    walk_at "wk"
    have hsa : ∀ τ, (σ' ++ τ)[σ.length]? = some (.attrs [bd "plane" (.ref kp), bd "levels" (.int l), bd "most" (.int m), bd "carried" (.ref (σ.length + 2)), bd "lost" (.int (allSt w h l m M h).2)]) := fun τ => get_app hs.attrs
    rw [List.append_assoc]
    refine at_sp hC (get_app hs.inst) (hsa _) (.inr (.inr (.inr (.inr rfl)))) rfl (ni _) ?_
    walk_at "wk"
    refine ⟨by simp, .inr ⟨_, rfl⟩, hK _ _ σ'.length σ₁.length ?_ ?_ ?_⟩
    · exact hold.trans Keeps.app
    · exact hf'.app (by intro o ho; rcases List.mem_append.mp ho with ho | ho <;> (rw [List.mem_singleton.mp ho]; simp [flatO, flatV]))
    · have hla : σ₁.length < σ'.length := (List.getElem?_eq_some_iff.mp ha).1
      refine ⟨⟨by simp, by simp, by simp; omega⟩, by simp, by simp [plane], fr, get_app ha, fun y hy => ?_⟩
      obtain ⟨q1, q2⟩ := hfr y hy
      have := (List.getElem?_eq_some_iff.mp q2).1
      exact ⟨by simp; omega, get_app q2⟩
end

/-! VF9 -/
section
variable {C : Cx} {n : Nat} {env : Env} {ρ : Loc} {σ : List AO} {K : Kv}
variable {b kp dp r w h : Nat} {l m : Int} {M Cm : Nat → Nat → Int} {lost : Int}

theorem iL_get {ns : List Int} {i : Nat} {a : Int} (h : ns[i]? = some a) : (iL ns)[i]? = some (.int a) := by simp [iL, h]
theorem iL_len {ns : List Int} : (iL ns).length = ns.length := by simp [iL]
theorem iL_snoc {ns : List Int} {a : Int} : iL ns ++ [.int a] = iL (ns ++ [a]) := by simp [iL]

theorem compC_ints {scope : Scope} {names : List PySem.Str} {target elt : Expr} {it : AV} {items : List AV} {Kp : List AO → Prop} {vals : List Int} {D : List AO → Prop} (ok : IterOk it items Kp) (hk0 : Kp σ) (hk : ∀ i, Kp (σ ++ [.list (iL (vals.take i))])) (hlen : items.length = vals.length) (hn : vals.length ≤ 4096)
    (step : ∀ L i v a, items[i]? = some v → vals[i]? = some a → TgtN C n (compEnv2 scope L env) names target v (cLoc scope ρ) (σ ++ [.list (iL (vals.take i))]) fun ρ₁ σ₁ => (∀ x v, cLoc scope ρ x = some v → ρ₁ x = some v) ∧ σ₁ = σ ++ [.list (iL (vals.take i))] ∧
      EvC C n (compEnv2 scope L env) ρ₁ σ₁ elt fun v σ₃ => σ₃ = σ₁ ∧ v = .int a)
    (h : D (σ ++ [.list (iL vals)])) : CompC C n env ρ σ scope names target elt [] it D := by
  refine ⟨items, Kp, ok, fun i σ' => i ≤ vals.length ∧ σ' = σ ++ [.list (iL (vals.take i))], ⟨Nat.zero_le _, rfl⟩, hk0, ?_, ?_, ?_⟩
  · rintro i σ' ⟨_, rfl⟩; exact hk i
  · rintro L i v σ' hv ⟨hi, rfl⟩
    have hlt : i < vals.length := by rw [← hlen]; exact (List.getElem?_eq_some_iff.mp hv).1
    intro A φ s Q E v' hA R F V P
    refine step L i v vals[i] hv (List.getElem?_eq_getElem hlt) A φ s Q E v' hA R F V ?_
    rintro φ₁ ρ₁ σ₁ s₁ ⟨hs, rfl, hev⟩ S F
    refine P φ₁ ρ₁ _ s₁ ⟨hs, ifs_nil ⟨fun q => (by cases q), fun _ => ?_⟩⟩ S F
    refine TrC.mono hev ?_
    rintro v σ₃ ⟨rfl, rfl⟩
    refine ⟨_, get_last, by rw [iL_len, List.length_take]; omega, hlt, ?_⟩
    rw [set_last, iL_snoc]
    congr 4
    rw [List.take_add_one, List.getElem?_eq_getElem hlt]; rfl
  · rintro σ' ⟨_, rfl⟩
    rw [hlen, List.take_length]
    exact h

/-- rows made one by one -/
noncomputable def RowsOk (σ σ' : List AO) (h : Nat) (rows : Nat → List Int) : Prop := Keeps σ σ' ∧ (Flat σ → Flat σ') ∧ ∃ fr : Nat → Nat, σ'[σ.length]? = some (.list ((List.range h).map fun y => .ref (fr y))) ∧ ∀ y, y < h → σ.length < fr y ∧ σ'[fr y]? = some (.list (iL (rows y)))
theorem compC_rows {scope : Scope} {names : List PySem.Str} {target elt : Expr} {it : AV} {items : List AV} {Kp : List AO → Prop} {h : Nat} {rows : Nat → List Int} {D : List AO → Prop} (ok : IterOk it items Kp) (hk : ∀ σ', Keeps σ σ' → Kp σ') (hlen : items.length = h) (hn : h ≤ 4096)
    (step : ∀ L i v σ', i < h → items[i]? = some v → Keeps σ σ' → TgtN C n (compEnv2 scope L env) names target v (cLoc scope ρ) σ' fun ρ₁ σ₁ => (∀ x v, cLoc scope ρ x = some v → ρ₁ x = some v) ∧ σ₁ = σ' ∧
      EvC C n (compEnv2 scope L env) ρ₁ σ₁ elt fun v σ₃ => Keeps σ₁ σ₃ ∧ (Flat σ₁ → Flat σ₃) ∧ ∃ k, v = .ref k ∧ σ₁.length ≤ k ∧ σ₃[k]? = some (.list (iL (rows i))))
    (hD : ∀ σ', RowsOk σ σ' h rows → D σ') : CompC C n env ρ σ scope names target elt [] it D := by
  refine ⟨items, Kp, ok, fun i σ' => i ≤ h ∧ RowsOk σ σ' i rows, ⟨Nat.zero_le _, Keeps.app, fun f => f.app (by intro o ho; rw [List.mem_singleton.mp ho]; rfl), fun _ => 0, get_last, fun y hy => by omega⟩, hk _ Keeps.refl, ?_, ?_, ?_⟩
  · rintro i σ' ⟨_, hr⟩; exact hk _ hr.1
  · rintro L i v σ' hv ⟨hi, hkk, hff, fr, ha, hfr⟩
    have hlt : i < h := by rw [← hlen]; exact (List.getElem?_eq_some_iff.mp hv).1
    intro A φ s Q E v' hA R F V P
    refine step L i v σ' hlt hv hkk A φ s Q E v' hA R F V ?_
    rintro φ₁ ρ₁ σ₁ s₁ ⟨hs, rfl, hev⟩ S F
    refine P φ₁ ρ₁ _ s₁ ⟨hs, ifs_nil ⟨fun q => (by cases q), fun _ => ?_⟩⟩ S F
    refine TrC.mono hev ?_
    rintro v σ₃ ⟨hk3, hf3, k, rfl, hkl, hrow⟩
    have ha3 := hk3 _ _ ha
    have hla : σ.length < σ₁.length := (List.getElem?_eq_some_iff.mp ha).1
    refine ⟨_, ha3, by simp; omega, hlt, fun j o e => ?_, fun f => (hf3 (hff f)).set (by simp [flatO, flatV]), fun y => if y = i then k else fr y, ?_, fun y hy => ?_⟩
    · have := (List.getElem?_eq_some_iff.mp e).1
      rw [List.getElem?_set_ne (by omega)]
      exact hk3 _ _ (hkk _ _ e)
    · rw [List.getElem?_set_self (List.getElem?_eq_some_iff.mp ha3).1, map_succ]
      congr 3
      · apply List.map_congr_left
        intro y hy
        rw [List.mem_range] at hy
        dsimp only
        rw [if_neg (by omega)]
      · dsimp only
        rw [if_pos rfl]
    · dsimp only
      by_cases q : y = i
      · subst q
        rw [if_pos rfl]
        exact ⟨by omega, by rw [List.getElem?_set_ne (by omega)]; exact hrow⟩
      · rw [if_neg q]
        obtain ⟨q1, q2⟩ := hfr y (by omega)
        refine ⟨q1, ?_⟩
        rw [List.getElem?_set_ne (by omega)]
        exact hk3 _ _ q2
  · rintro σ' ⟨_, hr⟩
    rw [hlen] at hr
    exact hD σ' hr
theorem RowsOk.plane {σ' : List AO} {rows : Nat → Nat → Int} (R : RowsOk σ σ' h fun y => rowI w (rows y)) : PlaneAt (σ' ++ [AO.attrs [bd "width" (.int w), bd "height" (.int h), bd "rows" (.ref σ.length)]] ++ [AO.inst 84 σ'.length]) (σ' ++ [AO.attrs [bd "width" (.int w), bd "height" (.int h), bd "rows" (.ref σ.length)]] ++ [AO.inst 84 σ'.length]).length (σ'.length + 1) σ'.length σ.length w h rows := by
  obtain ⟨_, _, fr, ha, hfr⟩ := R
  have hla : σ.length < σ'.length := (List.getElem?_eq_some_iff.mp ha).1
  refine ⟨⟨by simp, by simp, by simp; omega⟩, by simp, by simp [Mine.plane], fr, get_app (get_app ha), fun y hy => ?_⟩
  obtain ⟨q1, q2⟩ := hfr y hy
  have := (List.getElem?_eq_some_iff.mp q2).1
  exact ⟨by simp; omega, get_app (get_app q2)⟩

noncomputable def valsL (l m : Int) : List Int := (List.range l.toNat).map fun (i : Nat) => lv (i : Int) l m
theorem valsL_get {i : Nat} (h : i < l.toNat) : (valsL l m)[i]? = some (lv (i : Int) l m) := by simp [valsL, h]
theorem valsL_len : (valsL l m).length = l.toNat := by simp [valsL]

set_option maxHeartbeats 2000000 in
theorem ct_shown_levels (hC : CxOk C) (hl : 2 ≤ l) (hl' : l ≤ 4) (hm : 0 ≤ m) (hm' : m ≤ 255) (hw : w ≤ 4096) (hh : h < 4096) (hp : PlaneAt σ b kp dp r w h M) (hM : ∀ y x, y < h → x < w → 0 ≤ M y x ∧ M y x < l)
    (hK : ∀ σ' k' d' r', Keeps σ σ' → (Flat σ → Flat σ') → PlaneAt σ' σ'.length k' d' r' w h (fun y x => lv (M y x) l m) → K (.ref k') σ') :
    CallC C (n + 3) env ρ σ (.top (.ref 188)) [.ref kp, .int l, .int m] K := by
  refine call_fn (f := 188) (names := ["plane", "levels", "most"]) (by rw [hC.k]; rfl) (by rw [hC.k]; rfl) rfl (by decide +kernel) (by walk_at "args") (by decide +kernel) rfl rfl rfl ?_
  intro L cl
  dsimp only [bd17, sc17]
  have nt : ∀ k x, AV.ref k = .top x → handedIn x = true := fun _ _ q => by cases q
  have ni : ∀ k x, AV.int k = .top x → handedIn x = true := fun _ _ q => by cases q
  obtain ⟨rr, hr1, hr2⟩ := hp.rows
  walk_at "evS"
  walk_at "evS"
  refine ev_comp ["index"] ?_ (fun _ => rfl) rfl (by decide +kernel) rfl (by decide +kernel)
  walk_at "wk"
  refine b_range1 ?_
  refine compC_ints (.rng (m := l.toNat) (small_one (by omega) (by omega) (by omega) (by omega)) (rng_ok (by omega))) trivial (fun _ => trivial) (vals := valsL l m) (by rw [rngItems_len, valsL_len]) (by rw [valsL_len]; omega) ?_ ?_
  · intro L i v a hv ha
    obtain ⟨hi, rfl⟩ := rngItems_get hv
    rw [valsL_get hi] at ha; cases ha
    refine tgt_name ?_ (.inl rfl) rfl (by decide)
    refine ⟨csub_upd (by decide +kernel) csub_refl, rfl, ?_⟩
    walk_at "wk"
    refine ct_level_value hC hl hl' hm hm' ?_
    refine ⟨rfl, ?_⟩
    congr 2
    omega
  have hpi : ∀ τ, (σ ++ τ)[kp]? = some (.inst 84 dp) := fun τ => get_app hp.inst
  have hpa : ∀ τ, (σ ++ τ)[dp]? = some (.attrs [bd "width" (.int w), bd "height" (.int h), bd "rows" (.ref r)]) := fun τ => get_app hp.attrs
  walk_at "wk"
  refine ev_attr ?_ rfl
  walk_at "wk"
  refine at_pl hC (hpi _) (hpa _) (.inl rfl) rfl (ni _) ?_
  walk_at "wk"
  refine ev_attr ?_ rfl
  walk_at "wk"
  refine at_pl hC (hpi _) (hpa _) (.inr (.inl rfl)) rfl (ni _) ?_
  refine vs_cons ?_ rfl
  refine ev_comp ["row"] ?_ (fun _ => rfl) rfl (by decide +kernel) rfl (by decide +kernel)
  refine ev_attr ?_ rfl
  walk_at "wk"
  refine at_pl hC (hpi _) (hpa _) (.inr (.inr rfl)) rfl (nt _) ?_
  refine compC_rows (h := h) (rows := fun y => rowI w fun x => lv (M y x) l m) .list (fun σ' hk => hk _ _ (get_app hr1)) (by simp) (by omega) ?_ ?_
  · intro L i v σ' hi hv hk
    obtain ⟨_, rfl⟩ := map_get hv
    refine tgt_name ?_ (.inl rfl) rfl (by decide)
    refine ⟨csub_upd (by decide +kernel) csub_refl, rfl, ?_⟩
    refine ev_comp ["index"] ?_ (fun _ => rfl) rfl (by decide +kernel) rfl (by decide +kernel)
    walk_at "wk"
    have hrow := hk _ _ (get_app (τ := [.list (iL (valsL l m))]) (hr2 i hi).2)
    have hvals := hk _ _ (get_last (σ := σ) (a := AO.list (iL (valsL l m))))
    refine compC_ints .list hrow (fun _ => get_app hrow) (vals := rowI w fun x => lv (M i x) l m) (by simp [iL, rowI]) (by rw [rowI_len]; exact hw) ?_ ?_
    · intro L j v a hv ha
      have hj : j < w := by have := (List.getElem?_eq_some_iff.mp ha).1; rwa [rowI_len] at this
      rw [rowI_get hj] at hv; cases hv
      have ha' : a = lv (M i j) l m := by
        have : (rowI w fun x => lv (M i x) l m)[j]? = some (lv (M i j) l m) := by simp [rowI, hj]
        rw [this] at ha; exact (Option.some.inj ha).symm
      subst ha'
      obtain ⟨m0, m1⟩ := hM i j hi hj
      refine tgt_name ?_ (.inl rfl) rfl (by decide)
      refine ⟨csub_upd (by decide +kernel) csub_refl, rfl, ?_⟩
      walk_at "wk"
      refine sub_list (get_app hvals) m0 (iL_get (valsL_get (by omega))) ?_ ps_name
      refine ⟨rfl, ?_⟩
      congr 2
      omega
    · exact ⟨Keeps.app, fun f => f.app (by intro o ho; rw [List.mem_singleton.mp ho]; exact flat_iL _), _, rfl, Nat.le_refl _, get_last⟩
  · intro σ' R
    walk_at "wk"
    refine ct_Plane hC ?_
    refine ⟨.inr ⟨_, rfl⟩, hK _ _ _ _ ((Keeps.app.trans R.1).trans (Keeps.app.trans Keeps.app)) (fun f => ?_) R.plane⟩
    exact ((R.2.1 (f.app (by intro o ho; rw [List.mem_singleton.mp ho]; exact flat_iL _))).app (by intro o ho; rw [List.mem_singleton.mp ho]; rfl)).app (by intro o ho; rw [List.mem_singleton.mp ho]; rfl)
end

/-! VF10 -/
section
variable {C : Cx} {n : Nat} {env : Env} {ρ : Loc} {σ : List AO} {K : Kv}
variable {b kp dp r w h : Nat} {l m : Int} {M Cm : Nat → Nat → Int} {lost : Int}

theorem RowsOk.snoc {σ₁ σ₃ : List AO} {i k : Nat} {rows : Nat → List Int} (R : RowsOk σ σ₁ i rows) (hk3 : Keeps σ₁ σ₃) (hf3 : Flat σ₁ → Flat σ₃) (hkl : σ₁.length ≤ k) (hrow : σ₃[k]? = some (.list (iL (rows i)))) :
    ∃ vs, σ₃[σ.length]? = some (.list vs) ∧ vs.length = i ∧ RowsOk σ (σ₃.set σ.length (.list (vs ++ [.ref k]))) (i + 1) rows := by
  obtain ⟨hkk, hff, fr, ha, hfr⟩ := R
  have ha3 := hk3 _ _ ha
  have hla : σ.length < σ₁.length := (List.getElem?_eq_some_iff.mp ha).1
  refine ⟨_, ha3, by simp, fun j o e => ?_, fun f => (hf3 (hff f)).set (by simp [flatO, flatV]), fun y => if y = i then k else fr y, ?_, fun y hy => ?_⟩
  · have := (List.getElem?_eq_some_iff.mp e).1
    rw [List.getElem?_set_ne (by omega)]
    exact hk3 _ _ (hkk _ _ e)
  · rw [List.getElem?_set_self (List.getElem?_eq_some_iff.mp ha3).1, map_succ]
    congr 3
    · apply List.map_congr_left
      intro y hy
      rw [List.mem_range] at hy
      dsimp only
      rw [if_neg (by omega)]
    · dsimp only
      rw [if_pos rfl]
  · dsimp only
    by_cases q : y = i
    · subst q
      rw [if_pos rfl]
      exact ⟨by omega, by rw [List.getElem?_set_ne (by omega)]; exact hrow⟩
    · rw [if_neg q]
      obtain ⟨q1, q2⟩ := hfr y (by omega)
      refine ⟨q1, ?_⟩
      rw [List.getElem?_set_ne (by omega)]
      exact hk3 _ _ q2
theorem RowsOk.new {rows : Nat → List Int} : RowsOk σ (σ ++ [.list []]) 0 rows := ⟨Keeps.app, fun f => f.app (by intro o ho; rw [List.mem_singleton.mp ho]; rfl), fun _ => 0, get_last, fun y hy => by omega⟩

/-- a list of rows -/
noncomputable def RowsIn (σ : List AO) (f N : Nat) (rows : Nat → List Int) : Prop := ∃ ff : Nat → Nat, σ[f]? = some (.list ((List.range N).map fun y => .ref (ff y))) ∧ ∀ y, y < N → σ[ff y]? = some (.list (iL (rows y)))
theorem RowsIn.keep {σ' : List AO} {f N : Nat} {rows : Nat → List Int} (R : RowsIn σ f N rows) (hk : Keeps σ σ') : RowsIn σ' f N rows := by
  obtain ⟨ff, h1, h2⟩ := R
  exact ⟨ff, hk _ _ h1, fun y hy => hk _ _ (h2 y hy)⟩
theorem RowsOk.rowsIn {σ' : List AO} {N : Nat} {rows : Nat → List Int} (R : RowsOk σ σ' N rows) : RowsIn σ' σ.length N rows := by
  obtain ⟨_, _, fr, h1, h2⟩ := R
  exact ⟨fr, h1, fun y hy => (h2 y hy).2⟩

/-! the thresholds -/
noncomputable def two (r : List Int) (u v : Int) : List Int := r.map (4 * · + u) ++ r.map (4 * · + v)
noncomputable def thrRow : Nat → Nat → List Int
  | 0, _ => [0]
  | k + 1, y => if y < 2 ^ k then two (thrRow k y) 0 2 else two (thrRow k (y - 2 ^ k)) 3 1
theorem thrRow_len : ∀ k y, (thrRow k y).length = 2 ^ k
  | 0, _ => rfl
  | k + 1, y => by
    unfold thrRow two
    split <;> simp [thrRow_len k] <;> omega
noncomputable def uu : Nat → Int
  | 0 => 0
  | _ => 3
noncomputable def ll : Nat → Int
  | 0 => 2
  | _ => 1
theorem pw {k : Nat} (h : k ≤ 2) : 2 ^ k ≤ 4 ∧ 1 ≤ 2 ^ k := by
  have : k = 0 ∨ k = 1 ∨ k = 2 := by omega
  rcases this with rfl | rfl | rfl <;> decide

set_option maxHeartbeats 2000000 in
theorem ct_thresholds (hC : CxOk C) {k : Nat} (hk2 : k ≤ 2) (hK : ∀ σ' q, Keeps σ σ' → (Flat σ → Flat σ') → RowsIn σ' q (2 ^ k) (thrRow k) → K (.ref q) σ') :
    CallC C (n + 1) env ρ σ (.top (.ref 119)) [.int ((2 ^ k : Nat) : Int)] K := by
  refine call_fn (f := 119) (names := ["side"]) (by rw [hC.k]; rfl) (by rw [hC.k]; rfl) rfl (by decide +kernel) (by walk_at "args") (by decide +kernel) rfl rfl rfl ?_
  intro L cl
  dsimp only [bd8, sc8]
  walk_at "wk"
  refine ⟨by simp, ?_⟩
  walk_at "wk"
  refine ⟨by simp, ?_⟩
  walk_at "wk"
  refine ex_while (fun cnt bs σ' => ∃ j f, j + cnt = k ∧ bs = [bd "side" (.int ((2 ^ k : Nat) : Int)), bd "found" (.ref f)] ∧ Keeps σ σ' ∧ (Flat σ → Flat σ') ∧ RowsIn σ' f (2 ^ j) (thrRow j)) (n₀ := k) (bs₀ := _) (.cons rfl (.cons rfl .nil))
    ⟨0, _, by omega, rfl, Keeps.app.trans Keeps.app, fun f => (f.app (by intro o ho; rw [List.mem_singleton.mp ho]; rfl)).app (by intro o ho; rw [List.mem_singleton.mp ho]; rfl), fun _ => σ.length, by simp, fun y hy => get_app get_last⟩ ?_
  rintro cnt bs σ₁ ⟨j, f, hj, rfl, hkk, hff, hR⟩
  have hpj := pw (k := j) (by omega)
  have hpk := pw hk2
  obtain ⟨ff, hf1, hf2⟩ := hR
  walk_at "wk"
  refine b_len hf1 ?_
  rw [List.length_map, List.length_range]
  walk_at "wk"
  refine ⟨fun ht => ?_, fun ht => ?_⟩
  · have hlt : 2 ^ j < 2 ^ k := by have := of_decide_eq_true ht; exact Int.ofNat_lt.mp this
    have hjk : j < k := by
      rcases Nat.lt_or_ge j k with q | q
      · exact q
      · exact absurd (Nat.pow_le_pow_right (by decide) q) (Nat.not_le.mpr hlt)
    have hpj1 := pw (k := j + 1) (by omega)
    walk_at "wk"
    refine ⟨by simp, ?_⟩
    walk_at "wk"
    refine ex_forB ["upper", "lower"] ?_ (fun _ => rfl)
    walk_at "wk"
    refine ⟨by simp, ?_⟩
    walk_at "wk"
    refine ⟨by simp, ?_⟩
    walk_at "wk"
    refine ⟨by simp, ?_⟩
    refine ⟨_, _, .tup, fun i bs σ' => bs = [bd "side" (.int ((2 ^ k : Nat) : Int)), bd "found" (.ref f), bd "rows" (.ref σ₁.length)] ∧ RowsOk σ₁ σ' (i * 2 ^ j) (thrRow (j + 1)), ⟨_, .cons rfl (.cons rfl (.cons rfl .nil)), rfl, by rw [Nat.zero_mul]; exact RowsOk.new⟩, fun _ _ _ _ => trivial, ?_, ?_⟩
    · rintro i v bs σ₂ hv ⟨rfl, hok⟩
      have key : v = .tup [.int (uu i), .int (ll i)] ∧ i < 2 := by
        match i, hv with
        | 0, hv => cases hv; exact ⟨rfl, by decide⟩
        | 1, hv => cases hv; exact ⟨rfl, by decide⟩
      obtain ⟨rfl, hi2⟩ := key
      refine tgt_tup ?_ rfl rfl
      refine tgts_cons (tgt_name ?_ (.inr rfl) rfl (by decide))
      refine tgts_cons (tgt_name ?_ (.inr rfl) rfl (by decide))
      refine tgts_nil ?_
      walk_at "wk"
      refine ex_forB ["row"] ?_ (fun _ => rfl)
      walk_at "wk"
      refine ⟨_, _, .list, fun c bs σ' => bs = [bd "side" (.int ((2 ^ k : Nat) : Int)), bd "found" (.ref f), bd "rows" (.ref σ₁.length), bd "upper" (.int (uu i)), bd "lower" (.int (ll i))] ∧ RowsOk σ₁ σ' (i * 2 ^ j + c) (thrRow (j + 1)), ⟨_, .cons rfl (.cons rfl (.cons rfl (.cons rfl (.cons rfl .nil)))), rfl, hok⟩, fun c bs σ' ⟨_, hok'⟩ => hok'.1 _ _ hf1, ?_, ?_⟩
      · rintro c v bs σ₃ hv ⟨rfl, hok'⟩
        obtain ⟨hc, rfl⟩ := map_get hv
        have hrow := hok'.1 _ _ (hf2 c hc)
        have hlen := thrRow_len j c
        have hu1 : -10 ≤ uu i ∧ uu i ≤ 10 := by unfold uu; split <;> decide
        have hl1 : -10 ≤ ll i ∧ ll i ≤ 10 := by unfold ll; split <;> decide
        have hnew : thrRow (j + 1) (i * 2 ^ j + c) = two (thrRow j c) (uu i) (ll i) := by
          have : i = 0 ∨ i = 1 := by omega
          rcases this with rfl | rfl
          · show (if 0 * 2 ^ j + c < 2 ^ j then _ else _) = _
            rw [if_pos (by omega), Nat.zero_mul, Nat.zero_add]; rfl
          · show (if 1 * 2 ^ j + c < 2 ^ j then _ else _) = _
            rw [if_neg (by omega)]
            have : 1 * 2 ^ j + c - 2 ^ j = c := by omega
            rw [this]; rfl
        refine tgt_name ?_ (.inl rfl) rfl (by decide)
        walk_at "wk"
        refine ev_append ?_ rfl rfl
        obtain ⟨_, _, fr, har, _⟩ := id hok'
        walk_at "wk"
        refine ⟨_, rfl, ⟨_, har⟩, ?_⟩
        refine ev_bin ?_
        refine ev_comp ["one"] ?_ (fun _ => rfl) rfl (by decide +kernel) rfl (by decide +kernel)
        walk_at "wk"
        refine compC_ints .list hrow (fun _ => get_app hrow) (vals := (thrRow j c).map (4 * · + uu i)) (by simp [iL]) (by simp [hlen]; omega) ?_ ?_
        · intro L t v a hv ha
          have ht : t < (thrRow j c).length := by have := (List.getElem?_eq_some_iff.mp ha).1; simpa using this
          rw [List.getElem?_map, List.getElem?_eq_getElem ht] at ha
          have hv' : v = .int (thrRow j c)[t] := by
            have := iL_get (List.getElem?_eq_getElem ht)
            rw [this] at hv; exact (Option.some.inj hv).symm
          cases ha
          subst hv'
          refine tgt_name ?_ (.inl rfl) rfl (by decide)
          refine ⟨csub_upd (by decide +kernel) csub_refl, rfl, ?_⟩
          walk_at "wk"
          exact ⟨rfl, rfl⟩
        refine ev_comp ["one"] ?_ (fun _ => rfl) rfl (by decide +kernel) rfl (by decide +kernel)
        walk_at "wk"
        refine compC_ints .list (get_app hrow) (fun _ => get_app (get_app hrow)) (vals := (thrRow j c).map (4 * · + ll i)) (by simp [iL]) (by simp [hlen]; omega) ?_ ?_
        · intro L t v a hv ha
          have ht : t < (thrRow j c).length := by have := (List.getElem?_eq_some_iff.mp ha).1; simpa using this
          rw [List.getElem?_map, List.getElem?_eq_getElem ht] at ha
          have hv' : v = .int (thrRow j c)[t] := by
            have := iL_get (List.getElem?_eq_getElem ht)
            rw [this] at hv; exact (Option.some.inj hv).symm
          cases ha
          subst hv'
          refine tgt_name ?_ (.inl rfl) rfl (by decide)
          refine ⟨csub_upd (by decide +kernel) csub_refl, rfl, ?_⟩
          walk_at "wk"
          exact ⟨rfl, rfl⟩
        refine bin_addL (get_app get_last) get_last (by simp [iL, hlen]; omega) ?_
        have hcat : iL ((thrRow j c).map (4 * · + uu i)) ++ iL ((thrRow j c).map (4 * · + ll i)) = iL (thrRow (j + 1) (i * 2 ^ j + c)) := by rw [hnew]; simp [iL, two]
        rw [hcat]
        obtain ⟨vs, hv1, hv2, hok2⟩ := hok'.snoc (σ₃ := σ₃ ++ [.list (iL ((thrRow j c).map (4 * · + uu i)))] ++ [.list (iL ((thrRow j c).map (4 * · + ll i)))] ++ [.list (iL (thrRow (j + 1) (i * 2 ^ j + c)))]) (k := (σ₃ ++ [AO.list (iL ((thrRow j c).map (4 * · + uu i)))] ++ [AO.list (iL ((thrRow j c).map (4 * · + ll i)))]).length) ((Keeps.app.trans Keeps.app).trans Keeps.app)
          (fun f => ((f.app (by intro o ho; rw [List.mem_singleton.mp ho]; exact flat_iL _)).app (by intro o ho; rw [List.mem_singleton.mp ho]; exact flat_iL _)).app (by intro o ho; rw [List.mem_singleton.mp ho]; exact flat_iL _)) (by simp) get_last
        have hi1 : i * 2 ^ j ≤ 4 := by
          have : i = 0 ∨ i = 1 := by omega
          rcases this with rfl | rfl <;> omega
        refine ⟨vs, hv1, by omega, .inl rfl, ?_⟩
        walk_at "wk"
        exact ⟨_, .cons rfl (.cons rfl (.cons rfl (.cons rfl (.cons rfl .nil)))), rfl, hok2⟩
      · rintro bs σ₃ ⟨rfl, hok'⟩ ρ' hb
        rw [List.length_map, List.length_range] at hok'
        walk_at "wk"
        refine ⟨_, .cons (hb (bd "side" _) (by simp)) (.cons (hb (bd "found" _) (by simp)) (.cons (hb (bd "rows" _) (by simp)) .nil)), rfl, ?_⟩
        rw [Nat.add_mul, Nat.one_mul]; exact hok'
    · rintro bs σ₂ ⟨rfl, hok⟩ ρ' hb
      refine ex_weaken (ρ' := locs [bd "side" (.int ((2 ^ k : Nat) : Int)), bd "found" (.ref f), bd "rows" (.ref σ₁.length)]) hb.sub ?_
      walk_at "wk"
      refine ⟨rfl, cnt - 1, _, by omega, .cons rfl (.cons rfl .nil), j + 1, _, by omega, rfl, hkk.trans hok.1, fun f => hok.2.1 (hff f), ?_⟩
      have : ([AV.tup [AV.int 0, AV.int 2], AV.tup [AV.int 3, AV.int 1]] : List AV).length * 2 ^ j = 2 ^ (j + 1) := by show 2 * 2 ^ j = _; rw [Nat.pow_succ]; omega
      rw [this] at hok
      exact hok.rowsIn
  · have hge : ¬ 2 ^ j < 2 ^ k := fun q => of_decide_eq_false ht (Int.ofNat_lt.mpr q)
    have hjk : j = k := by
      rcases Nat.lt_or_ge j k with q | q
      · exact absurd (Nat.pow_lt_pow_right (by decide) q) hge
      · omega
    subst hjk
    walk_at "wk"
    refine b_len hf1 ?_
    rw [List.length_map, List.length_range]
    walk_at "wk"
    refine ⟨fun q => ?_, fun _ => ?_⟩
    · simp at q
    walk_at "wk"
    exact ⟨.inr ⟨_, rfl⟩, hK _ _ hkk hff ⟨ff, hf1, hf2⟩⟩
end

/-! VF11 -/
section
variable {C : Cx} {n : Nat} {env : Env} {ρ : Loc} {σ : List AO} {K : Kv}
variable {b kp dp r w h : Nat} {l m : Int} {M Cm : Nat → Nat → Int} {lost : Int}

noncomputable def tab (a b : Nat) : Int := if a = 0 then (if b = 0 then 0 else 2) else (if b = 0 then 3 else 1)
noncomputable def numF : Nat → Nat → Nat → Int
  | 0, _, _ => 0
  | k + 1, x, y => 4 * numF k (x % 2 ^ k) (y % 2 ^ k) + tab (y / 2 ^ k) (x / 2 ^ k)
theorem fmod_nat (x p : Nat) : (x : Int).fmod (p : Int) = ((x % p : Nat) : Int) := by rw [Int.fmod_eq_emod_of_nonneg _ (by omega)]; rfl
theorem fdiv_nat (x p : Nat) : (x : Int).fdiv (p : Int) = ((x / p : Nat) : Int) := by rw [Int.fdiv_eq_ediv_of_nonneg _ (by omega)]; rfl

set_option maxHeartbeats 2000000 in
theorem ct_law_number (hC : CxOk C) (k : Nat) : ∀ {n : Nat} {env : Env} {ρ : Loc} {σ : List AO} {K : Kv} {x y : Nat}, k ≤ 2 → x < 2 ^ k → y < 2 ^ k → (∀ σ', Keeps σ σ' → (Flat σ → Flat σ') → K (.int (numF k x y)) σ') →
    CallC C (n + 1 + k) env ρ σ (.top (.ref 221)) [.int x, .int y, .int ((2 ^ k : Nat) : Int)] K := by
  induction k with
  | zero =>
    intro n env ρ σ K x y _ hx hy hK
    refine call_fn (f := 221) (names := ["x", "y", "side"]) (by rw [hC.k]; rfl) (by rw [hC.k]; rfl) rfl (by decide +kernel) (by walk_at "args") (by decide +kernel) rfl rfl rfl ?_
    intro L cl
    dsimp only [bd22, sc22]
    walk_at "wk"
    refine ⟨fun _ => ?_, fun q => by simp at q⟩
    walk_at "wk"
    exact ⟨.inr ⟨_, rfl⟩, hK _ Keeps.refl id⟩
  | succ k ih =>
    intro n env ρ σ K x y hk hx hy hK
    rw [show n + 1 + (k + 1) = (n + 1 + k) + 1 from by omega]
    have hp : 1 ≤ 2 ^ k ∧ 2 ^ k ≤ 4 := by have := pw (k := k) (by omega); omega
    have hs : 2 ^ (k + 1) = 2 * 2 ^ k := by rw [Nat.pow_succ]; omega
    refine call_fn (f := 221) (names := ["x", "y", "side"]) (by rw [hC.k]; rfl) (by rw [hC.k]; rfl) rfl (by decide +kernel) (by walk_at "args") (by decide +kernel) rfl rfl rfl ?_
    intro L cl
    dsimp only [bd22, sc22]
    walk_at "wk"
    refine ⟨fun q => ?_, fun _ => ?_⟩
    · have := eq_of_beq q
      omega
    walk_at "wk"
    have hhalf : (((2 ^ (k + 1) : Nat)) : Int).fdiv 2 = ((2 ^ k : Nat) : Int) := by
      rw [show (2 : Int) = ((2 : Nat) : Int) from rfl, fdiv_nat, hs]; congr 1; omega
    rw [hhalf]
    walk_at "wk"
    rw [fmod_nat, fmod_nat]
    have hxm := Nat.mod_lt x (show 2 ^ k > 0 by omega)
    have hym := Nat.mod_lt y (show 2 ^ k > 0 by omega)
    refine ih (by omega) hxm hym fun σ₁ hk1 hf1 => ?_
    walk_at "wk"
    refine ⟨by simp, ?_⟩
    walk_at "wk"
    refine ⟨by simp, ?_⟩
    walk_at "wk"
    refine ⟨by simp, ?_⟩
    walk_at "wk"
    rw [fdiv_nat]
    have hyd : y / 2 ^ k < 2 := by rw [Nat.div_lt_iff_lt_mul (by omega)]; omega
    have hxd : x / 2 ^ k < 2 := by rw [Nat.div_lt_iff_lt_mul (by omega)]; omega
    have hA : (σ₁ ++ [AO.list [AV.int 0, AV.int 2]] ++ [AO.list [AV.int 3, AV.int 1]] ++ [AO.list [AV.ref σ₁.length, AV.ref (σ₁ ++ [AO.list [AV.int 0, AV.int 2]]).length]])[σ₁.length]? = some (.list [.int 0, .int 2]) := by simp
    have hB : (σ₁ ++ [AO.list [AV.int 0, AV.int 2]] ++ [AO.list [AV.int 3, AV.int 1]] ++ [AO.list [AV.ref σ₁.length, AV.ref (σ₁ ++ [AO.list [AV.int 0, AV.int 2]]).length]])[(σ₁ ++ [AO.list [AV.int 0, AV.int 2]]).length]? = some (.list [.int 3, .int 1]) := by simp
    have fin : (∀ σ', σ' = σ₁ ++ [AO.list [AV.int 0, AV.int 2]] ++ [AO.list [AV.int 3, AV.int 1]] ++ [AO.list [AV.ref σ₁.length, AV.ref (σ₁ ++ [AO.list [AV.int 0, AV.int 2]]).length]] → K (.int (numF (k + 1) x y)) σ') := by
      rintro σ' rfl
      refine hK _ (((hk1.trans Keeps.app).trans Keeps.app).trans Keeps.app) fun f => ((hf1 f).app ?_ |>.app ?_).app ?_ <;> (intro o ho; rw [List.mem_singleton.mp ho]; rfl)
    have hnum : numF (k + 1) x y = 4 * numF k (x % 2 ^ k) (y % 2 ^ k) + tab (y / 2 ^ k) (x / 2 ^ k) := rfl
    have two01 : ∀ t : Nat, t < 2 → t = 0 ∨ t = 1 := by intro t; omega
    have cy : y / 2 ^ k = 0 ∨ y / 2 ^ k = 1 := two01 _ hyd
    have cx : x / 2 ^ k = 0 ∨ x / 2 ^ k = 1 := two01 _ hxd
    rcases cy with ey | ey
    · refine sub_list get_last (Int.natCast_nonneg _) (v := .ref σ₁.length) (by rw [ey]; rfl) ?_ ps_bin
      walk_at "wk"
      rw [fdiv_nat]
      rcases cx with ex | ex
      · refine sub_list hA (Int.natCast_nonneg _) (v := .int 0) (by rw [ex]; rfl) ?_ ps_bin
        walk_at "wk"
        refine ⟨.inr ⟨_, rfl⟩, ?_⟩
        have := fin _ rfl
        rw [hnum, ey, ex] at this
        exact this
      · refine sub_list hA (Int.natCast_nonneg _) (v := .int 2) (by rw [ex]; rfl) ?_ ps_bin
        walk_at "wk"
        refine ⟨.inr ⟨_, rfl⟩, ?_⟩
        have := fin _ rfl
        rw [hnum, ey, ex] at this
        exact this
    · refine sub_list get_last (Int.natCast_nonneg _) (v := .ref (σ₁ ++ [AO.list [AV.int 0, AV.int 2]]).length) (by rw [ey]; rfl) ?_ ps_bin
      walk_at "wk"
      rw [fdiv_nat]
      rcases cx with ex | ex
      · refine sub_list hB (Int.natCast_nonneg _) (v := .int 3) (by rw [ex]; rfl) ?_ ps_bin
        walk_at "wk"
        refine ⟨.inr ⟨_, rfl⟩, ?_⟩
        have := fin _ rfl
        rw [hnum, ey, ex] at this
        exact this
      · refine sub_list hB (Int.natCast_nonneg _) (v := .int 1) (by rw [ex]; rfl) ?_ ps_bin
        walk_at "wk"
        refine ⟨.inr ⟨_, rfl⟩, ?_⟩
        have := fin _ rfl
        rw [hnum, ey, ex] at this
        exact this
end

/-! VF12 -/
section
variable {C : Cx} {n : Nat} {env : Env} {ρ : Loc} {σ : List AO} {K : Kv}
variable {b kp dp r w h : Nat} {l m : Int} {M Cm : Nat → Nat → Int} {lost : Int}

noncomputable def thrv (k y x : Nat) : Int := (thrRow k y).getD x 0
theorem thrv_get {k y x : Nat} (hx : x < 2 ^ k) : (iL (thrRow k y))[x]? = some (.int (thrv k y x)) := by
  refine iL_get ?_
  have := thrRow_len k y
  rw [List.getElem?_eq_getElem (by omega)]
  unfold thrv
  rw [List.getD_eq_getElem?_getD, List.getElem?_eq_getElem (by omega)]; rfl
noncomputable def areaF (k : Nat) : Int := ((2 ^ k : Nat) : Int) * ((2 ^ k : Nat) : Int)
theorem areaF_b {k : Nat} (h : k ≤ 2) : 1 ≤ areaF k ∧ areaF k ≤ 16 := by
  have : k = 0 ∨ k = 1 ∨ k = 2 := by omega
  rcases this with rfl | rfl | rfl <;> decide
noncomputable def opF (k : Nat) (l m : Int) (M : Nat → Nat → Int) (y x : Nat) : Int := ol (M y x) (thrv k (y % 2 ^ k) (x % 2 ^ k)) (areaF k) l m

set_option maxHeartbeats 2000000 in
theorem ct_ordered_plane (hC : CxOk C) {k : Nat} (hk2 : k ≤ 2) (hl : 2 ≤ l) (hl' : l ≤ 4) (hm : 1 ≤ m) (hm' : m ≤ 255) (hlm : l ≤ m + 1) (hw : w ≤ 4096) (hh : h < 4096) (hp : PlaneAt σ b kp dp r w h M)
    (hK : ∀ σ' k' d' r', Keeps σ σ' → (Flat σ → Flat σ') → PlaneAt σ' σ'.length k' d' r' w h (opF k l m M) → K (.ref k') σ') :
    CallC C (n + 3) env ρ σ (.top (.ref 131)) [.ref kp, .int l, .int ((2 ^ k : Nat) : Int), .int m] K := by
  refine call_fn (f := 131) (names := ["plane", "levels", "side", "most"]) (by rw [hC.k]; rfl) (by rw [hC.k]; rfl) rfl (by decide +kernel) (by walk_at "args") (by decide +kernel) rfl rfl rfl ?_
  intro L cl
  dsimp only [bd10, sc10]
  have nt : ∀ k x, AV.ref k = .top x → handedIn x = true := fun _ _ q => by cases q
  have ni : ∀ k x, AV.int k = .top x → handedIn x = true := fun _ _ q => by cases q
  obtain ⟨rr, hr1, hr2⟩ := hp.rows
  have hpk := pw hk2
  have hab := areaF_b hk2
  walk_at "wk"
  refine ct_check_levels hC hl hlm ?_
  refine ⟨.inl rfl, ?_⟩
  walk_at "wk"
  refine ct_thresholds hC hk2 fun σ₁ q hk1 hf1 hsq => ?_
  walk_at "wk"
  refine ⟨by simp, ?_⟩
  walk_at "wk"
  refine ex_forB ["y"] ?_ (fun _ => rfl)
  walk_at "wk"
  refine ev_attr ?_ rfl
  walk_at "wk"
  have hpi : ∀ σ', Keeps σ₁ σ' → σ'[kp]? = some (.inst 84 dp) := fun σ' hk => hk _ _ (hk1 _ _ hp.inst)
  have hpa : ∀ σ', Keeps σ₁ σ' → σ'[dp]? = some (.attrs [bd "width" (.int w), bd "height" (.int h), bd "rows" (.ref r)]) := fun σ' hk => hk _ _ (hk1 _ _ hp.attrs)
  refine at_pl hC (hpi _ Keeps.app) (hpa _ Keeps.app) (.inr (.inl rfl)) rfl (ni _) ?_
  walk_at "wk"
  refine b_range1 ?_
  refine ⟨_, _, .rng (m := h) (small_one (by omega) (by omega) (by omega) (by omega)) (rng_ok (by omega)), fun i bs σ' => bs = [bd "plane" (.ref kp), bd "levels" (.int l), bd "side" (.int ((2 ^ k : Nat) : Int)), bd "most" (.int m), bd "square" (.ref q), bd "area" (.int (areaF k)), bd "rows" (.ref σ₁.length)] ∧ RowsOk σ₁ σ' i (fun y => rowI w (opF k l m M y)),
    ⟨_, .cons rfl (.cons rfl (.cons rfl (.cons rfl (.cons rfl (.cons rfl (.cons rfl .nil)))))), rfl, RowsOk.new⟩, fun _ _ _ _ => trivial, ?_, ?_⟩
  · rintro i v bs σ₂ hv ⟨rfl, hok⟩
    obtain ⟨hi, rfl⟩ := rngItems_get hv
    rw [show (0 : Int) + (i : Int) * 1 = ((i : Nat) : Int) from by omega]
    refine tgt_name ?_ (.inl rfl) rfl (by decide)
    have hkk := hok.1
    have hsq2 := hsq.keep hkk
    obtain ⟨ff, hs1, hs2⟩ := hsq2
    have hym := Nat.mod_lt i (show 2 ^ k > 0 by omega)
    walk_at "wk"
    rw [fmod_nat]
    refine sub_list hs1 (Int.natCast_nonneg _) (range_refI hym) ?_ ps_bin
    walk_at "wk"
    refine ev_attr ?_ rfl
    walk_at "wk"
    refine at_pl hC (hpi _ hkk) (hpa _ hkk) (.inr (.inr rfl)) rfl (nt _) ?_
    walk_at "wk"
    refine sub_list (hkk _ _ (hk1 _ _ hr1)) (by omega) (range_refI hi) ?_ ps_name
    walk_at "wk"
    refine ev_append ?_ rfl rfl
    obtain ⟨_, _, fr, har, _⟩ := id hok
    walk_at "wk"
    refine ⟨_, rfl, ⟨_, har⟩, ?_⟩
    refine ev_comp ["x"] ?_ (fun _ => rfl) rfl (by decide +kernel) rfl (by decide +kernel)
    walk_at "wk"
    refine ev_attr ?_ rfl
    walk_at "wk"
    refine at_pl hC (hpi _ hkk) (hpa _ hkk) (.inl rfl) rfl (ni _) ?_
    walk_at "wk"
    refine b_range1 ?_
    have hrowM := hkk _ _ (hk1 _ _ (hr2 i hi).2)
    have hline := hs2 _ hym
    refine compC_ints (.rng (m := w) (small_one (by omega) (by omega) (by omega) (by omega)) (rng_ok (by omega))) trivial (fun _ => trivial) (vals := rowI w (opF k l m M i)) (by rw [rngItems_len, rowI_len]) (by rw [rowI_len]; exact hw) ?_ ?_
    · intro L j v a hv ha
      obtain ⟨hj, rfl⟩ := rngItems_get hv
      have ha' : a = opF k l m M i j := by
        have : (rowI w (opF k l m M i))[j]? = some (opF k l m M i j) := by simp [rowI, hj]
        rw [this] at ha; exact (Option.some.inj ha).symm
      subst ha'
      rw [show (0 : Int) + (j : Int) * 1 = ((j : Nat) : Int) from by omega]
      have hxm := Nat.mod_lt j (show 2 ^ k > 0 by omega)
      refine tgt_name ?_ (.inl rfl) rfl (by decide)
      refine ⟨csub_upd (by decide +kernel) csub_refl, rfl, ?_⟩
      walk_at "wk"
      refine sub_list (get_app hrowM) (by omega) (rowI_getI hj) ?_ ps_name
      walk_at "wk"
      rw [fmod_nat]
      refine sub_list (get_app hline) (Int.natCast_nonneg _) (thrv_get hxm) ?_ ps_bin
      walk_at "wk"
      exact ct_ordered_level hC hl hl' hm hm' hab.1 hab.2 ⟨rfl, rfl⟩
    obtain ⟨vs, hv1, hv2, hok2⟩ := hok.snoc (σ₃ := σ₂ ++ [.list (iL (rowI w (opF k l m M i)))]) (k := σ₂.length) Keeps.app (fun f => f.app (by intro o ho; rw [List.mem_singleton.mp ho]; exact flat_iL _)) (Nat.le_refl _) get_last
    refine ⟨vs, hv1, by omega, .inl rfl, ?_⟩
    walk_at "wk"
    exact ⟨_, .cons rfl (.cons rfl (.cons rfl (.cons rfl (.cons rfl (.cons rfl (.cons rfl .nil)))))), rfl, hok2⟩
  · rintro bs σ₂ ⟨rfl, hok⟩ ρ' hb
    rw [rngItems_len] at hok
    have hkk := hok.1
    refine ex_weaken (ρ' := locs [bd "plane" (.ref kp), bd "levels" (.int l), bd "side" (.int ((2 ^ k : Nat) : Int)), bd "most" (.int m), bd "square" (.ref q), bd "area" (.int (areaF k)), bd "rows" (.ref σ₁.length)]) hb.sub ?_
    walk_at "wk"
    refine ev_attr ?_ rfl
    walk_at "wk"
    refine at_pl hC (hpi _ hkk) (hpa _ hkk) (.inl rfl) rfl (ni _) ?_
    walk_at "wk"
    refine ev_attr ?_ rfl
    walk_at "wk"
    refine at_pl hC (hpi _ hkk) (hpa _ hkk) (.inr (.inl rfl)) rfl (ni _) ?_
    walk_at "wk"
    refine ct_Plane hC ?_
    refine ⟨.inr ⟨_, rfl⟩, hK _ _ _ _ ((hk1.trans hok.1).trans (Keeps.app.trans Keeps.app)) (fun f => ?_) hok.plane⟩
    exact ((hok.2.1 (hf1 f)).app (by intro o ho; rw [List.mem_singleton.mp ho]; rfl)).app (by intro o ho; rw [List.mem_singleton.mp ho]; rfl)
end

/-! VF13 -/
section
variable {C : Cx} {n : Nat} {env : Env} {ρ : Loc} {σ : List AO} {K : Kv}
variable {b kp dp r w h : Nat} {l m : Int} {M Cm : Nat → Nat → Int} {lost : Int}

theorem thr_num : ∀ k, k ≤ 2 → ∀ x, x < 2 ^ k → ∀ y, y < 2 ^ k → thrv k y x = numF k x y := by decide
noncomputable def okM (m : Int) : Prop := m = 3 ∨ m = 15 ∨ m = 255
noncomputable def okL (l : Int) : Prop := l = 2 ∨ l = 3 ∨ l = 4
theorem lv_even (hm : okM m) (hl : okL l) : lv 0 l m = 0 ∧ lv (l - 1) l m = m ∧ ∀ i : Nat, i < l.toNat → ¬ ((if 2 * ((l - 1) * lv i l m - i * m) < 0 then -(2 * ((l - 1) * lv i l m - i * m)) else 2 * ((l - 1) * lv i l m - i * m)) > l - 1) := by
  rcases hm with rfl | rfl | rfl <;> rcases hl with rfl | rfl | rfl <;> decide

theorem flat1 {o : AO} (h : flatO o = true) : Flat [o] := by intro x hx; rw [List.mem_singleton.mp hx]; exact h
set_option maxHeartbeats 2000000 in
theorem ct_levels_right (hC : CxOk C) (hm : okM m) (hl : okL l) (hK : ∀ σ', Keeps σ σ' → (Flat σ → Flat σ') → K (.bool true) σ') :
    CallC C (n + 2) env ρ σ (.top (.ref 214)) [.int l, .int m] K := by
  have hev := lv_even hm hl
  have hl2 : 2 ≤ l ∧ l ≤ 4 := by rcases hl with rfl | rfl | rfl <;> decide
  have hm2 : 3 ≤ m ∧ m ≤ 255 := by rcases hm with rfl | rfl | rfl <;> decide
  refine call_fn (f := 214) (names := ["levels", "most"]) (by rw [hC.k]; rfl) (by rw [hC.k]; rfl) rfl (by decide +kernel) (by walk_at "args") (by decide +kernel) rfl rfl rfl ?_
  intro L cl
  dsimp only [bd21, sc21]
  walk_at "evS"
  walk_at "evS"
  refine ev_comp ["index"] ?_ (fun _ => rfl) rfl (by decide +kernel) rfl (by decide +kernel)
  walk_at "wk"
  refine b_range1 ?_
  refine compC_ints (.rng (m := l.toNat) (small_one (by omega) (by omega) (by omega) (by omega)) (rng_ok (by omega))) trivial (fun _ => trivial) (vals := valsL l m) (by rw [rngItems_len, valsL_len]) (by rw [valsL_len]; omega) ?_ ?_
  · intro L i v a hv ha
    obtain ⟨hi, rfl⟩ := rngItems_get hv
    rw [valsL_get hi] at ha; cases ha
    refine tgt_name ?_ (.inl rfl) rfl (by decide)
    refine ⟨csub_upd (by decide +kernel) csub_refl, rfl, ?_⟩
    walk_at "wk"
    refine ct_level_value hC (by omega) (by omega) (by omega) (by omega) ?_
    refine ⟨rfl, ?_⟩
    congr 2
    omega
  walk_at "wk"
  refine sub_list get_last (by omega) (v := .int (lv 0 l m)) (iL_get (valsL_get (i := 0) (by omega))) ?_ ps_const
  rw [hev.1]
  walk_at "wk"
  refine ⟨fun q => by simp at q, fun _ => ?_⟩
  walk_at "wk"
  refine ev_neg ?_
  walk_at "wk"
  refine ⟨_, rfl, ?_⟩
  refine sub_last (v := .int (lv (l - 1) l m)) get_last (by decide) (by rw [iL_len, valsL_len]; omega) ?_ ?_ ps_un
  · rw [iL_len, valsL_len, show ((-1 : Int) + (l.toNat : Int)).toNat = l.toNat - 1 from by omega, iL_get (valsL_get (i := l.toNat - 1) (by omega))]
    congr 3; omega
  rw [hev.2.1]
  walk_at "wk"
  refine ⟨fun q => by simp at q, fun _ => ?_⟩
  walk_at "wk"
  refine ev_comp ["index"] ?_ (fun _ => rfl) rfl (by decide +kernel) rfl (by decide +kernel)
  walk_at "wk"
  refine b_range1 ?_
  refine ⟨_, _, .rng (m := l.toNat) (small_one (by omega) (by omega) (by omega) (by omega)) (rng_ok (by omega)), fun i σ' => σ' = σ ++ [.list (iL (valsL l m))] ++ [.list []], rfl, trivial, fun _ _ _ => trivial, ?_, ?_⟩
  · rintro L2 i v σ' hv rfl
    obtain ⟨hi, rfl⟩ := rngItems_get hv
    rw [show (0 : Int) + (i : Int) * 1 = ((i : Nat) : Int) from by omega]
    refine tgt_name ?_ (.inl rfl) rfl (by decide)
    refine ⟨csub_upd (by decide +kernel) csub_refl, ?_⟩
    refine ifs_one ?_
    walk_at "wk"
    refine sub_list (get_app get_last) (by omega) (iL_get (valsL_get hi)) ?_ ps_name
    walk_at "wk"
    refine b_abs ?_
    walk_at "wk"
    exact ⟨fun _ => rfl, fun q => absurd (of_decide_eq_true q) (hev.2.2 i hi)⟩
  · rintro σ' rfl
    walk_at "wk"
    refine ⟨by simp, ?_⟩
    refine cmp_eqL (ns := []) (ms := []) (get_app get_last) get_last ?_
    exact ⟨.inr ⟨_, rfl⟩, hK _ ((Keeps.app.trans Keeps.app).trans Keeps.app) fun f => ((f.app (flat1 (flat_iL _))).app (flat1 rfl)).app (flat1 rfl)⟩

/-! the law's own reading of an ordered plane -/
theorem op_num {k y x : Nat} (hk : k ≤ 2) : opF k l m M y x = ol (M y x) (numF k (x % 2 ^ k) (y % 2 ^ k)) (areaF k) l m := by
  have hp := pw hk
  unfold opF
  rw [thr_num k hk _ (Nat.mod_lt _ (by omega)) _ (Nat.mod_lt _ (by omega))]
theorem rowI_take {w i : Nat} {f : Nat → Int} (hi : i < w) : (rowI w f).take (i + 1) = (rowI w f).take i ++ [f i] := by
  rw [List.take_add_one]
  congr 1
  simp [rowI, hi]
set_option maxHeartbeats 2000000 in
theorem ct_laid_right (hC : CxOk C) {k : Nat} (hk2 : k ≤ 2) (hl : 2 ≤ l) (hl' : l ≤ 4) (hm : 1 ≤ m) (hm' : m ≤ 255) (hlm : l ≤ m + 1) (hw : w ≤ 4095) (hh : h < 4096) (hp : PlaneAt σ b kp dp r w h M)
    (hK : ∀ σ', Keeps σ σ' → (Flat σ → Flat σ') → K (.bool true) σ') : CallC C (n + 4) env ρ σ (.top (.ref 228)) [.ref kp, .int ((2 ^ k : Nat) : Int), .int l, .int m] K := by
  refine call_fn (f := 228) (names := ["plane", "side", "levels", "most"]) (by rw [hC.k]; rfl) (by rw [hC.k]; rfl) rfl (by decide +kernel) (by walk_at "args") (by decide +kernel) rfl rfl rfl ?_
  intro L cl
  dsimp only [bd23, sc23]
  have nt : ∀ k x, AV.ref k = .top x → handedIn x = true := fun _ _ q => by cases q
  have ni : ∀ k x, AV.int k = .top x → handedIn x = true := fun _ _ q => by cases q
  obtain ⟨rr, hr1, hr2⟩ := hp.rows
  have hpk := pw hk2
  have hab := areaF_b hk2
  have h1 := ma_pos hm hab.1
  have h2 := ma_le hm' hab.2 (by omega) (by decide)
  walk_at "evS"
  refine ex_assignS (names := ["found", "area"]) ?_ rfl rfl (List.forall_mem_cons.mpr ⟨.inl rfl, List.forall_mem_cons.mpr ⟨.inl rfl, fun _ h => nomatch h⟩⟩) rfl
  walk_at "wk"
  refine ct_ordered_plane hC hk2 hl hl' hm hm' hlm (by omega) hh hp fun σ₁ kf df rf hk1 hf1 hpf => ?_
  walk_at "wk"
  refine ⟨by simp, _, rfl, rfl, ?_⟩
  obtain ⟨rr', hr1', hr2'⟩ := hpf.rows
  have hpi : ∀ σ', Keeps σ₁ σ' → σ'[kp]? = some (.inst 84 dp) := fun σ' hk => hk _ _ (hk1 _ _ hp.inst)
  have hpa : ∀ σ', Keeps σ₁ σ' → σ'[dp]? = some (.attrs [bd "width" (.int w), bd "height" (.int h), bd "rows" (.ref r)]) := fun σ' hk => hk _ _ (hk1 _ _ hp.attrs)
  have hfi : ∀ σ', Keeps σ₁ σ' → σ'[kf]? = some (.inst 84 df) := fun σ' hk => hk _ _ hpf.inst
  have hfa : ∀ σ', Keeps σ₁ σ' → σ'[df]? = some (.attrs [bd "width" (.int w), bd "height" (.int h), bd "rows" (.ref rf)]) := fun σ' hk => hk _ _ hpf.attrs
  walk_at "wk"
  refine ex_forB ["y"] ?_ (fun _ => rfl)
  walk_at "wk"
  refine ev_attr ?_ rfl
  walk_at "wk"
  refine at_pl hC (hpi _ Keeps.refl) (hpa _ Keeps.refl) (.inr (.inl rfl)) rfl (ni _) ?_
  walk_at "wk"
  refine b_range1 ?_
  refine ⟨_, _, .rng (m := h) (small_one (by omega) (by omega) (by omega) (by omega)) (rng_ok (by omega)), fun i bs σ' => bs = [bd "plane" (.ref kp), bd "side" (.int ((2 ^ k : Nat) : Int)), bd "levels" (.int l), bd "most" (.int m), bd "found" (.ref kf), bd "area" (.int (areaF k))] ∧ Keeps σ₁ σ' ∧ (Flat σ₁ → Flat σ'),
    ⟨_, .cons rfl (.cons rfl (.cons rfl (.cons rfl (.cons rfl (.cons rfl .nil))))), rfl, Keeps.refl, id⟩, fun _ _ _ _ => trivial, ?_, ?_⟩
  · rintro i v bs σ₂ hv ⟨rfl, hkk, hff⟩
    obtain ⟨hi, rfl⟩ := rngItems_get hv
    rw [show (0 : Int) + (i : Int) * 1 = ((i : Nat) : Int) from by omega]
    refine tgt_name ?_ (.inl rfl) rfl (by decide)
    have hym := Nat.mod_lt i (show 2 ^ k > 0 by omega)
    walk_at "wk"
    refine ⟨by simp, ?_⟩
    walk_at "wk"
    refine ex_forB ["x"] ?_ (fun _ => rfl)
    walk_at "wk"
    refine ev_attr ?_ rfl
    walk_at "wk"
    refine at_pl hC (hpi _ (hkk.trans Keeps.app)) (hpa _ (hkk.trans Keeps.app)) (.inl rfl) rfl (ni _) ?_
    walk_at "wk"
    refine b_range1 ?_
    refine ⟨_, _, .rng (m := w) (small_one (by omega) (by omega) (by omega) (by omega)) (rng_ok (by omega)), fun j bs σ' => j ≤ w ∧ bs = [bd "plane" (.ref kp), bd "side" (.int ((2 ^ k : Nat) : Int)), bd "levels" (.int l), bd "most" (.int m), bd "found" (.ref kf), bd "area" (.int (areaF k)), bd "y" (.int i), bd "due" (.ref σ₂.length)] ∧ Keeps σ₂ σ' ∧ (Flat σ₂ → Flat σ') ∧ σ'[σ₂.length]? = some (.list (iL ((rowI w (opF k l m M i)).take j))),
      ⟨_, .cons rfl (.cons rfl (.cons rfl (.cons rfl (.cons rfl (.cons rfl (.cons rfl (.cons rfl .nil))))))), Nat.zero_le _, rfl, Keeps.app, fun f => f.app (flat1 rfl), get_last⟩, fun _ _ _ _ => trivial, ?_, ?_⟩
    · rintro j v bs σ₃ hv ⟨_, rfl, hk3, hf3, hd3⟩
      obtain ⟨hj, rfl⟩ := rngItems_get hv
      rw [show (0 : Int) + (j : Int) * 1 = ((j : Nat) : Int) from by omega]
      have hxm := Nat.mod_lt j (show 2 ^ k > 0 by omega)
      refine tgt_name ?_ (.inl rfl) rfl (by decide)
      walk_at "wk"
      refine ev_attr ?_ rfl
      walk_at "wk"
      have hk13 := hkk.trans hk3
      refine at_pl hC (hpi _ hk13) (hpa _ hk13) (.inr (.inr rfl)) rfl (nt _) ?_
      walk_at "wk"
      refine sub_list (hk13 _ _ (hk1 _ _ hr1)) (by omega) (range_refI hi) ?_ ps_name
      walk_at "wk"
      refine sub_list (hk13 _ _ (hk1 _ _ (hr2 i hi).2)) (by omega) (rowI_getI hj) ?_ ps_name
      walk_at "wk"
      rw [fmod_nat, fmod_nat]
      refine (show n + 3 = (n + 2 - k) + 1 + k from by omega) ▸ ct_law_number hC k hk2 hxm hym fun σ₄ hk4 hf4 => ?_
      walk_at "wk"
      refine ev_append ?_ rfl rfl
      have hd4 := hk4 _ _ hd3
      walk_at "wk"
      refine ⟨_, rfl, ⟨_, hd4⟩, ?_⟩
      walk_at "wk"
      refine ⟨_, hd4, by rw [iL_len, List.length_take]; omega, .inl rfl, ?_⟩
      walk_at "wk"
      refine ⟨_, .cons rfl (.cons rfl (.cons rfl (.cons rfl (.cons rfl (.cons rfl (.cons rfl (.cons rfl .nil))))))), hj, rfl, fun q o e => ?_, fun f => (hf4 (hf3 f)).set ?_, ?_⟩
      · have := (List.getElem?_eq_some_iff.mp e).1
        rw [List.getElem?_set_ne (by omega)]
        exact hk4 _ _ (hk3 _ _ e)
      · rw [iL_snoc]; exact flat_iL _
      · rw [List.getElem?_set_self (List.getElem?_eq_some_iff.mp hd4).1, rowI_take hj, iL_snoc, op_num hk2]
        rfl
    · rintro bs σ₃ ⟨_, rfl, hk3, hf3, hd3⟩ ρ' hb
      rw [rngItems_len] at hd3
      have hfull : (rowI w (opF k l m M i)).take w = rowI w (opF k l m M i) := List.take_of_length_le (by rw [rowI_len]; omega)
      rw [hfull] at hd3
      refine ex_weaken (ρ' := locs [bd "plane" (.ref kp), bd "side" (.int ((2 ^ k : Nat) : Int)), bd "levels" (.int l), bd "most" (.int m), bd "found" (.ref kf), bd "area" (.int (areaF k)), bd "y" (.int i), bd "due" (.ref σ₂.length)]) hb.sub ?_
      have hk13 := hkk.trans hk3
      walk_at "wk"
      refine ev_attr ?_ rfl
      walk_at "wk"
      refine at_pl hC (hfi _ hk13) (hfa _ hk13) (.inr (.inr rfl)) rfl (nt _) ?_
      walk_at "wk"
      refine sub_list (hk13 _ _ hr1') (by omega) (range_refI hi) ?_ ps_name
      walk_at "wk"
      refine cmp_neL (hk13 _ _ (hr2' i hi).2) hd3 ?_
      walk_at "wk"
      refine ⟨fun q => by simp at q, fun _ => ?_⟩
      walk_at "wk"
      exact ⟨_, .cons rfl (.cons rfl (.cons rfl (.cons rfl (.cons rfl (.cons rfl .nil))))), rfl, hk13, fun f => hf3 (hff f)⟩
  · rintro bs σ₂ ⟨rfl, hkk, hff⟩ ρ' hb
    refine ex_weaken (ρ' := locs [bd "plane" (.ref kp), bd "side" (.int ((2 ^ k : Nat) : Int)), bd "levels" (.int l), bd "most" (.int m), bd "found" (.ref kf), bd "area" (.int (areaF k))]) hb.sub ?_
    walk_at "wk"
    refine ev_attr ?_ rfl
    walk_at "wk"
    refine at_pl hC (hfi _ hkk) (hfa _ hkk) (.inr (.inr rfl)) rfl (nt _) ?_
    walk_at "wk"
    refine b_len (hkk _ _ hr1') ?_
    rw [List.length_map, List.length_range]
    walk_at "wk"
    refine ev_attr ?_ rfl
    walk_at "wk"
    refine at_pl hC (hpi _ hkk) (hpa _ hkk) (.inr (.inl rfl)) rfl (ni _) ?_
    walk_at "wk"
    rw [beq_self_eq_true]
    exact ⟨.inr ⟨_, rfl⟩, hK _ (hk1.trans hkk) fun f => hff (hf1 f)⟩
end

/-! VP1 -/
section

/-! the sum over a square of thresholds (Hermite) -/
theorem ol_term {v t a l m : Int} (hv : 0 ≤ v * (l - 1)) (ha : 0 < a) (hm : 0 < m) (ht : 0 ≤ t) : ol v t a l m = (v * (l - 1)) / m + ((v * (l - 1)) % m * a / m + t) / a := by
  unfold ol
  generalize v * (l - 1) = Q at *
  have hma : 0 < m * a := Int.mul_pos hm ha
  rw [Int.fdiv_eq_ediv_of_nonneg _ (Int.le_of_lt hma)]
  have h1 : Q * a + t * m = (Q / m) * (m * a) + (Q % m * a + t * m) := by
    have h0 := Int.mul_ediv_add_emod Q m
    have h2 : Q * a = (m * (Q / m) + Q % m) * a := by rw [h0]
    rw [h2, Int.add_mul, Int.mul_right_comm, Int.mul_comm (m * a) (Q / m)]
    omega
  rw [h1, Int.add_comm, Int.add_mul_ediv_right _ _ (Int.ne_of_gt hma), Int.add_comm]
  congr 1
  rw [← Int.ediv_ediv_of_nonneg (Int.le_of_lt hm), Int.add_mul_ediv_right _ _ (Int.ne_of_gt hm)]

theorem sum_add (c : Int) (f : Nat → Int) : ∀ n : Nat, (rowI n fun x => c + f x).sum = n * c + (rowI n f).sum
  | 0 => by simp [rowI]
  | n + 1 => by
    have ih := sum_add c f n
    unfold rowI at *
    rw [map_succ, map_succ, List.sum_append, List.sum_append, ih]
    simp only [List.sum_cons, List.sum_nil, Int.natCast_add, Int.add_mul]
    omega
theorem rowI_congr {n : Nat} {f g : Nat → Int} (h : ∀ x, x < n → f x = g x) : rowI n f = rowI n g := List.map_congr_left fun x hx => h x (List.mem_range.mp hx)
theorem thrv_b : ∀ k, k ≤ 2 → ∀ y, y < 2 ^ k → ∀ x, x < 2 ^ k → 0 ≤ thrv k y x ∧ thrv k y x < areaF k := by decide
theorem thr_sum : ∀ k, k ≤ 2 → ∀ e : Nat, e < 2 ^ k * 2 ^ k → (rowI (2 ^ k) fun y => (rowI (2 ^ k) fun x => ((e : Int) + thrv k (y % 2 ^ k) (x % 2 ^ k)) / areaF k).sum).sum = e := by decide +kernel
theorem areaF_nat (k : Nat) : areaF k = ((2 ^ k * 2 ^ k : Nat) : Int) := by unfold areaF; rw [Int.natCast_mul]

theorem op_sum {k : Nat} (hk : k ≤ 2) {v l m : Int} (hv : 0 ≤ v) (hl : 1 ≤ l) (hm : 0 < m) :
    (rowI (2 ^ k) fun y => (rowI (2 ^ k) (opF k l m (fun _ _ => v) y)).sum).sum = (((2 ^ k : Nat) : Int) * ((2 ^ k : Nat) : Int) * v * (l - 1)).fdiv m := by
  have hQ : 0 ≤ v * (l - 1) := Int.mul_nonneg hv (by omega)
  have hab := areaF_b hk
  have hp := pw hk
  have hd0 := Int.emod_nonneg (v * (l - 1)) (Int.ne_of_gt hm)
  have hd1 := Int.emod_lt_of_pos (v * (l - 1)) hm
  have he0 : 0 ≤ (v * (l - 1)) % m * areaF k / m := Int.ediv_nonneg (Int.mul_nonneg hd0 (by omega)) (Int.le_of_lt hm)
  have he1 : (v * (l - 1)) % m * areaF k / m < areaF k := by
    refine Int.ediv_lt_of_lt_mul hm ?_
    rw [Int.mul_comm (areaF k) m]
    exact Int.mul_lt_mul_of_pos_right hd1 (by omega)
  have hrow : ∀ y, y < 2 ^ k → (rowI (2 ^ k) (opF k l m (fun _ _ => v) y)).sum = ((2 ^ k : Nat) : Int) * ((v * (l - 1)) / m) + (rowI (2 ^ k) fun x => ((v * (l - 1)) % m * areaF k / m + thrv k (y % 2 ^ k) (x % 2 ^ k)) / areaF k).sum := fun y hy => by
    rw [← sum_add]
    congr 1
    refine rowI_congr fun x hx => ?_
    have := thrv_b k hk (y % 2 ^ k) (Nat.mod_lt _ (by omega)) (x % 2 ^ k) (Nat.mod_lt _ (by omega))
    exact ol_term hQ (by omega) hm this.1
  rw [rowI_congr hrow, sum_add]
  obtain ⟨e, he⟩ := Int.eq_ofNat_of_zero_le he0
  rw [he] at he1 ⊢
  rw [thr_sum k hk e (by rw [areaF_nat] at he1; exact Int.ofNat_lt.mp he1)]
  rw [Int.fdiv_eq_ediv_of_nonneg _ (Int.le_of_lt hm)]
  have h2 : ((2 ^ k : Nat) : Int) * ((2 ^ k : Nat) : Int) * v * (l - 1) = (v * (l - 1)) % m * areaF k + (areaF k * ((v * (l - 1)) / m)) * m := by
    have h0 := Int.mul_ediv_add_emod (v * (l - 1)) m
    show areaF k * v * (l - 1) = _
    rw [Int.mul_assoc (areaF k) v]
    generalize v * (l - 1) = Q at *
    generalize areaF k = a at *
    have h3 : a * Q = a * (m * (Q / m) + Q % m) := by rw [h0]
    rw [h3, Int.mul_add, Int.mul_comm a (Q % m), Int.add_comm, Int.mul_assoc, Int.mul_comm (Q / m) m]
  rw [h2, Int.add_mul_ediv_right _ _ (Int.ne_of_gt hm), he]
  unfold areaF
  rw [Int.mul_assoc, Int.add_comm]
theorem op_zero {k : Nat} (hk : k ≤ 2) {l m : Int} (hm : 0 < m) (y x : Nat) : opF k l m (fun _ _ => 0) y x = 0 := by
  have hab := areaF_b hk
  have hp := pw hk
  have ht := thrv_b k hk (y % 2 ^ k) (Nat.mod_lt _ (by omega)) (x % 2 ^ k) (Nat.mod_lt _ (by omega))
  unfold opF
  rw [ol_term (by simp) (by omega) hm ht.1]
  simp only [Int.zero_mul, Int.zero_ediv, Int.zero_emod, Int.zero_add]
  exact Int.ediv_eq_zero_of_lt ht.1 ht.2
theorem op_most {k : Nat} (hk : k ≤ 2) {l m : Int} (hl : 1 ≤ l) (hm : 0 < m) (y x : Nat) : opF k l m (fun _ _ => m) y x = l - 1 := by
  have hab := areaF_b hk
  have hp := pw hk
  have ht := thrv_b k hk (y % 2 ^ k) (Nat.mod_lt _ (by omega)) (x % 2 ^ k) (Nat.mod_lt _ (by omega))
  unfold opF
  rw [ol_term (Int.mul_nonneg (Int.le_of_lt hm) (by omega)) (by omega) hm ht.1]
  rw [Int.mul_ediv_cancel_left _ (Int.ne_of_gt hm), Int.mul_emod_right, Int.zero_mul, Int.zero_ediv, Int.zero_add, Int.ediv_eq_zero_of_lt ht.1 ht.2, Int.add_zero]

/-! the numbers of a square -/
theorem thr_mat : ∀ k, k ≤ 2 → (List.range (2 ^ k)).map (thrRow k) = (List.range (2 ^ k)).map fun y => rowI (2 ^ k) fun x => numF k x y := by decide
noncomputable def numsF (k : Nat) : Nat → List Int
  | 0 => []
  | i + 1 => numsF k i ++ thrRow k i
theorem numsF_len (k : Nat) : ∀ i, (numsF k i).length = i * 2 ^ k
  | 0 => by simp [numsF]
  | i + 1 => by simp [numsF, numsF_len k i, thrRow_len, Nat.add_mul]
theorem nums_perm : ∀ k, k ≤ 2 → ((List.range (2 ^ k * 2 ^ k)).map fun (i : Nat) => (i : Int)).Perm (numsF k (2 ^ k)) := by decide +kernel
theorem nums_sorted : ∀ k, k ≤ 2 → ((List.range (2 ^ k * 2 ^ k)).map fun (i : Nat) => (i : Int)).Pairwise (· ≤ ·) := by decide +kernel
theorem nums_eq {k : Nat} (hk : k ≤ 2) {ns : List Int} (hp : ns.Perm (numsF k (2 ^ k))) (hs : ns.Pairwise (· ≤ ·)) : ns = (List.range (2 ^ k * 2 ^ k)).map fun (i : Nat) => (i : Int) :=
  (hp.trans (nums_perm k hk).symm).eq_of_pairwise (fun a b _ _ h1 h2 => Int.le_antisymm h1 h2) hs (nums_sorted k hk)
end

/-! VF14 -/
section
variable {C : Cx} {n : Nat} {env : Env} {ρ : Loc} {σ : List AO} {K : Kv}
variable {b kp dp r w h : Nat} {l m : Int} {M Cm : Nat → Nat → Int} {lost : Int}

/-- ints that calls give -/
theorem compC_intsK {scope : Scope} {names : List PySem.Str} {target elt : Expr} {it : AV} {items : List AV} {Kp : List AO → Prop} {vals : List Int} {D : List AO → Prop} (ok : IterOk it items Kp) (hk : ∀ σ', Keeps σ σ' → Kp σ') (hlen : items.length = vals.length) (hn : vals.length ≤ 4096)
    (step : ∀ (L : Addr) (i : Nat) (v : AV) (a : Int) (σ' : List AO), items[i]? = some v → vals[i]? = some a → Keeps σ σ' → TgtN C n (compEnv2 scope L env) names target v (cLoc scope ρ) σ' fun ρ₁ σ₁ => (∀ x v, cLoc scope ρ x = some v → ρ₁ x = some v) ∧ σ₁ = σ' ∧
      EvC C n (compEnv2 scope L env) ρ₁ σ₁ elt fun v σ₃ => Keeps σ₁ σ₃ ∧ (Flat σ₁ → Flat σ₃) ∧ v = .int a)
    (h : ∀ σ', Keeps σ σ' → (Flat σ → Flat σ') → σ'[σ.length]? = some (.list (iL vals)) → D σ') : CompC C n env ρ σ scope names target elt [] it D := by
  refine ⟨items, Kp, ok, fun i σ' => i ≤ vals.length ∧ Keeps σ σ' ∧ (Flat σ → Flat σ') ∧ σ'[σ.length]? = some (.list (iL (vals.take i))), ⟨Nat.zero_le _, Keeps.app, fun f => f.app (flat1 rfl), get_last⟩, hk _ Keeps.refl, fun i σ' hj => hk _ hj.2.1, ?_, ?_⟩
  · rintro L i v σ' hv ⟨hi, hkk, hff, ha⟩
    have hlt : i < vals.length := by rw [← hlen]; exact (List.getElem?_eq_some_iff.mp hv).1
    intro A φ s Q E v' hA R F V P
    refine step L i v vals[i] σ' hv (List.getElem?_eq_getElem hlt) hkk A φ s Q E v' hA R F V ?_
    rintro φ₁ ρ₁ σ₁ s₁ ⟨hs, rfl, hev⟩ S F
    refine P φ₁ ρ₁ _ s₁ ⟨hs, ifs_nil ⟨fun q => (by cases q), fun _ => ?_⟩⟩ S F
    refine TrC.mono hev ?_
    rintro v σ₃ ⟨hk3, hf3, rfl⟩
    have ha3 := hk3 _ _ ha
    have hla : σ.length < σ₁.length := (List.getElem?_eq_some_iff.mp ha).1
    refine ⟨_, ha3, by rw [iL_len, List.length_take]; omega, hlt, fun j o e => ?_, fun f => (hf3 (hff f)).set ?_, ?_⟩
    · have := (List.getElem?_eq_some_iff.mp e).1
      rw [List.getElem?_set_ne (by omega)]
      exact hk3 _ _ (hkk _ _ e)
    · rw [iL_snoc]; exact flat_iL _
    · rw [List.getElem?_set_self (List.getElem?_eq_some_iff.mp ha3).1, iL_snoc]
      congr 4
      rw [List.take_add_one, List.getElem?_eq_getElem hlt]; rfl
  · rintro σ' ⟨_, hkk, hff, ha⟩
    rw [hlen, List.take_length] at ha
    exact h _ hkk hff ha

theorem rowsAt_map {ff : Nat → Nat} {rows : Nat → List Int} : ∀ (ys : List Nat), (∀ y ∈ ys, σ[ff y]? = some (.list (iL (rows y)))) → RowsAt σ (ys.map fun y => .ref (ff y)) (ys.map rows)
  | [], _ => .nil
  | y :: ys, h => .cons (h y (by simp)) (rowsAt_map ys fun z hz => h z (by simp [hz]))
theorem RowsIn.mat {f N : Nat} {rows : Nat → List Int} (R : RowsIn σ f N rows) : MatAt σ f ((List.range N).map rows) := by
  obtain ⟨ff, h1, h2⟩ := R
  exact ⟨_, h1, rowsAt_map _ fun y hy => h2 y (List.mem_range.mp hy)⟩
theorem repl_rowI {w : Nat} {v : Int} : (List.replicate ((w : Nat) : Int).toNat (AV.int v)) = iL (rowI w fun _ => v) := by
  apply List.ext_getElem?
  intro i
  simp [iL, rowI, List.getElem?_replicate]
  by_cases hi : i < w
  · rw [List.getElem?_range hi, if_pos hi]; rfl
  · have : (List.range w)[i]? = none := by simp; omega
    rw [this, if_neg hi]; rfl
theorem rowI_getS {w x : Nat} {f : Nat → Int} (h : x < w) : (rowI w f)[x]? = some (f x) := by simp [rowI, h]
theorem rowI_at {w x : Nat} {f : Nat → Int} {a : Int} (h : (rowI w f)[x]? = some a) : x < w ∧ a = f x := by
  have hx : x < w := by have := (List.getElem?_eq_some_iff.mp h).1; rwa [rowI_len] at this
  rw [rowI_getS hx] at h
  exact ⟨hx, (Option.some.inj h).symm⟩

theorem upd_fresh {ρ : Loc} {y : PySem.Str} {w : AV} (h : ρ y = none) : ∀ x v, ρ x = some v → upd ρ y w x = some v := fun x v e => by
  unfold upd
  by_cases q : x = y
  · subst q; rw [h] at e; cases e
  · rw [if_neg q]; exact e

set_option maxHeartbeats 4000000 in
theorem ct_ordered_right (hC : CxOk C) {k : Nat} (hk2 : k ≤ 2) {v : Int} (hl : 2 ≤ l) (hl' : l ≤ 4) (hm : 1 ≤ m) (hm' : m ≤ 255) (hlm : l ≤ m + 1) (hv : 0 ≤ v) (hv' : v ≤ 255)
    (hK : ∀ σ', K (.bool true) σ') : CallC C (n + 4) env ρ σ (.top (.ref 233)) [.int ((2 ^ k : Nat) : Int), .int l, .int m, .int v] K := by
  refine call_fn (f := 233) (names := ["side", "levels", "most", "value"]) (by rw [hC.k]; rfl) (by rw [hC.k]; rfl) rfl (by decide +kernel) (by walk_at "args") (by decide +kernel) rfl rfl rfl ?_
  intro L cl
  dsimp only [bd24, sc24]
  have nt : ∀ k x, AV.ref k = .top x → handedIn x = true := fun _ _ q => by cases q
  have ni : ∀ k x, AV.int k = .top x → handedIn x = true := fun _ _ q => by cases q
  have hpk := pw hk2
  have hab := areaF_b hk2
  have hsum := op_sum (k := k) (v := v) (l := l) (m := m) hk2 hv (by omega) (by omega)
  walk_at "wk"
  refine ct_thresholds hC hk2 fun σ₁ q hk1 hf1 hsq => ?_
  walk_at "wk"
  refine ev_comp ["y"] ?_ (fun _ => rfl) rfl (by decide +kernel) rfl (by decide +kernel)
  walk_at "wk"
  refine b_range1 ?_
  refine compC_rows (h := 2 ^ k) (rows := fun y => rowI (2 ^ k) fun x => numF k x y) (.rng (m := 2 ^ k) (small_one (by omega) (by omega) (by omega) (by omega)) (rng_ok (by omega))) (fun _ _ => trivial) (by rw [rngItems_len]) (by omega) ?_ ?_
  · intro L i v σ₂ hi hv hk
    obtain ⟨_, rfl⟩ := rngItems_get hv
    rw [show (0 : Int) + (i : Int) * 1 = ((i : Nat) : Int) from by omega]
    refine tgt_name ?_ (.inr rfl) rfl (by decide)
    refine ⟨csub_upd (by decide +kernel) csub_refl, rfl, ?_⟩
    refine ev_comp ["x"] ?_ (fun _ => rfl) rfl (by decide +kernel) rfl (by decide +kernel)
    walk_at "wk"
    refine b_range1 ?_
    refine compC_intsK (.rng (m := 2 ^ k) (small_one (by omega) (by omega) (by omega) (by omega)) (rng_ok (by omega))) (fun _ _ => trivial) (vals := rowI (2 ^ k) fun x => numF k x i) (by rw [rngItems_len, rowI_len]) (by rw [rowI_len]; omega) ?_ ?_
    · intro L j v a σ₃ hv ha hk3
      obtain ⟨hj, rfl⟩ := rngItems_get hv
      obtain ⟨_, rfl⟩ := rowI_at ha
      rw [show (0 : Int) + (j : Int) * 1 = ((j : Nat) : Int) from by omega]
      refine tgt_name ?_ (.inl rfl) rfl (by decide)
      refine ⟨csub_upd (by decide +kernel) csub_refl, rfl, ?_⟩
      walk_at "wk"
      refine (show n + 3 = (n + 2 - k) + 1 + k from by omega) ▸ ct_law_number hC k hk2 hj hi fun σ₄ hk4 hf4 => ?_
      exact ⟨hk4, hf4, rfl⟩
    · intro σ₃ hk3 hf3 ha
      exact ⟨hk3, hf3, _, rfl, Nat.le_refl _, ha⟩
  intro σ₂ hR
  refine cmp_neM (hsq.keep hR.1).mat hR.rowsIn.mat ?_
  rw [thr_mat k hk2]
  simp only [decide_true, Bool.not_true]
  refine ⟨_, rfl, fun q => (by cases q), fun _ => ?_⟩
  walk_at "wk"
  refine ⟨by simp, ?_⟩
  walk_at "wk"
  obtain ⟨ff, hs1, hs2⟩ := hsq.keep hR.1
  refine ex_forB ["row"] ?_ (fun _ => rfl)
  walk_at "wk"
  refine ⟨_, _, .list, fun i bs σ' => ∃ nu, bs = [bd "side" (.int ((2 ^ k : Nat) : Int)), bd "levels" (.int l), bd "most" (.int m), bd "value" (.int v), bd "square" (.ref q), bd "numbers" (.ref nu)] ∧ Keeps σ₂ σ' ∧ i ≤ 2 ^ k ∧ σ'[nu]? = some (.list (iL (numsF k i))),
    ⟨_, .cons rfl (.cons rfl (.cons rfl (.cons rfl (.cons rfl (.cons rfl .nil))))), σ₂.length, rfl, Keeps.app, Nat.zero_le _, get_last⟩, fun i bs σ' ⟨_, _, hk, _⟩ => hk _ _ hs1, ?_, ?_⟩
  · rintro i v' bs σ₃ hv ⟨nu, rfl, hk3, hi3, hnu⟩
    obtain ⟨hi, rfl⟩ := map_get hv
    have hlen : i * 2 ^ k ≤ 4 * 4 := Nat.mul_le_mul (by omega) hpk.1
    refine tgt_name ?_ (.inl rfl) rfl (by decide)
    walk_at "wk"
    refine bin_addL hnu (hk3 _ _ (hs2 i hi)) (by rw [iL_len, iL_len, numsF_len, thrRow_len]; omega) ?_
    walk_at "wk"
    refine ⟨_, .cons rfl (.cons rfl (.cons rfl (.cons rfl (.cons rfl (.cons rfl .nil))))), _, rfl, hk3.trans Keeps.app, hi, ?_⟩
    rw [show iL (numsF k i) ++ iL (thrRow k i) = iL (numsF k (i + 1)) from by simp [iL, numsF]]
    exact get_last
  rintro bs σ₃ ⟨nu, rfl, hk3, _, hnu⟩ ρ' hb
  rw [List.length_map, List.length_range] at hnu
  have hsq4 : 2 ^ k * 2 ^ k ≤ 4 * 4 := Nat.mul_le_mul hpk.1 hpk.1
  refine ex_weaken (ρ' := locs [bd "side" (.int ((2 ^ k : Nat) : Int)), bd "levels" (.int l), bd "most" (.int m), bd "value" (.int v), bd "square" (.ref q), bd "numbers" (.ref nu)]) hb.sub ?_
  walk_at "wk"
  refine b_sorted hnu (by rw [numsF_len]; omega) fun ns' hp hs => ?_
  rw [nums_eq hk2 hp hs]
  walk_at "wk"
  refine b_range1 ?_
  have hI : ((2 ^ k : Nat) : Int) * ((2 ^ k : Nat) : Int) = ((2 ^ k * 2 ^ k : Nat) : Int) := (Int.natCast_mul _ _).symm
  walk_at "wk"
  rw [hI]
  refine b_list_rng (m := 2 ^ k * 2 ^ k) (small_one (by omega) (by omega) (by omega) (by omega)) (rng_ok (by omega)) (by omega) ?_
  rw [rng_up, show ((List.range (2 ^ k * 2 ^ k)).map fun (i : Nat) => AV.int (i : Int)) = iL ((List.range (2 ^ k * 2 ^ k)).map fun (i : Nat) => (i : Int)) from by simp [iL]]
  refine cmp_neL (get_app get_last) get_last ?_
  simp only [decide_true, Bool.not_true]
  refine ⟨_, rfl, fun q => (by cases q), fun _ => ?_⟩
  walk_at "wk"
  refine b_len (get_app (get_app (hk3 _ _ hs1))) ?_
  rw [List.length_map, List.length_range]
  walk_at "wk"
  refine ⟨fun q => by simp at q, fun _ => ?_⟩
  walk_at "wk"
  refine ev_comp ["y"] ?_ (fun _ => rfl) rfl (by decide +kernel) rfl (by decide +kernel)
  walk_at "wk"
  refine b_range1 ?_
  refine compC_rows (h := 2 ^ k) (rows := fun y => rowI (2 ^ k) ((fun _ _ => v : Nat → Nat → Int) y)) (.rng (m := 2 ^ k) (small_one (by omega) (by omega) (by omega) (by omega)) (rng_ok (by omega))) (fun _ _ => trivial) (by rw [rngItems_len]) (by omega) ?_ ?_
  · intro L i v' σ₅ hi hv hk
    obtain ⟨_, rfl⟩ := rngItems_get hv
    refine tgt_name ?_ (.inl rfl) rfl (by decide)
    refine ⟨csub_upd (by decide +kernel) csub_refl, rfl, ?_⟩
    walk_at "wk"
    refine ⟨by simp, ?_⟩
    walk_at "wk"
    refine bin_mulL (v := .int v) get_last (by omega) (by omega) ?_
    rw [repl_rowI]
    exact ⟨Keeps.app.trans Keeps.app, fun f => (f.app (flat1 rfl)).app (flat1 (flat_iL _)), _, rfl, by simp, get_last⟩
  intro σ₅ hR5
  walk_at "wk"
  refine ct_Plane hC ?_
  walk_at "wk"
  refine ct_ordered_plane hC hk2 hl hl' hm hm' hlm (by omega) (by omega) hR5.plane fun σ₆ kf df rf hk6 hf6 hpf => ?_
  walk_at "wk"
  obtain ⟨rr, hr1, hr2⟩ := hpf.rows
  have hfa : σ₆[df]? = some (.attrs [bd "width" (.int ((2 ^ k : Nat) : Int)), bd "height" (.int ((2 ^ k : Nat) : Int)), bd "rows" (.ref rf)]) := hpf.attrs
  refine ev_comp ["row"] ?_ (fun _ => rfl) rfl (by decide +kernel) rfl (by decide +kernel)
  refine ev_attr ?_ rfl
  walk_at "wk"
  refine at_pl hC hpf.inst hfa (.inr (.inr rfl)) rfl (nt _) ?_
  refine compC_ints .list hr1 (fun _ => get_app hr1) (vals := rowI (2 ^ k) fun y => (rowI (2 ^ k) (opF k l m (fun _ _ => v) y)).sum) (by simp [rowI]) (by rw [rowI_len]; omega) ?_ ?_
  · intro L y v' a hv ha
    obtain ⟨hy, rfl⟩ := map_get hv
    obtain ⟨_, rfl⟩ := rowI_at ha
    refine tgt_name ?_ (.inl rfl) rfl (by decide)
    refine ⟨csub_upd (by decide +kernel) csub_refl, rfl, ?_⟩
    walk_at "wk"
    refine b_sum (get_app (hr2 y hy).2) ?_
    exact ⟨rfl, rfl⟩
  walk_at "wk"
  refine b_sum get_last ?_
  rw [hsum]
  walk_at "wk"
  refine ⟨fun q => by simp at q, fun _ => ?_⟩
  walk_at "wk"
  refine ex_forB ["end", "level"] ?_ (fun _ => rfl)
  generalize hσ7 : σ₆ ++ [AO.list (iL (rowI (2 ^ k) fun y => (rowI (2 ^ k) (opF k l m (fun _ _ => v) y)).sum))] = σ₇
  walk_at "wk"
  refine ⟨by simp, ?_⟩
  walk_at "wk"
  refine ⟨by simp, ?_⟩
  walk_at "wk"
  refine ⟨by simp, ?_⟩
  refine ⟨_, _, .list, fun i bs σ' => bs = [bd "side" (.int ((2 ^ k : Nat) : Int)), bd "levels" (.int l), bd "most" (.int m)] ∧ Keeps (σ₇ ++ [.list [.tup [.int 0, .int 0], .tup [.int m, .int (l - 1)]]]) σ', ⟨_, .cons rfl (.cons rfl (.cons rfl .nil)), rfl, Keeps.refl⟩, fun i bs σ' ⟨_, hk⟩ => hk _ _ get_last, ?_, ?_⟩
  · rintro i v' bs σ₈ hv ⟨rfl, hk8⟩
    have key : ∃ e lv, v' = .tup [.int e, .int lv] ∧ 0 ≤ e ∧ e ≤ 255 ∧ ∀ y x, opF k l m (fun _ _ => e) y x = lv := by
      match i, hv with
      | 0, hv => cases hv; exact ⟨0, 0, rfl, by decide, by decide, op_zero hk2 (by omega)⟩
      | 1, hv => cases hv; exact ⟨m, l - 1, rfl, by omega, hm', op_most hk2 (by omega) (by omega)⟩
    obtain ⟨e, lvl, rfl, he0, he1, hop⟩ := key
    refine tgt_tup ?_ rfl rfl
    refine tgts_cons (tgt_name ?_ (.inr rfl) rfl (by decide))
    refine tgts_cons (tgt_name ?_ (.inr rfl) rfl (by decide))
    refine tgts_nil ?_
    walk_at "wk"
    refine ev_comp ["y"] ?_ (fun _ => rfl) rfl (by decide +kernel) rfl (by decide +kernel)
    walk_at "wk"
    refine b_range1 ?_
    refine compC_rows (h := 2 ^ k) (rows := fun y => rowI (2 ^ k) ((fun _ _ => e : Nat → Nat → Int) y)) (.rng (m := 2 ^ k) (small_one (by omega) (by omega) (by omega) (by omega)) (rng_ok (by omega))) (fun _ _ => trivial) (by rw [rngItems_len]) (by omega) ?_ ?_
    · intro L i v' σ₅ hi hv hk
      obtain ⟨_, rfl⟩ := rngItems_get hv
      refine tgt_name ?_ (.inl rfl) rfl (by decide)
      refine ⟨csub_upd (by decide +kernel) csub_refl, rfl, ?_⟩
      walk_at "wk"
      refine ⟨by simp, ?_⟩
      walk_at "wk"
      refine bin_mulL (v := .int e) get_last (by omega) (by omega) ?_
      rw [repl_rowI]
      exact ⟨Keeps.app.trans Keeps.app, fun f => (f.app (flat1 rfl)).app (flat1 (flat_iL _)), _, rfl, by simp, get_last⟩
    intro σ₉ hR9
    walk_at "wk"
    refine ct_Plane hC ?_
    walk_at "wk"
    refine ct_ordered_plane hC hk2 hl hl' hm hm' hlm (by omega) (by omega) hR9.plane fun σa kg dg rg hka hfa2 hpg => ?_
    walk_at "wk"
    obtain ⟨rs, hg1, hg2⟩ := hpg.rows
    have hga : σa[dg]? = some (.attrs [bd "width" (.int ((2 ^ k : Nat) : Int)), bd "height" (.int ((2 ^ k : Nat) : Int)), bd "rows" (.ref rg)]) := hpg.attrs
    refine ev_comp2 ["row", "one"] ?_ (fun _ => rfl) (fun _ _ => rfl) rfl (by decide +kernel) rfl (by decide +kernel)
    refine ev_attr ?_ rfl
    walk_at "wk"
    refine at_pl hC hpg.inst hga (.inr (.inr rfl)) rfl (nt _) ?_
    refine ⟨_, _, .list, fun i σ' => σ' = σa ++ [.list []], rfl, hg1, (fun i σ' e => by rw [e]; exact get_app hg1), ?_, ?_⟩
    · rintro L i v' _ hv rfl
      obtain ⟨hi, rfl⟩ := map_get hv
      refine tgt_name ?_ (.inl rfl) rfl (by decide)
      refine ⟨csub_upd (by decide +kernel) csub_refl, ?_⟩
      refine ifs_nil ⟨fun q => (by cases q), fun _ => ?_⟩
      walk_at "wk"
      refine ⟨rfl, _, _, .list, get_app (hg2 i hi).2, fun j u hu => ?_⟩
      have hj : j < 2 ^ k := by have := (List.getElem?_eq_some_iff.mp hu).1; rwa [iL_len, rowI_len] at this
      rw [rowI_get hj] at hu
      cases hu
      rw [hop]
      refine tgt_name ?_ (.inl rfl) rfl (by decide)
      refine ⟨upd_fresh rfl, rfl, ?_⟩
      refine ifs_one ?_
      walk_at "wk"
      exact ⟨by simp, rfl⟩
    · rintro _ rfl
      walk_at "wk"
      refine ⟨by simp, ?_⟩
      refine cmp_neL (ns := []) (ms := []) (get_app get_last) get_last ?_
      refine ⟨_, rfl, fun q => by simp at q, fun _ => ?_⟩
      walk_at "wk"
      exact ⟨_, .cons rfl (.cons rfl (.cons rfl .nil)), rfl, hk8.trans (hR9.1.trans ((Keeps.app.trans Keeps.app).trans (hka.trans (Keeps.app.trans Keeps.app))))⟩
  · rintro bs σ₈ ⟨rfl, hk8⟩ ρ' hb
    walk_at "wk"
    exact ⟨.inr ⟨_, rfl⟩, hK _⟩
end

/-! VF15 -/
section
variable {C : Cx} {n : Nat} {env : Env} {ρ : Loc} {σ : List AO} {K : Kv}
variable {b kp dp r w h : Nat} {l m : Int} {M Cm : Nat → Nat → Int} {lost : Int}

theorem ExC.mono {t : Sem Flow} {K K' : Kf} (h : ExC C n env ρ σ t K) (hk : ∀ f ρ' σ', K f ρ' σ' → K' f ρ' σ') : ExC C n env ρ σ t K' :=
  fun A φ s Q E hA R F P => h A φ s Q E hA R F fun φ' ρ' σ' s' f f' k S F' V => P φ' ρ' σ' s' f f' (hk _ _ _ k) S F' V
theorem top_list {φ : Nat → Addr} {h : Heap} {l : Addr} {xs : Array Value} (R : Rep C.H C.T φ σ h) (hl : C.T.IsList l xs) : h.IsList l xs := let ⟨o, e, r⟩ := hl; ⟨o, R.top _ _ e, r⟩
theorem bin_pow {i j : Int} (hn : 0 ≤ j) (hsz : (Builtin.Int.intBits i : Int) * j ≤ 2 ^ 27) (h : K (.int (i ^ j.toNat)) σ) : BinC C n env ρ .Pow (.int i) (.int j) σ K := by
  intro A φ s Q E a' b' hA R F Va Vb P
  cases Va; cases Vb
  exact pow_int hn hsz (P.tok R h .int)
theorem ints_at : ∀ {items : List Value} {ns : List Int}, IntsAre items ns → ∀ {i : Nat}, i < ns.length → ∃ a t, items[i]? = some (.int a t)
  | _, _, .nil, i, h => absurd h (Nat.not_lt_zero i)
  | _, _, .cons _ _ _, 0, _ => ⟨_, _, rfl⟩
  | _, _, .cons _ _ r, i + 1, h => by
    obtain ⟨a, t, e⟩ := ints_at r (i := i) (by simpa using h)
    exact ⟨a, t, by simpa using e⟩
theorem ints_len : ∀ {items : List Value} {ns : List Int}, IntsAre items ns → items.length = ns.length
  | _, _, .nil => rfl
  | _, _, .cons _ _ r => by simp [ints_len r]
theorem b_lenT {l : Addr} {items : List Value} {ns : List Int} (hl : C.T.IsList l items.toArray) (hI : IntsAre items ns) (hn : ns.length ≤ 63) (h : K (.int ns.length) σ) : CallC C n env ρ σ (.top (.builtin "len")) [.top (.ref l)] K := by
  intro A φ s Q E f' vs' hA R F Vf V P
  cases Vf; obtain ⟨_, rfl, V0⟩ := V.one; cases V0
  have hlen := ints_len hI
  refine call_len_list (top_list R hl) (by simp only [List.size_toArray]; omega) ?_
  simp only [List.size_toArray, hlen]
  exact P.tok R h .int
theorem sub_listT {value slice : Expr} {l : Addr} {items : List Value} {ns : List Int} {j : Int} (hl : C.T.IsList l items.toArray) (hI : IntsAre items ns) (hn : ns.length ≤ 63) (h0 : 0 ≤ j) (hj : j < ns.length) (h : ∀ a, K (.int a) σ) (hs : PlainSlice slice) : SubC C n env ρ value slice (.top (.ref l)) (.int j) σ K := by
  intro A φ s Q E a' b' hA R F Va Vb P
  cases Va; cases Vb
  obtain ⟨a, t, e⟩ := ints_at hI (i := j.toNat) (by omega)
  have hl' := top_list R hl
  exact tail_any hl'.typeIs slot_list_getitem.lookup (wpAny_getItem_list hl' h0 (by omega) (by simpa using e) (P.now R (h a) .int)) (hs _ _)

set_option maxHeartbeats 2000000 in
theorem ct_pool (hC : CxOk C) {l : Addr} {items : List Value} {ns : List Int} (hl : C.T.IsList l items.toArray) (hI : IntsAre items ns) (hn : ns.length ≤ 63)
    (hK : ∀ a b, 0 ≤ b → b < 2147483647 → K (.ref σ.length) (σ ++ [.list [.int a, .int b]])) : CallC C (n + 1) env ρ σ (.top (.ref 195)) [.top (.ref l), .int 0] K := by
  refine call_fn (f := 195) (names := ["script", "k"]) (by rw [hC.k]; rfl) (by rw [hC.k]; rfl) rfl (by decide +kernel) (by walk_at "args") (by decide +kernel) rfl rfl rfl ?_
  intro L cl
  dsimp only [bd18, sc18]
  walk_at "evS"
  walk_at "evS"
  refine ev_int ?_
  refine ex_cons (ExC.mono (K := fun f ρ₁ σ₁ => f = .next ∧ σ₁ = σ ∧ ∃ c, BindsIn ρ₁ [bd "k" (.int 0), bd "cell" (.int c)]) ?_ ?_)
  · walk_at "wk"
    refine b_lenT hl hI hn ?_
    walk_at "wk"
    refine ⟨fun q => ?_, fun _ => ?_⟩
    · walk_at "wk"
      refine sub_listT hl hI hn (by decide) (of_decide_eq_true q) (fun a => ?_) ps_name
      walk_at "wk"
      exact ⟨rfl, rfl, _, .cons rfl (.cons rfl .nil)⟩
    · walk_at "wk"
      exact ⟨rfl, rfl, _, .cons rfl (.cons rfl .nil)⟩
  rintro _ ρ' _ ⟨rfl, rfl, c, hb⟩
  refine ex_weaken (ρ' := locs [bd "k" (.int 0), bd "cell" (.int c)]) hb.sub ?_
  walk_at "wk"
  refine b_int_int ?_
  walk_at "wk"
  refine ev_neg ?_
  walk_at "wk"
  refine ⟨_, rfl, ?_⟩
  walk_at "wk"
  refine b_int_int ?_
  walk_at "wk"
  refine b_max ?_
  generalize (if (-1 : Int) - c > c then (-1 : Int) - c else c) = big
  walk_at "wk"
  refine b_int_int ?_
  walk_at "wk"
  refine b_int_int ?_
  walk_at "wk"
  refine bin_pow (by decide) (by decide +kernel) ?_
  walk_at "wk"
  refine b_int_bool ?_
  refine bin_mul (IntMulOk.of_right (intBits_le_64 ?_ ?_)) ?_
  · split <;> decide
  · split <;> decide
  walk_at "wk"
  refine ⟨by simp, .inr ⟨_, rfl⟩, hK _ _ (Int.fmod_nonneg_of_pos _ (by decide)) (Int.fmod_lt_of_pos _ (by decide))⟩

set_option maxHeartbeats 2000000 in
theorem ct_take (hC : CxOk C) {s : Nat} {a b top : Int} (e : σ[s]? = some (.list [.int a, .int b])) (hb0 : 0 ≤ b) (hb1 : b < 2147483647) (ht : 1 ≤ top) (ht' : top ≤ 300)
    (hK : ∀ d a' b', 0 ≤ d → d < top → 0 ≤ b' → b' < 2147483647 → K (.int d) (σ.set s (.list [.int a', .int b']))) : CallC C (n + 1) env ρ σ (.top (.ref 202)) [.ref s, .int top] K := by
  refine call_fn (f := 202) (names := ["source", "top"]) (by rw [hC.k]; rfl) (by rw [hC.k]; rfl) rfl (by decide +kernel) (by walk_at "args") (by decide +kernel) rfl rfl rfl ?_
  intro L cl
  dsimp only [bd19, sc19]
  have hs := (List.getElem?_eq_some_iff.mp e).1
  have e2 : ∀ x, (σ.set s x)[s]? = some x := fun x => List.getElem?_set_self hs
  walk_at "wk"
  refine sub_list e (by decide) (v := .int a) rfl ?_ ps_const
  walk_at "wk"
  refine ⟨fun q => ?_, fun _ => ?_⟩
  · walk_at "wk"
    refine sub_list e (by decide) (v := .int a) rfl ?_ ps_const
    walk_at "wk"
    refine b_int_int ?_
    walk_at "wk"
    refine sub_list e (by decide) (v := .int a) rfl ?_ ps_const
    walk_at "wk"
    refine set_list e (by decide) (by simp) ?_
    walk_at "wk"
    exact ⟨.inr ⟨_, rfl⟩, hK _ _ _ (Int.fmod_nonneg_of_pos _ (by omega)) (Int.fmod_lt_of_pos _ (by omega)) hb0 hb1⟩
  walk_at "wk"
  refine sub_list e (by decide) (v := .int b) rfl ?_ ps_const
  walk_at "wk"
  refine b_int_int ?_
  walk_at "wk"
  refine set_list e (by decide) (by simp) ?_
  have hb2 : 0 ≤ (b * 39373 + 7).fmod 2147483647 := Int.fmod_nonneg_of_pos _ (by decide)
  have hb3 : (b * 39373 + 7).fmod 2147483647 < 2147483647 := Int.fmod_lt_of_pos _ (by decide)
  generalize (b * 39373 + 7).fmod 2147483647 = b' at hb2 hb3 ⊢
  walk_at "wk"
  refine sub_list (e2 _) (by decide) (v := .int b') rfl ?_ ps_const
  walk_at "wk"
  refine sub_list (e2 _) (by decide) (v := .int b') rfl ?_ ps_const
  walk_at "wk"
  refine b_int_int ?_
  walk_at "wk"
  refine b_int_int ?_
  walk_at "wk"
  exact ⟨.inr ⟨_, rfl⟩, hK _ _ _ (Int.fmod_nonneg_of_pos _ (by omega)) (Int.fmod_lt_of_pos _ (by omega)) hb2 hb3⟩

theorem ct_one (hC : CxOk C) {s t : Nat} {a b : Int} {vs : List AV} (e : σ[s]? = some (.list [.int a, .int b])) (hb0 : 0 ≤ b) (hb1 : b < 2147483647) (et : σ[t]? = some (.list vs)) (hst : t ≠ s) (h0 : 0 < vs.length) (h1 : vs.length ≤ 300)
    (hK : ∀ v a' b', v ∈ vs → 0 ≤ b' → b' < 2147483647 → K v (σ.set s (.list [.int a', .int b']))) : CallC C (n + 2) env ρ σ (.top (.ref 209)) [.ref s, .ref t] K := by
  refine call_fn (f := 209) (names := ["source", "things"]) (by rw [hC.k]; rfl) (by rw [hC.k]; rfl) rfl (by decide +kernel) (by walk_at "args") (by decide +kernel) rfl rfl rfl ?_
  intro L cl
  dsimp only [bd20, sc20]
  walk_at "wk"
  refine b_len et ?_
  walk_at "wk"
  refine ct_take hC e hb0 hb1 (by omega) (by omega) fun d a' b' hd0 hd1 hb2 hb3 => ?_
  have hd : d.toNat < vs.length := by omega
  refine sub_list (v := vs[d.toNat]) (by rw [List.getElem?_set_ne (Ne.symm hst)]; exact et) hd0 (List.getElem?_eq_getElem hd) ?_ ps_call
  exact ⟨.inr ⟨_, rfl⟩, hK _ _ _ (List.getElem_mem hd) hb2 hb3⟩
end

/-! VP2 -/
section

/-! sums over a plane -/
noncomputable def sum2 (w h : Nat) (f : Nat → Nat → Int) : Int := (rowI h fun y => (rowI w (f y)).sum).sum
theorem rowI_succ {n : Nat} {f : Nat → Int} : (rowI (n + 1) f).sum = (rowI n f).sum + f n := by
  unfold rowI; rw [map_succ, List.sum_append]; simp
theorem sum_upd {x : Nat} {e : Int} {f : Nat → Int} : ∀ n : Nat, (rowI n fun i => if i = x then f x + e else f i).sum = (rowI n f).sum + (if x < n then e else 0)
  | 0 => by simp [rowI]
  | n + 1 => by
    rw [rowI_succ, rowI_succ, sum_upd n]
    by_cases h1 : n = x
    · subst h1; simp; omega
    · rw [if_neg h1]
      by_cases h2 : x < n
      · rw [if_pos h2, if_pos (by omega)]; omega
      · rw [if_neg h2, if_neg (by omega)]; omega
theorem sum2_upd {w h x y : Nat} {e : Int} {f : Nat → Nat → Int} (hx : x < w) (hy : y < h) : sum2 w h (upd2 f y x (f y x + e)) = sum2 w h f + e := by
  unfold sum2
  have h1 : (fun y' => (rowI w (upd2 f y x (f y x + e) y')).sum) = fun y' => if y' = y then (rowI w (f y)).sum + e else (rowI w (f y')).sum := by
    funext y'
    by_cases q : y' = y
    · subst q
      rw [if_pos rfl]
      have : upd2 f y' x (f y' x + e) y' = fun i => if i = x then f y' x + e else f y' i := by funext i; simp [upd2]
      rw [this, sum_upd w, if_pos hx]
    · rw [if_neg q]
      have : upd2 f y x (f y x + e) y' = f y' := by funext i; simp [upd2, q]
      rw [this]
  rw [h1, sum_upd (f := fun y => (rowI w (f y)).sum) h, if_pos hy]
noncomputable def tot (w h : Nat) (S : St2) : Int := sum2 w h S.1 + S.2
theorem tot_gv {w h : Nat} {S : St2} {x y e : Int} (hy : 0 ≤ y) : tot w h (gv w h S x y e) = tot w h S + e := by
  unfold tot gv
  split
  · rename_i q
    obtain ⟨⟨h0, h1⟩, h2⟩ := q
    show sum2 w h (upd2 _ _ _ _) + S.2 = _
    rw [sum2_upd (by omega) (by omega)]; omega
  · show sum2 w h S.1 + (S.2 + e) = _
    omega
theorem wy_nonneg (i : Nat) : 0 ≤ wy i := by unfold wy; split <;> decide
theorem tot_gives {w h : Nat} {S : St2} {x y : Nat} {a : Int} {p : List Int} : ∀ i, tot w h (gives w h S x y a p i) = tot w h S + (rowI i fun j => p.getD j 0).sum
  | 0 => by simp [gives, rowI]
  | i + 1 => by
    unfold gives
    rw [tot_gv (by have := wy_nonneg i; omega), tot_gives i, rowI_succ]; omega
theorem tot_step {w h : Nat} {l m : Int} {M : Nat → Nat → Int} {S : St2} {x y : Nat} {a : Int} : tot w h (stepF w h l m M S x y a) = tot w h S + errF l m M S x y := by
  unfold stepF
  rw [tot_gives, rowI_succ, rowI_succ, rowI_succ, rowI_succ]
  simp only [partsF, rowI, List.range_zero, List.map_nil, List.sum_nil, List.getD_cons_zero, List.getD_cons_succ]
  omega

/-! what a step leaves alone -/
theorem gv_same {w h : Nat} {S : St2} {x y e : Int} {x' y' : Nat} (h0 : ¬ (x = (x' : Int) ∧ y = (y' : Int))) (hy : 0 ≤ y) : (gv w h S x y e).1 y' x' = S.1 y' x' := by
  unfold gv
  split
  · rename_i q
    obtain ⟨⟨h1, h2⟩, h3⟩ := q
    show upd2 _ _ _ _ _ _ = _
    unfold upd2
    by_cases q1 : y' = y.toNat
    · rw [if_pos q1]
      by_cases q2 : x' = x.toNat
      · exact absurd ⟨by omega, by omega⟩ h0
      · rw [if_neg q2]
    · rw [if_neg q1]
  · rfl
theorem step_same {w h : Nat} {l m : Int} {M : Nat → Nat → Int} {S : St2} {x y : Nat} {a : Int} {x' y' : Nat} (hs : y' < y ∨ (y' = y ∧ (x' : Int) ≠ x + a)) : (stepF w h l m M S x y a).1 y' x' = S.1 y' x' := by
  unfold stepF
  simp only [gives, wx, wy]
  rw [gv_same (by omega) (by omega), gv_same (by omega) (by omega), gv_same (by omega) (by omega), gv_same (by omega) (by omega)]
theorem px_next {y w i j : Nat} (hi : i ≤ j) (hj : j < w) : ((px y w i : Nat) : Int) ≠ ((px y w j : Nat) : Int) + alongF y := by
  unfold px alongF
  split <;> omega
theorem px_inj {y w i j : Nat} (hi : i < w) (hj : j < w) (e : px y w i = px y w j) : i = j := by
  unfold px at e
  split at e <;> omega
theorem px_lt {y w i : Nat} (hi : i < w) : px y w i < w := by unfold px; split <;> omega

variable {w h : Nat} {l m : Int} {M : Nat → Nat → Int}
theorem row_same_in {y : Nat} {S : St2} {i : Nat} : ∀ n, i ≤ n → n ≤ w → (rowSt w h l m M y S n).2.1 y (px y w i) = (rowSt w h l m M y S i).2.1 y (px y w i)
  | 0, h1, _ => by rw [Nat.le_zero.mp h1]
  | n + 1, h1, h2 => by
    by_cases q : i = n + 1
    · rw [q]
    · rw [← row_same_in n (by omega) (by omega)]
      exact step_same (.inr ⟨rfl, px_next (by omega) (by omega)⟩)
theorem row_same_up {y y' : Nat} {S : St2} {x : Nat} (hy : y' < y) : ∀ n, (rowSt w h l m M y S n).2.1 y' x = S.1 y' x
  | 0 => rfl
  | n + 1 => by
    have h1 : (rowSt w h l m M y S (n + 1)).2.1 y' x = (rowSt w h l m M y S n).2.1 y' x := step_same (.inl hy)
    rw [h1, row_same_up hy n]
theorem all_same {y x : Nat} : ∀ n, y + 1 ≤ n → (allSt w h l m M n).1 y x = (allSt w h l m M (y + 1)).1 y x
  | 0, h1 => by omega
  | n + 1, h1 => by
    by_cases q : y = n
    · rw [q]
    · rw [← all_same n (by omega)]
      exact row_same_up (by omega) w
/-- what a place holds when its turn comes is what it holds at the end -/
theorem at_turn {y i n : Nat} (hi : i < w) (hn : y + 1 ≤ n) : (rowSt w h l m M y (allSt w h l m M y) i).2.1 y (px y w i) = (allSt w h l m M n).1 y (px y w i) := by
  rw [all_same n hn, ← row_same_in w (by omega) (Nat.le_refl _)]
  rfl
theorem fnd_in {y : Nat} {S : St2} {i : Nat} (hi : i < w) : ∀ n, i < n → n ≤ w → (rowSt w h l m M y S n).1 (px y w i) = idxF l m M (rowSt w h l m M y S i).2 (px y w i) y
  | 0, h1, _ => by omega
  | n + 1, h1, h2 => by
    show (if px y w i = px y w n then _ else _) = _
    by_cases q : i = n
    · subst q; rw [if_pos rfl]
    · rw [if_neg fun z => q (px_inj hi (by omega) z)]
      exact fnd_in hi n (by omega) (by omega)
theorem fnd_eq {y i : Nat} (hi : i < w) : fnd w h l m M y (px y w i) = idxF l m M (rowSt w h l m M y (allSt w h l m M y) i).2 (px y w i) y := fnd_in hi w hi (Nat.le_refl _)

theorem sum_px {y : Nat} {f : Nat → Int} (hw : w ≤ 4) : (rowI w fun i => f (px y w i)).sum = (rowI w f).sum := by
  have : w = 0 ∨ w = 1 ∨ w = 2 ∨ w = 3 ∨ w = 4 := by omega
  unfold px
  by_cases q : y % 2 = 0
  · simp only [q, if_true]
  · simp only [q, if_false]
    rcases this with rfl | rfl | rfl | rfl | rfl <;> simp [rowI, List.range_succ] <;> omega
theorem tot_row {y : Nat} {S : St2} : ∀ n, tot w h (rowSt w h l m M y S n).2 = tot w h S + (rowI n fun i => errF l m M (rowSt w h l m M y S i).2 (px y w i) y).sum
  | 0 => by simp [rowI, rowSt]
  | n + 1 => by
    rw [rowI_succ]
    show tot w h (stepF w h l m M (rowSt w h l m M y S n).2 (px y w n) y (alongF y)) = _
    rw [tot_step, tot_row n]; omega
theorem tot_all {N : Nat} (hw : w ≤ 4) : ∀ n, n ≤ N → tot w h (allSt w h l m M n) = (rowI n fun y => (rowI w fun x => M y x + (allSt w h l m M N).1 y x - lv (fnd w h l m M y x) l m).sum).sum
  | 0, _ => by
    have h0 : ∀ h : Nat, sum2 w h (fun _ _ => 0) = 0 := fun h => by
      have hz : ∀ n : Nat, (rowI n fun _ => (0 : Int)).sum = 0 := fun n => by
        induction n with
        | zero => rfl
        | succ n ih => rw [rowI_succ, ih]; rfl
      show (rowI h fun y => (rowI w fun _ => (0 : Int)).sum).sum = 0
      rw [hz w, hz h]
    show sum2 w h (fun _ _ => 0) + 0 = _
    rw [h0]; rfl
  | n + 1, hn => by
    rw [rowI_succ, ← tot_all hw n (by omega)]
    show tot w h (rowSt w h l m M n (allSt w h l m M n) w).2 = _
    rw [tot_row w]
    congr 1
    rw [← sum_px (y := n) (f := fun x => M n x + (allSt w h l m M N).1 n x - lv (fnd w h l m M n x) l m) hw]
    congr 1
    refine rowI_congr fun i hi => ?_
    rw [← at_turn hi hn, fnd_eq hi]
    rfl
theorem rowI_sub {f g : Nat → Int} : ∀ n : Nat, (rowI n fun x => f x - g x).sum = (rowI n f).sum - (rowI n g).sum
  | 0 => by simp [rowI]
  | n + 1 => by rw [rowI_succ, rowI_succ, rowI_succ, rowI_sub n]; omega
theorem rowI_add {f g : Nat → Int} : ∀ n : Nat, (rowI n fun x => f x + g x).sum = (rowI n f).sum + (rowI n g).sum
  | 0 => by simp [rowI]
  | n + 1 => by rw [rowI_succ, rowI_succ, rowI_succ, rowI_add n]; omega
/-- all samples are what the levels stand for and what was lost -/
theorem all_kept (hw : w ≤ 4) : sum2 w h M = sum2 w h (fun y x => lv (fnd w h l m M y x) l m) + (allSt w h l m M h).2 := by
  have h1 := tot_all (w := w) (h := h) (l := l) (m := m) (M := M) (N := h) hw h (Nat.le_refl _)
  have h2 : (rowI h fun y => (rowI w fun x => M y x + (allSt w h l m M h).1 y x - lv (fnd w h l m M y x) l m).sum).sum = sum2 w h M + sum2 w h (allSt w h l m M h).1 - sum2 w h (fun y x => lv (fnd w h l m M y x) l m) := by
    unfold sum2
    rw [← rowI_add, ← rowI_sub]
    congr 1
    refine rowI_congr fun y hy => ?_
    rw [rowI_sub, rowI_add]
  rw [h2] at h1
  unfold tot at h1
  omega
end

/-! VP3 -/
section
variable {w h : Nat} {l m : Int} {M : Nat → Nat → Int}

/-! the nearest level -/
theorem near_first {v : Int} : ∀ k, ∃ j : Nat, j ≤ k ∧ nearF l m v k = (j : Int) ∧ (∀ i : Nat, i ≤ k → ab (lv j l m - v) ≤ ab (lv i l m - v)) ∧ ∀ i : Nat, i < j → ab (lv j l m - v) < ab (lv i l m - v)
  | 0 => ⟨0, Nat.le_refl _, rfl, fun i hi => by rw [Nat.le_zero.mp hi]; exact Int.le_refl _, fun i hi => by omega⟩
  | k + 1 => by
    obtain ⟨j, h1, h2, h3, h4⟩ := near_first (v := v) k
    have e : (1 : Int) + (k : Int) * 1 = ((k + 1 : Nat) : Int) := by omega
    show ∃ j : Nat, j ≤ k + 1 ∧ (if ab (lv (1 + (k : Int) * 1) l m - v) < ab (lv (nearF l m v k) l m - v) then 1 + (k : Int) * 1 else nearF l m v k) = (j : Int) ∧ _
    rw [h2, e]
    by_cases q : ab (lv ((k + 1 : Nat) : Int) l m - v) < ab (lv (j : Int) l m - v)
    · rw [if_pos q]
      refine ⟨k + 1, Nat.le_refl _, rfl, fun i hi => ?_, fun i hi => ?_⟩
      · by_cases z : i = k + 1
        · rw [z]; exact Int.le_refl _
        · exact Int.le_trans (Int.le_of_lt q) (h3 i (by omega))
      · exact Int.lt_of_lt_of_le q (h3 i (by omega))
    · rw [if_neg q]
      refine ⟨j, by omega, rfl, fun i hi => ?_, h4⟩
      by_cases z : i = k + 1
      · rw [z]; exact Int.not_lt.mp q
      · exact h3 i (by omega)
theorem idx_first {n j : Nat} {f : Nat → Int} (hj : j < n) (hlt : ∀ i, i < j → f j < f i) : (rowI n f).idxOf (f j) = j := by
  have hl : j < (rowI n f).length := by rw [rowI_len]; exact hj
  have hg : ∀ i (hi : i < (rowI n f).length), (rowI n f)[i] = f i := fun i hi => by simp [rowI]
  rw [List.idxOf, List.findIdx_eq hl]
  refine ⟨by rw [hg]; simp, fun i hi => ?_⟩
  rw [hg]
  have := hlt i hi
  simp only [beq_eq_false_iff_ne, ne_eq]
  omega
noncomputable def apartF (l m v : Int) : List Int := rowI l.toNat fun i => ab (lv (i : Int) l m - v)
theorem near_idx {v Mn : Int} (hl : 2 ≤ l) (h1 : Mn ∈ apartF l m v) (h2 : ∀ a ∈ apartF l m v, Mn ≤ a) : ((apartF l m v).idxOf Mn : Int) = nearF l m v (l - 1).toNat := by
  obtain ⟨j, e1, e2, e3, e4⟩ := near_first (l := l) (m := m) (v := v) (l - 1).toNat
  have hj : j < l.toNat := by omega
  have e5 : Mn = ab (lv (j : Int) l m - v) := by
    refine Int.le_antisymm (h2 _ ?_) ?_
    · exact List.mem_map.mpr ⟨j, List.mem_range.mpr hj, rfl⟩
    · obtain ⟨i, hi, rfl⟩ := List.mem_map.mp h1
      exact e3 i (by have := List.mem_range.mp hi; omega)
  rw [e2, e5]
  congr 1
  exact idx_first (f := fun i => ab (lv (i : Int) l m - v)) hj e4
theorem near_b {v : Int} (hl : 2 ≤ l) : 0 ≤ nearF l m v (l - 1).toNat ∧ nearF l m v (l - 1).toNat < l := by
  obtain ⟨j, e1, e2, _⟩ := near_first (l := l) (m := m) (v := v) (l - 1).toNat
  rw [e2]; omega
theorem px_onto {y w x : Nat} (hx : x < w) : ∃ i, i < w ∧ px y w i = x := by
  unfold px
  split
  · exact ⟨x, hx, rfl⟩
  · exact ⟨w - 1 - x, by omega, by omega⟩
theorem fnd_b {y x : Nat} (hl : 2 ≤ l) (hx : x < w) : 0 ≤ fnd w h l m M y x ∧ fnd w h l m M y x < l := by
  obtain ⟨i, hi, rfl⟩ := px_onto (y := y) hx
  rw [fnd_eq hi]
  exact near_b hl

/-! the places, one after the other -/
noncomputable def rowP (w y : Nat) : List (Nat × Nat × Int) := (List.range w).map fun i => (px y w i, y, alongF y)
noncomputable def placesF (w : Nat) : Nat → List (Nat × Nat × Int)
  | 0 => []
  | y + 1 => placesF w y ++ rowP w y
theorem places_list : ∀ w, w ≤ 4 → ∀ h, h ≤ 3 → placesF w h = (List.range (w * h)).map fun p => (px (p / w) w (p % w), p / w, alongF (p / w)) := by decide +kernel
theorem places_at (w : Nat) (hw : w ≤ 4) (h : Nat) (hh : h ≤ 3) (p : Nat) (hp : p < w * h) : (placesF w h)[p]? = some (px (p / w) w (p % w), p / w, alongF (p / w)) := by
  rw [places_list w hw h hh, List.getElem?_map, List.getElem?_range hp]; rfl
theorem places_len : ∀ w, w ≤ 4 → ∀ h, h ≤ 3 → (placesF w h).length = w * h := by decide +kernel
theorem places_in : ∀ w, w ≤ 4 → ∀ h, h ≤ 3 → ∀ p ∈ placesF w h, p.1 < w ∧ p.2.1 < h := by decide +kernel
theorem places_has : ∀ w, w ≤ 4 → ∀ h, h ≤ 3 → ∀ x, x < w → ∀ y, y < h → (placesF w h).any (fun p => decide (p.1 = x ∧ p.2.1 = y)) = true := by decide +kernel
theorem places_nodup : ∀ w, w ≤ 4 → ∀ h, h ≤ 3 → ((placesF w h).map fun p => ((p.1 : Int), (p.2.1 : Int))).Nodup := by decide +kernel
noncomputable def placeAV (p : Nat × Nat × Int) : AV := .tup [.int p.1, .int p.2.1, .int p.2.2]

noncomputable def flatSt (w h : Nat) (l m : Int) (M : Nat → Nat → Int) (p : Nat) : St2 := (rowSt w h l m M (p / w) (allSt w h l m M (p / w)) (p % w)).2
theorem flat_zero (hw : 0 < w) : flatSt w h l m M 0 = (fun _ _ => 0, 0) := by
  unfold flatSt; rw [Nat.zero_div, Nat.zero_mod]; rfl
theorem flat_end (hw : 0 < w) : flatSt w h l m M (w * h) = allSt w h l m M h := by
  unfold flatSt; rw [Nat.mul_div_cancel_left _ hw, Nat.mul_mod_right]; rfl
theorem flat_succ (hw : 0 < w) (p : Nat) : flatSt w h l m M (p + 1) = stepF w h l m M (flatSt w h l m M p) (px (p / w) w (p % w)) (p / w) (alongF (p / w)) := by
  have h0 := Nat.div_add_mod p w
  have h1 := Nat.mod_lt p hw
  unfold flatSt
  by_cases q : p % w + 1 < w
  · have e1 : (p + 1) / w = p / w := by
      rw [Nat.div_eq_iff hw]
      have : w * (p / w) = p / w * w := Nat.mul_comm _ _
      omega
    have e2 : (p + 1) % w = p % w + 1 := by
      have := Nat.div_add_mod (p + 1) w
      rw [e1] at this; omega
    rw [e1, e2]; rfl
  · have e0 : p + 1 = w * (p / w + 1) := by rw [Nat.mul_add]; omega
    have e1 : (p + 1) / w = p / w + 1 := by rw [e0, Nat.mul_div_cancel_left _ hw]
    have e2 : (p + 1) % w = 0 := by rw [e0, Nat.mul_mod_right]
    rw [e1, e2]
    show allSt w h l m M (p / w + 1) = _
    show (rowSt w h l m M (p / w) (allSt w h l m M (p / w)) w).2 = _
    have e3 : w = p % w + 1 := by omega
    have : ∀ n, n = p % w + 1 → (rowSt w h l m M (p / w) (allSt w h l m M (p / w)) n).2 = stepF w h l m M (rowSt w h l m M (p / w) (allSt w h l m M (p / w)) (p % w)).2 (px (p / w) w (p % w)) (p / w) (alongF (p / w)) := by
      rintro n rfl; rfl
    exact this w e3

/-! what comes to each place, as the law's dict has it -/
noncomputable def gW (M : Nat → Nat → Int) (S : St2) (y x : Nat) : Int := M y x + S.1 y x
noncomputable def esOf (w h : Nat) (f : Nat → Nat → Int) : List ((Int × Int) × AV) := (placesF w h).map fun p => (((p.1 : Int), (p.2.1 : Int)), AV.int (f p.2.1 p.1))
theorem lookup_map {f : Nat → Nat → Int} {x y : Int} : ∀ ps : List (Nat × Nat × Int), (ps.map fun p => (((p.1 : Int), (p.2.1 : Int)), AV.int (f p.2.1 p.1))).lookup (x, y) = if ps.any (fun p => decide ((p.1 : Int) = x ∧ (p.2.1 : Int) = y)) then some (AV.int (f y.toNat x.toNat)) else none
  | [] => rfl
  | p :: ps => by
    rw [List.map_cons, List.lookup_cons, lookup_map ps, List.any_cons]
    by_cases q : (p.1 : Int) = x ∧ (p.2.1 : Int) = y
    · have e : ((x, y) == ((p.1 : Int), (p.2.1 : Int))) = true := by rw [q.1, q.2]; exact beq_self_eq_true _
      rw [e, decide_eq_true q]
      simp only [Bool.true_or, if_true]
      rw [show y.toNat = p.2.1 from by omega, show x.toNat = p.1 from by omega]
    · have e : ((x, y) == ((p.1 : Int), (p.2.1 : Int))) = false := by
        rw [beq_eq_false_iff_ne]; intro z
        have z1 := congrArg Prod.fst z
        have z2 := congrArg Prod.snd z
        exact q ⟨z1.symm, z2.symm⟩
      rw [e, decide_eq_false q, Bool.false_or]
theorem any_place (hw : w ≤ 4) (hh : h ≤ 3) {x y : Int} (hy : 0 ≤ y) : (placesF w h).any (fun p => decide ((p.1 : Int) = x ∧ (p.2.1 : Int) = y)) = decide ((0 ≤ x ∧ x < w) ∧ y < h) := by
  by_cases q : (0 ≤ x ∧ x < w) ∧ y < h
  · rw [decide_eq_true q, List.any_eq_true]
    have := places_has w hw h hh x.toNat (by omega) y.toNat (by omega)
    rw [List.any_eq_true] at this
    obtain ⟨p, hp, e⟩ := this
    have e := of_decide_eq_true e
    exact ⟨p, hp, decide_eq_true ⟨by omega, by omega⟩⟩
  · rw [decide_eq_false q, List.any_eq_false]
    intro p hp e
    have e := of_decide_eq_true e
    have := places_in w hw h hh p hp
    exact q ⟨⟨by omega, by omega⟩, by omega⟩
theorem es_lookup (hw : w ≤ 4) (hh : h ≤ 3) {f : Nat → Nat → Int} {x y : Int} (hy : 0 ≤ y) : (esOf w h f).lookup (x, y) = if (0 ≤ x ∧ x < w) ∧ y < h then some (AV.int (f y.toNat x.toNat)) else none := by
  unfold esOf
  rw [lookup_map, any_place hw hh hy]
  by_cases q : (0 ≤ x ∧ x < w) ∧ y < h
  · rw [if_pos q, if_pos (decide_eq_true q)]
  · rw [if_neg q, if_neg (by rw [decide_eq_false q]; exact Bool.false_ne_true)]
theorem es_set (hw : w ≤ 4) (hh : h ≤ 3) {f : Nat → Nat → Int} {x y v : Int} (hx : (0 ≤ x ∧ x < w) ∧ y < h) (hy : 0 ≤ y) : dset (esOf w h f) (x, y) (.int v) = esOf w h (upd2 f y.toNat x.toNat v) := by
  unfold dset
  rw [es_lookup hw hh hy, if_pos hx]
  simp only [Option.isSome_some, if_true]
  unfold esOf
  rw [List.map_map]
  refine List.map_congr_left fun p hp => ?_
  show (if ((p.1 : Int), (p.2.1 : Int)) = (x, y) then (((p.1 : Int), (p.2.1 : Int)), AV.int v) else _) = _
  by_cases q : (p.1 : Int) = x ∧ (p.2.1 : Int) = y
  · rw [if_pos (by rw [q.1, q.2])]
    have : upd2 f y.toNat x.toNat v p.2.1 p.1 = v := by unfold upd2; rw [if_pos (by omega), if_pos (by omega)]
    rw [this]
  · rw [if_neg (fun z => q ⟨congrArg Prod.fst z, congrArg Prod.snd z⟩)]
    have : upd2 f y.toNat x.toNat v p.2.1 p.1 = f p.2.1 p.1 := by
      unfold upd2
      by_cases q1 : p.2.1 = y.toNat
      · rw [if_pos q1]
        by_cases q2 : p.1 = x.toNat
        · exact absurd ⟨by omega, by omega⟩ q
        · rw [if_neg q2]
      · rw [if_neg q1]
    rw [this]
theorem es_len (hw : w ≤ 4) (hh : h ≤ 3) {f : Nat → Nat → Int} : (esOf w h f).length ≤ 12 := by
  unfold esOf
  rw [List.length_map, places_len w hw h hh]
  exact Nat.mul_le_mul hw hh
theorem gW_gv {S : St2} {x y e : Int} (hx : (0 ≤ x ∧ x < w) ∧ y < h) : gW M (gv w h S x y e) = upd2 (gW M S) y.toNat x.toNat (gW M S y.toNat x.toNat + e) ∧ (gv w h S x y e).2 = S.2 := by
  unfold gv
  rw [if_pos hx]
  refine ⟨?_, rfl⟩
  funext y' x'
  unfold gW upd2
  dsimp only
  by_cases q1 : y' = y.toNat
  · rw [if_pos q1, if_pos q1]
    by_cases q2 : x' = x.toNat
    · rw [if_pos q2, if_pos q2, q1, q2]; omega
    · rw [if_neg q2, if_neg q2]
  · rw [if_neg q1, if_neg q1]
theorem gW_out {S : St2} {x y e : Int} (hx : ¬ ((0 ≤ x ∧ x < w) ∧ y < h)) : gW M (gv w h S x y e) = gW M S ∧ (gv w h S x y e).2 = S.2 + e := by
  unfold gv
  rw [if_neg hx]
  exact ⟨rfl, rfl⟩
end

/-! VF17 -/
section
variable {C : Cx} {n : Nat} {env : Env} {ρ : Loc} {σ : List AO} {K : Kv}
variable {b kp dp r w h : Nat} {l m : Int} {M Cm : Nat → Nat → Int} {lost : Int}

theorem compC_pure {scope : Scope} {names : List PySem.Str} {target elt : Expr} {it : AV} {items : List AV} {Kp : List AO → Prop} {vals : List AV} {D : List AO → Prop} (ok : IterOk it items Kp) (hk0 : Kp σ) (hk : ∀ i, Kp (σ ++ [.list (vals.take i)])) (hlen : items.length = vals.length) (hn : vals.length ≤ 4096)
    (step : ∀ (L : Addr) (i : Nat) (v a : AV), items[i]? = some v → vals[i]? = some a → TgtN C n (compEnv2 scope L env) names target v (cLoc scope ρ) (σ ++ [.list (vals.take i)]) fun ρ₁ σ₁ => (∀ x v, cLoc scope ρ x = some v → ρ₁ x = some v) ∧ σ₁ = σ ++ [.list (vals.take i)] ∧
      EvC C n (compEnv2 scope L env) ρ₁ σ₁ elt fun v σ₃ => σ₃ = σ₁ ∧ v = a)
    (h : D (σ ++ [.list vals])) : CompC C n env ρ σ scope names target elt [] it D := by
  refine ⟨items, Kp, ok, fun i σ' => i ≤ vals.length ∧ σ' = σ ++ [.list (vals.take i)], ⟨Nat.zero_le _, rfl⟩, hk0, ?_, ?_, ?_⟩
  · rintro i σ' ⟨_, rfl⟩; exact hk i
  · rintro L i v σ' hv ⟨hi, rfl⟩
    have hlt : i < vals.length := by rw [← hlen]; exact (List.getElem?_eq_some_iff.mp hv).1
    intro A φ s Q E v' hA R F V P
    refine step L i v vals[i] hv (List.getElem?_eq_getElem hlt) A φ s Q E v' hA R F V ?_
    rintro φ₁ ρ₁ σ₁ s₁ ⟨hs, rfl, hev⟩ S F
    refine P φ₁ ρ₁ _ s₁ ⟨hs, ifs_nil ⟨fun q => (by cases q), fun _ => ?_⟩⟩ S F
    refine TrC.mono hev ?_
    rintro v σ₃ ⟨rfl, rfl⟩
    refine ⟨_, get_last, by rw [List.length_take]; omega, hlt, ?_⟩
    rw [set_last]
    congr 3
    rw [List.take_add_one, List.getElem?_eq_getElem hlt]; rfl
  · rintro σ' ⟨_, rfl⟩
    rw [hlen, List.take_length]
    exact h

set_option maxHeartbeats 2000000 in
theorem ct_places (hC : CxOk C) (hw : w ≤ 4) (hh : h ≤ 3) (hK : ∀ σ' q, Keeps σ σ' → σ'[q]? = some (.list ((placesF w h).map placeAV)) → K (.ref q) σ') :
    CallC C (n + 1) env ρ σ (.top (.ref 238)) [.int ((w : Nat) : Int), .int ((h : Nat) : Int)] K := by
  refine call_fn (f := 238) (names := ["width", "height"]) (by rw [hC.k]; rfl) (by rw [hC.k]; rfl) rfl (by decide +kernel) (by walk_at "args") (by decide +kernel) rfl rfl rfl ?_
  intro L cl
  dsimp only [bd25, sc25]
  walk_at "wk"
  refine ⟨by simp, ?_⟩
  walk_at "wk"
  refine ex_forB ["y"] ?_ (fun _ => rfl)
  walk_at "wk"
  refine b_range1 ?_
  refine ⟨_, _, .rng (m := h) (small_one (by omega) (by omega) (by omega) (by omega)) (rng_ok (by omega)), fun i bs σ' => ∃ q, bs = [bd "width" (.int w), bd "height" (.int h), bd "found" (.ref q)] ∧ Keeps σ σ' ∧ i ≤ h ∧ σ'[q]? = some (.list ((placesF w i).map placeAV)), ⟨_, .cons rfl (.cons rfl (.cons rfl .nil)), _, rfl, Keeps.app, Nat.zero_le _, get_last⟩, fun _ _ _ _ => trivial, ?_, ?_⟩
  · rintro i v bs σ₁ hv ⟨q, rfl, hk1, _, hq⟩
    obtain ⟨hi, rfl⟩ := rngItems_get hv
    rw [show (0 : Int) + (i : Int) * 1 = ((i : Nat) : Int) from by omega]
    refine tgt_name ?_ (.inr rfl) rfl (by decide)
    refine ex_cons (ExC.mono (K := fun f ρ₁ σ₂ => f = .next ∧ Keeps σ₁ σ₂ ∧ ∃ t, ρ₁ = upd (upd (locs [bd "width" (.int w), bd "height" (.int h), bd "found" (.ref q)]) "y" (.int i)) "row" (.ref t) ∧ σ₂[t]? = some (.list ((List.range w).map fun j => placeAV (j, i, 1)))) ?_ ?_)
    · refine ex_assignComp ["x"] ?_ rfl (fun _ => rfl) rfl (by decide +kernel) rfl (by decide +kernel) rfl rfl
      walk_at "wk"
      refine b_range1 ?_
      refine compC_pure (vals := (List.range w).map fun j => placeAV (j, i, 1)) (.rng (m := w) (small_one (by omega) (by omega) (by omega) (by omega)) (rng_ok (by omega))) trivial (fun _ => trivial) (by rw [rngItems_len]; simp) (by simp; omega) ?_ ?_
      · intro L j v a hv ha
        obtain ⟨hj, rfl⟩ := rngItems_get hv
        obtain ⟨_, rfl⟩ := map_get ha
        rw [show (0 : Int) + (j : Int) * 1 = ((j : Nat) : Int) from by omega]
        refine tgt_name ?_ (.inl rfl) rfl (by decide)
        refine ⟨csub_upd (by decide +kernel) csub_refl, rfl, ?_⟩
        walk_at "wk"
        exact ⟨by simp, rfl, rfl⟩
      · exact ⟨rfl, Keeps.app, _, rfl, get_last⟩
    rintro _ _ σ₂ ⟨rfl, hk2, t, rfl, ht⟩
    refine ex_cons (ExC.mono (K := fun f ρ₁ σ₃ => f = .next ∧ Keeps σ₁ σ₃ ∧ ∃ t, BindsIn ρ₁ [bd "width" (.int w), bd "height" (.int h), bd "found" (.ref q), bd "row" (.ref t)] ∧ σ₃[t]? = some (.list ((rowP w i).map placeAV))) ?_ ?_)
    · walk_at "wk"
      have e0 : ((i : Int).fmod 2 == 1) = !decide (i % 2 = 0) := by
        rw [Int.fmod_eq_emod_of_nonneg _ (by omega)]
        by_cases q : i % 2 = 0
        · rw [decide_eq_true q, Bool.not_true, beq_eq_false_iff_ne]; omega
        · rw [decide_eq_false q, Bool.not_false, beq_iff_eq]; omega
      rw [e0]
      refine ⟨fun z => ?_, fun z => ?_⟩
      · have z' : ¬ i % 2 = 0 := by
          intro y; rw [decide_eq_true y] at z; cases z
        walk_at "evS"
        refine ex_assignComp ["x"] ?_ rfl (fun _ => rfl) rfl (by decide +kernel) rfl (by decide +kernel) rfl rfl
        walk_at "wk"
        refine ev_neg ?_
        walk_at "wk"
        refine ⟨_, rfl, ?_⟩
        walk_at "wk"
        refine ev_neg ?_
        walk_at "wk"
        refine ⟨_, rfl, ?_⟩
        walk_at "wk"
        refine b_range3 (by decide) (PyProof.noPylong_small (by decide)) ?_
        refine compC_pure (vals := (rowP w i).map placeAV) (.rng (m := w) (small_dn (by omega) (by omega) (by omega) (by omega)) (by rw [size_dn]; split <;> omega)) trivial (fun _ => trivial) (by rw [rngItems_len]; simp [rowP]) (by simp [rowP]; omega) ?_ ?_
        · intro L j v a hv ha
          rw [rng_dn] at hv
          obtain ⟨hj, rfl⟩ := map_get hv
          unfold rowP at ha
          rw [List.map_map] at ha
          obtain ⟨_, rfl⟩ := map_get ha
          refine tgt_name ?_ (.inl rfl) rfl (by decide)
          refine ⟨csub_upd (by decide +kernel) csub_refl, rfl, ?_⟩
          walk_at "wk"
          refine ev_neg ?_
          walk_at "wk"
          refine ⟨_, rfl, ?_⟩
          walk_at "wk"
          refine ⟨by simp, rfl, ?_⟩
          show _ = placeAV (px i w j, i, alongF i)
          unfold px alongF placeAV
          rw [if_neg z', if_neg z']
        · walk_at "wk"
          exact ⟨rfl, hk2.trans Keeps.app, _, .cons rfl (.cons rfl (.cons rfl (.cons rfl .nil))), get_last⟩
      · have z' : i % 2 = 0 := by
          by_cases y : i % 2 = 0
          · exact y
          · rw [decide_eq_false y] at z; cases z
        walk_at "wk"
        refine ⟨rfl, hk2, _, .cons rfl (.cons rfl (.cons rfl (.cons rfl .nil))), ?_⟩
        rw [ht]
        congr 2
        unfold rowP
        rw [List.map_map]
        refine List.map_congr_left fun j hj => ?_
        show _ = placeAV (px i w j, i, alongF i)
        unfold px alongF
        rw [if_pos z', if_pos z']
    rintro _ ρ₁ σ₃ ⟨rfl, hk3, t', hb, ht'⟩
    refine ex_weaken (ρ' := locs [bd "width" (.int w), bd "height" (.int h), bd "found" (.ref q), bd "row" (.ref t')]) hb.sub ?_
    walk_at "wk"
    have hl := places_len w hw i (by omega)
    have hm : w * i ≤ 4 * 3 := Nat.mul_le_mul hw (by omega)
    refine bin_addL (hk3 _ _ hq) ht' (by simp [hl, rowP]; omega) ?_
    walk_at "wk"
    refine ⟨_, .cons rfl (.cons rfl (.cons rfl .nil)), _, rfl, (hk1.trans hk3).trans Keeps.app, hi, ?_⟩
    rw [get_last]
    simp [placesF]
  · rintro bs σ₁ ⟨q, rfl, hk1, _, hq⟩ ρ' hb
    rw [rngItems_len] at hq
    refine ex_weaken (ρ' := locs [bd "width" (.int w), bd "height" (.int h), bd "found" (.ref q)]) hb.sub ?_
    walk_at "wk"
    exact ⟨.inr ⟨_, rfl⟩, hK _ _ hk1 hq⟩
end

/-! VF18 -/
section
variable {C : Cx} {n : Nat} {env : Env} {ρ : Loc} {σ : List AO} {K : Kv}
variable {b kp dp r w h : Nat} {l m : Int} {M Cm : Nat → Nat → Int} {lost : Int}

/-- where the law's own reckoning stands -/
structure Reck (σ : List AO) (kd kg w h : Nat) (M : Nat → Nat → Int) (S : St2) (N : Nat) : Prop where
  d : σ[kd]? = some (.dict (esOf w h (gW M S)))
  g : ∃ gs, σ[kg]? = some (.list (iL gs)) ∧ gs.sum = S.2 ∧ gs.length ≤ N
noncomputable def Beside (kd kg : Nat) (σ σ' : List AO) : Prop := ∀ k o, k ≠ kd → k ≠ kg → σ[k]? = some o → σ'[k]? = some o
theorem Beside.trans {kd kg : Nat} {σ σ' σ'' : List AO} (a : Beside kd kg σ σ') (c : Beside kd kg σ' σ'') : Beside kd kg σ σ'' := fun k o h1 h2 e => c k o h1 h2 (a k o h1 h2 e)
theorem Beside.refl {kd kg : Nat} : Beside kd kg σ σ := fun _ _ _ _ e => e
theorem Keeps.beside {kd kg : Nat} {σ' : List AO} (a : Keeps σ σ') : Beside kd kg σ σ' := fun k o _ _ e => a k o e
theorem Beside.set1 {kd kg : Nat} {o : AO} : Beside kd kg σ (σ.set kd o) := fun k o h1 _ e => by rw [List.getElem?_set_ne (Ne.symm h1)]; exact e
theorem Beside.set2 {kd kg : Nat} {o : AO} : Beside kd kg σ (σ.set kg o) := fun k o _ h1 e => by rw [List.getElem?_set_ne (Ne.symm h1)]; exact e

set_option maxHeartbeats 1000000 in
theorem ct_given (hC : CxOk C) (hw : w ≤ 4) (hh : h ≤ 3) {kd kg N : Nat} {S : St2} {x y e : Int} (hy : 0 ≤ y) (R : Reck σ kd kg w h M S N) (hN : N < 4096)
    (hK : ∀ σ', Beside kd kg σ σ' → Reck σ' kd kg w h M (gv w h S x y e) (N + 1) → K .none σ') : CallC C (n + 1) env ρ σ (.top (.ref 245)) [.ref kd, .ref kg, .tup [.int x, .int y], .int e] K := by
  refine call_fn (f := 245) (names := ["come", "lost", "spot", "error"]) (by rw [hC.k]; rfl) (by rw [hC.k]; rfl) rfl (by decide +kernel) (by walk_at "args") (by decide +kernel) rfl rfl rfl ?_
  intro L cl
  dsimp only [bd26, sc26]
  obtain ⟨hd, gs, hg, hgs, hgl⟩ := R
  have hlk := es_lookup hw hh (f := gW M S) (x := x) (y := y) hy
  have hne : kd ≠ kg := by rintro rfl; rw [hd] at hg; cases hg
  have hld := (List.getElem?_eq_some_iff.mp hd).1
  have hlg := (List.getElem?_eq_some_iff.mp hg).1
  walk_at "wk"
  refine cmp_inD hd ?_
  rw [hlk]
  by_cases q : (0 ≤ x ∧ x < w) ∧ y < h
  · rw [if_pos q] at hlk ⊢
    refine ⟨_, rfl, fun _ => ?_, fun z => (by cases z)⟩
    walk_at "wk"
    refine sub_dict hd hlk ?_ ps_name
    walk_at "wk"
    refine set_dictD hd (by have := es_len hw hh (f := gW M S); omega) ?_
    rw [es_set hw hh q hy]
    walk_at "wk"
    obtain ⟨g1, g2⟩ := gW_gv (M := M) (S := S) (e := e) q
    refine ⟨.inl rfl, hK _ Beside.set1 ⟨?_, gs, ?_, ?_, by omega⟩⟩
    · rw [List.getElem?_set_self hld, g1]
    · rw [List.getElem?_set_ne hne]; exact hg
    · rw [g2]; exact hgs
  · rw [if_neg q] at hlk ⊢
    refine ⟨_, rfl, fun z => (by cases z), fun _ => ?_⟩
    walk_at "wk"
    refine ev_append ?_ rfl rfl
    walk_at "wk"
    refine ⟨_, rfl, ⟨_, hg⟩, ?_⟩
    walk_at "wk"
    refine ⟨_, hg, by rw [iL_len]; omega, .inl rfl, ?_⟩
    walk_at "wk"
    obtain ⟨g1, g2⟩ := gW_out (M := M) (S := S) (e := e) q
    refine ⟨.inl rfl, hK _ Beside.set2 ⟨?_, gs ++ [e], ?_, ?_, by simp; omega⟩⟩
    · rw [List.getElem?_set_ne (Ne.symm hne), g1]; exact hd
    · rw [List.getElem?_set_self hlg, iL_snoc]
    · rw [g2, List.sum_append, hgs]; simp
end

/-! VF19 -/
section
variable {C : Cx} {n : Nat} {env : Env} {ρ : Loc} {σ : List AO} {K : Kv}
variable {b kp dp r w h : Nat} {l m : Int} {M Cm : Nat → Nat → Int} {lost : Int}

theorem isInt_self (a b : Int) (t : Tok) : isInt a (.int b t) = (b == a) := rfl
theorem ints_kf : ∀ {items : List Value} {ns : List Int}, IntsAre items ns → kf_ints items = true
  | _, _, .nil => rfl
  | _, _, .cons (vs := vs) _ _ r => (ints_kf r : kf_ints vs = true)
theorem ints_idx {k : Int} : ∀ {items : List Value} {ns : List Int}, IntsAre items ns → k ∈ ns → kf_at k items = some (ns.idxOf k)
  | _, _, .nil, h => nomatch h
  | _, _, .cons a t (vs := vs) (ns := ns) r, h => by
    unfold kf_at
    rw [isInt_self, List.idxOf_cons]
    cases q : a == k with
    | true => rfl
    | false =>
      have hk : k ∈ ns := by
        rcases List.mem_cons.mp h with rfl | h
        · rw [beq_self_eq_true] at q; cases q
        · exact h
      rw [ints_idx r hk]
      simp
theorem b_index2 {k : Nat} {ns : List Int} {i : Int} (e : σ[k]? = some (.list (iL ns))) (hi : i ∈ ns) (h : K (.int (ns.idxOf i : Nat)) σ) : CallC C n env ρ σ (.top (.builtin "list.index")) [.ref k, .int i] K := by
  intro A φ s Q E f' vs' hA R F Vf V P
  cases Vf; obtain ⟨_, _, rfl, V0, V1⟩ := V.two; cases V0; cases V1
  obtain ⟨items, ep, he, hv, hn⟩ := R.listAt e
  have N : News ({} : Heap) (φ k + 1) s.heap [(φ k, W.listOf items.toArray ep)] := fun p hp => by
    rw [List.mem_singleton.mp hp]
    exact ⟨he, Nat.ne_of_lt (Nat.lt_succ_self _), rfl⟩
  have hlen := hv.length
  exact kf_index N (.head _) (ints_kf hv.toInts) (ints_idx hv.toInts hi) rfl (by rw [sizeLine_eq]; simp only [List.toList_toArray]; omega) (P.tok R h .int)
theorem es_map_get {f : Nat → Nat → Int} {i : Nat} {v a : AV} (hv : ((placesF w h).map placeAV)[i]? = some v) (ha : ((esOf w h f).map pairAV)[i]? = some a) : ∃ p ∈ placesF w h, v = placeAV p ∧ a = .tup [.tup [.int p.1, .int p.2.1], .int (f p.2.1 p.1)] := by
  unfold esOf at ha
  rw [List.map_map, List.getElem?_map] at ha
  rw [List.getElem?_map] at hv
  cases e : (placesF w h)[i]? with
  | none => rw [e] at hv; cases hv
  | some p =>
    rw [e] at hv ha
    cases hv; cases ha
    exact ⟨p, List.mem_of_getElem? e, rfl, rfl⟩
theorem es_nodup (hw : w ≤ 4) (hh : h ≤ 3) {f : Nat → Nat → Int} : ((esOf w h f).map (·.1)).Nodup := by
  unfold esOf
  rw [List.map_map]
  exact places_nodup w hw h hh
theorem gW_zero : gW M (fun _ _ => 0, 0) = M := by
  funext y x
  unfold gW
  exact Int.add_zero _
theorem step_eq {S : St2} {x y : Nat} {a e : Int} (he : errF l m M S x y = e) :
    gv w h (gv w h (gv w h (gv w h S (x + a) y ((e * 7).fdiv 16)) (x - a) (y + 1) ((e * 3).fdiv 16)) x (y + 1) ((e * 5).fdiv 16)) (x + a) (y + 1) (e - (e * 7).fdiv 16 - (e * 3).fdiv 16 - (e * 5).fdiv 16) = stepF w h l m M S x y a := by
  unfold stepF
  rw [he]
  simp only [gives, wx, wy, partsF, List.getD_cons_zero, List.getD_cons_succ]
  rw [show (x : Int) + a * 1 = x + a from by omega, show (x : Int) + a * -1 = x - a from by omega, show (x : Int) + a * 0 = x from by omega, show (y : Int) + 0 = y from by omega]
  rw [show e - (e * 7).fdiv 16 - (e * 3).fdiv 16 - (e * 5).fdiv 16 = e - ((e * 7).fdiv 16 + ((e * 3).fdiv 16 + ((e * 5).fdiv 16 + 0))) from by omega]
theorem fnd_flat (hw0 : 0 < w) (p : Nat) : fnd w h l m M (p / w) (px (p / w) w (p % w)) = idxF l m M (flatSt w h l m M p) (px (p / w) w (p % w)) (p / w) := fnd_eq (Nat.mod_lt p hw0)
theorem Reck.mono {kd kg N N' : Nat} {S : St2} (R : Reck σ kd kg w h M S N) (hN : N ≤ N') : Reck σ kd kg w h M S N' := let ⟨d, gs, g1, g2, g3⟩ := R; ⟨d, gs, g1, g2, Nat.le_trans g3 hN⟩
theorem Reck.keep {kd kg N : Nat} {S : St2} {σ' : List AO} (R : Reck σ kd kg w h M S N) (hk : Keeps σ σ') : Reck σ' kd kg w h M S N := let ⟨d, gs, g1, g2, g3⟩ := R; ⟨hk _ _ d, gs, hk _ _ g1, g2, g3⟩
theorem meth_index {k : Nat} {vs : List AV} (e : σ[k]? = some (.list vs)) : MethC C n env ρ σ (.ref k) "index" (.builtin "list.index") := meth_list e PySem.F.slot_list_index PySem.F.type_list_index

set_option maxHeartbeats 4000000 in
theorem ct_spread_right (hC : CxOk C) (hl : 2 ≤ l) (hl' : l ≤ 4) (hm : 0 ≤ m) (hm' : m ≤ 255) (hlm : l ≤ m + 1) (hw0 : 0 < w) (hw : w ≤ 4) (hh : h ≤ 3) (hp : PlaneAt σ σ.length kp dp r w h M) (hf : Flat σ)
    (hK : ∀ σ', Keeps σ σ' → K (.bool true) σ') : CallC C (n + 6) env ρ σ (.top (.ref 250)) [.ref kp, .int l, .int m] K := by
  refine call_fn (f := 250) (names := ["plane", "levels", "most"]) (by rw [hC.k]; rfl) (by rw [hC.k]; rfl) rfl (by decide +kernel) (by walk_at "args") (by decide +kernel) rfl rfl rfl ?_
  intro L cl
  dsimp only [bd27, sc27]
  have nt : ∀ k x, AV.ref k = .top x → handedIn x = true := fun _ _ q => by cases q
  have ni : ∀ k x, AV.int k = .top x → handedIn x = true := fun _ _ q => by cases q
  obtain ⟨rr, hr1, hr2⟩ := hp.rows
  walk_at "evS"
  refine ex_assignT ?_ rfl rfl
  walk_at "wk"
  refine ct_spread_plane hC hl hl' hm hm' hlm (by omega) (by omega) hp hf fun σ₁ kf df rf hk1 hf1 hpf => ?_
  refine (TgtN.toC (names := ["found", "lost"]) (tgt_tup ?_ rfl rfl))
  refine tgts_cons (tgt_name ?_ (.inl rfl) rfl (by decide))
  refine tgts_cons (tgt_name ?_ (.inl rfl) rfl (by decide))
  refine tgts_nil ?_
  obtain ⟨fr, hfr1, hfr2⟩ := hpf.rows
  have hpi : ∀ σ', Keeps σ₁ σ' → σ'[kp]? = some (.inst 84 dp) := fun σ' hk => hk _ _ (hk1 _ _ hp.inst)
  have hpa : ∀ σ', Keeps σ₁ σ' → σ'[dp]? = some (.attrs [bd "width" (.int w), bd "height" (.int h), bd "rows" (.ref r)]) := fun σ' hk => hk _ _ (hk1 _ _ hp.attrs)
  have hfi : ∀ σ', Keeps σ₁ σ' → σ'[kf]? = some (.inst 84 df) := fun σ' hk => hk _ _ hpf.inst
  have hfa : ∀ σ', Keeps σ₁ σ' → σ'[df]? = some (.attrs [bd "width" (.int w), bd "height" (.int h), bd "rows" (.ref rf)]) := fun σ' hk => hk _ _ hpf.attrs
  walk_at "evS"
  refine ex_assignComp ["index"] ?_ rfl (fun _ => rfl) rfl (by decide +kernel) rfl (by decide +kernel) rfl rfl
  walk_at "wk"
  refine b_range1 ?_
  refine compC_ints (.rng (m := l.toNat) (small_one (by omega) (by omega) (by omega) (by omega)) (rng_ok (by omega))) trivial (fun _ => trivial) (vals := valsL l m) (by rw [rngItems_len, valsL_len]) (by rw [valsL_len]; omega) ?_ ?_
  · intro L i v a hv ha
    obtain ⟨hi, rfl⟩ := rngItems_get hv
    rw [valsL_get hi] at ha; cases ha
    refine tgt_name ?_ (.inl rfl) rfl (by decide)
    refine ⟨csub_upd (by decide +kernel) csub_refl, rfl, ?_⟩
    walk_at "wk"
    refine ct_level_value hC hl hl' hm hm' ?_
    refine ⟨rfl, ?_⟩
    congr 2
    omega
  walk_at "wk"
  refine ev_attr ?_ rfl
  walk_at "wk"
  refine at_pl hC (hpi _ Keeps.app) (hpa _ Keeps.app) (.inl rfl) rfl (ni _) ?_
  walk_at "wk"
  refine ev_attr ?_ rfl
  walk_at "wk"
  refine at_pl hC (hpi _ Keeps.app) (hpa _ Keeps.app) (.inr (.inl rfl)) rfl (ni _) ?_
  walk_at "wk"
  refine ct_places hC hw hh fun σ₂ q hk2 hq => ?_
  have hk12 : Keeps σ₁ σ₂ := Keeps.app.trans hk2
  walk_at "evS"
  refine ex_assignS (names := ["come", "gone"]) ?_ rfl rfl (List.forall_mem_cons.mpr ⟨.inl rfl, List.forall_mem_cons.mpr ⟨.inl rfl, fun _ h => nomatch h⟩⟩) rfl
  walk_at "wk"
  refine ev_comp ["x", "y", "along"] ?_ (fun _ => rfl) rfl (by decide +kernel) rfl (by decide +kernel)
  walk_at "wk"
  have hpl := places_len w hw h hh
  have hwh : w * h ≤ 4 * 3 := Nat.mul_le_mul hw hh
  refine compC_pure (vals := (esOf w h M).map pairAV) .list hq (fun _ => get_app hq) (by simp [esOf]) (by simp [esOf, hpl]; omega) ?_ ?_
  · intro L i v a hv ha
    obtain ⟨p, hp1, rfl, rfl⟩ := es_map_get hv ha
    obtain ⟨hx, hy⟩ := places_in w hw h hh p hp1
    refine tgt_tup ?_ rfl rfl
    refine tgts_cons (tgt_name ?_ (.inl rfl) rfl (by decide))
    refine tgts_cons (tgt_name ?_ (.inl rfl) rfl (by decide))
    refine tgts_cons (tgt_name ?_ (.inl rfl) rfl (by decide))
    refine tgts_nil ?_
    refine ⟨csub_upd (by decide +kernel) (csub_upd (by decide +kernel) (csub_upd (by decide +kernel) csub_refl)), rfl, ?_⟩
    walk_at "wk"
    refine ⟨by simp, ?_⟩
    walk_at "wk"
    refine ev_attr ?_ rfl
    walk_at "wk"
    refine at_pl hC (hpi _ (hk12.trans Keeps.app)) (hpa _ (hk12.trans Keeps.app)) (.inr (.inr rfl)) rfl (nt _) ?_
    walk_at "wk"
    refine sub_list (get_app (hk12 _ _ (hk1 _ _ hr1))) (by omega) (range_refI hy) ?_ ps_name
    walk_at "wk"
    refine sub_list (get_app (hk12 _ _ (hk1 _ _ (hr2 _ hy).2))) (by omega) (rowI_getI hx) ?_ ps_name
    walk_at "wk"
    exact ⟨by simp, rfl, rfl⟩
  walk_at "wk"
  refine b_dict get_last (es_nodup hw hh) ?_
  walk_at "wk"
  refine ⟨by simp, ?_⟩
  walk_at "wk"
  refine ⟨by simp, _, rfl, rfl, ?_⟩
  generalize hσ3 : σ₂ ++ [AO.list ((esOf w h M).map pairAV)] = σ₃
  have hk3 : Keeps σ₂ σ₃ := by rw [← hσ3]; exact Keeps.app
  walk_at "wk"
  refine ex_forB ["x", "y", "along"] ?_ (fun _ => rfl)
  walk_at "wk"
  have hkg : (σ₃ ++ [AO.dict (esOf w h M)]).length = σ₃.length + 1 := by simp
  rw [hkg]
  have old : ∀ σ', Beside σ₃.length (σ₃.length + 1) (σ₃ ++ [AO.dict (esOf w h M)] ++ [AO.list []]) σ' → Keeps σ₃ σ' := fun σ' hb k o e => by
    have := (List.getElem?_eq_some_iff.mp e).1
    exact hb k o (by omega) (by omega) (get_app (get_app e))
  have hk13 : Keeps σ₁ σ₃ := hk12.trans hk3
  refine ⟨_, _, .list, fun p bs σ' => bs = [bd "plane" (.ref kp), bd "levels" (.int l), bd "most" (.int m), bd "found" (.ref kf), bd "lost" (.int (allSt w h l m M h).2), bd "values" (.ref σ₁.length), bd "places" (.ref q), bd "come" (.ref σ₃.length), bd "gone" (.ref (σ₃.length + 1))] ∧
    Beside σ₃.length (σ₃.length + 1) (σ₃ ++ [AO.dict (esOf w h M)] ++ [AO.list []]) σ' ∧ Reck σ' σ₃.length (σ₃.length + 1) w h M (flatSt w h l m M p) (4 * p), ?_, fun i bs σ' ⟨_, hb, _⟩ => old _ hb _ _ (hk3 _ _ hq), ?_, ?_⟩
  · refine ⟨_, .cons rfl (.cons rfl (.cons rfl (.cons rfl (.cons rfl (.cons rfl (.cons rfl (.cons rfl (.cons rfl .nil)))))))), rfl, Beside.refl, ?_, [], by simp [iL], by rw [flat_zero hw0]; rfl, by simp⟩
    rw [flat_zero hw0, gW_zero]; simp
  · rintro p v bs σ₄ hv ⟨rfl, hb4, hre⟩
    have hp12 : p < w * h := by have := (List.getElem?_eq_some_iff.mp hv).1; rwa [List.length_map, hpl] at this
    rw [List.getElem?_map, places_at w hw h hh p hp12] at hv
    cases hv
    have hi : p % w < w := Nat.mod_lt p hw0
    have hY : p / w < h := by rw [Nat.div_lt_iff_lt_mul hw0, Nat.mul_comm]; exact hp12
    have hX := px_lt (y := p / w) hi
    have hsucc := flat_succ (w := w) (h := h) (l := l) (m := m) (M := M) hw0 p
    have hfnd := fnd_flat (w := w) (h := h) (l := l) (m := m) (M := M) hw0 p
    revert hre hfnd hsucc
    generalize flatSt w h l m M p = S
    revert hX
    generalize px (p / w) w (p % w) = X
    revert hY
    generalize p / w = Y
    intro hY hX hre hsucc hfnd
    have hk4 := old _ hb4
    have hv4 := hk4 _ _ (hk3 _ _ (hk2 _ _ (get_last (σ := σ₁) (a := AO.list (iL (valsL l m))))))
    have hK14 : Keeps σ₁ σ₄ := hk13.trans hk4
    refine tgt_tup (vs := [.int (X : Int), .int (Y : Int), .int (alongF Y)]) ?_ rfl rfl
    refine tgts_cons (tgt_name ?_ (.inl rfl) rfl (by decide))
    refine tgts_cons (tgt_name ?_ (.inl rfl) rfl (by decide))
    refine tgts_cons (tgt_name ?_ (.inl rfl) rfl (by decide))
    refine tgts_nil ?_
    walk_at "evS"
    refine ex_assignT ?_ rfl rfl
    walk_at "wk"
    refine ⟨by simp, ?_⟩
    refine sub_dict hre.d (v := .int (vF M S X Y)) (by rw [es_lookup hw hh (by omega), if_pos ⟨⟨by omega, by omega⟩, by omega⟩]; rfl) ?_ ps_tup
    walk_at "wk"
    refine ev_attr ?_ rfl
    walk_at "wk"
    refine at_pl hC (hfi _ hK14) (hfa _ hK14) (.inr (.inr rfl)) rfl (nt _) ?_
    walk_at "wk"
    refine sub_list (hK14 _ _ hfr1) (by omega) (range_refI hY) ?_ ps_name
    walk_at "wk"
    refine sub_list (hK14 _ _ (hfr2 _ hY).2) (by omega) (rowI_getI hX) ?_ ps_name
    rw [hfnd]
    walk_at "wk"
    refine ⟨by simp, ?_⟩
    refine (TgtN.toC (names := ["here", "index"]) (tgt_tup ?_ rfl rfl))
    refine tgts_cons (tgt_name ?_ (.inr rfl) rfl (by decide))
    refine tgts_cons (tgt_name ?_ (.inl rfl) rfl (by decide))
    refine tgts_nil ?_
    walk_at "evS"
    refine ex_assignComp ["value"] ?_ rfl (fun _ => rfl) rfl (by decide +kernel) rfl (by decide +kernel) rfl rfl
    walk_at "wk"
    refine compC_ints .list hv4 (fun _ => get_app hv4) (vals := apartF l m (vF M S X Y)) (by simp [iL, valsL, apartF, rowI]) (by simp [apartF, rowI]; omega) ?_ ?_
    · intro L i v a hv ha
      obtain ⟨hi', rfl⟩ := rowI_at ha
      rw [iL_get (valsL_get hi')] at hv; cases hv
      refine tgt_name ?_ (.inl rfl) rfl (by decide)
      refine ⟨csub_upd (by decide +kernel) csub_refl, rfl, ?_⟩
      walk_at "wk"
      refine b_abs ?_
      exact ⟨rfl, rfl⟩
    walk_at "wk"
    refine ev_meth (f := .builtin "list.index") rfl ?_ (by walk_at "star") rfl
    walk_at "wk"
    refine ⟨meth_index get_last, ?_⟩
    walk_at "wk"
    refine b_min get_last (by simp [apartF, rowI]; omega) fun Mn hm1 hm2 => ?_
    walk_at "wk"
    refine b_index2 get_last hm1 ?_
    rw [near_idx hl hm1 hm2]
    walk_at "wk"
    refine ⟨fun z => by simp [idxF] at z, fun _ => ?_⟩
    walk_at "wk"
    obtain ⟨hb0, hb1⟩ := near_b (l := l) (m := m) (v := vF M S X Y) hl
    refine sub_list (get_app hv4) hb0 (v := .int (lv (idxF l m M S X Y) l m)) ?_ ?_ ps_name
    · rw [iL_get (valsL_get (i := (idxF l m M S X Y).toNat) (by unfold idxF; omega))]
      congr 3
      unfold idxF; omega
    walk_at "wk"
    have herr : errF l m M S X Y = vF M S X Y - lv (idxF l m M S X Y) l m := rfl
    rw [← herr]
    generalize herr2 : errF l m M S X Y = e
    walk_at "wk"
    refine ⟨by simp, ?_⟩
    generalize hσ5 : σ₄ ++ [AO.list (iL (apartF l m (vF M S X Y)))] ++ [AO.list [AV.int ((e * 7).fdiv 16), AV.int ((e * 3).fdiv 16), AV.int ((e * 5).fdiv 16)]] = σ₅
    have hpr : (σ₄ ++ [AO.list (iL (apartF l m (vF M S X Y)))]).length = σ₄.length + 1 := by simp
    rw [hpr]
    have hparts : σ₅[σ₄.length + 1]? = some (.list [.int ((e * 7).fdiv 16), .int ((e * 3).fdiv 16), .int ((e * 5).fdiv 16)]) := by rw [← hσ5, ← hpr]; exact get_last
    have hk5 : Keeps σ₄ σ₅ := by rw [← hσ5]; exact Keeps.app.trans Keeps.app
    have hkg4 : σ₃.length + 1 < σ₄.length := by obtain ⟨_, hg, _⟩ := hre.g; exact (List.getElem?_eq_some_iff.mp hg).1
    have n1 : σ₄.length + 1 ≠ σ₃.length := by omega
    have n2 : σ₄.length + 1 ≠ σ₃.length + 1 := by omega
    have hre5 := hre.keep hk5
    walk_at "wk"
    refine ⟨by simp, ?_⟩
    walk_at "wk"
    refine sub_list hparts (by decide) (v := .int ((e * 7).fdiv 16)) rfl ?_ ps_const
    walk_at "wk"
    refine ct_given hC hw hh (by omega) hre5 (by omega) fun σ₆ hb6 hre6 => ?_
    refine ⟨.inl rfl, ?_⟩
    have hparts6 := hb6 _ _ n1 n2 hparts
    walk_at "wk"
    refine ⟨by simp, ?_⟩
    walk_at "wk"
    refine sub_list hparts6 (by decide) (v := .int ((e * 3).fdiv 16)) rfl ?_ ps_const
    walk_at "wk"
    refine ct_given hC hw hh (by omega) hre6 (by omega) fun σ₇ hb7 hre7 => ?_
    refine ⟨.inl rfl, ?_⟩
    have hparts7 := hb7 _ _ n1 n2 hparts6
    walk_at "wk"
    refine ⟨by simp, ?_⟩
    walk_at "wk"
    refine sub_list hparts7 (by decide) (v := .int ((e * 5).fdiv 16)) rfl ?_ ps_const
    walk_at "wk"
    refine ct_given hC hw hh (by omega) hre7 (by omega) fun σ₈ hb8 hre8 => ?_
    refine ⟨.inl rfl, ?_⟩
    have hparts8 := hb8 _ _ n1 n2 hparts7
    walk_at "wk"
    refine ⟨by simp, ?_⟩
    walk_at "wk"
    refine sub_list hparts8 (by decide) (v := .int ((e * 7).fdiv 16)) rfl ?_ ps_const
    walk_at "wk"
    refine sub_list hparts8 (by decide) (v := .int ((e * 3).fdiv 16)) rfl ?_ ps_const
    walk_at "wk"
    refine sub_list hparts8 (by decide) (v := .int ((e * 5).fdiv 16)) rfl ?_ ps_const
    walk_at "wk"
    refine ct_given hC hw hh (by omega) hre8 (by omega) fun σ₉ hb9 hre9 => ?_
    refine ⟨.inl rfl, ?_⟩
    walk_at "wk"
    refine ⟨_, .cons rfl (.cons rfl (.cons rfl (.cons rfl (.cons rfl (.cons rfl (.cons rfl (.cons rfl (.cons rfl .nil)))))))), rfl, hb4.trans (hk5.beside.trans (hb6.trans (hb7.trans (hb8.trans hb9)))), ?_⟩
    rw [hsucc, ← step_eq herr2]
    exact hre9.mono (by omega)
  · rintro bs σ₄ ⟨rfl, hb4, hre⟩ ρ' hb
    rw [List.length_map, hpl, flat_end hw0] at hre
    obtain ⟨gs, hg1, hg2, hg3⟩ := hre.g
    have hK14 : Keeps σ₁ σ₄ := hk13.trans (old _ hb4)
    refine ex_weaken (ρ' := locs [bd "plane" (.ref kp), bd "levels" (.int l), bd "most" (.int m), bd "found" (.ref kf), bd "lost" (.int (allSt w h l m M h).2), bd "values" (.ref σ₁.length), bd "places" (.ref q), bd "come" (.ref σ₃.length), bd "gone" (.ref (σ₃.length + 1))]) hb.sub ?_
    walk_at "wk"
    refine b_sum hg1 ?_
    rw [hg2]
    walk_at "wk"
    refine ⟨fun z => by simp at z, fun _ => ?_⟩
    walk_at "wk"
    refine ct_shown_levels hC hl hl' hm hm' (by omega) (by omega) (hpf.kept fun k o _ e => hK14 k o e) (fun y x hy hx => fnd_b hl hx) fun σ₅ ks ds rs hk5 hf5 hps => ?_
    walk_at "wk"
    have hK15 : Keeps σ₁ σ₅ := hK14.trans hk5
    obtain ⟨sr, hsr1, hsr2⟩ := hps.rows
    have hsa : ∀ τ, (σ₅ ++ τ)[ds]? = some (.attrs [bd "width" (.int w), bd "height" (.int h), bd "rows" (.ref rs)]) := fun τ => get_app hps.attrs
    refine ev_comp ["row"] ?_ (fun _ => rfl) rfl (by decide +kernel) rfl (by decide +kernel)
    refine ev_attr ?_ rfl
    walk_at "wk"
    refine at_pl hC (hpi _ hK15) (hpa _ hK15) (.inr (.inr rfl)) rfl (nt _) ?_
    have hr5 := hK15 _ _ (hk1 _ _ hr1)
    refine compC_ints .list hr5 (fun _ => get_app hr5) (vals := rowI h fun y => (rowI w (M y)).sum) (by simp [rowI]) (by rw [rowI_len]; omega) ?_ ?_
    · intro L y v' a hv ha
      obtain ⟨hy, rfl⟩ := map_get hv
      obtain ⟨_, rfl⟩ := rowI_at ha
      refine tgt_name ?_ (.inl rfl) rfl (by decide)
      refine ⟨csub_upd (by decide +kernel) csub_refl, rfl, ?_⟩
      walk_at "wk"
      refine b_sum (get_app (hK15 _ _ (hk1 _ _ (hr2 y hy).2))) ?_
      exact ⟨rfl, rfl⟩
    walk_at "wk"
    refine b_sum get_last ?_
    walk_at "wk"
    refine ev_comp ["row"] ?_ (fun _ => rfl) rfl (by decide +kernel) rfl (by decide +kernel)
    refine ev_attr ?_ rfl
    walk_at "wk"
    refine at_pl hC (get_app hps.inst) (hsa _) (.inr (.inr rfl)) rfl (nt _) ?_
    refine compC_ints .list (get_app hsr1) (fun _ => get_app (get_app hsr1)) (vals := rowI h fun y => (rowI w fun x => lv (fnd w h l m M y x) l m).sum) (by simp [rowI]) (by rw [rowI_len]; omega) ?_ ?_
    · intro L y v' a hv ha
      obtain ⟨hy, rfl⟩ := map_get hv
      obtain ⟨_, rfl⟩ := rowI_at ha
      refine tgt_name ?_ (.inl rfl) rfl (by decide)
      refine ⟨csub_upd (by decide +kernel) csub_refl, rfl, ?_⟩
      walk_at "wk"
      refine b_sum (get_app (get_app (hsr2 y hy).2)) ?_
      exact ⟨rfl, rfl⟩
    walk_at "wk"
    refine b_sum get_last ?_
    walk_at "wk"
    refine ⟨.inr ⟨_, rfl⟩, ?_⟩
    have key := all_kept (w := w) (h := h) (l := l) (m := m) (M := M) hw
    unfold sum2 at key
    rw [key, beq_self_eq_true]
    exact hK _ (((hk1.trans hK15).trans Keeps.app).trans Keeps.app)
end

/-! VF20 -/
section
variable {C : Cx} {n : Nat} {env : Env} {ρ : Loc} {σ : List AO} {K : Kv}
variable {b kp dp r w h : Nat} {l m : Int} {M Cm : Nat → Nat → Int} {lost : Int}

/-- the source, and what stands beside it -/
noncomputable def SrcAt (σ : List AO) (s : Nat) : Prop := ∃ a b : Int, σ[s]? = some (.list [.int a, .int b]) ∧ 0 ≤ b ∧ b < 2147483647
theorem SrcAt.keep {s : Nat} {σ' : List AO} (S : SrcAt σ s) (hk : Keeps σ σ') : SrcAt σ' s := let ⟨a, b, e, r⟩ := S; ⟨a, b, hk _ _ e, r⟩
theorem SrcAt.set {s : Nat} {a b : Int} (S : SrcAt σ s) (h0 : 0 ≤ b) (h1 : b < 2147483647) : SrcAt (σ.set s (.list [.int a, .int b])) s := by
  obtain ⟨_, _, e, _⟩ := S
  exact ⟨a, b, List.getElem?_set_self (List.getElem?_eq_some_iff.mp e).1, h0, h1⟩
theorem ct_take' (hC : CxOk C) {s : Nat} {top : Int} (S : SrcAt σ s) (ht : 1 ≤ top) (ht' : top ≤ 300)
    (hK : ∀ d σ', 0 ≤ d → d < top → SrcAt σ' s → Beside s s σ σ' → (Flat σ → Flat σ') → σ'.length = σ.length → K (.int d) σ') : CallC C (n + 1) env ρ σ (.top (.ref 202)) [.ref s, .int top] K := by
  obtain ⟨a, b, e, h0, h1⟩ := id S
  exact ct_take hC e h0 h1 ht ht' fun d a' b' hd0 hd1 hb0 hb1 => hK _ _ hd0 hd1 (S.set hb0 hb1) Beside.set1 (fun f => f.set rfl) (by simp)
theorem ct_one' (hC : CxOk C) {s t : Nat} {vs : List AV} (S : SrcAt σ s) (et : σ[t]? = some (.list vs)) (hst : t ≠ s) (h0 : 0 < vs.length) (h1 : vs.length ≤ 300)
    (hK : ∀ v σ', v ∈ vs → SrcAt σ' s → Beside s s σ σ' → (Flat σ → Flat σ') → K v σ') : CallC C (n + 2) env ρ σ (.top (.ref 209)) [.ref s, .ref t] K := by
  obtain ⟨a, b, e, hb0, hb1⟩ := id S
  exact ct_one hC e hb0 hb1 et hst h0 h1 fun v a' b' hv hb0 hb1 => hK _ _ hv (S.set hb0 hb1) Beside.set1 (fun f => f.set rfl)

theorem SrcAt.other {s k : Nat} {o : AO} (S : SrcAt σ s) (hk : k ≠ s) : SrcAt (σ.set k o) s := let ⟨a, b, e, r⟩ := S; ⟨a, b, by rw [List.getElem?_set_ne hk]; exact e, r⟩
theorem Beside.setNew {kd kg k : Nat} {o : AO} {σ' : List AO} (B : Beside kd kg σ σ') (hk : σ.length ≤ k) : Beside kd kg σ (σ'.set k o) := fun j x h1 h2 e => by
  have := (List.getElem?_eq_some_iff.mp e).1
  rw [List.getElem?_set_ne (by omega)]
  exact B j x h1 h2 e
/-- a plane whose things are none of them the source -/
structure PX (σ : List AO) (kp dp r : Nat) (fr : Nat → Nat) (w h : Nat) (M : Nat → Nat → Int) : Prop where
  pos : 0 < kp ∧ 0 < dp ∧ 0 < r
  inst : σ[kp]? = some (.inst 84 dp)
  attrs : σ[dp]? = some (plane w h r)
  rows : σ[r]? = some (.list ((List.range h).map fun y => .ref (fr y)))
  row : ∀ y, y < h → 0 < fr y ∧ σ[fr y]? = some (.list (iL (rowI w (M y))))
theorem PX.beside {fr : Nat → Nat} {σ' : List AO} (P : PX σ kp dp r fr w h M) (hb : Beside 0 0 σ σ') : PX σ' kp dp r fr w h M := by
  have z : ∀ k o, 0 < k → σ[k]? = some o → σ'[k]? = some o := fun k o h e => hb k o (by omega) (by omega) e
  exact ⟨P.pos, z _ _ P.pos.1 P.inst, z _ _ P.pos.2.1 P.attrs, z _ _ P.pos.2.2 P.rows, fun y hy => ⟨(P.row y hy).1, z _ _ (P.row y hy).1 (P.row y hy).2⟩⟩
theorem PX.at {fr : Nat → Nat} (P : PX σ kp dp r fr w h M) : PlaneAt σ σ.length kp dp r w h M :=
  ⟨⟨(List.getElem?_eq_some_iff.mp P.inst).1, (List.getElem?_eq_some_iff.mp P.attrs).1, (List.getElem?_eq_some_iff.mp P.rows).1⟩, P.inst, P.attrs, fr, P.rows, fun y hy => ⟨(List.getElem?_eq_some_iff.mp (P.row y hy).2).1, (P.row y hy).2⟩⟩
theorem rowI_of {ns : List Int} {w : Nat} (h : ns.length = w) : rowI w (fun x => ns.getD x 0) = ns := by
  apply List.ext_getElem?
  intro i
  by_cases hi : i < w
  · rw [rowI_getS hi, List.getD_eq_getElem?_getD, List.getElem?_eq_getElem (by omega)]; rfl
  · rw [List.getElem?_eq_none (by rw [rowI_len]; omega), List.getElem?_eq_none (by omega)]

set_option maxHeartbeats 4000000 in
theorem law_ok (hC : CxOk C) {l : Addr} {items : List Value} {ns : List Int} (hl : C.T.IsList l items.toArray) (hI : IntsAre items ns) (hn : ns.length ≤ 63) : CodeT C 20 255 [.top (.ref l)] fun v _ => v = .bool true := by
  refine code_top (f := 255) (names := ["script"]) (by rw [hC.k]; rfl) (by rw [hC.k]; rfl) rfl (by decide +kernel) (by walk_at "args") (by decide +kernel) rfl rfl rfl ?_
  intro L cl
  dsimp only [bd28, sc28]
  walk_at "wk"
  refine ct_pool hC hl hI hn fun a b hb0 hb1 => ?_
  walk_at "wk"
  have S₁ : SrcAt ([] ++ [AO.list [.int a, .int b]]) 0 := ⟨a, b, rfl, hb0, hb1⟩
  have hf₁ : Flat ([] ++ [AO.list [.int a, .int b]]) := flat1 rfl
  have hlen₁ : 0 < ([] ++ [AO.list [.int a, .int b]] : List AO).length := by simp
  revert S₁ hf₁ hlen₁
  rw [show ([] : List AO).length = 0 from rfl]
  generalize ([] ++ [AO.list [.int a, .int b]] : List AO) = σ₁
  intro S₁ hf₁ hlen₁
  refine ex_assignT ?_ rfl rfl
  walk_at "wk"
  refine ⟨by simp, ?_⟩
  walk_at "wk"
  refine ct_one' hC (S₁.keep Keeps.app) get_last (by omega) (by simp) (by simp) fun v σ₂ hv S₂ hb₂ hf₂ => ?_
  have hl₂ : 0 < σ₂.length := by obtain ⟨_, _, e, _⟩ := S₂; exact (List.getElem?_eq_some_iff.mp e).1
  have hf₂ := hf₂ (hf₁.app (flat1 rfl))
  obtain ⟨m, rfl, hm⟩ : ∃ m, v = .int m ∧ okM m := by
    simp only [List.mem_cons, List.not_mem_nil, or_false] at hv
    rcases hv with rfl | rfl | rfl
    · exact ⟨_, rfl, .inl rfl⟩
    · exact ⟨_, rfl, .inr (.inl rfl)⟩
    · exact ⟨_, rfl, .inr (.inr rfl)⟩
  have hm2 : 3 ≤ m ∧ m ≤ 255 := by rcases hm with rfl | rfl | rfl <;> decide
  walk_at "wk"
  refine ct_take' hC S₂ (by decide) (by decide) fun d σ₃ hd0 hd1 S₃ hb₃ hf₃ hl₃ => ?_
  have hf₃ := hf₃ hf₂
  walk_at "wk"
  refine ⟨by simp, ?_⟩
  obtain ⟨lev, hlev, hL⟩ : ∃ lev, lev = 2 + d ∧ okL lev := ⟨_, rfl, by
    have : d = 0 ∨ d = 1 ∨ d = 2 := by omega
    rcases this with rfl | rfl | rfl
    · exact .inl rfl
    · exact .inr (.inl rfl)
    · exact .inr (.inr rfl)⟩
  rw [← hlev]
  have hL2 : 2 ≤ lev ∧ lev ≤ 4 := by rcases hL with rfl | rfl | rfl <;> decide
  refine (TgtN.toC (names := ["most", "levels"]) (tgt_tup ?_ rfl rfl))
  refine tgts_cons (tgt_name ?_ (.inr rfl) rfl (by decide))
  refine tgts_cons (tgt_name ?_ (.inl rfl) rfl (by decide))
  refine tgts_nil ?_
  walk_at "evS"
  refine ex_assignT ?_ rfl rfl
  walk_at "wk"
  refine ct_take' hC S₃ (by decide) (by decide) fun dw σ₄ hw0 hw1 S₄ hb₄ hf₄ hl₄ => ?_
  have hf₄ := hf₄ hf₃
  walk_at "wk"
  refine ct_take' hC S₄ (by decide) (by decide) fun dh σ₅ hh0 hh1 S₅ hb₅ hf₅ hl₅ => ?_
  have hf₅ := hf₅ hf₄
  walk_at "wk"
  refine ⟨by simp, ?_⟩
  obtain ⟨w, hw, hwp, hw4⟩ : ∃ w : Nat, (w : Int) = 1 + dw ∧ 0 < w ∧ w ≤ 4 := ⟨(1 + dw).toNat, by omega, by omega, by omega⟩
  obtain ⟨h, hh, hhp, hh3⟩ : ∃ h : Nat, (h : Int) = 1 + dh ∧ 0 < h ∧ h ≤ 3 := ⟨(1 + dh).toNat, by omega, by omega, by omega⟩
  rw [← hw, ← hh]
  refine (TgtN.toC (names := ["width", "height"]) (tgt_tup ?_ rfl rfl))
  refine tgts_cons (tgt_name ?_ (.inr rfl) rfl (by decide))
  refine tgts_cons (tgt_name ?_ (.inl rfl) rfl (by decide))
  refine tgts_nil ?_
  have hl₅0 : 0 < σ₅.length := by omega
  clear hb₂ hb₃ hb₄ hb₅ hw hh hlev
  walk_at "wk"
  refine ev_comp ["y"] ?_ (fun _ => rfl) rfl (by decide +kernel) rfl (by decide +kernel)
  walk_at "wk"
  refine b_range1 ?_
  refine ⟨_, _, .rng (m := h) (small_one (by omega) (by omega) (by omega) (by omega)) (rng_ok (by omega)), fun i σ' => i ≤ h ∧ SrcAt σ' 0 ∧ Flat σ' ∧ ∃ (M : Nat → Nat → Int) (fr : Nat → Nat), σ'[σ₅.length]? = some (.list ((List.range i).map fun y => .ref (fr y))) ∧
    ∀ y, y < i → σ₅.length < fr y ∧ σ'[fr y]? = some (.list (iL (rowI w (M y)))) ∧ ∀ x, x < w → 0 ≤ M y x ∧ M y x ≤ m, ⟨Nat.zero_le _, S₅.keep Keeps.app, hf₅.app (flat1 rfl), fun _ _ => 0, fun _ => 0, get_last, fun y hy => by omega⟩, trivial, fun _ _ _ => trivial, ?_, ?_⟩
  · rintro L2 i v σ₆ hv ⟨_, S₆, hf₆, M, fr, ha, hfr⟩
    obtain ⟨hi, rfl⟩ := rngItems_get hv
    have hl₆ : σ₅.length < σ₆.length := (List.getElem?_eq_some_iff.mp ha).1
    refine tgt_name ?_ (.inl rfl) rfl (by decide)
    refine ⟨csub_upd (by decide +kernel) csub_refl, ?_⟩
    refine ifs_nil ⟨fun q => (by cases q), fun _ => ?_⟩
    refine ev_comp ["x"] ?_ (fun _ => rfl) rfl (by decide +kernel) rfl (by decide +kernel)
    walk_at "wk"
    refine b_range1 ?_
    refine ⟨_, _, .rng (m := w) (small_one (by omega) (by omega) (by omega) (by omega)) (rng_ok (by omega)), fun j σ' => j ≤ w ∧ SrcAt σ' 0 ∧ Flat σ' ∧ Beside 0 0 σ₆ σ' ∧ ∃ ns : List Int, σ'[σ₆.length]? = some (.list (iL ns)) ∧ ns.length = j ∧ ∀ a ∈ ns, 0 ≤ a ∧ a ≤ m,
      ⟨Nat.zero_le _, S₆.keep Keeps.app, hf₆.app (flat1 rfl), Keeps.app.beside, [], get_last, rfl, fun a h => nomatch h⟩, trivial, fun _ _ _ => trivial, ?_, ?_⟩
    · rintro L3 j v σ₇ hv ⟨_, S₇, hf₇, hb₇, ns, hns, hlen, hall⟩
      obtain ⟨hj, rfl⟩ := rngItems_get hv
      refine tgt_name ?_ (.inl rfl) rfl (by decide)
      refine ⟨csub_upd (by decide +kernel) csub_refl, ?_⟩
      refine ifs_nil ⟨fun q => (by cases q), fun _ => ?_⟩
      walk_at "wk"
      refine ct_take' hC S₇ (by omega) (by omega) fun d σ₈ hd0 hd1 S₈ hb₈ hf₈ hl₈ => ?_
      have hns8 := hb₈ _ _ (by omega) (by omega) hns
      refine ⟨_, hns8, by rw [iL_len]; omega, hj, S₈.other (by omega), (hf₈ hf₇).set (by rw [iL_snoc]; exact flat_iL _), (hb₇.trans hb₈).setNew (Nat.le_refl _), ns ++ [d], ?_, by simp [hlen], fun a ha => ?_⟩
      · rw [List.getElem?_set_self (List.getElem?_eq_some_iff.mp hns8).1, iL_snoc]
      · rcases List.mem_append.mp ha with ha | ha
        · exact hall a ha
        · rw [List.mem_singleton.mp ha]; omega
    · rintro σ₇ ⟨_, S₇, hf₇, hb₇, ns, hns, hlen, hall⟩
      rw [rngItems_len] at hlen
      have ha7 := hb₇ _ _ (by omega) (by omega) ha
      refine ⟨_, ha7, by simp; omega, hi, S₇.other (by omega), hf₇.set (by simp [flatO, flatV]), fun y x => if y = i then ns.getD x 0 else M y x, fun y => if y = i then σ₆.length else fr y, ?_, fun y hy => ?_⟩
      · rw [List.getElem?_set_self (List.getElem?_eq_some_iff.mp ha7).1, map_succ]
        congr 3
        · apply List.map_congr_left
          intro y hy
          rw [List.mem_range] at hy
          dsimp only
          rw [if_neg (by omega)]
        · dsimp only
          rw [if_pos rfl]
      · dsimp only
        by_cases q : y = i
        · subst q
          simp only [if_true]
          refine ⟨hl₆, ?_, fun x hx => ?_⟩
          · rw [List.getElem?_set_ne (by omega), rowI_of hlen]; exact hns
          · rw [List.getD_eq_getElem?_getD, List.getElem?_eq_getElem (by omega)]
            exact hall _ (List.getElem_mem (by omega))
        · simp only [q, if_false]
          obtain ⟨q1, q2, q3⟩ := hfr y (by omega)
          refine ⟨q1, ?_, q3⟩
          rw [List.getElem?_set_ne (by omega)]
          exact hb₇ _ _ (by omega) (by omega) q2
  rintro σ₆ ⟨_, S₆, hf₆, M, fr, ha, hfr⟩
  rw [rngItems_len] at ha hfr
  have hl₆ : σ₅.length < σ₆.length := (List.getElem?_eq_some_iff.mp ha).1
  walk_at "wk"
  refine ct_Plane hC ?_
  have P₇ : PX (σ₆ ++ [AO.attrs [bd "width" (.int w), bd "height" (.int h), bd "rows" (.ref σ₅.length)]] ++ [AO.inst 84 σ₆.length]) (σ₆.length + 1) σ₆.length σ₅.length fr w h M :=
    ⟨⟨by omega, by omega, by omega⟩, by simp, by simp [plane], get_app (get_app ha), fun y hy => ⟨by have := (hfr y hy).1; omega, get_app (get_app (hfr y hy).2.1)⟩⟩
  have S₇ := S₆.keep (σ' := σ₆ ++ [AO.attrs [bd "width" (.int w), bd "height" (.int h), bd "rows" (.ref σ₅.length)]] ++ [AO.inst 84 σ₆.length]) (Keeps.app.trans Keeps.app)
  have hf₇ : Flat (σ₆ ++ [AO.attrs [bd "width" (.int w), bd "height" (.int h), bd "rows" (.ref σ₅.length)]] ++ [AO.inst 84 σ₆.length]) := (hf₆.app (flat1 rfl)).app (flat1 rfl)
  revert P₇ S₇ hf₇
  generalize σ₆ ++ [AO.attrs [bd "width" (.int w), bd "height" (.int h), bd "rows" (.ref σ₅.length)]] ++ [AO.inst 84 σ₆.length] = σ₇
  intro P₇ S₇ hf₇
  walk_at "wk"
  refine ct_levels_right hC hm hL fun σ₈ hk₈ hf₈ => ?_
  have P₈ := P₇.beside hk₈.beside
  refine ⟨true, rfl, fun z => (by cases z), fun _ => ?_⟩
  walk_at "wk"
  refine ct_spread_right hC (by omega) (by omega) (by omega) (by omega) (by omega) hwp hw4 hh3 P₈.at (hf₈ hf₇) fun σ₉ hk₉ => ?_
  have P₉ := P₈.beside hk₉.beside
  have S₉ := (S₇.keep hk₈).keep hk₉
  have hl₉ : 0 < σ₉.length := by have := (List.getElem?_eq_some_iff.mp P₉.inst).1; omega
  refine ⟨true, rfl, fun z => (by cases z), fun _ => ?_⟩
  walk_at "wk"
  refine ⟨by simp, ?_⟩
  walk_at "wk"
  refine ct_one' hC (S₉.keep Keeps.app) get_last (by omega) (by simp) (by simp) fun v σa hv Sa hba _ => ?_
  obtain ⟨k, hk2, rfl⟩ : ∃ k, k ≤ 2 ∧ v = .int ((2 ^ k : Nat) : Int) := by
    simp only [List.mem_cons, List.not_mem_nil, or_false] at hv
    rcases hv with rfl | rfl | rfl | rfl
    · exact ⟨0, by decide, rfl⟩
    · exact ⟨1, by decide, rfl⟩
    · exact ⟨1, by decide, rfl⟩
    · exact ⟨2, by decide, rfl⟩
  have Pa := (P₉.beside (Keeps.app (τ := [AO.list [.int 1, .int 2, .int 2, .int 4]])).beside).beside hba
  walk_at "wk"
  refine ct_laid_right hC hk2 (by omega) (by omega) (by omega) (by omega) (by omega) (by omega) (by omega) Pa.at fun σb hkb _ => ?_
  refine ⟨true, rfl, fun z => (by cases z), fun _ => ?_⟩
  walk_at "wk"
  refine ct_take' hC (Sa.keep hkb) (by omega) (by omega) fun d σc hd0 hd1 _ _ _ _ => ?_
  walk_at "wk"
  refine ct_ordered_right hC hk2 (by omega) (by omega) (by omega) (by omega) (by omega) hd0 (by omega) fun σ' => ?_
  exact ⟨.inr ⟨_, rfl⟩, rfl⟩
end

/-! VJ2 -/
section
theorem law_at (P : Params) : nsIn (Kx P) mainGlobals "law" = some (some (.ref 255)) := by rfl
set_option maxHeartbeats 4000000 in
theorem jj (law : ∀ (C : Cx), CxOk C → ∀ (l : Addr) (items : List Value) (ns : List Int), C.T.IsList l items.toArray → IntsAre items ns → ns.length ≤ 63 → CodeT C 20 255 [.top (.ref l)] fun v _ => v = .bool true) : PySem.Challenge.rw_nt0549_01.Holds := by
  w_on
  refine holds_law said fun _ => ?_
  refine holds_open (q := qv) (loose := []) (Xt := fun s => xlAt qv [] s && recOk rw1.records s) (XP := XL qv []) (Yf := Hook.obs hook0) (Ya := Hook.val hook0) (YP := Hook.says hook0) (N := 3636) s_left (Hook.of hook0) (Hook.keeps hook0) (fun s e => xl_of s (Bool.and_eq_true_iff.mp e).1) XL.keeps (by rfl) (by rfl) (by rfl) (fun s e => recFacts_of (Bool.and_eq_true_iff.mp e).2) (by rfl) (by first | assumption | decide +kernel) (by decide +kernel) ⟨rfl, rfl, rfl, rfl, rfl, by decide +kernel⟩ ?hw ?hc
  case hw => w_witness2
  intro w s₀ s₁ mg mb G Y fa o pm cd doc dV kV ho hd' hcd hD hmg hg args vals as hpre hlay hrd hwl hlo
  have KX := kIn_of Y
  refine Ground.open G ?_
  intro T B D TE TW
  wrow_args hpre hlay hrd hwl hlo
  refine enter_call ?_
  refine codeAny_mono ?_ (fun _ _ g => GoodW.toG g)
  rename_i ns _ _ _ _ _ _ _ l items _ hL _ _ _ hI _ hn _
  have post : ∀ b, b = true → Challenge.rw_nt0549_01.row.claim.post [ofPy (PyData.list (List.map PyData.int ns))] (.bool b) [ofPy (PyData.list (List.map PyData.int ns))] = true := fun b hb => by subst hb; wrow_post
  have hfa : mg "law" = some (.ref 255) := mg_of KX T.g (law_at w.params)
  have e : Value.ref fa = .ref 255 := Option.some.inj (hmg.symm.trans hfa)
  cases e
  refine law ⟨_, w, s₁.heap, Kx w.params, _, _, mg, mb, KX, topRead_of T⟩ ⟨rfl⟩ l items ns hL hI (by omega) callerA s₁ _ [.ref l] ⟨rfl, by decide, by decide⟩ rfl (.cons .top .nil) ?_
  rintro φ' σ' s' v v' rfl hs hk V
  cases V
  have V0 : ReadsW Challenge.rw_nt0549_01.row.claim.records (classAt s₀.heap) s'.heap (.bool true) (.bool true) [] := .bool true
  exact ⟨.inl ⟨_, _, _, rfl, fun _ => rfl, V0, post true rfl, fun _ => ⟨.nil, fun a h => nomatch h⟩⟩, hk, by rw [hs], by rw [hs]; exact hg⟩
end

end Mine
end

set_option maxRecDepth 100000 in
set_option maxHeartbeats 8000000 in
theorem PySem.Challenge.cw_nt0549_01_holds : PySem.Challenge.rw_nt0549_01.Holds :=
  Mine.jj fun _ hC _ _ _ hl hI hn => Mine.law_ok hC hl hI hn
