import PyProof.Rows.All
import Wide.All
import OpenK.AllK
import Wide.FinOn
import Lean
import PySem.Challenge.RW_rh0079_01
open PySem PySem.W PyProof.Rows
set_option Elab.async false
set_option linter.all false
set_option compiler.extract_closed false
set_option maxRecDepth 100000
set_option maxHeartbeats 8000000
set_option linter.all false
set_option compiler.extract_closed false
namespace Mine
section
noncomputable def hdV : Program := PySem.W.view PySem.Challenge.pw_rh0079_01 [0, 2, 3, 4, 5, 6, 7, 8, 9, 11, 12, 13, 14, 15, 16, 17, 18, 19, 21, 22, 23, 24, 25, 26, 27, 28, 29, 30, 31, 32, 33, 34, 35, 36, 37, 38, 39, 40, 42, 43, 44, 45, 46, 47]
section
open PySem PySem.W PyProof.Rows PySem.Calls
/-! the head in pieces: the top's run is cut at five statements; each state there is written out -/
noncomputable abbrev hPr : Program := PySem.Challenge.pw_rh0079_01
noncomputable def topSt (i : Nat) : Option Stmt := hPr.main.body[i]?
noncomputable def clsSt (s : Option Stmt) (j : Nat) : Option Stmt := match s with
  | some (.ClassDef _ _ _ body ..) => body[j]?
  | _ => none
noncomputable def fnArgs (s : Option Stmt) : Arguments := match s with
  | some (.FunctionDef _ a ..) => a
  | _ => default
noncomputable def fnBody (s : Option Stmt) : FuncBody := match s with
  | some (.FunctionDef _ _ b ..) => .stmts b
  | _ => default
noncomputable def fnScope (s : Option Stmt) : Scope := match s with
  | some (.FunctionDef _ _ _ _ _ _ sc ..) => sc
  | _ => default
noncomputable def ha0 : Arguments := fnArgs (topSt 0)
noncomputable def hb0 : FuncBody := fnBody (topSt 0)
noncomputable def hs0 : Scope := fnScope (topSt 0)
noncomputable def ha3m0 : Arguments := fnArgs (clsSt (topSt 3) 0)
noncomputable def hb3m0 : FuncBody := fnBody (clsSt (topSt 3) 0)
noncomputable def hs3m0 : Scope := fnScope (clsSt (topSt 3) 0)
noncomputable def ha7 : Arguments := fnArgs (topSt 7)
noncomputable def hb7 : FuncBody := fnBody (topSt 7)
noncomputable def hs7 : Scope := fnScope (topSt 7)
noncomputable def ha8 : Arguments := fnArgs (topSt 8)
noncomputable def hb8 : FuncBody := fnBody (topSt 8)
noncomputable def hs8 : Scope := fnScope (topSt 8)
noncomputable def ha9m0 : Arguments := fnArgs (clsSt (topSt 9) 0)
noncomputable def hb9m0 : FuncBody := fnBody (clsSt (topSt 9) 0)
noncomputable def hs9m0 : Scope := fnScope (clsSt (topSt 9) 0)
noncomputable def ha9m1 : Arguments := fnArgs (clsSt (topSt 9) 1)
noncomputable def hb9m1 : FuncBody := fnBody (clsSt (topSt 9) 1)
noncomputable def hs9m1 : Scope := fnScope (clsSt (topSt 9) 1)
noncomputable def ha9m2 : Arguments := fnArgs (clsSt (topSt 9) 2)
noncomputable def hb9m2 : FuncBody := fnBody (clsSt (topSt 9) 2)
noncomputable def hs9m2 : Scope := fnScope (clsSt (topSt 9) 2)
noncomputable def ha9m3 : Arguments := fnArgs (clsSt (topSt 9) 3)
noncomputable def hb9m3 : FuncBody := fnBody (clsSt (topSt 9) 3)
noncomputable def hs9m3 : Scope := fnScope (clsSt (topSt 9) 3)
noncomputable def ha9m4 : Arguments := fnArgs (clsSt (topSt 9) 4)
noncomputable def hb9m4 : FuncBody := fnBody (clsSt (topSt 9) 4)
noncomputable def hs9m4 : Scope := fnScope (clsSt (topSt 9) 4)
noncomputable def ha9m5 : Arguments := fnArgs (clsSt (topSt 9) 5)
noncomputable def hb9m5 : FuncBody := fnBody (clsSt (topSt 9) 5)
noncomputable def hs9m5 : Scope := fnScope (clsSt (topSt 9) 5)
noncomputable def ha9m6 : Arguments := fnArgs (clsSt (topSt 9) 6)
noncomputable def hb9m6 : FuncBody := fnBody (clsSt (topSt 9) 6)
noncomputable def hs9m6 : Scope := fnScope (clsSt (topSt 9) 6)
noncomputable def ha9m7 : Arguments := fnArgs (clsSt (topSt 9) 7)
noncomputable def hb9m7 : FuncBody := fnBody (clsSt (topSt 9) 7)
noncomputable def hs9m7 : Scope := fnScope (clsSt (topSt 9) 7)
noncomputable def ha9m8 : Arguments := fnArgs (clsSt (topSt 9) 8)
noncomputable def hb9m8 : FuncBody := fnBody (clsSt (topSt 9) 8)
noncomputable def hs9m8 : Scope := fnScope (clsSt (topSt 9) 8)
noncomputable def ha9m9 : Arguments := fnArgs (clsSt (topSt 9) 9)
noncomputable def hb9m9 : FuncBody := fnBody (clsSt (topSt 9) 9)
noncomputable def hs9m9 : Scope := fnScope (clsSt (topSt 9) 9)
noncomputable def ha9m10 : Arguments := fnArgs (clsSt (topSt 9) 10)
noncomputable def hb9m10 : FuncBody := fnBody (clsSt (topSt 9) 10)
noncomputable def hs9m10 : Scope := fnScope (clsSt (topSt 9) 10)
noncomputable def ha11 : Arguments := fnArgs (topSt 11)
noncomputable def hb11 : FuncBody := fnBody (topSt 11)
noncomputable def hs11 : Scope := fnScope (topSt 11)
noncomputable def ha12 : Arguments := fnArgs (topSt 12)
noncomputable def hb12 : FuncBody := fnBody (topSt 12)
noncomputable def hs12 : Scope := fnScope (topSt 12)
noncomputable def ha13 : Arguments := fnArgs (topSt 13)
noncomputable def hb13 : FuncBody := fnBody (topSt 13)
noncomputable def hs13 : Scope := fnScope (topSt 13)
noncomputable def ha14 : Arguments := fnArgs (topSt 14)
noncomputable def hb14 : FuncBody := fnBody (topSt 14)
noncomputable def hs14 : Scope := fnScope (topSt 14)
noncomputable def ha15 : Arguments := fnArgs (topSt 15)
noncomputable def hb15 : FuncBody := fnBody (topSt 15)
noncomputable def hs15 : Scope := fnScope (topSt 15)
noncomputable def ha16 : Arguments := fnArgs (topSt 16)
noncomputable def hb16 : FuncBody := fnBody (topSt 16)
noncomputable def hs16 : Scope := fnScope (topSt 16)
noncomputable def ha17 : Arguments := fnArgs (topSt 17)
noncomputable def hb17 : FuncBody := fnBody (topSt 17)
noncomputable def hs17 : Scope := fnScope (topSt 17)
noncomputable def ha18 : Arguments := fnArgs (topSt 18)
noncomputable def hb18 : FuncBody := fnBody (topSt 18)
noncomputable def hs18 : Scope := fnScope (topSt 18)
noncomputable def ha19 : Arguments := fnArgs (topSt 19)
noncomputable def hb19 : FuncBody := fnBody (topSt 19)
noncomputable def hs19 : Scope := fnScope (topSt 19)
noncomputable def ha24 : Arguments := fnArgs (topSt 24)
noncomputable def hb24 : FuncBody := fnBody (topSt 24)
noncomputable def hs24 : Scope := fnScope (topSt 24)
noncomputable def ha25 : Arguments := fnArgs (topSt 25)
noncomputable def hb25 : FuncBody := fnBody (topSt 25)
noncomputable def hs25 : Scope := fnScope (topSt 25)
noncomputable def ha26 : Arguments := fnArgs (topSt 26)
noncomputable def hb26 : FuncBody := fnBody (topSt 26)
noncomputable def hs26 : Scope := fnScope (topSt 26)
noncomputable def ha27 : Arguments := fnArgs (topSt 27)
noncomputable def hb27 : FuncBody := fnBody (topSt 27)
noncomputable def hs27 : Scope := fnScope (topSt 27)
noncomputable def ha28 : Arguments := fnArgs (topSt 28)
noncomputable def hb28 : FuncBody := fnBody (topSt 28)
noncomputable def hs28 : Scope := fnScope (topSt 28)
noncomputable def ha29 : Arguments := fnArgs (topSt 29)
noncomputable def hb29 : FuncBody := fnBody (topSt 29)
noncomputable def hs29 : Scope := fnScope (topSt 29)
noncomputable def ha30 : Arguments := fnArgs (topSt 30)
noncomputable def hb30 : FuncBody := fnBody (topSt 30)
noncomputable def hs30 : Scope := fnScope (topSt 30)
noncomputable def ha31 : Arguments := fnArgs (topSt 31)
noncomputable def hb31 : FuncBody := fnBody (topSt 31)
noncomputable def hs31 : Scope := fnScope (topSt 31)
noncomputable def ha32 : Arguments := fnArgs (topSt 32)
noncomputable def hb32 : FuncBody := fnBody (topSt 32)
noncomputable def hs32 : Scope := fnScope (topSt 32)
noncomputable def ha33 : Arguments := fnArgs (topSt 33)
noncomputable def hb33 : FuncBody := fnBody (topSt 33)
noncomputable def hs33 : Scope := fnScope (topSt 33)
noncomputable def ha34 : Arguments := fnArgs (topSt 34)
noncomputable def hb34 : FuncBody := fnBody (topSt 34)
noncomputable def hs34 : Scope := fnScope (topSt 34)
noncomputable def ha35 : Arguments := fnArgs (topSt 35)
noncomputable def hb35 : FuncBody := fnBody (topSt 35)
noncomputable def hs35 : Scope := fnScope (topSt 35)
noncomputable def ha36 : Arguments := fnArgs (topSt 36)
noncomputable def hb36 : FuncBody := fnBody (topSt 36)
noncomputable def hs36 : Scope := fnScope (topSt 36)
noncomputable def ha37 : Arguments := fnArgs (topSt 37)
noncomputable def hb37 : FuncBody := fnBody (topSt 37)
noncomputable def hs37 : Scope := fnScope (topSt 37)
noncomputable def ha38 : Arguments := fnArgs (topSt 38)
noncomputable def hb38 : FuncBody := fnBody (topSt 38)
noncomputable def hs38 : Scope := fnScope (topSt 38)
noncomputable def ha39 : Arguments := fnArgs (topSt 39)
noncomputable def hb39 : FuncBody := fnBody (topSt 39)
noncomputable def hs39 : Scope := fnScope (topSt 39)
noncomputable def ha40 : Arguments := fnArgs (topSt 40)
noncomputable def hb40 : FuncBody := fnBody (topSt 40)
noncomputable def hs40 : Scope := fnScope (topSt 40)
noncomputable def ha42 : Arguments := fnArgs (topSt 42)
noncomputable def hb42 : FuncBody := fnBody (topSt 42)
noncomputable def hs42 : Scope := fnScope (topSt 42)
noncomputable def ha43 : Arguments := fnArgs (topSt 43)
noncomputable def hb43 : FuncBody := fnBody (topSt 43)
noncomputable def hs43 : Scope := fnScope (topSt 43)
noncomputable def ha44 : Arguments := fnArgs (topSt 44)
noncomputable def hb44 : FuncBody := fnBody (topSt 44)
noncomputable def hs44 : Scope := fnScope (topSt 44)
noncomputable def ha45 : Arguments := fnArgs (topSt 45)
noncomputable def hb45 : FuncBody := fnBody (topSt 45)
noncomputable def hs45 : Scope := fnScope (topSt 45)
noncomputable def ha46 : Arguments := fnArgs (topSt 46)
noncomputable def hb46 : FuncBody := fnBody (topSt 46)
noncomputable def hs46 : Scope := fnScope (topSt 46)
noncomputable def ha47 : Arguments := fnArgs (topSt 47)
noncomputable def hb47 : FuncBody := fnBody (topSt 47)
noncomputable def hs47 : Scope := fnScope (topSt 47)
noncomputable def ho11v0 (P : Params) : Obj := Obj.mk (Value.type "tuple") none (Data.seq #[]) #[]
noncomputable def ho12v0 (P : Params) : Obj := Obj.mk Value.none none (Data.fields #[]) #[]
noncomputable def ho13v0 (P : Params) : Obj := Obj.mk (Value.type "code") none
  (Data.fields
    #[Value.str (Str.ofString "<module>") 182, Value.str (Str.ofString "<module>") 183,
      Value.str (Str.ofString "/claim/cut.py") 184, Value.int 1 0, Value.int 0 0, Value.int 0 0, Value.int 0 0,
      Value.int 0 0, Value.ref 11, Value.bool false, Value.int 181 0, Value.ref 12, Value.none, Value.none, Value.none,
      Value.none, Value.int 185 0, Value.int 1 0, Value.str (Str.ofString "/claim/cut.py") 186])
  #[]
noncomputable def ho14v0 (P : Params) : Obj := Obj.mk (Value.type "frame") none Data.plain
  #[some (Value.ref 13), some (Value.ref 3), some (Value.ref 3), none, some (Value.str (Str.ofString "__main__") 164),
    none, some (Value.ref 0)]
noncomputable def htree0 (P : Params) : BT := (.node (boot_o_0 P) (.node (boot_o_1 P) (.node (boot_o_3 P) (.node (boot_o_7 P) .nil .nil) (.node (ho11v0 P) .nil .nil)) (.node (boot_o_5 P) (.node (boot_o_9 P) .nil .nil) (.node (ho13v0 P) .nil .nil))) (.node (boot_o_2 P) (.node (boot_o_4 P) (.node (boot_o_8 P) .nil .nil) (.node (ho12v0 P) .nil .nil)) (.node (boot_o_6 P) (.node (boot_o_10 P) .nil .nil) (.node (ho14v0 P) .nil .nil))))
/-- cut 0: statements 0 to 0; steps 0 -/
noncomputable def hst0 (w : World) (os : OsState) : SharedT := ⟨htree0 w.params, 15, Life.mk [] [] [] 0 [] [] false #[] [] 0 false false false 0 [2000, 10, 10] false 0 true [] [] 0 false, Array.mk [], Drawn.mk 0 0 0 0, 187, os⟩
noncomputable def hpos0 : Pos := Pos.mk 0 0 0 0
noncomputable def ho3v1 (P : Params) : Obj := Obj.mk (Value.type "dict") none
  (Data.dict
    #[DictEntry.mk (PyData.keyHash P (Str.ofString "__name__")) (Value.str (Str.ofString "__name__") 165)
        (Value.str (Str.ofString "clausemill.symbols") 194),
      DictEntry.mk (PyData.keyHash P (Str.ofString "__doc__")) (Value.str (Str.ofString "__doc__") 166) Value.none,
      DictEntry.mk (PyData.keyHash P (Str.ofString "__package__")) (Value.str (Str.ofString "__package__") 167)
        Value.none,
      DictEntry.mk (PyData.keyHash P (Str.ofString "__loader__")) (Value.str (Str.ofString "__loader__") 168)
        (Value.builtin "__main__.__loader__#opaque"),
      DictEntry.mk (PyData.keyHash P (Str.ofString "__spec__")) (Value.str (Str.ofString "__spec__") 169) Value.none,
      DictEntry.mk (PyData.keyHash P (Str.ofString "__annotations__")) (Value.str (Str.ofString "__annotations__") 170)
        (Value.ref 6),
      DictEntry.mk (PyData.keyHash P (Str.ofString "__builtins__")) (Value.str (Str.ofString "__builtins__") 171)
        (Value.ref 4),
      DictEntry.mk (PyData.keyHash P (Str.ofString "__file__")) (Value.str (Str.ofString "__file__") 173)
        (Value.str (Str.ofString "/claim/cut.py") 172),
      DictEntry.mk (PyData.keyHash P (Str.ofString "__cached__")) (Value.str (Str.ofString "__cached__") 174)
        Value.none,
      DictEntry.mk (PyData.keyHash P (Str.ofString "_wall")) (Value.str (Str.ofString "_wall") 193) (Value.ref 21)]
    10)
  #[]
noncomputable def ho12v1 (P : Params) : Obj := Obj.mk Value.none none (Data.fields #[Value.int 1 0, Value.int 0 0, Value.ref 20]) #[]
noncomputable def ho15v1 (P : Params) : Obj := Obj.mk (Value.type "tuple") none (Data.seq #[]) #[]
noncomputable def ho16v1 (P : Params) : Obj := Obj.mk Value.none none (Data.fields #[]) #[]
noncomputable def ho17v1 (P : Params) : Obj := Obj.mk (Value.type "tuple") none (Data.seq #[Value.str (Str.ofString "k") 190]) #[]
noncomputable def ho18v1 (P : Params) : Obj := Obj.mk (Value.type "tuple") none (Data.seq #[]) #[]
noncomputable def ho19v1 (P : Params) : Obj := Obj.mk Value.none none
  (Data.func
    (FuncData.mk (Str.ofString "_wall") (Str.ofString "_wall") ha0 hb0 hs0 0 [] Value.none Value.none Value.none
      Value.none none Value.none Value.none 0))
  #[]
noncomputable def ho20v1 (P : Params) : Obj := Obj.mk (Value.type "code") none
  (Data.fields
    #[Value.str (Str.ofString "_wall") 187, Value.str (Str.ofString "_wall") 188,
      Value.str (Str.ofString "/claim/cut.py") 189, Value.int 1 0, Value.int 1 0, Value.int 0 0, Value.int 0 0,
      Value.int 3 0, Value.ref 15, Value.bool true, Value.int 181 0, Value.ref 16, Value.none, Value.ref 17,
      Value.ref 18, Value.ref 19, Value.int 191 0, Value.int 1 0, Value.str (Str.ofString "/claim/cut.py") 192])
  #[]
noncomputable def ho21v1 (P : Params) : Obj := Obj.mk (Value.type "function") none
  (Data.func
    (FuncData.mk (Str.ofString "_wall") (Str.ofString "_wall") ha0 hb0 hs0 3 [] Value.none Value.none Value.none
      (Value.str (Str.ofString "__main__") 164) none (Value.ref 20) Value.none 0))
  #[]
noncomputable def htree1 (P : Params) : BT := (.node (boot_o_0 P) (.node (boot_o_1 P) (.node (ho3v1 P) (.node (boot_o_7 P) (.node (ho15v1 P) .nil .nil) .nil) (.node (ho11v0 P) (.node (ho19v1 P) .nil .nil) .nil)) (.node (boot_o_5 P) (.node (boot_o_9 P) (.node (ho17v1 P) .nil .nil) .nil) (.node (ho13v0 P) (.node (ho21v1 P) .nil .nil) .nil))) (.node (boot_o_2 P) (.node (boot_o_4 P) (.node (boot_o_8 P) (.node (ho16v1 P) .nil .nil) .nil) (.node (ho12v1 P) (.node (ho20v1 P) .nil .nil) .nil)) (.node (boot_o_6 P) (.node (boot_o_10 P) (.node (ho18v1 P) .nil .nil) .nil) (.node (ho14v0 P) .nil .nil))))
/-- cut 1: statements 0 to 2; steps 38 -/
noncomputable def hst1 (w : World) (os : OsState) : SharedT := ⟨htree1 w.params, 22, Life.mk [] [] [] 0 [] [] false #[] [] 0 false false false 0 [2000, 10, 10] false 0 true [] [] 0 false, Array.mk [], Drawn.mk 0 0 0 0, 196, os⟩
noncomputable def hpos1 : Pos := Pos.mk 4 0 4 8
noncomputable def ho2v2 (P : Params) : Obj := Obj.mk Value.none none
  (Data.dict
    #[DictEntry.mk (PyData.keyHash P (Str.ofString "type.__subclasses__.Exception.0"))
        (Value.str (Str.ofString "type.__subclasses__.Exception.0") 212) (Value.int 31 0),
      DictEntry.mk (PyData.keyHash P (Str.ofString "type.__subclasses__.Exception.n"))
        (Value.str (Str.ofString "type.__subclasses__.Exception.n") 213) (Value.int 1 0)]
    2)
  #[]
noncomputable def ho3v2 (P : Params) : Obj := Obj.mk (Value.type "dict") none
  (Data.dict
    #[DictEntry.mk (PyData.keyHash P (Str.ofString "__name__")) (Value.str (Str.ofString "__name__") 165)
        (Value.str (Str.ofString "clausemill.symbols") 194),
      DictEntry.mk (PyData.keyHash P (Str.ofString "__doc__")) (Value.str (Str.ofString "__doc__") 166) Value.none,
      DictEntry.mk (PyData.keyHash P (Str.ofString "__package__")) (Value.str (Str.ofString "__package__") 167)
        Value.none,
      DictEntry.mk (PyData.keyHash P (Str.ofString "__loader__")) (Value.str (Str.ofString "__loader__") 168)
        (Value.builtin "__main__.__loader__#opaque"),
      DictEntry.mk (PyData.keyHash P (Str.ofString "__spec__")) (Value.str (Str.ofString "__spec__") 169) Value.none,
      DictEntry.mk (PyData.keyHash P (Str.ofString "__annotations__")) (Value.str (Str.ofString "__annotations__") 170)
        (Value.ref 6),
      DictEntry.mk (PyData.keyHash P (Str.ofString "__builtins__")) (Value.str (Str.ofString "__builtins__") 171)
        (Value.ref 4),
      DictEntry.mk (PyData.keyHash P (Str.ofString "__file__")) (Value.str (Str.ofString "__file__") 173)
        (Value.str (Str.ofString "/claim/cut.py") 172),
      DictEntry.mk (PyData.keyHash P (Str.ofString "__cached__")) (Value.str (Str.ofString "__cached__") 174)
        Value.none,
      DictEntry.mk (PyData.keyHash P (Str.ofString "_wall")) (Value.str (Str.ofString "_wall") 193) (Value.ref 21),
      DictEntry.mk (PyData.keyHash P (Str.ofString "ClausemillError")) (Value.str (Str.ofString "ClausemillError") 215)
        (Value.ref 31)]
    11)
  #[]
noncomputable def ho12v2 (P : Params) : Obj := Obj.mk Value.none none
  (Data.fields #[Value.int 1 0, Value.int 0 0, Value.ref 20, Value.int 5 0, Value.int 0 0, Value.ref 27]) #[]
noncomputable def ho22v2 (P : Params) : Obj := Obj.mk (Value.type "tuple") none (Data.seq #[Value.type "Exception"]) #[]
noncomputable def ho23v2 (P : Params) : Obj := Obj.mk (Value.type "builtin_function_or_method") none
  (Data.fields #[Value.builtin "type.__prepare__", Value.type "type"]) #[]
noncomputable def ho24v2 (P : Params) : Obj := Obj.mk (Value.type "dict") none
  (Data.dict
    #[DictEntry.mk (PyData.keyHash P (Str.ofString "__module__")) (Value.str (Str.ofString "__module__") 203)
        (Value.str (Str.ofString "clausemill.symbols") 194),
      DictEntry.mk (PyData.keyHash P (Str.ofString "__qualname__")) (Value.str (Str.ofString "__qualname__") 205)
        (Value.str (Str.ofString "ClausemillError") 204),
      DictEntry.mk (PyData.keyHash P (Str.ofString "__firstlineno__")) (Value.str (Str.ofString "__firstlineno__") 207)
        (Value.int 5 206),
      DictEntry.mk (PyData.keyHash P (Str.ofString "__static_attributes__"))
        (Value.str (Str.ofString "__static_attributes__") 208) (Value.ref 29)]
    4)
  #[]
noncomputable def ho25v2 (P : Params) : Obj := Obj.mk (Value.type "tuple") none (Data.seq #[]) #[]
noncomputable def ho26v2 (P : Params) : Obj := Obj.mk Value.none none (Data.fields #[]) #[]
noncomputable def ho27v2 (P : Params) : Obj := Obj.mk (Value.type "code") none
  (Data.fields
    #[Value.str (Str.ofString "ClausemillError") 198, Value.str (Str.ofString "ClausemillError") 199,
      Value.str (Str.ofString "/claim/cut.py") 200, Value.int 5 0, Value.int 0 0, Value.int 0 0, Value.int 0 0,
      Value.int 0 0, Value.ref 25, Value.bool false, Value.int 181 0, Value.ref 26, Value.none, Value.none, Value.none,
      Value.none, Value.int 201 0, Value.int 5 0, Value.str (Str.ofString "/claim/cut.py") 202])
  #[]
noncomputable def ho28v2 (P : Params) : Obj := Obj.mk (Value.type "frame") none Data.plain
  #[some (Value.ref 27), some (Value.ref 3), some (Value.ref 24), none,
    some (Value.str (Str.ofString "clausemill.symbols") 194), none, some (Value.ref 0)]
noncomputable def ho29v2 (P : Params) : Obj := Obj.mk (Value.type "tuple") none (Data.seq #[]) #[]
noncomputable def ho30v2 (P : Params) : Obj := Obj.mk (Value.type "dict") none
  (Data.dict
    #[DictEntry.mk (PyData.keyHash P (Str.ofString "__module__")) (Value.str (Str.ofString "__module__") 203)
        (Value.str (Str.ofString "clausemill.symbols") 194),
      DictEntry.mk (PyData.keyHash P (Str.ofString "__firstlineno__")) (Value.str (Str.ofString "__firstlineno__") 207)
        (Value.int 5 206),
      DictEntry.mk (PyData.keyHash P (Str.ofString "__static_attributes__"))
        (Value.str (Str.ofString "__static_attributes__") 208) (Value.ref 29),
      DictEntry.mk (PyData.keyHash P (Str.ofString "__weakref__")) (Value.str (Str.ofString "__weakref__") 210)
        (Value.ref 32),
      DictEntry.mk (PyData.keyHash P (Str.ofString "__doc__")) (Value.str (Str.ofString "__doc__") 211) Value.none]
    3)
  #[]
noncomputable def ho31v2 (P : Params) : Obj := Obj.mk (Value.type "type") none
  (Data.cls
    (ClassData.mk (Str.ofString "ClausemillError") [Value.type "Exception"]
      [Value.ref 31, Value.type "Exception", Value.type "BaseException", Value.type "object"] 30
      (Str.ofString "ClausemillError") true [] [] false none false))
  #[some (Value.ref 22), none, some (Value.str (Str.ofString "ClausemillError") 196),
    some (Value.str (Str.ofString "ClausemillError") 204), some (Value.builtin "Exception.__new__"),
    some (Value.bool true)]
noncomputable def ho32v2 (P : Params) : Obj := Obj.mk (Value.type "getset_descriptor") none
  (Data.fields
    #[Value.str (Str.ofString "__weakref__") 209, Value.ref 31, Value.builtin "ExceptionGroup.__weakref__", Value.none])
  #[]
noncomputable def ho33v2 (P : Params) : Obj := Obj.mk (Value.type "super") none (Data.fields #[Value.ref 31, Value.ref 31, Value.ref 31]) #[]
noncomputable def ho34v2 (P : Params) : Obj := Obj.mk (Value.type "builtin_function_or_method") none
  (Data.fields #[Value.builtin "object.__init_subclass__", Value.ref 31]) #[]
noncomputable def htree2 (P : Params) : BT := (.node (boot_o_0 P) (.node (boot_o_1 P) (.node (ho3v2 P) (.node (boot_o_7 P) (.node (ho15v1 P) (.node (ho31v2 P) .nil .nil) .nil) (.node (ho23v2 P) .nil .nil)) (.node (ho11v0 P) (.node (ho19v1 P) .nil .nil) (.node (ho27v2 P) .nil .nil))) (.node (boot_o_5 P) (.node (boot_o_9 P) (.node (ho17v1 P) (.node (ho33v2 P) .nil .nil) .nil) (.node (ho25v2 P) .nil .nil)) (.node (ho13v0 P) (.node (ho21v1 P) .nil .nil) (.node (ho29v2 P) .nil .nil)))) (.node (ho2v2 P) (.node (boot_o_4 P) (.node (boot_o_8 P) (.node (ho16v1 P) (.node (ho32v2 P) .nil .nil) .nil) (.node (ho24v2 P) .nil .nil)) (.node (ho12v2 P) (.node (ho20v1 P) .nil .nil) (.node (ho28v2 P) .nil .nil))) (.node (boot_o_6 P) (.node (boot_o_10 P) (.node (ho18v1 P) (.node (ho34v2 P) .nil .nil) .nil) (.node (ho26v2 P) .nil .nil)) (.node (ho14v0 P) (.node (ho22v2 P) .nil .nil) (.node (ho30v2 P) .nil .nil)))))
/-- cut 2: statements 2 to 3; steps 196 -/
noncomputable def hst2 (w : World) (os : OsState) : SharedT := ⟨htree2 w.params, 35, Life.mk [] [] [] 0 [] [] false #[] [] 0 false false false 0 [2000, 10, 10] false 0 true [] [] 0 false, Array.mk [], Drawn.mk 0 0 0 0, 216, os⟩
noncomputable def hpos2 : Pos := Pos.mk 5 0 6 8
noncomputable def ho3v3 (P : Params) : Obj := Obj.mk (Value.type "dict") none
  (Data.dict
    #[DictEntry.mk (PyData.keyHash P (Str.ofString "__name__")) (Value.str (Str.ofString "__name__") 165)
        (Value.str (Str.ofString "clausemill.symbols") 194),
      DictEntry.mk (PyData.keyHash P (Str.ofString "__doc__")) (Value.str (Str.ofString "__doc__") 166) Value.none,
      DictEntry.mk (PyData.keyHash P (Str.ofString "__package__")) (Value.str (Str.ofString "__package__") 167)
        Value.none,
      DictEntry.mk (PyData.keyHash P (Str.ofString "__loader__")) (Value.str (Str.ofString "__loader__") 168)
        (Value.builtin "__main__.__loader__#opaque"),
      DictEntry.mk (PyData.keyHash P (Str.ofString "__spec__")) (Value.str (Str.ofString "__spec__") 169) Value.none,
      DictEntry.mk (PyData.keyHash P (Str.ofString "__annotations__")) (Value.str (Str.ofString "__annotations__") 170)
        (Value.ref 6),
      DictEntry.mk (PyData.keyHash P (Str.ofString "__builtins__")) (Value.str (Str.ofString "__builtins__") 171)
        (Value.ref 4),
      DictEntry.mk (PyData.keyHash P (Str.ofString "__file__")) (Value.str (Str.ofString "__file__") 173)
        (Value.str (Str.ofString "/claim/cut.py") 172),
      DictEntry.mk (PyData.keyHash P (Str.ofString "__cached__")) (Value.str (Str.ofString "__cached__") 174)
        Value.none,
      DictEntry.mk (PyData.keyHash P (Str.ofString "_wall")) (Value.str (Str.ofString "_wall") 193) (Value.ref 21),
      DictEntry.mk (PyData.keyHash P (Str.ofString "ClausemillError")) (Value.str (Str.ofString "ClausemillError") 215)
        (Value.ref 31),
      DictEntry.mk (PyData.keyHash P (Str.ofString "PrologError")) (Value.str (Str.ofString "PrologError") 240)
        (Value.ref 51)]
    12)
  #[]
noncomputable def ho12v3 (P : Params) : Obj := Obj.mk Value.none none
  (Data.fields
    #[Value.int 1 0, Value.int 0 0, Value.ref 20, Value.int 5 0, Value.int 0 0, Value.ref 27, Value.int 7 0,
      Value.int 0 0, Value.ref 40])
  #[]
noncomputable def ho31v3 (P : Params) : Obj := Obj.mk (Value.type "type") none
  (Data.cls
    (ClassData.mk (Str.ofString "ClausemillError") [Value.type "Exception"]
      [Value.ref 31, Value.type "Exception", Value.type "BaseException", Value.type "object"] 30
      (Str.ofString "ClausemillError") true [] [Value.ref 51] false none false))
  #[some (Value.ref 22), none, some (Value.str (Str.ofString "ClausemillError") 196),
    some (Value.str (Str.ofString "ClausemillError") 204), some (Value.builtin "Exception.__new__"),
    some (Value.bool true)]
noncomputable def ho35v3 (P : Params) : Obj := Obj.mk (Value.type "tuple") none (Data.seq #[Value.ref 31]) #[]
noncomputable def ho36v3 (P : Params) : Obj := Obj.mk (Value.type "builtin_function_or_method") none
  (Data.fields #[Value.builtin "type.__prepare__", Value.type "type"]) #[]
noncomputable def ho37v3 (P : Params) : Obj := Obj.mk (Value.type "dict") none
  (Data.dict
    #[DictEntry.mk (PyData.keyHash P (Str.ofString "__module__")) (Value.str (Str.ofString "__module__") 223)
        (Value.str (Str.ofString "clausemill.symbols") 194),
      DictEntry.mk (PyData.keyHash P (Str.ofString "__qualname__")) (Value.str (Str.ofString "__qualname__") 225)
        (Value.str (Str.ofString "PrologError") 224),
      DictEntry.mk (PyData.keyHash P (Str.ofString "__firstlineno__")) (Value.str (Str.ofString "__firstlineno__") 227)
        (Value.int 7 226),
      DictEntry.mk (PyData.keyHash P (Str.ofString "__init__")) (Value.str (Str.ofString "__init__") 235)
        (Value.ref 48),
      DictEntry.mk (PyData.keyHash P (Str.ofString "__static_attributes__"))
        (Value.str (Str.ofString "__static_attributes__") 237) (Value.ref 49)]
    5)
  #[]
noncomputable def ho38v3 (P : Params) : Obj := Obj.mk (Value.type "tuple") none (Data.seq #[]) #[]
noncomputable def ho39v3 (P : Params) : Obj := Obj.mk Value.none none (Data.fields #[Value.int 9 0, Value.int 4 0, Value.ref 47]) #[]
noncomputable def ho40v3 (P : Params) : Obj := Obj.mk (Value.type "code") none
  (Data.fields
    #[Value.str (Str.ofString "PrologError") 218, Value.str (Str.ofString "PrologError") 219,
      Value.str (Str.ofString "/claim/cut.py") 220, Value.int 7 0, Value.int 0 0, Value.int 0 0, Value.int 0 0,
      Value.int 0 0, Value.ref 38, Value.bool false, Value.int 181 0, Value.ref 39, Value.none, Value.none, Value.none,
      Value.none, Value.int 221 0, Value.int 7 0, Value.str (Str.ofString "/claim/cut.py") 222])
  #[]
noncomputable def ho41v3 (P : Params) : Obj := Obj.mk (Value.type "frame") none Data.plain
  #[some (Value.ref 40), some (Value.ref 3), some (Value.ref 37), none,
    some (Value.str (Str.ofString "clausemill.symbols") 194), none, some (Value.ref 0)]
noncomputable def ho42v3 (P : Params) : Obj := Obj.mk (Value.type "tuple") none (Data.seq #[]) #[]
noncomputable def ho43v3 (P : Params) : Obj := Obj.mk Value.none none (Data.fields #[]) #[]
noncomputable def ho44v3 (P : Params) : Obj := Obj.mk (Value.type "tuple") none (Data.seq #[Value.str (Str.ofString "self") 231, Value.str (Str.ofString "ball") 232])
  #[]
noncomputable def ho45v3 (P : Params) : Obj := Obj.mk (Value.type "tuple") none (Data.seq #[]) #[]
noncomputable def ho46v3 (P : Params) : Obj := Obj.mk Value.none none
  (Data.func
    (FuncData.mk (Str.ofString "__init__") (Str.ofString "PrologError.__init__") ha3m0 hb3m0 hs3m0 0 [] Value.none
      Value.none Value.none Value.none none Value.none Value.none 0))
  #[]
noncomputable def ho47v3 (P : Params) : Obj := Obj.mk (Value.type "code") none
  (Data.fields
    #[Value.str (Str.ofString "__init__") 228, Value.str (Str.ofString "PrologError.__init__") 229,
      Value.str (Str.ofString "/claim/cut.py") 230, Value.int 9 0, Value.int 2 0, Value.int 0 0, Value.int 0 0,
      Value.int 3 0, Value.ref 42, Value.bool true, Value.int 181 0, Value.ref 43, Value.none, Value.ref 44,
      Value.ref 45, Value.ref 46, Value.int 233 0, Value.int 9 0, Value.str (Str.ofString "/claim/cut.py") 234])
  #[]
noncomputable def ho48v3 (P : Params) : Obj := Obj.mk (Value.type "function") none
  (Data.func
    (FuncData.mk (Str.ofString "__init__") (Str.ofString "PrologError.__init__") ha3m0 hb3m0 hs3m0 3 [] Value.none
      Value.none Value.none (Value.str (Str.ofString "clausemill.symbols") 194) none (Value.ref 47) Value.none 0))
  #[]
noncomputable def ho49v3 (P : Params) : Obj := Obj.mk (Value.type "tuple") none (Data.seq #[Value.str (Str.ofString "ball") 236]) #[]
noncomputable def ho50v3 (P : Params) : Obj := Obj.mk (Value.type "dict") none
  (Data.dict
    #[DictEntry.mk (PyData.keyHash P (Str.ofString "__module__")) (Value.str (Str.ofString "__module__") 223)
        (Value.str (Str.ofString "clausemill.symbols") 194),
      DictEntry.mk (PyData.keyHash P (Str.ofString "__firstlineno__")) (Value.str (Str.ofString "__firstlineno__") 227)
        (Value.int 7 226),
      DictEntry.mk (PyData.keyHash P (Str.ofString "__init__")) (Value.str (Str.ofString "__init__") 235)
        (Value.ref 48),
      DictEntry.mk (PyData.keyHash P (Str.ofString "__static_attributes__"))
        (Value.str (Str.ofString "__static_attributes__") 237) (Value.ref 49),
      DictEntry.mk (PyData.keyHash P (Str.ofString "__doc__")) (Value.str (Str.ofString "__doc__") 238) Value.none]
    2)
  #[]
noncomputable def ho51v3 (P : Params) : Obj := Obj.mk (Value.type "type") none
  (Data.cls
    (ClassData.mk (Str.ofString "PrologError") [Value.ref 31]
      [Value.ref 51, Value.ref 31, Value.type "Exception", Value.type "BaseException", Value.type "object"] 50
      (Str.ofString "PrologError") true [] [] false none false))
  #[some (Value.ref 35), none, some (Value.str (Str.ofString "PrologError") 216),
    some (Value.str (Str.ofString "PrologError") 224), some (Value.builtin "Exception.__new__"), some (Value.bool true)]
noncomputable def ho52v3 (P : Params) : Obj := Obj.mk (Value.type "super") none (Data.fields #[Value.ref 51, Value.ref 51, Value.ref 51]) #[]
noncomputable def ho53v3 (P : Params) : Obj := Obj.mk (Value.type "builtin_function_or_method") none
  (Data.fields #[Value.builtin "object.__init_subclass__", Value.ref 51]) #[]
noncomputable def htree3 (P : Params) : BT := (.node (boot_o_0 P) (.node (boot_o_1 P) (.node (ho3v3 P) (.node (boot_o_7 P) (.node (ho15v1 P) (.node (ho31v3 P) .nil .nil) (.node (ho47v3 P) .nil .nil)) (.node (ho23v2 P) (.node (ho39v3 P) .nil .nil) .nil)) (.node (ho11v0 P) (.node (ho19v1 P) (.node (ho35v3 P) .nil .nil) (.node (ho51v3 P) .nil .nil)) (.node (ho27v2 P) (.node (ho43v3 P) .nil .nil) .nil))) (.node (boot_o_5 P) (.node (boot_o_9 P) (.node (ho17v1 P) (.node (ho33v2 P) .nil .nil) (.node (ho49v3 P) .nil .nil)) (.node (ho25v2 P) (.node (ho41v3 P) .nil .nil) .nil)) (.node (ho13v0 P) (.node (ho21v1 P) (.node (ho37v3 P) .nil .nil) (.node (ho53v3 P) .nil .nil)) (.node (ho29v2 P) (.node (ho45v3 P) .nil .nil) .nil)))) (.node (ho2v2 P) (.node (boot_o_4 P) (.node (boot_o_8 P) (.node (ho16v1 P) (.node (ho32v2 P) .nil .nil) (.node (ho48v3 P) .nil .nil)) (.node (ho24v2 P) (.node (ho40v3 P) .nil .nil) .nil)) (.node (ho12v3 P) (.node (ho20v1 P) (.node (ho36v3 P) .nil .nil) (.node (ho52v3 P) .nil .nil)) (.node (ho28v2 P) (.node (ho44v3 P) .nil .nil) .nil))) (.node (boot_o_6 P) (.node (boot_o_10 P) (.node (ho18v1 P) (.node (ho34v2 P) .nil .nil) (.node (ho50v3 P) .nil .nil)) (.node (ho26v2 P) (.node (ho42v3 P) .nil .nil) .nil)) (.node (ho14v0 P) (.node (ho22v2 P) (.node (ho38v3 P) .nil .nil) .nil) (.node (ho30v2 P) (.node (ho46v3 P) .nil .nil) .nil)))))
/-- cut 3: statements 3 to 4; steps 245 -/
noncomputable def hst3 (w : World) (os : OsState) : SharedT := ⟨htree3 w.params, 54, Life.mk [] [] [] 0 [] [] false #[] [] 0 false false false 0 [2000, 10, 10] false 0 true [] [] 0 false, Array.mk [], Drawn.mk 0 0 0 0, 241, os⟩
noncomputable def hpos3 : Pos := Pos.mk 7 0 10 24
noncomputable def ho3v4 (P : Params) : Obj := Obj.mk (Value.type "dict") none
  (Data.dict
    #[DictEntry.mk (PyData.keyHash P (Str.ofString "__name__")) (Value.str (Str.ofString "__name__") 165)
        (Value.str (Str.ofString "clausemill.symbols") 194),
      DictEntry.mk (PyData.keyHash P (Str.ofString "__doc__")) (Value.str (Str.ofString "__doc__") 166) Value.none,
      DictEntry.mk (PyData.keyHash P (Str.ofString "__package__")) (Value.str (Str.ofString "__package__") 167)
        Value.none,
      DictEntry.mk (PyData.keyHash P (Str.ofString "__loader__")) (Value.str (Str.ofString "__loader__") 168)
        (Value.builtin "__main__.__loader__#opaque"),
      DictEntry.mk (PyData.keyHash P (Str.ofString "__spec__")) (Value.str (Str.ofString "__spec__") 169) Value.none,
      DictEntry.mk (PyData.keyHash P (Str.ofString "__annotations__")) (Value.str (Str.ofString "__annotations__") 170)
        (Value.ref 6),
      DictEntry.mk (PyData.keyHash P (Str.ofString "__builtins__")) (Value.str (Str.ofString "__builtins__") 171)
        (Value.ref 4),
      DictEntry.mk (PyData.keyHash P (Str.ofString "__file__")) (Value.str (Str.ofString "__file__") 173)
        (Value.str (Str.ofString "/claim/cut.py") 172),
      DictEntry.mk (PyData.keyHash P (Str.ofString "__cached__")) (Value.str (Str.ofString "__cached__") 174)
        Value.none,
      DictEntry.mk (PyData.keyHash P (Str.ofString "_wall")) (Value.str (Str.ofString "_wall") 193) (Value.ref 21),
      DictEntry.mk (PyData.keyHash P (Str.ofString "ClausemillError")) (Value.str (Str.ofString "ClausemillError") 215)
        (Value.ref 31),
      DictEntry.mk (PyData.keyHash P (Str.ofString "PrologError")) (Value.str (Str.ofString "PrologError") 240)
        (Value.ref 51),
      DictEntry.mk (PyData.keyHash P (Str.ofString "A_SYSTEM")) (Value.str (Str.ofString "A_SYSTEM") 242)
        (Value.int 25 241),
      DictEntry.mk (PyData.keyHash P (Str.ofString "F_SLASH")) (Value.str (Str.ofString "F_SLASH") 244)
        (Value.int 15 243),
      DictEntry.mk (PyData.keyHash P (Str.ofString "F_ERROR")) (Value.str (Str.ofString "F_ERROR") 246)
        (Value.int 16 245),
      DictEntry.mk (PyData.keyHash P (Str.ofString "fixed_atoms")) (Value.str (Str.ofString "fixed_atoms") 252)
        (Value.ref 60),
      DictEntry.mk (PyData.keyHash P (Str.ofString "fixed_functors")) (Value.str (Str.ofString "fixed_functors") 258)
        (Value.ref 67)]
    17)
  #[]
noncomputable def ho12v4 (P : Params) : Obj := Obj.mk Value.none none
  (Data.fields
    #[Value.int 1 0, Value.int 0 0, Value.ref 20, Value.int 5 0, Value.int 0 0, Value.ref 27, Value.int 7 0,
      Value.int 0 0, Value.ref 40, Value.int 14 0, Value.int 0 0, Value.ref 59, Value.int 16 0, Value.int 0 0,
      Value.ref 66])
  #[]
noncomputable def ho54v4 (P : Params) : Obj := Obj.mk (Value.type "tuple") none (Data.seq #[]) #[]
noncomputable def ho55v4 (P : Params) : Obj := Obj.mk Value.none none (Data.fields #[]) #[]
noncomputable def ho56v4 (P : Params) : Obj := Obj.mk (Value.type "tuple") none (Data.seq #[]) #[]
noncomputable def ho57v4 (P : Params) : Obj := Obj.mk (Value.type "tuple") none (Data.seq #[]) #[]
noncomputable def ho58v4 (P : Params) : Obj := Obj.mk Value.none none
  (Data.func
    (FuncData.mk (Str.ofString "fixed_atoms") (Str.ofString "fixed_atoms") ha7 hb7 hs7 0 [] Value.none Value.none
      Value.none Value.none none Value.none Value.none 0))
  #[]
noncomputable def ho59v4 (P : Params) : Obj := Obj.mk (Value.type "code") none
  (Data.fields
    #[Value.str (Str.ofString "fixed_atoms") 247, Value.str (Str.ofString "fixed_atoms") 248,
      Value.str (Str.ofString "/claim/cut.py") 249, Value.int 14 0, Value.int 0 0, Value.int 0 0, Value.int 0 0,
      Value.int 3 0, Value.ref 54, Value.bool true, Value.int 181 0, Value.ref 55, Value.none, Value.ref 56,
      Value.ref 57, Value.ref 58, Value.int 250 0, Value.int 14 0, Value.str (Str.ofString "/claim/cut.py") 251])
  #[]
noncomputable def ho60v4 (P : Params) : Obj := Obj.mk (Value.type "function") none
  (Data.func
    (FuncData.mk (Str.ofString "fixed_atoms") (Str.ofString "fixed_atoms") ha7 hb7 hs7 3 [] Value.none Value.none
      Value.none (Value.str (Str.ofString "clausemill.symbols") 194) none (Value.ref 59) Value.none 0))
  #[]
noncomputable def ho61v4 (P : Params) : Obj := Obj.mk (Value.type "tuple") none (Data.seq #[]) #[]
noncomputable def ho62v4 (P : Params) : Obj := Obj.mk Value.none none (Data.fields #[]) #[]
noncomputable def ho63v4 (P : Params) : Obj := Obj.mk (Value.type "tuple") none (Data.seq #[]) #[]
noncomputable def ho64v4 (P : Params) : Obj := Obj.mk (Value.type "tuple") none (Data.seq #[]) #[]
noncomputable def ho65v4 (P : Params) : Obj := Obj.mk Value.none none
  (Data.func
    (FuncData.mk (Str.ofString "fixed_functors") (Str.ofString "fixed_functors") ha7 hb8 hs7 0 [] Value.none Value.none
      Value.none Value.none none Value.none Value.none 0))
  #[]
noncomputable def ho66v4 (P : Params) : Obj := Obj.mk (Value.type "code") none
  (Data.fields
    #[Value.str (Str.ofString "fixed_functors") 253, Value.str (Str.ofString "fixed_functors") 254,
      Value.str (Str.ofString "/claim/cut.py") 255, Value.int 16 0, Value.int 0 0, Value.int 0 0, Value.int 0 0,
      Value.int 3 0, Value.ref 61, Value.bool true, Value.int 181 0, Value.ref 62, Value.none, Value.ref 63,
      Value.ref 64, Value.ref 65, Value.int 256 0, Value.int 16 0, Value.str (Str.ofString "/claim/cut.py") 257])
  #[]
noncomputable def ho67v4 (P : Params) : Obj := Obj.mk (Value.type "function") none
  (Data.func
    (FuncData.mk (Str.ofString "fixed_functors") (Str.ofString "fixed_functors") ha7 hb8 hs7 3 [] Value.none Value.none
      Value.none (Value.str (Str.ofString "clausemill.symbols") 194) none (Value.ref 66) Value.none 0))
  #[]
noncomputable def htree4 (P : Params) : BT := (.node (boot_o_0 P) (.node (boot_o_1 P) (.node (ho3v4 P) (.node (boot_o_7 P) (.node (ho15v1 P) (.node (ho31v3 P) (.node (ho63v4 P) .nil .nil) .nil) (.node (ho47v3 P) .nil .nil)) (.node (ho23v2 P) (.node (ho39v3 P) .nil .nil) (.node (ho55v4 P) .nil .nil))) (.node (ho11v0 P) (.node (ho19v1 P) (.node (ho35v3 P) (.node (ho67v4 P) .nil .nil) .nil) (.node (ho51v3 P) .nil .nil)) (.node (ho27v2 P) (.node (ho43v3 P) .nil .nil) (.node (ho59v4 P) .nil .nil)))) (.node (boot_o_5 P) (.node (boot_o_9 P) (.node (ho17v1 P) (.node (ho33v2 P) (.node (ho65v4 P) .nil .nil) .nil) (.node (ho49v3 P) .nil .nil)) (.node (ho25v2 P) (.node (ho41v3 P) .nil .nil) (.node (ho57v4 P) .nil .nil))) (.node (ho13v0 P) (.node (ho21v1 P) (.node (ho37v3 P) .nil .nil) (.node (ho53v3 P) .nil .nil)) (.node (ho29v2 P) (.node (ho45v3 P) .nil .nil) (.node (ho61v4 P) .nil .nil))))) (.node (ho2v2 P) (.node (boot_o_4 P) (.node (boot_o_8 P) (.node (ho16v1 P) (.node (ho32v2 P) (.node (ho64v4 P) .nil .nil) .nil) (.node (ho48v3 P) .nil .nil)) (.node (ho24v2 P) (.node (ho40v3 P) .nil .nil) (.node (ho56v4 P) .nil .nil))) (.node (ho12v4 P) (.node (ho20v1 P) (.node (ho36v3 P) .nil .nil) (.node (ho52v3 P) .nil .nil)) (.node (ho28v2 P) (.node (ho44v3 P) .nil .nil) (.node (ho60v4 P) .nil .nil)))) (.node (boot_o_6 P) (.node (boot_o_10 P) (.node (ho18v1 P) (.node (ho34v2 P) (.node (ho66v4 P) .nil .nil) .nil) (.node (ho50v3 P) .nil .nil)) (.node (ho26v2 P) (.node (ho42v3 P) .nil .nil) (.node (ho58v4 P) .nil .nil))) (.node (ho14v0 P) (.node (ho22v2 P) (.node (ho38v3 P) .nil .nil) (.node (ho54v4 P) .nil .nil)) (.node (ho30v2 P) (.node (ho46v3 P) .nil .nil) (.node (ho62v4 P) .nil .nil))))))
/-- cut 4: statements 4 to 9; steps 83 -/
noncomputable def hst4 (w : World) (os : OsState) : SharedT := ⟨htree4 w.params, 68, Life.mk [] [] [] 0 [] [] false #[] [] 0 false false false 0 [2000, 10, 10] false 0 true [] [] 0 false, Array.mk [], Drawn.mk 0 0 0 0, 259, os⟩
noncomputable def hpos4 : Pos := Pos.mk 16 0 17 389
noncomputable def ho3v5 (P : Params) : Obj := Obj.mk (Value.type "dict") none
  (Data.dict
    #[DictEntry.mk (PyData.keyHash P (Str.ofString "__name__")) (Value.str (Str.ofString "__name__") 165)
        (Value.str (Str.ofString "clausemill.symbols") 194),
      DictEntry.mk (PyData.keyHash P (Str.ofString "__doc__")) (Value.str (Str.ofString "__doc__") 166) Value.none,
      DictEntry.mk (PyData.keyHash P (Str.ofString "__package__")) (Value.str (Str.ofString "__package__") 167)
        Value.none,
      DictEntry.mk (PyData.keyHash P (Str.ofString "__loader__")) (Value.str (Str.ofString "__loader__") 168)
        (Value.builtin "__main__.__loader__#opaque"),
      DictEntry.mk (PyData.keyHash P (Str.ofString "__spec__")) (Value.str (Str.ofString "__spec__") 169) Value.none,
      DictEntry.mk (PyData.keyHash P (Str.ofString "__annotations__")) (Value.str (Str.ofString "__annotations__") 170)
        (Value.ref 6),
      DictEntry.mk (PyData.keyHash P (Str.ofString "__builtins__")) (Value.str (Str.ofString "__builtins__") 171)
        (Value.ref 4),
      DictEntry.mk (PyData.keyHash P (Str.ofString "__file__")) (Value.str (Str.ofString "__file__") 173)
        (Value.str (Str.ofString "/claim/cut.py") 172),
      DictEntry.mk (PyData.keyHash P (Str.ofString "__cached__")) (Value.str (Str.ofString "__cached__") 174)
        Value.none,
      DictEntry.mk (PyData.keyHash P (Str.ofString "_wall")) (Value.str (Str.ofString "_wall") 193) (Value.ref 21),
      DictEntry.mk (PyData.keyHash P (Str.ofString "ClausemillError")) (Value.str (Str.ofString "ClausemillError") 215)
        (Value.ref 31),
      DictEntry.mk (PyData.keyHash P (Str.ofString "PrologError")) (Value.str (Str.ofString "PrologError") 240)
        (Value.ref 51),
      DictEntry.mk (PyData.keyHash P (Str.ofString "A_SYSTEM")) (Value.str (Str.ofString "A_SYSTEM") 242)
        (Value.int 25 241),
      DictEntry.mk (PyData.keyHash P (Str.ofString "F_SLASH")) (Value.str (Str.ofString "F_SLASH") 244)
        (Value.int 15 243),
      DictEntry.mk (PyData.keyHash P (Str.ofString "F_ERROR")) (Value.str (Str.ofString "F_ERROR") 246)
        (Value.int 16 245),
      DictEntry.mk (PyData.keyHash P (Str.ofString "fixed_atoms")) (Value.str (Str.ofString "fixed_atoms") 252)
        (Value.ref 60),
      DictEntry.mk (PyData.keyHash P (Str.ofString "fixed_functors")) (Value.str (Str.ofString "fixed_functors") 258)
        (Value.ref 67),
      DictEntry.mk (PyData.keyHash P (Str.ofString "Symbols")) (Value.str (Str.ofString "Symbols") 377) (Value.ref 154)]
    18)
  #[]
noncomputable def ho12v5 (P : Params) : Obj := Obj.mk Value.none none
  (Data.fields
    #[Value.int 1 0, Value.int 0 0, Value.ref 20, Value.int 5 0, Value.int 0 0, Value.ref 27, Value.int 7 0,
      Value.int 0 0, Value.ref 40, Value.int 14 0, Value.int 0 0, Value.ref 59, Value.int 16 0, Value.int 0 0,
      Value.ref 66, Value.int 18 0, Value.int 0 0, Value.ref 73])
  #[]
noncomputable def ho68v5 (P : Params) : Obj := Obj.mk (Value.type "tuple") none (Data.seq #[]) #[]
noncomputable def ho69v5 (P : Params) : Obj := Obj.mk (Value.type "builtin_function_or_method") none
  (Data.fields #[Value.builtin "type.__prepare__", Value.type "type"]) #[]
noncomputable def ho70v5 (P : Params) : Obj := Obj.mk (Value.type "dict") none
  (Data.dict
    #[DictEntry.mk (PyData.keyHash P (Str.ofString "__module__")) (Value.str (Str.ofString "__module__") 266)
        (Value.str (Str.ofString "clausemill.symbols") 194),
      DictEntry.mk (PyData.keyHash P (Str.ofString "__qualname__")) (Value.str (Str.ofString "__qualname__") 268)
        (Value.str (Str.ofString "Symbols") 267),
      DictEntry.mk (PyData.keyHash P (Str.ofString "__firstlineno__")) (Value.str (Str.ofString "__firstlineno__") 270)
        (Value.int 18 269),
      DictEntry.mk (PyData.keyHash P (Str.ofString "__init__")) (Value.str (Str.ofString "__init__") 279)
        (Value.ref 81),
      DictEntry.mk (PyData.keyHash P (Str.ofString "atom")) (Value.str (Str.ofString "atom") 289) (Value.ref 88),
      DictEntry.mk (PyData.keyHash P (Str.ofString "text")) (Value.str (Str.ofString "text") 297) (Value.ref 95),
      DictEntry.mk (PyData.keyHash P (Str.ofString "functor")) (Value.str (Str.ofString "functor") 309) (Value.ref 102),
      DictEntry.mk (PyData.keyHash P (Str.ofString "func")) (Value.str (Str.ofString "func") 318) (Value.ref 109),
      DictEntry.mk (PyData.keyHash P (Str.ofString "name")) (Value.str (Str.ofString "name") 326) (Value.ref 116),
      DictEntry.mk (PyData.keyHash P (Str.ofString "arity")) (Value.str (Str.ofString "arity") 334) (Value.ref 123),
      DictEntry.mk (PyData.keyHash P (Str.ofString "label")) (Value.str (Str.ofString "label") 342) (Value.ref 130),
      DictEntry.mk (PyData.keyHash P (Str.ofString "count")) (Value.str (Str.ofString "count") 349) (Value.ref 137),
      DictEntry.mk (PyData.keyHash P (Str.ofString "functor_count")) (Value.str (Str.ofString "functor_count") 356)
        (Value.ref 144),
      DictEntry.mk (PyData.keyHash P (Str.ofString "known")) (Value.str (Str.ofString "known") 365) (Value.ref 151),
      DictEntry.mk (PyData.keyHash P (Str.ofString "__static_attributes__"))
        (Value.str (Str.ofString "__static_attributes__") 370) (Value.ref 152)]
    15)
  #[]
noncomputable def ho71v5 (P : Params) : Obj := Obj.mk (Value.type "tuple") none (Data.seq #[]) #[]
noncomputable def ho72v5 (P : Params) : Obj := Obj.mk Value.none none
  (Data.fields
    #[Value.int 20 0, Value.int 4 0, Value.ref 80, Value.int 30 0, Value.int 4 0, Value.ref 87, Value.int 39 0,
      Value.int 4 0, Value.ref 94, Value.int 42 0, Value.int 4 0, Value.ref 101, Value.int 52 0, Value.int 4 0,
      Value.ref 108, Value.int 55 0, Value.int 4 0, Value.ref 115, Value.int 58 0, Value.int 4 0, Value.ref 122,
      Value.int 61 0, Value.int 4 0, Value.ref 129, Value.int 64 0, Value.int 4 0, Value.ref 136, Value.int 67 0,
      Value.int 4 0, Value.ref 143, Value.int 70 0, Value.int 4 0, Value.ref 150])
  #[]
noncomputable def ho73v5 (P : Params) : Obj := Obj.mk (Value.type "code") none
  (Data.fields
    #[Value.str (Str.ofString "Symbols") 261, Value.str (Str.ofString "Symbols") 262,
      Value.str (Str.ofString "/claim/cut.py") 263, Value.int 18 0, Value.int 0 0, Value.int 0 0, Value.int 0 0,
      Value.int 0 0, Value.ref 71, Value.bool false, Value.int 181 0, Value.ref 72, Value.none, Value.none, Value.none,
      Value.none, Value.int 264 0, Value.int 18 0, Value.str (Str.ofString "/claim/cut.py") 265])
  #[]
noncomputable def ho74v5 (P : Params) : Obj := Obj.mk (Value.type "frame") none Data.plain
  #[some (Value.ref 73), some (Value.ref 3), some (Value.ref 70), none,
    some (Value.str (Str.ofString "clausemill.symbols") 194), none, some (Value.ref 0)]
noncomputable def ho75v5 (P : Params) : Obj := Obj.mk (Value.type "tuple") none (Data.seq #[]) #[]
noncomputable def ho76v5 (P : Params) : Obj := Obj.mk Value.none none (Data.fields #[]) #[]
noncomputable def ho77v5 (P : Params) : Obj := Obj.mk (Value.type "tuple") none
  (Data.seq
    #[Value.str (Str.ofString "self") 274, Value.str (Str.ofString "text") 275, Value.str (Str.ofString "row") 276])
  #[]
noncomputable def ho78v5 (P : Params) : Obj := Obj.mk (Value.type "tuple") none (Data.seq #[]) #[]
noncomputable def ho79v5 (P : Params) : Obj := Obj.mk Value.none none
  (Data.func
    (FuncData.mk (Str.ofString "__init__") (Str.ofString "Symbols.__init__") ha9m0 hb9m0 hs9m0 0 [] Value.none
      Value.none Value.none Value.none none Value.none Value.none 0))
  #[]
noncomputable def ho80v5 (P : Params) : Obj := Obj.mk (Value.type "code") none
  (Data.fields
    #[Value.str (Str.ofString "__init__") 271, Value.str (Str.ofString "Symbols.__init__") 272,
      Value.str (Str.ofString "/claim/cut.py") 273, Value.int 20 0, Value.int 1 0, Value.int 0 0, Value.int 0 0,
      Value.int 3 0, Value.ref 75, Value.bool true, Value.int 181 0, Value.ref 76, Value.none, Value.ref 77,
      Value.ref 78, Value.ref 79, Value.int 277 0, Value.int 20 0, Value.str (Str.ofString "/claim/cut.py") 278])
  #[]
noncomputable def ho81v5 (P : Params) : Obj := Obj.mk (Value.type "function") none
  (Data.func
    (FuncData.mk (Str.ofString "__init__") (Str.ofString "Symbols.__init__") ha9m0 hb9m0 hs9m0 3 [] Value.none
      Value.none Value.none (Value.str (Str.ofString "clausemill.symbols") 194) none (Value.ref 80) Value.none 0))
  #[]
noncomputable def ho82v5 (P : Params) : Obj := Obj.mk (Value.type "tuple") none (Data.seq #[]) #[]
noncomputable def ho83v5 (P : Params) : Obj := Obj.mk Value.none none (Data.fields #[]) #[]
noncomputable def ho84v5 (P : Params) : Obj := Obj.mk (Value.type "tuple") none
  (Data.seq
    #[Value.str (Str.ofString "self") 283, Value.str (Str.ofString "text") 284, Value.str (Str.ofString "found") 285,
      Value.str (Str.ofString "number") 286])
  #[]
noncomputable def ho85v5 (P : Params) : Obj := Obj.mk (Value.type "tuple") none (Data.seq #[]) #[]
noncomputable def ho86v5 (P : Params) : Obj := Obj.mk Value.none none
  (Data.func
    (FuncData.mk (Str.ofString "atom") (Str.ofString "Symbols.atom") ha9m1 hb9m1 hs9m1 0 [] Value.none Value.none
      Value.none Value.none none Value.none Value.none 0))
  #[]
noncomputable def ho87v5 (P : Params) : Obj := Obj.mk (Value.type "code") none
  (Data.fields
    #[Value.str (Str.ofString "atom") 280, Value.str (Str.ofString "Symbols.atom") 281,
      Value.str (Str.ofString "/claim/cut.py") 282, Value.int 30 0, Value.int 2 0, Value.int 0 0, Value.int 0 0,
      Value.int 3 0, Value.ref 82, Value.bool true, Value.int 181 0, Value.ref 83, Value.none, Value.ref 84,
      Value.ref 85, Value.ref 86, Value.int 287 0, Value.int 30 0, Value.str (Str.ofString "/claim/cut.py") 288])
  #[]
noncomputable def ho88v5 (P : Params) : Obj := Obj.mk (Value.type "function") none
  (Data.func
    (FuncData.mk (Str.ofString "atom") (Str.ofString "Symbols.atom") ha9m1 hb9m1 hs9m1 3 [] Value.none Value.none
      Value.none (Value.str (Str.ofString "clausemill.symbols") 194) none (Value.ref 87) Value.none 0))
  #[]
noncomputable def ho89v5 (P : Params) : Obj := Obj.mk (Value.type "tuple") none (Data.seq #[]) #[]
noncomputable def ho90v5 (P : Params) : Obj := Obj.mk Value.none none (Data.fields #[]) #[]
noncomputable def ho91v5 (P : Params) : Obj := Obj.mk (Value.type "tuple") none
  (Data.seq #[Value.str (Str.ofString "self") 293, Value.str (Str.ofString "number") 294]) #[]
noncomputable def ho92v5 (P : Params) : Obj := Obj.mk (Value.type "tuple") none (Data.seq #[]) #[]
noncomputable def ho93v5 (P : Params) : Obj := Obj.mk Value.none none
  (Data.func
    (FuncData.mk (Str.ofString "text") (Str.ofString "Symbols.text") ha9m2 hb9m2 hs9m2 0 [] Value.none Value.none
      Value.none Value.none none Value.none Value.none 0))
  #[]
noncomputable def ho94v5 (P : Params) : Obj := Obj.mk (Value.type "code") none
  (Data.fields
    #[Value.str (Str.ofString "text") 290, Value.str (Str.ofString "Symbols.text") 291,
      Value.str (Str.ofString "/claim/cut.py") 292, Value.int 39 0, Value.int 2 0, Value.int 0 0, Value.int 0 0,
      Value.int 3 0, Value.ref 89, Value.bool true, Value.int 181 0, Value.ref 90, Value.none, Value.ref 91,
      Value.ref 92, Value.ref 93, Value.int 295 0, Value.int 39 0, Value.str (Str.ofString "/claim/cut.py") 296])
  #[]
noncomputable def ho95v5 (P : Params) : Obj := Obj.mk (Value.type "function") none
  (Data.func
    (FuncData.mk (Str.ofString "text") (Str.ofString "Symbols.text") ha9m2 hb9m2 hs9m2 3 [] Value.none Value.none
      Value.none (Value.str (Str.ofString "clausemill.symbols") 194) none (Value.ref 94) Value.none 0))
  #[]
noncomputable def ho96v5 (P : Params) : Obj := Obj.mk (Value.type "tuple") none (Data.seq #[]) #[]
noncomputable def ho97v5 (P : Params) : Obj := Obj.mk Value.none none (Data.fields #[]) #[]
noncomputable def ho98v5 (P : Params) : Obj := Obj.mk (Value.type "tuple") none
  (Data.seq
    #[Value.str (Str.ofString "self") 301, Value.str (Str.ofString "atom") 302, Value.str (Str.ofString "arity") 303,
      Value.str (Str.ofString "key") 304, Value.str (Str.ofString "found") 305, Value.str (Str.ofString "number") 306])
  #[]
noncomputable def ho99v5 (P : Params) : Obj := Obj.mk (Value.type "tuple") none (Data.seq #[]) #[]
noncomputable def ho100v5 (P : Params) : Obj := Obj.mk Value.none none
  (Data.func
    (FuncData.mk (Str.ofString "functor") (Str.ofString "Symbols.functor") ha9m3 hb9m3 hs9m3 0 [] Value.none Value.none
      Value.none Value.none none Value.none Value.none 0))
  #[]
noncomputable def ho101v5 (P : Params) : Obj := Obj.mk (Value.type "code") none
  (Data.fields
    #[Value.str (Str.ofString "functor") 298, Value.str (Str.ofString "Symbols.functor") 299,
      Value.str (Str.ofString "/claim/cut.py") 300, Value.int 42 0, Value.int 3 0, Value.int 0 0, Value.int 0 0,
      Value.int 3 0, Value.ref 96, Value.bool true, Value.int 181 0, Value.ref 97, Value.none, Value.ref 98,
      Value.ref 99, Value.ref 100, Value.int 307 0, Value.int 42 0, Value.str (Str.ofString "/claim/cut.py") 308])
  #[]
noncomputable def ho102v5 (P : Params) : Obj := Obj.mk (Value.type "function") none
  (Data.func
    (FuncData.mk (Str.ofString "functor") (Str.ofString "Symbols.functor") ha9m3 hb9m3 hs9m3 3 [] Value.none Value.none
      Value.none (Value.str (Str.ofString "clausemill.symbols") 194) none (Value.ref 101) Value.none 0))
  #[]
noncomputable def ho103v5 (P : Params) : Obj := Obj.mk (Value.type "tuple") none (Data.seq #[]) #[]
noncomputable def ho104v5 (P : Params) : Obj := Obj.mk Value.none none (Data.fields #[]) #[]
noncomputable def ho105v5 (P : Params) : Obj := Obj.mk (Value.type "tuple") none
  (Data.seq
    #[Value.str (Str.ofString "self") 313, Value.str (Str.ofString "text") 314, Value.str (Str.ofString "arity") 315])
  #[]
noncomputable def ho106v5 (P : Params) : Obj := Obj.mk (Value.type "tuple") none (Data.seq #[]) #[]
noncomputable def ho107v5 (P : Params) : Obj := Obj.mk Value.none none
  (Data.func
    (FuncData.mk (Str.ofString "func") (Str.ofString "Symbols.func") ha9m4 hb9m4 hs9m4 0 [] Value.none Value.none
      Value.none Value.none none Value.none Value.none 0))
  #[]
noncomputable def ho108v5 (P : Params) : Obj := Obj.mk (Value.type "code") none
  (Data.fields
    #[Value.str (Str.ofString "func") 310, Value.str (Str.ofString "Symbols.func") 311,
      Value.str (Str.ofString "/claim/cut.py") 312, Value.int 52 0, Value.int 3 0, Value.int 0 0, Value.int 0 0,
      Value.int 3 0, Value.ref 103, Value.bool true, Value.int 181 0, Value.ref 104, Value.none, Value.ref 105,
      Value.ref 106, Value.ref 107, Value.int 316 0, Value.int 52 0, Value.str (Str.ofString "/claim/cut.py") 317])
  #[]
noncomputable def ho109v5 (P : Params) : Obj := Obj.mk (Value.type "function") none
  (Data.func
    (FuncData.mk (Str.ofString "func") (Str.ofString "Symbols.func") ha9m4 hb9m4 hs9m4 3 [] Value.none Value.none
      Value.none (Value.str (Str.ofString "clausemill.symbols") 194) none (Value.ref 108) Value.none 0))
  #[]
noncomputable def ho110v5 (P : Params) : Obj := Obj.mk (Value.type "tuple") none (Data.seq #[]) #[]
noncomputable def ho111v5 (P : Params) : Obj := Obj.mk Value.none none (Data.fields #[]) #[]
noncomputable def ho112v5 (P : Params) : Obj := Obj.mk (Value.type "tuple") none
  (Data.seq #[Value.str (Str.ofString "self") 322, Value.str (Str.ofString "functor") 323]) #[]
noncomputable def ho113v5 (P : Params) : Obj := Obj.mk (Value.type "tuple") none (Data.seq #[]) #[]
noncomputable def ho114v5 (P : Params) : Obj := Obj.mk Value.none none
  (Data.func
    (FuncData.mk (Str.ofString "name") (Str.ofString "Symbols.name") ha9m5 hb9m5 hs9m5 0 [] Value.none Value.none
      Value.none Value.none none Value.none Value.none 0))
  #[]
noncomputable def ho115v5 (P : Params) : Obj := Obj.mk (Value.type "code") none
  (Data.fields
    #[Value.str (Str.ofString "name") 319, Value.str (Str.ofString "Symbols.name") 320,
      Value.str (Str.ofString "/claim/cut.py") 321, Value.int 55 0, Value.int 2 0, Value.int 0 0, Value.int 0 0,
      Value.int 3 0, Value.ref 110, Value.bool true, Value.int 181 0, Value.ref 111, Value.none, Value.ref 112,
      Value.ref 113, Value.ref 114, Value.int 324 0, Value.int 55 0, Value.str (Str.ofString "/claim/cut.py") 325])
  #[]
noncomputable def ho116v5 (P : Params) : Obj := Obj.mk (Value.type "function") none
  (Data.func
    (FuncData.mk (Str.ofString "name") (Str.ofString "Symbols.name") ha9m5 hb9m5 hs9m5 3 [] Value.none Value.none
      Value.none (Value.str (Str.ofString "clausemill.symbols") 194) none (Value.ref 115) Value.none 0))
  #[]
noncomputable def ho117v5 (P : Params) : Obj := Obj.mk (Value.type "tuple") none (Data.seq #[]) #[]
noncomputable def ho118v5 (P : Params) : Obj := Obj.mk Value.none none (Data.fields #[]) #[]
noncomputable def ho119v5 (P : Params) : Obj := Obj.mk (Value.type "tuple") none
  (Data.seq #[Value.str (Str.ofString "self") 330, Value.str (Str.ofString "functor") 331]) #[]
noncomputable def ho120v5 (P : Params) : Obj := Obj.mk (Value.type "tuple") none (Data.seq #[]) #[]
noncomputable def ho121v5 (P : Params) : Obj := Obj.mk Value.none none
  (Data.func
    (FuncData.mk (Str.ofString "arity") (Str.ofString "Symbols.arity") ha9m6 hb9m6 hs9m5 0 [] Value.none Value.none
      Value.none Value.none none Value.none Value.none 0))
  #[]
noncomputable def ho122v5 (P : Params) : Obj := Obj.mk (Value.type "code") none
  (Data.fields
    #[Value.str (Str.ofString "arity") 327, Value.str (Str.ofString "Symbols.arity") 328,
      Value.str (Str.ofString "/claim/cut.py") 329, Value.int 58 0, Value.int 2 0, Value.int 0 0, Value.int 0 0,
      Value.int 3 0, Value.ref 117, Value.bool true, Value.int 181 0, Value.ref 118, Value.none, Value.ref 119,
      Value.ref 120, Value.ref 121, Value.int 332 0, Value.int 58 0, Value.str (Str.ofString "/claim/cut.py") 333])
  #[]
noncomputable def ho123v5 (P : Params) : Obj := Obj.mk (Value.type "function") none
  (Data.func
    (FuncData.mk (Str.ofString "arity") (Str.ofString "Symbols.arity") ha9m6 hb9m6 hs9m5 3 [] Value.none Value.none
      Value.none (Value.str (Str.ofString "clausemill.symbols") 194) none (Value.ref 122) Value.none 0))
  #[]
noncomputable def ho124v5 (P : Params) : Obj := Obj.mk (Value.type "tuple") none (Data.seq #[]) #[]
noncomputable def ho125v5 (P : Params) : Obj := Obj.mk Value.none none (Data.fields #[]) #[]
noncomputable def ho126v5 (P : Params) : Obj := Obj.mk (Value.type "tuple") none
  (Data.seq #[Value.str (Str.ofString "self") 338, Value.str (Str.ofString "functor") 339]) #[]
noncomputable def ho127v5 (P : Params) : Obj := Obj.mk (Value.type "tuple") none (Data.seq #[]) #[]
noncomputable def ho128v5 (P : Params) : Obj := Obj.mk Value.none none
  (Data.func
    (FuncData.mk (Str.ofString "label") (Str.ofString "Symbols.label") ha9m7 hb9m7 hs9m7 0 [] Value.none Value.none
      Value.none Value.none none Value.none Value.none 0))
  #[]
noncomputable def ho129v5 (P : Params) : Obj := Obj.mk (Value.type "code") none
  (Data.fields
    #[Value.str (Str.ofString "label") 335, Value.str (Str.ofString "Symbols.label") 336,
      Value.str (Str.ofString "/claim/cut.py") 337, Value.int 61 0, Value.int 2 0, Value.int 0 0, Value.int 0 0,
      Value.int 3 0, Value.ref 124, Value.bool true, Value.int 181 0, Value.ref 125, Value.none, Value.ref 126,
      Value.ref 127, Value.ref 128, Value.int 340 0, Value.int 61 0, Value.str (Str.ofString "/claim/cut.py") 341])
  #[]
noncomputable def ho130v5 (P : Params) : Obj := Obj.mk (Value.type "function") none
  (Data.func
    (FuncData.mk (Str.ofString "label") (Str.ofString "Symbols.label") ha9m7 hb9m7 hs9m7 3 [] Value.none Value.none
      Value.none (Value.str (Str.ofString "clausemill.symbols") 194) none (Value.ref 129) Value.none 0))
  #[]
noncomputable def ho131v5 (P : Params) : Obj := Obj.mk (Value.type "tuple") none (Data.seq #[]) #[]
noncomputable def ho132v5 (P : Params) : Obj := Obj.mk Value.none none (Data.fields #[]) #[]
noncomputable def ho133v5 (P : Params) : Obj := Obj.mk (Value.type "tuple") none (Data.seq #[Value.str (Str.ofString "self") 346]) #[]
noncomputable def ho134v5 (P : Params) : Obj := Obj.mk (Value.type "tuple") none (Data.seq #[]) #[]
noncomputable def ho135v5 (P : Params) : Obj := Obj.mk Value.none none
  (Data.func
    (FuncData.mk (Str.ofString "count") (Str.ofString "Symbols.count") ha9m8 hb9m8 hs9m8 0 [] Value.none Value.none
      Value.none Value.none none Value.none Value.none 0))
  #[]
noncomputable def ho136v5 (P : Params) : Obj := Obj.mk (Value.type "code") none
  (Data.fields
    #[Value.str (Str.ofString "count") 343, Value.str (Str.ofString "Symbols.count") 344,
      Value.str (Str.ofString "/claim/cut.py") 345, Value.int 64 0, Value.int 1 0, Value.int 0 0, Value.int 0 0,
      Value.int 3 0, Value.ref 131, Value.bool true, Value.int 181 0, Value.ref 132, Value.none, Value.ref 133,
      Value.ref 134, Value.ref 135, Value.int 347 0, Value.int 64 0, Value.str (Str.ofString "/claim/cut.py") 348])
  #[]
noncomputable def ho137v5 (P : Params) : Obj := Obj.mk (Value.type "function") none
  (Data.func
    (FuncData.mk (Str.ofString "count") (Str.ofString "Symbols.count") ha9m8 hb9m8 hs9m8 3 [] Value.none Value.none
      Value.none (Value.str (Str.ofString "clausemill.symbols") 194) none (Value.ref 136) Value.none 0))
  #[]
noncomputable def ho138v5 (P : Params) : Obj := Obj.mk (Value.type "tuple") none (Data.seq #[]) #[]
noncomputable def ho139v5 (P : Params) : Obj := Obj.mk Value.none none (Data.fields #[]) #[]
noncomputable def ho140v5 (P : Params) : Obj := Obj.mk (Value.type "tuple") none (Data.seq #[Value.str (Str.ofString "self") 353]) #[]
noncomputable def ho141v5 (P : Params) : Obj := Obj.mk (Value.type "tuple") none (Data.seq #[]) #[]
noncomputable def ho142v5 (P : Params) : Obj := Obj.mk Value.none none
  (Data.func
    (FuncData.mk (Str.ofString "functor_count") (Str.ofString "Symbols.functor_count") ha9m9 hb9m9 hs9m9 0 [] Value.none
      Value.none Value.none Value.none none Value.none Value.none 0))
  #[]
noncomputable def ho143v5 (P : Params) : Obj := Obj.mk (Value.type "code") none
  (Data.fields
    #[Value.str (Str.ofString "functor_count") 350, Value.str (Str.ofString "Symbols.functor_count") 351,
      Value.str (Str.ofString "/claim/cut.py") 352, Value.int 67 0, Value.int 1 0, Value.int 0 0, Value.int 0 0,
      Value.int 3 0, Value.ref 138, Value.bool true, Value.int 181 0, Value.ref 139, Value.none, Value.ref 140,
      Value.ref 141, Value.ref 142, Value.int 354 0, Value.int 67 0, Value.str (Str.ofString "/claim/cut.py") 355])
  #[]
noncomputable def ho144v5 (P : Params) : Obj := Obj.mk (Value.type "function") none
  (Data.func
    (FuncData.mk (Str.ofString "functor_count") (Str.ofString "Symbols.functor_count") ha9m9 hb9m9 hs9m9 3 [] Value.none
      Value.none Value.none (Value.str (Str.ofString "clausemill.symbols") 194) none (Value.ref 143) Value.none 0))
  #[]
noncomputable def ho145v5 (P : Params) : Obj := Obj.mk (Value.type "tuple") none (Data.seq #[]) #[]
noncomputable def ho146v5 (P : Params) : Obj := Obj.mk Value.none none (Data.fields #[]) #[]
noncomputable def ho147v5 (P : Params) : Obj := Obj.mk (Value.type "tuple") none
  (Data.seq
    #[Value.str (Str.ofString "self") 360, Value.str (Str.ofString "text") 361, Value.str (Str.ofString "arity") 362])
  #[]
noncomputable def ho148v5 (P : Params) : Obj := Obj.mk (Value.type "tuple") none (Data.seq #[]) #[]
noncomputable def ho149v5 (P : Params) : Obj := Obj.mk Value.none none
  (Data.func
    (FuncData.mk (Str.ofString "known") (Str.ofString "Symbols.known") ha9m10 hb9m10 hs9m10 0 [] Value.none Value.none
      Value.none Value.none none Value.none Value.none 0))
  #[]
noncomputable def ho150v5 (P : Params) : Obj := Obj.mk (Value.type "code") none
  (Data.fields
    #[Value.str (Str.ofString "known") 357, Value.str (Str.ofString "Symbols.known") 358,
      Value.str (Str.ofString "/claim/cut.py") 359, Value.int 70 0, Value.int 3 0, Value.int 0 0, Value.int 0 0,
      Value.int 3 0, Value.ref 145, Value.bool true, Value.int 181 0, Value.ref 146, Value.none, Value.ref 147,
      Value.ref 148, Value.ref 149, Value.int 363 0, Value.int 70 0, Value.str (Str.ofString "/claim/cut.py") 364])
  #[]
noncomputable def ho151v5 (P : Params) : Obj := Obj.mk (Value.type "function") none
  (Data.func
    (FuncData.mk (Str.ofString "known") (Str.ofString "Symbols.known") ha9m10 hb9m10 hs9m10 3 [] Value.none Value.none
      Value.none (Value.str (Str.ofString "clausemill.symbols") 194) none (Value.ref 150) Value.none 0))
  #[]
noncomputable def ho152v5 (P : Params) : Obj := Obj.mk (Value.type "tuple") none
  (Data.seq
    #[Value.str (Str.ofString "atom_numbers") 366, Value.str (Str.ofString "functor_numbers") 367,
      Value.str (Str.ofString "functors") 368, Value.str (Str.ofString "texts") 369])
  #[]
noncomputable def ho153v5 (P : Params) : Obj := Obj.mk (Value.type "dict") none
  (Data.dict
    #[DictEntry.mk (PyData.keyHash P (Str.ofString "__module__")) (Value.str (Str.ofString "__module__") 266)
        (Value.str (Str.ofString "clausemill.symbols") 194),
      DictEntry.mk (PyData.keyHash P (Str.ofString "__firstlineno__")) (Value.str (Str.ofString "__firstlineno__") 270)
        (Value.int 18 269),
      DictEntry.mk (PyData.keyHash P (Str.ofString "__init__")) (Value.str (Str.ofString "__init__") 279)
        (Value.ref 81),
      DictEntry.mk (PyData.keyHash P (Str.ofString "atom")) (Value.str (Str.ofString "atom") 289) (Value.ref 88),
      DictEntry.mk (PyData.keyHash P (Str.ofString "text")) (Value.str (Str.ofString "text") 297) (Value.ref 95),
      DictEntry.mk (PyData.keyHash P (Str.ofString "functor")) (Value.str (Str.ofString "functor") 309) (Value.ref 102),
      DictEntry.mk (PyData.keyHash P (Str.ofString "func")) (Value.str (Str.ofString "func") 318) (Value.ref 109),
      DictEntry.mk (PyData.keyHash P (Str.ofString "name")) (Value.str (Str.ofString "name") 326) (Value.ref 116),
      DictEntry.mk (PyData.keyHash P (Str.ofString "arity")) (Value.str (Str.ofString "arity") 334) (Value.ref 123),
      DictEntry.mk (PyData.keyHash P (Str.ofString "label")) (Value.str (Str.ofString "label") 342) (Value.ref 130),
      DictEntry.mk (PyData.keyHash P (Str.ofString "count")) (Value.str (Str.ofString "count") 349) (Value.ref 137),
      DictEntry.mk (PyData.keyHash P (Str.ofString "functor_count")) (Value.str (Str.ofString "functor_count") 356)
        (Value.ref 144),
      DictEntry.mk (PyData.keyHash P (Str.ofString "known")) (Value.str (Str.ofString "known") 365) (Value.ref 151),
      DictEntry.mk (PyData.keyHash P (Str.ofString "__static_attributes__"))
        (Value.str (Str.ofString "__static_attributes__") 370) (Value.ref 152),
      DictEntry.mk (PyData.keyHash P (Str.ofString "__dict__")) (Value.str (Str.ofString "__dict__") 372)
        (Value.ref 155),
      DictEntry.mk (PyData.keyHash P (Str.ofString "__weakref__")) (Value.str (Str.ofString "__weakref__") 374)
        (Value.ref 156),
      DictEntry.mk (PyData.keyHash P (Str.ofString "__doc__")) (Value.str (Str.ofString "__doc__") 375) Value.none]
    4)
  #[]
noncomputable def ho154v5 (P : Params) : Obj := Obj.mk (Value.type "type") none
  (Data.cls
    (ClassData.mk (Str.ofString "Symbols") [Value.type "object"] [Value.ref 154, Value.type "object"] 153
      (Str.ofString "Symbols") true [] [] false none false))
  #[none, none, some (Value.str (Str.ofString "Symbols") 259), some (Value.str (Str.ofString "Symbols") 267),
    some (Value.builtin "object.__new__"), some (Value.bool true)]
noncomputable def ho155v5 (P : Params) : Obj := Obj.mk (Value.type "getset_descriptor") none
  (Data.fields
    #[Value.str (Str.ofString "__dict__") 371, Value.ref 154, Value.builtin "function.__dict__",
      Value.builtin "function.__dict__#set"])
  #[]
noncomputable def ho156v5 (P : Params) : Obj := Obj.mk (Value.type "getset_descriptor") none
  (Data.fields
    #[Value.str (Str.ofString "__weakref__") 373, Value.ref 154, Value.builtin "ExceptionGroup.__weakref__",
      Value.none])
  #[]
noncomputable def ho157v5 (P : Params) : Obj := Obj.mk (Value.type "super") none (Data.fields #[Value.ref 154, Value.ref 154, Value.ref 154]) #[]
noncomputable def ho158v5 (P : Params) : Obj := Obj.mk (Value.type "builtin_function_or_method") none
  (Data.fields #[Value.builtin "object.__init_subclass__", Value.ref 154]) #[]
noncomputable def htree5 (P : Params) : BT := (.node (boot_o_0 P) (.node (boot_o_1 P) (.node (ho3v5 P) (.node (boot_o_7 P) (.node (ho15v1 P) (.node (ho31v3 P) (.node (ho63v4 P) (.node (ho127v5 P) .nil .nil) .nil) (.node (ho95v5 P) .nil .nil)) (.node (ho47v3 P) (.node (ho79v5 P) (.node (ho143v5 P) .nil .nil) .nil) (.node (ho111v5 P) .nil .nil))) (.node (ho23v2 P) (.node (ho39v3 P) (.node (ho71v5 P) (.node (ho135v5 P) .nil .nil) .nil) (.node (ho103v5 P) .nil .nil)) (.node (ho55v4 P) (.node (ho87v5 P) (.node (ho151v5 P) .nil .nil) .nil) (.node (ho119v5 P) .nil .nil)))) (.node (ho11v0 P) (.node (ho19v1 P) (.node (ho35v3 P) (.node (ho67v4 P) (.node (ho131v5 P) .nil .nil) .nil) (.node (ho99v5 P) .nil .nil)) (.node (ho51v3 P) (.node (ho83v5 P) (.node (ho147v5 P) .nil .nil) .nil) (.node (ho115v5 P) .nil .nil))) (.node (ho27v2 P) (.node (ho43v3 P) (.node (ho75v5 P) (.node (ho139v5 P) .nil .nil) .nil) (.node (ho107v5 P) .nil .nil)) (.node (ho59v4 P) (.node (ho91v5 P) (.node (ho155v5 P) .nil .nil) .nil) (.node (ho123v5 P) .nil .nil))))) (.node (boot_o_5 P) (.node (boot_o_9 P) (.node (ho17v1 P) (.node (ho33v2 P) (.node (ho65v4 P) (.node (ho129v5 P) .nil .nil) .nil) (.node (ho97v5 P) .nil .nil)) (.node (ho49v3 P) (.node (ho81v5 P) (.node (ho145v5 P) .nil .nil) .nil) (.node (ho113v5 P) .nil .nil))) (.node (ho25v2 P) (.node (ho41v3 P) (.node (ho73v5 P) (.node (ho137v5 P) .nil .nil) .nil) (.node (ho105v5 P) .nil .nil)) (.node (ho57v4 P) (.node (ho89v5 P) (.node (ho153v5 P) .nil .nil) .nil) (.node (ho121v5 P) .nil .nil)))) (.node (ho13v0 P) (.node (ho21v1 P) (.node (ho37v3 P) (.node (ho69v5 P) (.node (ho133v5 P) .nil .nil) .nil) (.node (ho101v5 P) .nil .nil)) (.node (ho53v3 P) (.node (ho85v5 P) (.node (ho149v5 P) .nil .nil) .nil) (.node (ho117v5 P) .nil .nil))) (.node (ho29v2 P) (.node (ho45v3 P) (.node (ho77v5 P) (.node (ho141v5 P) .nil .nil) .nil) (.node (ho109v5 P) .nil .nil)) (.node (ho61v4 P) (.node (ho93v5 P) (.node (ho157v5 P) .nil .nil) .nil) (.node (ho125v5 P) .nil .nil)))))) (.node (ho2v2 P) (.node (boot_o_4 P) (.node (boot_o_8 P) (.node (ho16v1 P) (.node (ho32v2 P) (.node (ho64v4 P) (.node (ho128v5 P) .nil .nil) .nil) (.node (ho96v5 P) .nil .nil)) (.node (ho48v3 P) (.node (ho80v5 P) (.node (ho144v5 P) .nil .nil) .nil) (.node (ho112v5 P) .nil .nil))) (.node (ho24v2 P) (.node (ho40v3 P) (.node (ho72v5 P) (.node (ho136v5 P) .nil .nil) .nil) (.node (ho104v5 P) .nil .nil)) (.node (ho56v4 P) (.node (ho88v5 P) (.node (ho152v5 P) .nil .nil) .nil) (.node (ho120v5 P) .nil .nil)))) (.node (ho12v5 P) (.node (ho20v1 P) (.node (ho36v3 P) (.node (ho68v5 P) (.node (ho132v5 P) .nil .nil) .nil) (.node (ho100v5 P) .nil .nil)) (.node (ho52v3 P) (.node (ho84v5 P) (.node (ho148v5 P) .nil .nil) .nil) (.node (ho116v5 P) .nil .nil))) (.node (ho28v2 P) (.node (ho44v3 P) (.node (ho76v5 P) (.node (ho140v5 P) .nil .nil) .nil) (.node (ho108v5 P) .nil .nil)) (.node (ho60v4 P) (.node (ho92v5 P) (.node (ho156v5 P) .nil .nil) .nil) (.node (ho124v5 P) .nil .nil))))) (.node (boot_o_6 P) (.node (boot_o_10 P) (.node (ho18v1 P) (.node (ho34v2 P) (.node (ho66v4 P) (.node (ho130v5 P) .nil .nil) .nil) (.node (ho98v5 P) .nil .nil)) (.node (ho50v3 P) (.node (ho82v5 P) (.node (ho146v5 P) .nil .nil) .nil) (.node (ho114v5 P) .nil .nil))) (.node (ho26v2 P) (.node (ho42v3 P) (.node (ho74v5 P) (.node (ho138v5 P) .nil .nil) .nil) (.node (ho106v5 P) .nil .nil)) (.node (ho58v4 P) (.node (ho90v5 P) (.node (ho154v5 P) .nil .nil) .nil) (.node (ho122v5 P) .nil .nil)))) (.node (ho14v0 P) (.node (ho22v2 P) (.node (ho38v3 P) (.node (ho70v5 P) (.node (ho134v5 P) .nil .nil) .nil) (.node (ho102v5 P) .nil .nil)) (.node (ho54v4 P) (.node (ho86v5 P) (.node (ho150v5 P) .nil .nil) .nil) (.node (ho118v5 P) .nil .nil))) (.node (ho30v2 P) (.node (ho46v3 P) (.node (ho78v5 P) (.node (ho142v5 P) .nil .nil) .nil) (.node (ho110v5 P) .nil .nil)) (.node (ho62v4 P) (.node (ho94v5 P) (.node (ho158v5 P) .nil .nil) .nil) (.node (ho126v5 P) .nil .nil)))))))
/-- cut 5: statements 9 to 10; steps 552 -/
noncomputable def hst5 (w : World) (os : OsState) : SharedT := ⟨htree5 w.params, 159, Life.mk [] [] [] 0 [] [] false #[] [] 0 false false false 0 [2000, 10, 10] false 0 true [] [] 0 false, Array.mk [], Drawn.mk 0 0 0 0, 378, os⟩
noncomputable def hpos5 : Pos := Pos.mk 18 0 71 16
noncomputable def ho3v6 (P : Params) : Obj := Obj.mk (Value.type "dict") none
  (Data.dict
    #[DictEntry.mk (PyData.keyHash P (Str.ofString "__name__")) (Value.str (Str.ofString "__name__") 165)
        (Value.str (Str.ofString "clausemill.arith") 452),
      DictEntry.mk (PyData.keyHash P (Str.ofString "__doc__")) (Value.str (Str.ofString "__doc__") 166) Value.none,
      DictEntry.mk (PyData.keyHash P (Str.ofString "__package__")) (Value.str (Str.ofString "__package__") 167)
        Value.none,
      DictEntry.mk (PyData.keyHash P (Str.ofString "__loader__")) (Value.str (Str.ofString "__loader__") 168)
        (Value.builtin "__main__.__loader__#opaque"),
      DictEntry.mk (PyData.keyHash P (Str.ofString "__spec__")) (Value.str (Str.ofString "__spec__") 169) Value.none,
      DictEntry.mk (PyData.keyHash P (Str.ofString "__annotations__")) (Value.str (Str.ofString "__annotations__") 170)
        (Value.ref 6),
      DictEntry.mk (PyData.keyHash P (Str.ofString "__builtins__")) (Value.str (Str.ofString "__builtins__") 171)
        (Value.ref 4),
      DictEntry.mk (PyData.keyHash P (Str.ofString "__file__")) (Value.str (Str.ofString "__file__") 173)
        (Value.str (Str.ofString "/claim/cut.py") 172),
      DictEntry.mk (PyData.keyHash P (Str.ofString "__cached__")) (Value.str (Str.ofString "__cached__") 174)
        Value.none,
      DictEntry.mk (PyData.keyHash P (Str.ofString "_wall")) (Value.str (Str.ofString "_wall") 193) (Value.ref 21),
      DictEntry.mk (PyData.keyHash P (Str.ofString "ClausemillError")) (Value.str (Str.ofString "ClausemillError") 215)
        (Value.ref 31),
      DictEntry.mk (PyData.keyHash P (Str.ofString "PrologError")) (Value.str (Str.ofString "PrologError") 240)
        (Value.ref 51),
      DictEntry.mk (PyData.keyHash P (Str.ofString "A_SYSTEM")) (Value.str (Str.ofString "A_SYSTEM") 242)
        (Value.int 25 241),
      DictEntry.mk (PyData.keyHash P (Str.ofString "F_SLASH")) (Value.str (Str.ofString "F_SLASH") 244)
        (Value.int 15 243),
      DictEntry.mk (PyData.keyHash P (Str.ofString "F_ERROR")) (Value.str (Str.ofString "F_ERROR") 246)
        (Value.int 16 245),
      DictEntry.mk (PyData.keyHash P (Str.ofString "fixed_atoms")) (Value.str (Str.ofString "fixed_atoms") 252)
        (Value.ref 60),
      DictEntry.mk (PyData.keyHash P (Str.ofString "fixed_functors")) (Value.str (Str.ofString "fixed_functors") 258)
        (Value.ref 67),
      DictEntry.mk (PyData.keyHash P (Str.ofString "Symbols")) (Value.str (Str.ofString "Symbols") 377) (Value.ref 154),
      DictEntry.mk (PyData.keyHash P (Str.ofString "atom")) (Value.str (Str.ofString "atom") 386) (Value.ref 165),
      DictEntry.mk (PyData.keyHash P (Str.ofString "integer")) (Value.str (Str.ofString "integer") 393) (Value.ref 172),
      DictEntry.mk (PyData.keyHash P (Str.ofString "struct")) (Value.str (Str.ofString "struct") 401) (Value.ref 179),
      DictEntry.mk (PyData.keyHash P (Str.ofString "system_error")) (Value.str (Str.ofString "system_error") 408)
        (Value.ref 186),
      DictEntry.mk (PyData.keyHash P (Str.ofString "formal_of")) (Value.str (Str.ofString "formal_of") 419)
        (Value.ref 193),
      DictEntry.mk (PyData.keyHash P (Str.ofString "instantiation_error"))
        (Value.str (Str.ofString "instantiation_error") 426) (Value.ref 200),
      DictEntry.mk (PyData.keyHash P (Str.ofString "type_error")) (Value.str (Str.ofString "type_error") 435)
        (Value.ref 207),
      DictEntry.mk (PyData.keyHash P (Str.ofString "evaluation_error"))
        (Value.str (Str.ofString "evaluation_error") 443) (Value.ref 214),
      DictEntry.mk (PyData.keyHash P (Str.ofString "resource_error")) (Value.str (Str.ofString "resource_error") 451)
        (Value.ref 221),
      DictEntry.mk (PyData.keyHash P (Str.ofString "UNARY_NAMES")) (Value.str (Str.ofString "UNARY_NAMES") 465)
        (Value.ref 222),
      DictEntry.mk (PyData.keyHash P (Str.ofString "BINARY_NAMES")) (Value.str (Str.ofString "BINARY_NAMES") 484)
        (Value.ref 223),
      DictEntry.mk (PyData.keyHash P (Str.ofString "APPLY")) (Value.str (Str.ofString "APPLY") 486)
        (Value.str (Str.ofString "apply") 485),
      DictEntry.mk (PyData.keyHash P (Str.ofString "not_evaluable")) (Value.str (Str.ofString "not_evaluable") 496)
        (Value.ref 230)]
    31)
  #[]
noncomputable def ho12v6 (P : Params) : Obj := Obj.mk Value.none none
  (Data.fields
    #[Value.int 1 0, Value.int 0 0, Value.ref 20, Value.int 5 0, Value.int 0 0, Value.ref 27, Value.int 7 0,
      Value.int 0 0, Value.ref 40, Value.int 14 0, Value.int 0 0, Value.ref 59, Value.int 16 0, Value.int 0 0,
      Value.ref 66, Value.int 18 0, Value.int 0 0, Value.ref 73, Value.int 73 0, Value.int 0 0, Value.ref 164,
      Value.int 75 0, Value.int 0 0, Value.ref 171, Value.int 77 0, Value.int 0 0, Value.ref 178, Value.int 79 0,
      Value.int 0 0, Value.ref 185, Value.int 81 0, Value.int 0 0, Value.ref 192, Value.int 86 0, Value.int 0 0,
      Value.ref 199, Value.int 88 0, Value.int 0 0, Value.ref 206, Value.int 90 0, Value.int 0 0, Value.ref 213,
      Value.int 92 0, Value.int 0 0, Value.ref 220, Value.int 98 0, Value.int 0 0, Value.ref 229])
  #[]
noncomputable def ho159v6 (P : Params) : Obj := Obj.mk (Value.type "tuple") none (Data.seq #[]) #[]
noncomputable def ho160v6 (P : Params) : Obj := Obj.mk Value.none none (Data.fields #[]) #[]
noncomputable def ho161v6 (P : Params) : Obj := Obj.mk (Value.type "tuple") none (Data.seq #[Value.str (Str.ofString "number") 383]) #[]
noncomputable def ho162v6 (P : Params) : Obj := Obj.mk (Value.type "tuple") none (Data.seq #[]) #[]
noncomputable def ho163v6 (P : Params) : Obj := Obj.mk Value.none none
  (Data.func
    (FuncData.mk (Str.ofString "atom") (Str.ofString "atom") ha11 hb11 hs11 0 [] Value.none Value.none Value.none
      Value.none none Value.none Value.none 0))
  #[]
noncomputable def ho164v6 (P : Params) : Obj := Obj.mk (Value.type "code") none
  (Data.fields
    #[Value.str (Str.ofString "atom") 380, Value.str (Str.ofString "atom") 381,
      Value.str (Str.ofString "/claim/cut.py") 382, Value.int 73 0, Value.int 1 0, Value.int 0 0, Value.int 0 0,
      Value.int 3 0, Value.ref 159, Value.bool true, Value.int 181 0, Value.ref 160, Value.none, Value.ref 161,
      Value.ref 162, Value.ref 163, Value.int 384 0, Value.int 73 0, Value.str (Str.ofString "/claim/cut.py") 385])
  #[]
noncomputable def ho165v6 (P : Params) : Obj := Obj.mk (Value.type "function") none
  (Data.func
    (FuncData.mk (Str.ofString "atom") (Str.ofString "atom") ha11 hb11 hs11 3 [] Value.none Value.none Value.none
      (Value.str (Str.ofString "clausemill.terms") 378) none (Value.ref 164) Value.none 0))
  #[]
noncomputable def ho166v6 (P : Params) : Obj := Obj.mk (Value.type "tuple") none (Data.seq #[]) #[]
noncomputable def ho167v6 (P : Params) : Obj := Obj.mk Value.none none (Data.fields #[]) #[]
noncomputable def ho168v6 (P : Params) : Obj := Obj.mk (Value.type "tuple") none (Data.seq #[Value.str (Str.ofString "whole") 390]) #[]
noncomputable def ho169v6 (P : Params) : Obj := Obj.mk (Value.type "tuple") none (Data.seq #[]) #[]
noncomputable def ho170v6 (P : Params) : Obj := Obj.mk Value.none none
  (Data.func
    (FuncData.mk (Str.ofString "integer") (Str.ofString "integer") ha12 hb12 hs12 0 [] Value.none Value.none Value.none
      Value.none none Value.none Value.none 0))
  #[]
noncomputable def ho171v6 (P : Params) : Obj := Obj.mk (Value.type "code") none
  (Data.fields
    #[Value.str (Str.ofString "integer") 387, Value.str (Str.ofString "integer") 388,
      Value.str (Str.ofString "/claim/cut.py") 389, Value.int 75 0, Value.int 1 0, Value.int 0 0, Value.int 0 0,
      Value.int 3 0, Value.ref 166, Value.bool true, Value.int 181 0, Value.ref 167, Value.none, Value.ref 168,
      Value.ref 169, Value.ref 170, Value.int 391 0, Value.int 75 0, Value.str (Str.ofString "/claim/cut.py") 392])
  #[]
noncomputable def ho172v6 (P : Params) : Obj := Obj.mk (Value.type "function") none
  (Data.func
    (FuncData.mk (Str.ofString "integer") (Str.ofString "integer") ha12 hb12 hs12 3 [] Value.none Value.none Value.none
      (Value.str (Str.ofString "clausemill.terms") 378) none (Value.ref 171) Value.none 0))
  #[]
noncomputable def ho173v6 (P : Params) : Obj := Obj.mk (Value.type "tuple") none (Data.seq #[]) #[]
noncomputable def ho174v6 (P : Params) : Obj := Obj.mk Value.none none (Data.fields #[]) #[]
noncomputable def ho175v6 (P : Params) : Obj := Obj.mk (Value.type "tuple") none
  (Data.seq #[Value.str (Str.ofString "functor") 397, Value.str (Str.ofString "args") 398]) #[]
noncomputable def ho176v6 (P : Params) : Obj := Obj.mk (Value.type "tuple") none (Data.seq #[]) #[]
noncomputable def ho177v6 (P : Params) : Obj := Obj.mk Value.none none
  (Data.func
    (FuncData.mk (Str.ofString "struct") (Str.ofString "struct") ha13 hb13 hs13 0 [] Value.none Value.none Value.none
      Value.none none Value.none Value.none 0))
  #[]
noncomputable def ho178v6 (P : Params) : Obj := Obj.mk (Value.type "code") none
  (Data.fields
    #[Value.str (Str.ofString "struct") 394, Value.str (Str.ofString "struct") 395,
      Value.str (Str.ofString "/claim/cut.py") 396, Value.int 77 0, Value.int 2 0, Value.int 0 0, Value.int 0 0,
      Value.int 3 0, Value.ref 173, Value.bool true, Value.int 181 0, Value.ref 174, Value.none, Value.ref 175,
      Value.ref 176, Value.ref 177, Value.int 399 0, Value.int 77 0, Value.str (Str.ofString "/claim/cut.py") 400])
  #[]
noncomputable def ho179v6 (P : Params) : Obj := Obj.mk (Value.type "function") none
  (Data.func
    (FuncData.mk (Str.ofString "struct") (Str.ofString "struct") ha13 hb13 hs13 3 [] Value.none Value.none Value.none
      (Value.str (Str.ofString "clausemill.terms") 378) none (Value.ref 178) Value.none 0))
  #[]
noncomputable def ho180v6 (P : Params) : Obj := Obj.mk (Value.type "tuple") none (Data.seq #[]) #[]
noncomputable def ho181v6 (P : Params) : Obj := Obj.mk Value.none none (Data.fields #[]) #[]
noncomputable def ho182v6 (P : Params) : Obj := Obj.mk (Value.type "tuple") none (Data.seq #[Value.str (Str.ofString "formal") 405]) #[]
noncomputable def ho183v6 (P : Params) : Obj := Obj.mk (Value.type "tuple") none (Data.seq #[]) #[]
noncomputable def ho184v6 (P : Params) : Obj := Obj.mk Value.none none
  (Data.func
    (FuncData.mk (Str.ofString "system_error") (Str.ofString "system_error") ha14 hb14 hs14 0 [] Value.none Value.none
      Value.none Value.none none Value.none Value.none 0))
  #[]
noncomputable def ho185v6 (P : Params) : Obj := Obj.mk (Value.type "code") none
  (Data.fields
    #[Value.str (Str.ofString "system_error") 402, Value.str (Str.ofString "system_error") 403,
      Value.str (Str.ofString "/claim/cut.py") 404, Value.int 79 0, Value.int 1 0, Value.int 0 0, Value.int 0 0,
      Value.int 3 0, Value.ref 180, Value.bool true, Value.int 181 0, Value.ref 181, Value.none, Value.ref 182,
      Value.ref 183, Value.ref 184, Value.int 406 0, Value.int 79 0, Value.str (Str.ofString "/claim/cut.py") 407])
  #[]
noncomputable def ho186v6 (P : Params) : Obj := Obj.mk (Value.type "function") none
  (Data.func
    (FuncData.mk (Str.ofString "system_error") (Str.ofString "system_error") ha14 hb14 hs14 3 [] Value.none Value.none
      Value.none (Value.str (Str.ofString "clausemill.terms") 378) none (Value.ref 185) Value.none 0))
  #[]
noncomputable def ho187v6 (P : Params) : Obj := Obj.mk (Value.type "tuple") none (Data.seq #[]) #[]
noncomputable def ho188v6 (P : Params) : Obj := Obj.mk Value.none none (Data.fields #[]) #[]
noncomputable def ho189v6 (P : Params) : Obj := Obj.mk (Value.type "tuple") none
  (Data.seq
    #[Value.str (Str.ofString "symbols") 412, Value.str (Str.ofString "name") 413, Value.str (Str.ofString "parts") 414,
      Value.str (Str.ofString "args") 415, Value.str (Str.ofString "part") 416])
  #[]
noncomputable def ho190v6 (P : Params) : Obj := Obj.mk (Value.type "tuple") none (Data.seq #[]) #[]
noncomputable def ho191v6 (P : Params) : Obj := Obj.mk Value.none none
  (Data.func
    (FuncData.mk (Str.ofString "formal_of") (Str.ofString "formal_of") ha15 hb15 hs15 0 [] Value.none Value.none
      Value.none Value.none none Value.none Value.none 0))
  #[]
noncomputable def ho192v6 (P : Params) : Obj := Obj.mk (Value.type "code") none
  (Data.fields
    #[Value.str (Str.ofString "formal_of") 409, Value.str (Str.ofString "formal_of") 410,
      Value.str (Str.ofString "/claim/cut.py") 411, Value.int 81 0, Value.int 3 0, Value.int 0 0, Value.int 0 0,
      Value.int 3 0, Value.ref 187, Value.bool true, Value.int 181 0, Value.ref 188, Value.none, Value.ref 189,
      Value.ref 190, Value.ref 191, Value.int 417 0, Value.int 81 0, Value.str (Str.ofString "/claim/cut.py") 418])
  #[]
noncomputable def ho193v6 (P : Params) : Obj := Obj.mk (Value.type "function") none
  (Data.func
    (FuncData.mk (Str.ofString "formal_of") (Str.ofString "formal_of") ha15 hb15 hs15 3 [] Value.none Value.none
      Value.none (Value.str (Str.ofString "clausemill.terms") 378) none (Value.ref 192) Value.none 0))
  #[]
noncomputable def ho194v6 (P : Params) : Obj := Obj.mk (Value.type "tuple") none (Data.seq #[]) #[]
noncomputable def ho195v6 (P : Params) : Obj := Obj.mk Value.none none (Data.fields #[]) #[]
noncomputable def ho196v6 (P : Params) : Obj := Obj.mk (Value.type "tuple") none (Data.seq #[Value.str (Str.ofString "symbols") 423]) #[]
noncomputable def ho197v6 (P : Params) : Obj := Obj.mk (Value.type "tuple") none (Data.seq #[]) #[]
noncomputable def ho198v6 (P : Params) : Obj := Obj.mk Value.none none
  (Data.func
    (FuncData.mk (Str.ofString "instantiation_error") (Str.ofString "instantiation_error") ha16 hb16 hs16 0 []
      Value.none Value.none Value.none Value.none none Value.none Value.none 0))
  #[]
noncomputable def ho199v6 (P : Params) : Obj := Obj.mk (Value.type "code") none
  (Data.fields
    #[Value.str (Str.ofString "instantiation_error") 420, Value.str (Str.ofString "instantiation_error") 421,
      Value.str (Str.ofString "/claim/cut.py") 422, Value.int 86 0, Value.int 1 0, Value.int 0 0, Value.int 0 0,
      Value.int 3 0, Value.ref 194, Value.bool true, Value.int 181 0, Value.ref 195, Value.none, Value.ref 196,
      Value.ref 197, Value.ref 198, Value.int 424 0, Value.int 86 0, Value.str (Str.ofString "/claim/cut.py") 425])
  #[]
noncomputable def ho200v6 (P : Params) : Obj := Obj.mk (Value.type "function") none
  (Data.func
    (FuncData.mk (Str.ofString "instantiation_error") (Str.ofString "instantiation_error") ha16 hb16 hs16 3 []
      Value.none Value.none Value.none (Value.str (Str.ofString "clausemill.terms") 378) none (Value.ref 199) Value.none
      0))
  #[]
noncomputable def ho201v6 (P : Params) : Obj := Obj.mk (Value.type "tuple") none (Data.seq #[]) #[]
noncomputable def ho202v6 (P : Params) : Obj := Obj.mk Value.none none (Data.fields #[]) #[]
noncomputable def ho203v6 (P : Params) : Obj := Obj.mk (Value.type "tuple") none
  (Data.seq
    #[Value.str (Str.ofString "symbols") 430, Value.str (Str.ofString "kind") 431,
      Value.str (Str.ofString "culprit") 432])
  #[]
noncomputable def ho204v6 (P : Params) : Obj := Obj.mk (Value.type "tuple") none (Data.seq #[]) #[]
noncomputable def ho205v6 (P : Params) : Obj := Obj.mk Value.none none
  (Data.func
    (FuncData.mk (Str.ofString "type_error") (Str.ofString "type_error") ha17 hb17 hs17 0 [] Value.none Value.none
      Value.none Value.none none Value.none Value.none 0))
  #[]
noncomputable def ho206v6 (P : Params) : Obj := Obj.mk (Value.type "code") none
  (Data.fields
    #[Value.str (Str.ofString "type_error") 427, Value.str (Str.ofString "type_error") 428,
      Value.str (Str.ofString "/claim/cut.py") 429, Value.int 88 0, Value.int 3 0, Value.int 0 0, Value.int 0 0,
      Value.int 3 0, Value.ref 201, Value.bool true, Value.int 181 0, Value.ref 202, Value.none, Value.ref 203,
      Value.ref 204, Value.ref 205, Value.int 433 0, Value.int 88 0, Value.str (Str.ofString "/claim/cut.py") 434])
  #[]
noncomputable def ho207v6 (P : Params) : Obj := Obj.mk (Value.type "function") none
  (Data.func
    (FuncData.mk (Str.ofString "type_error") (Str.ofString "type_error") ha17 hb17 hs17 3 [] Value.none Value.none
      Value.none (Value.str (Str.ofString "clausemill.terms") 378) none (Value.ref 206) Value.none 0))
  #[]
noncomputable def ho208v6 (P : Params) : Obj := Obj.mk (Value.type "tuple") none (Data.seq #[]) #[]
noncomputable def ho209v6 (P : Params) : Obj := Obj.mk Value.none none (Data.fields #[]) #[]
noncomputable def ho210v6 (P : Params) : Obj := Obj.mk (Value.type "tuple") none
  (Data.seq #[Value.str (Str.ofString "symbols") 439, Value.str (Str.ofString "what") 440]) #[]
noncomputable def ho211v6 (P : Params) : Obj := Obj.mk (Value.type "tuple") none (Data.seq #[]) #[]
noncomputable def ho212v6 (P : Params) : Obj := Obj.mk Value.none none
  (Data.func
    (FuncData.mk (Str.ofString "evaluation_error") (Str.ofString "evaluation_error") ha18 hb18 hs18 0 [] Value.none
      Value.none Value.none Value.none none Value.none Value.none 0))
  #[]
noncomputable def ho213v6 (P : Params) : Obj := Obj.mk (Value.type "code") none
  (Data.fields
    #[Value.str (Str.ofString "evaluation_error") 436, Value.str (Str.ofString "evaluation_error") 437,
      Value.str (Str.ofString "/claim/cut.py") 438, Value.int 90 0, Value.int 2 0, Value.int 0 0, Value.int 0 0,
      Value.int 3 0, Value.ref 208, Value.bool true, Value.int 181 0, Value.ref 209, Value.none, Value.ref 210,
      Value.ref 211, Value.ref 212, Value.int 441 0, Value.int 90 0, Value.str (Str.ofString "/claim/cut.py") 442])
  #[]
noncomputable def ho214v6 (P : Params) : Obj := Obj.mk (Value.type "function") none
  (Data.func
    (FuncData.mk (Str.ofString "evaluation_error") (Str.ofString "evaluation_error") ha18 hb18 hs18 3 [] Value.none
      Value.none Value.none (Value.str (Str.ofString "clausemill.terms") 378) none (Value.ref 213) Value.none 0))
  #[]
noncomputable def ho215v6 (P : Params) : Obj := Obj.mk (Value.type "tuple") none (Data.seq #[]) #[]
noncomputable def ho216v6 (P : Params) : Obj := Obj.mk Value.none none (Data.fields #[]) #[]
noncomputable def ho217v6 (P : Params) : Obj := Obj.mk (Value.type "tuple") none
  (Data.seq #[Value.str (Str.ofString "symbols") 447, Value.str (Str.ofString "what") 448]) #[]
noncomputable def ho218v6 (P : Params) : Obj := Obj.mk (Value.type "tuple") none (Data.seq #[]) #[]
noncomputable def ho219v6 (P : Params) : Obj := Obj.mk Value.none none
  (Data.func
    (FuncData.mk (Str.ofString "resource_error") (Str.ofString "resource_error") ha19 hb19 hs18 0 [] Value.none
      Value.none Value.none Value.none none Value.none Value.none 0))
  #[]
noncomputable def ho220v6 (P : Params) : Obj := Obj.mk (Value.type "code") none
  (Data.fields
    #[Value.str (Str.ofString "resource_error") 444, Value.str (Str.ofString "resource_error") 445,
      Value.str (Str.ofString "/claim/cut.py") 446, Value.int 92 0, Value.int 2 0, Value.int 0 0, Value.int 0 0,
      Value.int 3 0, Value.ref 215, Value.bool true, Value.int 181 0, Value.ref 216, Value.none, Value.ref 217,
      Value.ref 218, Value.ref 219, Value.int 449 0, Value.int 92 0, Value.str (Str.ofString "/claim/cut.py") 450])
  #[]
noncomputable def ho221v6 (P : Params) : Obj := Obj.mk (Value.type "function") none
  (Data.func
    (FuncData.mk (Str.ofString "resource_error") (Str.ofString "resource_error") ha19 hb19 hs18 3 [] Value.none
      Value.none Value.none (Value.str (Str.ofString "clausemill.terms") 378) none (Value.ref 220) Value.none 0))
  #[]
noncomputable def ho222v6 (P : Params) : Obj := Obj.mk (Value.type "tuple") none
  (Data.seq
    #[Value.str (Str.ofString "-") 454, Value.str (Str.ofString "+") 455, Value.str (Str.ofString "abs") 456,
      Value.str (Str.ofString "sign") 457, Value.str (Str.ofString "\\") 458, Value.str (Str.ofString "msb") 459,
      Value.str (Str.ofString "succ") 460, Value.str (Str.ofString "truncate") 461,
      Value.str (Str.ofString "round") 462, Value.str (Str.ofString "ceiling") 463,
      Value.str (Str.ofString "floor") 464])
  #[]
noncomputable def ho223v6 (P : Params) : Obj := Obj.mk (Value.type "tuple") none
  (Data.seq
    #[Value.str (Str.ofString "+") 466, Value.str (Str.ofString "-") 467, Value.str (Str.ofString "*") 468,
      Value.str (Str.ofString "//") 469, Value.str (Str.ofString "rem") 470, Value.str (Str.ofString "mod") 471,
      Value.str (Str.ofString "div") 472, Value.str (Str.ofString "min") 473, Value.str (Str.ofString "max") 474,
      Value.str (Str.ofString "gcd") 475, Value.str (Str.ofString ">>") 476, Value.str (Str.ofString "<<") 477,
      Value.str (Str.ofString "/\\") 478, Value.str (Str.ofString "\\/") 479, Value.str (Str.ofString "xor") 480,
      Value.str (Str.ofString "^") 481, Value.str (Str.ofString "**") 482, Value.str (Str.ofString "plus") 483])
  #[]
noncomputable def ho224v6 (P : Params) : Obj := Obj.mk (Value.type "tuple") none (Data.seq #[]) #[]
noncomputable def ho225v6 (P : Params) : Obj := Obj.mk Value.none none (Data.fields #[]) #[]
noncomputable def ho226v6 (P : Params) : Obj := Obj.mk (Value.type "tuple") none
  (Data.seq
    #[Value.str (Str.ofString "symbols") 490, Value.str (Str.ofString "name") 491, Value.str (Str.ofString "arity") 492,
      Value.str (Str.ofString "culprit") 493])
  #[]
noncomputable def ho227v6 (P : Params) : Obj := Obj.mk (Value.type "tuple") none (Data.seq #[]) #[]
noncomputable def ho228v6 (P : Params) : Obj := Obj.mk Value.none none
  (Data.func
    (FuncData.mk (Str.ofString "not_evaluable") (Str.ofString "not_evaluable") ha24 hb24 hs24 0 [] Value.none Value.none
      Value.none Value.none none Value.none Value.none 0))
  #[]
noncomputable def ho229v6 (P : Params) : Obj := Obj.mk (Value.type "code") none
  (Data.fields
    #[Value.str (Str.ofString "not_evaluable") 487, Value.str (Str.ofString "not_evaluable") 488,
      Value.str (Str.ofString "/claim/cut.py") 489, Value.int 98 0, Value.int 3 0, Value.int 0 0, Value.int 0 0,
      Value.int 3 0, Value.ref 224, Value.bool true, Value.int 181 0, Value.ref 225, Value.none, Value.ref 226,
      Value.ref 227, Value.ref 228, Value.int 494 0, Value.int 98 0, Value.str (Str.ofString "/claim/cut.py") 495])
  #[]
noncomputable def ho230v6 (P : Params) : Obj := Obj.mk (Value.type "function") none
  (Data.func
    (FuncData.mk (Str.ofString "not_evaluable") (Str.ofString "not_evaluable") ha24 hb24 hs24 3 [] Value.none Value.none
      Value.none (Value.str (Str.ofString "clausemill.arith") 452) none (Value.ref 229) Value.none 0))
  #[]
noncomputable def htree6 (P : Params) : BT := (.node (boot_o_0 P) (.node (boot_o_1 P) (.node (ho3v6 P) (.node (boot_o_7 P) (.node (ho15v1 P) (.node (ho31v3 P) (.node (ho63v4 P) (.node (ho127v5 P) .nil .nil) (.node (ho191v6 P) .nil .nil)) (.node (ho95v5 P) (.node (ho159v6 P) .nil .nil) (.node (ho223v6 P) .nil .nil))) (.node (ho47v3 P) (.node (ho79v5 P) (.node (ho143v5 P) .nil .nil) (.node (ho207v6 P) .nil .nil)) (.node (ho111v5 P) (.node (ho175v6 P) .nil .nil) .nil))) (.node (ho23v2 P) (.node (ho39v3 P) (.node (ho71v5 P) (.node (ho135v5 P) .nil .nil) (.node (ho199v6 P) .nil .nil)) (.node (ho103v5 P) (.node (ho167v6 P) .nil .nil) .nil)) (.node (ho55v4 P) (.node (ho87v5 P) (.node (ho151v5 P) .nil .nil) (.node (ho215v6 P) .nil .nil)) (.node (ho119v5 P) (.node (ho183v6 P) .nil .nil) .nil)))) (.node (ho11v0 P) (.node (ho19v1 P) (.node (ho35v3 P) (.node (ho67v4 P) (.node (ho131v5 P) .nil .nil) (.node (ho195v6 P) .nil .nil)) (.node (ho99v5 P) (.node (ho163v6 P) .nil .nil) (.node (ho227v6 P) .nil .nil))) (.node (ho51v3 P) (.node (ho83v5 P) (.node (ho147v5 P) .nil .nil) (.node (ho211v6 P) .nil .nil)) (.node (ho115v5 P) (.node (ho179v6 P) .nil .nil) .nil))) (.node (ho27v2 P) (.node (ho43v3 P) (.node (ho75v5 P) (.node (ho139v5 P) .nil .nil) (.node (ho203v6 P) .nil .nil)) (.node (ho107v5 P) (.node (ho171v6 P) .nil .nil) .nil)) (.node (ho59v4 P) (.node (ho91v5 P) (.node (ho155v5 P) .nil .nil) (.node (ho219v6 P) .nil .nil)) (.node (ho123v5 P) (.node (ho187v6 P) .nil .nil) .nil))))) (.node (boot_o_5 P) (.node (boot_o_9 P) (.node (ho17v1 P) (.node (ho33v2 P) (.node (ho65v4 P) (.node (ho129v5 P) .nil .nil) (.node (ho193v6 P) .nil .nil)) (.node (ho97v5 P) (.node (ho161v6 P) .nil .nil) (.node (ho225v6 P) .nil .nil))) (.node (ho49v3 P) (.node (ho81v5 P) (.node (ho145v5 P) .nil .nil) (.node (ho209v6 P) .nil .nil)) (.node (ho113v5 P) (.node (ho177v6 P) .nil .nil) .nil))) (.node (ho25v2 P) (.node (ho41v3 P) (.node (ho73v5 P) (.node (ho137v5 P) .nil .nil) (.node (ho201v6 P) .nil .nil)) (.node (ho105v5 P) (.node (ho169v6 P) .nil .nil) .nil)) (.node (ho57v4 P) (.node (ho89v5 P) (.node (ho153v5 P) .nil .nil) (.node (ho217v6 P) .nil .nil)) (.node (ho121v5 P) (.node (ho185v6 P) .nil .nil) .nil)))) (.node (ho13v0 P) (.node (ho21v1 P) (.node (ho37v3 P) (.node (ho69v5 P) (.node (ho133v5 P) .nil .nil) (.node (ho197v6 P) .nil .nil)) (.node (ho101v5 P) (.node (ho165v6 P) .nil .nil) (.node (ho229v6 P) .nil .nil))) (.node (ho53v3 P) (.node (ho85v5 P) (.node (ho149v5 P) .nil .nil) (.node (ho213v6 P) .nil .nil)) (.node (ho117v5 P) (.node (ho181v6 P) .nil .nil) .nil))) (.node (ho29v2 P) (.node (ho45v3 P) (.node (ho77v5 P) (.node (ho141v5 P) .nil .nil) (.node (ho205v6 P) .nil .nil)) (.node (ho109v5 P) (.node (ho173v6 P) .nil .nil) .nil)) (.node (ho61v4 P) (.node (ho93v5 P) (.node (ho157v5 P) .nil .nil) (.node (ho221v6 P) .nil .nil)) (.node (ho125v5 P) (.node (ho189v6 P) .nil .nil) .nil)))))) (.node (ho2v2 P) (.node (boot_o_4 P) (.node (boot_o_8 P) (.node (ho16v1 P) (.node (ho32v2 P) (.node (ho64v4 P) (.node (ho128v5 P) .nil .nil) (.node (ho192v6 P) .nil .nil)) (.node (ho96v5 P) (.node (ho160v6 P) .nil .nil) (.node (ho224v6 P) .nil .nil))) (.node (ho48v3 P) (.node (ho80v5 P) (.node (ho144v5 P) .nil .nil) (.node (ho208v6 P) .nil .nil)) (.node (ho112v5 P) (.node (ho176v6 P) .nil .nil) .nil))) (.node (ho24v2 P) (.node (ho40v3 P) (.node (ho72v5 P) (.node (ho136v5 P) .nil .nil) (.node (ho200v6 P) .nil .nil)) (.node (ho104v5 P) (.node (ho168v6 P) .nil .nil) .nil)) (.node (ho56v4 P) (.node (ho88v5 P) (.node (ho152v5 P) .nil .nil) (.node (ho216v6 P) .nil .nil)) (.node (ho120v5 P) (.node (ho184v6 P) .nil .nil) .nil)))) (.node (ho12v6 P) (.node (ho20v1 P) (.node (ho36v3 P) (.node (ho68v5 P) (.node (ho132v5 P) .nil .nil) (.node (ho196v6 P) .nil .nil)) (.node (ho100v5 P) (.node (ho164v6 P) .nil .nil) (.node (ho228v6 P) .nil .nil))) (.node (ho52v3 P) (.node (ho84v5 P) (.node (ho148v5 P) .nil .nil) (.node (ho212v6 P) .nil .nil)) (.node (ho116v5 P) (.node (ho180v6 P) .nil .nil) .nil))) (.node (ho28v2 P) (.node (ho44v3 P) (.node (ho76v5 P) (.node (ho140v5 P) .nil .nil) (.node (ho204v6 P) .nil .nil)) (.node (ho108v5 P) (.node (ho172v6 P) .nil .nil) .nil)) (.node (ho60v4 P) (.node (ho92v5 P) (.node (ho156v5 P) .nil .nil) (.node (ho220v6 P) .nil .nil)) (.node (ho124v5 P) (.node (ho188v6 P) .nil .nil) .nil))))) (.node (boot_o_6 P) (.node (boot_o_10 P) (.node (ho18v1 P) (.node (ho34v2 P) (.node (ho66v4 P) (.node (ho130v5 P) .nil .nil) (.node (ho194v6 P) .nil .nil)) (.node (ho98v5 P) (.node (ho162v6 P) .nil .nil) (.node (ho226v6 P) .nil .nil))) (.node (ho50v3 P) (.node (ho82v5 P) (.node (ho146v5 P) .nil .nil) (.node (ho210v6 P) .nil .nil)) (.node (ho114v5 P) (.node (ho178v6 P) .nil .nil) .nil))) (.node (ho26v2 P) (.node (ho42v3 P) (.node (ho74v5 P) (.node (ho138v5 P) .nil .nil) (.node (ho202v6 P) .nil .nil)) (.node (ho106v5 P) (.node (ho170v6 P) .nil .nil) .nil)) (.node (ho58v4 P) (.node (ho90v5 P) (.node (ho154v5 P) .nil .nil) (.node (ho218v6 P) .nil .nil)) (.node (ho122v5 P) (.node (ho186v6 P) .nil .nil) .nil)))) (.node (ho14v0 P) (.node (ho22v2 P) (.node (ho38v3 P) (.node (ho70v5 P) (.node (ho134v5 P) .nil .nil) (.node (ho198v6 P) .nil .nil)) (.node (ho102v5 P) (.node (ho166v6 P) .nil .nil) (.node (ho230v6 P) .nil .nil))) (.node (ho54v4 P) (.node (ho86v5 P) (.node (ho150v5 P) .nil .nil) (.node (ho214v6 P) .nil .nil)) (.node (ho118v5 P) (.node (ho182v6 P) .nil .nil) .nil))) (.node (ho30v2 P) (.node (ho46v3 P) (.node (ho78v5 P) (.node (ho142v5 P) .nil .nil) (.node (ho206v6 P) .nil .nil)) (.node (ho110v5 P) (.node (ho174v6 P) .nil .nil) .nil)) (.node (ho62v4 P) (.node (ho94v5 P) (.node (ho158v5 P) .nil .nil) (.node (ho222v6 P) .nil .nil)) (.node (ho126v5 P) (.node (ho190v6 P) .nil .nil) .nil)))))))
/-- cut 6: statements 10 to 25; steps 378 -/
noncomputable def hst6 (w : World) (os : OsState) : SharedT := ⟨htree6 w.params, 231, Life.mk [] [] [] 0 [] [] false #[] [] 0 false false false 0 [2000, 10, 10] false 0 true [] [] 0 false, Array.mk [], Drawn.mk 0 0 0 0, 497, os⟩
noncomputable def hpos6 : Pos := Pos.mk 98 0 100 52
noncomputable def ho3v7 (P : Params) : Obj := Obj.mk (Value.type "dict") none
  (Data.dict
    #[DictEntry.mk (PyData.keyHash P (Str.ofString "__name__")) (Value.str (Str.ofString "__name__") 165)
        (Value.str (Str.ofString "clausemill.arith") 452),
      DictEntry.mk (PyData.keyHash P (Str.ofString "__doc__")) (Value.str (Str.ofString "__doc__") 166) Value.none,
      DictEntry.mk (PyData.keyHash P (Str.ofString "__package__")) (Value.str (Str.ofString "__package__") 167)
        Value.none,
      DictEntry.mk (PyData.keyHash P (Str.ofString "__loader__")) (Value.str (Str.ofString "__loader__") 168)
        (Value.builtin "__main__.__loader__#opaque"),
      DictEntry.mk (PyData.keyHash P (Str.ofString "__spec__")) (Value.str (Str.ofString "__spec__") 169) Value.none,
      DictEntry.mk (PyData.keyHash P (Str.ofString "__annotations__")) (Value.str (Str.ofString "__annotations__") 170)
        (Value.ref 6),
      DictEntry.mk (PyData.keyHash P (Str.ofString "__builtins__")) (Value.str (Str.ofString "__builtins__") 171)
        (Value.ref 4),
      DictEntry.mk (PyData.keyHash P (Str.ofString "__file__")) (Value.str (Str.ofString "__file__") 173)
        (Value.str (Str.ofString "/claim/cut.py") 172),
      DictEntry.mk (PyData.keyHash P (Str.ofString "__cached__")) (Value.str (Str.ofString "__cached__") 174)
        Value.none,
      DictEntry.mk (PyData.keyHash P (Str.ofString "_wall")) (Value.str (Str.ofString "_wall") 193) (Value.ref 21),
      DictEntry.mk (PyData.keyHash P (Str.ofString "ClausemillError")) (Value.str (Str.ofString "ClausemillError") 215)
        (Value.ref 31),
      DictEntry.mk (PyData.keyHash P (Str.ofString "PrologError")) (Value.str (Str.ofString "PrologError") 240)
        (Value.ref 51),
      DictEntry.mk (PyData.keyHash P (Str.ofString "A_SYSTEM")) (Value.str (Str.ofString "A_SYSTEM") 242)
        (Value.int 25 241),
      DictEntry.mk (PyData.keyHash P (Str.ofString "F_SLASH")) (Value.str (Str.ofString "F_SLASH") 244)
        (Value.int 15 243),
      DictEntry.mk (PyData.keyHash P (Str.ofString "F_ERROR")) (Value.str (Str.ofString "F_ERROR") 246)
        (Value.int 16 245),
      DictEntry.mk (PyData.keyHash P (Str.ofString "fixed_atoms")) (Value.str (Str.ofString "fixed_atoms") 252)
        (Value.ref 60),
      DictEntry.mk (PyData.keyHash P (Str.ofString "fixed_functors")) (Value.str (Str.ofString "fixed_functors") 258)
        (Value.ref 67),
      DictEntry.mk (PyData.keyHash P (Str.ofString "Symbols")) (Value.str (Str.ofString "Symbols") 377) (Value.ref 154),
      DictEntry.mk (PyData.keyHash P (Str.ofString "atom")) (Value.str (Str.ofString "atom") 386) (Value.ref 165),
      DictEntry.mk (PyData.keyHash P (Str.ofString "integer")) (Value.str (Str.ofString "integer") 393) (Value.ref 172),
      DictEntry.mk (PyData.keyHash P (Str.ofString "struct")) (Value.str (Str.ofString "struct") 401) (Value.ref 179),
      DictEntry.mk (PyData.keyHash P (Str.ofString "system_error")) (Value.str (Str.ofString "system_error") 408)
        (Value.ref 186),
      DictEntry.mk (PyData.keyHash P (Str.ofString "formal_of")) (Value.str (Str.ofString "formal_of") 419)
        (Value.ref 193),
      DictEntry.mk (PyData.keyHash P (Str.ofString "instantiation_error"))
        (Value.str (Str.ofString "instantiation_error") 426) (Value.ref 200),
      DictEntry.mk (PyData.keyHash P (Str.ofString "type_error")) (Value.str (Str.ofString "type_error") 435)
        (Value.ref 207),
      DictEntry.mk (PyData.keyHash P (Str.ofString "evaluation_error"))
        (Value.str (Str.ofString "evaluation_error") 443) (Value.ref 214),
      DictEntry.mk (PyData.keyHash P (Str.ofString "resource_error")) (Value.str (Str.ofString "resource_error") 451)
        (Value.ref 221),
      DictEntry.mk (PyData.keyHash P (Str.ofString "UNARY_NAMES")) (Value.str (Str.ofString "UNARY_NAMES") 465)
        (Value.ref 222),
      DictEntry.mk (PyData.keyHash P (Str.ofString "BINARY_NAMES")) (Value.str (Str.ofString "BINARY_NAMES") 484)
        (Value.ref 223),
      DictEntry.mk (PyData.keyHash P (Str.ofString "APPLY")) (Value.str (Str.ofString "APPLY") 486)
        (Value.str (Str.ofString "apply") 485),
      DictEntry.mk (PyData.keyHash P (Str.ofString "not_evaluable")) (Value.str (Str.ofString "not_evaluable") 496)
        (Value.ref 230),
      DictEntry.mk (PyData.keyHash P (Str.ofString "is_evaluable")) (Value.str (Str.ofString "is_evaluable") 504)
        (Value.ref 237),
      DictEntry.mk (PyData.keyHash P (Str.ofString "check_evaluable")) (Value.str (Str.ofString "check_evaluable") 514)
        (Value.ref 244),
      DictEntry.mk (PyData.keyHash P (Str.ofString "check_size")) (Value.str (Str.ofString "check_size") 523)
        (Value.ref 251),
      DictEntry.mk (PyData.keyHash P (Str.ofString "divide_toward_zero"))
        (Value.str (Str.ofString "divide_toward_zero") 532) (Value.ref 258),
      DictEntry.mk (PyData.keyHash P (Str.ofString "remainder")) (Value.str (Str.ofString "remainder") 540)
        (Value.ref 265),
      DictEntry.mk (PyData.keyHash P (Str.ofString "greatest_divisor"))
        (Value.str (Str.ofString "greatest_divisor") 548) (Value.ref 272),
      DictEntry.mk (PyData.keyHash P (Str.ofString "power")) (Value.str (Str.ofString "power") 558) (Value.ref 279),
      DictEntry.mk (PyData.keyHash P (Str.ofString "shift_left")) (Value.str (Str.ofString "shift_left") 568)
        (Value.ref 286),
      DictEntry.mk (PyData.keyHash P (Str.ofString "shift_right")) (Value.str (Str.ofString "shift_right") 578)
        (Value.ref 293),
      DictEntry.mk (PyData.keyHash P (Str.ofString "sign_of")) (Value.str (Str.ofString "sign_of") 585) (Value.ref 300),
      DictEntry.mk (PyData.keyHash P (Str.ofString "apply_unary")) (Value.str (Str.ofString "apply_unary") 594)
        (Value.ref 307),
      DictEntry.mk (PyData.keyHash P (Str.ofString "apply_division")) (Value.str (Str.ofString "apply_division") 604)
        (Value.ref 314)]
    43)
  #[]
noncomputable def ho12v7 (P : Params) : Obj := Obj.mk Value.none none
  (Data.fields
    #[Value.int 1 0, Value.int 0 0, Value.ref 20, Value.int 5 0, Value.int 0 0, Value.ref 27, Value.int 7 0,
      Value.int 0 0, Value.ref 40, Value.int 14 0, Value.int 0 0, Value.ref 59, Value.int 16 0, Value.int 0 0,
      Value.ref 66, Value.int 18 0, Value.int 0 0, Value.ref 73, Value.int 73 0, Value.int 0 0, Value.ref 164,
      Value.int 75 0, Value.int 0 0, Value.ref 171, Value.int 77 0, Value.int 0 0, Value.ref 178, Value.int 79 0,
      Value.int 0 0, Value.ref 185, Value.int 81 0, Value.int 0 0, Value.ref 192, Value.int 86 0, Value.int 0 0,
      Value.ref 199, Value.int 88 0, Value.int 0 0, Value.ref 206, Value.int 90 0, Value.int 0 0, Value.ref 213,
      Value.int 92 0, Value.int 0 0, Value.ref 220, Value.int 98 0, Value.int 0 0, Value.ref 229, Value.int 101 0,
      Value.int 0 0, Value.ref 236, Value.int 107 0, Value.int 0 0, Value.ref 243, Value.int 112 0, Value.int 0 0,
      Value.ref 250, Value.int 116 0, Value.int 0 0, Value.ref 257, Value.int 121 0, Value.int 0 0, Value.ref 264,
      Value.int 123 0, Value.int 0 0, Value.ref 271, Value.int 129 0, Value.int 0 0, Value.ref 278, Value.int 145 0,
      Value.int 0 0, Value.ref 285, Value.int 153 0, Value.int 0 0, Value.ref 292, Value.int 161 0, Value.int 0 0,
      Value.ref 299, Value.int 167 0, Value.int 0 0, Value.ref 306, Value.int 183 0, Value.int 0 0, Value.ref 313])
  #[]
noncomputable def ho231v7 (P : Params) : Obj := Obj.mk (Value.type "tuple") none (Data.seq #[]) #[]
noncomputable def ho232v7 (P : Params) : Obj := Obj.mk Value.none none (Data.fields #[]) #[]
noncomputable def ho233v7 (P : Params) : Obj := Obj.mk (Value.type "tuple") none (Data.seq #[Value.str (Str.ofString "text") 500, Value.str (Str.ofString "arity") 501])
  #[]
noncomputable def ho234v7 (P : Params) : Obj := Obj.mk (Value.type "tuple") none (Data.seq #[]) #[]
noncomputable def ho235v7 (P : Params) : Obj := Obj.mk Value.none none
  (Data.func
    (FuncData.mk (Str.ofString "is_evaluable") (Str.ofString "is_evaluable") ha25 hb25 hs25 0 [] Value.none Value.none
      Value.none Value.none none Value.none Value.none 0))
  #[]
noncomputable def ho236v7 (P : Params) : Obj := Obj.mk (Value.type "code") none
  (Data.fields
    #[Value.str (Str.ofString "is_evaluable") 497, Value.str (Str.ofString "is_evaluable") 498,
      Value.str (Str.ofString "/claim/cut.py") 499, Value.int 101 0, Value.int 2 0, Value.int 0 0, Value.int 0 0,
      Value.int 3 0, Value.ref 231, Value.bool true, Value.int 181 0, Value.ref 232, Value.none, Value.ref 233,
      Value.ref 234, Value.ref 235, Value.int 502 0, Value.int 101 0, Value.str (Str.ofString "/claim/cut.py") 503])
  #[]
noncomputable def ho237v7 (P : Params) : Obj := Obj.mk (Value.type "function") none
  (Data.func
    (FuncData.mk (Str.ofString "is_evaluable") (Str.ofString "is_evaluable") ha25 hb25 hs25 3 [] Value.none Value.none
      Value.none (Value.str (Str.ofString "clausemill.arith") 452) none (Value.ref 236) Value.none 0))
  #[]
noncomputable def ho238v7 (P : Params) : Obj := Obj.mk (Value.type "tuple") none (Data.seq #[]) #[]
noncomputable def ho239v7 (P : Params) : Obj := Obj.mk Value.none none (Data.fields #[]) #[]
noncomputable def ho240v7 (P : Params) : Obj := Obj.mk (Value.type "tuple") none
  (Data.seq
    #[Value.str (Str.ofString "symbols") 508, Value.str (Str.ofString "functor") 509,
      Value.str (Str.ofString "name") 510, Value.str (Str.ofString "arity") 511])
  #[]
noncomputable def ho241v7 (P : Params) : Obj := Obj.mk (Value.type "tuple") none (Data.seq #[]) #[]
noncomputable def ho242v7 (P : Params) : Obj := Obj.mk Value.none none
  (Data.func
    (FuncData.mk (Str.ofString "check_evaluable") (Str.ofString "check_evaluable") ha26 hb26 hs26 0 [] Value.none
      Value.none Value.none Value.none none Value.none Value.none 0))
  #[]
noncomputable def ho243v7 (P : Params) : Obj := Obj.mk (Value.type "code") none
  (Data.fields
    #[Value.str (Str.ofString "check_evaluable") 505, Value.str (Str.ofString "check_evaluable") 506,
      Value.str (Str.ofString "/claim/cut.py") 507, Value.int 107 0, Value.int 2 0, Value.int 0 0, Value.int 0 0,
      Value.int 3 0, Value.ref 238, Value.bool true, Value.int 181 0, Value.ref 239, Value.none, Value.ref 240,
      Value.ref 241, Value.ref 242, Value.int 512 0, Value.int 107 0, Value.str (Str.ofString "/claim/cut.py") 513])
  #[]
noncomputable def ho244v7 (P : Params) : Obj := Obj.mk (Value.type "function") none
  (Data.func
    (FuncData.mk (Str.ofString "check_evaluable") (Str.ofString "check_evaluable") ha26 hb26 hs26 3 [] Value.none
      Value.none Value.none (Value.str (Str.ofString "clausemill.arith") 452) none (Value.ref 243) Value.none 0))
  #[]
noncomputable def ho245v7 (P : Params) : Obj := Obj.mk (Value.type "tuple") none (Data.seq #[]) #[]
noncomputable def ho246v7 (P : Params) : Obj := Obj.mk Value.none none (Data.fields #[]) #[]
noncomputable def ho247v7 (P : Params) : Obj := Obj.mk (Value.type "tuple") none
  (Data.seq
    #[Value.str (Str.ofString "symbols") 518, Value.str (Str.ofString "value") 519,
      Value.str (Str.ofString "max_bits") 520])
  #[]
noncomputable def ho248v7 (P : Params) : Obj := Obj.mk (Value.type "tuple") none (Data.seq #[]) #[]
noncomputable def ho249v7 (P : Params) : Obj := Obj.mk Value.none none
  (Data.func
    (FuncData.mk (Str.ofString "check_size") (Str.ofString "check_size") ha27 hb27 hs27 0 [] Value.none Value.none
      Value.none Value.none none Value.none Value.none 0))
  #[]
noncomputable def ho250v7 (P : Params) : Obj := Obj.mk (Value.type "code") none
  (Data.fields
    #[Value.str (Str.ofString "check_size") 515, Value.str (Str.ofString "check_size") 516,
      Value.str (Str.ofString "/claim/cut.py") 517, Value.int 112 0, Value.int 3 0, Value.int 0 0, Value.int 0 0,
      Value.int 3 0, Value.ref 245, Value.bool true, Value.int 181 0, Value.ref 246, Value.none, Value.ref 247,
      Value.ref 248, Value.ref 249, Value.int 521 0, Value.int 112 0, Value.str (Str.ofString "/claim/cut.py") 522])
  #[]
noncomputable def ho251v7 (P : Params) : Obj := Obj.mk (Value.type "function") none
  (Data.func
    (FuncData.mk (Str.ofString "check_size") (Str.ofString "check_size") ha27 hb27 hs27 3 [] Value.none Value.none
      Value.none (Value.str (Str.ofString "clausemill.arith") 452) none (Value.ref 250) Value.none 0))
  #[]
noncomputable def ho252v7 (P : Params) : Obj := Obj.mk (Value.type "tuple") none (Data.seq #[]) #[]
noncomputable def ho253v7 (P : Params) : Obj := Obj.mk Value.none none (Data.fields #[]) #[]
noncomputable def ho254v7 (P : Params) : Obj := Obj.mk (Value.type "tuple") none
  (Data.seq
    #[Value.str (Str.ofString "first") 527, Value.str (Str.ofString "second") 528,
      Value.str (Str.ofString "quotient") 529])
  #[]
noncomputable def ho255v7 (P : Params) : Obj := Obj.mk (Value.type "tuple") none (Data.seq #[]) #[]
noncomputable def ho256v7 (P : Params) : Obj := Obj.mk Value.none none
  (Data.func
    (FuncData.mk (Str.ofString "divide_toward_zero") (Str.ofString "divide_toward_zero") ha28 hb28 hs28 0 [] Value.none
      Value.none Value.none Value.none none Value.none Value.none 0))
  #[]
noncomputable def ho257v7 (P : Params) : Obj := Obj.mk (Value.type "code") none
  (Data.fields
    #[Value.str (Str.ofString "divide_toward_zero") 524, Value.str (Str.ofString "divide_toward_zero") 525,
      Value.str (Str.ofString "/claim/cut.py") 526, Value.int 116 0, Value.int 2 0, Value.int 0 0, Value.int 0 0,
      Value.int 3 0, Value.ref 252, Value.bool true, Value.int 181 0, Value.ref 253, Value.none, Value.ref 254,
      Value.ref 255, Value.ref 256, Value.int 530 0, Value.int 116 0, Value.str (Str.ofString "/claim/cut.py") 531])
  #[]
noncomputable def ho258v7 (P : Params) : Obj := Obj.mk (Value.type "function") none
  (Data.func
    (FuncData.mk (Str.ofString "divide_toward_zero") (Str.ofString "divide_toward_zero") ha28 hb28 hs28 3 [] Value.none
      Value.none Value.none (Value.str (Str.ofString "clausemill.arith") 452) none (Value.ref 257) Value.none 0))
  #[]
noncomputable def ho259v7 (P : Params) : Obj := Obj.mk (Value.type "tuple") none (Data.seq #[]) #[]
noncomputable def ho260v7 (P : Params) : Obj := Obj.mk Value.none none (Data.fields #[]) #[]
noncomputable def ho261v7 (P : Params) : Obj := Obj.mk (Value.type "tuple") none
  (Data.seq #[Value.str (Str.ofString "first") 536, Value.str (Str.ofString "second") 537]) #[]
noncomputable def ho262v7 (P : Params) : Obj := Obj.mk (Value.type "tuple") none (Data.seq #[]) #[]
noncomputable def ho263v7 (P : Params) : Obj := Obj.mk Value.none none
  (Data.func
    (FuncData.mk (Str.ofString "remainder") (Str.ofString "remainder") ha29 hb29 hs29 0 [] Value.none Value.none
      Value.none Value.none none Value.none Value.none 0))
  #[]
noncomputable def ho264v7 (P : Params) : Obj := Obj.mk (Value.type "code") none
  (Data.fields
    #[Value.str (Str.ofString "remainder") 533, Value.str (Str.ofString "remainder") 534,
      Value.str (Str.ofString "/claim/cut.py") 535, Value.int 121 0, Value.int 2 0, Value.int 0 0, Value.int 0 0,
      Value.int 3 0, Value.ref 259, Value.bool true, Value.int 181 0, Value.ref 260, Value.none, Value.ref 261,
      Value.ref 262, Value.ref 263, Value.int 538 0, Value.int 121 0, Value.str (Str.ofString "/claim/cut.py") 539])
  #[]
noncomputable def ho265v7 (P : Params) : Obj := Obj.mk (Value.type "function") none
  (Data.func
    (FuncData.mk (Str.ofString "remainder") (Str.ofString "remainder") ha29 hb29 hs29 3 [] Value.none Value.none
      Value.none (Value.str (Str.ofString "clausemill.arith") 452) none (Value.ref 264) Value.none 0))
  #[]
noncomputable def ho266v7 (P : Params) : Obj := Obj.mk (Value.type "tuple") none (Data.seq #[]) #[]
noncomputable def ho267v7 (P : Params) : Obj := Obj.mk Value.none none (Data.fields #[]) #[]
noncomputable def ho268v7 (P : Params) : Obj := Obj.mk (Value.type "tuple") none
  (Data.seq #[Value.str (Str.ofString "first") 544, Value.str (Str.ofString "second") 545]) #[]
noncomputable def ho269v7 (P : Params) : Obj := Obj.mk (Value.type "tuple") none (Data.seq #[]) #[]
noncomputable def ho270v7 (P : Params) : Obj := Obj.mk Value.none none
  (Data.func
    (FuncData.mk (Str.ofString "greatest_divisor") (Str.ofString "greatest_divisor") ha30 hb30 hs30 0 [] Value.none
      Value.none Value.none Value.none none Value.none Value.none 0))
  #[]
noncomputable def ho271v7 (P : Params) : Obj := Obj.mk (Value.type "code") none
  (Data.fields
    #[Value.str (Str.ofString "greatest_divisor") 541, Value.str (Str.ofString "greatest_divisor") 542,
      Value.str (Str.ofString "/claim/cut.py") 543, Value.int 123 0, Value.int 2 0, Value.int 0 0, Value.int 0 0,
      Value.int 3 0, Value.ref 266, Value.bool true, Value.int 181 0, Value.ref 267, Value.none, Value.ref 268,
      Value.ref 269, Value.ref 270, Value.int 546 0, Value.int 123 0, Value.str (Str.ofString "/claim/cut.py") 547])
  #[]
noncomputable def ho272v7 (P : Params) : Obj := Obj.mk (Value.type "function") none
  (Data.func
    (FuncData.mk (Str.ofString "greatest_divisor") (Str.ofString "greatest_divisor") ha30 hb30 hs30 3 [] Value.none
      Value.none Value.none (Value.str (Str.ofString "clausemill.arith") 452) none (Value.ref 271) Value.none 0))
  #[]
noncomputable def ho273v7 (P : Params) : Obj := Obj.mk (Value.type "tuple") none (Data.seq #[]) #[]
noncomputable def ho274v7 (P : Params) : Obj := Obj.mk Value.none none (Data.fields #[]) #[]
noncomputable def ho275v7 (P : Params) : Obj := Obj.mk (Value.type "tuple") none
  (Data.seq
    #[Value.str (Str.ofString "symbols") 552, Value.str (Str.ofString "base") 553,
      Value.str (Str.ofString "exponent") 554, Value.str (Str.ofString "max_bits") 555])
  #[]
noncomputable def ho276v7 (P : Params) : Obj := Obj.mk (Value.type "tuple") none (Data.seq #[]) #[]
noncomputable def ho277v7 (P : Params) : Obj := Obj.mk Value.none none
  (Data.func
    (FuncData.mk (Str.ofString "power") (Str.ofString "power") ha31 hb31 hs31 0 [] Value.none Value.none Value.none
      Value.none none Value.none Value.none 0))
  #[]
noncomputable def ho278v7 (P : Params) : Obj := Obj.mk (Value.type "code") none
  (Data.fields
    #[Value.str (Str.ofString "power") 549, Value.str (Str.ofString "power") 550,
      Value.str (Str.ofString "/claim/cut.py") 551, Value.int 129 0, Value.int 4 0, Value.int 0 0, Value.int 0 0,
      Value.int 3 0, Value.ref 273, Value.bool true, Value.int 181 0, Value.ref 274, Value.none, Value.ref 275,
      Value.ref 276, Value.ref 277, Value.int 556 0, Value.int 129 0, Value.str (Str.ofString "/claim/cut.py") 557])
  #[]
noncomputable def ho279v7 (P : Params) : Obj := Obj.mk (Value.type "function") none
  (Data.func
    (FuncData.mk (Str.ofString "power") (Str.ofString "power") ha31 hb31 hs31 3 [] Value.none Value.none Value.none
      (Value.str (Str.ofString "clausemill.arith") 452) none (Value.ref 278) Value.none 0))
  #[]
noncomputable def ho280v7 (P : Params) : Obj := Obj.mk (Value.type "tuple") none (Data.seq #[]) #[]
noncomputable def ho281v7 (P : Params) : Obj := Obj.mk Value.none none (Data.fields #[]) #[]
noncomputable def ho282v7 (P : Params) : Obj := Obj.mk (Value.type "tuple") none
  (Data.seq
    #[Value.str (Str.ofString "symbols") 562, Value.str (Str.ofString "value") 563,
      Value.str (Str.ofString "count") 564, Value.str (Str.ofString "max_bits") 565])
  #[]
noncomputable def ho283v7 (P : Params) : Obj := Obj.mk (Value.type "tuple") none (Data.seq #[]) #[]
noncomputable def ho284v7 (P : Params) : Obj := Obj.mk Value.none none
  (Data.func
    (FuncData.mk (Str.ofString "shift_left") (Str.ofString "shift_left") ha32 hb32 hs32 0 [] Value.none Value.none
      Value.none Value.none none Value.none Value.none 0))
  #[]
noncomputable def ho285v7 (P : Params) : Obj := Obj.mk (Value.type "code") none
  (Data.fields
    #[Value.str (Str.ofString "shift_left") 559, Value.str (Str.ofString "shift_left") 560,
      Value.str (Str.ofString "/claim/cut.py") 561, Value.int 145 0, Value.int 4 0, Value.int 0 0, Value.int 0 0,
      Value.int 3 0, Value.ref 280, Value.bool true, Value.int 181 0, Value.ref 281, Value.none, Value.ref 282,
      Value.ref 283, Value.ref 284, Value.int 566 0, Value.int 145 0, Value.str (Str.ofString "/claim/cut.py") 567])
  #[]
noncomputable def ho286v7 (P : Params) : Obj := Obj.mk (Value.type "function") none
  (Data.func
    (FuncData.mk (Str.ofString "shift_left") (Str.ofString "shift_left") ha32 hb32 hs32 3 [] Value.none Value.none
      Value.none (Value.str (Str.ofString "clausemill.arith") 452) none (Value.ref 285) Value.none 0))
  #[]
noncomputable def ho287v7 (P : Params) : Obj := Obj.mk (Value.type "tuple") none (Data.seq #[]) #[]
noncomputable def ho288v7 (P : Params) : Obj := Obj.mk Value.none none (Data.fields #[]) #[]
noncomputable def ho289v7 (P : Params) : Obj := Obj.mk (Value.type "tuple") none
  (Data.seq
    #[Value.str (Str.ofString "symbols") 572, Value.str (Str.ofString "value") 573,
      Value.str (Str.ofString "count") 574, Value.str (Str.ofString "max_bits") 575])
  #[]
noncomputable def ho290v7 (P : Params) : Obj := Obj.mk (Value.type "tuple") none (Data.seq #[]) #[]
noncomputable def ho291v7 (P : Params) : Obj := Obj.mk Value.none none
  (Data.func
    (FuncData.mk (Str.ofString "shift_right") (Str.ofString "shift_right") ha33 hb33 hs33 0 [] Value.none Value.none
      Value.none Value.none none Value.none Value.none 0))
  #[]
noncomputable def ho292v7 (P : Params) : Obj := Obj.mk (Value.type "code") none
  (Data.fields
    #[Value.str (Str.ofString "shift_right") 569, Value.str (Str.ofString "shift_right") 570,
      Value.str (Str.ofString "/claim/cut.py") 571, Value.int 153 0, Value.int 4 0, Value.int 0 0, Value.int 0 0,
      Value.int 3 0, Value.ref 287, Value.bool true, Value.int 181 0, Value.ref 288, Value.none, Value.ref 289,
      Value.ref 290, Value.ref 291, Value.int 576 0, Value.int 153 0, Value.str (Str.ofString "/claim/cut.py") 577])
  #[]
noncomputable def ho293v7 (P : Params) : Obj := Obj.mk (Value.type "function") none
  (Data.func
    (FuncData.mk (Str.ofString "shift_right") (Str.ofString "shift_right") ha33 hb33 hs33 3 [] Value.none Value.none
      Value.none (Value.str (Str.ofString "clausemill.arith") 452) none (Value.ref 292) Value.none 0))
  #[]
noncomputable def ho294v7 (P : Params) : Obj := Obj.mk (Value.type "tuple") none (Data.seq #[]) #[]
noncomputable def ho295v7 (P : Params) : Obj := Obj.mk Value.none none (Data.fields #[]) #[]
noncomputable def ho296v7 (P : Params) : Obj := Obj.mk (Value.type "tuple") none (Data.seq #[Value.str (Str.ofString "value") 582]) #[]
noncomputable def ho297v7 (P : Params) : Obj := Obj.mk (Value.type "tuple") none (Data.seq #[]) #[]
noncomputable def ho298v7 (P : Params) : Obj := Obj.mk Value.none none
  (Data.func
    (FuncData.mk (Str.ofString "sign_of") (Str.ofString "sign_of") ha34 hb34 hs34 0 [] Value.none Value.none Value.none
      Value.none none Value.none Value.none 0))
  #[]
noncomputable def ho299v7 (P : Params) : Obj := Obj.mk (Value.type "code") none
  (Data.fields
    #[Value.str (Str.ofString "sign_of") 579, Value.str (Str.ofString "sign_of") 580,
      Value.str (Str.ofString "/claim/cut.py") 581, Value.int 161 0, Value.int 1 0, Value.int 0 0, Value.int 0 0,
      Value.int 3 0, Value.ref 294, Value.bool true, Value.int 181 0, Value.ref 295, Value.none, Value.ref 296,
      Value.ref 297, Value.ref 298, Value.int 583 0, Value.int 161 0, Value.str (Str.ofString "/claim/cut.py") 584])
  #[]
noncomputable def ho300v7 (P : Params) : Obj := Obj.mk (Value.type "function") none
  (Data.func
    (FuncData.mk (Str.ofString "sign_of") (Str.ofString "sign_of") ha34 hb34 hs34 3 [] Value.none Value.none Value.none
      (Value.str (Str.ofString "clausemill.arith") 452) none (Value.ref 299) Value.none 0))
  #[]
noncomputable def ho301v7 (P : Params) : Obj := Obj.mk (Value.type "tuple") none (Data.seq #[]) #[]
noncomputable def ho302v7 (P : Params) : Obj := Obj.mk Value.none none (Data.fields #[]) #[]
noncomputable def ho303v7 (P : Params) : Obj := Obj.mk (Value.type "tuple") none
  (Data.seq
    #[Value.str (Str.ofString "symbols") 589, Value.str (Str.ofString "text") 590,
      Value.str (Str.ofString "value") 591])
  #[]
noncomputable def ho304v7 (P : Params) : Obj := Obj.mk (Value.type "tuple") none (Data.seq #[]) #[]
noncomputable def ho305v7 (P : Params) : Obj := Obj.mk Value.none none
  (Data.func
    (FuncData.mk (Str.ofString "apply_unary") (Str.ofString "apply_unary") ha35 hb35 hs35 0 [] Value.none Value.none
      Value.none Value.none none Value.none Value.none 0))
  #[]
noncomputable def ho306v7 (P : Params) : Obj := Obj.mk (Value.type "code") none
  (Data.fields
    #[Value.str (Str.ofString "apply_unary") 586, Value.str (Str.ofString "apply_unary") 587,
      Value.str (Str.ofString "/claim/cut.py") 588, Value.int 167 0, Value.int 3 0, Value.int 0 0, Value.int 0 0,
      Value.int 3 0, Value.ref 301, Value.bool true, Value.int 181 0, Value.ref 302, Value.none, Value.ref 303,
      Value.ref 304, Value.ref 305, Value.int 592 0, Value.int 167 0, Value.str (Str.ofString "/claim/cut.py") 593])
  #[]
noncomputable def ho307v7 (P : Params) : Obj := Obj.mk (Value.type "function") none
  (Data.func
    (FuncData.mk (Str.ofString "apply_unary") (Str.ofString "apply_unary") ha35 hb35 hs35 3 [] Value.none Value.none
      Value.none (Value.str (Str.ofString "clausemill.arith") 452) none (Value.ref 306) Value.none 0))
  #[]
noncomputable def ho308v7 (P : Params) : Obj := Obj.mk (Value.type "tuple") none (Data.seq #[]) #[]
noncomputable def ho309v7 (P : Params) : Obj := Obj.mk Value.none none (Data.fields #[]) #[]
noncomputable def ho310v7 (P : Params) : Obj := Obj.mk (Value.type "tuple") none
  (Data.seq
    #[Value.str (Str.ofString "symbols") 598, Value.str (Str.ofString "text") 599, Value.str (Str.ofString "first") 600,
      Value.str (Str.ofString "second") 601])
  #[]
noncomputable def ho311v7 (P : Params) : Obj := Obj.mk (Value.type "tuple") none (Data.seq #[]) #[]
noncomputable def ho312v7 (P : Params) : Obj := Obj.mk Value.none none
  (Data.func
    (FuncData.mk (Str.ofString "apply_division") (Str.ofString "apply_division") ha36 hb36 hs36 0 [] Value.none
      Value.none Value.none Value.none none Value.none Value.none 0))
  #[]
noncomputable def ho313v7 (P : Params) : Obj := Obj.mk (Value.type "code") none
  (Data.fields
    #[Value.str (Str.ofString "apply_division") 595, Value.str (Str.ofString "apply_division") 596,
      Value.str (Str.ofString "/claim/cut.py") 597, Value.int 183 0, Value.int 4 0, Value.int 0 0, Value.int 0 0,
      Value.int 3 0, Value.ref 308, Value.bool true, Value.int 181 0, Value.ref 309, Value.none, Value.ref 310,
      Value.ref 311, Value.ref 312, Value.int 602 0, Value.int 183 0, Value.str (Str.ofString "/claim/cut.py") 603])
  #[]
noncomputable def ho314v7 (P : Params) : Obj := Obj.mk (Value.type "function") none
  (Data.func
    (FuncData.mk (Str.ofString "apply_division") (Str.ofString "apply_division") ha36 hb36 hs36 3 [] Value.none
      Value.none Value.none (Value.str (Str.ofString "clausemill.arith") 452) none (Value.ref 313) Value.none 0))
  #[]
noncomputable def htree7 (P : Params) : BT := (.node (boot_o_0 P) (.node (boot_o_1 P) (.node (ho3v7 P) (.node (boot_o_7 P) (.node (ho15v1 P) (.node (ho31v3 P) (.node (ho63v4 P) (.node (ho127v5 P) (.node (ho255v7 P) .nil .nil) .nil) (.node (ho191v6 P) .nil .nil)) (.node (ho95v5 P) (.node (ho159v6 P) (.node (ho287v7 P) .nil .nil) .nil) (.node (ho223v6 P) .nil .nil))) (.node (ho47v3 P) (.node (ho79v5 P) (.node (ho143v5 P) (.node (ho271v7 P) .nil .nil) .nil) (.node (ho207v6 P) .nil .nil)) (.node (ho111v5 P) (.node (ho175v6 P) (.node (ho303v7 P) .nil .nil) .nil) (.node (ho239v7 P) .nil .nil)))) (.node (ho23v2 P) (.node (ho39v3 P) (.node (ho71v5 P) (.node (ho135v5 P) (.node (ho263v7 P) .nil .nil) .nil) (.node (ho199v6 P) .nil .nil)) (.node (ho103v5 P) (.node (ho167v6 P) (.node (ho295v7 P) .nil .nil) .nil) (.node (ho231v7 P) .nil .nil))) (.node (ho55v4 P) (.node (ho87v5 P) (.node (ho151v5 P) (.node (ho279v7 P) .nil .nil) .nil) (.node (ho215v6 P) .nil .nil)) (.node (ho119v5 P) (.node (ho183v6 P) (.node (ho311v7 P) .nil .nil) .nil) (.node (ho247v7 P) .nil .nil))))) (.node (ho11v0 P) (.node (ho19v1 P) (.node (ho35v3 P) (.node (ho67v4 P) (.node (ho131v5 P) (.node (ho259v7 P) .nil .nil) .nil) (.node (ho195v6 P) .nil .nil)) (.node (ho99v5 P) (.node (ho163v6 P) (.node (ho291v7 P) .nil .nil) .nil) (.node (ho227v6 P) .nil .nil))) (.node (ho51v3 P) (.node (ho83v5 P) (.node (ho147v5 P) (.node (ho275v7 P) .nil .nil) .nil) (.node (ho211v6 P) .nil .nil)) (.node (ho115v5 P) (.node (ho179v6 P) (.node (ho307v7 P) .nil .nil) .nil) (.node (ho243v7 P) .nil .nil)))) (.node (ho27v2 P) (.node (ho43v3 P) (.node (ho75v5 P) (.node (ho139v5 P) (.node (ho267v7 P) .nil .nil) .nil) (.node (ho203v6 P) .nil .nil)) (.node (ho107v5 P) (.node (ho171v6 P) (.node (ho299v7 P) .nil .nil) .nil) (.node (ho235v7 P) .nil .nil))) (.node (ho59v4 P) (.node (ho91v5 P) (.node (ho155v5 P) (.node (ho283v7 P) .nil .nil) .nil) (.node (ho219v6 P) .nil .nil)) (.node (ho123v5 P) (.node (ho187v6 P) .nil .nil) (.node (ho251v7 P) .nil .nil)))))) (.node (boot_o_5 P) (.node (boot_o_9 P) (.node (ho17v1 P) (.node (ho33v2 P) (.node (ho65v4 P) (.node (ho129v5 P) (.node (ho257v7 P) .nil .nil) .nil) (.node (ho193v6 P) .nil .nil)) (.node (ho97v5 P) (.node (ho161v6 P) (.node (ho289v7 P) .nil .nil) .nil) (.node (ho225v6 P) .nil .nil))) (.node (ho49v3 P) (.node (ho81v5 P) (.node (ho145v5 P) (.node (ho273v7 P) .nil .nil) .nil) (.node (ho209v6 P) .nil .nil)) (.node (ho113v5 P) (.node (ho177v6 P) (.node (ho305v7 P) .nil .nil) .nil) (.node (ho241v7 P) .nil .nil)))) (.node (ho25v2 P) (.node (ho41v3 P) (.node (ho73v5 P) (.node (ho137v5 P) (.node (ho265v7 P) .nil .nil) .nil) (.node (ho201v6 P) .nil .nil)) (.node (ho105v5 P) (.node (ho169v6 P) (.node (ho297v7 P) .nil .nil) .nil) (.node (ho233v7 P) .nil .nil))) (.node (ho57v4 P) (.node (ho89v5 P) (.node (ho153v5 P) (.node (ho281v7 P) .nil .nil) .nil) (.node (ho217v6 P) .nil .nil)) (.node (ho121v5 P) (.node (ho185v6 P) (.node (ho313v7 P) .nil .nil) .nil) (.node (ho249v7 P) .nil .nil))))) (.node (ho13v0 P) (.node (ho21v1 P) (.node (ho37v3 P) (.node (ho69v5 P) (.node (ho133v5 P) (.node (ho261v7 P) .nil .nil) .nil) (.node (ho197v6 P) .nil .nil)) (.node (ho101v5 P) (.node (ho165v6 P) (.node (ho293v7 P) .nil .nil) .nil) (.node (ho229v6 P) .nil .nil))) (.node (ho53v3 P) (.node (ho85v5 P) (.node (ho149v5 P) (.node (ho277v7 P) .nil .nil) .nil) (.node (ho213v6 P) .nil .nil)) (.node (ho117v5 P) (.node (ho181v6 P) (.node (ho309v7 P) .nil .nil) .nil) (.node (ho245v7 P) .nil .nil)))) (.node (ho29v2 P) (.node (ho45v3 P) (.node (ho77v5 P) (.node (ho141v5 P) (.node (ho269v7 P) .nil .nil) .nil) (.node (ho205v6 P) .nil .nil)) (.node (ho109v5 P) (.node (ho173v6 P) (.node (ho301v7 P) .nil .nil) .nil) (.node (ho237v7 P) .nil .nil))) (.node (ho61v4 P) (.node (ho93v5 P) (.node (ho157v5 P) (.node (ho285v7 P) .nil .nil) .nil) (.node (ho221v6 P) .nil .nil)) (.node (ho125v5 P) (.node (ho189v6 P) .nil .nil) (.node (ho253v7 P) .nil .nil))))))) (.node (ho2v2 P) (.node (boot_o_4 P) (.node (boot_o_8 P) (.node (ho16v1 P) (.node (ho32v2 P) (.node (ho64v4 P) (.node (ho128v5 P) (.node (ho256v7 P) .nil .nil) .nil) (.node (ho192v6 P) .nil .nil)) (.node (ho96v5 P) (.node (ho160v6 P) (.node (ho288v7 P) .nil .nil) .nil) (.node (ho224v6 P) .nil .nil))) (.node (ho48v3 P) (.node (ho80v5 P) (.node (ho144v5 P) (.node (ho272v7 P) .nil .nil) .nil) (.node (ho208v6 P) .nil .nil)) (.node (ho112v5 P) (.node (ho176v6 P) (.node (ho304v7 P) .nil .nil) .nil) (.node (ho240v7 P) .nil .nil)))) (.node (ho24v2 P) (.node (ho40v3 P) (.node (ho72v5 P) (.node (ho136v5 P) (.node (ho264v7 P) .nil .nil) .nil) (.node (ho200v6 P) .nil .nil)) (.node (ho104v5 P) (.node (ho168v6 P) (.node (ho296v7 P) .nil .nil) .nil) (.node (ho232v7 P) .nil .nil))) (.node (ho56v4 P) (.node (ho88v5 P) (.node (ho152v5 P) (.node (ho280v7 P) .nil .nil) .nil) (.node (ho216v6 P) .nil .nil)) (.node (ho120v5 P) (.node (ho184v6 P) (.node (ho312v7 P) .nil .nil) .nil) (.node (ho248v7 P) .nil .nil))))) (.node (ho12v7 P) (.node (ho20v1 P) (.node (ho36v3 P) (.node (ho68v5 P) (.node (ho132v5 P) (.node (ho260v7 P) .nil .nil) .nil) (.node (ho196v6 P) .nil .nil)) (.node (ho100v5 P) (.node (ho164v6 P) (.node (ho292v7 P) .nil .nil) .nil) (.node (ho228v6 P) .nil .nil))) (.node (ho52v3 P) (.node (ho84v5 P) (.node (ho148v5 P) (.node (ho276v7 P) .nil .nil) .nil) (.node (ho212v6 P) .nil .nil)) (.node (ho116v5 P) (.node (ho180v6 P) (.node (ho308v7 P) .nil .nil) .nil) (.node (ho244v7 P) .nil .nil)))) (.node (ho28v2 P) (.node (ho44v3 P) (.node (ho76v5 P) (.node (ho140v5 P) (.node (ho268v7 P) .nil .nil) .nil) (.node (ho204v6 P) .nil .nil)) (.node (ho108v5 P) (.node (ho172v6 P) (.node (ho300v7 P) .nil .nil) .nil) (.node (ho236v7 P) .nil .nil))) (.node (ho60v4 P) (.node (ho92v5 P) (.node (ho156v5 P) (.node (ho284v7 P) .nil .nil) .nil) (.node (ho220v6 P) .nil .nil)) (.node (ho124v5 P) (.node (ho188v6 P) .nil .nil) (.node (ho252v7 P) .nil .nil)))))) (.node (boot_o_6 P) (.node (boot_o_10 P) (.node (ho18v1 P) (.node (ho34v2 P) (.node (ho66v4 P) (.node (ho130v5 P) (.node (ho258v7 P) .nil .nil) .nil) (.node (ho194v6 P) .nil .nil)) (.node (ho98v5 P) (.node (ho162v6 P) (.node (ho290v7 P) .nil .nil) .nil) (.node (ho226v6 P) .nil .nil))) (.node (ho50v3 P) (.node (ho82v5 P) (.node (ho146v5 P) (.node (ho274v7 P) .nil .nil) .nil) (.node (ho210v6 P) .nil .nil)) (.node (ho114v5 P) (.node (ho178v6 P) (.node (ho306v7 P) .nil .nil) .nil) (.node (ho242v7 P) .nil .nil)))) (.node (ho26v2 P) (.node (ho42v3 P) (.node (ho74v5 P) (.node (ho138v5 P) (.node (ho266v7 P) .nil .nil) .nil) (.node (ho202v6 P) .nil .nil)) (.node (ho106v5 P) (.node (ho170v6 P) (.node (ho298v7 P) .nil .nil) .nil) (.node (ho234v7 P) .nil .nil))) (.node (ho58v4 P) (.node (ho90v5 P) (.node (ho154v5 P) (.node (ho282v7 P) .nil .nil) .nil) (.node (ho218v6 P) .nil .nil)) (.node (ho122v5 P) (.node (ho186v6 P) (.node (ho314v7 P) .nil .nil) .nil) (.node (ho250v7 P) .nil .nil))))) (.node (ho14v0 P) (.node (ho22v2 P) (.node (ho38v3 P) (.node (ho70v5 P) (.node (ho134v5 P) (.node (ho262v7 P) .nil .nil) .nil) (.node (ho198v6 P) .nil .nil)) (.node (ho102v5 P) (.node (ho166v6 P) (.node (ho294v7 P) .nil .nil) .nil) (.node (ho230v6 P) .nil .nil))) (.node (ho54v4 P) (.node (ho86v5 P) (.node (ho150v5 P) (.node (ho278v7 P) .nil .nil) .nil) (.node (ho214v6 P) .nil .nil)) (.node (ho118v5 P) (.node (ho182v6 P) (.node (ho310v7 P) .nil .nil) .nil) (.node (ho246v7 P) .nil .nil)))) (.node (ho30v2 P) (.node (ho46v3 P) (.node (ho78v5 P) (.node (ho142v5 P) (.node (ho270v7 P) .nil .nil) .nil) (.node (ho206v6 P) .nil .nil)) (.node (ho110v5 P) (.node (ho174v6 P) (.node (ho302v7 P) .nil .nil) .nil) (.node (ho238v7 P) .nil .nil))) (.node (ho62v4 P) (.node (ho94v5 P) (.node (ho158v5 P) (.node (ho286v7 P) .nil .nil) .nil) (.node (ho222v6 P) .nil .nil)) (.node (ho126v5 P) (.node (ho190v6 P) .nil .nil) (.node (ho254v7 P) .nil .nil))))))))
/-- cut 7: statements 25 to 37; steps 372 -/
noncomputable def hst7 (w : World) (os : OsState) : SharedT := ⟨htree7 w.params, 315, Life.mk [] [] [] 0 [] [] false #[] [] 0 false false false 0 [2000, 10, 10] false 0 true [] [] 0 false, Array.mk [], Drawn.mk 0 0 0 0, 605, os⟩
noncomputable def hpos7 : Pos := Pos.mk 183 0 192 26
noncomputable def ho3v8 (P : Params) : Obj := Obj.mk (Value.type "dict") none
  (Data.dict
    #[DictEntry.mk (PyData.keyHash P (Str.ofString "__name__")) (Value.str (Str.ofString "__name__") 165)
        (Value.str (Str.ofString "law_rh0079_01") 655),
      DictEntry.mk (PyData.keyHash P (Str.ofString "__doc__")) (Value.str (Str.ofString "__doc__") 166) Value.none,
      DictEntry.mk (PyData.keyHash P (Str.ofString "__package__")) (Value.str (Str.ofString "__package__") 167)
        Value.none,
      DictEntry.mk (PyData.keyHash P (Str.ofString "__loader__")) (Value.str (Str.ofString "__loader__") 168)
        (Value.builtin "__main__.__loader__#opaque"),
      DictEntry.mk (PyData.keyHash P (Str.ofString "__spec__")) (Value.str (Str.ofString "__spec__") 169) Value.none,
      DictEntry.mk (PyData.keyHash P (Str.ofString "__annotations__")) (Value.str (Str.ofString "__annotations__") 170)
        (Value.ref 6),
      DictEntry.mk (PyData.keyHash P (Str.ofString "__builtins__")) (Value.str (Str.ofString "__builtins__") 171)
        (Value.ref 4),
      DictEntry.mk (PyData.keyHash P (Str.ofString "__file__")) (Value.str (Str.ofString "__file__") 173)
        (Value.str (Str.ofString "/claim/cut.py") 172),
      DictEntry.mk (PyData.keyHash P (Str.ofString "__cached__")) (Value.str (Str.ofString "__cached__") 174)
        Value.none,
      DictEntry.mk (PyData.keyHash P (Str.ofString "_wall")) (Value.str (Str.ofString "_wall") 193) (Value.ref 21),
      DictEntry.mk (PyData.keyHash P (Str.ofString "ClausemillError")) (Value.str (Str.ofString "ClausemillError") 215)
        (Value.ref 31),
      DictEntry.mk (PyData.keyHash P (Str.ofString "PrologError")) (Value.str (Str.ofString "PrologError") 240)
        (Value.ref 51),
      DictEntry.mk (PyData.keyHash P (Str.ofString "A_SYSTEM")) (Value.str (Str.ofString "A_SYSTEM") 242)
        (Value.int 25 241),
      DictEntry.mk (PyData.keyHash P (Str.ofString "F_SLASH")) (Value.str (Str.ofString "F_SLASH") 244)
        (Value.int 15 243),
      DictEntry.mk (PyData.keyHash P (Str.ofString "F_ERROR")) (Value.str (Str.ofString "F_ERROR") 246)
        (Value.int 16 245),
      DictEntry.mk (PyData.keyHash P (Str.ofString "fixed_atoms")) (Value.str (Str.ofString "fixed_atoms") 252)
        (Value.ref 60),
      DictEntry.mk (PyData.keyHash P (Str.ofString "fixed_functors")) (Value.str (Str.ofString "fixed_functors") 258)
        (Value.ref 67),
      DictEntry.mk (PyData.keyHash P (Str.ofString "Symbols")) (Value.str (Str.ofString "Symbols") 377) (Value.ref 154),
      DictEntry.mk (PyData.keyHash P (Str.ofString "atom")) (Value.str (Str.ofString "atom") 386) (Value.ref 165),
      DictEntry.mk (PyData.keyHash P (Str.ofString "integer")) (Value.str (Str.ofString "integer") 393) (Value.ref 172),
      DictEntry.mk (PyData.keyHash P (Str.ofString "struct")) (Value.str (Str.ofString "struct") 401) (Value.ref 179),
      DictEntry.mk (PyData.keyHash P (Str.ofString "system_error")) (Value.str (Str.ofString "system_error") 408)
        (Value.ref 186),
      DictEntry.mk (PyData.keyHash P (Str.ofString "formal_of")) (Value.str (Str.ofString "formal_of") 419)
        (Value.ref 193),
      DictEntry.mk (PyData.keyHash P (Str.ofString "instantiation_error"))
        (Value.str (Str.ofString "instantiation_error") 426) (Value.ref 200),
      DictEntry.mk (PyData.keyHash P (Str.ofString "type_error")) (Value.str (Str.ofString "type_error") 435)
        (Value.ref 207),
      DictEntry.mk (PyData.keyHash P (Str.ofString "evaluation_error"))
        (Value.str (Str.ofString "evaluation_error") 443) (Value.ref 214),
      DictEntry.mk (PyData.keyHash P (Str.ofString "resource_error")) (Value.str (Str.ofString "resource_error") 451)
        (Value.ref 221),
      DictEntry.mk (PyData.keyHash P (Str.ofString "UNARY_NAMES")) (Value.str (Str.ofString "UNARY_NAMES") 465)
        (Value.ref 222),
      DictEntry.mk (PyData.keyHash P (Str.ofString "BINARY_NAMES")) (Value.str (Str.ofString "BINARY_NAMES") 484)
        (Value.ref 223),
      DictEntry.mk (PyData.keyHash P (Str.ofString "APPLY")) (Value.str (Str.ofString "APPLY") 486)
        (Value.str (Str.ofString "apply") 485),
      DictEntry.mk (PyData.keyHash P (Str.ofString "not_evaluable")) (Value.str (Str.ofString "not_evaluable") 496)
        (Value.ref 230),
      DictEntry.mk (PyData.keyHash P (Str.ofString "is_evaluable")) (Value.str (Str.ofString "is_evaluable") 504)
        (Value.ref 237),
      DictEntry.mk (PyData.keyHash P (Str.ofString "check_evaluable")) (Value.str (Str.ofString "check_evaluable") 514)
        (Value.ref 244),
      DictEntry.mk (PyData.keyHash P (Str.ofString "check_size")) (Value.str (Str.ofString "check_size") 523)
        (Value.ref 251),
      DictEntry.mk (PyData.keyHash P (Str.ofString "divide_toward_zero"))
        (Value.str (Str.ofString "divide_toward_zero") 532) (Value.ref 258),
      DictEntry.mk (PyData.keyHash P (Str.ofString "remainder")) (Value.str (Str.ofString "remainder") 540)
        (Value.ref 265),
      DictEntry.mk (PyData.keyHash P (Str.ofString "greatest_divisor"))
        (Value.str (Str.ofString "greatest_divisor") 548) (Value.ref 272),
      DictEntry.mk (PyData.keyHash P (Str.ofString "power")) (Value.str (Str.ofString "power") 558) (Value.ref 279),
      DictEntry.mk (PyData.keyHash P (Str.ofString "shift_left")) (Value.str (Str.ofString "shift_left") 568)
        (Value.ref 286),
      DictEntry.mk (PyData.keyHash P (Str.ofString "shift_right")) (Value.str (Str.ofString "shift_right") 578)
        (Value.ref 293),
      DictEntry.mk (PyData.keyHash P (Str.ofString "sign_of")) (Value.str (Str.ofString "sign_of") 585) (Value.ref 300),
      DictEntry.mk (PyData.keyHash P (Str.ofString "apply_unary")) (Value.str (Str.ofString "apply_unary") 594)
        (Value.ref 307),
      DictEntry.mk (PyData.keyHash P (Str.ofString "apply_division")) (Value.str (Str.ofString "apply_division") 604)
        (Value.ref 314),
      DictEntry.mk (PyData.keyHash P (Str.ofString "apply_bits")) (Value.str (Str.ofString "apply_bits") 615)
        (Value.ref 321),
      DictEntry.mk (PyData.keyHash P (Str.ofString "apply_binary")) (Value.str (Str.ofString "apply_binary") 626)
        (Value.ref 328),
      DictEntry.mk (PyData.keyHash P (Str.ofString "apply_functor")) (Value.str (Str.ofString "apply_functor") 640)
        (Value.ref 335),
      DictEntry.mk (PyData.keyHash P (Str.ofString "evaluate_term")) (Value.str (Str.ofString "evaluate_term") 654)
        (Value.ref 342),
      DictEntry.mk (PyData.keyHash P (Str.ofString "_law_draw")) (Value.str (Str.ofString "_law_draw") 665)
        (Value.ref 349),
      DictEntry.mk (PyData.keyHash P (Str.ofString "_law_number")) (Value.str (Str.ofString "_law_number") 674)
        (Value.ref 356),
      DictEntry.mk (PyData.keyHash P (Str.ofString "_law_functor")) (Value.str (Str.ofString "_law_functor") 685)
        (Value.ref 363),
      DictEntry.mk (PyData.keyHash P (Str.ofString "_law_value")) (Value.str (Str.ofString "_law_value") 695)
        (Value.ref 370),
      DictEntry.mk (PyData.keyHash P (Str.ofString "_law_done")) (Value.str (Str.ofString "_law_done") 706)
        (Value.ref 377),
      DictEntry.mk (PyData.keyHash P (Str.ofString "law")) (Value.str (Str.ofString "law") 712) (Value.ref 382)]
    53)
  #[]
noncomputable def ho12v8 (P : Params) : Obj := Obj.mk Value.none none
  (Data.fields
    #[Value.int 1 0, Value.int 0 0, Value.ref 20, Value.int 5 0, Value.int 0 0, Value.ref 27, Value.int 7 0,
      Value.int 0 0, Value.ref 40, Value.int 14 0, Value.int 0 0, Value.ref 59, Value.int 16 0, Value.int 0 0,
      Value.ref 66, Value.int 18 0, Value.int 0 0, Value.ref 73, Value.int 73 0, Value.int 0 0, Value.ref 164,
      Value.int 75 0, Value.int 0 0, Value.ref 171, Value.int 77 0, Value.int 0 0, Value.ref 178, Value.int 79 0,
      Value.int 0 0, Value.ref 185, Value.int 81 0, Value.int 0 0, Value.ref 192, Value.int 86 0, Value.int 0 0,
      Value.ref 199, Value.int 88 0, Value.int 0 0, Value.ref 206, Value.int 90 0, Value.int 0 0, Value.ref 213,
      Value.int 92 0, Value.int 0 0, Value.ref 220, Value.int 98 0, Value.int 0 0, Value.ref 229, Value.int 101 0,
      Value.int 0 0, Value.ref 236, Value.int 107 0, Value.int 0 0, Value.ref 243, Value.int 112 0, Value.int 0 0,
      Value.ref 250, Value.int 116 0, Value.int 0 0, Value.ref 257, Value.int 121 0, Value.int 0 0, Value.ref 264,
      Value.int 123 0, Value.int 0 0, Value.ref 271, Value.int 129 0, Value.int 0 0, Value.ref 278, Value.int 145 0,
      Value.int 0 0, Value.ref 285, Value.int 153 0, Value.int 0 0, Value.ref 292, Value.int 161 0, Value.int 0 0,
      Value.ref 299, Value.int 167 0, Value.int 0 0, Value.ref 306, Value.int 183 0, Value.int 0 0, Value.ref 313,
      Value.int 193 0, Value.int 0 0, Value.ref 320, Value.int 203 0, Value.int 0 0, Value.ref 327, Value.int 225 0,
      Value.int 0 0, Value.ref 334, Value.int 234 0, Value.int 0 0, Value.ref 341, Value.int 255 0, Value.int 0 0,
      Value.ref 348, Value.int 265 0, Value.int 0 0, Value.ref 355, Value.int 271 0, Value.int 0 0, Value.ref 362,
      Value.int 277 0, Value.int 0 0, Value.ref 369, Value.int 282 0, Value.int 0 0, Value.ref 376, Value.int 288 0,
      Value.int 0 0, Value.ref 381])
  #[]
noncomputable def ho315v8 (P : Params) : Obj := Obj.mk (Value.type "tuple") none (Data.seq #[]) #[]
noncomputable def ho316v8 (P : Params) : Obj := Obj.mk Value.none none (Data.fields #[]) #[]
noncomputable def ho317v8 (P : Params) : Obj := Obj.mk (Value.type "tuple") none
  (Data.seq
    #[Value.str (Str.ofString "symbols") 608, Value.str (Str.ofString "text") 609, Value.str (Str.ofString "first") 610,
      Value.str (Str.ofString "second") 611, Value.str (Str.ofString "max_bits") 612])
  #[]
noncomputable def ho318v8 (P : Params) : Obj := Obj.mk (Value.type "tuple") none (Data.seq #[]) #[]
noncomputable def ho319v8 (P : Params) : Obj := Obj.mk Value.none none
  (Data.func
    (FuncData.mk (Str.ofString "apply_bits") (Str.ofString "apply_bits") ha37 hb37 hs37 0 [] Value.none Value.none
      Value.none Value.none none Value.none Value.none 0))
  #[]
noncomputable def ho320v8 (P : Params) : Obj := Obj.mk (Value.type "code") none
  (Data.fields
    #[Value.str (Str.ofString "apply_bits") 605, Value.str (Str.ofString "apply_bits") 606,
      Value.str (Str.ofString "/claim/cut.py") 607, Value.int 193 0, Value.int 5 0, Value.int 0 0, Value.int 0 0,
      Value.int 3 0, Value.ref 315, Value.bool true, Value.int 181 0, Value.ref 316, Value.none, Value.ref 317,
      Value.ref 318, Value.ref 319, Value.int 613 0, Value.int 193 0, Value.str (Str.ofString "/claim/cut.py") 614])
  #[]
noncomputable def ho321v8 (P : Params) : Obj := Obj.mk (Value.type "function") none
  (Data.func
    (FuncData.mk (Str.ofString "apply_bits") (Str.ofString "apply_bits") ha37 hb37 hs37 3 [] Value.none Value.none
      Value.none (Value.str (Str.ofString "clausemill.arith") 452) none (Value.ref 320) Value.none 0))
  #[]
noncomputable def ho322v8 (P : Params) : Obj := Obj.mk (Value.type "tuple") none (Data.seq #[]) #[]
noncomputable def ho323v8 (P : Params) : Obj := Obj.mk Value.none none (Data.fields #[]) #[]
noncomputable def ho324v8 (P : Params) : Obj := Obj.mk (Value.type "tuple") none
  (Data.seq
    #[Value.str (Str.ofString "symbols") 619, Value.str (Str.ofString "text") 620, Value.str (Str.ofString "first") 621,
      Value.str (Str.ofString "second") 622, Value.str (Str.ofString "max_bits") 623])
  #[]
noncomputable def ho325v8 (P : Params) : Obj := Obj.mk (Value.type "tuple") none (Data.seq #[]) #[]
noncomputable def ho326v8 (P : Params) : Obj := Obj.mk Value.none none
  (Data.func
    (FuncData.mk (Str.ofString "apply_binary") (Str.ofString "apply_binary") ha38 hb38 hs38 0 [] Value.none Value.none
      Value.none Value.none none Value.none Value.none 0))
  #[]
noncomputable def ho327v8 (P : Params) : Obj := Obj.mk (Value.type "code") none
  (Data.fields
    #[Value.str (Str.ofString "apply_binary") 616, Value.str (Str.ofString "apply_binary") 617,
      Value.str (Str.ofString "/claim/cut.py") 618, Value.int 203 0, Value.int 5 0, Value.int 0 0, Value.int 0 0,
      Value.int 3 0, Value.ref 322, Value.bool true, Value.int 181 0, Value.ref 323, Value.none, Value.ref 324,
      Value.ref 325, Value.ref 326, Value.int 624 0, Value.int 203 0, Value.str (Str.ofString "/claim/cut.py") 625])
  #[]
noncomputable def ho328v8 (P : Params) : Obj := Obj.mk (Value.type "function") none
  (Data.func
    (FuncData.mk (Str.ofString "apply_binary") (Str.ofString "apply_binary") ha38 hb38 hs38 3 [] Value.none Value.none
      Value.none (Value.str (Str.ofString "clausemill.arith") 452) none (Value.ref 327) Value.none 0))
  #[]
noncomputable def ho329v8 (P : Params) : Obj := Obj.mk (Value.type "tuple") none (Data.seq #[]) #[]
noncomputable def ho330v8 (P : Params) : Obj := Obj.mk Value.none none (Data.fields #[]) #[]
noncomputable def ho331v8 (P : Params) : Obj := Obj.mk (Value.type "tuple") none
  (Data.seq
    #[Value.str (Str.ofString "symbols") 630, Value.str (Str.ofString "functor") 631,
      Value.str (Str.ofString "values") 632, Value.str (Str.ofString "max_bits") 633,
      Value.str (Str.ofString "text") 634, Value.str (Str.ofString "second") 635, Value.str (Str.ofString "value") 636,
      Value.str (Str.ofString "first") 637])
  #[]
noncomputable def ho332v8 (P : Params) : Obj := Obj.mk (Value.type "tuple") none (Data.seq #[]) #[]
noncomputable def ho333v8 (P : Params) : Obj := Obj.mk Value.none none
  (Data.func
    (FuncData.mk (Str.ofString "apply_functor") (Str.ofString "apply_functor") ha39 hb39 hs39 0 [] Value.none Value.none
      Value.none Value.none none Value.none Value.none 0))
  #[]
noncomputable def ho334v8 (P : Params) : Obj := Obj.mk (Value.type "code") none
  (Data.fields
    #[Value.str (Str.ofString "apply_functor") 627, Value.str (Str.ofString "apply_functor") 628,
      Value.str (Str.ofString "/claim/cut.py") 629, Value.int 225 0, Value.int 4 0, Value.int 0 0, Value.int 0 0,
      Value.int 3 0, Value.ref 329, Value.bool true, Value.int 181 0, Value.ref 330, Value.none, Value.ref 331,
      Value.ref 332, Value.ref 333, Value.int 638 0, Value.int 225 0, Value.str (Str.ofString "/claim/cut.py") 639])
  #[]
noncomputable def ho335v8 (P : Params) : Obj := Obj.mk (Value.type "function") none
  (Data.func
    (FuncData.mk (Str.ofString "apply_functor") (Str.ofString "apply_functor") ha39 hb39 hs39 3 [] Value.none Value.none
      Value.none (Value.str (Str.ofString "clausemill.arith") 452) none (Value.ref 334) Value.none 0))
  #[]
noncomputable def ho336v8 (P : Params) : Obj := Obj.mk (Value.type "tuple") none (Data.seq #[]) #[]
noncomputable def ho337v8 (P : Params) : Obj := Obj.mk Value.none none (Data.fields #[]) #[]
noncomputable def ho338v8 (P : Params) : Obj := Obj.mk (Value.type "tuple") none
  (Data.seq
    #[Value.str (Str.ofString "symbols") 644, Value.str (Str.ofString "term") 645,
      Value.str (Str.ofString "max_bits") 646, Value.str (Str.ofString "todo") 647,
      Value.str (Str.ofString "values") 648, Value.str (Str.ofString "item") 649, Value.str (Str.ofString "kind") 650,
      Value.str (Str.ofString "argument") 651])
  #[]
noncomputable def ho339v8 (P : Params) : Obj := Obj.mk (Value.type "tuple") none (Data.seq #[]) #[]
noncomputable def ho340v8 (P : Params) : Obj := Obj.mk Value.none none
  (Data.func
    (FuncData.mk (Str.ofString "evaluate_term") (Str.ofString "evaluate_term") ha40 hb40 hs40 0 [] Value.none Value.none
      Value.none Value.none none Value.none Value.none 0))
  #[]
noncomputable def ho341v8 (P : Params) : Obj := Obj.mk (Value.type "code") none
  (Data.fields
    #[Value.str (Str.ofString "evaluate_term") 641, Value.str (Str.ofString "evaluate_term") 642,
      Value.str (Str.ofString "/claim/cut.py") 643, Value.int 234 0, Value.int 3 0, Value.int 0 0, Value.int 0 0,
      Value.int 3 0, Value.ref 336, Value.bool true, Value.int 181 0, Value.ref 337, Value.none, Value.ref 338,
      Value.ref 339, Value.ref 340, Value.int 652 0, Value.int 234 0, Value.str (Str.ofString "/claim/cut.py") 653])
  #[]
noncomputable def ho342v8 (P : Params) : Obj := Obj.mk (Value.type "function") none
  (Data.func
    (FuncData.mk (Str.ofString "evaluate_term") (Str.ofString "evaluate_term") ha40 hb40 hs40 3 [] Value.none Value.none
      Value.none (Value.str (Str.ofString "clausemill.arith") 452) none (Value.ref 341) Value.none 0))
  #[]
noncomputable def ho343v8 (P : Params) : Obj := Obj.mk (Value.type "tuple") none (Data.seq #[]) #[]
noncomputable def ho344v8 (P : Params) : Obj := Obj.mk Value.none none (Data.fields #[]) #[]
noncomputable def ho345v8 (P : Params) : Obj := Obj.mk (Value.type "tuple") none
  (Data.seq
    #[Value.str (Str.ofString "pool") 660, Value.str (Str.ofString "limit") 661, Value.str (Str.ofString "digit") 662])
  #[]
noncomputable def ho346v8 (P : Params) : Obj := Obj.mk (Value.type "tuple") none (Data.seq #[]) #[]
noncomputable def ho347v8 (P : Params) : Obj := Obj.mk Value.none none
  (Data.func
    (FuncData.mk (Str.ofString "_law_draw") (Str.ofString "_law_draw") ha42 hb42 hs42 0 [] Value.none Value.none
      Value.none Value.none none Value.none Value.none 0))
  #[]
noncomputable def ho348v8 (P : Params) : Obj := Obj.mk (Value.type "code") none
  (Data.fields
    #[Value.str (Str.ofString "_law_draw") 657, Value.str (Str.ofString "_law_draw") 658,
      Value.str (Str.ofString "/claim/cut.py") 659, Value.int 255 0, Value.int 2 0, Value.int 0 0, Value.int 0 0,
      Value.int 3 0, Value.ref 343, Value.bool true, Value.int 181 0, Value.ref 344, Value.none, Value.ref 345,
      Value.ref 346, Value.ref 347, Value.int 663 0, Value.int 255 0, Value.str (Str.ofString "/claim/cut.py") 664])
  #[]
noncomputable def ho349v8 (P : Params) : Obj := Obj.mk (Value.type "function") none
  (Data.func
    (FuncData.mk (Str.ofString "_law_draw") (Str.ofString "_law_draw") ha42 hb42 hs42 3 [] Value.none Value.none
      Value.none (Value.str (Str.ofString "law_rh0079_01") 655) none (Value.ref 348) Value.none 0))
  #[]
noncomputable def ho350v8 (P : Params) : Obj := Obj.mk (Value.type "tuple") none (Data.seq #[]) #[]
noncomputable def ho351v8 (P : Params) : Obj := Obj.mk Value.none none (Data.fields #[]) #[]
noncomputable def ho352v8 (P : Params) : Obj := Obj.mk (Value.type "tuple") none
  (Data.seq
    #[Value.str (Str.ofString "pool") 669, Value.str (Str.ofString "near") 670, Value.str (Str.ofString "edge") 671])
  #[]
noncomputable def ho353v8 (P : Params) : Obj := Obj.mk (Value.type "tuple") none (Data.seq #[]) #[]
noncomputable def ho354v8 (P : Params) : Obj := Obj.mk Value.none none
  (Data.func
    (FuncData.mk (Str.ofString "_law_number") (Str.ofString "_law_number") ha43 hb43 hs43 0 [] Value.none Value.none
      Value.none Value.none none Value.none Value.none 0))
  #[]
noncomputable def ho355v8 (P : Params) : Obj := Obj.mk (Value.type "code") none
  (Data.fields
    #[Value.str (Str.ofString "_law_number") 666, Value.str (Str.ofString "_law_number") 667,
      Value.str (Str.ofString "/claim/cut.py") 668, Value.int 265 0, Value.int 1 0, Value.int 0 0, Value.int 0 0,
      Value.int 3 0, Value.ref 350, Value.bool true, Value.int 181 0, Value.ref 351, Value.none, Value.ref 352,
      Value.ref 353, Value.ref 354, Value.int 672 0, Value.int 265 0, Value.str (Str.ofString "/claim/cut.py") 673])
  #[]
noncomputable def ho356v8 (P : Params) : Obj := Obj.mk (Value.type "function") none
  (Data.func
    (FuncData.mk (Str.ofString "_law_number") (Str.ofString "_law_number") ha43 hb43 hs43 3 [] Value.none Value.none
      Value.none (Value.str (Str.ofString "law_rh0079_01") 655) none (Value.ref 355) Value.none 0))
  #[]
noncomputable def ho357v8 (P : Params) : Obj := Obj.mk (Value.type "tuple") none (Data.seq #[]) #[]
noncomputable def ho358v8 (P : Params) : Obj := Obj.mk Value.none none (Data.fields #[]) #[]
noncomputable def ho359v8 (P : Params) : Obj := Obj.mk (Value.type "tuple") none
  (Data.seq
    #[Value.str (Str.ofString "pool") 678, Value.str (Str.ofString "names") 679, Value.str (Str.ofString "left") 680,
      Value.str (Str.ofString "word") 681, Value.str (Str.ofString "words") 682])
  #[]
noncomputable def ho360v8 (P : Params) : Obj := Obj.mk (Value.type "tuple") none (Data.seq #[]) #[]
noncomputable def ho361v8 (P : Params) : Obj := Obj.mk Value.none none
  (Data.func
    (FuncData.mk (Str.ofString "_law_functor") (Str.ofString "_law_functor") ha44 hb44 hs44 0 [] Value.none Value.none
      Value.none Value.none none Value.none Value.none 0))
  #[]
noncomputable def ho362v8 (P : Params) : Obj := Obj.mk (Value.type "code") none
  (Data.fields
    #[Value.str (Str.ofString "_law_functor") 675, Value.str (Str.ofString "_law_functor") 676,
      Value.str (Str.ofString "/claim/cut.py") 677, Value.int 271 0, Value.int 3 0, Value.int 0 0, Value.int 0 0,
      Value.int 3 0, Value.ref 357, Value.bool true, Value.int 181 0, Value.ref 358, Value.none, Value.ref 359,
      Value.ref 360, Value.ref 361, Value.int 683 0, Value.int 271 0, Value.str (Str.ofString "/claim/cut.py") 684])
  #[]
noncomputable def ho363v8 (P : Params) : Obj := Obj.mk (Value.type "function") none
  (Data.func
    (FuncData.mk (Str.ofString "_law_functor") (Str.ofString "_law_functor") ha44 hb44 hs44 3 [] Value.none Value.none
      Value.none (Value.str (Str.ofString "law_rh0079_01") 655) none (Value.ref 362) Value.none 0))
  #[]
noncomputable def ho364v8 (P : Params) : Obj := Obj.mk (Value.type "tuple") none (Data.seq #[]) #[]
noncomputable def ho365v8 (P : Params) : Obj := Obj.mk Value.none none (Data.fields #[]) #[]
noncomputable def ho366v8 (P : Params) : Obj := Obj.mk (Value.type "tuple") none
  (Data.seq
    #[Value.str (Str.ofString "names") 689, Value.str (Str.ofString "tree") 690, Value.str (Str.ofString "most") 691,
      Value.str (Str.ofString "fault") 692])
  #[]
noncomputable def ho367v8 (P : Params) : Obj := Obj.mk (Value.type "tuple") none (Data.seq #[]) #[]
noncomputable def ho368v8 (P : Params) : Obj := Obj.mk Value.none none
  (Data.func
    (FuncData.mk (Str.ofString "_law_value") (Str.ofString "_law_value") ha45 hb45 hs45 0 [] Value.none Value.none
      Value.none Value.none none Value.none Value.none 0))
  #[]
noncomputable def ho369v8 (P : Params) : Obj := Obj.mk (Value.type "code") none
  (Data.fields
    #[Value.str (Str.ofString "_law_value") 686, Value.str (Str.ofString "_law_value") 687,
      Value.str (Str.ofString "/claim/cut.py") 688, Value.int 277 0, Value.int 3 0, Value.int 0 0, Value.int 0 0,
      Value.int 3 0, Value.ref 364, Value.bool true, Value.int 181 0, Value.ref 365, Value.none, Value.ref 366,
      Value.ref 367, Value.ref 368, Value.int 693 0, Value.int 277 0, Value.str (Str.ofString "/claim/cut.py") 694])
  #[]
noncomputable def ho370v8 (P : Params) : Obj := Obj.mk (Value.type "function") none
  (Data.func
    (FuncData.mk (Str.ofString "_law_value") (Str.ofString "_law_value") ha45 hb45 hs45 3 [] Value.none Value.none
      Value.none (Value.str (Str.ofString "law_rh0079_01") 655) none (Value.ref 369) Value.none 0))
  #[]
noncomputable def ho371v8 (P : Params) : Obj := Obj.mk (Value.type "tuple") none (Data.seq #[]) #[]
noncomputable def ho372v8 (P : Params) : Obj := Obj.mk Value.none none (Data.fields #[]) #[]
noncomputable def ho373v8 (P : Params) : Obj := Obj.mk (Value.type "tuple") none
  (Data.seq
    #[Value.str (Str.ofString "names") 699, Value.str (Str.ofString "shape") 700, Value.str (Str.ofString "values") 701,
      Value.str (Str.ofString "most") 702, Value.str (Str.ofString "fault") 703])
  #[]
noncomputable def ho374v8 (P : Params) : Obj := Obj.mk (Value.type "tuple") none (Data.seq #[]) #[]
noncomputable def ho375v8 (P : Params) : Obj := Obj.mk Value.none none
  (Data.func
    (FuncData.mk (Str.ofString "_law_done") (Str.ofString "_law_done") ha46 hb46 hs46 0 [] Value.none Value.none
      Value.none Value.none none Value.none Value.none 0))
  #[]
noncomputable def ho376v8 (P : Params) : Obj := Obj.mk (Value.type "code") none
  (Data.fields
    #[Value.str (Str.ofString "_law_done") 696, Value.str (Str.ofString "_law_done") 697,
      Value.str (Str.ofString "/claim/cut.py") 698, Value.int 282 0, Value.int 4 0, Value.int 0 0, Value.int 0 0,
      Value.int 3 0, Value.ref 371, Value.bool true, Value.int 181 0, Value.ref 372, Value.none, Value.ref 373,
      Value.ref 374, Value.ref 375, Value.int 704 0, Value.int 282 0, Value.str (Str.ofString "/claim/cut.py") 705])
  #[]
noncomputable def ho377v8 (P : Params) : Obj := Obj.mk (Value.type "function") none
  (Data.func
    (FuncData.mk (Str.ofString "_law_done") (Str.ofString "_law_done") ha46 hb46 hs46 3 [] Value.none Value.none
      Value.none (Value.str (Str.ofString "law_rh0079_01") 655) none (Value.ref 376) Value.none 0))
  #[]
noncomputable def ho378v8 (P : Params) : Obj := Obj.mk (Value.type "tuple") none (Data.seq #[]) #[]
noncomputable def ho379v8 (P : Params) : Obj := Obj.mk Value.none none (Data.fields #[]) #[]
noncomputable def ho380v8 (P : Params) : Obj := Obj.mk Value.none none
  (Data.func
    (FuncData.mk (Str.ofString "law") (Str.ofString "law") ha47 hb47 hs47 0 [] Value.none Value.none Value.none
      Value.none none Value.none Value.none 0))
  #[]
noncomputable def ho381v8 (P : Params) : Obj := Obj.mk (Value.type "code") none
  (Data.fields
    #[Value.str (Str.ofString "law") 707, Value.str (Str.ofString "law") 708,
      Value.str (Str.ofString "/claim/cut.py") 709, Value.int 288 0, Value.int 1 0, Value.int 0 0, Value.int 0 0,
      Value.int 3 0, Value.ref 378, Value.bool true, Value.int 181 0, Value.ref 379, Value.none, Value.none, Value.none,
      Value.ref 380, Value.int 710 0, Value.int 288 0, Value.str (Str.ofString "/claim/cut.py") 711])
  #[]
noncomputable def ho382v8 (P : Params) : Obj := Obj.mk (Value.type "function") none
  (Data.func
    (FuncData.mk (Str.ofString "law") (Str.ofString "law") ha47 hb47 hs47 3 [] Value.none Value.none Value.none
      (Value.str (Str.ofString "law_rh0079_01") 655) none (Value.ref 381) Value.none 0))
  #[]
noncomputable def htree8 (P : Params) : BT := (.node (boot_o_0 P) (.node (boot_o_1 P) (.node (ho3v8 P) (.node (boot_o_7 P) (.node (ho15v1 P) (.node (ho31v3 P) (.node (ho63v4 P) (.node (ho127v5 P) (.node (ho255v7 P) .nil .nil) .nil) (.node (ho191v6 P) (.node (ho319v8 P) .nil .nil) .nil)) (.node (ho95v5 P) (.node (ho159v6 P) (.node (ho287v7 P) .nil .nil) .nil) (.node (ho223v6 P) (.node (ho351v8 P) .nil .nil) .nil))) (.node (ho47v3 P) (.node (ho79v5 P) (.node (ho143v5 P) (.node (ho271v7 P) .nil .nil) .nil) (.node (ho207v6 P) (.node (ho335v8 P) .nil .nil) .nil)) (.node (ho111v5 P) (.node (ho175v6 P) (.node (ho303v7 P) .nil .nil) .nil) (.node (ho239v7 P) (.node (ho367v8 P) .nil .nil) .nil)))) (.node (ho23v2 P) (.node (ho39v3 P) (.node (ho71v5 P) (.node (ho135v5 P) (.node (ho263v7 P) .nil .nil) .nil) (.node (ho199v6 P) (.node (ho327v8 P) .nil .nil) .nil)) (.node (ho103v5 P) (.node (ho167v6 P) (.node (ho295v7 P) .nil .nil) .nil) (.node (ho231v7 P) (.node (ho359v8 P) .nil .nil) .nil))) (.node (ho55v4 P) (.node (ho87v5 P) (.node (ho151v5 P) (.node (ho279v7 P) .nil .nil) .nil) (.node (ho215v6 P) (.node (ho343v8 P) .nil .nil) .nil)) (.node (ho119v5 P) (.node (ho183v6 P) (.node (ho311v7 P) .nil .nil) .nil) (.node (ho247v7 P) (.node (ho375v8 P) .nil .nil) .nil))))) (.node (ho11v0 P) (.node (ho19v1 P) (.node (ho35v3 P) (.node (ho67v4 P) (.node (ho131v5 P) (.node (ho259v7 P) .nil .nil) .nil) (.node (ho195v6 P) (.node (ho323v8 P) .nil .nil) .nil)) (.node (ho99v5 P) (.node (ho163v6 P) (.node (ho291v7 P) .nil .nil) .nil) (.node (ho227v6 P) (.node (ho355v8 P) .nil .nil) .nil))) (.node (ho51v3 P) (.node (ho83v5 P) (.node (ho147v5 P) (.node (ho275v7 P) .nil .nil) .nil) (.node (ho211v6 P) (.node (ho339v8 P) .nil .nil) .nil)) (.node (ho115v5 P) (.node (ho179v6 P) (.node (ho307v7 P) .nil .nil) .nil) (.node (ho243v7 P) (.node (ho371v8 P) .nil .nil) .nil)))) (.node (ho27v2 P) (.node (ho43v3 P) (.node (ho75v5 P) (.node (ho139v5 P) (.node (ho267v7 P) .nil .nil) .nil) (.node (ho203v6 P) (.node (ho331v8 P) .nil .nil) .nil)) (.node (ho107v5 P) (.node (ho171v6 P) (.node (ho299v7 P) .nil .nil) .nil) (.node (ho235v7 P) (.node (ho363v8 P) .nil .nil) .nil))) (.node (ho59v4 P) (.node (ho91v5 P) (.node (ho155v5 P) (.node (ho283v7 P) .nil .nil) .nil) (.node (ho219v6 P) (.node (ho347v8 P) .nil .nil) .nil)) (.node (ho123v5 P) (.node (ho187v6 P) (.node (ho315v8 P) .nil .nil) .nil) (.node (ho251v7 P) (.node (ho379v8 P) .nil .nil) .nil)))))) (.node (boot_o_5 P) (.node (boot_o_9 P) (.node (ho17v1 P) (.node (ho33v2 P) (.node (ho65v4 P) (.node (ho129v5 P) (.node (ho257v7 P) .nil .nil) .nil) (.node (ho193v6 P) (.node (ho321v8 P) .nil .nil) .nil)) (.node (ho97v5 P) (.node (ho161v6 P) (.node (ho289v7 P) .nil .nil) .nil) (.node (ho225v6 P) (.node (ho353v8 P) .nil .nil) .nil))) (.node (ho49v3 P) (.node (ho81v5 P) (.node (ho145v5 P) (.node (ho273v7 P) .nil .nil) .nil) (.node (ho209v6 P) (.node (ho337v8 P) .nil .nil) .nil)) (.node (ho113v5 P) (.node (ho177v6 P) (.node (ho305v7 P) .nil .nil) .nil) (.node (ho241v7 P) (.node (ho369v8 P) .nil .nil) .nil)))) (.node (ho25v2 P) (.node (ho41v3 P) (.node (ho73v5 P) (.node (ho137v5 P) (.node (ho265v7 P) .nil .nil) .nil) (.node (ho201v6 P) (.node (ho329v8 P) .nil .nil) .nil)) (.node (ho105v5 P) (.node (ho169v6 P) (.node (ho297v7 P) .nil .nil) .nil) (.node (ho233v7 P) (.node (ho361v8 P) .nil .nil) .nil))) (.node (ho57v4 P) (.node (ho89v5 P) (.node (ho153v5 P) (.node (ho281v7 P) .nil .nil) .nil) (.node (ho217v6 P) (.node (ho345v8 P) .nil .nil) .nil)) (.node (ho121v5 P) (.node (ho185v6 P) (.node (ho313v7 P) .nil .nil) .nil) (.node (ho249v7 P) (.node (ho377v8 P) .nil .nil) .nil))))) (.node (ho13v0 P) (.node (ho21v1 P) (.node (ho37v3 P) (.node (ho69v5 P) (.node (ho133v5 P) (.node (ho261v7 P) .nil .nil) .nil) (.node (ho197v6 P) (.node (ho325v8 P) .nil .nil) .nil)) (.node (ho101v5 P) (.node (ho165v6 P) (.node (ho293v7 P) .nil .nil) .nil) (.node (ho229v6 P) (.node (ho357v8 P) .nil .nil) .nil))) (.node (ho53v3 P) (.node (ho85v5 P) (.node (ho149v5 P) (.node (ho277v7 P) .nil .nil) .nil) (.node (ho213v6 P) (.node (ho341v8 P) .nil .nil) .nil)) (.node (ho117v5 P) (.node (ho181v6 P) (.node (ho309v7 P) .nil .nil) .nil) (.node (ho245v7 P) (.node (ho373v8 P) .nil .nil) .nil)))) (.node (ho29v2 P) (.node (ho45v3 P) (.node (ho77v5 P) (.node (ho141v5 P) (.node (ho269v7 P) .nil .nil) .nil) (.node (ho205v6 P) (.node (ho333v8 P) .nil .nil) .nil)) (.node (ho109v5 P) (.node (ho173v6 P) (.node (ho301v7 P) .nil .nil) .nil) (.node (ho237v7 P) (.node (ho365v8 P) .nil .nil) .nil))) (.node (ho61v4 P) (.node (ho93v5 P) (.node (ho157v5 P) (.node (ho285v7 P) .nil .nil) .nil) (.node (ho221v6 P) (.node (ho349v8 P) .nil .nil) .nil)) (.node (ho125v5 P) (.node (ho189v6 P) (.node (ho317v8 P) .nil .nil) .nil) (.node (ho253v7 P) (.node (ho381v8 P) .nil .nil) .nil))))))) (.node (ho2v2 P) (.node (boot_o_4 P) (.node (boot_o_8 P) (.node (ho16v1 P) (.node (ho32v2 P) (.node (ho64v4 P) (.node (ho128v5 P) (.node (ho256v7 P) .nil .nil) .nil) (.node (ho192v6 P) (.node (ho320v8 P) .nil .nil) .nil)) (.node (ho96v5 P) (.node (ho160v6 P) (.node (ho288v7 P) .nil .nil) .nil) (.node (ho224v6 P) (.node (ho352v8 P) .nil .nil) .nil))) (.node (ho48v3 P) (.node (ho80v5 P) (.node (ho144v5 P) (.node (ho272v7 P) .nil .nil) .nil) (.node (ho208v6 P) (.node (ho336v8 P) .nil .nil) .nil)) (.node (ho112v5 P) (.node (ho176v6 P) (.node (ho304v7 P) .nil .nil) .nil) (.node (ho240v7 P) (.node (ho368v8 P) .nil .nil) .nil)))) (.node (ho24v2 P) (.node (ho40v3 P) (.node (ho72v5 P) (.node (ho136v5 P) (.node (ho264v7 P) .nil .nil) .nil) (.node (ho200v6 P) (.node (ho328v8 P) .nil .nil) .nil)) (.node (ho104v5 P) (.node (ho168v6 P) (.node (ho296v7 P) .nil .nil) .nil) (.node (ho232v7 P) (.node (ho360v8 P) .nil .nil) .nil))) (.node (ho56v4 P) (.node (ho88v5 P) (.node (ho152v5 P) (.node (ho280v7 P) .nil .nil) .nil) (.node (ho216v6 P) (.node (ho344v8 P) .nil .nil) .nil)) (.node (ho120v5 P) (.node (ho184v6 P) (.node (ho312v7 P) .nil .nil) .nil) (.node (ho248v7 P) (.node (ho376v8 P) .nil .nil) .nil))))) (.node (ho12v8 P) (.node (ho20v1 P) (.node (ho36v3 P) (.node (ho68v5 P) (.node (ho132v5 P) (.node (ho260v7 P) .nil .nil) .nil) (.node (ho196v6 P) (.node (ho324v8 P) .nil .nil) .nil)) (.node (ho100v5 P) (.node (ho164v6 P) (.node (ho292v7 P) .nil .nil) .nil) (.node (ho228v6 P) (.node (ho356v8 P) .nil .nil) .nil))) (.node (ho52v3 P) (.node (ho84v5 P) (.node (ho148v5 P) (.node (ho276v7 P) .nil .nil) .nil) (.node (ho212v6 P) (.node (ho340v8 P) .nil .nil) .nil)) (.node (ho116v5 P) (.node (ho180v6 P) (.node (ho308v7 P) .nil .nil) .nil) (.node (ho244v7 P) (.node (ho372v8 P) .nil .nil) .nil)))) (.node (ho28v2 P) (.node (ho44v3 P) (.node (ho76v5 P) (.node (ho140v5 P) (.node (ho268v7 P) .nil .nil) .nil) (.node (ho204v6 P) (.node (ho332v8 P) .nil .nil) .nil)) (.node (ho108v5 P) (.node (ho172v6 P) (.node (ho300v7 P) .nil .nil) .nil) (.node (ho236v7 P) (.node (ho364v8 P) .nil .nil) .nil))) (.node (ho60v4 P) (.node (ho92v5 P) (.node (ho156v5 P) (.node (ho284v7 P) .nil .nil) .nil) (.node (ho220v6 P) (.node (ho348v8 P) .nil .nil) .nil)) (.node (ho124v5 P) (.node (ho188v6 P) (.node (ho316v8 P) .nil .nil) .nil) (.node (ho252v7 P) (.node (ho380v8 P) .nil .nil) .nil)))))) (.node (boot_o_6 P) (.node (boot_o_10 P) (.node (ho18v1 P) (.node (ho34v2 P) (.node (ho66v4 P) (.node (ho130v5 P) (.node (ho258v7 P) .nil .nil) .nil) (.node (ho194v6 P) (.node (ho322v8 P) .nil .nil) .nil)) (.node (ho98v5 P) (.node (ho162v6 P) (.node (ho290v7 P) .nil .nil) .nil) (.node (ho226v6 P) (.node (ho354v8 P) .nil .nil) .nil))) (.node (ho50v3 P) (.node (ho82v5 P) (.node (ho146v5 P) (.node (ho274v7 P) .nil .nil) .nil) (.node (ho210v6 P) (.node (ho338v8 P) .nil .nil) .nil)) (.node (ho114v5 P) (.node (ho178v6 P) (.node (ho306v7 P) .nil .nil) .nil) (.node (ho242v7 P) (.node (ho370v8 P) .nil .nil) .nil)))) (.node (ho26v2 P) (.node (ho42v3 P) (.node (ho74v5 P) (.node (ho138v5 P) (.node (ho266v7 P) .nil .nil) .nil) (.node (ho202v6 P) (.node (ho330v8 P) .nil .nil) .nil)) (.node (ho106v5 P) (.node (ho170v6 P) (.node (ho298v7 P) .nil .nil) .nil) (.node (ho234v7 P) (.node (ho362v8 P) .nil .nil) .nil))) (.node (ho58v4 P) (.node (ho90v5 P) (.node (ho154v5 P) (.node (ho282v7 P) .nil .nil) .nil) (.node (ho218v6 P) (.node (ho346v8 P) .nil .nil) .nil)) (.node (ho122v5 P) (.node (ho186v6 P) (.node (ho314v7 P) .nil .nil) .nil) (.node (ho250v7 P) (.node (ho378v8 P) .nil .nil) .nil))))) (.node (ho14v0 P) (.node (ho22v2 P) (.node (ho38v3 P) (.node (ho70v5 P) (.node (ho134v5 P) (.node (ho262v7 P) .nil .nil) .nil) (.node (ho198v6 P) (.node (ho326v8 P) .nil .nil) .nil)) (.node (ho102v5 P) (.node (ho166v6 P) (.node (ho294v7 P) .nil .nil) .nil) (.node (ho230v6 P) (.node (ho358v8 P) .nil .nil) .nil))) (.node (ho54v4 P) (.node (ho86v5 P) (.node (ho150v5 P) (.node (ho278v7 P) .nil .nil) .nil) (.node (ho214v6 P) (.node (ho342v8 P) .nil .nil) .nil)) (.node (ho118v5 P) (.node (ho182v6 P) (.node (ho310v7 P) .nil .nil) .nil) (.node (ho246v7 P) (.node (ho374v8 P) .nil .nil) .nil)))) (.node (ho30v2 P) (.node (ho46v3 P) (.node (ho78v5 P) (.node (ho142v5 P) (.node (ho270v7 P) .nil .nil) .nil) (.node (ho206v6 P) (.node (ho334v8 P) .nil .nil) .nil)) (.node (ho110v5 P) (.node (ho174v6 P) (.node (ho302v7 P) .nil .nil) .nil) (.node (ho238v7 P) (.node (ho366v8 P) .nil .nil) .nil))) (.node (ho62v4 P) (.node (ho94v5 P) (.node (ho158v5 P) (.node (ho286v7 P) .nil .nil) .nil) (.node (ho222v6 P) (.node (ho350v8 P) .nil .nil) .nil)) (.node (ho126v5 P) (.node (ho190v6 P) (.node (ho318v8 P) .nil .nil) .nil) (.node (ho254v7 P) (.node (ho382v8 P) .nil .nil) .nil))))))))
/-- cut 8: statements 37 to 48; steps 333 -/
noncomputable def hst8 (w : World) (os : OsState) : SharedT := ⟨htree8 w.params, 383, Life.mk [] [] [] 0 [] [] false #[] [] 0 false false false 0 [2000, 10, 10] false 0 true [] [] 0 false, Array.mk [], Drawn.mk 0 0 0 0, 713, os⟩
noncomputable def hpos8 : Pos := Pos.mk 288 0 317 70
noncomputable def hheap (P : Params) : Heap := ⟨Array.mk [boot_o_0 P, boot_o_1 P, ho2v2 P, ho3v8 P, boot_o_4 P, boot_o_5 P, boot_o_6 P, boot_o_7 P, boot_o_8 P, boot_o_9 P, boot_o_10 P, ho11v0 P, ho12v8 P, ho13v0 P, ho14v0 P, ho15v1 P, ho16v1 P, ho17v1 P, ho18v1 P, ho19v1 P, ho20v1 P, ho21v1 P, ho22v2 P, ho23v2 P, ho24v2 P, ho25v2 P, ho26v2 P, ho27v2 P, ho28v2 P, ho29v2 P, ho30v2 P, ho31v3 P, ho32v2 P, ho33v2 P, ho34v2 P, ho35v3 P, ho36v3 P, ho37v3 P, ho38v3 P, ho39v3 P, ho40v3 P, ho41v3 P, ho42v3 P, ho43v3 P, ho44v3 P, ho45v3 P, ho46v3 P, ho47v3 P, ho48v3 P, ho49v3 P, ho50v3 P, ho51v3 P, ho52v3 P, ho53v3 P, ho54v4 P, ho55v4 P, ho56v4 P, ho57v4 P, ho58v4 P, ho59v4 P, ho60v4 P, ho61v4 P, ho62v4 P, ho63v4 P, ho64v4 P, ho65v4 P, ho66v4 P, ho67v4 P, ho68v5 P, ho69v5 P, ho70v5 P, ho71v5 P, ho72v5 P, ho73v5 P, ho74v5 P, ho75v5 P, ho76v5 P, ho77v5 P, ho78v5 P, ho79v5 P, ho80v5 P, ho81v5 P, ho82v5 P, ho83v5 P, ho84v5 P, ho85v5 P, ho86v5 P, ho87v5 P, ho88v5 P, ho89v5 P, ho90v5 P, ho91v5 P, ho92v5 P, ho93v5 P, ho94v5 P, ho95v5 P, ho96v5 P, ho97v5 P, ho98v5 P, ho99v5 P, ho100v5 P, ho101v5 P, ho102v5 P, ho103v5 P, ho104v5 P, ho105v5 P, ho106v5 P, ho107v5 P, ho108v5 P, ho109v5 P, ho110v5 P, ho111v5 P, ho112v5 P, ho113v5 P, ho114v5 P, ho115v5 P, ho116v5 P, ho117v5 P, ho118v5 P, ho119v5 P, ho120v5 P, ho121v5 P, ho122v5 P, ho123v5 P, ho124v5 P, ho125v5 P, ho126v5 P, ho127v5 P, ho128v5 P, ho129v5 P, ho130v5 P, ho131v5 P, ho132v5 P, ho133v5 P, ho134v5 P, ho135v5 P, ho136v5 P, ho137v5 P, ho138v5 P, ho139v5 P, ho140v5 P, ho141v5 P, ho142v5 P, ho143v5 P, ho144v5 P, ho145v5 P, ho146v5 P, ho147v5 P, ho148v5 P, ho149v5 P, ho150v5 P, ho151v5 P, ho152v5 P, ho153v5 P, ho154v5 P, ho155v5 P, ho156v5 P, ho157v5 P, ho158v5 P, ho159v6 P, ho160v6 P, ho161v6 P, ho162v6 P, ho163v6 P, ho164v6 P, ho165v6 P, ho166v6 P, ho167v6 P, ho168v6 P, ho169v6 P, ho170v6 P, ho171v6 P, ho172v6 P, ho173v6 P, ho174v6 P, ho175v6 P, ho176v6 P, ho177v6 P, ho178v6 P, ho179v6 P, ho180v6 P, ho181v6 P, ho182v6 P, ho183v6 P, ho184v6 P, ho185v6 P, ho186v6 P, ho187v6 P, ho188v6 P, ho189v6 P, ho190v6 P, ho191v6 P, ho192v6 P, ho193v6 P, ho194v6 P, ho195v6 P, ho196v6 P, ho197v6 P, ho198v6 P, ho199v6 P, ho200v6 P, ho201v6 P, ho202v6 P, ho203v6 P, ho204v6 P, ho205v6 P, ho206v6 P, ho207v6 P, ho208v6 P, ho209v6 P, ho210v6 P, ho211v6 P, ho212v6 P, ho213v6 P, ho214v6 P, ho215v6 P, ho216v6 P, ho217v6 P, ho218v6 P, ho219v6 P, ho220v6 P, ho221v6 P, ho222v6 P, ho223v6 P, ho224v6 P, ho225v6 P, ho226v6 P, ho227v6 P, ho228v6 P, ho229v6 P, ho230v6 P, ho231v7 P, ho232v7 P, ho233v7 P, ho234v7 P, ho235v7 P, ho236v7 P, ho237v7 P, ho238v7 P, ho239v7 P, ho240v7 P, ho241v7 P, ho242v7 P, ho243v7 P, ho244v7 P, ho245v7 P, ho246v7 P, ho247v7 P, ho248v7 P, ho249v7 P, ho250v7 P, ho251v7 P, ho252v7 P, ho253v7 P, ho254v7 P, ho255v7 P, ho256v7 P, ho257v7 P, ho258v7 P, ho259v7 P, ho260v7 P, ho261v7 P, ho262v7 P, ho263v7 P, ho264v7 P, ho265v7 P, ho266v7 P, ho267v7 P, ho268v7 P, ho269v7 P, ho270v7 P, ho271v7 P, ho272v7 P, ho273v7 P, ho274v7 P, ho275v7 P, ho276v7 P, ho277v7 P, ho278v7 P, ho279v7 P, ho280v7 P, ho281v7 P, ho282v7 P, ho283v7 P, ho284v7 P, ho285v7 P, ho286v7 P, ho287v7 P, ho288v7 P, ho289v7 P, ho290v7 P, ho291v7 P, ho292v7 P, ho293v7 P, ho294v7 P, ho295v7 P, ho296v7 P, ho297v7 P, ho298v7 P, ho299v7 P, ho300v7 P, ho301v7 P, ho302v7 P, ho303v7 P, ho304v7 P, ho305v7 P, ho306v7 P, ho307v7 P, ho308v7 P, ho309v7 P, ho310v7 P, ho311v7 P, ho312v7 P, ho313v7 P, ho314v7 P, ho315v8 P, ho316v8 P, ho317v8 P, ho318v8 P, ho319v8 P, ho320v8 P, ho321v8 P, ho322v8 P, ho323v8 P, ho324v8 P, ho325v8 P, ho326v8 P, ho327v8 P, ho328v8 P, ho329v8 P, ho330v8 P, ho331v8 P, ho332v8 P, ho333v8 P, ho334v8 P, ho335v8 P, ho336v8 P, ho337v8 P, ho338v8 P, ho339v8 P, ho340v8 P, ho341v8 P, ho342v8 P, ho343v8 P, ho344v8 P, ho345v8 P, ho346v8 P, ho347v8 P, ho348v8 P, ho349v8 P, ho350v8 P, ho351v8 P, ho352v8 P, ho353v8 P, ho354v8 P, ho355v8 P, ho356v8 P, ho357v8 P, ho358v8 P, ho359v8 P, ho360v8 P, ho361v8 P, ho362v8 P, ho363v8 P, ho364v8 P, ho365v8 P, ho366v8 P, ho367v8 P, ho368v8 P, ho369v8 P, ho370v8 P, ho371v8 P, ho372v8 P, ho373v8 P, ho374v8 P, ho375v8 P, ho376v8 P, ho377v8 P, ho378v8 P, ho379v8 P, ho380v8 P, ho381v8 P, ho382v8 P], Life.mk [] [] [] 0 [] [] false #[] [] 0 false false false 0 [2000, 10, 10] false 0 true [] [] 0 false⟩
noncomputable def hp11 (P : Params) : Obj := Obj.mk (Value.type "tuple") none (Data.seq #[]) #[]
noncomputable def hp12 (P : Params) : Obj := Obj.mk Value.none none (Data.fields #[]) #[]
noncomputable def hp13 (P : Params) : Obj := Obj.mk (Value.type "code") none
  (Data.fields
    #[Value.str (Str.ofString "<module>") 182, Value.str (Str.ofString "<module>") 183,
      Value.str (Str.ofString "/claim/cut.py") 184, Value.int 1 0, Value.int 0 0, Value.int 0 0, Value.int 0 0,
      Value.int 0 0, Value.ref 11, Value.bool false, Value.int 181 0, Value.ref 12, Value.none, Value.none, Value.none,
      Value.none, Value.int 185 0, Value.int 1 0, Value.str (Str.ofString "/claim/cut.py") 186])
  #[]
noncomputable def hp14 (P : Params) : Obj := Obj.mk (Value.type "frame") none Data.plain
  #[some (Value.ref 13), some (Value.ref 3), some (Value.ref 3), none, some (Value.str (Str.ofString "__main__") 164),
    none, some (Value.ref 0)]
noncomputable def hpre (P : Params) : Heap := ⟨Array.mk [boot_o_0 P, boot_o_1 P, boot_o_2 P, boot_o_3 P, boot_o_4 P, boot_o_5 P, boot_o_6 P, boot_o_7 P, boot_o_8 P, boot_o_9 P, boot_o_10 P, hp11 P, hp12 P, hp13 P, hp14 P], Life.mk [] [] [] 0 [] [] false #[] [] 0 false false false 0 [2000, 10, 10] false 0 true [] [] 0 false⟩
noncomputable abbrev hFrame : Pos := Pos.mk 0 0 0 0

noncomputable def hEnv : Env := { scope := hPr.main.scope, locals := mainNs, globals := mainNs, cells := [], code := .ref 13, frame := some 14 }
noncomputable def hBody : List Stmt := behindTheImports hPr
noncomputable def hCode : Code := .body hBody hEnv
noncomputable abbrev hBack : List Frame := [topFrame hFrame]
noncomputable abbrev hAnn : Option Value := some (.ref 6)
noncomputable def hg1 : List Stmt := hBody.take 2
noncomputable def hg2 : List Stmt := (hBody.drop 2).take 1
noncomputable def hg3 : List Stmt := (hBody.drop 3).take 1
noncomputable def hg4 : List Stmt := (hBody.drop 4).take 5
noncomputable def hg5 : List Stmt := (hBody.drop 9).take 1
noncomputable def hg6 : List Stmt := (hBody.drop 10).take 15
noncomputable def hg7 : List Stmt := (hBody.drop 25).take 12
noncomputable def hg8 : List Stmt := (hBody.drop 37)
theorem hrun1 (w : World) (os : OsState) : segRunT treeTable hPr w 11 hAnn 1 39 (hst0 w os) (piecesOf hg1 hEnv hCode hpos0 hBack) = some (.next, hst1 w os, hCode, hpos1) := by kernel_rfl
theorem hrun2 (w : World) (os : OsState) : segRunT treeTable hPr w 11 hAnn 1 197 (hst1 w os) (piecesOf hg2 hEnv hCode hpos1 hBack) = some (.next, hst2 w os, hCode, hpos2) := by kernel_rfl
theorem hrun3 (w : World) (os : OsState) : segRunT treeTable hPr w 11 hAnn 1 246 (hst2 w os) (piecesOf hg3 hEnv hCode hpos2 hBack) = some (.next, hst3 w os, hCode, hpos3) := by kernel_rfl
theorem hrun4 (w : World) (os : OsState) : segRunT treeTable hPr w 11 hAnn 1 84 (hst3 w os) (piecesOf hg4 hEnv hCode hpos3 hBack) = some (.next, hst4 w os, hCode, hpos4) := by kernel_rfl
theorem hrun5 (w : World) (os : OsState) : segRunT treeTable hPr w 11 hAnn 1 553 (hst4 w os) (piecesOf hg5 hEnv hCode hpos4 hBack) = some (.next, hst5 w os, hCode, hpos5) := by kernel_rfl
theorem hrun6 (w : World) (os : OsState) : segRunT treeTable hPr w 11 hAnn 1 379 (hst5 w os) (piecesOf hg6 hEnv hCode hpos5 hBack) = some (.next, hst6 w os, hCode, hpos6) := by kernel_rfl
theorem hrun7 (w : World) (os : OsState) : segRunT treeTable hPr w 11 hAnn 1 373 (hst6 w os) (piecesOf hg7 hEnv hCode hpos6 hBack) = some (.next, hst7 w os, hCode, hpos7) := by kernel_rfl
theorem hrun8 (w : World) (os : OsState) : segRunT treeTable hPr w 11 hAnn 1 334 (hst7 w os) (piecesOf hg8 hEnv hCode hpos7 hBack) = some (.next, hst8 w os, hCode, hpos8) := by kernel_rfl
theorem hopen : ∀ w : World, (fencedOpening treeTable hPr w 4520).map (fun s => (s.heap, s.gens, s.drawn, s.toks)) = some (boot_heap w.params, Array.mk [], boot_drawn, boot_toks) :=
  boot_open (by kernel_rfl) (by kernel_rfl) (fun s => by kernel_rfl)
theorem hsize (w : World) : ((boot_heap w.params).isNs mainGlobals && (Array.mk [] : Array GenState).size == 0, (boot_heap w.params).objs.size, (boot_heap w.params).nsMap mainGlobals "__annotations__") = (true, 11, hAnn) := by kernel_rfl
theorem htop (w : World) (os : OsState) : topGo treeTable hPr w 11 hAnn 12 ⟨boot_heap w.params, Array.mk [], boot_drawn, boot_toks, os⟩ (topStub hPr) =
    some (⟨hpre w.params, Array.mk [], boot_drawn, 187, os⟩, ⟨denote treeTable hCode, hCode, hpos0, hBack⟩) := by kernel_rfl
theorem hblock (w : World) (os : OsState) : segRun treeTable hPr w 11 hAnn 1 1 ⟨hpre w.params, Array.mk [], boot_drawn, 187, os⟩ (blockOf hBody hEnv hCode hpos0 hBack) =
    some (.next, (hst0 w os).abs, hCode, hpos0) := by kernel_rfl
theorem hfin (w : World) (os : OsState) : topRun treeTable hPr w 11 hAnn 2 (hst8 w os).abs ⟨doneF .next, hCode, hpos8, hBack⟩ = some ⟨hheap w.params, Array.mk [], Drawn.mk 0 0 0 0, 713, os⟩ := by kernel_rfl
theorem hcut : hBody = hg1 ++ (hg2 ++ (hg3 ++ (hg4 ++ (hg5 ++ (hg6 ++ (hg7 ++ (hg8 ++ []))))))) := by kernel_rfl
theorem hwhole (w : World) (os : OsState) : topRun treeTable hPr w 11 hAnn (12 + (1 + (39 + (197 + (246 + (84 + (553 + (379 + (373 + (334 + 2)))))))))) ⟨boot_heap w.params, Array.mk [], boot_drawn, boot_toks, os⟩ (topStub hPr) =
    some ⟨hheap w.params, Array.mk [], Drawn.mk 0 0 0 0, 713, os⟩ := by
  have k := piece_app (segRun_of (hrun8 w os)) (piece_nil (env := hEnv) (hfin w os))
  have k := piece_app (segRun_of (hrun7 w os)) k
  have k := piece_app (segRun_of (hrun6 w os)) k
  have k := piece_app (segRun_of (hrun5 w os)) k
  have k := piece_app (segRun_of (hrun4 w os)) k
  have k := piece_app (segRun_of (hrun3 w os)) k
  have k := piece_app (segRun_of (hrun2 w os)) k
  have k := piece_app (segRun_of (hrun1 w os)) k
  rw [← hcut] at k
  exact go_top (htop w os) (piece_block (hblock w os) k)
noncomputable def hEnd (w : World) (os : OsState) : Shared := ⟨hheap w.params, Array.mk [], Drawn.mk 0 0 0 0, 713, os⟩
noncomputable abbrev hMods : List Str := importedModules hPr.main.body
theorem hl01 (w : World) : staticsOk hMods (boot_heap w.params) (hheap w.params) = true := by kernel_rfl
theorem hl02 (w : World) : namesBound hPr (hheap w.params) = true := by kernel_rfl
theorem hl03 (w : World) (os : OsState) : gensDone ⟨hheap w.params, Array.mk [], Drawn.mk 0 0 0 0, 713, os⟩ = true := by kernel_rfl
theorem hl04 (w : World) : laidKept (boot_heap w.params) (hheap w.params) = true := by kernel_rfl
theorem hl1 (w : World) (os : OsState) : seen ((recsOf hdV).map (·.name)) (ownsOf hdV) [] { hEnd w os with gens := #[] } = expectedOf hdV := by kernel_rfl
theorem hl2 (w : World) : (hheap w.params).bltView = bltViewBooted := by kernel_rfl
theorem hl31 (w : World) : (hheap w.params).keysOk (looseW hdV []) ((recsOf hdV).map (·.name)) ((litsOf hdV).map (·.1)) ((clssOf hdV (looseW hdV [])).map (·.name)) = true := by kernel_rfl
theorem hl32 (w : World) : (hheap w.params).accountedOkI hMods = true := by kernel_rfl
theorem hl33 (w : World) : (hheap w.params).isNs mainGlobals = true := by kernel_rfl
theorem hl34 (w : World) : (hheap w.params).isNs builtinsNs = true := by kernel_rfl
theorem hl35 (w : World) : tablesOk hdV (hheap w.params) = true := by kernel_rfl
theorem hl36 (w : World) (os : OsState) : xlAt hdV [] (hEnd w os) = true := by kernel_rfl
theorem hl37 (w : World) (os : OsState) : recOk (RowW.records (OpenRow.toRowW PySem.Challenge.rw_rh0079_01.row)) (hEnd w os) = true := by kernel_rfl
theorem hl4 (w : World) (os : OsState) : tabsOk hdV (hEnd w os) = true := by kernel_rfl
theorem hl5 (w : World) (os : OsState) : pinSeenD hdV (drecsOf hdV) (hEnd w os) = pinGoodD (drecsOf hdV) := by kernel_rfl
theorem hl6 (w : World) (os : OsState) : plainSeenE hdV (looseW hdV []) (hEnd w os) = plainGoodE hdV (looseW hdV []) := by kernel_rfl
theorem hl7 (w : World) (os : OsState) : plainSeenD hdV [] (hEnd w os) = plainGoodD hdV [] := by kernel_rfl
theorem hl8 (w : World) (os : OsState) : wideSeen hdV (hEnd w os) = wideGood hdV := by kernel_rfl
theorem hl9 (w : World) (os : OsState) : clsSeenW hdV [] (hEnd w os) = clsGoodW hdV [] := by kernel_rfl
noncomputable abbrev hXt : Shared → Bool := fun s => xlAt hdV [] s && recOk (RowW.records (OpenRow.toRowW PySem.Challenge.rw_rh0079_01.row)) s
theorem pr_eq {α β : Type} {a a' : α} {b b' : β} (x : a = a') (y : b = b') : (a, b) = (a', b') := by rw [x, y]
theorem hseen (w : World) (os : OsState) : openSeen hdV [] hMods hXt true (hEnd w os) = openGood hdV [] := by
  delta openSeen openGood
  exact pr_eq (hl1 w os) (pr_eq (hl2 w) (pr_eq (look_both (look_both (look_both (look_both (look_both (look_both (hl31 w) (hl32 w)) (hl33 w)) (hl34 w)) (hl35 w)) (look_both (hl36 w os) (hl37 w os))) rfl)
    (pr_eq (hl4 w os) (pr_eq (hl5 w os) (pr_eq (hl6 w os) (pr_eq (hl7 w os) (pr_eq (hl8 w os) (hl9 w os))))))))
theorem hleft {K : Params → Frag} {as : List Addr} {e : ∀ P, as = (K P).map (·.1)} (hK : ∀ w : World, as.map (hheap w.params).get? = (K w.params).map fun p => some p.2) :
    LeftO hPr hdV [] hXt (Hook.obs (kHook K as e)) (Hook.val (kHook K as e)) 4520 :=
  LeftO.of_pieces hopen hsize hwhole (by kernel_rfl) fun w => funext fun os =>
    pr_eq (look_both (look_both (look_both (hl01 w) (hl02 w)) (hl03 w os)) (hl04 w)) (pr_eq (hseen w os) (hK w))
theorem law_said : PySem.Challenge.rw_rh0079_01.wellSaid = true := by
  delta OpenLaw.wellSaid
  delta OpenRow.wellSaid
  delta OpenRow.partSaid looksOpen
  (repeat' (with_reducible refine look_both ?_ ?_))
  all_goals decide +kernel
local macro_rules | `(tactic| o_law) => `(tactic| refine holds_law law_said fun said => ?_)
local macro_rules | `(tactic| o_head $H) => `(tactic| (
  refine holds_open (q := hdV) (loose := []) (Xt := fun s => xlAt hdV [] s && recOk (RowW.records (OpenRow.toRowW PySem.Challenge.rw_rh0079_01.row)) s) (XP := XL hdV []) (Yf := Hook.obs $H) (Ya := Hook.val $H) (YP := Hook.says $H) (N := 4520) ?hl (Hook.of $H) (Hook.keeps $H) (fun s e => xl_of s (Bool.and_eq_true_iff.mp e).1) XL.keeps (by rfl) (by rfl) (by rfl) (fun s e => recFacts_of (Bool.and_eq_true_iff.mp e).2) (by first | rfl | fail "open_line: no head takes a call that writes beside a table") (by first | assumption | decide +kernel) (by decide +kernel) ⟨rfl, rfl, rfl, rfl, rfl, by decide +kernel⟩ ?hw ?hc;
  (case hl => exact hleft fun w => by kernel_rfl)))
open_top hd for PySem.Challenge.rw_rh0079_01
end

end
set_option hygiene false
section
theorem walk_off_M0 : True := by
  w_top off
  trivial
open PySem PySem.W PyProof.Rows PySem.Calls
noncomputable abbrev PG : Program := PySem.Challenge.rw_rh0079_01.row.prog

/-- all but the named places stand as they stood -/
noncomputable def Kept (h h' : Heap) (ms : List Addr) : Prop := ∀ b o, h.get? b = some o → b ∉ ms → h'.get? b = some o
theorem Kept.refl (h : Heap) (ms : List Addr) : Kept h h ms := fun _ _ e _ => e
theorem Kept.trans {h₁ h₂ h₃ : Heap} {ms ns : List Addr} (x : Kept h₁ h₂ ms) (y : Kept h₂ h₃ ns) : Kept h₁ h₃ (ms ++ ns) :=
  fun b o e hn => y b o (x b o e fun q => hn (List.mem_append_left _ q)) fun q => hn (List.mem_append_right _ q)
theorem Kept.sub {h h' : Heap} {ms ns : List Addr} (x : Kept h h' ms) (hs : ∀ b ∈ ms, b ∈ ns) : Kept h h' ns := fun b o e hn => x b o e fun q => hn (hs b q)

/-- a frame stands over a change of made things -/
theorem kept_fr {h₀ h h' : Heap} {L : Addr} {m : Str → Option Value} {ms : List Addr} (F : Fr h₀ L h m) (K : Kept h h' ms) (h0 : ∀ b ∈ ms, h₀.get? b = none ∧ b ≠ L) : Fr h₀ L h' m := by
  obtain ⟨oL, es, ep, hL, r⟩ := F.ns
  refine ⟨⟨oL, es, ep, K _ _ hL fun q => (h0 _ q).2 rfl, r⟩, fun b o e => K b o (F.keep b o e) fun q => ?_, F.above⟩
  rw [(h0 _ q).1] at e; cases e
theorem news_h0 {h₀ h : Heap} {L : Addr} {news : List (Addr × Obj)} (N : News h₀ L h news) : ∀ b ∈ news.map (·.1), h₀.get? b = none ∧ b ≠ L := fun b hb => by
  obtain ⟨p, hp, rfl⟩ := List.mem_map.mp hb
  exact ⟨(N p hp).2.2, (N p hp).2.1⟩
theorem kept_news {h₀ h h' : Heap} {L : Addr} {ms : List Addr} {news : List (Addr × Obj)} (N : News h₀ L h news) (K : Kept h h' ms) (hn : ∀ p ∈ news, p.1 ∉ ms) : News h₀ L h' news :=
  fun p hp => ⟨K _ _ (N p hp).1 (hn p hp), (N p hp).2⟩
theorem news_cons {h₀ h : Heap} {L a : Addr} {o : Obj} {news : List (Addr × Obj)} (ha : h.get? a = some o) (hL : a ≠ L) (h0 : h₀.get? a = none) (N : News h₀ L h news) : News h₀ L h ((a, o) :: news) :=
  fun p hp => by
    rcases List.mem_cons.mp hp with rfl | hp
    · exact ⟨ha, hL, h0⟩
    · exact N p hp
/-- what is new to a heap is new to a frame -/
theorem new_to {h₀ h : Heap} {L a : Addr} {m : Str → Option Value} (F : Fr h₀ L h m) (hn : h.get? a = none) : a ≠ L ∧ h₀.get? a = none := by
  refine ⟨fun q => ?_, ?_⟩
  · obtain ⟨oL, es, ep, hL, r⟩ := F.ns
    rw [q, hL] at hn; cases hn
  · cases q : h₀.get? a with
    | none => rfl
    | some o => have := F.keep _ _ q; rw [hn] at this; cases this

/-- a frame's names at its entry, the last one first -/
noncomputable def lk (r : List (Str × Value)) (y : Str) : Option Value := r.lookup y
/-- a return, its state written out -/
theorem leave_ {h₀ g hs hp : Heap} {L L' : Addr} {m m' : Str → Option Value} {news' : List (Addr × Obj)} {ms : List Addr} {R : Result → Shared → Prop} {v : Value} {x1 x2 x3 x4} (F' : Fr g L' hp m' := by k_asm) (N' : News g L' hp news' := by k_asm)
    (k : Fr h₀ L hp m → News h₀ L hp news' → Kept hs hp ms → R (.ok (.ret v)) ⟨hp, x1, x2, x3, x4⟩) : LeaveK h₀ L m g (fun r s' => Kept hs s'.heap ms → R r s') v ⟨hp, x1, x2, x3, x4⟩ := leaveK_ F' N' k
/-- the surroundings and the names' place get short names: they stand in every row of a walk -/
theorem let_AE {M : Model} {A : Around} {b : List Stmt} {env : Env} {Q E} {s : Shared} (h : let A1 := A; let en := env; wpAny M A1 (execs b en) Q E s) : wpAny M A (execs b env) Q E s := h
/-- a row of statements: what comes behind the first gets a short name -/
theorem cons_let {M : Model} {A : Around} {st : Stmt} {rest : List Stmt} {env : Env} {Q : Flow → Shared → Prop} {E : Value → Shared → Prop} {s : Shared} (h : let C : Flow → Shared → Prop := fun f s' => match f with | .next => wpAny M A (execs rest env) Q E s' | f => Q f s'; wpAny M A (exec st env) C E s) : wpAny M A (execs (st :: rest) env) Q E s := wpAny_execs_cons h
section
variable {prog : Program} {w : World} {A₀ A : Around} {s : Shared} {base h₀ : Heap} {outer : List Env} {L : Addr} {m mg mb : Str → Option Value} {env : Env} {news : List (Addr × Obj)} {K : Frag} {p : Program} {loose : List Str} {mean : ExcName → Option Value}
  {R : Result → Shared → Prop} {name qual : Str} {params : Arguments} {body : List Stmt} {scope : Scope} {dV kV doc pm cdv ct oc : Value} {an od : Option Addr} {osl : Array (Option Value)} {f : Addr} {args : Args} {binds rb : List (Str × Value)}
/-- a def is entered; all but the ledger's own places lies frozen in the ground -/
theorem enter_fn (B : Below A₀ base outer h₀) (F : Fr h₀ L s.heap m) (X₀ : K.In h₀) (N : News h₀ L s.heap news) (T : Top p loose mean mg mb h₀)
    (hA : A.frames = some (env :: outer)) (hf : env.frame = some L) (hke : env.scope.kind = .function)
    (ho : K.lookup f = some ⟨oc, od, .func (fnOf name qual params body scope dV kV doc pm an cdv ct), osl⟩) (hcd : codeIn K cdv qual = true) (hroom : A.depth < recursionLimit)
    (hbind : BindsTo s (fnOf name qual params body scope dV kV doc pm an cdv ct) args binds) (hloc : ∀ y ∈ binds, scope.names.lookup y.1 = some .local)
    (hrb : binds.reverse = rb)
    (h : ∀ g L' h₁, Fr g L' h₁ (lk rb) → News g L' h₁ news → Below A base (env :: outer) g → K.In g → Top p loose mean mg mb g → Kept s.heap g (news.map (·.1)) → h₀.StaysIn g → s.heap.objs.size ≤ L' → ∀ tkE,
      wpAny (model prog w) (A.deeper (envOf qual scope L' f cdv)) (execs body (envOf qual scope L' f cdv))
        (fun fl s' => LeaveK h₀ L m g (fun r s' => Kept s.heap s'.heap (news.map (·.1)) → R r s') (match fl with | .ret v => v | _ => .none) s')
        (fun e s' => wpAny (model prog w) (A.deeper (envOf qual scope L' f cdv)) (leaving (envOf qual scope L' f cdv) e) (fun _ s'' => R (.error e) s'') (fun e' s'' => R (.error e') s'') s')
        { s with heap := h₁, toks := tkE })
    (hco : scope.isCoroutine = false) (hgen : scope.isGenerator = false) (hk : scope.kind = .function)
    (hcell : ∀ x ∈ scope.names, x.2 ≠ .cell) : codeAny (model prog w) A (.call (.ref f) args) R s := by
  subst hrb
  obtain ⟨_, BG, st, lv⟩ := groundX (R := fun r s' => Kept s.heap s'.heap (news.map (·.1)) → R r s') B F N hA hf hke
  have kg : Kept s.heap (hideAll s.heap (news.map (·.1))) (news.map (·.1)) := fun b o e hn => hideAll_get _ e hn
  refine codeAny_call_def (fd := fnOf name qual params body scope dV kV doc pm an cdv ct) (body := body) (binds := binds) hroom ((X₀.keeps F.keep) _ _ ho) rfl ((T.nolimit).keeps F.keep) (codeRec_of (X₀.keeps F.keep) hcd) rfl hbind hcell hloc (fun h₁ hns hk₁ => ?_) hco hgen hk
  refine wpAny_mono (h _ s.heap.objs.size h₁ ⟨hns, fun b o e => hk₁ b o (of_hideAll _ e), Nat.le_of_eq (hideAll_size _ _)⟩
    (fun p hp => ⟨hk₁ _ _ (N p hp).1, Nat.ne_of_lt (Heap.lt_size (N p hp).1), hideAll_none _ (List.mem_map_of_mem hp)⟩) BG (X₀.keeps st) (T.keeps st) kg st (Nat.le_refl _) _) (fun fl s' hl => ?_) fun _ _ y => y
  refine lv _ _ hl ?_
  obtain ⟨L', m', news', F', _, _⟩ := hl
  exact fun b o e hn => F'.keep b o (kg b o e hn)
end
end
section
theorem walk_off_M1 : True := by
  w_top off
  trivial
open PySem PySem.W PyProof.Rows PySem.Calls
/-- a call that the walk leaves to me -/
noncomputable def Stop (P : Prop) : Prop := P
theorem stop_call {P : Prop} (h : Stop P) : P := h
theorem stop_ref {M : Model} {A : Around} {f : Addr} {a : List Value} {k : List (Str × Value)} {Q E : Value → Shared → Prop} {s : Shared} (h : Stop (wpAny M A (PySem.call (.ref f) a k) Q E s)) : wpAny M A (PySem.call (.ref f) a k) Q E s := h
end
local macro_rules | `(tactic| walk_at "call ref") => `(tactic| refine stop_ref ?_)
section
end
local macro_rules | `(tactic| walk_at "execs cons") => `(tactic| (first | k_gentoks | ((with_reducible refine cons_let ?_); intro _)))
section
end
local macro_rules | `(tactic| walk_at "LeaveK") => `(tactic| ((try dsimp only); k_dflt (refine leave_ (k := ?_)); intro _ _ _))
section

noncomputable abbrev poolObj (scr : Addr) (x b c : Int) (tx tb tc : Tok) (n : Nat) : Obj := W.listOf #[.ref scr, .int x tx, .int b tb, .int c tc] n
section
variable {w : World} {mean : ExcName → Option Value} {mg mb : Str → Option Value} {A : Around} {env : Env} {outer : List Env} {A₀ : Around} {base h₀ : Heap} {L : Addr} {m : Str → Option Value} {s : Shared} {Q E : Value → Shared → Prop}
  (B : Below A₀ base outer h₀) (F : Fr h₀ L s.heap m) (X : (hd.heap_1 w.params).In h₀) (T : Top hdV (looseW hdV []) mean mg mb h₀)
  (hA : A.frames = some (env :: outer)) (hf : env.frame = some L) (hke : env.scope.kind = .function) (hh : A.handled = none)
include B F X T hA hf hke hh

theorem draw_spec (hdp : A.depth + 1 < recursionLimit) (hun : A.units + 8 < cLine)
    {P scr : Addr} {vs : List Value} {ns : List Int} {x b c : Int} {tx tb tc : Tok} {n : Nat} {lim : Int} {tl : Tok}
    (N : News h₀ L s.heap [(P, poolObj scr x b c tx tb tc n)])
    (hL : s.heap.IsList scr vs.toArray) (hLP : scr ≠ P) (hI : IntsAre vs ns) (hlen : ns.length ≤ 63)
    (hlim : 0 < lim) (hlim2 : lim < 100) (hx : 0 ≤ x) (hb : -1 ≤ b) (hb2 : b < 1000000) (hc : 0 ≤ c) (hc2 : c < 1000000)
    (hret : ∀ (r : Int) (t : Tok) (h' : Heap) (tk' : Nat) (x' b' c' : Int) (tx tb tc : Tok) (n : Nat), Kept s.heap h' [P] → h'.get? P = some (poolObj scr x' b' c' tx tb tc n) → 0 ≤ r → r < lim → 
       0 ≤ x' → -1 ≤ b' → b' ≤ b + 1 → 0 ≤ c' → c' ≤ c + 1 → Q (.int r t) { s with heap := h', toks := tk' }) :
    wpAny (model PySem.Challenge.rw_rh0079_01.row.prog w) A (PySem.call (.ref 349) [.ref P, .int lim tl]) Q E s := by
  revert X; k_fill; intro X
  refine wpAny_call ?_
  obtain ⟨hd0, dp, fr, gd, un⟩ := A
  dsimp only at hA hh hdp hun
  subst hA hh
  k_dflt (refine' enter_fn (rb := [(Str.ofString "limit", .int lim tl), (Str.ofString "pool", .ref P)]) B F X N T ?kA hf hke ?k6 ?k7 ?k8 ?k9 ?kB ?kR ?_ ?c2 ?c3 ?c4 ?c5; (case kA => exact rfl); (case k6 => k_is); (case k7 => k_is); (case k8 => exact Nat.lt_of_succ_lt hdp); (case k9 => exact BindsTo.of_eq rfl); (case kR => exact rfl); (case c5 => decide); (case kB => exact locs rfl); (case c2 => exact rfl); (case c3 => exact rfl); (case c4 => exact rfl); k_whole; intro g' L' h' F' N' B' X' T' K' S' Z' tkE; (try dsimp only); (try k_fold); refine let_AE ?_; intro A1 en)
  have hlen2 : ns.length < 2 ^ 62 := by omega
  have hL' : g'.IsList scr vs.toArray := by obtain ⟨o, ho, r⟩ := hL; exact ⟨o, K' _ _ ho (by simpa using hLP), r⟩
  clear hL
  k_steps
  all_goals (
    (rename News h₀ L _ _ => kN)
    (rename Kept _ _ _ => kK)
    refine hret _ _ _ _ _ _ _ _ _ _ _ kK (kN _ (.head _)).1 (Int.fmod_nonneg_of_pos _ hlim) (Int.fmod_lt_of_pos _ hlim) ?_ ?_ ?_ ?_ ?_)
  all_goals first | omega | skip
  all_goals first | (refine Int.fdiv_nonneg ?_ (Int.le_of_lt hlim); first | omega | (split <;> omega))
end
end
section
local macro_rules | `(tactic| walk_at "no such key") => `(tactic| skip)
theorem walk_off_M2 : True := by
  w_top off
  trivial
open PySem PySem.W PyProof.Rows PySem.Calls
/-- the pool's object, its list in a ground G -/
noncomputable def PoolO (G : Heap) (k : Int) (o : Obj) : Prop :=
  ∃ (scr : Addr) (vs : List Value) (ns : List Int) (x b c : Int) (tx tb tc : Tok) (n : Nat), o = poolObj scr x b c tx tb tc n ∧ G.IsList scr vs.toArray ∧ IntsAre vs ns ∧ ns.length ≤ 63 ∧ 0 ≤ x ∧ -1 ≤ b ∧ b ≤ k ∧ 0 ≤ c ∧ c ≤ k
theorem PoolO.sub {G G' : Heap} {k : Int} {o : Obj} (p : PoolO G k o) (K : ∀ b o, G.get? b = some o → (∃ vs n, o.data = .seq vs n) → G'.get? b = some o) : PoolO G' k o := by
  obtain ⟨scr, vs, ns, x, b, c, tx, tb, tc, n, h1, ⟨o, h2, h3, n', h4⟩, r⟩ := p
  exact ⟨scr, vs, ns, x, b, c, tx, tb, tc, n, h1, ⟨o, K _ _ h2 ⟨_, _, h4⟩, h3, n', h4⟩, r⟩
/-- a ground within the frame's own, without the pool -/
structure Gnd (G g : Heap) (P : Addr) : Prop where
  sub : ∀ b o, G.get? b = some o → g.get? b = some o
  free : G.get? P = none
theorem Gnd.into {G g h : Heap} {P : Addr} (x : Gnd G g P) {ms : List Addr} (K : Kept g h ms) (hm : ∀ b ∈ ms, b = P) : Gnd G h P :=
  ⟨fun b o e => K b o (x.sub b o e) (fun q => by rw [hm b q, x.free] at e; cases e), x.free⟩
theorem Gnd.fr {G g h : Heap} {P : Addr} {L : Addr} {m : Str → Option Value} (x : Gnd G g P) (F : Fr g L h m) : Gnd G h P := ⟨fun b o e => F.keep b o (x.sub b o e), x.free⟩
theorem PoolO.mono {G : Heap} {k k' : Int} {o : Obj} (p : PoolO G k o) (h : k ≤ k') : PoolO G k' o := by
  obtain ⟨scr, vs, ns, x, b, c, tx, tb, tc, n, h1, h2, h3, h4, h5, h6, h7, h8, h9⟩ := p
  exact ⟨scr, vs, ns, x, b, c, tx, tb, tc, n, h1, h2, h3, h4, h5, h6, by omega, h8, by omega⟩
theorem two_pow_le {r : Int} (h : r < 41) : (1 : Int) ≤ 2 ^ r.toNat ∧ (2 : Int) ^ r.toNat ≤ 2 ^ 40 := by
  have h1 : r.toNat ≤ 40 := by omega
  have h2 : (2 : Nat) ^ r.toNat ≤ 2 ^ 40 := Nat.pow_le_pow_right (by decide) h1
  have h3 : (1 : Nat) ≤ 2 ^ r.toNat := Nat.one_le_two_pow
  have e : ((2 ^ r.toNat : Nat) : Int) = (2 : Int) ^ r.toNat := by rw [Int.natCast_pow]; rfl
  exact ⟨by rw [← e]; exact_mod_cast h3, by rw [← e]; exact_mod_cast h2⟩
theorem roomD {n k j : Nat} (h : n + k < recursionLimit) (h1 : 1 + j ≤ k) : n + 1 + j < recursionLimit := by omega
theorem roomU {n k j : Nat} (h : n + k < cLine) (h1 : 3 + j ≤ k) : n + 3 + j < cLine := by omega
theorem room0 {n k : Nat} (h : n + k < recursionLimit) : n < recursionLimit := by omega
section
variable {w : World} {mean : ExcName → Option Value} {mg mb : Str → Option Value} {A : Around} {env : Env} {outer : List Env} {A₀ : Around} {base h₀ : Heap} {L : Addr} {m : Str → Option Value} {s : Shared} {Q E : Value → Shared → Prop}
  (B : Below A₀ base outer h₀) (F : Fr h₀ L s.heap m) (X : (hd.heap_1 w.params).In h₀) (T : Top hdV (looseW hdV []) mean mg mb h₀)
  (hA : A.frames = some (env :: outer)) (hf : env.frame = some L) (hke : env.scope.kind = .function) (hh : A.handled = none)
include B F X T hA hf hke hh

theorem draw_pool (hdp : A.depth + 1 < recursionLimit) (hun : A.units + 8 < cLine) {P : Addr} {G : Heap} {o : Obj} {k : Int} {lim : Int} {tl : Tok} (hP0 : h₀.get? P = none) (hPL : P ≠ L)
    (hG : Gnd G s.heap P) (hP : s.heap.get? P = some o) (p : PoolO G k o) (hk : k < 900000)
    (hlim : 0 < lim) (hlim2 : lim < 100)
    (hret : ∀ (r : Int) (t : Tok) (h' : Heap) (tk' : Nat) (o' : Obj), Kept s.heap h' [P] → h'.get? P = some o' → PoolO G (k + 1) o' → 0 ≤ r → r < lim → Q (.int r t) { s with heap := h', toks := tk' }) :
    wpAny (model PySem.Challenge.rw_rh0079_01.row.prog w) A (PySem.call (.ref 349) [.ref P, .int lim tl]) Q E s := by
  obtain ⟨scr, vs, ns, x, b, c, tx, tb, tc, n, rfl, h2, h4, h5, h6, h7, h8, h9, h10⟩ := p
  have h3 : scr ≠ P := fun q => by obtain ⟨o, ho, _⟩ := h2; rw [q, hG.free] at ho; cases ho
  have h2' : s.heap.IsList scr vs.toArray := let ⟨o, ho, r⟩ := h2; ⟨o, hG.sub _ _ ho, r⟩
  refine draw_spec B F X T hA hf hke hh hdp hun (news_cons hP hPL hP0 News.nil) h2' h3 h4 h5 hlim hlim2 h6 h7 (by omega) h9 (by omega) ?_
  intro r t h' tk' x' b' c' tx tb tc n K g1 g2 g3 g4 g5 g6 g7 g8
  exact hret r t h' tk' _ K g1 ⟨scr, vs, ns, x', b', c', tx, tb, tc, n, rfl, h2, h4, h5, g4, g5, by omega, g7, by omega⟩ g2 g3
end

section
variable {w : World} {mean : ExcName → Option Value} {mg mb : Str → Option Value} {A : Around} {env : Env} {outer : List Env} {A₀ : Around} {base h₀ : Heap} {L : Addr} {m : Str → Option Value} {s : Shared} {Q E : Value → Shared → Prop}
  (B : Below A₀ base outer h₀) (F : Fr h₀ L s.heap m) (X : (hd.heap_1 w.params).In h₀) (T : Top hdV (looseW hdV []) mean mg mb h₀)
  (hA : A.frames = some (env :: outer)) (hf : env.frame = some L) (hke : env.scope.kind = .function) (hh : A.handled = none)
include B F X T hA hf hke hh
theorem number_spec (hdp : A.depth + 2 < recursionLimit) (hun : A.units + 16 < cLine) {P : Addr} {G : Heap} {o : Obj} {k : Int} (hP0 : h₀.get? P = none) (hPL : P ≠ L)
    (hG : Gnd G s.heap P) (hP : s.heap.get? P = some o) (p : PoolO G k o) (hk : k < 800000)
    (hret : ∀ (r : Int) (t : Tok) (h' : Heap) (tk' : Nat) (o' : Obj), Kept s.heap h' [P] → h'.get? P = some o' → PoolO G (k + 4) o' → -(2 ^ 40 + 1) ≤ r → r ≤ 2 ^ 40 + 1 → Q (.int r t) { s with heap := h', toks := tk' }) :
    wpAny (model PySem.Challenge.rw_rh0079_01.row.prog w) A (PySem.call (.ref 356) [.ref P]) Q E s := by
  revert X; k_fill; intro X
  refine wpAny_call ?_
  obtain ⟨hd0, dp, fr, gd, un⟩ := A
  dsimp only at hA hh hdp hun
  subst hA hh
  have N : News h₀ L s.heap [(P, o)] := news_cons hP hPL hP0 News.nil
  k_dflt (refine' enter_fn (rb := [(Str.ofString "pool", .ref P)]) B F X N T ?kA hf hke ?k6 ?k7 ?k8 ?k9 ?kB ?kR ?_ ?c2 ?c3 ?c4 ?c5; (case kA => exact rfl); (case k6 => k_is); (case k7 => k_is); (case k8 => exact room0 hdp); (case k9 => exact BindsTo.of_eq rfl); (case kR => exact rfl); (case c5 => decide); (case kB => exact locs rfl); (case c2 => exact rfl); (case c3 => exact rfl); (case c4 => exact rfl); k_whole; intro g' L' h' F' N' B' X' T' K' S' Z' tkE; (try dsimp only); (try k_fold); refine let_AE ?_; intro A1 en)
  have hGg : Gnd G g' P := hG.into K' (by simp)
  have p' := p
  k_steps
  iterate 6 (all_goals (try (unfold Stop; (rename News _ _ _ _ => kN); (rename PoolO _ _ _ => kp); (rename Fr _ _ _ _ => kF); (rename Gnd _ _ _ => kG); k_dflt (have kPo := (kN _ (.head _))); k_dflt (refine draw_pool (by k_asm) kF (by k_asm) (by k_asm) (by first | rfl | assumption) (by first | rfl | assumption) (by first | rfl | assumption) (by first | rfl | assumption) (roomD (by assumption) (by decide)) (roomU (by assumption) (by decide)) kPo.2.2 kPo.2.1 (Gnd.fr kG kF) kPo.1 kp (by omega) (by decide) (by decide) ?_); intro r9 t9 h9 tk9 o9 K9 ho9 p9 hr9 hs9; k_dflt (have F9 := kept_fr kF K9 (by simp only [List.mem_singleton, forall_eq]; exact ⟨kPo.2.2, kPo.2.1⟩)); k_dflt (have N9 := news_cons ho9 kPo.2.1 kPo.2.2 News.nil); clear kN kp kF kPo ho9 K9; k_steps)))
  all_goals (
    (rename News h₀ L _ _ => kN)
    (rename Kept _ _ _ => kK)
    (rename PoolO _ _ _ => kp)
    refine hret _ _ _ _ _ kK (kN _ (.head _)).1 (kp.mono (by omega)) ?_ ?_)
  all_goals first | omega | ((rename_i _ _ _ _ _ _ _ _); first | omega | skip)
  all_goals (have h2 := two_pow_le (by assumption); omega)
end
end
section
theorem walk_off_M3 : True := by
  w_top off
  trivial
open PySem PySem.W PyProof.Rows PySem.Calls
/-- the place of x in l as an int, or -1 -/
noncomputable def numOf {α : Type} [DecidableEq α] (l : List α) (x : α) : Int := if x ∈ l then (l.idxOf x : Int) else -1
noncomputable def addNew {α : Type} [DecidableEq α] (l : List α) (x : α) : List α := if x ∈ l then l else l ++ [x]
theorem numOf_mem {α : Type} [DecidableEq α] {l : List α} {x : α} (h : x ∈ l) : numOf l x = (l.idxOf x : Int) := if_pos h
theorem numOf_not {α : Type} [DecidableEq α] {l : List α} {x : α} (h : x ∉ l) : numOf l x = -1 := if_neg h
theorem numOf_nonneg {α : Type} [DecidableEq α] {l : List α} {x : α} (h : 0 ≤ numOf l x) : x ∈ l := by
  unfold numOf at h; split at h
  · assumption
  · omega
theorem numOf_neg {α : Type} [DecidableEq α] {l : List α} {x : α} (h : ¬ 0 ≤ numOf l x) : x ∉ l := fun q => by
  rw [numOf_mem q] at h; omega
theorem addNew_mem {α : Type} [DecidableEq α] {l : List α} {x : α} (h : x ∈ l) : addNew l x = l := if_pos h
theorem addNew_not {α : Type} [DecidableEq α] {l : List α} {x : α} (h : x ∉ l) : addNew l x = l ++ [x] := if_neg h
theorem addNew_has {α : Type} [DecidableEq α] (l : List α) (x : α) : x ∈ addNew l x := by
  unfold addNew; split
  · assumption
  · simp
theorem addNew_length {α : Type} [DecidableEq α] (l : List α) (x : α) : (addNew l x).length ≤ l.length + 1 := by
  unfold addNew; split <;> simp
theorem numOf_new {α : Type} [DecidableEq α] {l : List α} {x : α} (h : x ∉ l) : numOf (l ++ [x]) x = (l.length : Int) := by
  rw [numOf_mem (by simp), List.idxOf_append, if_neg h]; simp
theorem numOf_append {α : Type} [DecidableEq α] {l r : List α} {x : α} (h : x ∈ l) : numOf (l ++ r) x = numOf l x := by
  rw [numOf_mem (by simp [h]), numOf_mem h, List.idxOf_append, if_pos h]
theorem numOf_at {α : Type} [DecidableEq α] {l : List α} {x : α} (h : x ∈ l) : ∃ i, l[i]? = some x ∧ i < l.length ∧ numOf l x = (i : Int) := by
  have hi : l.idxOf x < l.length := List.idxOf_lt_length_iff.mpr h
  exact ⟨l.idxOf x, by rw [List.getElem?_eq_getElem hi]; simp, hi, numOf_mem h⟩
theorem addNew_prefix {α : Type} [DecidableEq α] (l : List α) (x : α) : ∃ r, addNew l x = l ++ r := by
  unfold addNew; split
  · exact ⟨[], by simp⟩
  · exact ⟨[x], rfl⟩
theorem addNew_nodup {α : Type} [DecidableEq α] {l : List α} (h : l.Nodup) (x : α) : (addNew l x).Nodup := by
  unfold addNew; split
  · exact h
  · rename_i hx; rw [List.nodup_append]; exact ⟨h, by simp, by intro a ha b hb; simp at hb; subst hb; exact fun q => hx (q ▸ ha)⟩

section
variable {w : World}
noncomputable abbrev kS (w : World) := PySem.strKind PySem.Challenge.rw_rh0079_01.row.prog w
noncomputable abbrev kI (w : World) := PySem.intKind PySem.Challenge.rw_rh0079_01.row.prog w
noncomputable abbrev kT (w : World) := PySem.tupleKind (kI w)
/-- values that number their places -/
noncomputable def NumVals (vs : List Value) : Prop := ∀ (i : Nat) (v : Value), vs[i]? = some v → ∃ t, v = .int i t
theorem NumVals.snoc {vs : List Value} (h : NumVals vs) (t : Tok) {k : Int} (e : (vs.length : Int) = k) : NumVals (vs ++ [.int k t]) := fun i v hv => by
  by_cases hi : i < vs.length
  · rw [List.getElem?_append_left hi] at hv; exact h i v hv
  · rw [List.getElem?_append_right (by omega)] at hv
    have hi' : i - vs.length = 0 := by
      cases q : i - vs.length with
      | zero => rfl
      | succ n => rw [q] at hv; simp at hv
    rw [hi'] at hv; simp at hv; subst hv; subst e
    exact ⟨t, by congr 1; omega⟩
noncomputable def AtomO (w : World) (o : Obj) (tx : List Str) : Prop := ∃ kvs : List (Str × Value), o.IsDictOf (kS w) kvs ∧ kvs.map (·.1) = tx ∧ NumVals (kvs.map (·.2))
theorem AtomO.exact {o : Obj} {tx : List Str} (h : AtomO w o tx) : o.ExactDict := let ⟨_, ⟨_, _, e, _⟩, _⟩ := h; e
theorem AtomO.value {kvs : List (Str × Value)} {tx : List Str} (hn : tx.Nodup) (h1 : kvs.map (·.1) = tx) (h2 : NumVals (kvs.map (·.2))) (x : Str) (t : Tok) :
    ∃ t', (valueAt kvs x).getD (.int (-1) t) = .int (numOf tx x) t' := by
  by_cases hx : x ∈ tx
  · obtain ⟨i, hi, hl, hno⟩ := numOf_at hx
    have hi2 : i < kvs.length := by rw [← h1] at hl; simpa using hl
    have e1 : kvs[i]?.map (·.1) = some x := by rw [← List.getElem?_map, h1, hi]
    obtain ⟨⟨a, v⟩, hv⟩ : ∃ p, kvs[i]? = some p := ⟨_, List.getElem?_eq_getElem hi2⟩
    rw [hv] at e1; simp at e1; subst e1
    obtain ⟨t', rfl⟩ := h2 i v (by rw [List.getElem?_map, hv]; rfl)
    refine ⟨t', ?_⟩
    rw [valueAt_of_get (by rw [h1]; exact hn) hv, hno]; rfl
  · refine ⟨t, ?_⟩
    rw [numOf_not hx]
    have : valueAt kvs x = none := by
      unfold valueAt
      rw [List.find?_eq_none.mpr]
      · rfl
      · intro p hp; simp only [decide_eq_true_eq]; rintro rfl; exact hx (h1 ▸ List.mem_map_of_mem hp)
    rw [this]; rfl

noncomputable def FnO (w : World) (o : Obj) (xs : List (List Int × Addr × Value)) : Prop := ∃ es ep, o.ExactDict ∧ o.data = .dict es ep ∧ es.toList = xs.map (entryOfKey (kT w)) ∧ (xs.map (·.1)).Nodup
theorem FnO.exact {o : Obj} {xs : List (List Int × Addr × Value)} (h : FnO w o xs) : o.ExactDict := let ⟨_, _, e, _⟩ := h; e
noncomputable def keysOf (fs : List (Int × Int)) : List (List Int) := fs.map fun p => [p.1, p.2]
structure FnX (xs : List (List Int × Addr × Value)) (fs : List (Int × Int)) : Prop where
  keys : xs.map (·.1) = keysOf fs
  vals : NumVals (xs.map (·.2.2))
theorem keysOf_mem {fs : List (Int × Int)} {a k : Int} : [a, k] ∈ keysOf fs ↔ (a, k) ∈ fs := by
  simp only [keysOf, List.mem_map]
  constructor
  · rintro ⟨⟨x, y⟩, h, e⟩; simp at e; obtain ⟨rfl, rfl⟩ := e; exact h
  · exact fun h => ⟨_, h, rfl⟩
theorem keysOf_nodup {fs : List (Int × Int)} (h : fs.Nodup) : (keysOf fs).Nodup := by
  unfold keysOf
  refine List.Pairwise.map _ ?_ h
  rintro ⟨a, b⟩ ⟨c, d⟩ hne e; simp at e; exact hne (by simp [e])
theorem FnX.len {xs : List (List Int × Addr × Value)} {fs : List (Int × Int)} (h : FnX xs fs) : xs.length = fs.length := by
  have := congrArg List.length h.keys; simpa [keysOf] using this
theorem FnX.value {xs : List (List Int × Addr × Value)} {fs : List (Int × Int)} (h : FnX xs fs) (hn : fs.Nodup) (a k : Int) (t : Tok) :
    ∃ t', ((atKey xs [a, k]).map (·.2)).getD (.int (-1) t) = .int (numOf fs (a, k)) t' := by
  by_cases hx : (a, k) ∈ fs
  · obtain ⟨i, hi, hl, hno⟩ := numOf_at hx
    have hi2 : i < xs.length := by rw [h.len]; exact hl
    obtain ⟨⟨ky, ad, v⟩, hv⟩ : ∃ p, xs[i]? = some p := ⟨_, List.getElem?_eq_getElem hi2⟩
    have e1 : xs[i]?.map (·.1) = some [a, k] := by
      rw [← List.getElem?_map, h.keys, keysOf, List.getElem?_map, hi]; rfl
    rw [hv] at e1; simp at e1; subst e1
    obtain ⟨t', rfl⟩ := h.vals i v (by rw [List.getElem?_map, hv]; rfl)
    refine ⟨t', ?_⟩
    rw [atKey_of_get (by rw [h.keys]; exact keysOf_nodup hn) hv, hno]; rfl
  · refine ⟨t, ?_⟩
    rw [numOf_not hx]
    have : atKey xs [a, k] = none := atKey_none_of_get fun j p hj => hx (keysOf_mem.mp (h.keys ▸ List.mem_map.mpr ⟨_, List.mem_of_getElem? hj, rfl⟩))
    rw [this]; rfl
end

section
variable {w : World} {A : Around} {h₀ : Heap} {L : Addr} {m : Str → Option Value} {s : Shared} {E : Value → Shared → Prop} {news : List (Addr × Obj)} {d : Addr} {o : Obj} {gl : Obj → List (Addr × Obj)}
theorem getM_dict {pl : Sem Bool} {Q : Value × List Value → Shared → Prop} (N : News h₀ L s.heap news := by k_asm) (hm : (d, o) ∈ news := by k_mem) (hx : o.ExactDict := by assumption) (h : Q (.builtin "dict.get", [.ref d]) s) :
    wpAny (model PySem.Challenge.rw_rh0079_01.row.prog w) A (getMethod (.ref d) "get" pl) Q E s :=
  getMethod_builtin ⟨o, (N _ hm).1, hx.1⟩ PySem.F.plainAttrs_dict PySem.F.slot_dict_get PySem.F.type_dict_get (fun b e => by injection e with e; subst e; exact ⟨o, (N _ hm).1, hx.2.1⟩) h
theorem getAtom {Q : Value → Shared → Prop} {tx : List Str} {x : Str} {t t' : Tok} (N : News h₀ L s.heap news := by k_asm) (hm : (d, o) ∈ news := by k_mem) (lo : (d == sysModules) = false := by assumption) (ho : AtomO w o tx := by assumption) (hn : tx.Nodup := by assumption)
    (h : ∀ tk, Q (.int (numOf tx x) tk) { s with toks := s.toks + 1 }) : wpAny (model PySem.Challenge.rw_rh0079_01.row.prog w) A (PySem.call (.builtin "dict.get") [.ref d, .str x t, .int (-1) t']) Q E s := by
  obtain ⟨kvs, hd, h1, h2⟩ := ho
  have hD : s.heap.DictOf (kS w) d kvs := Heap.dictOf_iff.mpr ⟨o, (N _ hm).1, hd⟩
  have hty : s.TypeIs (.ref d) "dict" := let ⟨_, _, e, _⟩ := hd; ⟨o, (N _ hm).1, e.1⟩
  obtain ⟨tk, e⟩ := AtomO.value hn h1 h2 x t'
  refine call_meetsIn PySem.F.slot_dict_get hty PySem.F.entry_dict_get (PySem.F.args_dict_get_3 _ _ _) (meets_dict_get_default (kS w) d (strKind_is _ w x t) lo (.int (-1) t')) ⟨_, hD.mapOf, ?_⟩
  show Q ((valueAt kvs x).getD (.int (-1) t')) _
  rw [e]; exact h tk
theorem setAtom {Q : Unit → Shared → Prop} {tx : List Str} {x : Str} {t t' : Tok} {k : Int} (F : Fr h₀ L s.heap m := by k_asm) (N : News h₀ L s.heap news := by k_asm) (U : UpdF d o news gl := by k_updF) (ho : AtomO w o tx := by assumption) (hx : x ∉ tx := by exact numOf_neg (by assumption)) (hk : (tx.length : Int) = k := by rfl)
    (hsz : tx.length ≤ 100000 := by exact Nat.le_trans (Nat.le_of_lt (by assumption)) (Nat.le_of_ble_eq_true rfl))
    (h : ∀ h' o', Fr h₀ L h' m → News h₀ L h' (gl o') → AtomO w o' (tx ++ [x]) → Q () { s with heap := h', toks := s.toks + 1 }) :
    wpAny (model PySem.Challenge.rw_rh0079_01.row.prog w) A (setItem (.ref d) (.str x t) (.int k t')) Q E s := by
  obtain ⟨pre, post, rfl, hg, h1, h2⟩ := U.split
  obtain ⟨kvs, hd, e1, e2⟩ := ho
  have hmem := N (d, o) (List.mem_append_right _ (.head _))
  have hD : s.heap.DictOf (kS w) d kvs := Heap.dictOf_iff.mpr ⟨o, hmem.1, hd⟩
  have hlen : kvs.length = tx.length := by rw [← e1]; simp
  refine wpAny_setItem_pairs (knd := kS w) (strKind_is _ w x t) hD (fun h' hD' hs => ?_) (by rw [hlen, sizeLine_eq]; omega)
  obtain ⟨o', ho', hd'⟩ := Heap.dictOf_iff.mp hD'
  have hst : stored kvs x (.int k t') = kvs ++ [(x, .int k t')] := by
    unfold stored
    rw [if_neg]
    simp only [List.any_eq_true, decide_eq_true_eq, not_exists, not_and]
    rintro p hp rfl; exact hx (e1 ▸ List.mem_map_of_mem hp)
  rw [hst] at hd'
  refine h h' o' ⟨F.ns.sameBut hs (Ne.symm hmem.2.1), fun b ob e => (hs.2 b (fun q => ?_)).trans (F.keep b ob e), F.above⟩ (hg o' ▸ N.setAt h1 h2 hs ho') ⟨_, hd', by simp [e1], ?_⟩
  · rw [q, hmem.2.2] at e; cases e
  · rw [List.map_append]; exact e2.snoc t' (by simpa [hlen] using hk)
theorem getFn {Q : Value → Shared → Prop} {xs : List (List Int × Addr × Value)} {fs : List (Int × Int)} {x y : Int} {a : Addr} {t' : Tok} (N : News h₀ L s.heap news) (hm : (d, o) ∈ news) (lo : (d == sysModules) = false) (ho : FnO w o xs) (hX : FnX xs fs) (hn : fs.Nodup)
    (hk : ∀ p ∈ xs, IsTupleKey (kI w) s.heap p.1 p.2.1) (hkey : IsTupleKey (kI w) s.heap [x, y] a) (hu : A.units + 1 < cLine)
    (h : ∀ tk, Q (.int (numOf fs (x, y)) tk) { s with toks := s.toks + 3 }) : wpAny (model PySem.Challenge.rw_rh0079_01.row.prog w) A (PySem.call (.builtin "dict.get") [.ref d, .ref a, .int (-1) t']) Q E s := by
  obtain ⟨es, ep, hx, hd, he, hnd⟩ := ho
  have hD : s.heap.DictOfH (kT w) d xs := ⟨o, es, ep, (N _ hm).1, hx, hd, he, hk, hnd⟩
  obtain ⟨tk, e⟩ := hX.value hn x y t'
  refine call_meetsIn PySem.F.slot_dict_get hD.typeIs PySem.F.entry_dict_get (PySem.F.args_dict_get_3 _ _ _) (meetsH_dict_get_default (kT w) d a lo (.int (-1) t')) ⟨hu, [x, y], xs, hkey, hD, ?_⟩
  show Q (((atKey xs [x, y]).map (·.2)).getD (.int (-1) t')) _
  rw [e]; exact h tk
theorem setFn {Q : Unit → Shared → Prop} {xs : List (List Int × Addr × Value)} {fs : List (Int × Int)} {x y : Int} {a : Addr} {k : Int} {t' : Tok} (F : Fr h₀ L s.heap m) (N : News h₀ L s.heap news) (U : UpdF d o news gl) (ho : FnO w o xs) (hX : FnX xs fs)
    (hk : ∀ p ∈ xs, IsTupleKey (kI w) s.heap p.1 p.2.1) (hkey : IsTupleKey (kI w) s.heap [x, y] a) (hnew : (x, y) ∉ fs) (hkk : (fs.length : Int) = k) (hu : A.units + 1 < cLine) (hsz : fs.length ≤ 100000)
    (h : ∀ h' o', Fr h₀ L h' m → News h₀ L h' (gl o') → FnO w o' (xs ++ [([x, y], a, .int k t')]) → FnX (xs ++ [([x, y], a, .int k t')]) (fs ++ [(x, y)]) → Q () { s with heap := h', toks := s.toks + 3 }) :
    wpAny (model PySem.Challenge.rw_rh0079_01.row.prog w) A (setItem (.ref d) (.ref a) (.int k t')) Q E s := by
  obtain ⟨pre, post, rfl, hg, h1, h2⟩ := U.split
  obtain ⟨es, ep, hx, hd, he, hnd⟩ := ho
  have hmem := N (d, o) (List.mem_append_right _ (.head _))
  have hD : s.heap.DictOfH (kT w) d xs := ⟨o, es, ep, hmem.1, hx, hd, he, hk, hnd⟩
  refine wpAny_setItem_heap (knd := kT w) (k := [x, y]) hu hkey hD (fun h' hD' hs => ?_) (by rw [hX.len, sizeLine_eq]; omega)
  have hno : atKey xs [x, y] = none := atKey_none_of_get fun j p hj => hnew (keysOf_mem.mp (hX.keys ▸ List.mem_map.mpr ⟨_, List.mem_of_getElem? hj, rfl⟩))
  rw [storedH_new hno] at hD'
  obtain ⟨o', es', ep', ho', hx', hd', he', hk', hnd'⟩ := hD'
  refine h h' o' ⟨F.ns.sameBut hs (Ne.symm hmem.2.1), fun b ob e => (hs.2 b (fun q => ?_)).trans (F.keep b ob e), F.above⟩ (hg o' ▸ N.setAt h1 h2 hs ho') ⟨es', ep', hx', hd', he', hnd'⟩ ⟨?_, ?_⟩
  · rw [q, hmem.2.2] at e; cases e
  · rw [List.map_append, hX.keys]; simp [keysOf]
  · rw [List.map_append]; exact hX.vals.snoc t' (by simpa [hX.len] using hkk)
end
end
section
theorem walk_off_M4 : True := by
  w_top off
  trivial
open PySem PySem.W PyProof.Rows PySem.Calls
structure SA where
  (S dS T AN F FN : Nat)
  (t1 t2 t3 t4 : Tok)
  n : Nat
noncomputable def SA.all (z : SA) : List Addr := [z.S, z.dS, z.T, z.AN, z.F, z.FN]
noncomputable abbrev symDict (w : World) (z : SA) : Obj := dictOf [⟨PyData.keyHash w.params (Str.ofString "texts"), .str (Str.ofString "texts") z.t1, .ref z.T⟩, ⟨PyData.keyHash w.params (Str.ofString "atom_numbers"), .str (Str.ofString "atom_numbers") z.t2, .ref z.AN⟩,
  ⟨PyData.keyHash w.params (Str.ofString "functors"), .str (Str.ofString "functors") z.t3, .ref z.F⟩, ⟨PyData.keyHash w.params (Str.ofString "functor_numbers"), .str (Str.ofString "functor_numbers") z.t4, .ref z.FN⟩] z.n
noncomputable abbrev fnList (xs : List (List Int × Addr × Value)) (n : Nat) : Obj := W.listOf (xs.map fun p => Value.ref p.2.1).toArray n
structure SymH (w : World) (h : Heap) (z : SA) (tx : List Str) (fs : List (Int × Int)) : Prop where
  oS : h.get? z.S = some (instObj 154 z.dS)
  odS : h.get? z.dS = some (symDict w z)
  oT : ∃ vs n, h.get? z.T = some (W.listOf vs.toArray n) ∧ StrsAre vs tx
  oAN : ∃ o, h.get? z.AN = some o ∧ AtomO w o tx
  oF : ∃ o xs n, h.get? z.FN = some o ∧ FnO w o xs ∧ FnX xs fs ∧ (∀ p ∈ xs, IsTupleKey (kI w) h p.1 p.2.1) ∧ h.get? z.F = some (fnList xs n)
  nd : z.all.Nodup
  lo1 : (z.AN == sysModules) = false
  lo2 : (z.FN == sysModules) = false
  tn : tx.Nodup
  fn : fs.Nodup
noncomputable def SA.mods (z : SA) : List Addr := [z.T, z.AN, z.F, z.FN]
noncomputable def Fresh (h₀ : Heap) (L : Addr) (z : SA) : Prop := ∀ a ∈ z.mods, h₀.get? a = none ∧ a ≠ L
theorem inst_fr {g h : Heap} {L : Addr} {m : Str → Option Value} {x C dx : Addr} {od : Obj} (F : Fr g L h m) (h1 : g.get? x = some (instObj C dx)) (h2 : g.get? dx = some od) : InstAt h x (instObj C dx) C (some od) := ⟨F.keep _ _ h1, rfl, rfl, F.keep _ _ h2⟩
theorem SymH.ne {w : World} {h : Heap} {z : SA} {tx : List Str} {fs : List (Int × Int)} (Y : SymH w h z tx fs) :
    z.S ≠ z.dS ∧ z.S ≠ z.T ∧ z.S ≠ z.AN ∧ z.S ≠ z.F ∧ z.S ≠ z.FN ∧ z.dS ≠ z.T ∧ z.dS ≠ z.AN ∧ z.dS ≠ z.F ∧ z.dS ≠ z.FN ∧ z.T ≠ z.AN ∧ z.T ≠ z.F ∧ z.T ≠ z.FN ∧ z.AN ≠ z.F ∧ z.AN ≠ z.FN ∧ z.F ≠ z.FN := by
  have := Y.nd
  simp only [SA.all, List.nodup_cons, List.mem_cons, List.not_mem_nil, or_false, not_or] at this
  obtain ⟨⟨a1, a2, a3, a4, a5⟩, ⟨b1, b2, b3, b4⟩, ⟨c1, c2, c3⟩, ⟨d1, d2⟩, e1, _⟩ := this
  exact ⟨a1, a2, a3, a4, a5, b1, b2, b3, b4, c1, c2, c3, d1, d2, e1⟩
/-- a place of the table is no tuple's -/
theorem SymH.notTup {w : World} {h : Heap} {z : SA} {tx : List Str} {fs : List (Int × Int)} (Y : SymH w h z tx fs) : ∀ a ∈ z.all, ∀ o, h.get? a = some o → o.cls ≠ .type "tuple" := by
  obtain ⟨vs, n, e3, _⟩ := Y.oT
  obtain ⟨o4, e4, h4⟩ := Y.oAN
  obtain ⟨o5, xs, n5, e5, h5, _, _, e6⟩ := Y.oF
  have c4 := h4.exact.1
  have c5 := h5.exact.1
  intro a ha o ho
  simp only [SA.all, List.mem_cons, List.not_mem_nil, or_false] at ha
  rcases ha with rfl | rfl | rfl | rfl | rfl | rfl
  · rw [Y.oS] at ho; cases ho; simp
  · rw [Y.odS] at ho; cases ho; simp
  · rw [e3] at ho; cases ho; simp
  · rw [e4] at ho; cases ho; rw [c4]; simp
  · rw [e6] at ho; cases ho; simp
  · rw [e5] at ho; cases ho; rw [c5]; simp
theorem key_kept {w : World} {h h' : Heap} {ks : List Int} {a : Addr} {ms : List Addr} (k : IsTupleKey (kI w) h ks a) (K : Kept h h' ms) (hm : ∀ b ∈ ms, ∀ o, h.get? b = some o → o.cls ≠ .type "tuple") : IsTupleKey (kI w) h' ks a := by
  obtain ⟨o, items, n, ho, hc, r⟩ := k
  exact ⟨o, items, n, K _ _ ho (fun q => hm a q o ho hc), hc, r⟩
theorem SymH.kept {w : World} {h h' : Heap} {z : SA} {tx : List Str} {fs : List (Int × Int)} {ms : List Addr} (Y : SymH w h z tx fs) (K : Kept h h' ms) (hz : ∀ b ∈ ms, b ∉ z.all) (hm : ∀ b ∈ ms, ∀ o, h.get? b = some o → o.cls ≠ .type "tuple") : SymH w h' z tx fs := by
  have k1 : ∀ a ∈ z.all, ∀ o, h.get? a = some o → h'.get? a = some o := fun a ha o e => K a o e fun q => hz a q ha
  simp only [SA.all, List.mem_cons, List.not_mem_nil, or_false, forall_eq_or_imp, forall_eq] at k1
  obtain ⟨vs, n, e3, e3'⟩ := Y.oT
  obtain ⟨o4, e4, e4'⟩ := Y.oAN
  obtain ⟨o5, xs, n5, e5, h5, h6, h7, e6⟩ := Y.oF
  exact { Y with oS := k1.1 _ Y.oS, odS := k1.2.1 _ Y.odS, oT := ⟨vs, n, k1.2.2.1 _ e3, e3'⟩, oAN := ⟨o4, k1.2.2.2.1 _ e4, e4'⟩, oF := ⟨o5, xs, n5, k1.2.2.2.2.2 _ e5, h5, h6, fun p hp => key_kept (h7 p hp) K hm, k1.2.2.2.2.1 _ e6⟩ }
/-- the texts' half turns -/
theorem SymH.turnT {w : World} {h h' : Heap} {z : SA} {tx tx' : List Str} {fs : List (Int × Int)} (Y : SymH w h z tx fs) (K : Kept h h' [z.T, z.AN])
    (h3 : ∃ vs n, h'.get? z.T = some (W.listOf vs.toArray n) ∧ StrsAre vs tx') (h4 : ∃ o, h'.get? z.AN = some o ∧ AtomO w o tx') (hn : tx'.Nodup) : SymH w h' z tx' fs := by
  obtain ⟨n1, n2, n3, n4, n5, n6, n7, n8, n9, n10, n11, n12, n13, n14, n15⟩ := Y.ne
  obtain ⟨o5, xs, nn5, e5, h5, h6, h7, e6⟩ := Y.oF
  have hno : ∀ b, b ≠ z.T → b ≠ z.AN → b ∉ [z.T, z.AN] := fun b q1 q2 => by simp only [List.mem_cons, List.not_mem_nil, or_false, not_or]; exact ⟨q1, q2⟩
  refine ⟨K _ _ Y.oS (hno _ n2 n3), K _ _ Y.odS (hno _ n6 n7), h3, h4, ⟨o5, xs, nn5, K _ _ e5 (hno _ n12.symm n14.symm), h5, h6, fun p hp => key_kept (h7 p hp) K fun b hb => Y.notTup b ?_, K _ _ e6 (hno _ n11.symm n13.symm)⟩, Y.nd, Y.lo1, Y.lo2, hn, Y.fn⟩
  simp only [SA.all, List.mem_cons, List.not_mem_nil, or_false] at hb ⊢; rcases hb with e | e <;> simp [e]
/-- the functors' half turns -/
theorem SymH.turnF {w : World} {h h' : Heap} {z : SA} {tx : List Str} {fs fs' : List (Int × Int)} (Y : SymH w h z tx fs) (K : Kept h h' [z.F, z.FN])
    (h3 : ∃ o xs n, h'.get? z.FN = some o ∧ FnO w o xs ∧ FnX xs fs' ∧ (∀ p ∈ xs, IsTupleKey (kI w) h' p.1 p.2.1) ∧ h'.get? z.F = some (fnList xs n)) (hn : fs'.Nodup) : SymH w h' z tx fs' := by
  obtain ⟨n1, n2, n3, n4, n5, n6, n7, n8, n9, n10, n11, n12, n13, n14, n15⟩ := Y.ne
  obtain ⟨vs, n, e3, e3'⟩ := Y.oT
  obtain ⟨o4, e4, e4'⟩ := Y.oAN
  have hno : ∀ b, b ≠ z.F → b ≠ z.FN → b ∉ [z.F, z.FN] := fun b q1 q2 => by simp only [List.mem_cons, List.not_mem_nil, or_false, not_or]; exact ⟨q1, q2⟩
  exact ⟨K _ _ Y.oS (hno _ n4 n5), K _ _ Y.odS (hno _ n8 n9), ⟨vs, n, K _ _ e3 (hno _ n11 n12), e3'⟩, ⟨o4, K _ _ e4 (hno _ n13 n14), e4'⟩, h3, Y.nd, Y.lo1, Y.lo2, Y.tn, hn⟩
theorem strsAre_snoc {vs : List Value} {tx : List Str} (h : StrsAre vs tx) (x : Str) (t : Tok) : StrsAre (vs ++ [.str x t]) (tx ++ [x]) := by
  induction h with
  | nil => exact .cons x t .nil
  | cons y u _ ih => exact .cons y u ih
theorem append_ {prog : Program} {w : World} {A : Around} {E : Value → Shared → Prop} {s : Shared} {h₀ : Heap} {L D : Addr} {m : Str → Option Value} {news news' : List (Addr × Obj)} {its : Array Value} {n : Nat} {x : Value} {Q : Value → Shared → Prop} (F : Fr h₀ L s.heap m := by k_asm) (N : News h₀ L s.heap news := by k_asm) (U : Upd D (W.listOf its n) (W.listOf (its.push x) (n + 1)) news news' := by k_upd)
    (hsz : its.size ≤ sizeLine := by (simp only [List.size_toArray, List.length_map, sizeLine_eq]; omega)) (h : ∀ h', Fr h₀ L h' m → News h₀ L h' news' → Q .none { s with heap := h' }) : wpAny (model prog w) A (PySem.call (.builtin "list.append") [.ref D, x]) Q E s := append_K F N U h hsz
theorem listOf_push (vs : List Value) (v : Value) (n : Nat) : W.listOf (vs.toArray.push v) n = W.listOf (vs ++ [v]).toArray n := by simp

end
local macro_rules | `(tactic| k_inst) => `(tactic| exact inst_fr (by k_asm) (by assumption) (by assumption))
section
end
local macro_rules | `(tactic| walk_at "getMethod ref") => `(tactic| k_dflt (refine getM_dict (h := ?_)))
section
local macro_rules | `(tactic| walk_at "call builtin:dict.get") => `(tactic| (k_dflt (refine getAtom (h := ?_)); intro _))
set_option hygiene true
local macro_rules | `(tactic| walk_at "setItem ref str") => `(tactic| (k_dflt (refine setAtom (h := ?_)); intro _ _ _ N9 _; (try dsimp only at N9)))
set_option hygiene false
end
local macro_rules | `(tactic| walk_at "call builtin:list.append") => `(tactic| (k_dflt (refine append_ (h := ?_)); intro _ _ _; (try k_sweep)))
section
local macro_rules | `(tactic| walk_at "call builtin:dict.get") => `(tactic| (k_dflt (refine getAtom (h := ?_)); intro _))
set_option hygiene true
local macro_rules | `(tactic| walk_at "setItem ref str") => `(tactic| (k_dflt (refine setAtom (h := ?_)); intro _ _ _ N9 _; (try dsimp only at N9)))
set_option hygiene false
section
variable {w : World} {mean : ExcName → Option Value} {mg mb : Str → Option Value} {A : Around} {env : Env} {outer : List Env} {A₀ : Around} {base h₀ : Heap} {L : Addr} {m : Str → Option Value} {s : Shared} {Q E : Value → Shared → Prop}
  (B : Below A₀ base outer h₀) (F : Fr h₀ L s.heap m) (X : (hd.heap_1 w.params).In h₀) (T : Top hdV (looseW hdV []) mean mg mb h₀)
  (hA : A.frames = some (env :: outer)) (hf : env.frame = some L) (hke : env.scope.kind = .function) (hh : A.handled = none)
include B F X T hA hf hke hh
theorem atom_spec (hdp : A.depth + 1 < recursionLimit) (hun : A.units + 8 < cLine) {z : SA} {tx : List Str} {fs : List (Int × Int)} {x : Str} {t : Tok} (Y : SymH w s.heap z tx fs) (hz : Fresh h₀ L z) (hlen : tx.length < 90000)
    (hret : ∀ (tk : Tok) (h' : Heap) (tk' : Nat), Kept s.heap h' [z.T, z.AN] → SymH w h' z (addNew tx x) fs → Q (.int (numOf (addNew tx x) x) tk) { s with heap := h', toks := tk' }) :
    wpAny (model PySem.Challenge.rw_rh0079_01.row.prog w) A (PySem.call (.ref 88) [.ref z.S, .str x t]) Q E s := by
  revert X; k_fill; intro X
  refine wpAny_call ?_
  obtain ⟨hd0, dp, fr, gd, un⟩ := A
  dsimp only at hA hh hdp hun
  subst hA hh
  obtain ⟨n1, n2, n3, n4, n5, n6, n7, n8, n9, n10, n11, n12, n13, n14, n15⟩ := Y.ne
  obtain ⟨vs, nT, oT, hT⟩ := Y.oT
  obtain ⟨oAN, hAN, aAN⟩ := Y.oAN
  have xAN := aAN.exact
  have hvl : vs.length = tx.length := StrsAre.len_eq hT
  have tn := Y.tn
  have lo1 := Y.lo1
  have N : News h₀ L s.heap [(z.T, W.listOf vs.toArray nT), (z.AN, oAN)] :=
    news_cons oT (hz _ (by simp [SA.mods])).2 (hz _ (by simp [SA.mods])).1 (news_cons hAN (hz _ (by simp [SA.mods])).2 (hz _ (by simp [SA.mods])).1 News.nil)
  k_dflt (refine' enter_fn (rb := [(Str.ofString "text", .str x t), (Str.ofString "self", .ref z.S)]) B F X N T ?kA hf hke ?k6 ?k7 ?k8 ?k9 ?kB ?kR ?_ ?c2 ?c3 ?c4 ?c5; (case kA => exact rfl); (case k6 => k_is); (case k7 => k_is); (case k8 => exact room0 hdp); (case k9 => exact BindsTo.of_eq rfl); (case kR => exact rfl); (case c5 => decide); (case kB => exact locs rfl); (case c2 => exact rfl); (case c3 => exact rfl); (case c4 => exact rfl); k_whole; intro g' L' h' F' N' B' X' T' K' S' Z' tkE; (try dsimp only); (try k_fold); refine let_AE ?_; intro A1 en)
  clear N
  have gS := K' _ _ Y.oS (by simp only [List.map_cons, List.map_nil, List.mem_cons, List.not_mem_nil, or_false, not_or]; exact ⟨n2, n3⟩)
  have gdS := K' _ _ Y.odS (by simp only [List.map_cons, List.map_nil, List.mem_cons, List.not_mem_nil, or_false, not_or]; exact ⟨n6, n7⟩)
  k_steps
  · (rename News h₀ L _ _ => kN); (rename Kept s.heap _ _ => kK); (rename 0 ≤ numOf _ _ => hx)
    have hx := numOf_nonneg hx
    have Y' := Y.turnT kK ⟨vs, nT, (kN _ (.head _)).1, hT⟩ ⟨oAN, (kN _ (.tail _ (.head _))).1, aAN⟩ tn
    rw [addNew_mem hx] at hret
    exact hret _ _ _ kK Y'
  · (rename News h₀ L _ _ => kN); (rename Kept s.heap _ _ => kK); (rename ¬ 0 ≤ numOf _ _ => hx); (rename StrsAre _ _ => hT2); (rename AtomO w _ (_ ++ _) => a2)
    have hx := numOf_neg hx
    rw [listOf_push] at kN
    have Y' := Y.turnT kK ⟨_, _, (kN _ (.head _)).1, strsAre_snoc hT2 x t⟩ ⟨_, (kN _ (.tail _ (.head _))).1, a2⟩ (addNew_not hx ▸ addNew_nodup tn x)
    rw [addNew_not hx, numOf_new hx] at hret
    exact hret _ _ _ kK Y'
end
end
section
theorem walk_off_M5 : True := by
  w_top off
  trivial
open PySem PySem.W PyProof.Rows PySem.Calls
theorem keysUp {w : World} {g h : Heap} {L : Addr} {m : Str → Option Value} {xs : List (List Int × Addr × Value)} (F : Fr g L h m) (hk : ∀ p ∈ xs, IsTupleKey (kI w) g p.1 p.2.1) : ∀ p ∈ xs, IsTupleKey (kI w) h p.1 p.2.1 := fun p hp => by
  obtain ⟨o, items, n, ho, r⟩ := hk p hp
  exact ⟨o, items, n, F.keep _ _ ho, r⟩
theorem keyNew {w : World} {g h : Heap} {L a : Addr} {news : List (Addr × Obj)} {x y : Int} {t u : Tok} (N : News g L h news) (hm : (a, ({ cls := .type "tuple", data := .seq [Value.int x t, Value.int y u].toArray } : Obj)) ∈ news) : IsTupleKey (kI w) h [x, y] a :=
  ⟨_, _, _, (N _ hm).1, rfl, rfl, .cons (intKind_is _ w x t) (.cons (intKind_is _ w y u) .nil)⟩
theorem fnList_push (xs : List (List Int × Addr × Value)) (ks : List Int) (a : Addr) (v : Value) (n : Nat) : W.listOf ((xs.map fun p => Value.ref p.2.1).toArray.push (.ref a)) n = fnList (xs ++ [(ks, a, v)]) n := by simp [fnList]
theorem lenN {prog : Program} {w : World} {A : Around} {E : Value → Shared → Prop} {s : Shared} {h₀ : Heap} {L l : Addr} {news : List (Addr × Obj)} {items : Array Value} {n : Nat} {Q : Value → Shared → Prop} (N : News h₀ L s.heap news := by k_asm) (hm : (l, W.listOf items n) ∈ news := by k_mem) (hfit : items.size < 2 ^ 62 := by first | (simp only [List.size_toArray, List.length_map]; omega) | (simp only [List.size_toArray, List.length_append, List.length_cons, List.length_nil]; first | omega | done))
    (h : Q (.int items.size (s.toks + 1)) { s with toks := s.toks + 1 + 1 }) : wpAny (model prog w) A (PySem.call (.builtin "len") [.ref l]) Q E s :=
  len_list ⟨_, (N _ hm).1, rfl, n, rfl⟩ (by have : (items.size : Int) < (2 ^ 62 : Nat) := by exact_mod_cast hfit
                                            omega) h
theorem roomU' {n k j : Nat} (h : n + k < cLine) (h1 : 3 + j ≤ k) : n + 3 + j < cLine := by omega

theorem getFn_ {w : World} {A : Around} {E : Value → Shared → Prop} {s : Shared} {h₀ : Heap} {L d : Addr} {m : Str → Option Value} {news : List (Addr × Obj)} {o : Obj} {Q : Value → Shared → Prop} {xs : List (List Int × Addr × Value)} {fs : List (Int × Int)} {x y : Int} {a : Addr} {t' : Tok} (F : Fr h₀ L s.heap m := by k_asm) (N : News h₀ L s.heap news := by k_asm) (hm : (d, o) ∈ news := by k_mem) (lo : (d == sysModules) = false := by assumption) (ho : FnO w o xs := by assumption) (hX : FnX xs fs := by assumption) (hn : fs.Nodup := by assumption)
    (hk : ∀ p ∈ xs, IsTupleKey (kI w) s.heap p.1 p.2.1 := by exact keysUp (by k_asm) (by assumption)) (hkey : IsTupleKey (kI w) s.heap [x, y] a := by exact keyNew (by k_asm) (by k_mem)) (hu : A.units + 1 < cLine := by exact roomU' (by assumption) (by decide))
    (h : ∀ tk, Q (.int (numOf fs (x, y)) tk) { s with toks := s.toks + 3 }) : wpAny (model PySem.Challenge.rw_rh0079_01.row.prog w) A (PySem.call (.builtin "dict.get") [.ref d, .ref a, .int (-1) t']) Q E s := let _ := F; getFn N hm lo ho hX hn hk hkey hu h
theorem setFn_ {w : World} {A : Around} {E : Value → Shared → Prop} {s : Shared} {h₀ : Heap} {L d : Addr} {m : Str → Option Value} {news : List (Addr × Obj)} {o : Obj} {gl : Obj → List (Addr × Obj)} {Q : Unit → Shared → Prop} {xs : List (List Int × Addr × Value)} {fs : List (Int × Int)} {x y : Int} {a : Addr} {k : Int} {t' : Tok} (F : Fr h₀ L s.heap m := by k_asm) (N : News h₀ L s.heap news := by k_asm) (U : UpdF d o news gl := by k_updF) (ho : FnO w o xs := by assumption) (hX : FnX xs fs := by assumption)
    (hk : ∀ p ∈ xs, IsTupleKey (kI w) s.heap p.1 p.2.1 := by exact keysUp (by k_asm) (by assumption)) (hkey : IsTupleKey (kI w) s.heap [x, y] a := by exact keyNew (by k_asm) (by k_mem)) (hnew : (x, y) ∉ fs := by exact numOf_neg (by assumption)) (hkk : (fs.length : Int) = k := by first | assumption | rfl | (simp only [List.size_toArray, List.length_map]; omega)) (hu : A.units + 1 < cLine := by exact roomU' (by assumption) (by decide)) (hsz : fs.length ≤ 100000 := by exact Nat.le_trans (Nat.le_of_lt (by assumption)) (Nat.le_of_ble_eq_true rfl))
    (h : ∀ h' o', Fr h₀ L h' m → News h₀ L h' (gl o') → FnO w o' (xs ++ [([x, y], a, .int k t')]) → FnX (xs ++ [([x, y], a, .int k t')]) (fs ++ [(x, y)]) → Q () { s with heap := h', toks := s.toks + 3 }) :
    wpAny (model PySem.Challenge.rw_rh0079_01.row.prog w) A (setItem (.ref d) (.ref a) (.int k t')) Q E s := setFn F N U ho hX hk hkey hnew hkk hu hsz h
local macro_rules | `(tactic| walk_at "call builtin:dict.get") => `(tactic| (k_dflt (refine getFn_ (h := ?_)); intro _))
set_option hygiene true
local macro_rules | `(tactic| walk_at "setItem ref ref") => `(tactic| (k_dflt (refine setFn_ (h := ?_)); intro _ _ _ N9 _ _; (try dsimp only at N9)))
set_option hygiene false
end
local macro_rules | `(tactic| walk_at "call builtin:len") => `(tactic| k_dflt (refine lenN (h := ?_)))
section
local macro_rules | `(tactic| walk_at "call builtin:dict.get") => `(tactic| (k_dflt (refine getFn_ (h := ?_)); intro _))
set_option hygiene true
local macro_rules | `(tactic| walk_at "setItem ref ref") => `(tactic| (k_dflt (refine setFn_ (h := ?_)); intro _ _ _ N9 _ _; (try dsimp only at N9)))
set_option hygiene false
section
variable {w : World} {mean : ExcName → Option Value} {mg mb : Str → Option Value} {A : Around} {env : Env} {outer : List Env} {A₀ : Around} {base h₀ : Heap} {L : Addr} {m : Str → Option Value} {s : Shared} {Q E : Value → Shared → Prop}
  (B : Below A₀ base outer h₀) (F : Fr h₀ L s.heap m) (X : (hd.heap_1 w.params).In h₀) (T : Top hdV (looseW hdV []) mean mg mb h₀)
  (hA : A.frames = some (env :: outer)) (hf : env.frame = some L) (hke : env.scope.kind = .function) (hh : A.handled = none)
include B F X T hA hf hke hh
theorem functor_spec (hdp : A.depth + 1 < recursionLimit) (hun : A.units + 8 < cLine) {z : SA} {tx : List Str} {fs : List (Int × Int)} {x y : Int} {t u : Tok} (Y : SymH w s.heap z tx fs) (hz : Fresh h₀ L z) (hlen : fs.length < 90000)
    (hret : ∀ (tk : Tok) (h' : Heap) (tk' : Nat), Kept s.heap h' [z.F, z.FN] → SymH w h' z tx (addNew fs (x, y)) → Q (.int (numOf (addNew fs (x, y)) (x, y)) tk) { s with heap := h', toks := tk' }) :
    wpAny (model PySem.Challenge.rw_rh0079_01.row.prog w) A (PySem.call (.ref 102) [.ref z.S, .int x t, .int y u]) Q E s := by
  revert X; k_fill; intro X
  refine wpAny_call ?_
  obtain ⟨hd0, dp, fr, gd, un⟩ := A
  dsimp only at hA hh hdp hun
  subst hA hh
  obtain ⟨n1, n2, n3, n4, n5, n6, n7, n8, n9, n10, n11, n12, n13, n14, n15⟩ := Y.ne
  obtain ⟨oFN, xs, nF, hFN, aFN, cFN, kFN, hFl⟩ := Y.oF
  have xFN := aFN.exact
  have hvl : xs.length = fs.length := cFN.len
  have fn := Y.fn
  have lo2 := Y.lo2
  have N : News h₀ L s.heap [(z.F, fnList xs nF), (z.FN, oFN)] :=
    news_cons hFl (hz _ (by simp [SA.mods])).2 (hz _ (by simp [SA.mods])).1 (news_cons hFN (hz _ (by simp [SA.mods])).2 (hz _ (by simp [SA.mods])).1 News.nil)
  k_dflt (refine' enter_fn (rb := [(Str.ofString "arity", .int y u), (Str.ofString "atom", .int x t), (Str.ofString "self", .ref z.S)]) B F X N T ?kA hf hke ?k6 ?k7 ?k8 ?k9 ?kB ?kR ?_ ?c2 ?c3 ?c4 ?c5; (case kA => exact rfl); (case k6 => k_is); (case k7 => k_is); (case k8 => exact room0 hdp); (case k9 => exact BindsTo.of_eq rfl); (case kR => exact rfl); (case c5 => decide); (case kB => exact locs rfl); (case c2 => exact rfl); (case c3 => exact rfl); (case c4 => exact rfl); k_whole; intro g' L' h' F' N' B' X' T' K' S' Z' tkE; (try dsimp only); (try k_fold); refine let_AE ?_; intro A1 en)
  clear N
  have gS := K' _ _ Y.oS (by simp only [List.map_cons, List.map_nil, List.mem_cons, List.not_mem_nil, or_false, not_or]; exact ⟨n4, n5⟩)
  have gdS := K' _ _ Y.odS (by simp only [List.map_cons, List.map_nil, List.mem_cons, List.not_mem_nil, or_false, not_or]; exact ⟨n8, n9⟩)
  have ktup : ∀ b ∈ [z.F, z.FN], ∀ o, s.heap.get? b = some o → o.cls ≠ .type "tuple" := fun b hb => Y.notTup b (by
    simp only [SA.all, List.mem_cons, List.not_mem_nil, or_false] at hb ⊢; rcases hb with e | e <;> simp [e])
  have hkg : ∀ p ∈ xs, IsTupleKey (kI w) g' p.1 p.2.1 := fun p hp => key_kept (kFN p hp) K' ktup
  k_steps
  · (rename News h₀ L _ _ => kN); (rename Kept s.heap _ _ => kK); (rename 0 ≤ numOf _ _ => hx)
    have hx := numOf_nonneg hx
    have Y' := Y.turnF kK ⟨oFN, xs, nF, (kN _ (.tail _ (.tail _ (.head _)))).1, aFN, cFN, fun p hp => key_kept (kFN p hp) kK ktup, (kN _ (.tail _ (.head _))).1⟩ fn
    rw [addNew_mem hx] at hret
    exact hret _ _ _ kK Y'
  · (rename News h₀ L _ _ => kN); (rename Kept s.heap _ _ => kK); (rename ¬ 0 ≤ numOf _ _ => hx); (rename FnO w _ (_ ++ _) => a2); (rename FnX (_ ++ _) _ => c2)
    have hx := numOf_neg hx
    rw [fnList_push] at kN
    have e9 : (((xs.map fun p => Value.ref p.2.1).toArray.size : Nat) : Int) = (fs.length : Int) := by simp [hvl]
    have Y' := Y.turnF kK ⟨_, _, _, (kN _ (.tail _ (.tail _ (.head _)))).1, a2, c2, (by
      intro p hp
      rcases List.mem_append.mp hp with hp | hp
      · exact key_kept (kFN p hp) kK ktup
      · simp only [List.mem_singleton] at hp; subst hp; exact keyNew kN (.head _)), (kN _ (.tail _ (.head _))).1⟩ (addNew_not hx ▸ addNew_nodup fn (x, y))
    rw [addNew_not hx, numOf_new hx] at hret
    simp only [e9]
    exact hret _ _ _ kK Y'
end
end
section
theorem walk_off_M6 : True := by
  w_top off
  trivial
open PySem PySem.W PyProof.Rows PySem.Calls
theorem strsAre_at {vs : List Value} {tx : List Str} (h : StrsAre vs tx) : ∀ {i : Nat} {x : Str}, tx[i]? = some x → ∃ t, vs[i]? = some (.str x t) := by
  induction h with
  | nil => intro i x e; simp at e
  | cons y t _ ih =>
    intro i x e
    cases i with
    | zero => simp at e; subst e; exact ⟨t, rfl⟩
    | succ j => simpa using ih (by simpa using e)
theorem tup_two {w : World} {h : Heap} {x y : Int} {a : Addr} (k : IsTupleKey (kI w) h [x, y] a) : ∃ t u, IsTup h a #[.int x t, .int y u] := by
  obtain ⟨o, items, n, ho, hc, hd, hi⟩ := k
  cases hi' : items.toList with
  | nil => rw [hi'] at hi; cases hi
  | cons v r =>
    rw [hi'] at hi
    cases hi with
    | cons h1 h2 =>
      cases h2 with
      | cons h3 h4 =>
        cases h4
        obtain ⟨t, rfl⟩ := Value.isInt_shape h1
        obtain ⟨u, rfl⟩ := Value.isInt_shape h3
        exact ⟨t, u, o, ho, hc, n, by rw [hd]; congr 1; exact Array.toList_inj.mp hi'⟩

theorem item_list_ {prog : Program} {w : World} {A : Around} {E : Value → Shared → Prop} {s : Shared} {value slice : Expr} {D : Addr} {items : Array Value} {i : Int} {u : Tok} {x : Value} {Q : Value → Shared → Prop}
    (hl : s.heap.IsList D items := by exact Fr.lst (by k_asm) (by assumption)) (h0 : 0 ≤ i := by assumption) (hf : i < 2 ^ 63 := by omega) (hx : items[i.toNat]? = some x := by assumption) (h : Q x s)
    (hs : subscripted slice false (.ref D) (.int i u) = operate [.ref D, .int i u] (getItem (.ref D) (.int i u)) := by with_unfolding_all rfl) (hg : ∀ r, letTemporaryGo value (.ref D) r = pure () := by (intro _; with_unfolding_all rfl)) :
    wpAny (model prog w) A (subscriptTail value slice (.ref D) (.int i u)) Q E s := item_list hl h0 hf hx h hs hg
local macro_rules | `(tactic| walk_at "subscriptTail") => `(tactic| k_dflt (refine item_list_ (h := ?_)))
section
variable {w : World} {mean : ExcName → Option Value} {mg mb : Str → Option Value} {A : Around} {env : Env} {outer : List Env} {A₀ : Around} {base h₀ : Heap} {L : Addr} {m : Str → Option Value} {s : Shared} {Q E : Value → Shared → Prop}
  (B : Below A₀ base outer h₀) (F : Fr h₀ L s.heap m) (X : (hd.heap_1 w.params).In h₀) (T : Top hdV (looseW hdV []) mean mg mb h₀)
  (hA : A.frames = some (env :: outer)) (hf : env.frame = some L) (hke : env.scope.kind = .function) (hh : A.handled = none)
include B F X T hA hf hke hh
theorem text_spec (hdp : A.depth + 1 < recursionLimit) (hun : A.units + 8 < cLine) {z : SA} {tx : List Str} {fs : List (Int × Int)} {x : Str} {i : Int} {t : Tok} (Y : SymH w s.heap z tx fs) (h0 : 0 ≤ i) (h62 : i < 2 ^ 62) (hi : tx[i.toNat]? = some x)
    (hret : ∀ (tk : Tok) (h' : Heap) (tk' : Nat), Kept s.heap h' [] → Q (.str x tk) { s with heap := h', toks := tk' }) :
    wpAny (model PySem.Challenge.rw_rh0079_01.row.prog w) A (PySem.call (.ref 95) [.ref z.S, .int i t]) Q E s := by
  revert X; k_fill; intro X
  refine wpAny_call ?_
  obtain ⟨hd0, dp, fr, gd, un⟩ := A
  dsimp only at hA hh hdp hun
  subst hA hh
  obtain ⟨vs, nT, oT, hT⟩ := Y.oT
  obtain ⟨tk0, hxi⟩ := strsAre_at hT hi
  have hxi : vs.toArray[i.toNat]? = some (.str x tk0) := by simpa using hxi
  have N : News h₀ L s.heap [] := News.nil
  k_dflt (refine' enter_fn (rb := [(Str.ofString "number", .int i t), (Str.ofString "self", .ref z.S)]) B F X N T ?kA hf hke ?k6 ?k7 ?k8 ?k9 ?kB ?kR ?_ ?c2 ?c3 ?c4 ?c5; (case kA => exact rfl); (case k6 => k_is); (case k7 => k_is); (case k8 => exact room0 hdp); (case k9 => exact BindsTo.of_eq rfl); (case kR => exact rfl); (case c5 => decide); (case kB => exact locs rfl); (case c2 => exact rfl); (case c3 => exact rfl); (case c4 => exact rfl); k_whole; intro g' L' h' F' N' B' X' T' K' S' Z' tkE; (try dsimp only); (try k_fold); refine let_AE ?_; intro A1 en)
  clear N
  have gS := K' _ _ Y.oS (by simp)
  have gdS := K' _ _ Y.odS (by simp)
  have gT : g'.IsList z.T vs.toArray := ⟨_, K' _ _ oT (by simp), rfl, nT, rfl⟩
  k_steps
  all_goals ((rename Kept s.heap _ _ => kK); exact hret _ _ _ kK)
theorem name_spec (hdp : A.depth + 1 < recursionLimit) (hun : A.units + 8 < cLine) {z : SA} {tx : List Str} {fs : List (Int × Int)} {x y : Int} {i : Int} {t : Tok} (Y : SymH w s.heap z tx fs) (h0 : 0 ≤ i) (h62 : i < 2 ^ 62) (hi : fs[i.toNat]? = some (x, y))
    (hret : ∀ (tk : Tok) (h' : Heap) (tk' : Nat), Kept s.heap h' [] → Q (.int x tk) { s with heap := h', toks := tk' }) :
    wpAny (model PySem.Challenge.rw_rh0079_01.row.prog w) A (PySem.call (.ref 116) [.ref z.S, .int i t]) Q E s := by
  revert X; k_fill; intro X
  refine wpAny_call ?_
  obtain ⟨hd0, dp, fr, gd, un⟩ := A
  dsimp only at hA hh hdp hun
  subst hA hh
  obtain ⟨oFN, xs, nF, hFN, aFN, cFN, kFN, hFl⟩ := Y.oF
  obtain ⟨⟨ky, ad, v⟩, hxs⟩ : ∃ p, xs[i.toNat]? = some p := ⟨_, List.getElem?_eq_getElem (by rw [cFN.len]; exact (List.getElem?_eq_some_iff.mp hi).1)⟩
  have e1 : ky = [x, y] := by
    have : (xs.map (·.1))[i.toNat]? = some ky := by rw [List.getElem?_map, hxs]; rfl
    rw [cFN.keys, keysOf, List.getElem?_map, hi] at this; simpa using this.symm
  subst e1
  obtain ⟨ta, tb, hTup⟩ := tup_two (kFN _ (List.mem_of_getElem? hxs))
  have hxi : (xs.map fun p => Value.ref p.2.1).toArray[i.toNat]? = some (.ref ad) := by simp [hxs]
  have N : News h₀ L s.heap [] := News.nil
  k_dflt (refine' enter_fn (rb := [(Str.ofString "functor", .int i t), (Str.ofString "self", .ref z.S)]) B F X N T ?kA hf hke ?k6 ?k7 ?k8 ?k9 ?kB ?kR ?_ ?c2 ?c3 ?c4 ?c5; (case kA => exact rfl); (case k6 => k_is); (case k7 => k_is); (case k8 => exact room0 hdp); (case k9 => exact BindsTo.of_eq rfl); (case kR => exact rfl); (case c5 => decide); (case kB => exact locs rfl); (case c2 => exact rfl); (case c3 => exact rfl); (case c4 => exact rfl); k_whole; intro g' L' h' F' N' B' X' T' K' S' Z' tkE; (try dsimp only); (try k_fold); refine let_AE ?_; intro A1 en)
  clear N
  have gS := K' _ _ Y.oS (by simp)
  have gdS := K' _ _ Y.odS (by simp)
  have gF : g'.IsList z.F (xs.map fun p => Value.ref p.2.1).toArray := ⟨_, K' _ _ hFl (by simp), rfl, nF, rfl⟩
  have gTup : IsTup g' ad #[.int x ta, .int y tb] := IsTup.keeps hTup fun b o e => K' b o e (by simp)
  k_steps
  all_goals ((rename Kept s.heap _ _ => kK); exact hret _ _ _ kK)
theorem arity_spec (hdp : A.depth + 1 < recursionLimit) (hun : A.units + 8 < cLine) {z : SA} {tx : List Str} {fs : List (Int × Int)} {x y : Int} {i : Int} {t : Tok} (Y : SymH w s.heap z tx fs) (h0 : 0 ≤ i) (h62 : i < 2 ^ 62) (hi : fs[i.toNat]? = some (x, y))
    (hret : ∀ (tk : Tok) (h' : Heap) (tk' : Nat), Kept s.heap h' [] → Q (.int y tk) { s with heap := h', toks := tk' }) :
    wpAny (model PySem.Challenge.rw_rh0079_01.row.prog w) A (PySem.call (.ref 123) [.ref z.S, .int i t]) Q E s := by
  revert X; k_fill; intro X
  refine wpAny_call ?_
  obtain ⟨hd0, dp, fr, gd, un⟩ := A
  dsimp only at hA hh hdp hun
  subst hA hh
  obtain ⟨oFN, xs, nF, hFN, aFN, cFN, kFN, hFl⟩ := Y.oF
  obtain ⟨⟨ky, ad, v⟩, hxs⟩ : ∃ p, xs[i.toNat]? = some p := ⟨_, List.getElem?_eq_getElem (by rw [cFN.len]; exact (List.getElem?_eq_some_iff.mp hi).1)⟩
  have e1 : ky = [x, y] := by
    have : (xs.map (·.1))[i.toNat]? = some ky := by rw [List.getElem?_map, hxs]; rfl
    rw [cFN.keys, keysOf, List.getElem?_map, hi] at this; simpa using this.symm
  subst e1
  obtain ⟨ta, tb, hTup⟩ := tup_two (kFN _ (List.mem_of_getElem? hxs))
  have hxi : (xs.map fun p => Value.ref p.2.1).toArray[i.toNat]? = some (.ref ad) := by simp [hxs]
  have N : News h₀ L s.heap [] := News.nil
  k_dflt (refine' enter_fn (rb := [(Str.ofString "functor", .int i t), (Str.ofString "self", .ref z.S)]) B F X N T ?kA hf hke ?k6 ?k7 ?k8 ?k9 ?kB ?kR ?_ ?c2 ?c3 ?c4 ?c5; (case kA => exact rfl); (case k6 => k_is); (case k7 => k_is); (case k8 => exact room0 hdp); (case k9 => exact BindsTo.of_eq rfl); (case kR => exact rfl); (case c5 => decide); (case kB => exact locs rfl); (case c2 => exact rfl); (case c3 => exact rfl); (case c4 => exact rfl); k_whole; intro g' L' h' F' N' B' X' T' K' S' Z' tkE; (try dsimp only); (try k_fold); refine let_AE ?_; intro A1 en)
  clear N
  have gS := K' _ _ Y.oS (by simp)
  have gdS := K' _ _ Y.odS (by simp)
  have gF : g'.IsList z.F (xs.map fun p => Value.ref p.2.1).toArray := ⟨_, K' _ _ hFl (by simp), rfl, nF, rfl⟩
  have gTup : IsTup g' ad #[.int x ta, .int y tb] := IsTup.keeps hTup fun b o e => K' b o e (by simp)
  k_steps
  all_goals ((rename Kept s.heap _ _ => kK); exact hret _ _ _ kK)
end
end
section
theorem walk_off_M7 : True := by
  w_top off
  trivial
open PySem PySem.W PyProof.Rows PySem.Calls
theorem whole {h g h' : Heap} {L : Addr} {m : Str → Option Value} {news : List (Addr × Obj)} (K : Kept h g (news.map (·.1))) (F : Fr g L h' m) (N : News g L h' news) (N0 : ∀ p ∈ news, h.get? p.1 = some p.2) : Kept h h' [] := fun b o e _ => by
  by_cases q : b ∈ news.map (·.1)
  · obtain ⟨p, hp, rfl⟩ := List.mem_map.mp q
    rw [N0 p hp] at e; cases e; exact (N p hp).1
  · exact F.keep _ _ (K b o e q)
theorem SymH.kept0 {w : World} {h h' : Heap} {z : SA} {tx : List Str} {fs : List (Int × Int)} (Y : SymH w h z tx fs) (K : Kept h h' []) : SymH w h' z tx fs := Y.kept K (by simp) (by simp)
/-- the four turning places as a ledger -/
theorem SymH.four {w : World} {h h₀ : Heap} {L : Addr} {z : SA} {tx : List Str} {fs : List (Int × Int)} (Y : SymH w h z tx fs) (hz : Fresh h₀ L z) : ∃ o1 o2 o3 o4, News h₀ L h [(z.T, o1), (z.AN, o2), (z.F, o3), (z.FN, o4)] := by
  obtain ⟨vs, nT, oT, hT⟩ := Y.oT
  obtain ⟨oAN, hAN, aAN⟩ := Y.oAN
  obtain ⟨oFN, xs, nF, hFN, aFN, cFN, kFN, hFl⟩ := Y.oF
  exact ⟨_, _, _, _, news_cons oT (hz _ (by simp [SA.mods])).2 (hz _ (by simp [SA.mods])).1 (news_cons hAN (hz _ (by simp [SA.mods])).2 (hz _ (by simp [SA.mods])).1
    (news_cons hFl (hz _ (by simp [SA.mods])).2 (hz _ (by simp [SA.mods])).1 (news_cons hFN (hz _ (by simp [SA.mods])).2 (hz _ (by simp [SA.mods])).1 News.nil)))⟩
theorem fresh_of {h g : Heap} {L : Addr} {z : SA} {o1 o2 o3 o4 : Obj} (N : News g L h [(z.T, o1), (z.AN, o2), (z.F, o3), (z.FN, o4)]) : Fresh g L z := fun a ha => by
  have := news_h0 N a (by simpa [SA.mods] using ha)
  exact this

section
variable {w : World} {mean : ExcName → Option Value} {mg mb : Str → Option Value} {A : Around} {env : Env} {outer : List Env} {A₀ : Around} {base h₀ : Heap} {L : Addr} {m : Str → Option Value} {s : Shared} {Q E : Value → Shared → Prop}
  (B : Below A₀ base outer h₀) (F : Fr h₀ L s.heap m) (X : (hd.heap_1 w.params).In h₀) (T : Top hdV (looseW hdV []) mean mg mb h₀)
  (hA : A.frames = some (env :: outer)) (hf : env.frame = some L) (hke : env.scope.kind = .function) (hh : A.handled = none)
include B F X T hA hf hke hh
theorem func_spec (hdp : A.depth + 2 < recursionLimit) (hun : A.units + 12 < cLine) {z : SA} {tx : List Str} {fs : List (Int × Int)} {x : Str} {y : Int} {t u : Tok} (Y : SymH w s.heap z tx fs) (hz : Fresh h₀ L z) (hlt : tx.length < 90000) (hlf : fs.length < 90000)
    (hret : ∀ (tk : Tok) (h' : Heap) (tk' : Nat), Kept s.heap h' z.mods → SymH w h' z (addNew tx x) (addNew fs (numOf (addNew tx x) x, y)) → Q (.int (numOf (addNew fs (numOf (addNew tx x) x, y)) (numOf (addNew tx x) x, y)) tk) { s with heap := h', toks := tk' }) :
    wpAny (model PySem.Challenge.rw_rh0079_01.row.prog w) A (PySem.call (.ref 109) [.ref z.S, .str x t, .int y u]) Q E s := by
  revert X; k_fill; intro X
  refine wpAny_call ?_
  obtain ⟨hd0, dp, fr, gd, un⟩ := A
  dsimp only at hA hh hdp hun
  subst hA hh
  obtain ⟨n1, n2, n3, n4, n5, n6, n7, n8, n9, n10, n11, n12, n13, n14, n15⟩ := Y.ne
  obtain ⟨o1, o2, o3, o4, N⟩ := Y.four hz
  k_dflt (refine' enter_fn (rb := [(Str.ofString "arity", .int y u), (Str.ofString "text", .str x t), (Str.ofString "self", .ref z.S)]) B F X N T ?kA hf hke ?k6 ?k7 ?k8 ?k9 ?kB ?kR ?_ ?c2 ?c3 ?c4 ?c5; (case kA => exact rfl); (case k6 => k_is); (case k7 => k_is); (case k8 => exact room0 hdp); (case k9 => exact BindsTo.of_eq rfl); (case kR => exact rfl); (case c5 => decide); (case kB => exact locs rfl); (case c2 => exact rfl); (case c3 => exact rfl); (case c4 => exact rfl); k_whole; intro g' L' h' F' N' B' X' T' K' S' Z' tkE; (try dsimp only); (try k_fold); refine let_AE ?_; intro A1 en)
  have gS := K' _ _ Y.oS (by simp only [List.map_cons, List.map_nil, List.mem_cons, List.not_mem_nil, or_false, not_or]; exact ⟨n2, n3, n4, n5⟩)
  have gdS := K' _ _ Y.odS (by simp only [List.map_cons, List.map_nil, List.mem_cons, List.not_mem_nil, or_false, not_or]; exact ⟨n6, n7, n8, n9⟩)
  have hz' := fresh_of N'
  have N0 : ∀ p ∈ [(z.T, o1), (z.AN, o2), (z.F, o3), (z.FN, o4)], s.heap.get? p.1 = some p.2 := fun p hp => (N p hp).1
  clear N
  k_steps
  unfold Stop
  (rename Fr _ _ _ _ => kF); (rename News _ _ _ _ => kN)
  have Y1 := Y.kept0 (whole K' kF kN N0)
  k_dflt (refine atom_spec B' kF X' T' rfl rfl rfl rfl (roomD hdp (by decide)) (roomU hun (by decide)) Y1 hz' hlt ?_)
  intro tk1 h1 tk1' K1 Y2
  have F1 := kept_fr kF K1 (fun b hb => hz' b (by simp only [SA.mods, List.mem_cons, List.not_mem_nil, or_false] at hb ⊢; rcases hb with e | e <;> simp [e]))
  clear kF kN Y1
  have N1 : News g' L' h1 [] := News.nil
  k_steps
  unfold Stop
  k_dflt (refine functor_spec B' F1 X' T' rfl rfl rfl rfl (roomD hdp (by decide)) (roomU hun (by decide)) Y2 hz' hlf ?_)
  intro tk2 h2 tk2' K2 Y3
  have F2 := kept_fr F1 K2 (fun b hb => hz' b (by simp only [SA.mods, List.mem_cons, List.not_mem_nil, or_false] at hb ⊢; rcases hb with e | e <;> simp [e]))
  clear F1 N1
  have N2 : News g' L' h2 [] := News.nil
  k_steps
  (rename Kept s.heap _ _ => kK)
  exact hret _ _ _ kK Y3
end
end
section
theorem walk_off_E1 : True := by
  w_top off
  trivial
open PySem PySem.W PyProof.Rows PySem.Calls PySem.Builtin PySem.Builtin.ObjectAttr
theorem refuse_exc (self : Value) : refuseLoop self "__setattr__" [.ref 51, .ref 31, .type "Exception", .type "BaseException", .type "object"] = pure () := by
  rw [refuseLoop_ref, refuseLoop_ref]
  kernel_rfl
noncomputable abbrev excFields (t : Addr) : Array Value := #[.ref t, .none, .none, .none, .bool false, .none]
noncomputable abbrev ballDict (w : World) (tk : Tok) (v : Value) : Obj := dictOf [⟨PyData.keyHash w.params (Str.ofString "ball"), .str (Str.ofString "ball") tk, v⟩] 1
section
variable {prog : Program} {w : World} {A : Around} {K : Frag} {R : Result → Shared → Prop} {s : Shared}
theorem osa_exc {e : Addr} {fv : Array Value} {tk : Tok} {v : Value} (X : K.In s.heap) (he : s.heap.get? e = some { cls := .ref 51, data := .fields fv })
    (hc : ∃ cd, clsIn K 51 = some cd ∧ cd.mro = [.ref 51, .ref 31, .type "Exception", .type "BaseException", .type "object"] ∧ cd.hasDict = true) (ht : takerIn K 51 (Str.ofString "ball") = some none) (hm : mroIn K 51 (.type "object") = some true)
    (h : ∀ h' d tk', (∀ b o, b ≠ e → s.heap.get? b = some o → h'.get? b = some o) → s.heap.get? d = none → h'.get? d = some (ballDict w tk' v) → h'.get? e = some { cls := .ref 51, dict := some d, data := .fields fv } → R (.ok (.ret .none)) { s with heap := h', toks := s.toks + 1 }) :
    codeAny (model prog w) A (.call (.builtin "object.__setattr__") ⟨[.ref e, .str (Str.ofString "ball") tk, v], []⟩) R s := by
  have SF := PySem.F.store_object
  have I : InstAt s.heap e { cls := .ref 51, data := .fields fv } 51 none := ⟨he, rfl, rfl, trivial⟩
  obtain ⟨cd, hcd, hmro, hdict⟩ := hc
  have sub : Looks (model prog w) s.heap (isInstance (.ref e) (.type "object")) true := I.type.andThen (looks_mroIn X hm)
  refine codeAny_call_builtin SF.slot.plain SF.entry (@check_slot (model prog w) _ _ s "object.__setattr__" "object" "__setattr__" (.ref e) [.str (Str.ofString "ball") tk, v] [] _ SF.kind SF.split sub (SF.args (.ref e) (.str (Str.ofString "ball") tk) v) ?_)
  obtain ⟨attr, ha, hr⟩ := Option.bind_eq_some_iff.mp ht
  have hml : Looks (model prog w) s.heap (mroOf (.ref 51)) cd.mro := (looks_clsIn X hcd).andThen .now
  have L3 : Looks (model prog w) s.heap (storeTaker? attr) none := by
    cases attr with
    | none => cases hr; exact .now
    | some a =>
      obtain ⟨b, hb, q⟩ := Option.map_eq_some_iff.mp hr
      cases b
      · exact (looks_takesIn X hb).andThen .now
      · cases q
  rw [osa_eq, refuse_eq]
  refine wpAny_bind (wpAny_bind (I.type.here (wpAny_bind (hml.here ?_))))
  rw [hmro, refuse_exc]
  refine wpAny_pure (wpAny_bind (I.type.here (wpAny_bind ((looks_findIn X ha).here (wpAny_bind (L3.here ?_))))))
  refine wpAny_bind (wpAny_pure (wpAny_bind (wpAny_bind (wpAny_loadPart he (wpAny_bind ((looks_clsIn X hcd).here ?_))))))
  rw [hdict]
  refine wpAny_bind (wpAny_alloc ?_)
  have he1 := Heap.get?_push_of_some (h := s.heap) { cls := .type "dict", data := .dict #[] } he
  refine wpAny_bind (wpAny_update he1 ?_)
  have hde : s.heap.objs.size ≠ e := Nat.ne_of_gt (Heap.lt_size he)
  have D : ((s.heap.push { cls := .type "dict", data := .dict #[] }).update e fun o => { o with dict := some s.heap.objs.size }).get? s.heap.objs.size = some { cls := .type "dict", data := .dict #[] } :=
    (Heap.get?_update_other _ _ (Ne.symm hde)).trans (Heap.get?_push_size _ rfl)
  have E1 : ((s.heap.push { cls := .type "dict", data := .dict #[] }).update e fun o => { o with dict := some s.heap.objs.size }).get? e = some { cls := .ref 51, dict := some s.heap.objs.size, data := .fields fv } :=
    Heap.get?_update_self _ he1 rfl
  refine wpAny_pure (a := some s.heap.objs.size) (wpAny_bind (wpAny_pure (wpAny_bind ?_)))
  unfold nsSet
  refine wpAny_bind (wpAny_bind (wpAny_askSetting (wpAny_pure (wpAny_bind (wpAny_mkText (wpAny_bind (wpAny_loadPart D ?_)))))))
  dsimp only
  have c : (!(#[] : Array DictEntry).any (·.key.isStr (Str.ofString "ball")) && (#[] : Array DictEntry).any (·.refKey)) = false := by simp
  rw [aRefKeyMayBeTheName_at, c]
  refine wpAny_updatePart D ?_
  have hput : Obj.putName (Str.ofString "ball") (PyData.keyHash w.params (Str.ofString "ball")) (.str (Str.ofString "ball") s.toks) v { cls := .type "dict", data := .dict #[] } = ballDict w s.toks v := by
    rw [show ({ cls := .type "dict", data := .dict #[] } : Obj) = dictOf [] 0 from rfl, putName_dict]; rfl
  have D' := Heap.get?_update_self (Obj.putName (Str.ofString "ball") (PyData.keyHash w.params (Str.ofString "ball")) (.str (Str.ofString "ball") s.toks) v) D (by rw [hput]; rfl)
  rw [hput] at D'
  refine wpAny_bind (wpAny_lookBehind D' (pastItsLine_dict (by rw [sizeLine_eq]; simp)) ?_)
  refine wpAny_pure (h _ s.heap.objs.size s.toks (fun b o hb q => ?_) ?_ D' ?_)
  · have hbd : s.heap.objs.size ≠ b := Nat.ne_of_gt (Heap.lt_size q)
    rw [Heap.get?_update_other _ _ hbd, Heap.get?_update_other _ _ (Ne.symm hb)]
    exact Heap.get?_push_of_some _ q
  · exact Heap.get?_none_of_le (Nat.le_refl _)
  · rw [Heap.get?_update_other _ _ hde]; exact E1
end
end
section
theorem walk_off_E2 : True := by
  w_top off
  trivial
open PySem PySem.W PyProof.Rows PySem.Calls PySem.Builtin PySem.Builtin.ObjectAttr
theorem k51 (P : Params) : ∃ nm q bs sn sub ab col k0 k1 k2 k3 k5, (hd.heap_1 P).lookup 51 = some (excClassObj nm q 51 50 bs [.ref 31, .type "Exception", .type "BaseException", .type "object"] true sn sub ab col none k0 k1 k2 k3 k5 "Exception.__new__") :=
  ⟨_, _, _, _, _, _, _, _, _, _, _, _, rfl⟩
theorem k51_cls (P : Params) : ∃ cd, clsIn (hd.heap_1 P) 51 = some cd ∧ cd.mro = [.ref 51, .ref 31, .type "Exception", .type "BaseException", .type "object"] ∧ cd.hasDict = true := ⟨_, rfl, rfl, rfl⟩
theorem k51_tail (P : Params) : tailIn (hd.heap_1 P) [.type "Exception", .type "BaseException", .type "object"] [.ref 31, .type "Exception", .type "BaseException", .type "object"] = true := by kernel_rfl
theorem k51_init (P : Params) : findIn (hd.heap_1 P) (.ref 51) "__init__" = some (some (.ref 48)) := by kernel_rfl
theorem k51_set (P : Params) : findIn (hd.heap_1 P) (.ref 51) "__setattr__" = some (some (.builtin "object.__setattr__")) := by kernel_rfl
theorem k51_ball (P : Params) : takerIn (hd.heap_1 P) 51 (Str.ofString "ball") = some none := by kernel_rfl
theorem k51_mro (P : Params) : mroIn (hd.heap_1 P) 51 (.type "object") = some true := by kernel_rfl
theorem k48_fn (P : Params) : typeIn (hd.heap_1 P) (.ref 48) = some (.type "function") := by kernel_rfl
section
variable {w : World} {A : Around} {R : Result → Shared → Prop} {h : Heap} {g : Array GenState} {d : Drawn} {t : Nat} {os : OsState}
theorem make_exc {v : Value} (X : (hd.heap_1 w.params).In h)
    (hq : codeAny (model PySem.Challenge.rw_rh0079_01.row.prog w) (A.under (.builtin "type.__call__" ⟨[.ref 51, v], []⟩)) (.call (.ref 48) ⟨[.ref (h.objs.size + 1), v], []⟩) (InitBack (h.objs.size + 1) R)
      ⟨(h.push { cls := .type "tuple", data := .seq [v].toArray }).push { cls := .ref 51, data := .fields (excFields h.objs.size) }, g, d, t, os⟩) :
    codeAny (model PySem.Challenge.rw_rh0079_01.row.prog w) A (.call (.ref 51) ⟨[v], []⟩) R ⟨h, g, d, t, os⟩ := by
  obtain ⟨nm, q, bs, sn, sub, ab, col, k0, k1, k2, k3, k5, e51⟩ := k51 w.params
  have hC := X _ _ e51
  have F := PySem.F.excBase_Exception
  have T := tail_of_in X (k51_tail w.params)
  have f1 := tc_lookup
  have f2 := tc_bind (.ref 51)
  have hT : (⟨h, g, d, t, os⟩ : Shared).TypeIs (.ref 51) "type" := ⟨_, hC, rfl⟩
  refine codeAny_of_tree ?_
  show wpAny _ _ (callAny (.ref 51) _) _ _ _
  repeat (any_goals (first | assumption | with_reducible refine wpAny_loadPart_at hC ?_ | wp_step))
  refine ⟨rfl, ?_⟩
  refine codeAny_call_builtin_at (Code.quiet_builtin _ (by decide +kernel)) entry_typeCall (wpAny_check_type_call_sub hC ?_)
  repeat (first | with_reducible refine wpAny_loadPart_at hC ?_ | with_reducible refine wpAny_madeBy_exc hC ?_ | wp_step)
  refine codeAny_call_builtin_code (Code.quiet_builtin _ F.quiet) (wpAny_check_new_subT F T hC ?_)
  refine codeAny_exc_new_subT F T hC ?_ (by rw [sizeLine_eq]; simp)
  show wpAny _ _ _ _ _ _
  have kk : ∀ b o, h.get? b = some o → ((h.push { cls := .type "tuple", data := .seq [v].toArray }).push { cls := .ref 51, data := .fields (excFields h.objs.size) }).get? b = some o := fun b o e => Heap.get?_push_of_some _ (Heap.get?_push_of_some _ e)
  have hC₁ := kk _ _ hC
  have hget : ((h.push { cls := .type "tuple", data := .seq [v].toArray }).push { cls := .ref 51, data := .fields (excFields h.objs.size) }).get? (h.objs.size + 1) = some { cls := .ref 51, data := .fields (excFields h.objs.size) } := by heap_get
  have hcC : (Value.ref 51 :: [.ref 31, .type "Exception", .type "BaseException", .type "object"] : List Value).contains (.ref 51) = true := by simp
  have X₁ := X.keeps kk
  unfold isInstance
  repeat (first | with_reducible refine wpAny_loadPart_at hget ?_ | (with_reducible refine wpAny_isSubtype_exc hC₁ ?_; rw [hcC]) | wp_step)
  show wpAny _ _ (isSubtype (.ref 51) (.ref 51)) _ _ _
  refine wpAny_isSubtype_exc hC₁ ?_
  rw [hcC]
  have I : InstAt ((h.push { cls := .type "tuple", data := .seq [v].toArray }).push { cls := .ref 51, data := .fields (excFields h.objs.size) }) (h.objs.size + 1) { cls := .ref 51, data := .fields (excFields h.objs.size) } 51 none := ⟨hget, rfl, rfl, trivial⟩
  show wpAny _ _ (holding _ (callSpecial? (.ref (h.objs.size + 1)) "__init__" [v]) >>= _) _ _ _
  refine wpAny_bind (wpAny_holding (special_fn (s := ⟨(h.push { cls := .type "tuple", data := .seq [v].toArray }).push { cls := .ref 51, data := .fields (excFields h.objs.size) }, g, d, t, os⟩) X₁ I (k51_init _) (k48_fn _) ?_))
  refine wpAny_call (codeAny_mono hq fun r s' z => ?_)
  rcases r with e | (v' | _ | _ | _) <;> first | exact z | exact z.elim | skip
  obtain ⟨rfl, z⟩ := z
  exact wpAny_pure z
end
end
section
local macro_rules | `(tactic| walk_at "no such key") => `(tactic| skip)
theorem walk_off_E3 : True := by
  w_top off
  trivial
open PySem PySem.W PyProof.Rows PySem.Calls PySem.Builtin PySem.Builtin.ObjectAttr
section
variable {w : World} {mean : ExcName → Option Value} {mg mb : Str → Option Value} {A : Around} {env : Env} {outer : List Env} {A₀ : Around} {base h₀ : Heap} {L : Addr} {m : Str → Option Value} {s : Shared} {Q E : Value → Shared → Prop}
  (B : Below A₀ base outer h₀) (F : Fr h₀ L s.heap m) (X : (hd.heap_1 w.params).In h₀) (T : Top hdV (looseW hdV []) mean mg mb h₀)
  (hA : A.frames = some (env :: outer)) (hf : env.frame = some L) (hke : env.scope.kind = .function) (hh : A.handled = none)
include B F X T hA hf hke hh
theorem newErr (hdp : A.depth + 3 < recursionLimit) (hun : A.units + 16 < cLine) {v : Value}
    (hret : ∀ (e d t : Addr) (tk : Tok) (h' : Heap) (tk' : Nat), Kept s.heap h' [] → s.heap.get? e = none → s.heap.get? d = none → e ≠ d → h'.get? e = some { cls := .ref 51, dict := some d, data := .fields (excFields t) } → h'.get? d = some (ballDict w tk v) →
      Q (.ref e) { s with heap := h', toks := tk' }) :
    wpAny (model PySem.Challenge.rw_rh0079_01.row.prog w) A (PySem.call (.ref 51) [v]) Q E s := by
  revert X; k_fill; intro X
  refine wpAny_call ?_
  obtain ⟨hd0, dp, fr, gd, un⟩ := A
  dsimp only at hA hh hdp hun
  subst hA hh
  obtain ⟨sh, sg, sd, st, so⟩ := s
  refine make_exc (X.keeps F.keep) ?_
  have kk : ∀ b o, sh.get? b = some o → ((sh.push { cls := .type "tuple", data := .seq [v].toArray }).push { cls := .ref 51, data := .fields (excFields sh.objs.size) }).get? b = some o := fun b o e => Heap.get?_push_of_some _ (Heap.get?_push_of_some _ e)
  have hge : ((sh.push { cls := .type "tuple", data := .seq [v].toArray }).push { cls := .ref 51, data := .fields (excFields sh.objs.size) }).get? (sh.objs.size + 1) = some { cls := .ref 51, data := .fields (excFields sh.objs.size) } := by heap_get
  have hen : sh.get? (sh.objs.size + 1) = none := Heap.get?_none_of_le (by omega)
  generalize hE : sh.objs.size + 1 = e at hge hen ⊢
  generalize hT : sh.objs.size = t at hge ⊢
  generalize hH : (sh.push { cls := .type "tuple", data := .seq [v].toArray }).push { cls := .ref 51, data := .fields (excFields t) } = h1 at hge ⊢
  have kk1 : ∀ b o, sh.get? b = some o → h1.get? b = some o := by subst hT hH; exact kk
  have F1 : Fr h₀ L h1 m := by
    obtain ⟨oL, es, ep, hL, r⟩ := F.ns
    exact ⟨⟨oL, es, ep, kk1 _ _ hL, r⟩, fun b o e => kk1 b o (F.keep b o e), F.above⟩
  have ne := new_to F hen
  have N : News h₀ L h1 [(e, { cls := .ref 51, data := .fields (excFields t) })] := news_cons hge ne.1 ne.2 News.nil
  k_dflt (refine' enter_fn (rb := [(Str.ofString "ball", v), (Str.ofString "self", .ref e)]) (s := ⟨h1, sg, sd, st, so⟩) B F1 X N T ?kA hf hke ?k6 ?k7 ?k8 ?k9 ?kB ?kR ?_ ?c2 ?c3 ?c4 ?c5; (case kA => exact rfl); (case k6 => k_is); (case k7 => k_is); (case k8 => exact roomD (j := 0) hdp (by decide)); (case k9 => exact BindsTo.of_eq rfl); (case kR => exact rfl); (case c5 => decide); (case kB => exact locs rfl); (case c2 => exact rfl); (case c3 => exact rfl); (case c4 => exact rfl); k_whole; intro g' L' h' F' N' B' X' T' K' S' Z' tkE; (try dsimp only); (try k_fold); refine let_AE ?_; intro A1 en)
  k_steps
  (rename Fr g' L' _ _ => kF); (rename News g' L' _ _ => kN)
  refine set_plain (K := hd.heap_1 w.params) (C := 51) (od := none) (X'.keeps kF.keep) ⟨(kN _ (.head _)).1, rfl, rfl, trivial⟩ (k51_set _) (osa_exc (X'.keeps kF.keep) (kN _ (.head _)).1 (k51_cls _) (k51_ball _) (k51_mro _) fun h2 d tk2 kk2 hd0 hd1 he1 => ?_)
  have nd := new_to kF hd0
  have K2 : Kept h' h2 [e] := fun b o q hb => kk2 b o (by simpa using hb) q
  have F2 := kept_fr kF K2 (by simp only [List.mem_singleton, forall_eq]; exact ⟨(kN _ (.head _)).2.2, (kN _ (.head _)).2.1⟩)
  have N2 : News g' L' h2 [(e, { cls := .ref 51, dict := some d, data := .fields (excFields t) }), (d, ballDict w tk2 v)] := news_cons he1 (kN _ (.head _)).2.1 (kN _ (.head _)).2.2 (news_cons hd1 nd.1 nd.2 News.nil)
  have hed : e ≠ d := fun q => by rw [← q, (kN _ (.head _)).1] at hd0; cases hd0
  clear kF kN
  k_steps
  (try refine ⟨rfl, ?_⟩)
  (rename Kept h1 h2 _ => kK)
  have nie : ∀ b o, sh.get? b = some o → b ∉ [(e, ({ cls := .ref 51, data := .fields (excFields t) } : Obj))].map (·.1) := fun b o q => by
    simp only [List.map_cons, List.map_nil, List.mem_singleton]; rintro rfl; rw [hen] at q; cases q
  refine hret e d t tk2 h2 _ (fun b o q _ => kK b o (kk1 b o q) (nie b o q)) hen ?_ hed he1 hd1
  cases q : sh.get? d with
  | none => rfl
  | some o => have := K' d o (kk1 d o q) (nie d o q); rw [nd.2] at this; cases this
end
end
section
theorem walk_off_M8 : True := by
  w_top off
  trivial
open PySem PySem.W PyProof.Rows PySem.Calls PySem.Spec
/-- all that a heap holds beside a ground, a frame and some places -/
theorem rest_of {g h : Heap} {L : Addr} {m : Str → Option Value} (_F : Fr g L h m) (ex : List Addr) : ∃ rest : List (Addr × Obj), News g L h rest ∧ (∀ p ∈ rest, p.1 ∉ ex) ∧ ∀ a o, h.get? a = some o → g.get? a = none → a ≠ L → a ∉ ex → (a, o) ∈ rest := by
  refine ⟨(List.range h.objs.size).filterMap fun a => if (g.get? a).isSome = true ∨ a = L ∨ a ∈ ex then none else (h.get? a).map fun o => (a, o), ?_, ?_, ?_⟩
  · intro p hp
    obtain ⟨a, _, e⟩ := List.mem_filterMap.mp hp
    split at e
    · cases e
    · rename_i hn
      obtain ⟨o, ho, rfl⟩ := Option.map_eq_some_iff.mp e
      simp only [not_or, Option.isSome_iff_ne_none, ne_eq, Decidable.not_not] at hn
      exact ⟨ho, hn.2.1, hn.1⟩
  · intro p hp
    obtain ⟨a, _, e⟩ := List.mem_filterMap.mp hp
    split at e
    · cases e
    · rename_i hn
      obtain ⟨o, ho, rfl⟩ := Option.map_eq_some_iff.mp e
      simp only [not_or] at hn
      exact hn.2.2
  · intro a o ho hg hL hx
    refine List.mem_filterMap.mpr ⟨a, List.mem_range.mpr (Heap.lt_size ho), ?_⟩
    rw [if_neg (by simp [hg, hL, hx]), ho]; rfl
theorem news_append {g h : Heap} {L : Addr} {as bs : List (Addr × Obj)} (N : News g L h as) (M : News g L h bs) : News g L h (as ++ bs) := fun p hp => by
  rcases List.mem_append.mp hp with hp | hp
  · exact N p hp
  · exact M p hp
/-- from one heap of a frame to a later one: what stood beside the frame still stands -/
theorem later {g h1 h2 : Heap} {L : Addr} {m2 : Str → Option Value} {ex : List Addr} {rest news2 : List (Addr × Obj)} (F2 : Fr g L h2 m2) (hr : ∀ a o, h1.get? a = some o → g.get? a = none → a ≠ L → a ∉ ex → (a, o) ∈ rest)
    (G1 : ∀ b o, g.get? b = some o → h1.get? b = some o) (N2 : News g L h2 news2) (hs : ∀ p ∈ rest, p ∈ news2) : Kept h1 h2 (L :: ex) := fun b o e hn => by
  simp only [List.mem_cons, not_or] at hn
  cases q : g.get? b with
  | some o' => have := G1 b o' q; rw [e] at this; cases this; exact F2.keep _ _ q
  | none => exact (N2 _ (hs _ (hr b o e q hn.1 hn.2))).1
theorem key_kept' {w : World} {h h' : Heap} {ks : List Int} {a : Addr} {ms : List Addr} (k : IsTupleKey (kI w) h ks a) (K : Kept h h' ms) (hm : ∀ b ∈ ms, ∀ o, h.get? b = some o → o.cls = .type "tuple" → ∀ items n, o.data ≠ .seq items n) : IsTupleKey (kI w) h' ks a := by
  obtain ⟨o, items, n, ho, hc, hd, r⟩ := k
  exact ⟨o, items, n, K _ _ ho (fun q => hm a q o ho hc items n hd), hc, hd, r⟩
theorem SymH.kept' {w : World} {h h' : Heap} {z : SA} {tx : List Str} {fs : List (Int × Int)} {ms : List Addr} (Y : SymH w h z tx fs) (K : Kept h h' ms) (hz : ∀ b ∈ ms, b ∉ z.all) (hm : ∀ b ∈ ms, ∀ o, h.get? b = some o → o.cls = .type "tuple" → ∀ items n, o.data ≠ .seq items n) : SymH w h' z tx fs := by
  have k1 : ∀ a ∈ z.all, ∀ o, h.get? a = some o → h'.get? a = some o := fun a ha o e => K a o e fun q => hz a q ha
  simp only [SA.all, List.mem_cons, List.not_mem_nil, or_false, forall_eq_or_imp, forall_eq] at k1
  obtain ⟨vs, n, e3, e3'⟩ := Y.oT
  obtain ⟨o4, e4, e4'⟩ := Y.oAN
  obtain ⟨o5, xs, n5, e5, h5, h6, h7, e6⟩ := Y.oF
  exact { Y with oS := k1.1 _ Y.oS, odS := k1.2.1 _ Y.odS, oT := ⟨vs, n, k1.2.2.1 _ e3, e3'⟩, oAN := ⟨o4, k1.2.2.2.1 _ e4, e4'⟩, oF := ⟨o5, xs, n5, k1.2.2.2.2.2 _ e5, h5, h6, fun p hp => key_kept' (h7 p hp) K hm, k1.2.2.2.2.1 _ e6⟩ }

/-- the table's texts and functors behind an error's formal; the formal as data -/
noncomputable def erT (tx : List Str) (nm x : Str) : List Str := addNew (addNew tx x) nm
noncomputable def erF (tx : List Str) (fs : List (Int × Int)) (nm x : Str) (k : Int) : List (Int × Int) := addNew fs (numOf (erT tx nm x) nm, k)
noncomputable def formalD (tx : List Str) (fs : List (Int × Int)) (nm x : Str) (k : Int) (more : List PyData) : PyData :=
  .tuple [.str (Str.ofString "s"), .int (numOf (erF tx fs nm x k) (numOf (erT tx nm x) nm, k)), .tuple (.tuple [.str (Str.ofString "a"), .int (numOf (erT tx nm x) x)] :: more)]
theorem numOf_add {α : Type} [DecidableEq α] {l : List α} {x : α} (y : α) (h : x ∈ l) : numOf (addNew l y) x = numOf l x := by
  obtain ⟨r, e⟩ := addNew_prefix l y
  rw [e]; exact numOf_append h
theorem erT_x (tx : List Str) (nm x : Str) : numOf (erT tx nm x) x = numOf (addNew tx x) x := numOf_add nm (addNew_has tx x)
theorem unr_end {g h' : Heap} {L : Addr} {its news' all : List (Addr × Obj)} {rest : (Str → Option Value) → List (Addr × Obj) → Prop} {s₁ : Shared} {tk : Nat} {m' : Str → Option Value} (F : Fr g L h' m') (N : News g L h' all)
    (h1 : ∀ p ∈ its, p ∈ all) (h2 : ∀ p ∈ news', p ∈ all) (h3 : ∀ p ∈ news', ∀ q ∈ its, p.1 ≠ q.1) (r : rest m' news') : UnrEndW g L s₁ its rest { s₁ with heap := h', toks := tk } :=
  ⟨h', tk, m', news', rfl, F, fun p hp => by
    rcases List.mem_append.mp hp with hp | hp
    · exact N p (h1 p hp)
    · exact N p (h2 p hp), h3, r⟩
theorem unr_end2 {g h' : Heap} {L : Addr} {p q : Addr × Obj} {tl : List (Addr × Obj)} {rest : (Str → Option Value) → List (Addr × Obj) → Prop} {s₁ : Shared} {tk : Nat} {m' : Str → Option Value} (F : Fr g L h' m') (N : News g L h' (p :: q :: tl))
    (h3 : ∀ r ∈ p :: tl, r.1 ≠ q.1) (r : rest m' (p :: tl)) : UnrEndW g L s₁ [q] rest { s₁ with heap := h', toks := tk } :=
  unr_end F N (fun r hr => by simp only [List.mem_singleton] at hr; subst hr; simp) (fun r hr => by simp only [List.mem_cons] at hr ⊢; rcases hr with e | e <;> simp [e]) (fun r hr q' hq => by simp only [List.mem_singleton] at hq; subst hq; exact h3 r hr) r
theorem unr_end1 {g h' : Heap} {L : Addr} {q : Addr × Obj} {tl : List (Addr × Obj)} {rest : (Str → Option Value) → List (Addr × Obj) → Prop} {s₁ : Shared} {tk : Nat} {m' : Str → Option Value} (F : Fr g L h' m') (N : News g L h' (q :: tl))
    (h3 : ∀ r ∈ tl, r.1 ≠ q.1) (r : rest m' tl) : UnrEndW g L s₁ [q] rest { s₁ with heap := h', toks := tk } :=
  unr_end F N (fun r hr => by simp only [List.mem_singleton] at hr; subst hr; simp) (fun r hr => by simp [hr]) (fun r hr q' hq => by simp only [List.mem_singleton] at hq; subst hq; exact h3 r hr) r
/-- behind a call that turned the table: the ledger anew (all but its head in one rest), and the table at every later heap of the frame -/
theorem after_sym {w : World} {g h h1 : Heap} {L : Addr} {m : Str → Option Value} {z : SA} {head : List (Addr × Obj)} {tx : List Str} {fs : List (Int × Int)} (F : Fr g L h1 m) (N : News g L h head) (K : Kept h h1 z.mods) (Y : SymH w h1 z tx fs) (hz : Fresh g L z)
    (gS : g.get? z.S = some (instObj 154 z.dS)) (gdS : g.get? z.dS = some (symDict w z)) (hd : ∀ p ∈ head, p.1 ∉ z.mods) :
    ∃ rest, News g L h1 (head ++ rest) ∧ (∀ p ∈ rest, p.1 ∉ head.map (·.1)) ∧ (∀ b o, h1.get? b = some o → g.get? b = none → b ≠ L → b ∉ head.map (·.1) → (b, o) ∈ rest) ∧
      ∀ (h2 : Heap) (m2 : Str → Option Value) (news2 : List (Addr × Obj)) (ch : List Addr), Fr g L h2 m2 → News g L h2 news2 → (∀ p ∈ head ++ rest, p.1 ∈ ch ∨ p ∈ news2) → (∀ b ∈ ch, b ∉ z.all) →
        (∀ b ∈ ch, ∀ o, h1.get? b = some o → o.cls ≠ .type "tuple") → SymH w h2 z tx fs := by
  obtain ⟨rest, NR, hR1, hR2⟩ := rest_of F (head.map (·.1))
  have NA := news_append (kept_news N K hd) NR
  refine ⟨rest, NA, hR1, hR2, fun h2 m2 news2 ch F2 N2 hs hc1 hc2 => ?_⟩
  have KK : Kept h1 h2 (L :: ch) := fun b o e hn => by
    have n1 : b ≠ L := fun q => hn (q ▸ .head _)
    have n2 : b ∉ ch := fun q => hn (.tail _ q)
    cases q : g.get? b with
    | some o' => have := F.keep b o' q; rw [e] at this; cases this; exact F2.keep _ _ q
    | none =>
      by_cases hb : b ∈ head.map (·.1)
      · obtain ⟨p, hp, rfl⟩ := List.mem_map.mp hb
        have e2 := (NA p (List.mem_append_left _ hp)).1
        rw [e] at e2; cases e2
        exact (N2 _ ((hs p (List.mem_append_left _ hp)).resolve_left n2)).1
      · exact (N2 _ ((hs _ (List.mem_append_right _ (hR2 b o e q n1 hb))).resolve_left n2)).1
  refine Y.kept' KK (fun b hb => ?_) fun b hb o ho hc items n hdat => ?_
  · rcases List.mem_cons.mp hb with rfl | hb
    · intro q
      have hL : ∀ o, g.get? b ≠ some o := fun o q' => absurd (Nat.lt_of_lt_of_le (Heap.lt_size q') F.above) (Nat.lt_irrefl _)
      rcases List.mem_cons.mp q with e | q
      · exact hL _ (e ▸ gS)
      rcases List.mem_cons.mp q with e | q
      · exact hL _ (e ▸ gdS)
      · exact (hz b q).2 rfl
    · exact hc1 b hb
  · rcases List.mem_cons.mp hb with rfl | hb
    · obtain ⟨oL, es, ep, hL, hd', _⟩ := F.ns
      rw [hL] at ho; cases ho; rw [hd'] at hdat; cases hdat
    · exact hc2 b hb o ho hc
theorem allLt_at {I : Nat} : ∀ {rest : List (Addr × Obj)}, AllLt I rest → ∀ p ∈ rest, p.1 < I
  | [], _, p, hp => nomatch hp
  | q :: r, h, p, hp => by
    rcases List.mem_cons.mp hp with rfl | hp
    · exact h.1
    · exact allLt_at h.2 p hp
/-- the head's places are none of the rest's -/
theorem off_head {a b : Nat} {oa ob : Obj} {rest : List (Addr × Obj)} (h : ∀ p ∈ rest, p.1 ∉ [(a, oa), (b, ob)].map (·.1)) : (∀ p ∈ rest, p.1 ≠ a) ∧ ∀ p ∈ rest, p.1 ≠ b :=
  ⟨fun p hp q => h p hp (q ▸ .head _), fun p hp q => h p hp (q ▸ .tail _ (.head _))⟩

theorem off2 {a c b : Nat} {oa oc : Obj} (h1 : b ≠ a) (h2 : b ≠ c) : b ∉ [(a, oa), (c, oc)].map (·.1) := fun q => by
  rcases List.mem_cons.mp q with q | q
  · exact h1 q
  · exact h2 (List.mem_singleton.mp q)
theorem mods_of2 {z : SA} {b : Addr} (h : b ∈ [z.T, z.AN]) : b ∈ z.mods := by
  rcases List.mem_cons.mp h with rfl | h
  · exact .head _
  · rw [List.mem_singleton.mp h]; exact .tail _ (.head _)
theorem mods_sub {z : SA} {b : Addr} (h : b ∈ z.mods) : b ∈ z.all := .tail _ (.tail _ h)
theorem offm {z : SA} {D : Nat} (h : z.T < D ∧ z.AN < D ∧ z.F < D ∧ z.FN < D) : D ∉ z.mods := by
  simp only [SA.mods, List.mem_cons, List.not_mem_nil, or_false, not_or]
  omega
theorem offall {w : World} {g : Heap} {z : SA} {b : Addr} (hg : g.get? b = none) (gS : g.get? z.S = some (instObj 154 z.dS)) (gdS : g.get? z.dS = some (symDict w z)) (hm : b ∉ z.mods) : b ∉ z.all := fun q => by
  rcases List.mem_cons.mp q with q | q
  · subst q; rw [gS] at hg; cases hg
  · rcases List.mem_cons.mp q with q | q
    · subst q; rw [gdS] at hg; cases hg
    · exact hm q
theorem two_of {P : Addr → Prop} {a b : Addr} (h1 : P a) (h2 : P b) : ∀ x ∈ [a, b], P x := fun x hx => by
  rcases List.mem_cons.mp hx with rfl | hx
  · exact h1
  · rw [List.mem_singleton.mp hx]; exact h2
theorem three_of {P : Addr → Prop} {a b c : Addr} (h1 : P a) (h2 : P b) (h3 : P c) : ∀ x ∈ [a, b, c], P x := fun x hx => by
  rcases List.mem_cons.mp hx with rfl | hx
  · exact h1
  · exact two_of h2 h3 x hx
theorem four_of {P : Addr → Prop} {a b c d : Addr} (h1 : P a) (h2 : P b) (h3 : P c) (h4 : P d) : ∀ x ∈ [a, b, c, d], P x := fun x hx => by
  rcases List.mem_cons.mp hx with rfl | hx
  · exact h1
  · exact three_of h2 h3 h4 x hx
theorem takeN {g h : Heap} {L : Addr} {xs ys : List (Addr × Obj)} (N : News g L h (xs ++ ys)) : News g L h xs := fun p hp => N p (List.mem_append_left _ hp)
end
local macro_rules | `(tactic| k_all) => `(tactic| assumption)
section
end
local macro_rules | `(tactic| k_mem) => `(tactic| assumption)
section
section
variable {w : World} {mean : ExcName → Option Value} {mg mb : Str → Option Value} {A : Around} {env : Env} {outer : List Env} {A₀ : Around} {base h₀ : Heap} {L : Addr} {m : Str → Option Value} {s : Shared} {Q E : Value → Shared → Prop}
  (B : Below A₀ base outer h₀) (F : Fr h₀ L s.heap m) (X : (hd.heap_1 w.params).In h₀) (T : Top hdV (looseW hdV []) mean mg mb h₀)
  (hA : A.frames = some (env :: outer)) (hf : env.frame = some L) (hke : env.scope.kind = .function) (hh : A.handled = none)
include B F X T hA hf hke hh
theorem formal2_spec (hdp : A.depth + 4 < recursionLimit) (hun : A.units + 40 < cLine) {z : SA} {tx : List Str} {fs : List (Int × Int)} {nm x : Str} {t t2 tc1 tc2 : Tok} {P cu : Nat} {ci : Int} (Y : SymH w s.heap z tx fs) (hz : Fresh h₀ L z) (hlt : tx.length < 80000) (hlf : fs.length < 80000)
    (hP : s.heap.get? P = some { cls := .type "tuple", data := .seq #[.str x t2, .ref cu] }) (hP0 : h₀.get? P = none ∧ P ≠ L) (hc : s.heap.get? cu = some { cls := .type "tuple", data := .seq #[.str "i" tc1, .int ci tc2] }) (hc0 : h₀.get? cu = none ∧ cu ≠ L) (hPc : P ≠ cu)
    (hret : ∀ (a : Addr) (h' : Heap) (tk' : Nat), Kept s.heap h' z.mods → SymH w h' z (erT tx nm x) (erF tx fs nm x 2) → Reads h' (.ref a) (formalD tx fs nm x 2 [.tuple [.str (Str.ofString "i"), .int ci]]) [] → Q (.ref a) { s with heap := h', toks := tk' }) :
    wpAny (model PySem.Challenge.rw_rh0079_01.row.prog w) A (PySem.call (.ref 193) [.ref z.S, .str nm t, .ref P]) Q E s := by
  revert X; k_fill; intro X
  refine wpAny_call ?_
  obtain ⟨hd0, dp, fr, gd, un⟩ := A
  dsimp only at hA hh hdp hun
  subst hA hh
  have hPz : ∀ a ∈ z.all, P ≠ a := fun a ha q => Y.notTup a ha _ (q ▸ hP) rfl
  have hcz : ∀ a ∈ z.all, cu ≠ a := fun a ha q => Y.notTup a ha _ (q ▸ hc) rfl
  simp only [SA.all, List.mem_cons, List.not_mem_nil, or_false, forall_eq_or_imp, forall_eq] at hPz hcz
  obtain ⟨P1, P2, P3, P4, P5, P6⟩ := hPz
  obtain ⟨c1, c2, c3, c4, c5, c6⟩ := hcz
  obtain ⟨n1, n2, n3, n4, n5, n6, n7, n8, n9, n10, n11, n12, n13, n14, n15⟩ := Y.ne
  obtain ⟨o1, o2, o3, o4, N⟩ := Y.four hz
  have N := news_cons hP hP0.2 hP0.1 (news_cons hc hc0.2 hc0.1 N)
  k_dflt (refine' enter_fn (rb := [(Str.ofString "parts", .ref P), (Str.ofString "name", .str nm t), (Str.ofString "symbols", .ref z.S)]) B F X N T ?kA hf hke ?k6 ?k7 ?k8 ?k9 ?kB ?kR ?_ ?c2 ?c3 ?c4 ?c5; (case kA => exact rfl); (case k6 => k_is); (case k7 => k_is); (case k8 => exact room0 hdp); (case k9 => exact BindsTo.of_eq rfl); (case kR => exact rfl); (case c5 => decide); (case kB => exact locs rfl); (case c2 => exact rfl); (case c3 => exact rfl); (case c4 => exact rfl); k_whole; intro g' L' h' F' N' B' X' T' K' S' Z' tkE; (try dsimp only); (try k_fold); refine let_AE ?_; intro A1 en)
  have gS := K' _ _ Y.oS (by simp only [List.map_cons, List.map_nil, List.mem_cons, List.not_mem_nil, or_false, not_or]; exact ⟨Ne.symm P1, Ne.symm c1, n2, n3, n4, n5⟩)
  have gdS := K' _ _ Y.odS (by simp only [List.map_cons, List.map_nil, List.mem_cons, List.not_mem_nil, or_false, not_or]; exact ⟨Ne.symm P2, Ne.symm c2, n6, n7, n8, n9⟩)
  have hz' := fresh_of fun p hp => N' p (.tail _ (.tail _ hp))
  have N0 := fun p hp => (N p hp).1
  clear N
  k_steps
  unfold Stop
  rename_i l hA l1 hB tkB _ i l2 hC tkC FC o hoc NC h1 F1 N1 _
  have Y1 := Y.kept0 (whole K' F1 (fun p hp => N1 p (.tail _ (.tail _ hp))) N0)
  k_dflt (refine atom_spec B' F1 X' T' rfl rfl rfl rfl (roomD hdp (by decide)) (roomU hun (by decide)) Y1 hz' (by omega) ?_)
  intro tk1 h2 tk1' K1 Y2
  have F2 := kept_fr F1 K1 (fun b hb => hz' b (by simp only [SA.mods, List.mem_cons, List.not_mem_nil, or_false] at hb ⊢; rcases hb with e | e <;> simp [e]))
  have ml : l ∉ z.mods := offm (by omega)
  have mi : i ∉ z.mods := offm (by omega)
  have mP : P ∉ z.mods := fun q => Y.notTup _ (mods_sub q) _ hP rfl
  have mc : cu ∉ z.mods := fun q => Y.notTup _ (mods_sub q) _ hc rfl
  have hHm := two_of (P := (· ∉ z.mods)) mi ml
  have uP := N1 _ (.tail _ (.tail _ (.head _)))
  have uc := N1 _ (.tail _ (.tail _ (.tail _ (.head _))))
  obtain ⟨rest, N2, hR, hIn, hY2⟩ := after_sym (head := [(i, o), (l, W.listOf #[] 0)]) F2 (takeN (xs := [_, _]) N1) (K1.sub (by simp only [SA.mods, List.mem_cons, List.not_mem_nil, or_false]; rintro b (e | e) <;> simp [e])) Y2 hz' gS gdS (fun p hp => hHm _ (List.mem_map_of_mem (f := (·.1)) hp))
  obtain ⟨hRi, hRl⟩ := off_head hR
  have il : l ≠ i := Nat.ne_of_lt l2.1
  have pP := hIn P _ (K1 _ _ uP.1 (fun q => mP (mods_of2 q))) uP.2.2 uP.2.1 (off2 (Nat.ne_of_lt l2.2.1) (Nat.ne_of_lt l1.1))
  have pc := hIn cu _ (K1 _ _ uc.1 (fun q => mc (mods_of2 q))) uc.2.2 uc.2.1 (off2 (Nat.ne_of_lt l2.2.2.1) (Nat.ne_of_lt l1.2.1))
  have hM : ∀ b ∈ z.mods, ∃ o, (b, o) ∈ rest := fun b q => by
    obtain ⟨t1, t2, t3, t4, NM⟩ := Y2.four hz'
    obtain ⟨p, hp, rfl⟩ := List.mem_map.mp (show b ∈ [(z.T, t1), (z.AN, t2), (z.F, t3), (z.FN, t4)].map (·.1) from q)
    exact ⟨p.2, hIn p.1 p.2 (NM p hp).1 (hz' p.1 q).1 (hz' p.1 q).2 (off2 (fun r => mi (r ▸ q)) (fun r => ml (r ▸ q)))⟩
  clear uP uc hIn hR
  simp only [List.cons_append, List.nil_append] at N2
  have hchz := two_of (P := (· ∉ z.all)) (offall (N2 (l, _) (.tail _ (.head _))).2.2 gS gdS ml) (offall (N2 (i, _) (.head _)).2.2 gS gdS mi)
  have hchc : ∀ b ∈ [l, i], ∀ o, h2.get? b = some o → o.cls ≠ .type "tuple" := fun b hb ob hob => by
    simp only [List.mem_cons, List.not_mem_nil, or_false] at hb
    rcases hb with rfl | rfl
    · rw [(N2 (b, _) (.tail _ (.head _))).1] at hob; cases hob; simp
    · rw [(N2 (b, _) (.head _)).1] at hob; cases hob; rw [hoc]; simp
  clear F1 N1 FC NC
  k_steps
  rename_i D h3 l3 h4 F4 N4
  refine unr_end2 F4 N4 ?_ ⟨⟨by simp [pP], trivial⟩, ?_⟩
  · exact List.forall_mem_cons.mpr ⟨Nat.ne_of_gt l3.1, List.forall_mem_cons.mpr ⟨il, hRi⟩⟩
  clear N4 F4
  k_steps
  (rename Fr g' L' _ _ => kF); (rename News g' L' _ _ => kN)
  refine unr_end1 kF kN ?_ ⟨⟨by simp [pP], trivial⟩, ?_⟩
  · exact List.forall_mem_cons.mpr ⟨Nat.ne_of_gt l3.1, List.forall_mem_cons.mpr ⟨il, hRi⟩⟩
  clear kF kN
  k_steps
  unfold Stop
  (rename Fr g' L' _ _ => kF); (rename News g' L' _ _ => kN)
  have Y3 := hY2 _ _ _ [l, i] kF kN (List.forall_mem_cons.mpr ⟨.inl (.tail _ (.head _)), List.forall_mem_cons.mpr ⟨.inl (.head _), fun p hp => .inr (by repeat (first | exact hp | refine List.Mem.tail _ ?_))⟩⟩) hchz hchc
  k_dflt (refine func_spec B' kF X' T' rfl rfl rfl rfl (roomD hdp (by decide)) (roomU hun (by decide)) Y3 hz' (by have := addNew_length tx x; omega) (by omega) ?_)
  intro tk3 h7 tk3' K3 Y4
  have F7 := kept_fr kF K3 hz'
  have u1 := kN _ (.head _)
  have u2 := kN _ (.tail _ (.head _))
  have uP := kN (P, _) (by repeat (first | exact pP | refine List.Mem.tail _ ?_))
  have uc := kN (cu, _) (by repeat (first | exact pc | refine List.Mem.tail _ ?_))
  have hHm2 := two_of (P := (· ∉ z.mods)) (fun q => (hM D q).elim fun o r => Nat.lt_irrefl _ (allLt_at l3.2.2 _ r)) ml
  obtain ⟨rest2, N7, hR2, hIn2, hY4⟩ := after_sym F7 (news_cons u1.1 u1.2.1 u1.2.2 (news_cons u2.1 u2.2.1 u2.2.2 News.nil)) K3 Y4 hz' gS gdS (fun p hp => hHm2 _ (List.mem_map_of_mem (f := (·.1)) hp))
  have pP2 := hIn2 P _ (K3 _ _ uP.1 mP) uP.2.2 uP.2.1 (off2 (Nat.ne_of_lt (allLt_at l3.2.2 _ pP)) (hRl _ pP))
  have pc2 := hIn2 cu _ (K3 _ _ uc.1 mc) uc.2.2 uc.2.1 (off2 (Nat.ne_of_lt (allLt_at l3.2.2 _ pc)) (hRl _ pc))
  simp only [List.cons_append, List.nil_append] at N7
  clear kF kN u1 u2 uP uc hIn2
  k_steps
  (rename News h₀ L _ _ => kN); (rename Kept s.heap _ _ => kK); (rename Fr g' _ _ _ => gF); (rename News g' _ _ _ => gN)
  have Y5 := hY4 _ _ _ [] gF gN (fun p hp => .inr (by repeat (first | exact hp | refine List.Mem.tail _ ?_))) (fun _ h => nomatch h) (fun _ h => nomatch h)
  have v1 := kN _ (.head _)
  have v2 := kN _ (.tail _ (.head _))
  have v3 := kN _ (.tail _ (.tail _ (.head _)))
  have v4 := kN (P, _) (by repeat (first | exact pP2 | refine List.Mem.tail _ ?_))
  have v5 := kN (cu, _) (by repeat (first | exact pc2 | refine List.Mem.tail _ ?_))
  refine hret _ _ _ (fun b o e hn => ?_) Y5 ?_
  · by_cases qP : b = P
    · subst qP; rw [hP] at e; cases e; exact v4.1
    by_cases qc : b = cu
    · subst qc; rw [hc] at e; cases e; exact v5.1
    refine kK b o e ?_
    simp only [SA.mods, List.mem_cons, List.not_mem_nil, or_false, not_or, List.map_cons, List.map_nil] at hn ⊢
    exact ⟨qP, qc, hn⟩
  · unfold formalD
    rw [erT_x]
    exact .tuple v1.1 rfl rfl (.cons (.str _ _) (.cons (.int _ _) (.cons (.tuple v2.1 rfl rfl (.cons (.tuple v3.1 rfl rfl (.cons (.str _ _) (.cons (.int _ _) .nil))) (.cons (.tuple v5.1 rfl rfl (.cons (.str _ _) (.cons (.int _ _) .nil))) .nil))) .nil)))
end
end
section
local macro_rules | `(tactic| walk_at "no such key") => `(tactic| skip)
theorem walk_off_M9 : True := by
  w_top off
  trivial
open PySem PySem.W PyProof.Rows PySem.Calls PySem.Spec
section
variable {w : World} {mean : ExcName → Option Value} {mg mb : Str → Option Value} {A : Around} {env : Env} {outer : List Env} {A₀ : Around} {base h₀ : Heap} {L : Addr} {m : Str → Option Value} {s : Shared} {Q E : Value → Shared → Prop}
  (B : Below A₀ base outer h₀) (F : Fr h₀ L s.heap m) (X : (hd.heap_1 w.params).In h₀) (T : Top hdV (looseW hdV []) mean mg mb h₀)
  (hA : A.frames = some (env :: outer)) (hf : env.frame = some L) (hke : env.scope.kind = .function) (hh : A.handled = none)
include B F X T hA hf hke hh
theorem formal1_spec (hdp : A.depth + 4 < recursionLimit) (hun : A.units + 40 < cLine) {z : SA} {tx : List Str} {fs : List (Int × Int)} {nm x : Str} {t t2 : Tok} {P : Nat} (Y : SymH w s.heap z tx fs) (hz : Fresh h₀ L z) (hlt : tx.length < 80000) (hlf : fs.length < 80000)
    (hP : s.heap.get? P = some { cls := .type "tuple", data := .seq #[.str x t2] }) (hP0 : h₀.get? P = none ∧ P ≠ L)
    (hret : ∀ (a : Addr) (h' : Heap) (tk' : Nat), Kept s.heap h' z.mods → SymH w h' z (erT tx nm x) (erF tx fs nm x 1) → Reads h' (.ref a) (formalD tx fs nm x 1 []) [] → Q (.ref a) { s with heap := h', toks := tk' }) :
    wpAny (model PySem.Challenge.rw_rh0079_01.row.prog w) A (PySem.call (.ref 193) [.ref z.S, .str nm t, .ref P]) Q E s := by
  revert X; k_fill; intro X
  refine wpAny_call ?_
  obtain ⟨hd0, dp, fr, gd, un⟩ := A
  dsimp only at hA hh hdp hun
  subst hA hh
  have hPz : ∀ a ∈ z.all, P ≠ a := fun a ha q => Y.notTup a ha _ (q ▸ hP) rfl
  simp only [SA.all, List.mem_cons, List.not_mem_nil, or_false, forall_eq_or_imp, forall_eq] at hPz
  obtain ⟨P1, P2, P3, P4, P5, P6⟩ := hPz
  obtain ⟨n1, n2, n3, n4, n5, n6, n7, n8, n9, n10, n11, n12, n13, n14, n15⟩ := Y.ne
  obtain ⟨o1, o2, o3, o4, N⟩ := Y.four hz
  have N := news_cons hP hP0.2 hP0.1 N
  k_dflt (refine' enter_fn (rb := [(Str.ofString "parts", .ref P), (Str.ofString "name", .str nm t), (Str.ofString "symbols", .ref z.S)]) B F X N T ?kA hf hke ?k6 ?k7 ?k8 ?k9 ?kB ?kR ?_ ?c2 ?c3 ?c4 ?c5; (case kA => exact rfl); (case k6 => k_is); (case k7 => k_is); (case k8 => exact room0 hdp); (case k9 => exact BindsTo.of_eq rfl); (case kR => exact rfl); (case c5 => decide); (case kB => exact locs rfl); (case c2 => exact rfl); (case c3 => exact rfl); (case c4 => exact rfl); k_whole; intro g' L' h' F' N' B' X' T' K' S' Z' tkE; (try dsimp only); (try k_fold); refine let_AE ?_; intro A1 en)
  have gS := K' _ _ Y.oS (by simp only [List.map_cons, List.map_nil, List.mem_cons, List.not_mem_nil, or_false, not_or]; exact ⟨Ne.symm P1, n2, n3, n4, n5⟩)
  have gdS := K' _ _ Y.odS (by simp only [List.map_cons, List.map_nil, List.mem_cons, List.not_mem_nil, or_false, not_or]; exact ⟨Ne.symm P2, n6, n7, n8, n9⟩)
  have hz' := fresh_of fun p hp => N' p (.tail _ hp)
  have N0 := fun p hp => (N p hp).1
  clear N
  k_steps
  unfold Stop
  rename_i l hA l1 hB tkB _ i l2 hC tkC FC o hoc NC h1 F1 N1 _
  have Y1 := Y.kept0 (whole K' F1 (fun p hp => N1 p (.tail _ (.tail _ hp))) N0)
  k_dflt (refine atom_spec B' F1 X' T' rfl rfl rfl rfl (roomD hdp (by decide)) (roomU hun (by decide)) Y1 hz' (by omega) ?_)
  intro tk1 h2 tk1' K1 Y2
  have F2 := kept_fr F1 K1 (fun b hb => hz' b (by simp only [SA.mods, List.mem_cons, List.not_mem_nil, or_false] at hb ⊢; rcases hb with e | e <;> simp [e]))
  have ml : l ∉ z.mods := offm (by omega)
  have mi : i ∉ z.mods := offm (by omega)
  have mP : P ∉ z.mods := fun q => Y.notTup _ (mods_sub q) _ hP rfl
  have hHm := two_of (P := (· ∉ z.mods)) mi ml
  have uP := N1 _ (.tail _ (.tail _ (.head _)))
  obtain ⟨rest, N2, hR, hIn, hY2⟩ := after_sym (head := [(i, o), (l, W.listOf #[] 0)]) F2 (takeN (xs := [_, _]) N1) (K1.sub (by simp only [SA.mods, List.mem_cons, List.not_mem_nil, or_false]; rintro b (e | e) <;> simp [e])) Y2 hz' gS gdS (fun p hp => hHm _ (List.mem_map_of_mem (f := (·.1)) hp))
  obtain ⟨hRi, hRl⟩ := off_head hR
  have il : l ≠ i := Nat.ne_of_lt l2.1
  have pP := hIn P _ (K1 _ _ uP.1 (fun q => mP (mods_of2 q))) uP.2.2 uP.2.1 (off2 (Nat.ne_of_lt l2.2.1) (Nat.ne_of_lt l1.1))
  have hM : ∀ b ∈ z.mods, ∃ o, (b, o) ∈ rest := fun b q => by
    obtain ⟨t1, t2, t3, t4, NM⟩ := Y2.four hz'
    obtain ⟨p, hp, rfl⟩ := List.mem_map.mp (show b ∈ [(z.T, t1), (z.AN, t2), (z.F, t3), (z.FN, t4)].map (·.1) from q)
    exact ⟨p.2, hIn p.1 p.2 (NM p hp).1 (hz' p.1 q).1 (hz' p.1 q).2 (off2 (fun r => mi (r ▸ q)) (fun r => ml (r ▸ q)))⟩
  clear uP hIn hR
  simp only [List.cons_append, List.nil_append] at N2
  have hchz := two_of (P := (· ∉ z.all)) (offall (N2 (l, _) (.tail _ (.head _))).2.2 gS gdS ml) (offall (N2 (i, _) (.head _)).2.2 gS gdS mi)
  have hchc : ∀ b ∈ [l, i], ∀ o, h2.get? b = some o → o.cls ≠ .type "tuple" := fun b hb ob hob => by
    simp only [List.mem_cons, List.not_mem_nil, or_false] at hb
    rcases hb with rfl | rfl
    · rw [(N2 (b, _) (.tail _ (.head _))).1] at hob; cases hob; simp
    · rw [(N2 (b, _) (.head _)).1] at hob; cases hob; rw [hoc]; simp
  clear F1 N1 FC NC
  k_steps
  rename_i D h3 l3 h4 F4 N4
  refine unr_end2 F4 N4 ?_ ⟨⟨by simp [pP], trivial⟩, ?_⟩
  · exact List.forall_mem_cons.mpr ⟨Nat.ne_of_gt l3.1, List.forall_mem_cons.mpr ⟨il, hRi⟩⟩
  clear N4 F4
  k_steps
  unfold Stop
  (rename Fr g' L' _ _ => kF); (rename News g' L' _ _ => kN)
  have Y3 := hY2 _ _ _ [l, i] kF kN (List.forall_mem_cons.mpr ⟨.inl (.tail _ (.head _)), List.forall_mem_cons.mpr ⟨.inl (.head _), fun p hp => .inr (by repeat (first | exact hp | refine List.Mem.tail _ ?_))⟩⟩) hchz hchc
  k_dflt (refine func_spec B' kF X' T' rfl rfl rfl rfl (roomD hdp (by decide)) (roomU hun (by decide)) Y3 hz' (by have := addNew_length tx x; omega) (by omega) ?_)
  intro tk3 h7 tk3' K3 Y4
  have F7 := kept_fr kF K3 hz'
  have u1 := kN _ (.head _)
  have u2 := kN _ (.tail _ (.head _))
  have uP := kN (P, _) (by repeat (first | exact pP | refine List.Mem.tail _ ?_))
  have hHm2 := two_of (P := (· ∉ z.mods)) (fun q => (hM D q).elim fun o r => Nat.lt_irrefl _ (allLt_at l3.2.2 _ r)) ml
  obtain ⟨rest2, N7, hR2, hIn2, hY4⟩ := after_sym F7 (news_cons u1.1 u1.2.1 u1.2.2 (news_cons u2.1 u2.2.1 u2.2.2 News.nil)) K3 Y4 hz' gS gdS (fun p hp => hHm2 _ (List.mem_map_of_mem (f := (·.1)) hp))
  have pP2 := hIn2 P _ (K3 _ _ uP.1 mP) uP.2.2 uP.2.1 (off2 (Nat.ne_of_lt (allLt_at l3.2.2 _ pP)) (hRl _ pP))
  simp only [List.cons_append, List.nil_append] at N7
  clear kF kN u1 u2 uP hIn2
  k_steps
  (rename News h₀ L _ _ => kN); (rename Kept s.heap _ _ => kK); (rename Fr g' _ _ _ => gF); (rename News g' _ _ _ => gN)
  have Y5 := hY4 _ _ _ [] gF gN (fun p hp => .inr (by repeat (first | exact hp | refine List.Mem.tail _ ?_))) (fun _ h => nomatch h) (fun _ h => nomatch h)
  have v1 := kN _ (.head _)
  have v2 := kN _ (.tail _ (.head _))
  have v3 := kN _ (.tail _ (.tail _ (.head _)))
  have v4 := kN (P, _) (by repeat (first | exact pP2 | refine List.Mem.tail _ ?_))
  refine hret _ _ _ (fun b o e hn => ?_) Y5 ?_
  · by_cases qP : b = P
    · subst qP; rw [hP] at e; cases e; exact v4.1
    refine kK b o e ?_
    simp only [SA.mods, List.mem_cons, List.not_mem_nil, or_false, not_or, List.map_cons, List.map_nil] at hn ⊢
    exact ⟨qP, hn⟩
  · unfold formalD
    rw [erT_x]
    exact .tuple v1.1 rfl rfl (.cons (.str _ _) (.cons (.int _ _) (.cons (.tuple v2.1 rfl rfl (.cons (.tuple v3.1 rfl rfl (.cons (.str _ _) (.cons (.int _ _) .nil))) .nil)) .nil)))
end
end
section
theorem walk_off_M10 : True := by
  w_top off
  trivial
open PySem PySem.W PyProof.Rows PySem.Calls PySem.Spec
noncomputable def ballD (fd : PyData) : PyData := .tuple [.str (Str.ofString "s"), .int 16, .tuple [fd, .tuple [.str (Str.ofString "a"), .int 25]]]
/-- a PrologError made anew, its ball as data -/
noncomputable def NewErr (w : World) (h h' : Heap) (e : Addr) (D : PyData) : Prop := ∃ (d t : Addr) (tk : Tok) (v : Value), h.get? e = none ∧ h.get? d = none ∧ e ≠ d ∧ h'.get? e = some { cls := .ref 51, dict := some d, data := .fields (excFields t) } ∧ h'.get? d = some (ballDict w tk v) ∧ Reads h' v D []
theorem reads0 {h h' : Heap} {v : Value} {d : PyData} (r : Reads h v d []) (K : Kept h h' []) : Reads h' v d [] := Reads.keeps (fun b o e => K b o e (by simp)) r
theorem kept00 {h h' : Heap} (K : Kept h h' []) (ms : List Addr) : Kept h h' ms := fun b o e _ => K b o e (by simp)
theorem none_back {h h' : Heap} {a : Addr} (K : ∀ b o, h.get? b = some o → ∃ o', h'.get? b = some o') (e : h'.get? a = none) : h.get? a = none := by
  cases q : h.get? a with
  | none => rfl
  | some o => obtain ⟨o', e'⟩ := K a o q; rw [e] at e'; cases e'
theorem SymH.ex {w : World} {h : Heap} {z : SA} {tx : List Str} {fs : List (Int × Int)} (Y : SymH w h z tx fs) : ∀ b ∈ z.mods, ∃ o, h.get? b = some o := fun b hb => by
  obtain ⟨vs, nT, oT, hT⟩ := Y.oT
  obtain ⟨oAN, hAN, aAN⟩ := Y.oAN
  obtain ⟨oFN, xs, nF, hFN, aFN, cFN, kFN, hFl⟩ := Y.oF
  simp only [SA.mods, List.mem_cons, List.not_mem_nil, or_false] at hb
  rcases hb with rfl | rfl | rfl | rfl
  · exact ⟨_, oT⟩
  · exact ⟨_, hAN⟩
  · exact ⟨_, hFl⟩
  · exact ⟨_, hFN⟩
/-- what is new behind a turn of the table was new ahead of it -/
theorem new_back {w : World} {h h' : Heap} {z : SA} {tx : List Str} {fs : List (Int × Int)} {a : Addr} (K : Kept h h' z.mods) (Y : SymH w h' z tx fs) (e : h'.get? a = none) : h.get? a = none :=
  none_back (fun b o q => by
    by_cases hb : b ∈ z.mods
    · exact Y.ex b hb
    · exact ⟨o, K b o q hb⟩) e
section
variable {w : World} {mean : ExcName → Option Value} {mg mb : Str → Option Value} {A : Around} {env : Env} {outer : List Env} {A₀ : Around} {base h₀ : Heap} {L : Addr} {m : Str → Option Value} {s : Shared} {Q E : Value → Shared → Prop}
  (B : Below A₀ base outer h₀) (F : Fr h₀ L s.heap m) (X : (hd.heap_1 w.params).In h₀) (T : Top hdV (looseW hdV []) mean mg mb h₀)
  (hA : A.frames = some (env :: outer)) (hf : env.frame = some L) (hke : env.scope.kind = .function) (hh : A.handled = none)
include B F X T hA hf hke hh
theorem integer_spec (hdp : A.depth + 1 < recursionLimit) (hun : A.units + 8 < cLine) {n : Int} {t : Tok}
    (hret : ∀ (a : Addr) (h' : Heap) (tk' : Nat) (t1 t2 : Tok), Kept s.heap h' [] → s.heap.get? a = none → h'.get? a = some { cls := .type "tuple", data := .seq #[.str (Str.ofString "i") t1, .int n t2] } → Q (.ref a) { s with heap := h', toks := tk' }) :
    wpAny (model PySem.Challenge.rw_rh0079_01.row.prog w) A (PySem.call (.ref 172) [.int n t]) Q E s := by
  revert X; k_fill; intro X
  refine wpAny_call ?_
  obtain ⟨hd0, dp, fr, gd, un⟩ := A
  dsimp only at hA hh hdp hun
  subst hA hh
  have N : News h₀ L s.heap [] := News.nil
  k_dflt (refine' enter_fn (rb := [(Str.ofString "whole", .int n t)]) B F X N T ?kA hf hke ?k6 ?k7 ?k8 ?k9 ?kB ?kR ?_ ?c2 ?c3 ?c4 ?c5; (case kA => exact rfl); (case k6 => k_is); (case k7 => k_is); (case k8 => exact room0 hdp); (case k9 => exact BindsTo.of_eq rfl); (case kR => exact rfl); (case c5 => decide); (case kB => exact locs rfl); (case c2 => exact rfl); (case c3 => exact rfl); (case c4 => exact rfl); k_whole; intro g' L' h' F' N' B' X' T' K' S' Z' tkE; (try dsimp only); (try k_fold); refine let_AE ?_; intro A1 en)
  k_steps
  (rename News g' L' _ _ => gN); (rename News h₀ L _ _ => kN); (rename Kept s.heap _ _ => kK)
  exact hret _ _ _ _ _ kK (none_back (fun b o e => ⟨o, K' b o e (by simp)⟩) (gN _ (.head _)).2.2) (kN _ (.head _)).1
theorem syserr_spec (hdp : A.depth + 4 < recursionLimit) (hun : A.units + 24 < cLine) {f : Addr} {fd : PyData} (r : Reads s.heap (.ref f) fd [])
    (hret : ∀ (e : Addr) (h' : Heap) (tk' : Nat), Kept s.heap h' [] → NewErr w s.heap h' e (ballD fd) → Q (.ref e) { s with heap := h', toks := tk' }) :
    wpAny (model PySem.Challenge.rw_rh0079_01.row.prog w) A (PySem.call (.ref 186) [.ref f]) Q E s := by
  revert X; k_fill; intro X
  refine wpAny_call ?_
  obtain ⟨hd0, dp, fr, gd, un⟩ := A
  dsimp only at hA hh hdp hun
  subst hA hh
  have N : News h₀ L s.heap [] := News.nil
  k_dflt (refine' enter_fn (rb := [(Str.ofString "formal", .ref f)]) B F X N T ?kA hf hke ?k6 ?k7 ?k8 ?k9 ?kB ?kR ?_ ?c2 ?c3 ?c4 ?c5; (case kA => exact rfl); (case k6 => k_is); (case k7 => k_is); (case k8 => exact room0 hdp); (case k9 => exact BindsTo.of_eq rfl); (case kR => exact rfl); (case c5 => decide); (case kB => exact locs rfl); (case c2 => exact rfl); (case c3 => exact rfl); (case c4 => exact rfl); k_whole; intro g' L' h' F' N' B' X' T' K' S' Z' tkE; (try dsimp only); (try k_fold); refine let_AE ?_; intro A1 en)
  k_steps
  unfold Stop
  (rename Fr g' L' _ _ => kF); (rename News g' L' _ _ => kN)
  have W : Kept s.heap _ [] := fun b o e _ => kF.keep b o (K' b o e (by simp))
  have r1 := reads0 r W
  have v1 := (kN _ (.head _)).1
  have v2 := (kN _ (.tail _ (.head _))).1
  have v3 := (kN _ (.tail _ (.tail _ (.head _)))).1
  have rb := Reads.tuple v1 rfl rfl (.cons (.str _ _) (.cons (.int _ _) (.cons (.tuple v2 rfl rfl (.cons r1 (.cons (.tuple v3 rfl rfl (.cons (.str _ _) (.cons (.int _ _) .nil))) .nil))) .nil)))
  k_dflt (refine newErr B' kF X' T' rfl rfl rfl rfl (roomD hdp (by decide)) (roomU hun (by decide)) ?_)
  intro e d t tk h1 tk1 K1 he hd hed he1 hd1
  have F1 := kept_fr kF K1 (by simp)
  have N1 : News g' L' h1 [] := News.nil
  have W2 : Kept s.heap h1 [] := fun b o q hb => K1 b o (W b o q hb) (by simp)
  have rb2 := reads0 rb K1
  clear kN
  k_steps
  exact hret _ _ _ W2 ⟨d, t, tk, _, none_back (fun b o q => ⟨o, W b o q (by simp)⟩) he, none_back (fun b o q => ⟨o, W b o q (by simp)⟩) hd, hed, he1, hd1, rb2⟩
theorem evalerr_spec (hdp : A.depth + 6 < recursionLimit) (hun : A.units + 60 < cLine) {z : SA} {tx : List Str} {fs : List (Int × Int)} {x : Str} {t : Tok} (Y : SymH w s.heap z tx fs) (hz : Fresh h₀ L z) (hlt : tx.length < 80000) (hlf : fs.length < 80000)
    (hret : ∀ (e : Addr) (h' : Heap) (tk' : Nat), Kept s.heap h' z.mods → SymH w h' z (erT tx (Str.ofString "evaluation_error") x) (erF tx fs (Str.ofString "evaluation_error") x 1) → NewErr w s.heap h' e (ballD (formalD tx fs (Str.ofString "evaluation_error") x 1 [])) → Q (.ref e) { s with heap := h', toks := tk' }) :
    wpAny (model PySem.Challenge.rw_rh0079_01.row.prog w) A (PySem.call (.ref 214) [.ref z.S, .str x t]) Q E s := by
  revert X; k_fill; intro X
  refine wpAny_call ?_
  obtain ⟨hd0, dp, fr, gd, un⟩ := A
  dsimp only at hA hh hdp hun
  subst hA hh
  obtain ⟨o1, o2, o3, o4, N⟩ := Y.four hz
  k_dflt (refine' enter_fn (rb := [(Str.ofString "what", .str x t), (Str.ofString "symbols", .ref z.S)]) B F X N T ?kA hf hke ?k6 ?k7 ?k8 ?k9 ?kB ?kR ?_ ?c2 ?c3 ?c4 ?c5; (case kA => exact rfl); (case k6 => k_is); (case k7 => k_is); (case k8 => exact room0 hdp); (case k9 => exact BindsTo.of_eq rfl); (case kR => exact rfl); (case c5 => decide); (case kB => exact locs rfl); (case c2 => exact rfl); (case c3 => exact rfl); (case c4 => exact rfl); k_whole; intro g' L' h' F' N' B' X' T' K' S' Z' tkE; (try dsimp only); (try k_fold); refine let_AE ?_; intro A1 en)
  have hz' := fresh_of N'
  have N0 := fun p hp => (N p hp).1
  clear N
  k_steps
  unfold Stop
  (rename Fr g' L' _ _ => kF); (rename News g' L' _ _ => kN)
  have W := whole K' kF (fun p hp => kN p (.tail _ hp)) N0
  have Y1 := Y.kept0 W
  k_dflt (refine formal1_spec B' kF X' T' rfl rfl rfl rfl (roomD hdp (by decide)) (roomU hun (by decide)) Y1 hz' hlt hlf (kN _ (.head _)).1 ⟨(kN _ (.head _)).2.2, (kN _ (.head _)).2.1⟩ ?_)
  intro a h1 tk1 K1 Y2 r1
  have F1 := kept_fr kF K1 hz'
  have N1 : News g' L' h1 [] := News.nil
  have W1 : Kept s.heap h1 z.mods := fun b o q hb => K1 b o (W b o q (by simp)) hb
  clear kN kF
  k_steps
  unfold Stop
  k_dflt (refine syserr_spec B' F1 X' T' rfl rfl rfl rfl (roomD hdp (by decide)) (roomU hun (by decide)) r1 ?_)
  intro e h2 tk2 K2 e2
  have F2 := kept_fr F1 K2 (by simp)
  have N2 : News g' L' h2 [] := News.nil
  have W2 : Kept s.heap h2 z.mods := fun b o q hb => K2 b o (W1 b o q hb) (by simp)
  clear F1 N1
  k_steps
  obtain ⟨d, t, tk, v, p1, p2, p3, p4, p5, p6⟩ := e2
  exact hret _ _ _ W2 (Y2.kept0 K2) ⟨d, t, tk, v, new_back W1 Y2 p1, new_back W1 Y2 p2, p3, p4, p5, p6⟩
theorem reserr_spec (hdp : A.depth + 6 < recursionLimit) (hun : A.units + 60 < cLine) {z : SA} {tx : List Str} {fs : List (Int × Int)} {x : Str} {t : Tok} (Y : SymH w s.heap z tx fs) (hz : Fresh h₀ L z) (hlt : tx.length < 80000) (hlf : fs.length < 80000)
    (hret : ∀ (e : Addr) (h' : Heap) (tk' : Nat), Kept s.heap h' z.mods → SymH w h' z (erT tx (Str.ofString "resource_error") x) (erF tx fs (Str.ofString "resource_error") x 1) → NewErr w s.heap h' e (ballD (formalD tx fs (Str.ofString "resource_error") x 1 [])) → Q (.ref e) { s with heap := h', toks := tk' }) :
    wpAny (model PySem.Challenge.rw_rh0079_01.row.prog w) A (PySem.call (.ref 221) [.ref z.S, .str x t]) Q E s := by
  revert X; k_fill; intro X
  refine wpAny_call ?_
  obtain ⟨hd0, dp, fr, gd, un⟩ := A
  dsimp only at hA hh hdp hun
  subst hA hh
  obtain ⟨o1, o2, o3, o4, N⟩ := Y.four hz
  k_dflt (refine' enter_fn (rb := [(Str.ofString "what", .str x t), (Str.ofString "symbols", .ref z.S)]) B F X N T ?kA hf hke ?k6 ?k7 ?k8 ?k9 ?kB ?kR ?_ ?c2 ?c3 ?c4 ?c5; (case kA => exact rfl); (case k6 => k_is); (case k7 => k_is); (case k8 => exact room0 hdp); (case k9 => exact BindsTo.of_eq rfl); (case kR => exact rfl); (case c5 => decide); (case kB => exact locs rfl); (case c2 => exact rfl); (case c3 => exact rfl); (case c4 => exact rfl); k_whole; intro g' L' h' F' N' B' X' T' K' S' Z' tkE; (try dsimp only); (try k_fold); refine let_AE ?_; intro A1 en)
  have hz' := fresh_of N'
  have N0 := fun p hp => (N p hp).1
  clear N
  k_steps
  unfold Stop
  (rename Fr g' L' _ _ => kF); (rename News g' L' _ _ => kN)
  have W := whole K' kF (fun p hp => kN p (.tail _ hp)) N0
  have Y1 := Y.kept0 W
  k_dflt (refine formal1_spec B' kF X' T' rfl rfl rfl rfl (roomD hdp (by decide)) (roomU hun (by decide)) Y1 hz' hlt hlf (kN _ (.head _)).1 ⟨(kN _ (.head _)).2.2, (kN _ (.head _)).2.1⟩ ?_)
  intro a h1 tk1 K1 Y2 r1
  have F1 := kept_fr kF K1 hz'
  have N1 : News g' L' h1 [] := News.nil
  have W1 : Kept s.heap h1 z.mods := fun b o q hb => K1 b o (W b o q (by simp)) hb
  clear kN kF
  k_steps
  unfold Stop
  k_dflt (refine syserr_spec B' F1 X' T' rfl rfl rfl rfl (roomD hdp (by decide)) (roomU hun (by decide)) r1 ?_)
  intro e h2 tk2 K2 e2
  have F2 := kept_fr F1 K2 (by simp)
  have N2 : News g' L' h2 [] := News.nil
  have W2 : Kept s.heap h2 z.mods := fun b o q hb => K2 b o (W1 b o q hb) (by simp)
  clear F1 N1
  k_steps
  obtain ⟨d, t, tk, v, p1, p2, p3, p4, p5, p6⟩ := e2
  exact hret _ _ _ W2 (Y2.kept0 K2) ⟨d, t, tk, v, new_back W1 Y2 p1, new_back W1 Y2 p2, p3, p4, p5, p6⟩
theorem typerr_spec (hdp : A.depth + 6 < recursionLimit) (hun : A.units + 60 < cLine) {z : SA} {tx : List Str} {fs : List (Int × Int)} {x : Str} {t t1 t2 : Tok} {cu : Nat} {ci : Int} (Y : SymH w s.heap z tx fs) (hz : Fresh h₀ L z) (hlt : tx.length < 80000) (hlf : fs.length < 80000)
    (hc : s.heap.get? cu = some { cls := .type "tuple", data := .seq #[.str (Str.ofString "i") t1, .int ci t2] }) (hc0 : h₀.get? cu = none ∧ cu ≠ L)
    (hret : ∀ (e : Addr) (h' : Heap) (tk' : Nat), Kept s.heap h' z.mods → SymH w h' z (erT tx (Str.ofString "type_error") x) (erF tx fs (Str.ofString "type_error") x 2) → NewErr w s.heap h' e (ballD (formalD tx fs (Str.ofString "type_error") x 2 [.tuple [.str (Str.ofString "i"), .int ci]])) → Q (.ref e) { s with heap := h', toks := tk' }) :
    wpAny (model PySem.Challenge.rw_rh0079_01.row.prog w) A (PySem.call (.ref 207) [.ref z.S, .str x t, .ref cu]) Q E s := by
  revert X; k_fill; intro X
  refine wpAny_call ?_
  obtain ⟨hd0, dp, fr, gd, un⟩ := A
  dsimp only at hA hh hdp hun
  subst hA hh
  have hcz : ∀ a ∈ z.all, cu ≠ a := fun a ha q => Y.notTup a ha _ (q ▸ hc) rfl
  obtain ⟨o1, o2, o3, o4, N⟩ := Y.four hz
  have N := news_cons hc hc0.2 hc0.1 N
  k_dflt (refine' enter_fn (rb := [(Str.ofString "culprit", .ref cu), (Str.ofString "kind", .str x t), (Str.ofString "symbols", .ref z.S)]) B F X N T ?kA hf hke ?k6 ?k7 ?k8 ?k9 ?kB ?kR ?_ ?c2 ?c3 ?c4 ?c5; (case kA => exact rfl); (case k6 => k_is); (case k7 => k_is); (case k8 => exact room0 hdp); (case k9 => exact BindsTo.of_eq rfl); (case kR => exact rfl); (case c5 => decide); (case kB => exact locs rfl); (case c2 => exact rfl); (case c3 => exact rfl); (case c4 => exact rfl); k_whole; intro g' L' h' F' N' B' X' T' K' S' Z' tkE; (try dsimp only); (try k_fold); refine let_AE ?_; intro A1 en)
  have hz' := fresh_of fun p hp => N' p (.tail _ hp)
  have N0 := fun p hp => (N p hp).1
  clear N
  k_steps
  unfold Stop
  (rename Fr g' L' _ _ => kF); (rename News g' L' _ _ => kN)
  have W := whole K' kF (fun p hp => kN p (.tail _ hp)) N0
  have Y1 := Y.kept0 W
  have u2 := kN _ (.tail _ (.head _))
  k_dflt (refine formal2_spec B' kF X' T' rfl rfl rfl rfl (roomD hdp (by decide)) (roomU hun (by decide)) Y1 hz' hlt hlf (kN _ (.head _)).1 ⟨(kN _ (.head _)).2.2, (kN _ (.head _)).2.1⟩ u2.1 ⟨u2.2.2, u2.2.1⟩ ?hPc ?_)
  (case hPc => (refine neN ?_; omega))
  intro a h1 tk1 K1 Y2 r1
  have F1 := kept_fr kF K1 hz'
  have N1 : News g' L' h1 [] := News.nil
  have W1 : Kept s.heap h1 z.mods := fun b o q hb => K1 b o (W b o q (by simp)) hb
  clear kN kF
  k_steps
  unfold Stop
  k_dflt (refine syserr_spec B' F1 X' T' rfl rfl rfl rfl (roomD hdp (by decide)) (roomU hun (by decide)) r1 ?_)
  intro e h2 tk2 K2 e2
  have F2 := kept_fr F1 K2 (by simp)
  have N2 : News g' L' h2 [] := News.nil
  have W2 : Kept s.heap h2 z.mods := fun b o q hb => K2 b o (W1 b o q hb) (by simp)
  clear F1 N1
  k_steps
  obtain ⟨d, t, tk, v, p1, p2, p3, p4, p5, p6⟩ := e2
  exact hret _ _ _ W2 (Y2.kept0 K2) ⟨d, t, tk, v, new_back W1 Y2 p1, new_back W1 Y2 p2, p3, p4, p5, p6⟩
end
end
section
theorem walk_off_E4 : True := by
  w_top off
  trivial
open PySem PySem.W PyProof.Rows PySem.Calls PySem.Spec
section
variable {w : World} {A : Around} {E : Value → Shared → Prop} {s : Shared} {env : Env}
theorem raise_exc {x : Sem Value} {Q : Flow → Shared → Prop} (hh : A.handled = none)
    (h : wpAny (model PySem.Challenge.rw_rh0079_01.row.prog w) A x (fun v s₁ => ∃ e d t, v = .ref e ∧ (hd.heap_1 w.params).In s₁.heap ∧ s₁.heap.get? e = some { cls := .ref 51, dict := some d, data := .fields (excFields t) } ∧ E (.ref e) s₁) E s) :
    wpAny (model PySem.Challenge.rw_rh0079_01.row.prog w) A (raiseStmt env (some x) none) Q E s := by
  obtain ⟨nm, q, bs, sn, sub, ab, col, k0, k1, k2, k3, k5, e51⟩ := k51 w.params
  unfold raiseStmt
  refine wpAny_bind (wpAny_mono h (fun v s₁ h₁ => ?_) fun _ _ x => x)
  obtain ⟨e, d, t, rfl, X, he, hE⟩ := h₁
  have hC := X _ _ e51
  have hcB : (Value.ref 51 :: [.ref 31, .type "Exception", .type "BaseException", .type "object"] : List Value).contains (.type "BaseException") = true := by decide
  obtain ⟨hp, g, dr, tk, os⟩ := s₁
  repeat (first | with_reducible refine wpAny_loadPart_at he ?_ | with_reducible refine wpAny_loadPart_at hC ?_ | (with_reducible refine wpAny_isSubtype_exc hC ?_; rw [hcB]) | wp_step)
  exact wpAny_raiseNew_none hh hE
end

noncomputable def frs (l : List Env) : List Addr := l.filterMap (·.frame)
/-- what one step out of a frame leaves as it was -/
structure Lv (l : List Env) (e : Addr) (tb : Option Addr) (h h' : Heap) : Prop where
  kept : ∀ b o, h.get? b = some o → b ≠ e → (∀ T, tb = some T → b ≠ T) → b ∉ frs l → h'.get? b = some o
  slots : ∀ b o, h.get? b = some o → b ≠ e → (∀ T, tb = some T → b ≠ T) → ∃ sl, h'.get? b = some { o with slots := sl }
/-- the exception's own record: its dict d, its traceback's head -/
noncomputable def ExcAt (h : Heap) (e d : Addr) (tb : Option Addr) : Prop :=
  ∃ vs sl, h.get? e = some ⟨.ref 51, some d, .fields vs, sl⟩ ∧ match tb with
    | none => vs[1]? = some .none
    | some T => vs[1]? = some (.ref T) ∧ T ≠ e ∧ ∃ oT ts, h.get? T = some oT ∧ oT.data = .fields ts ∧ ts[3]? = some .none
section
variable {M : Model} {A : Around} {E : Value → Shared → Prop} {s : Shared}
theorem entry_low {base : Heap} {env : Env} {outer : List Env} {L e d : Addr} {vs : Array Value} {sl : Array (Option Value)} {hd : Value} {hadNext : Bool} {Q : Unit → Shared → Prop}
    (hfr : A.frames = some (env :: outer)) (hl : s.heap.FunFrames base (env :: outer)) (hf : env.frame = some L) (he : s.heap.get? e = some ⟨.ref 51, some d, .fields vs, sl⟩) (hsz : 1 < vs.size)
    (h : ∀ h' T, s.heap.get? T = none → ExcAt h' e d (some T) → Lv (env :: outer) e none s.heap h' → Q () { s with heap := h' }) :
    wpAny M A (do let a ← frameOf env; let pl ← entryPlaceOf L hadNext; let b ← EntryCells.newEntry hd a .none (rawInt L) .none pl; setField (.ref e) 1 b) (fun _ s' => wpAny M A (setFlight (.ref e) none) Q E s') E s := by
  have hene : e ∉ (env :: outer).filterMap (·.frame) := fun hm => by
    obtain ⟨_, o, ho, hnf⟩ := hl.mem hm
    rw [he] at ho; cases ho; exact hnf vs rfl
  refine wpAny_bind (wpAny_frameOf_fun hfr hl hf fun h₁ hs₁ => ?_)
  refine wpAny_bind (wpAny_entryPlaceOf fun pl hpl => ?_)
  unfold EntryCells.newEntry newFields
  refine wpAny_bind (wpAny_newObj_type ?_ (hpl.sizeOk5 _ _ _ _ _))
  have he₁ : h₁.get? e = some ⟨.ref 51, some d, .fields vs, sl⟩ := (hs₁.2.1 e hene).trans he
  generalize hob : ({ cls := .type "traceback", dict := none, data := .fields ([hd, .ref L, .none, rawInt L, .none] ++ (if pl.isEmpty then List.replicate 6 Value.none else pl)).toArray } : Obj) = ob
  have hobd : ob.data = .fields ([hd, .ref L, .none, rawInt L, .none] ++ (if pl.isEmpty then List.replicate 6 Value.none else pl)).toArray := by subst hob; rfl
  generalize htv : ([hd, .ref L, .none, rawInt L, .none] ++ (if pl.isEmpty then List.replicate 6 Value.none else pl)).toArray = tv at hobd
  have htsz : 3 < tv.size := by subst htv; simp only [List.size_toArray, List.length_append, List.length_cons, List.length_nil]; omega
  have hobf : ob.isFreed = false := Obj.isFreed_of_fields hobd
  have he₂ := Heap.get?_push_of_some (h := h₁) ob he₁
  refine wpAny_setField he₂ rfl hsz ?_
  have hTe : h₁.objs.size ≠ e := Nat.ne_of_gt (Heap.lt_size he₁)
  have he₃ := Heap.get?_update_self (Obj.mapFields (·.setIfInBounds 1 (Value.ref h₁.objs.size))) he₂ rfl
  have hT₃ := (Heap.get?_update_other (h₁.push ob) (Obj.mapFields (·.setIfInBounds 1 (Value.ref h₁.objs.size))) (Ne.symm hTe)).trans (Heap.get?_push_size h₁ hobf)
  unfold setFlight
  refine wpAny_bind (wpAny_field he₃ rfl (x := .ref h₁.objs.size) (by simp [hsz]) ?_)
  rw [if_pos (show (Value.ref h₁.objs.size != Value.none) = true from by simp)]
  refine wpAny_setField hT₃ hobd htsz ?_
  have hTn : s.heap.get? h₁.objs.size = none := by
    cases q : s.heap.get? h₁.objs.size with
    | none => rfl
    | some o => have := Heap.lt_size q; rw [hs₁.1] at this; exact absurd this (Nat.lt_irrefl _)
  have keep : ∀ b o, b ≠ e → h₁.get? b = some o →
      (((h₁.push ob).update e (Obj.mapFields (·.setIfInBounds 1 (Value.ref h₁.objs.size)))).update h₁.objs.size (Obj.mapFields (·.setIfInBounds 3 ((none : Option Addr).elim Value.none fun f => rawInt f)))).get? b = some o := fun b o hbe hb => by
    have hbT : h₁.objs.size ≠ b := Nat.ne_of_gt (Heap.lt_size hb)
    rw [Heap.get?_update_other _ _ hbT, Heap.get?_update_other _ _ (Ne.symm hbe)]
    exact Heap.get?_push_of_some _ hb
  refine h _ h₁.objs.size hTn ⟨_, _, (Heap.get?_update_other _ _ hTe).trans he₃, ?_, hTe, _, _, Heap.get?_update_self _ hT₃ (Obj.isFreed_of_fields (Obj.data_mapFields hobd _)), Obj.data_mapFields hobd _, ?_⟩ ⟨fun b o hb hbe _ hbf => keep b o hbe ((hs₁.2.1 b hbf).trans hb), fun b o hb hbe _ => ?_⟩
  · simp [hsz]
  · simp [htsz]
  · obtain ⟨sl', hs'⟩ := hs₁.2.2 b o hb
    exact ⟨sl', keep b _ hbe hs'⟩
theorem leaving_low {base : Heap} {env : Env} {outer : List Env} {L e d : Addr} {tb : Option Addr} {Q : Unit → Shared → Prop}
    (hfr : A.frames = some (env :: outer)) (hl : s.heap.FunFrames base (env :: outer)) (hf : env.frame = some L) (hx : ExcAt s.heap e d tb)
    (h : ∀ h' T, s.heap.get? T = none → ExcAt h' e d (some T) → Lv (env :: outer) e tb s.heap h' → Q () { s with heap := h' }) : wpAny M A (leaving env (.ref e)) Q E s := by
  obtain ⟨vs, sl, he, hv⟩ := hx
  unfold leaving noteFrame
  simp only [hf]
  cases tb with
  | none =>
    refine wpAny_bind (wpAny_bind (wpAny_field he rfl hv ?_))
    rw [if_neg (by decide)]
    exact entry_low hfr hl hf he (Array.getElem?_eq_some_iff.mp hv).1 h
  | some T =>
    obtain ⟨hv1, hTe, oT, ts, hT, hdT, h3⟩ := hv
    refine wpAny_bind (wpAny_bind (wpAny_field he rfl hv1 ?_))
    rw [if_pos (show (Value.ref T != Value.none) = true from by simp)]
    refine wpAny_bind (wpAny_field hT hdT h3 ?_)
    rw [if_neg (show ¬ ((Value.none == rawInt L) = true) from by simp [rawInt])]
    refine wpAny_bind (wpAny_setField hT hdT (Array.getElem?_eq_some_iff.mp h3).1 ?_)
    have other : ∀ b, b ≠ T → (s.heap.update T (Obj.mapFields (·.setIfInBounds 3 Value.none))).get? b = s.heap.get? b := fun b hb => Heap.get?_update_other _ _ (Ne.symm hb)
    have noRecord : ∀ b o, s.heap.get? b = some o → (∀ vs, o.data ≠ .fields vs) → b ≠ T := fun b o hb hnf q => by
      rw [q, hT] at hb; cases hb; exact hnf ts hdT
    refine entry_low hfr (hl.of_keeps fun b o hb hnf => ⟨o, (other b (noRecord b o hb hnf)).trans hb, rfl⟩) hf ((other e (Ne.symm hTe)).trans he) (Array.getElem?_eq_some_iff.mp hv1).1 fun h' T' hT' hx' hlv => ?_
    refine h h' T' ?_ hx' ⟨fun b o hb hbe hbT hbf => hlv.kept b o ((other b (hbT T rfl)).trans hb) hbe (by simp) hbf, fun b o hb hbe hbT => hlv.slots b o ((other b (hbT T rfl)).trans hb) hbe (by simp)⟩
    cases q : s.heap.get? T' with
    | none => rfl
    | some o =>
      by_cases qT : T' = T
      · subst qT
        have := Heap.get?_update_self (Obj.mapFields (·.setIfInBounds 3 Value.none)) hT (Obj.isFreed_of_fields (Obj.data_mapFields hdT _))
        dsimp only at hT'
        rw [this] at hT'; cases hT'
      · dsimp only at hT'; rw [other T' qT, q] at hT'; cases hT'
end
end
section
theorem walk_off_E5 : True := by
  w_top off
  trivial
open PySem PySem.W PyProof.Rows PySem.Calls PySem.Spec
theorem frs_cons {env : Env} {l : List Env} {L : Addr} (hf : env.frame = some L) : frs (env :: l) = L :: frs l := by simp [frs, hf]
mutual
noncomputable def flatD : PyData → Bool
  | .dict _ => false
  | .list _ => false
  | .tuple xs => flatDs xs
  | _ => true
noncomputable def flatDs : List PyData → Bool
  | [] => true
  | x :: r => flatD x && flatDs r
end
/-- what keeps its class and its data is read as before; where the data is flat, tuples alone must keep -/
noncomputable def KeepD (fl : Bool) (h h' : Heap) : Prop := ∀ b o, h.get? b = some o → (∀ vs, o.data ≠ .fields vs) → (fl = true → o.cls = .type "tuple" ∧ ∃ items n, o.data = .seq items n) → ∃ o', h'.get? b = some o' ∧ o'.cls = o.cls ∧ (∀ items n, o.data = .seq items n → ∃ n', o'.data = .seq items n') ∧ ∀ es ep, o.data = .dict es ep → o'.data = .dict es ep
mutual
theorem reads_gen {fl : Bool} {h h' : Heap} (k : KeepD fl h h') : ∀ {v : Value} {d : PyData} {as : List Addr}, Reads h v d as → (fl = true → flatD d = true) → Reads h' v d as
  | _, _, _, .none, _ => .none
  | _, _, _, .bool b, _ => .bool b
  | _, _, _, .int i t, _ => .int i t
  | _, _, _, .str x t, _ => .str x t
  | _, _, _, .list ho hc hd r, f => by
    cases fl with
    | true => exact absurd (f rfl) (by simp [flatD])
    | false =>
      obtain ⟨o', e, c, d, _⟩ := k _ _ ho (by intro vs q; rw [hd] at q; cases q) (fun q => nomatch q)
      obtain ⟨n', d⟩ := d _ _ hd
      exact .list e (c.trans hc) d (reads_gens k r (fun q => nomatch q))
  | _, _, _, .tuple ho hc hd r, f => by
    obtain ⟨o', e, c, d, _⟩ := k _ _ ho (by intro vs q; rw [hd] at q; cases q) (fun _ => ⟨hc, _, _, hd⟩)
    obtain ⟨n', d⟩ := d _ _ hd
    exact .tuple e (c.trans hc) d (reads_gens k r (fun q => by simpa [flatD] using f q))
  | _, _, _, .dict ho hc hd r1 r2, f => by
    cases fl with
    | true => exact absurd (f rfl) (by simp [flatD])
    | false =>
      obtain ⟨o', e, c, _, d⟩ := k _ _ ho (by intro vs q; rw [hd] at q; cases q) (fun q => nomatch q)
      exact .dict e (c.trans hc) (d _ _ hd) (reads_gens k r1 (fun q => nomatch q)) (reads_gens k r2 (fun q => nomatch q))
theorem reads_gens {fl : Bool} {h h' : Heap} (k : KeepD fl h h') : ∀ {vs : List Value} {ds : List PyData} {as : List Addr}, ReadsAll h vs ds as → (fl = true → flatDs ds = true) → ReadsAll h' vs ds as
  | _, _, _, .nil, _ => .nil
  | _, _, _, .cons a b, f => .cons (reads_gen k a fun q => (by simpa [flatDs] using f q : _ ∧ _).1) (reads_gens k b fun q => (by simpa [flatDs] using f q : _ ∧ _).2)
end
theorem reads_slots {h h' : Heap} {P : Addr → Prop} (k : ∀ b o, h.get? b = some o → (∀ vs, o.data ≠ .fields vs) → ∃ sl, h'.get? b = some { o with slots := sl }) {v : Value} {d : PyData} {as : List Addr} (r : Reads h v d as) : Reads h' v d as :=
  reads_gen (fl := false) (fun b o e n _ => let ⟨_, q⟩ := k b o e n; ⟨_, q, rfl, fun _ n d => ⟨n, d⟩, fun _ _ d => d⟩) r (fun q => nomatch q)
/-- all that bears no fields keeps but its slots -/
noncomputable def Slots (h h' : Heap) : Prop := ∀ b o, h.get? b = some o → (∀ vs, o.data ≠ .fields vs) → ∃ sl, h'.get? b = some { o with slots := sl }
theorem Reads.slots {h h' : Heap} {v : Value} {d : PyData} {as : List Addr} (r : Reads h v d as) (k : Slots h h') : Reads h' v d as := reads_slots (P := fun _ => True) k r
theorem SymH.slots {w : World} {h h' : Heap} {z : SA} {tx : List Str} {fs : List (Int × Int)} (Y : SymH w h z tx fs) (k : Slots h h') (k1 : ∀ a ∈ z.all, ∀ o, h.get? a = some o → h'.get? a = some o) : SymH w h' z tx fs := by
  simp only [SA.all, List.mem_cons, List.not_mem_nil, or_false, forall_eq_or_imp, forall_eq] at k1
  obtain ⟨vs, n, e3, e3'⟩ := Y.oT
  obtain ⟨o4, e4, e4'⟩ := Y.oAN
  obtain ⟨o5, xs, n5, e5, h5, h6, h7, e6⟩ := Y.oF
  refine { Y with oS := k1.1 _ Y.oS, odS := k1.2.1 _ Y.odS, oT := ⟨vs, n, k1.2.2.1 _ e3, e3'⟩, oAN := ⟨o4, k1.2.2.2.1 _ e4, e4'⟩, oF := ⟨o5, xs, n5, k1.2.2.2.2.2 _ e5, h5, h6, fun p hp => ?_, k1.2.2.2.2.1 _ e6⟩ }
  obtain ⟨o, items, n, ho, hc, hd, r⟩ := h7 p hp
  obtain ⟨sl, e⟩ := k _ _ ho (by intro vs q; rw [hd] at q; cases q)
  exact ⟨_, items, n, e, hc, hd, r⟩
/-- the table's places bear no fields -/
theorem SymH.noFields {w : World} {h : Heap} {z : SA} {tx : List Str} {fs : List (Int × Int)} (Y : SymH w h z tx fs) : ∀ a ∈ z.all, ∃ o, h.get? a = some o ∧ ∀ vs, o.data ≠ .fields vs := by
  obtain ⟨vs, n, e3, _⟩ := Y.oT
  obtain ⟨o4, e4, ⟨kvs, ⟨es, ep, _, hd4, _⟩, _⟩⟩ := Y.oAN
  obtain ⟨o5, xs, n5, e5, ⟨es5, ep5, _, hd5, _⟩, _, _, e6⟩ := Y.oF
  intro a ha
  simp only [SA.all, List.mem_cons, List.not_mem_nil, or_false] at ha
  rcases ha with rfl | rfl | rfl | rfl | rfl | rfl
  · exact ⟨_, Y.oS, by intro vs q; cases q⟩
  · exact ⟨_, Y.odS, by intro vs q; cases q⟩
  · exact ⟨_, e3, by intro vs q; cases q⟩
  · exact ⟨_, e4, by intro vs q; rw [hd4] at q; cases q⟩
  · exact ⟨_, e6, by intro vs q; cases q⟩
  · exact ⟨_, e5, by intro vs q; rw [hd5] at q; cases q⟩

/-- an error that flies out to the frames l: seen from the heap h of the call -/
structure Flown (w : World) (h h' : Heap) (ms : List Addr) (l : List Env) (e : Addr) (D : PyData) (z : SA) (tx : List Str) (fs : List (Int × Int)) : Prop where
  kept : ∀ b o, h.get? b = some o → b ∉ ms → b ∉ frs l → h'.get? b = some o
  slots : ∀ b o, h.get? b = some o → b ∉ ms → ∃ sl, h'.get? b = some { o with slots := sl }
  stays : ∀ b o, h.get? b = some o → ∃ o', h'.get? b = some o'
  enew : h.get? e = none
  exc : ∃ d T tk v, h.get? d = none ∧ h.get? T = none ∧ ExcAt h' e d (some T) ∧ h'.get? d = some (ballDict w tk v) ∧ Reads h' v D []
  sym : SymH w h' z tx fs

section
variable {M : Model} {w : World} {A : Around} {E : Value → Shared → Prop} {s : Shared}
/-- out of the frame where it was made -/
theorem flown_first {base h hX : Heap} {env : Env} {l : List Env} {L e : Addr} {D : PyData} {ms : List Addr} {z : SA} {tx : List Str} {fs : List (Int × Int)} {Q : Unit → Shared → Prop}
    (hfr : A.frames = some (env :: l)) (hl : s.heap.FunFrames base (env :: l)) (hf : env.frame = some L) (hL : h.get? L = none)
    (hin : ∀ b ∈ frs (env :: l), ∃ o, hX.get? b = some o) (W : Kept h s.heap ms) (hst : ∀ b o, h.get? b = some o → ∃ o', hX.get? b = some o') (hsX : ∀ b o, hX.get? b = some o → ∃ o', s.heap.get? b = some o')
    (ne : NewErr w hX s.heap e D) (Y : SymH w s.heap z tx fs) (hz : ∀ a ∈ z.all, a ∉ frs (env :: l))
    (hQ : ∀ h', Flown w h h' ms l e D z tx fs → Q () { s with heap := h' }) : wpAny M A (leaving env (.ref e)) Q E s := by
  obtain ⟨d, t, tk, v, hen, hdn, hed, he1, hd1, hv⟩ := ne
  refine leaving_low (tb := none) hfr hl hf ⟨_, _, he1, rfl⟩ fun h' T hT hx hlv => ?_
  have hS : Slots s.heap h' := fun b o hb hnf => hlv.slots b o hb (fun q => by rw [q, he1] at hb; cases hb; exact hnf _ rfl) (by simp)
  have hde : d ∉ frs (env :: l) := fun q => by obtain ⟨o, ho⟩ := hin d q; rw [hdn] at ho; cases ho
  have henh : h.get? e = none := none_back hst hen
  have hne : ∀ b o, h.get? b = some o → b ≠ e := fun b o q r => by rw [r, henh] at q; cases q
  have hnL : ∀ b o, h.get? b = some o → b ∉ frs l → b ∉ frs (env :: l) := fun b o q r => by
    rw [frs_cons hf]; simp only [List.mem_cons, not_or]; exact ⟨(fun x => by rw [x, hL] at q; cases q), r⟩
  refine hQ h' ⟨fun b o q hm hb => hlv.kept b o (W b o q hm) (hne b o q) (by simp) (hnL b o q hb), fun b o q hm => hlv.slots b o (W b o q hm) (hne b o q) (by simp), fun b o q => ?_, henh, ⟨d, T, tk, v, none_back hst hdn, none_back (fun b o q => by obtain ⟨o1, q1⟩ := hst b o q; exact hsX b o1 q1) hT, hx, hlv.kept d _ hd1 (Ne.symm hed) (by simp) hde, Reads.slots hv hS⟩, Y.slots hS fun a ha o q => ?_⟩
  · obtain ⟨o1, q1⟩ := hst b o q
    obtain ⟨o2, q2⟩ := hsX b o1 q1
    obtain ⟨sl, q3⟩ := hlv.slots b o2 q2 (hne b o q) (by simp)
    exact ⟨_, q3⟩
  · obtain ⟨o', ho', hnf⟩ := Y.noFields a ha
    rw [q] at ho'; cases ho'
    exact hlv.kept a o q (fun r => by rw [r, he1] at q; cases q; exact hnf _ rfl) (by simp) (hz a ha)
/-- on through another frame -/
theorem flown_next {base h hX : Heap} {env : Env} {l : List Env} {L e : Addr} {D : PyData} {ms ms' : List Addr} {z : SA} {tx : List Str} {fs : List (Int × Int)} {Q : Unit → Shared → Prop}
    (hfr : A.frames = some (env :: l)) (hl : hX.FunFrames base (env :: l)) (hf : env.frame = some L) (hL : h.get? L = none)
    (W : Kept h hX ms) (hst : ∀ b o, h.get? b = some o → ∃ o', hX.get? b = some o') (hms : ∀ b ∈ ms', b ∈ ms ∨ h.get? b = none) (hmf : ∀ b ∈ ms', b ∉ frs (env :: l))
    (fl : Flown w hX s.heap ms' (env :: l) e D z tx fs) (hz : ∀ a ∈ z.all, a ∉ frs (env :: l))
    (hQ : ∀ h', Flown w h h' ms l e D z tx fs → Q () { s with heap := h' }) : wpAny M A (leaving env (.ref e)) Q E s := by
  obtain ⟨d, T, tk, v, hdn, hTX, hx, hd1, hv⟩ := fl.exc
  obtain ⟨vs, sl, he1, hv1, hTe, oT, ts, hT1, hTd, _⟩ := id hx
  have hl' : s.heap.FunFrames base (env :: l) := by
    have : ∀ {l' : List Env}, (∀ x ∈ l', x ∈ env :: l) → hX.FunFrames base l' → s.heap.FunFrames base l' := by
      intro l'
      induction l' with
      | nil => intro _ _; trivial
      | cons x r ih =>
        intro hx' ⟨a1, ⟨L1, o1, f1, f2, f3, f4⟩, a3⟩
        have hL1 : L1 ∈ frs (env :: l) := List.mem_filterMap.mpr ⟨x, hx' x (.head _), f1⟩
        obtain ⟨sl1, q⟩ := fl.slots L1 o1 f3 (fun r => hmf L1 r hL1)
        exact ⟨a1, ⟨L1, _, f1, f2, q, f4⟩, ih (fun y hy => hx' y (.tail _ hy)) a3⟩
    exact this (fun _ h => h) hl
  refine leaving_low (tb := some T) hfr hl' hf hx fun h' T' hT' hx' hlv => ?_
  have hS : Slots s.heap h' := fun b o hb hnf => hlv.slots b o hb (fun q => by rw [q, he1] at hb; cases hb; exact hnf _ rfl) (fun T1 q r => by cases q; rw [r, hT1] at hb; cases hb; exact hnf _ hTd)
  have henh : h.get? e = none := none_back hst fl.enew
  have hde : d ∉ frs (env :: l) := fun q => by
    obtain ⟨_, o, ho, _⟩ := hl.mem q
    rw [hdn] at ho; cases ho
  have hne : ∀ b o, h.get? b = some o → b ≠ e := fun b o q r => by rw [r, henh] at q; cases q
  have hnm : ∀ b o, h.get? b = some o → b ∉ ms → b ∉ ms' := fun b o q r x => (hms b x).elim r fun y => by rw [y] at q; cases q
  have hnL : ∀ b o, h.get? b = some o → b ∉ frs l → b ∉ frs (env :: l) := fun b o q r => by
    rw [frs_cons hf]; simp only [List.mem_cons, not_or]; exact ⟨(fun x => by rw [x, hL] at q; cases q), r⟩
  have hnT : ∀ b o, h.get? b = some o → ∀ T1, some T = some T1 → b ≠ T1 := fun b o q T1 e1 r => by
    cases e1; obtain ⟨o', q'⟩ := hst b o q; rw [r, hTX] at q'; cases q'
  refine hQ h' ⟨fun b o q hm hb => hlv.kept b o (fl.kept b o (W b o q hm) (hnm b o q hm) (hnL b o q hb)) (hne b o q) (hnT b o q) (hnL b o q hb), fun b o q hm => ?_, fun b o q => ?_, henh,
    ⟨d, T', tk, v, none_back hst hdn, none_back (fun b o q => by obtain ⟨o1, q1⟩ := hst b o q; exact fl.stays b o1 q1) hT', hx', hlv.kept d _ hd1 (fun q => by rw [q, he1] at hd1; cases hd1) (fun T1 e1 r => by cases e1; rw [r, hT1] at hd1; cases hd1; cases hTd) hde, Reads.slots hv hS⟩, fl.sym.slots hS fun a ha o q => ?_⟩
  · obtain ⟨sl1, q1⟩ := fl.slots b o (W b o q hm) (hnm b o q hm)
    obtain ⟨sl2, q2⟩ := hlv.slots b _ q1 (hne b o q) (hnT b o q)
    exact ⟨sl2, q2⟩
  · obtain ⟨o1, q1⟩ := hst b o q
    obtain ⟨o2, q2⟩ := fl.stays b o1 q1
    obtain ⟨sl2, q3⟩ := hlv.slots b _ q2 (hne b o q) (hnT b o q)
    exact ⟨_, q3⟩
  · obtain ⟨o', ho', hnf⟩ := fl.sym.noFields a ha
    rw [q] at ho'; cases ho'
    exact hlv.kept a o q (fun r => by rw [r, he1] at q; cases q; exact hnf _ rfl) (fun T1 e1 r => by cases e1; rw [r, hT1] at q; cases q; exact hnf _ hTd) (hz a ha)
end
end
section
theorem walk_off_M11 : True := by
  w_top off
  trivial
open PySem PySem.W PyProof.Rows PySem.Calls PySem.Spec
noncomputable def signZ (v : Int) : Int := if v < 0 then -1 else if 0 < v then 1 else 0
noncomputable def absZ (v : Int) : Int := if v < 0 then -v else v
noncomputable def divT (a b : Int) : Int := if decide (a < 0) = decide (b < 0) then (absZ a).fdiv (absZ b) else -((absZ a).fdiv (absZ b))
noncomputable def remT (a b : Int) : Int := a - b * divT a b
theorem absZ_eq (v : Int) : absZ v = (v.natAbs : Int) := by unfold absZ; split <;> omega
theorem absZ_ne {v : Int} (h : v ≠ 0) : absZ v ≠ 0 := by unfold absZ; split <;> omega
theorem gcd_step {a b : Int} (ha : 0 ≤ a) (hb : 0 < b) : Int.gcd b (a.fmod b) = Int.gcd a b := by
  obtain ⟨x, rfl⟩ := Int.eq_ofNat_of_zero_le ha
  obtain ⟨y, rfl⟩ := Int.eq_ofNat_of_zero_le (Int.le_of_lt hb)
  have e : Int.fmod (x : Int) (y : Int) = ((x % y : Nat) : Int) := by rw [Int.fmod_eq_emod_of_nonneg _ (Int.le_of_lt hb)]; simp
  rw [e]
  show Nat.gcd y (x % y) = Nat.gcd x y
  rw [Nat.gcd_comm x y, Nat.gcd_comm y (x % y), ← Nat.gcd_rec]
section
variable {prog : Program} {w : World} {A : Around} {env : Env} {h₀ : Heap} {L : Addr} {s : Shared} {Q : Flow → Shared → Prop} {E : Value → Shared → Prop}
noncomputable def WStep (h₀ : Heap) (L : Addr) (s : Shared) (J : Nat → (Str → Option Value) → List (Addr × Obj) → Heap → Prop) (n : Nat) (f : Flow) (s₃ : Shared) : Prop :=
  (f = .next ∨ f = .cont) ∧ ∃ h' tk m₂ news₂ n', s₃ = { s with heap := h', toks := tk } ∧ Fr h₀ L h' m₂ ∧ News h₀ L h' news₂ ∧ n' < n ∧ J n' m₂ news₂ h'
theorem WStep.intro {h' : Heap} {J : Nat → (Str → Option Value) → List (Addr × Obj) → Heap → Prop} {n n' tk : Nat} {m₂ : Str → Option Value} {news₂ : List (Addr × Obj)}
    (F : Fr h₀ L h' m₂) (N : News h₀ L h' news₂) (hn : n' < n) (hJ : J n' m₂ news₂ h') : WStep h₀ L s J n .next { s with heap := h', toks := tk } := ⟨.inl rfl, h', tk, m₂, news₂, n', rfl, F, N, hn, hJ⟩
/-- a while loop; the invariant speaks of the heap too -/
theorem While_m {test : Expr} {body : List Stmt} {pos : Pos} {m : Str → Option Value} {news : List (Addr × Obj)} (J : Nat → (Str → Option Value) → List (Addr × Obj) → Heap → Prop) {n₀ : Nat}
    (F : Fr h₀ L s.heap m) (N : News h₀ L s.heap news) (hJ : J n₀ m news s.heap)
    (turn : ∀ n m₁ news₁ h₁ tk₁, Fr h₀ L h₁ m₁ → News h₀ L h₁ news₁ → J n m₁ news₁ h₁ →
      wpAny (model prog w) A (isTrue test env (eval test env)) (fun b s₂ =>
        if b = true then wpAny (model prog w) A (execs body env) (WStep h₀ L s J n) E s₂ else Q .next s₂) E { s with heap := h₁, toks := tk₁ })
    (hE : PassesOwn (model prog w) A env E := by passes_own) :
    wpAny (model prog w) A (exec (.While test body [] pos) env) Q E s := by
  refine wpAny_While (codeAny_whileLoop (fun n s' => ∃ h₁ tk₁ m₁ news₁, s' = { s with heap := h₁, toks := tk₁ } ∧ Fr h₀ L h₁ m₁ ∧ News h₀ L h₁ news₁ ∧ J n m₁ news₁ h₁) ?_ n₀ ⟨s.heap, s.toks, m, news, rfl, F, N, hJ⟩)
  rintro n s' ⟨h₁, tk₁, m₁, news₁, rfl, F₁, N₁, J₁⟩
  refine wpAny_mono (turn n m₁ news₁ h₁ tk₁ F₁ N₁ J₁) (fun b s₂ h₂ => ?_) hE
  cases b with
  | false =>
    simp only [Bool.false_eq_true, if_false] at h₂ ⊢
    exact wpAny_execs_nil h₂
  | true =>
    simp only [if_true] at h₂ ⊢
    refine wpAny_mono h₂ (fun f s₃ h₃ => ?_) hE
    obtain ⟨hf, h', tk, m₂, news₂, n', rfl, F₂, N₂, hn, J₂⟩ := h₃
    rcases hf with rfl | rfl <;> exact ⟨n', hn, h', tk, m₂, news₂, rfl, F₂, N₂, J₂⟩
end
end
local macro_rules | `(tactic| walk_at "eval Call") => `(tactic| k_dflt (refine Call_ ?_))
section
end
local macro_rules | `(tactic| walk_at "exec While Name cons nil") => `(tactic| refine stop_call ?_)
section
theorem swap2 {a b : Str} (h : a ≠ b) (x y : Option Value) (r : Str → Option Value) : (fun z => if z = a then x else if z = b then y else r z) = fun z => if z = b then y else if z = a then x else r z := by
  funext z
  by_cases h1 : z = a
  · subst h1; simp [h]
  · simp [h1]
theorem bits70 {a : Int} (h : a.natAbs < 2 ^ 70) : Builtin.Int.intBits a ≤ 70 := by
  unfold Builtin.Int.intBits
  split
  · exact Nat.zero_le _
  · rename_i q
    have h0 : a.natAbs ≠ 0 := fun x => q (by simpa using x)
    have := (Nat.log2_lt h0).mpr h
    omega
theorem mulOk {a b : Int} (ha : a.natAbs < 2 ^ 70) (hb : b.natAbs < 2 ^ 70) : IntMulOk a b := by
  have h1 := bits70 ha
  have h2 := bits70 hb
  have h3 : Builtin.Int.intTooBig (Builtin.Int.intBits a + Builtin.Int.intBits b) = false := by
    unfold Builtin.Int.intTooBig
    refine decide_eq_false ?_
    simp only [bitsLine]
    omega
  unfold IntMulOk
  rw [h3]; simp
theorem divT_neg {a b : Int} (h : (decide (a < 0) != decide (b < 0)) = true) : -((if a < 0 then -a else a).fdiv (if b < 0 then -b else b)) = divT a b := by
  have h : ¬ (decide (a < 0) = decide (b < 0)) := by intro q; rw [q] at h; simp at h
  unfold divT absZ
  simp only [if_neg h]
theorem divT_pos {a b : Int} (h : (decide (a < 0) != decide (b < 0)) = false) : (if a < 0 then -a else a).fdiv (if b < 0 then -b else b) = divT a b := by
  have h : decide (a < 0) = decide (b < 0) := by simpa using h
  unfold divT absZ
  simp only [if_pos h]
theorem divT_le (a b : Int) : (divT a b).natAbs ≤ a.natAbs := by
  have e : (absZ a).fdiv (absZ b) = ((a.natAbs / b.natAbs : Nat) : Int) := by
    rw [absZ_eq, absZ_eq, Int.fdiv_eq_ediv_of_nonneg _ (Int.natCast_nonneg _)]; simp
  have h := Nat.div_le_self a.natAbs b.natAbs
  unfold divT
  rw [e]
  generalize a.natAbs / b.natAbs = k at *
  split
  · omega
  · rw [Int.natAbs_neg]; omega
theorem np {a b : Int} (h : b.natAbs < 2 ^ 70) : Builtin.divisionGoesByPylong a b = false := by
  refine PyProof.noPylong_of_log2 ?_
  by_cases h0 : b.natAbs = 0
  · rw [h0]; decide +kernel
  · have := (Nat.log2_lt h0).mpr h
    omega
end
local macro_rules | `(tactic| walk_at "binaryOp FloorDiv int int") => `(tactic| (k_dflt (refine floordiv_int (by assumption) ?_ (.inl (np (by assumption))))))
section
end
local macro_rules | `(tactic| walk_at "binaryOp Mult int int") => `(tactic| (k_dflt (refine mul_int ?_ (mulOk (by assumption) (by assumption)))))
section
end
local macro_rules | `(tactic| walk_at "binaryOp Mod int int") => `(tactic| (k_dflt (refine mod_int' (by assumption) ?_ (.inl (np (by assumption))))))
section
section
variable {w : World} {mean : ExcName → Option Value} {mg mb : Str → Option Value} {A : Around} {env : Env} {outer : List Env} {A₀ : Around} {base h₀ : Heap} {L : Addr} {m : Str → Option Value} {s : Shared} {Q E : Value → Shared → Prop}
  (B : Below A₀ base outer h₀) (F : Fr h₀ L s.heap m) (X : (hd.heap_1 w.params).In h₀) (T : Top hdV (looseW hdV []) mean mg mb h₀)
  (hA : A.frames = some (env :: outer)) (hf : env.frame = some L) (hke : env.scope.kind = .function) (hh : A.handled = none)
include B F X T hA hf hke hh
theorem sign_spec (hdp : A.depth + 1 < recursionLimit) (hun : A.units + 8 < cLine) {v : Int} {t : Tok} (hret : ∀ (tk : Tok) (h' : Heap) (tk' : Nat), Kept s.heap h' [] → Q (.int (signZ v) tk) { s with heap := h', toks := tk' }) :
    wpAny (model PySem.Challenge.rw_rh0079_01.row.prog w) A (PySem.call (.ref 300) [.int v t]) Q E s := by
  revert X; k_fill; intro X
  refine wpAny_call ?_
  obtain ⟨hd0, dp, fr, gd, un⟩ := A
  dsimp only at hA hh hdp hun
  subst hA hh
  have N : News h₀ L s.heap [] := News.nil
  k_dflt (refine' enter_fn (rb := [(Str.ofString "value", .int v t)]) B F X N T ?kA hf hke ?k6 ?k7 ?k8 ?k9 ?kB ?kR ?_ ?c2 ?c3 ?c4 ?c5; (case kA => exact rfl); (case k6 => k_is); (case k7 => k_is); (case k8 => exact room0 hdp); (case k9 => exact BindsTo.of_eq rfl); (case kR => exact rfl); (case c5 => decide); (case kB => exact locs rfl); (case c2 => exact rfl); (case c3 => exact rfl); (case c4 => exact rfl); k_whole; intro g' L' h' F' N' B' X' T' K' S' Z' tkE; (try dsimp only); (try k_fold); refine let_AE ?_; intro A1 en)
  k_steps
  all_goals ((rename Kept s.heap _ _ => kK); have q := fun (t : Tok) (n : Nat) => hret t _ n kK; unfold signZ at q)
  · rw [if_pos (by assumption)] at q; exact q _ _
  · rw [if_neg (by assumption), if_pos (by assumption)] at q; exact q _ _
  · rw [if_neg (by assumption), if_neg (by assumption)] at q; exact q _ _
theorem div_spec (hdp : A.depth + 1 < recursionLimit) (hun : A.units + 8 < cLine) {a b : Int} {t u : Tok} (hb : b ≠ 0) (ha64 : a.natAbs < 2 ^ 70) (hb64 : b.natAbs < 2 ^ 70) (hret : ∀ (tk : Tok) (h' : Heap) (tk' : Nat), Kept s.heap h' [] → Q (.int (divT a b) tk) { s with heap := h', toks := tk' }) :
    wpAny (model PySem.Challenge.rw_rh0079_01.row.prog w) A (PySem.call (.ref 258) [.int a t, .int b u]) Q E s := by
  revert X; k_fill; intro X
  refine wpAny_call ?_
  obtain ⟨hd0, dp, fr, gd, un⟩ := A
  dsimp only at hA hh hdp hun
  subst hA hh
  have N : News h₀ L s.heap [] := News.nil
  k_dflt (refine' enter_fn (rb := [(Str.ofString "second", .int b u), (Str.ofString "first", .int a t)]) B F X N T ?kA hf hke ?k6 ?k7 ?k8 ?k9 ?kB ?kR ?_ ?c2 ?c3 ?c4 ?c5; (case kA => exact rfl); (case k6 => k_is); (case k7 => k_is); (case k8 => exact room0 hdp); (case k9 => exact BindsTo.of_eq rfl); (case kR => exact rfl); (case c5 => decide); (case kB => exact locs rfl); (case c2 => exact rfl); (case c3 => exact rfl); (case c4 => exact rfl); k_whole; intro g' L' h' F' N' B' X' T' K' S' Z' tkE; (try dsimp only); (try k_fold); refine let_AE ?_; intro A1 en)
  have hb' : (if b < 0 then -b else b) ≠ 0 := absZ_ne hb
  have hb6 : (if b < 0 then -b else b).natAbs < 2 ^ 70 := by split <;> omega
  k_steps
  all_goals ((rename Kept s.heap _ _ => kK); have q := fun (t : Tok) (n : Nat) => hret t _ n kK)
  · rw [divT_neg (by assumption)]; exact q _ _
  · rw [divT_pos (by assumption)]; exact q _ _
theorem rem_spec (hdp : A.depth + 2 < recursionLimit) (hun : A.units + 16 < cLine) {a b : Int} {t u : Tok} (hb : b ≠ 0) (ha64 : a.natAbs < 2 ^ 70) (hb64 : b.natAbs < 2 ^ 70) (hret : ∀ (tk : Tok) (h' : Heap) (tk' : Nat), Kept s.heap h' [] → Q (.int (remT a b) tk) { s with heap := h', toks := tk' }) :
    wpAny (model PySem.Challenge.rw_rh0079_01.row.prog w) A (PySem.call (.ref 265) [.int a t, .int b u]) Q E s := by
  revert X; k_fill; intro X
  refine wpAny_call ?_
  obtain ⟨hd0, dp, fr, gd, un⟩ := A
  dsimp only at hA hh hdp hun
  subst hA hh
  have N : News h₀ L s.heap [] := News.nil
  k_dflt (refine' enter_fn (rb := [(Str.ofString "second", .int b u), (Str.ofString "first", .int a t)]) B F X N T ?kA hf hke ?k6 ?k7 ?k8 ?k9 ?kB ?kR ?_ ?c2 ?c3 ?c4 ?c5; (case kA => exact rfl); (case k6 => k_is); (case k7 => k_is); (case k8 => exact room0 hdp); (case k9 => exact BindsTo.of_eq rfl); (case kR => exact rfl); (case c5 => decide); (case kB => exact locs rfl); (case c2 => exact rfl); (case c3 => exact rfl); (case c4 => exact rfl); k_whole; intro g' L' h' F' N' B' X' T' K' S' Z' tkE; (try dsimp only); (try k_fold); refine let_AE ?_; intro A1 en)
  k_steps
  unfold Stop
  (rename Fr g' L' _ _ => kF); (rename News g' L' _ _ => kN)
  k_dflt (refine div_spec B' kF X' T' rfl rfl rfl rfl (roomD hdp (by decide)) (roomU hun (by decide)) hb ha64 hb64 ?_)
  intro tq h1 tk1 K1
  have hd6 : (divT a b).natAbs < 2 ^ 70 := Nat.lt_of_le_of_lt (divT_le a b) ha64
  have F1 := kept_fr kF K1 (by simp)
  have N1 : News g' L' h1 [] := News.nil
  clear kN kF
  k_steps
  (rename Kept s.heap _ _ => kK); have q := fun (t : Tok) (n : Nat) => hret t _ n kK
  exact q _ _
theorem gcd_spec (hdp : A.depth + 1 < recursionLimit) (hun : A.units + 16 < cLine) {a b : Int} {t u : Tok} (ha64 : a.natAbs < 2 ^ 70) (hb64 : b.natAbs < 2 ^ 70) (hret : ∀ (tk : Tok) (h' : Heap) (tk' : Nat), Kept s.heap h' [] → Q (.int (Int.gcd a b) tk) { s with heap := h', toks := tk' }) :
    wpAny (model PySem.Challenge.rw_rh0079_01.row.prog w) A (PySem.call (.ref 272) [.int a t, .int b u]) Q E s := by
  revert X; k_fill; intro X
  refine wpAny_call ?_
  obtain ⟨hd0, dp, fr, gd, un⟩ := A
  dsimp only at hA hh hdp hun
  subst hA hh
  have N : News h₀ L s.heap [] := News.nil
  k_dflt (refine' enter_fn (rb := [(Str.ofString "second", .int b u), (Str.ofString "first", .int a t)]) B F X N T ?kA hf hke ?k6 ?k7 ?k8 ?k9 ?kB ?kR ?_ ?c2 ?c3 ?c4 ?c5; (case kA => exact rfl); (case k6 => k_is); (case k7 => k_is); (case k8 => exact room0 hdp); (case k9 => exact BindsTo.of_eq rfl); (case kR => exact rfl); (case c5 => decide); (case kB => exact locs rfl); (case c2 => exact rfl); (case c3 => exact rfl); (case c4 => exact rfl); k_whole; intro g' L' h' F' N' B' X' T' K' S' Z' tkE; (try dsimp only); (try k_fold); refine let_AE ?_; intro A1 en)
  k_steps
  unfold Stop
  (rename Fr g' L' _ _ => kF); (rename News g' L' _ _ => kN)
  refine While_m (fun n m₁ news₁ _ => ∃ (x y : Int) (t1 t2 : Tok) (r : Str → Option Value), 0 ≤ x ∧ 0 ≤ y ∧ x < 2 ^ 70 ∧ y < 2 ^ 70 ∧ Int.gcd x y = Int.gcd a b ∧ n = y.toNat ∧ news₁ = [] ∧ m₁ = fun z => if z = Str.ofString "second" then some (.int y t2) else if z = Str.ofString "first" then some (.int x t1) else r z) (n₀ := (absZ b).toNat) kF kN ?_ ?_
  · refine ⟨absZ a, absZ b, _, _, _, absZ_eq a ▸ Int.natCast_nonneg _, absZ_eq b ▸ Int.natCast_nonneg _, ?_, ?_, ?_, rfl, rfl, rfl⟩
    · rw [absZ_eq]; omega
    · rw [absZ_eq]; omega
    · rw [absZ_eq, absZ_eq, Int.gcd_natCast_natCast]; rfl
  rintro n m₁ news₁ h₁ tk₁ F₁ N₁ ⟨x, y, t1, t2, r, hx, hy, hx6, hy6, hg, rfl, rfl, rfl⟩
  have hy7 : y.natAbs < 2 ^ 70 := by omega
  k_steps
  · (rename Fr g' L' _ _ => kF)
    (rename y ≠ 0 => y0)
    have hm := Int.fmod_nonneg hx hy
    have hl := Int.fmod_lt_of_pos x (show 0 < y by omega)
    refine WStep.intro kF News.nil (n' := (x.fmod y).toNat) (by omega) ⟨y, x.fmod y, t2, ?tt, ?rr, hy, hm, hy6, by omega, ?gg, rfl, rfl, ?mm⟩
    (case gg => exact (gcd_step hx (by omega)).trans hg)
    (case mm => refine swap2 ?_ _ _ _; decide)
  · (rename Kept s.heap _ _ => kK); have q := fun (t : Tok) (n : Nat) => hret t _ n kK
    (rename y = 0 => y0)
    rw [← hg, y0, Int.gcd_zero_right, show (x.natAbs : Int) = x by omega] at q
    exact q _ _

end
end
section
theorem walk_off_M12 : True := by
  w_top off
  trivial
open PySem PySem.W PyProof.Rows PySem.Calls PySem.Spec
inductive Er | flt (b : Int) | msb (v : Int) | zero | mem
  deriving DecidableEq
noncomputable def Er.nm : Er → Str | .flt _ => Str.ofString "type_error" | .msb _ => Str.ofString "type_error" | .zero => Str.ofString "evaluation_error" | .mem => Str.ofString "resource_error"
noncomputable def Er.x : Er → Str | .flt _ => Str.ofString "float" | .msb _ => Str.ofString "not_less_than_one" | .zero => Str.ofString "zero_divisor" | .mem => Str.ofString "memory"
noncomputable def Er.k : Er → Int | .flt _ => 2 | .msb _ => 2 | .zero => 1 | .mem => 1
noncomputable def Er.more : Er → List PyData | .flt b => [.tuple [.str (Str.ofString "i"), .int b]] | .msb v => [.tuple [.str (Str.ofString "i"), .int v]] | .zero => [] | .mem => []
noncomputable def Er.ball (er : Er) (tx : List Str) (fs : List (Int × Int)) : PyData := ballD (formalD tx fs er.nm er.x er.k er.more)
noncomputable def Er.T (er : Er) (tx : List Str) : List Str := erT tx er.nm er.x
noncomputable def Er.F (er : Er) (tx : List Str) (fs : List (Int × Int)) : List (Int × Int) := erF tx fs er.nm er.x er.k
noncomputable abbrev bl (v : Int) : Int := (Builtin.Int.intBits v : Int)
noncomputable def powP (b e mb : Int) : Except Er Int :=
  if b = 1 then .ok 1 else if b = -1 then (if e.fmod 2 = 0 then .ok 1 else .ok (-1)) else if e < 0 then .error (.flt b) else if e = 0 then .ok 1 else if b = 0 then .ok 0 else
  if mb ≤ (bl b - 1) * e then .error .mem else .ok (b ^ e.toNat)
theorem powOk {b x mb : Int} (h1 : b ≠ 1) (h2 : b ≠ -1) (h3 : b ≠ 0) (h4 : ¬ x < 0) (h5 : ¬ mb ≤ ((Builtin.Int.intBits b : Int) - 1) * x) (hm : mb ≤ 65) : (Builtin.Int.intBits b : Int) * x ≤ 2 ^ 27 := by
  have hb : 2 ≤ b.natAbs := by omega
  have h6 : 2 ≤ Builtin.Int.intBits b := by
    unfold Builtin.Int.intBits
    rw [if_neg (by simpa using h3)]
    have := (Nat.le_log2 (show b.natAbs ≠ 0 by omega) (k := 1)).mpr (by simpa using hb)
    omega
  generalize h6c : (Builtin.Int.intBits b : Int) = c at *
  have h7 : (1 : Int) ≤ c - 1 := by have : (2 : Int) ≤ c := h6c ▸ (by exact_mod_cast h6); omega
  have h8 := Int.mul_le_mul_of_nonneg_right h7 (show 0 ≤ x by omega)
  have h9 : c * x = (c - 1) * x + x := by rw [Int.sub_mul]; omega
  omega
theorem kept_all {g h h' : Heap} {L : Addr} {news : List (Addr × Obj)} (K : Kept h h' (news.map (·.1))) (N : News g L h' news) (N0 : ∀ p ∈ news, h.get? p.1 = some p.2) : Kept h h' [] := fun b o e _ => by
  by_cases hb : b ∈ news.map (·.1)
  · obtain ⟨p, hp, rfl⟩ := List.mem_map.mp hb
    rw [N0 p hp] at e; cases e
    exact (N p hp).1
  · exact K b o e hb
section
variable {w : World} {A : Around} {E : Value → Shared → Prop} {s : Shared} {env : Env}
/-- raise of one's own error: it is made, then flies -/
noncomputable def OwnErr (w : World) (E : Value → Shared → Prop) (v : Value) (s₁ : Shared) : Prop := ∃ e d t, v = .ref e ∧ (hd.heap_1 w.params).In s₁.heap ∧ s₁.heap.get? e = some { cls := .ref 51, dict := some d, data := .fields (excFields t) } ∧ E (.ref e) s₁
theorem Raise_own {e : Expr} {pos : Pos} {Q : Flow → Shared → Prop} (hh : A.handled = none)
    (h : wpAny (model PySem.Challenge.rw_rh0079_01.row.prog w) A (eval e env) (OwnErr w E) E s) : wpAny (model PySem.Challenge.rw_rh0079_01.row.prog w) A (exec (.Raise (some e) none pos) env) Q E s := by
  show wpAny _ A (do standAt pos; raiseStmt env (some (do let v ← eval e env; standAt pos; pure v)) none) Q E s
  refine wpAny_bind (wpAny_standAt (raise_exc hh ?_))
  exact wpAny_bind (wpAny_mono h (fun v s₁ h₁ => wpAny_bind (wpAny_standAt (wpAny_pure h₁))) fun _ _ x => x)
theorem SymH.here {w : World} {h : Heap} {z : SA} {tx : List Str} {fs : List (Int × Int)} (Y : SymH w h z tx fs) : ∀ a ∈ z.all, ∃ o, h.get? a = some o := fun a ha => let ⟨o, h, _⟩ := Y.noFields a ha; ⟨o, h⟩
/-- the error made in this body flies out of it -/
theorem fly_first {A₀ : Around} {base h g hX : Heap} {env : Env} {outer : List Env} {L e : Addr} {mX : Str → Option Value} {D : PyData} {z : SA} {tx tx' : List Str} {fs fs' : List (Int × Int)} {nm : Str} {scope : Scope} {f : Addr} {cd : Value} {s' : Shared}
    (B : Below A₀ base (env :: outer) g) (FX : Fr g L hX mX) (X : (hd.heap_1 w.params).In g) (hA : A.frames = some (env :: outer)) (hk : scope.kind = .function) (Z : h.objs.size ≤ L)
    (W : Kept h hX z.mods) (K : Kept hX s'.heap z.mods) (hz : Fresh g L z) (YX : SymH w hX z tx' fs') (Y : SymH w s'.heap z tx fs) (ne : NewErr w hX s'.heap e D) (hzf : ∀ a ∈ z.all, a ∉ frs (env :: outer)) (hzh : ∀ a ∈ z.all, ∃ o, h.get? a = some o)
    (hE : ∀ h', Flown w h h' z.mods (env :: outer) e D z tx fs → E (.ref e) { s' with heap := h' }) :
    OwnErr w (fun e s' => wpAny (model PySem.Challenge.rw_rh0079_01.row.prog w) (A.deeper (envOf nm scope L f cd)) (leaving (envOf nm scope L f cd) e) (fun _ s'' => E e s'') (fun e' s'' => E e' s'') s') (.ref e) s' := by
  obtain ⟨d, t, tk, v, p1, p2, p3, p4, p5, p6⟩ := id ne
  have F : Fr g L s'.heap mX := kept_fr FX K hz
  have hL : h.get? L = none := Heap.get?_none_of_le Z
  refine ⟨e, d, t, rfl, X.keeps F.keep, p4, ?_⟩
  have hst : ∀ b o, h.get? b = some o → ∃ o', hX.get? b = some o' := fun b o q => by
    by_cases hb : b ∈ z.mods
    · exact YX.ex b hb
    · exact ⟨o, W b o q hb⟩
  have hsX : ∀ b o, hX.get? b = some o → ∃ o', s'.heap.get? b = some o' := fun b o q => by
    by_cases hb : b ∈ z.mods
    · exact Y.ex b hb
    · exact ⟨o, K b o q hb⟩
  have BF := (Below.push (a := f) (name := nm) (scope := scope) (cd := cd) B FX hk).frames
  refine flown_first (h := h) (hX := hX) (l := env :: outer) (L := L) (ms := z.mods) (base := base) (PySem.Around.frames_deeper hA) ((B.push F hk).frames) rfl hL ?_ ?_ hst hsX ne Y ?_ hE
  · intro b hb
    obtain ⟨_, o, ho, _⟩ := BF.mem hb
    exact ⟨o, ho⟩
  · exact fun b o q hm => K b o (W b o q hm) hm
  · intro a ha
    rw [frs_cons rfl]
    obtain ⟨o, ho⟩ := hzh a ha
    simp only [List.mem_cons, not_or]
    exact ⟨fun q => (by rw [q, hL] at ho; cases ho), hzf a ha⟩
end
end
local macro_rules | `(tactic| walk_at "exec Raise some none") => `(tactic| k_dflt (refine Raise_own ?_ ?_; (exact rfl)))
section
local macro_rules | `(tactic| walk_at "binaryOp Mult int int") => `(tactic| (k_dflt (refine mul_int ?_ (by assumption))))
local macro_rules | `(tactic| walk_at "binaryOp Pow int int") => `(tactic| (k_dflt (refine pow_int (by omega) (powOk (by assumption) (by assumption) (by assumption) (by assumption) (by assumption) (by assumption)) ?_)))
section
variable {w : World} {mean : ExcName → Option Value} {mg mb : Str → Option Value} {A : Around} {env : Env} {outer : List Env} {A₀ : Around} {base h₀ : Heap} {L : Addr} {m : Str → Option Value} {s : Shared} {Q E : Value → Shared → Prop}
  (B : Below A₀ base outer h₀) (F : Fr h₀ L s.heap m) (X : (hd.heap_1 w.params).In h₀) (T : Top hdV (looseW hdV []) mean mg mb h₀)
  (hA : A.frames = some (env :: outer)) (hf : env.frame = some L) (hke : env.scope.kind = .function) (hh : A.handled = none)
include B F X T hA hf hke hh
theorem pow_spec (hdp : A.depth + 8 < recursionLimit) (hun : A.units + 80 < cLine) {z : SA} {tx : List Str} {fs : List (Int × Int)} {b x mb : Int} {t1 t2 t3 : Tok} (Y : SymH w s.heap z tx fs) (hz : Fresh h₀ L z) (hlt : tx.length < 80000) (hlf : fs.length < 80000) (hzf : ∀ a ∈ z.all, a ∉ frs (env :: outer)) (hb : b.natAbs < 2 ^ 65) (hx : x.natAbs < 2 ^ 65) (hm : mb ≤ 65) 
    (hret : ∀ v tk h' tk', powP b x mb = .ok v → Kept s.heap h' [] → Q (.int v tk) { s with heap := h', toks := tk' })
    (hexc : ∀ er e h' tk', powP b x mb = .error er → Flown w s.heap h' z.mods (env :: outer) e (er.ball tx fs) z (er.T tx) (er.F tx fs) → E (.ref e) { s with heap := h', toks := tk' }) :
    wpAny (model PySem.Challenge.rw_rh0079_01.row.prog w) A (PySem.call (.ref 279) [.ref z.S, .int b t1, .int x t2, .int mb t3]) Q E s := by
  revert X; k_fill; intro X
  refine wpAny_call ?_
  obtain ⟨hd0, dp, fr, gd, un⟩ := A
  dsimp only at hA hh hdp hun
  subst hA hh
  obtain ⟨o1, o2, o3, o4, N⟩ := Y.four hz
  k_dflt (refine' enter_fn (rb := [(Str.ofString "max_bits", .int mb t3), (Str.ofString "exponent", .int x t2), (Str.ofString "base", .int b t1), (Str.ofString "symbols", .ref z.S)]) B F X N T ?kA hf hke ?k6 ?k7 ?k8 ?k9 ?kB ?kR ?_ ?c2 ?c3 ?c4 ?c5; (case kA => exact rfl); (case k6 => k_is); (case k7 => k_is); (case k8 => exact room0 hdp); (case k9 => exact BindsTo.of_eq rfl); (case kR => exact rfl); (case c5 => decide); (case kB => exact locs rfl); (case c2 => exact rfl); (case c3 => exact rfl); (case c4 => exact rfl); k_whole; intro g' L' h' F' N' B' X' T' K' S' Z' tkE; (try dsimp only); (try k_fold); refine let_AE ?_; intro A1 en)
  have hz' := fresh_of N'
  have N0 := fun p hp => (N p hp).1
  clear N
  have hM1 : IntMulOk ((Builtin.Int.intBits b : Int) - 1) x := mulOk (by have := bits70 (Nat.lt_of_lt_of_le hb (by decide)); omega) (Nat.lt_of_lt_of_le hx (by decide))
  k_steps
  · (rename News h₀ L _ _ => kN); (rename Kept s.heap _ _ => kK); have kK := kept_all kK kN N0; (rename b = 1 => c1); exact hret 1 _ _ _ (by unfold powP; rw [if_pos c1]) kK
  · (rename News h₀ L _ _ => kN); (rename Kept s.heap _ _ => kK); have kK := kept_all kK kN N0; (rename b ≠ 1 => c1); (rename b = -1 => c2); (rename x.fmod 2 = 0 => c3); exact hret 1 _ _ _ (by unfold powP; rw [if_neg c1, if_pos c2, if_pos c3]) kK
  · (rename News h₀ L _ _ => kN); (rename Kept s.heap _ _ => kK); have kK := kept_all kK kN N0; (rename b ≠ 1 => c1); (rename b = -1 => c2); (rename x.fmod 2 ≠ 0 => c3); exact hret (-1) _ _ _ (by unfold powP; rw [if_neg c1, if_pos c2, if_neg c3]) kK
  · unfold Stop
    (rename Fr g' L' _ _ => kF); (rename News g' L' _ _ => kN)
    k_dflt (refine integer_spec B' kF X' T' rfl rfl rfl rfl (roomD hdp (by decide)) (roomU hun (by decide)) ?_)
    intro a h1 tk1 t1 t2 K1 ha hc
    have F1 := kept_fr kF K1 (by simp)
    have W := whole K' kF kN N0
    have Y1 := (Y.kept0 W).kept0 K1
    have hc0 := new_to kF ha
    have N1 : News g' L' h1 [] := News.nil
    clear kN kF
    k_steps
    unfold Stop
    k_dflt (refine typerr_spec B' F1 X' T' rfl rfl rfl rfl (roomD hdp (by decide)) (roomU hun (by decide)) Y1 hz' hlt hlf hc ⟨hc0.2, hc0.1⟩ ?_)
    intro e h2 tk2 K2 Y2 ne
    refine fly_first B' F1 X' rfl rfl Z' (fun b o q hm => K1 b o (W b o q (by simp)) (by simp)) K2 hz' Y1 Y2 ne hzf Y.here fun h3 fl => hexc (.flt b) e h3 _ ?_ fl
    unfold powP
    rw [if_neg (by assumption), if_neg (by assumption), if_pos (by assumption)]
  · (rename News h₀ L _ _ => kN); (rename Kept s.heap _ _ => kK); have kK := kept_all kK kN N0; (rename b ≠ 1 => c1); (rename b ≠ -1 => c2); (rename ¬ x < 0 => c3); (rename x = 0 => c4); exact hret 1 _ _ _ (by unfold powP; rw [if_neg c1, if_neg c2, if_neg c3, if_pos c4]) kK
  · (rename News h₀ L _ _ => kN); (rename Kept s.heap _ _ => kK); have kK := kept_all kK kN N0; (rename b ≠ 1 => c1); (rename b ≠ -1 => c2); (rename ¬ x < 0 => c3); (rename x ≠ 0 => c4); (rename b = 0 => c5); exact hret 0 _ _ _ (by unfold powP; rw [if_neg c1, if_neg c2, if_neg c3, if_neg c4, if_pos c5]) kK
  · unfold Stop
    (rename Fr g' L' _ _ => kF); (rename News g' L' _ _ => kN)
    have W := whole K' kF kN N0
    have Y1 := Y.kept0 W
    k_dflt (refine reserr_spec B' kF X' T' rfl rfl rfl rfl (roomD hdp (by decide)) (roomU hun (by decide)) Y1 hz' hlt hlf ?_)
    intro e h2 tk2 K2 Y2 ne
    refine fly_first B' kF X' rfl rfl Z' (kept00 W _) K2 hz' Y1 Y2 ne hzf Y.here fun h3 fl => hexc .mem e h3 _ ?_ fl
    unfold powP
    rw [if_neg (by assumption), if_neg (by assumption), if_neg (by assumption), if_neg (by assumption), if_neg (by assumption), if_pos (by assumption)]
  · (rename News h₀ L _ _ => kN); (rename Kept s.heap _ _ => kK); have kK := kept_all kK kN N0; refine hret (b ^ x.toNat) _ _ _ ?_ kK
    unfold powP
    rw [if_neg (by assumption), if_neg (by assumption), if_neg (by assumption), if_neg (by assumption), if_neg (by assumption), if_neg (by assumption)]

end
end
section
local macro_rules | `(tactic| walk_at "no such key") => `(tactic| skip)
theorem walk_off_M13 : True := by
  w_top off
  trivial
open PySem PySem.W PyProof.Rows PySem.Calls PySem.Spec
noncomputable def shr0 (v c : Int) : Int := if bl v ≤ c then (if v < 0 then -1 else 0) else v.fdiv (2 ^ c.toNat)
noncomputable def shl0 (v c mb : Int) : Except Er Int := if v = 0 then .ok 0 else if mb < bl v + c then .error .mem else .ok (v * 2 ^ c.toNat)
noncomputable def shlP (v c mb : Int) : Except Er Int := if c < 0 then .ok (shr0 v (-c)) else shl0 v c mb
noncomputable def shrP (v c mb : Int) : Except Er Int := if c < 0 then shl0 v (-c) mb else .ok (shr0 v c)
noncomputable def sizeP (v mb : Int) : Except Er Int := if mb < bl v then .error .mem else .ok v
noncomputable def unP (x : Str) (v : Int) : Except Er Int := if (x == Str.ofString "-") = true then .ok (-v) else if (x == Str.ofString "abs") = true then .ok (absZ v) else if (x == Str.ofString "sign") = true then .ok (signZ v) else if (x == Str.ofString "\\") = true then .ok (-v - 1) else
  if (x == Str.ofString "succ") = true then .ok (v + 1) else if (x == Str.ofString "msb") = true then (if v < 1 then .error (.msb v) else .ok (bl v - 1)) else .ok v
noncomputable def divP (x : Str) (a b : Int) : Except Er Int := if b = 0 then .error .zero else if (x == Str.ofString "//") = true then .ok (divT a b) else if (x == Str.ofString "rem") = true then .ok (remT a b) else if (x == Str.ofString "mod") = true then .ok (a.fmod b) else .ok (a.fdiv b)
theorem ntrue {b : Bool} (h : b = false) : ¬ b = true := by rw [h]; simp
theorem mods_all {z : SA} {b : Addr} (h : b ∈ z.mods) : b ∈ z.all := by
  simp only [SA.mods, SA.all, List.mem_cons, List.not_mem_nil, or_false] at h ⊢
  exact .inr (.inr h)
theorem zfrs {h : Heap} {env : Env} {outer : List Env} {L : Addr} {z : SA} {nm : Str} {scope : Scope} {f : Addr} {cd : Value} (Z : h.objs.size ≤ L) (hzh : ∀ a ∈ z.all, ∃ o, h.get? a = some o) (hzf : ∀ a ∈ z.all, a ∉ frs (env :: outer)) : ∀ a ∈ z.all, a ∉ frs (envOf nm scope L f cd :: env :: outer) := fun a ha => by
  rw [frs_cons rfl]
  obtain ⟨o, ho⟩ := hzh a ha
  simp only [List.mem_cons, not_or]
  exact ⟨fun q => (by rw [q, Heap.get?_none_of_le Z] at ho; cases ho), hzf a ha⟩
/-- an error that came out of a callee flies on out of this body -/
theorem fly_on {w : World} {A : Around} {E : Value → Shared → Prop} {A₀ : Around} {base h g hX : Heap} {env : Env} {outer : List Env} {L e : Addr} {mX : Str → Option Value} {D : PyData} {z : SA} {tx : List Str} {fs : List (Int × Int)} {nm : Str} {scope : Scope} {f : Addr} {cd : Value} {s' : Shared} {ms ms' : List Addr}
    (B : Below A₀ base (env :: outer) g) (FX : Fr g L hX mX) (hA : A.frames = some (env :: outer)) (hk : scope.kind = .function) (Z : h.objs.size ≤ L)
    (W : Kept h hX ms) (hst : ∀ b o, h.get? b = some o → ∃ o', hX.get? b = some o') (hms : ∀ b ∈ ms', b ∈ ms ∨ h.get? b = none) (hmf : ∀ b ∈ ms', b ∉ frs (envOf nm scope L f cd :: env :: outer))
    (fl : Flown w hX s'.heap ms' (envOf nm scope L f cd :: env :: outer) e D z tx fs) (hzf : ∀ a ∈ z.all, a ∉ frs (env :: outer)) (hzh : ∀ a ∈ z.all, ∃ o, h.get? a = some o)
    (hE : ∀ h', Flown w h h' ms (env :: outer) e D z tx fs → E (.ref e) { s' with heap := h' }) :
    wpAny (model PySem.Challenge.rw_rh0079_01.row.prog w) (A.deeper (envOf nm scope L f cd)) (leaving (envOf nm scope L f cd) (.ref e)) (fun _ s'' => E (.ref e) s'') (fun e' s'' => E e' s'') s' :=
  flown_next (base := base) (PySem.Around.frames_deeper hA) ((Below.push B FX hk).frames) rfl (Heap.get?_none_of_le Z) W hst hms hmf fl (zfrs Z hzh hzf) hE
local macro_rules | `(tactic| walk_at "binaryOp LShift int int") => `(tactic| (k_dflt (refine lshift_int (by omega) (by omega) ?_)))
local macro_rules | `(tactic| walk_at "binaryOp RShift int int") => `(tactic| (k_dflt (refine rshift_int (by omega) ?_)))
section
variable {w : World} {mean : ExcName → Option Value} {mg mb : Str → Option Value} {A : Around} {env : Env} {outer : List Env} {A₀ : Around} {base h₀ : Heap} {L : Addr} {m : Str → Option Value} {s : Shared} {Q E : Value → Shared → Prop}
  (B : Below A₀ base outer h₀) (F : Fr h₀ L s.heap m) (X : (hd.heap_1 w.params).In h₀) (T : Top hdV (looseW hdV []) mean mg mb h₀)
  (hA : A.frames = some (env :: outer)) (hf : env.frame = some L) (hke : env.scope.kind = .function) (hh : A.handled = none)
include B F X T hA hf hke hh
theorem shr0_spec (hdp : A.depth + 1 < recursionLimit) (hun : A.units + 8 < cLine) {S : Addr} {v c mb : Int} {t1 t2 t3 : Tok} (hc : 0 ≤ c) (hret : ∀ (tk : Tok) (h' : Heap) (tk' : Nat), Kept s.heap h' [] → Q (.int (shr0 v c) tk) { s with heap := h', toks := tk' }) :
    wpAny (model PySem.Challenge.rw_rh0079_01.row.prog w) A (PySem.call (.ref 293) [.ref S, .int v t1, .int c t2, .int mb t3]) Q E s := by
  revert X; k_fill; intro X
  refine wpAny_call ?_
  obtain ⟨hd0, dp, fr, gd, un⟩ := A
  dsimp only at hA hh hdp hun
  subst hA hh
  have N : News h₀ L s.heap [] := News.nil
  k_dflt (refine' enter_fn (rb := [(Str.ofString "max_bits", .int mb t3), (Str.ofString "count", .int c t2), (Str.ofString "value", .int v t1), (Str.ofString "symbols", .ref S)]) B F X N T ?kA hf hke ?k6 ?k7 ?k8 ?k9 ?kB ?kR ?_ ?c2 ?c3 ?c4 ?c5; (case kA => exact rfl); (case k6 => k_is); (case k7 => k_is); (case k8 => exact room0 hdp); (case k9 => exact BindsTo.of_eq rfl); (case kR => exact rfl); (case c5 => decide); (case kB => exact locs rfl); (case c2 => exact rfl); (case c3 => exact rfl); (case c4 => exact rfl); k_whole; intro g' L' h' F' N' B' X' T' K' S' Z' tkE; (try dsimp only); (try k_fold); refine let_AE ?_; intro A1 en)
  k_steps
  all_goals ((rename News h₀ L _ _ => kN); (rename Kept s.heap _ _ => kK); have q := fun (t : Tok) (n : Nat) => hret t _ n kK; unfold shr0 at q)
  · rw [if_pos (by assumption), if_pos (by assumption)] at q; exact q _ _
  · rw [if_pos (by assumption), if_neg (by assumption)] at q; exact q _ _
  · rw [if_neg (by assumption)] at q; exact q _ _
theorem shl_spec (hdp : A.depth + 9 < recursionLimit) (hun : A.units + 100 < cLine) {z : SA} {tx : List Str} {fs : List (Int × Int)} {v c mb : Int} {t1 t2 t3 : Tok} (Y : SymH w s.heap z tx fs) (hz : Fresh h₀ L z) (hlt : tx.length < 80000) (hlf : fs.length < 80000) (hzf : ∀ a ∈ z.all, a ∉ frs (env :: outer)) (hm : mb ≤ 65) 
    (hret : ∀ vr tk h' tk', shlP v c mb = .ok vr → Kept s.heap h' [] → Q (.int vr tk) { s with heap := h', toks := tk' })
    (hexc : ∀ er e h' tk', shlP v c mb = .error er → Flown w s.heap h' z.mods (env :: outer) e (er.ball tx fs) z (er.T tx) (er.F tx fs) → E (.ref e) { s with heap := h', toks := tk' }) :
    wpAny (model PySem.Challenge.rw_rh0079_01.row.prog w) A (PySem.call (.ref 286) [.ref z.S, .int v t1, .int c t2, .int mb t3]) Q E s := by
  revert X; k_fill; intro X
  refine wpAny_call ?_
  obtain ⟨hd0, dp, fr, gd, un⟩ := A
  dsimp only at hA hh hdp hun
  subst hA hh
  obtain ⟨o1, o2, o3, o4, N⟩ := Y.four hz
  k_dflt (refine' enter_fn (rb := [(Str.ofString "max_bits", .int mb t3), (Str.ofString "count", .int c t2), (Str.ofString "value", .int v t1), (Str.ofString "symbols", .ref z.S)]) B F X N T ?kA hf hke ?k6 ?k7 ?k8 ?k9 ?kB ?kR ?_ ?c2 ?c3 ?c4 ?c5; (case kA => exact rfl); (case k6 => k_is); (case k7 => k_is); (case k8 => exact room0 hdp); (case k9 => exact BindsTo.of_eq rfl); (case kR => exact rfl); (case c5 => decide); (case kB => exact locs rfl); (case c2 => exact rfl); (case c3 => exact rfl); (case c4 => exact rfl); k_whole; intro g' L' h' F' N' B' X' T' K' S' Z' tkE; (try dsimp only); (try k_fold); refine let_AE ?_; intro A1 en)
  have hz' := fresh_of N'
  have N0 := fun p hp => (N p hp).1
  clear N
  k_steps
  · unfold Stop
    (rename Fr g' L' _ _ => kF); (rename News g' L' _ _ => kN)
    k_dflt (refine shr0_spec B' kF X' T' rfl rfl rfl rfl (roomD hdp (by decide)) (roomU hun (by decide)) (by omega) ?_)
    intro tq h1 tk1 K1
    have F1 := kept_fr kF K1 (by simp)
    have N1 := kept_news kN K1 (by simp)
    clear kN kF
    k_steps
    (rename News h₀ L _ _ => kN); (rename Kept s.heap _ _ => kK); have kK := kept_all kK (by first | exact kN | exact fun p hp => kN p (.tail _ hp)) N0; refine hret _ _ _ _ ?_ kK; (unfold shlP; (repeat first | rw [if_pos (by assumption)] | rw [if_neg (by assumption)] | rw [if_neg (ntrue (by assumption))]); try rfl)
  · (rename News h₀ L _ _ => kN); (rename Kept s.heap _ _ => kK); have kK := kept_all kK (by first | exact kN | exact fun p hp => kN p (.tail _ hp)) N0; refine hret _ _ _ _ ?_ kK; (unfold shlP shl0; (repeat first | rw [if_pos (by assumption)] | rw [if_neg (by assumption)] | rw [if_neg (ntrue (by assumption))]); try rfl)
  · unfold Stop
    (rename Fr g' L' _ _ => kF); (rename News g' L' _ _ => kN)
    have W := whole K' kF (by first | exact kN | exact fun p hp => kN p (.tail _ hp)) N0
    have Y1 := Y.kept0 W
    k_dflt (refine reserr_spec B' kF X' T' rfl rfl rfl rfl (roomD hdp (by decide)) (roomU hun (by decide)) Y1 hz' hlt hlf ?_)
    intro e h2 tk2 K2 Y2 ne
    refine fly_first B' kF X' rfl rfl Z' (kept00 W _) K2 hz' Y1 Y2 ne hzf Y.here fun h3 fl => hexc .mem e h3 _ ?_ fl
    (unfold shlP shl0; (repeat first | rw [if_pos (by assumption)] | rw [if_neg (by assumption)] | rw [if_neg (ntrue (by assumption))]); try rfl)
  · (rename News h₀ L _ _ => kN); (rename Kept s.heap _ _ => kK); have kK := kept_all kK (by first | exact kN | exact fun p hp => kN p (.tail _ hp)) N0; refine hret _ _ _ _ ?_ kK; (unfold shlP shl0; (repeat first | rw [if_pos (by assumption)] | rw [if_neg (by assumption)] | rw [if_neg (ntrue (by assumption))]); try rfl)
theorem shr_spec (hdp : A.depth + 11 < recursionLimit) (hun : A.units + 120 < cLine) {z : SA} {tx : List Str} {fs : List (Int × Int)} {v c mb : Int} {t1 t2 t3 : Tok} (Y : SymH w s.heap z tx fs) (hz : Fresh h₀ L z) (hlt : tx.length < 80000) (hlf : fs.length < 80000) (hzf : ∀ a ∈ z.all, a ∉ frs (env :: outer)) (hm : mb ≤ 65) 
    (hret : ∀ vr tk h' tk', shrP v c mb = .ok vr → Kept s.heap h' [] → Q (.int vr tk) { s with heap := h', toks := tk' })
    (hexc : ∀ er e h' tk', shrP v c mb = .error er → Flown w s.heap h' z.mods (env :: outer) e (er.ball tx fs) z (er.T tx) (er.F tx fs) → E (.ref e) { s with heap := h', toks := tk' }) :
    wpAny (model PySem.Challenge.rw_rh0079_01.row.prog w) A (PySem.call (.ref 293) [.ref z.S, .int v t1, .int c t2, .int mb t3]) Q E s := by
  revert X; k_fill; intro X
  refine wpAny_call ?_
  obtain ⟨hd0, dp, fr, gd, un⟩ := A
  dsimp only at hA hh hdp hun
  subst hA hh
  obtain ⟨o1, o2, o3, o4, N⟩ := Y.four hz
  k_dflt (refine' enter_fn (rb := [(Str.ofString "max_bits", .int mb t3), (Str.ofString "count", .int c t2), (Str.ofString "value", .int v t1), (Str.ofString "symbols", .ref z.S)]) B F X N T ?kA hf hke ?k6 ?k7 ?k8 ?k9 ?kB ?kR ?_ ?c2 ?c3 ?c4 ?c5; (case kA => exact rfl); (case k6 => k_is); (case k7 => k_is); (case k8 => exact room0 hdp); (case k9 => exact BindsTo.of_eq rfl); (case kR => exact rfl); (case c5 => decide); (case kB => exact locs rfl); (case c2 => exact rfl); (case c3 => exact rfl); (case c4 => exact rfl); k_whole; intro g' L' h' F' N' B' X' T' K' S' Z' tkE; (try dsimp only); (try k_fold); refine let_AE ?_; intro A1 en)
  have hz' := fresh_of N'
  have N0 := fun p hp => (N p hp).1
  clear N
  k_steps
  · unfold Stop
    (rename Fr g' L' _ _ => kF); (rename News g' L' _ _ => kN)
    have W := whole K' kF (by first | exact kN | exact fun p hp => kN p (.tail _ hp)) N0
    have Y1 := Y.kept0 W
    k_dflt (refine shl_spec B' kF X' T' rfl rfl rfl rfl (roomD hdp (by decide)) (roomU hun (by decide)) Y1 hz' hlt hlf (zfrs Z' Y.here hzf) hm ?_ ?_)
    · intro v1 tk h1 tk1 e1 K1
      have F1 := kept_fr kF K1 (by simp)
      have N1 := kept_news kN K1 (by simp)
      clear kN kF
      k_steps
      (rename News h₀ L _ _ => kN); (rename Kept s.heap _ _ => kK); have kK := kept_all kK (by first | exact kN | exact fun p hp => kN p (.tail _ hp)) N0; refine hret v1 _ _ _ ?_ kK; (unfold shrP; (repeat first | rw [if_pos (by assumption)] | rw [if_neg (by assumption)] | rw [if_neg (ntrue (by assumption))]); try rfl); (unfold shlP at e1; rw [if_neg (by omega)] at e1; exact e1)
    · intro er e h1 tk1 e1 fl
      refine fly_on B' kF rfl rfl Z' (kept00 W _) (fun b o q => ⟨o, W b o q (by simp)⟩) (fun b hb => .inl hb) (fun b hb => zfrs Z' Y.here hzf b (mods_all hb)) fl hzf Y.here fun h3 fl => hexc er e h3 _ ?_ fl
      (unfold shrP; (repeat first | rw [if_pos (by assumption)] | rw [if_neg (by assumption)] | rw [if_neg (ntrue (by assumption))]); try rfl); (unfold shlP at e1; rw [if_neg (by omega)] at e1; exact e1)
  · (rename News h₀ L _ _ => kN); (rename Kept s.heap _ _ => kK); have kK := kept_all kK (by first | exact kN | exact fun p hp => kN p (.tail _ hp)) N0; refine hret _ _ _ _ ?_ kK; (unfold shrP shr0; (repeat first | rw [if_pos (by assumption)] | rw [if_neg (by assumption)] | rw [if_neg (ntrue (by assumption))]); try rfl)
  · (rename News h₀ L _ _ => kN); (rename Kept s.heap _ _ => kK); have kK := kept_all kK (by first | exact kN | exact fun p hp => kN p (.tail _ hp)) N0; refine hret _ _ _ _ ?_ kK; (unfold shrP shr0; (repeat first | rw [if_pos (by assumption)] | rw [if_neg (by assumption)] | rw [if_neg (ntrue (by assumption))]); try rfl)
  · (rename News h₀ L _ _ => kN); (rename Kept s.heap _ _ => kK); have kK := kept_all kK (by first | exact kN | exact fun p hp => kN p (.tail _ hp)) N0; refine hret _ _ _ _ ?_ kK; (unfold shrP shr0; (repeat first | rw [if_pos (by assumption)] | rw [if_neg (by assumption)] | rw [if_neg (ntrue (by assumption))]); try rfl)
theorem size_spec (hdp : A.depth + 9 < recursionLimit) (hun : A.units + 100 < cLine) {z : SA} {tx : List Str} {fs : List (Int × Int)} {v mb : Int} {t1 t2 : Tok} (Y : SymH w s.heap z tx fs) (hz : Fresh h₀ L z) (hlt : tx.length < 80000) (hlf : fs.length < 80000) (hzf : ∀ a ∈ z.all, a ∉ frs (env :: outer)) (hm : mb ≤ 65) 
    (hret : ∀ vr tk h' tk', sizeP v mb = .ok vr → Kept s.heap h' [] → Q (.int vr tk) { s with heap := h', toks := tk' })
    (hexc : ∀ er e h' tk', sizeP v mb = .error er → Flown w s.heap h' z.mods (env :: outer) e (er.ball tx fs) z (er.T tx) (er.F tx fs) → E (.ref e) { s with heap := h', toks := tk' }) :
    wpAny (model PySem.Challenge.rw_rh0079_01.row.prog w) A (PySem.call (.ref 251) [.ref z.S, .int v t1, .int mb t2]) Q E s := by
  revert X; k_fill; intro X
  refine wpAny_call ?_
  obtain ⟨hd0, dp, fr, gd, un⟩ := A
  dsimp only at hA hh hdp hun
  subst hA hh
  obtain ⟨o1, o2, o3, o4, N⟩ := Y.four hz
  k_dflt (refine' enter_fn (rb := [(Str.ofString "max_bits", .int mb t2), (Str.ofString "value", .int v t1), (Str.ofString "symbols", .ref z.S)]) B F X N T ?kA hf hke ?k6 ?k7 ?k8 ?k9 ?kB ?kR ?_ ?c2 ?c3 ?c4 ?c5; (case kA => exact rfl); (case k6 => k_is); (case k7 => k_is); (case k8 => exact room0 hdp); (case k9 => exact BindsTo.of_eq rfl); (case kR => exact rfl); (case c5 => decide); (case kB => exact locs rfl); (case c2 => exact rfl); (case c3 => exact rfl); (case c4 => exact rfl); k_whole; intro g' L' h' F' N' B' X' T' K' S' Z' tkE; (try dsimp only); (try k_fold); refine let_AE ?_; intro A1 en)
  have hz' := fresh_of N'
  have N0 := fun p hp => (N p hp).1
  clear N
  k_steps
  · unfold Stop
    (rename Fr g' L' _ _ => kF); (rename News g' L' _ _ => kN)
    have W := whole K' kF (by first | exact kN | exact fun p hp => kN p (.tail _ hp)) N0
    have Y1 := Y.kept0 W
    k_dflt (refine reserr_spec B' kF X' T' rfl rfl rfl rfl (roomD hdp (by decide)) (roomU hun (by decide)) Y1 hz' hlt hlf ?_)
    intro e h2 tk2 K2 Y2 ne
    refine fly_first B' kF X' rfl rfl Z' (kept00 W _) K2 hz' Y1 Y2 ne hzf Y.here fun h3 fl => hexc .mem e h3 _ ?_ fl
    (unfold sizeP; (repeat first | rw [if_pos (by assumption)] | rw [if_neg (by assumption)] | rw [if_neg (ntrue (by assumption))]); try rfl)
  · (rename News h₀ L _ _ => kN); (rename Kept s.heap _ _ => kK); have kK := kept_all kK (by first | exact kN | exact fun p hp => kN p (.tail _ hp)) N0; refine hret _ _ _ _ ?_ kK; (unfold sizeP; (repeat first | rw [if_pos (by assumption)] | rw [if_neg (by assumption)] | rw [if_neg (ntrue (by assumption))]); try rfl)
theorem unary_spec (hdp : A.depth + 9 < recursionLimit) (hun : A.units + 100 < cLine) {z : SA} {tx : List Str} {fs : List (Int × Int)} {x : Str} {v : Int} {t1 t2 : Tok} (Y : SymH w s.heap z tx fs) (hz : Fresh h₀ L z) (hlt : tx.length < 80000) (hlf : fs.length < 80000) (hzf : ∀ a ∈ z.all, a ∉ frs (env :: outer)) 
    (hret : ∀ vr tk h' tk', unP x v = .ok vr → Kept s.heap h' [] → Q (.int vr tk) { s with heap := h', toks := tk' })
    (hexc : ∀ er e h' tk', unP x v = .error er → Flown w s.heap h' z.mods (env :: outer) e (er.ball tx fs) z (er.T tx) (er.F tx fs) → E (.ref e) { s with heap := h', toks := tk' }) :
    wpAny (model PySem.Challenge.rw_rh0079_01.row.prog w) A (PySem.call (.ref 307) [.ref z.S, .str x t1, .int v t2]) Q E s := by
  revert X; k_fill; intro X
  refine wpAny_call ?_
  obtain ⟨hd0, dp, fr, gd, un⟩ := A
  dsimp only at hA hh hdp hun
  subst hA hh
  obtain ⟨o1, o2, o3, o4, N⟩ := Y.four hz
  k_dflt (refine' enter_fn (rb := [(Str.ofString "value", .int v t2), (Str.ofString "text", .str x t1), (Str.ofString "symbols", .ref z.S)]) B F X N T ?kA hf hke ?k6 ?k7 ?k8 ?k9 ?kB ?kR ?_ ?c2 ?c3 ?c4 ?c5; (case kA => exact rfl); (case k6 => k_is); (case k7 => k_is); (case k8 => exact room0 hdp); (case k9 => exact BindsTo.of_eq rfl); (case kR => exact rfl); (case c5 => decide); (case kB => exact locs rfl); (case c2 => exact rfl); (case c3 => exact rfl); (case c4 => exact rfl); k_whole; intro g' L' h' F' N' B' X' T' K' S' Z' tkE; (try dsimp only); (try k_fold); refine let_AE ?_; intro A1 en)
  have hz' := fresh_of N'
  have N0 := fun p hp => (N p hp).1
  clear N
  k_steps
  · (rename News h₀ L _ _ => kN); (rename Kept s.heap _ _ => kK); have kK := kept_all kK (by first | exact kN | exact fun p hp => kN p (.tail _ hp)) N0; refine hret _ _ _ _ ?_ kK; (unfold unP; (repeat first | rw [if_pos (by assumption)] | rw [if_neg (by assumption)] | rw [if_neg (ntrue (by assumption))]); try rfl)
  · (rename News h₀ L _ _ => kN); (rename Kept s.heap _ _ => kK); have kK := kept_all kK (by first | exact kN | exact fun p hp => kN p (.tail _ hp)) N0; refine hret (absZ v) _ _ _ ?_ kK; (unfold unP; (repeat first | rw [if_pos (by assumption)] | rw [if_neg (by assumption)] | rw [if_neg (ntrue (by assumption))]); try rfl)
  · unfold Stop
    (rename Fr g' L' _ _ => kF); (rename News g' L' _ _ => kN)
    k_dflt (refine sign_spec B' kF X' T' rfl rfl rfl rfl (roomD hdp (by decide)) (roomU hun (by decide))  ?_)
    intro tq h1 tk1 K1
    have F1 := kept_fr kF K1 (by simp)
    have N1 := kept_news kN K1 (by simp)
    clear kN kF
    k_steps
    (rename News h₀ L _ _ => kN); (rename Kept s.heap _ _ => kK); have kK := kept_all kK (by first | exact kN | exact fun p hp => kN p (.tail _ hp)) N0; refine hret _ _ _ _ ?_ kK; (unfold unP; (repeat first | rw [if_pos (by assumption)] | rw [if_neg (by assumption)] | rw [if_neg (ntrue (by assumption))]); try rfl)
  · (rename News h₀ L _ _ => kN); (rename Kept s.heap _ _ => kK); have kK := kept_all kK (by first | exact kN | exact fun p hp => kN p (.tail _ hp)) N0; refine hret _ _ _ _ ?_ kK; (unfold unP; (repeat first | rw [if_pos (by assumption)] | rw [if_neg (by assumption)] | rw [if_neg (ntrue (by assumption))]); try rfl)
  · (rename News h₀ L _ _ => kN); (rename Kept s.heap _ _ => kK); have kK := kept_all kK (by first | exact kN | exact fun p hp => kN p (.tail _ hp)) N0; refine hret _ _ _ _ ?_ kK; (unfold unP; (repeat first | rw [if_pos (by assumption)] | rw [if_neg (by assumption)] | rw [if_neg (ntrue (by assumption))]); try rfl)
  · unfold Stop
    (rename Fr g' L' _ _ => kF); (rename News g' L' _ _ => kN)
    k_dflt (refine integer_spec B' kF X' T' rfl rfl rfl rfl (roomD hdp (by decide)) (roomU hun (by decide)) ?_)
    intro a h1 tk1 t1 t2 K1 ha hc
    have F1 := kept_fr kF K1 (by simp)
    have W := whole K' kF (by first | exact kN | exact fun p hp => kN p (.tail _ hp)) N0
    have Y1 := (Y.kept0 W).kept0 K1
    have hc0 := new_to kF ha
    have N1 : News g' L' h1 [] := News.nil
    clear kN kF
    k_steps
    unfold Stop
    k_dflt (refine typerr_spec B' F1 X' T' rfl rfl rfl rfl (roomD hdp (by decide)) (roomU hun (by decide)) Y1 hz' hlt hlf hc ⟨hc0.2, hc0.1⟩ ?_)
    intro e h2 tk2 K2 Y2 ne
    refine fly_first B' F1 X' rfl rfl Z' (fun b o q hm => K1 b o (W b o q (by simp)) (by simp)) K2 hz' Y1 Y2 ne hzf Y.here fun h3 fl => hexc (.msb v) e h3 _ ?_ fl
    (unfold unP; (repeat first | rw [if_pos (by assumption)] | rw [if_neg (by assumption)] | rw [if_neg (ntrue (by assumption))]); try rfl)
  · (rename News h₀ L _ _ => kN); (rename Kept s.heap _ _ => kK); have kK := kept_all kK (by first | exact kN | exact fun p hp => kN p (.tail _ hp)) N0; refine hret _ _ _ _ ?_ kK; (unfold unP; (repeat first | rw [if_pos (by assumption)] | rw [if_neg (by assumption)] | rw [if_neg (ntrue (by assumption))]); try rfl)
  · (rename News h₀ L _ _ => kN); (rename Kept s.heap _ _ => kK); have kK := kept_all kK (by first | exact kN | exact fun p hp => kN p (.tail _ hp)) N0; refine hret _ _ _ _ ?_ kK; (unfold unP; (repeat first | rw [if_pos (by assumption)] | rw [if_neg (by assumption)] | rw [if_neg (ntrue (by assumption))]); try rfl)
theorem divi_spec (hdp : A.depth + 9 < recursionLimit) (hun : A.units + 100 < cLine) {z : SA} {tx : List Str} {fs : List (Int × Int)} {x : Str} {a b : Int} {t1 t2 t3 : Tok} (Y : SymH w s.heap z tx fs) (hz : Fresh h₀ L z) (hlt : tx.length < 80000) (hlf : fs.length < 80000) (hzf : ∀ a ∈ z.all, a ∉ frs (env :: outer)) (ha : a.natAbs < 2 ^ 70) (hb : b.natAbs < 2 ^ 70) 
    (hret : ∀ vr tk h' tk', divP x a b = .ok vr → Kept s.heap h' [] → Q (.int vr tk) { s with heap := h', toks := tk' })
    (hexc : ∀ er e h' tk', divP x a b = .error er → Flown w s.heap h' z.mods (env :: outer) e (er.ball tx fs) z (er.T tx) (er.F tx fs) → E (.ref e) { s with heap := h', toks := tk' }) :
    wpAny (model PySem.Challenge.rw_rh0079_01.row.prog w) A (PySem.call (.ref 314) [.ref z.S, .str x t1, .int a t2, .int b t3]) Q E s := by
  revert X; k_fill; intro X
  refine wpAny_call ?_
  obtain ⟨hd0, dp, fr, gd, un⟩ := A
  dsimp only at hA hh hdp hun
  subst hA hh
  obtain ⟨o1, o2, o3, o4, N⟩ := Y.four hz
  k_dflt (refine' enter_fn (rb := [(Str.ofString "second", .int b t3), (Str.ofString "first", .int a t2), (Str.ofString "text", .str x t1), (Str.ofString "symbols", .ref z.S)]) B F X N T ?kA hf hke ?k6 ?k7 ?k8 ?k9 ?kB ?kR ?_ ?c2 ?c3 ?c4 ?c5; (case kA => exact rfl); (case k6 => k_is); (case k7 => k_is); (case k8 => exact room0 hdp); (case k9 => exact BindsTo.of_eq rfl); (case kR => exact rfl); (case c5 => decide); (case kB => exact locs rfl); (case c2 => exact rfl); (case c3 => exact rfl); (case c4 => exact rfl); k_whole; intro g' L' h' F' N' B' X' T' K' S' Z' tkE; (try dsimp only); (try k_fold); refine let_AE ?_; intro A1 en)
  have hz' := fresh_of N'
  have N0 := fun p hp => (N p hp).1
  clear N
  k_steps
  · unfold Stop
    (rename Fr g' L' _ _ => kF); (rename News g' L' _ _ => kN)
    have W := whole K' kF (by first | exact kN | exact fun p hp => kN p (.tail _ hp)) N0
    have Y1 := Y.kept0 W
    k_dflt (refine evalerr_spec B' kF X' T' rfl rfl rfl rfl (roomD hdp (by decide)) (roomU hun (by decide)) Y1 hz' hlt hlf ?_)
    intro e h2 tk2 K2 Y2 ne
    refine fly_first B' kF X' rfl rfl Z' (kept00 W _) K2 hz' Y1 Y2 ne hzf Y.here fun h3 fl => hexc .zero e h3 _ ?_ fl
    (unfold divP; (repeat first | rw [if_pos (by assumption)] | rw [if_neg (by assumption)] | rw [if_neg (ntrue (by assumption))]); try rfl)
  · unfold Stop
    (rename Fr g' L' _ _ => kF); (rename News g' L' _ _ => kN)
    k_dflt (refine div_spec B' kF X' T' rfl rfl rfl rfl (roomD hdp (by decide)) (roomU hun (by decide)) (by assumption) ha hb ?_)
    intro tq h1 tk1 K1
    have F1 := kept_fr kF K1 (by simp)
    have N1 := kept_news kN K1 (by simp)
    clear kN kF
    k_steps
    (rename News h₀ L _ _ => kN); (rename Kept s.heap _ _ => kK); have kK := kept_all kK (by first | exact kN | exact fun p hp => kN p (.tail _ hp)) N0; refine hret _ _ _ _ ?_ kK; (unfold divP; (repeat first | rw [if_pos (by assumption)] | rw [if_neg (by assumption)] | rw [if_neg (ntrue (by assumption))]); try rfl)
  · unfold Stop
    (rename Fr g' L' _ _ => kF); (rename News g' L' _ _ => kN)
    k_dflt (refine rem_spec B' kF X' T' rfl rfl rfl rfl (roomD hdp (by decide)) (roomU hun (by decide)) (by assumption) ha hb ?_)
    intro tq h1 tk1 K1
    have F1 := kept_fr kF K1 (by simp)
    have N1 := kept_news kN K1 (by simp)
    clear kN kF
    k_steps
    (rename News h₀ L _ _ => kN); (rename Kept s.heap _ _ => kK); have kK := kept_all kK (by first | exact kN | exact fun p hp => kN p (.tail _ hp)) N0; refine hret _ _ _ _ ?_ kK; (unfold divP; (repeat first | rw [if_pos (by assumption)] | rw [if_neg (by assumption)] | rw [if_neg (ntrue (by assumption))]); try rfl)
  · (rename News h₀ L _ _ => kN); (rename Kept s.heap _ _ => kK); have kK := kept_all kK (by first | exact kN | exact fun p hp => kN p (.tail _ hp)) N0; refine hret _ _ _ _ ?_ kK; (unfold divP; (repeat first | rw [if_pos (by assumption)] | rw [if_neg (by assumption)] | rw [if_neg (ntrue (by assumption))]); try rfl)
  · (rename News h₀ L _ _ => kN); (rename Kept s.heap _ _ => kK); have kK := kept_all kK (by first | exact kN | exact fun p hp => kN p (.tail _ hp)) N0; refine hret _ _ _ _ ?_ kK; (unfold divP; (repeat first | rw [if_pos (by assumption)] | rw [if_neg (by assumption)] | rw [if_neg (ntrue (by assumption))]); try rfl)

end
end
section
theorem walk_off_M14 : True := by
  w_top off
  trivial
open PySem PySem.W PyProof.Rows PySem.Calls PySem.Spec
noncomputable def bitP (x : Str) (a b mb : Int) : Except Er Int := if (x == Str.ofString ">>") = true then shrP a b mb else if (x == Str.ofString "<<") = true then shlP a b mb else if (x == Str.ofString "/\\") = true then .ok (Builtin.bitAnd a b) else if (x == Str.ofString "\\/") = true then .ok (Builtin.bitOr a b) else .ok (Builtin.bitXor a b)
noncomputable def binP (x : Str) (a b mb : Int) : Except Er Int := if (x == Str.ofString "+") = true then .ok (a + b) else if (x == Str.ofString "plus") = true then .ok (a + b) else if (x == Str.ofString "-") = true then .ok (a - b) else if (x == Str.ofString "*") = true then .ok (a * b) else
  if ([Str.ofString "//", Str.ofString "rem", Str.ofString "mod", Str.ofString "div"].any fun y => y == x) = true then divP x a b else if (x == Str.ofString "^") = true then powP a b mb else if (x == Str.ofString "**") = true then powP a b mb else
  if (x == Str.ofString "min") = true then (if b < a then .ok b else .ok a) else if (x == Str.ofString "max") = true then (if a < b then .ok b else .ok a) else if (x == Str.ofString "gcd") = true then .ok (Int.gcd a b) else bitP x a b mb
section
variable {w : World} {mean : ExcName → Option Value} {mg mb : Str → Option Value} {A : Around} {env : Env} {outer : List Env} {A₀ : Around} {base h₀ : Heap} {L : Addr} {m : Str → Option Value} {s : Shared} {Q E : Value → Shared → Prop}
  (B : Below A₀ base outer h₀) (F : Fr h₀ L s.heap m) (X : (hd.heap_1 w.params).In h₀) (T : Top hdV (looseW hdV []) mean mg mb h₀)
  (hA : A.frames = some (env :: outer)) (hf : env.frame = some L) (hke : env.scope.kind = .function) (hh : A.handled = none)
include B F X T hA hf hke hh
theorem bits_spec (hdp : A.depth + 13 < recursionLimit) (hun : A.units + 140 < cLine) {z : SA} {tx : List Str} {fs : List (Int × Int)} {x : Str} {a b mb : Int} {t1 t2 t3 t4 : Tok} (Y : SymH w s.heap z tx fs) (hz : Fresh h₀ L z) (hlt : tx.length < 80000) (hlf : fs.length < 80000) (hzf : ∀ a ∈ z.all, a ∉ frs (env :: outer)) (hm : mb ≤ 65) 
    (hret : ∀ vr tk h' tk', bitP x a b mb = .ok vr → Kept s.heap h' [] → Q (.int vr tk) { s with heap := h', toks := tk' })
    (hexc : ∀ er e h' tk', bitP x a b mb = .error er → Flown w s.heap h' z.mods (env :: outer) e (er.ball tx fs) z (er.T tx) (er.F tx fs) → E (.ref e) { s with heap := h', toks := tk' }) :
    wpAny (model PySem.Challenge.rw_rh0079_01.row.prog w) A (PySem.call (.ref 321) [.ref z.S, .str x t1, .int a t2, .int b t3, .int mb t4]) Q E s := by
  revert X; k_fill; intro X
  refine wpAny_call ?_
  obtain ⟨hd0, dp, fr, gd, un⟩ := A
  dsimp only at hA hh hdp hun
  subst hA hh
  obtain ⟨o1, o2, o3, o4, N⟩ := Y.four hz
  k_dflt (refine' enter_fn (rb := [(Str.ofString "max_bits", .int mb t4), (Str.ofString "second", .int b t3), (Str.ofString "first", .int a t2), (Str.ofString "text", .str x t1), (Str.ofString "symbols", .ref z.S)]) B F X N T ?kA hf hke ?k6 ?k7 ?k8 ?k9 ?kB ?kR ?_ ?c2 ?c3 ?c4 ?c5; (case kA => exact rfl); (case k6 => k_is); (case k7 => k_is); (case k8 => exact room0 hdp); (case k9 => exact BindsTo.of_eq rfl); (case kR => exact rfl); (case c5 => decide); (case kB => exact locs rfl); (case c2 => exact rfl); (case c3 => exact rfl); (case c4 => exact rfl); k_whole; intro g' L' h' F' N' B' X' T' K' S' Z' tkE; (try dsimp only); (try k_fold); refine let_AE ?_; intro A1 en)
  have hz' := fresh_of N'
  have N0 := fun p hp => (N p hp).1
  clear N
  k_steps

  · unfold Stop
    (rename Fr g' L' _ _ => kF); (rename News g' L' _ _ => kN)
    have W := whole K' kF (by first | exact kN | exact fun p hp => kN p (.tail _ hp)) N0
    have Y1 := Y.kept0 W
    k_dflt (refine shr_spec B' kF X' T' rfl rfl rfl rfl (roomD hdp (by decide)) (roomU hun (by decide)) Y1 hz' hlt hlf (zfrs Z' Y.here hzf) hm ?_ ?_)
    · intro v1 tk h1 tk1 e1 K1
      have F1 := kept_fr kF K1 (by simp)
      have N1 := kept_news kN K1 (by simp)
      clear kN kF
      k_steps
      (rename News h₀ L _ _ => kN); (rename Kept s.heap _ _ => kK); have kK := kept_all kK (by first | exact kN | exact fun p hp => kN p (.tail _ hp)) N0; refine hret v1 _ _ _ ?_ kK; (unfold bitP; (repeat first | rw [if_pos (by assumption)] | rw [if_neg (by assumption)] | rw [if_neg (ntrue (by assumption))]); exact e1)
    · intro er e h1 tk1 e1 fl
      refine fly_on B' kF rfl rfl Z' (kept00 W _) (fun b o q => ⟨o, W b o q (by simp)⟩) (fun b hb => .inl hb) (fun b hb => zfrs Z' Y.here hzf b (mods_all hb)) fl hzf Y.here fun h3 fl => hexc er e h3 _ ?_ fl
      (unfold bitP; (repeat first | rw [if_pos (by assumption)] | rw [if_neg (by assumption)] | rw [if_neg (ntrue (by assumption))]); exact e1)
  · unfold Stop
    (rename Fr g' L' _ _ => kF); (rename News g' L' _ _ => kN)
    have W := whole K' kF (by first | exact kN | exact fun p hp => kN p (.tail _ hp)) N0
    have Y1 := Y.kept0 W
    k_dflt (refine shl_spec B' kF X' T' rfl rfl rfl rfl (roomD hdp (by decide)) (roomU hun (by decide)) Y1 hz' hlt hlf (zfrs Z' Y.here hzf) hm ?_ ?_)
    · intro v1 tk h1 tk1 e1 K1
      have F1 := kept_fr kF K1 (by simp)
      have N1 := kept_news kN K1 (by simp)
      clear kN kF
      k_steps
      (rename News h₀ L _ _ => kN); (rename Kept s.heap _ _ => kK); have kK := kept_all kK (by first | exact kN | exact fun p hp => kN p (.tail _ hp)) N0; refine hret v1 _ _ _ ?_ kK; (unfold bitP; (repeat first | rw [if_pos (by assumption)] | rw [if_neg (by assumption)] | rw [if_neg (ntrue (by assumption))]); exact e1)
    · intro er e h1 tk1 e1 fl
      refine fly_on B' kF rfl rfl Z' (kept00 W _) (fun b o q => ⟨o, W b o q (by simp)⟩) (fun b hb => .inl hb) (fun b hb => zfrs Z' Y.here hzf b (mods_all hb)) fl hzf Y.here fun h3 fl => hexc er e h3 _ ?_ fl
      (unfold bitP; (repeat first | rw [if_pos (by assumption)] | rw [if_neg (by assumption)] | rw [if_neg (ntrue (by assumption))]); exact e1)
  · (rename News h₀ L _ _ => kN); (rename Kept s.heap _ _ => kK); have kK := kept_all kK (by first | exact kN | exact fun p hp => kN p (.tail _ hp)) N0; refine hret _ _ _ _ ?_ kK; (unfold bitP; (repeat first | rw [if_pos (by assumption)] | rw [if_neg (by assumption)] | rw [if_neg (ntrue (by assumption))]); try rfl)
  · (rename News h₀ L _ _ => kN); (rename Kept s.heap _ _ => kK); have kK := kept_all kK (by first | exact kN | exact fun p hp => kN p (.tail _ hp)) N0; refine hret _ _ _ _ ?_ kK; (unfold bitP; (repeat first | rw [if_pos (by assumption)] | rw [if_neg (by assumption)] | rw [if_neg (ntrue (by assumption))]); try rfl)
  · (rename News h₀ L _ _ => kN); (rename Kept s.heap _ _ => kK); have kK := kept_all kK (by first | exact kN | exact fun p hp => kN p (.tail _ hp)) N0; refine hret _ _ _ _ ?_ kK; (unfold bitP; (repeat first | rw [if_pos (by assumption)] | rw [if_neg (by assumption)] | rw [if_neg (ntrue (by assumption))]); try rfl)
theorem binary_spec (hdp : A.depth + 15 < recursionLimit) (hun : A.units + 160 < cLine) {z : SA} {tx : List Str} {fs : List (Int × Int)} {x : Str} {a b mb : Int} {t1 t2 t3 t4 : Tok} (Y : SymH w s.heap z tx fs) (hz : Fresh h₀ L z) (hlt : tx.length < 80000) (hlf : fs.length < 80000) (hzf : ∀ a ∈ z.all, a ∉ frs (env :: outer)) (ha : a.natAbs < 2 ^ 65) (hb : b.natAbs < 2 ^ 65) (hm : mb ≤ 65) 
    (hret : ∀ vr tk h' tk', binP x a b mb = .ok vr → Kept s.heap h' [] → Q (.int vr tk) { s with heap := h', toks := tk' })
    (hexc : ∀ er e h' tk', binP x a b mb = .error er → Flown w s.heap h' z.mods (env :: outer) e (er.ball tx fs) z (er.T tx) (er.F tx fs) → E (.ref e) { s with heap := h', toks := tk' }) :
    wpAny (model PySem.Challenge.rw_rh0079_01.row.prog w) A (PySem.call (.ref 328) [.ref z.S, .str x t1, .int a t2, .int b t3, .int mb t4]) Q E s := by
  revert X; k_fill; intro X
  refine wpAny_call ?_
  obtain ⟨hd0, dp, fr, gd, un⟩ := A
  dsimp only at hA hh hdp hun
  subst hA hh
  obtain ⟨o1, o2, o3, o4, N⟩ := Y.four hz
  k_dflt (refine' enter_fn (rb := [(Str.ofString "max_bits", .int mb t4), (Str.ofString "second", .int b t3), (Str.ofString "first", .int a t2), (Str.ofString "text", .str x t1), (Str.ofString "symbols", .ref z.S)]) B F X N T ?kA hf hke ?k6 ?k7 ?k8 ?k9 ?kB ?kR ?_ ?c2 ?c3 ?c4 ?c5; (case kA => exact rfl); (case k6 => k_is); (case k7 => k_is); (case k8 => exact room0 hdp); (case k9 => exact BindsTo.of_eq rfl); (case kR => exact rfl); (case c5 => decide); (case kB => exact locs rfl); (case c2 => exact rfl); (case c3 => exact rfl); (case c4 => exact rfl); k_whole; intro g' L' h' F' N' B' X' T' K' S' Z' tkE; (try dsimp only); (try k_fold); refine let_AE ?_; intro A1 en)
  have hz' := fresh_of N'
  have N0 := fun p hp => (N p hp).1
  clear N
  have ha7 : a.natAbs < 2 ^ 70 := Nat.lt_of_lt_of_le ha (by decide)
  have hb7 : b.natAbs < 2 ^ 70 := Nat.lt_of_lt_of_le hb (by decide)
  k_steps

  · (rename News h₀ L _ _ => kN); (rename Kept s.heap _ _ => kK); have kK := kept_all kK (by first | exact kN | exact fun p hp => kN p (.tail _ hp)) N0; refine hret _ _ _ _ ?_ kK; (unfold binP; (repeat first | rw [if_pos (by assumption)] | rw [if_neg (by assumption)] | rw [if_neg (ntrue (by assumption))]); try rfl)
  · (rename News h₀ L _ _ => kN); (rename Kept s.heap _ _ => kK); have kK := kept_all kK (by first | exact kN | exact fun p hp => kN p (.tail _ hp)) N0; refine hret _ _ _ _ ?_ kK; (unfold binP; (repeat first | rw [if_pos (by assumption)] | rw [if_neg (by assumption)] | rw [if_neg (ntrue (by assumption))]); try rfl)
  · (rename News h₀ L _ _ => kN); (rename Kept s.heap _ _ => kK); have kK := kept_all kK (by first | exact kN | exact fun p hp => kN p (.tail _ hp)) N0; refine hret _ _ _ _ ?_ kK; (unfold binP; (repeat first | rw [if_pos (by assumption)] | rw [if_neg (by assumption)] | rw [if_neg (ntrue (by assumption))]); try rfl)
  · (rename News h₀ L _ _ => kN); (rename Kept s.heap _ _ => kK); have kK := kept_all kK (by first | exact kN | exact fun p hp => kN p (.tail _ hp)) N0; refine hret _ _ _ _ ?_ kK; (unfold binP; (repeat first | rw [if_pos (by assumption)] | rw [if_neg (by assumption)] | rw [if_neg (ntrue (by assumption))]); try rfl)
  · unfold Stop
    (rename Fr g' L' _ _ => kF); (rename News g' L' _ _ => kN)
    have W := whole K' kF (by first | exact kN | exact fun p hp => kN p (.tail _ hp)) N0
    have Y1 := Y.kept0 W
    k_dflt (refine divi_spec B' kF X' T' rfl rfl rfl rfl (roomD hdp (by decide)) (roomU hun (by decide)) Y1 hz' hlt hlf (zfrs Z' Y.here hzf) ha7 hb7 ?_ ?_)
    · intro v1 tk h1 tk1 e1 K1
      have F1 := kept_fr kF K1 (by simp)
      have N1 := kept_news kN K1 (by simp)
      clear kN kF
      k_steps
      (rename News h₀ L _ _ => kN); (rename Kept s.heap _ _ => kK); have kK := kept_all kK (by first | exact kN | exact fun p hp => kN p (.tail _ hp)) N0; refine hret v1 _ _ _ ?_ kK; (unfold binP; (repeat first | rw [if_pos (by assumption)] | rw [if_neg (by assumption)] | rw [if_neg (ntrue (by assumption))]); exact e1)
    · intro er e h1 tk1 e1 fl
      refine fly_on B' kF rfl rfl Z' (kept00 W _) (fun b o q => ⟨o, W b o q (by simp)⟩) (fun b hb => .inl hb) (fun b hb => zfrs Z' Y.here hzf b (mods_all hb)) fl hzf Y.here fun h3 fl => hexc er e h3 _ ?_ fl
      (unfold binP; (repeat first | rw [if_pos (by assumption)] | rw [if_neg (by assumption)] | rw [if_neg (ntrue (by assumption))]); exact e1)
  · unfold Stop
    (rename Fr g' L' _ _ => kF); (rename News g' L' _ _ => kN)
    have W := whole K' kF (by first | exact kN | exact fun p hp => kN p (.tail _ hp)) N0
    have Y1 := Y.kept0 W
    k_dflt (refine pow_spec B' kF X' T' rfl rfl rfl rfl (roomD hdp (by decide)) (roomU hun (by decide)) Y1 hz' hlt hlf (zfrs Z' Y.here hzf) ha hb hm ?_ ?_)
    · intro v1 tk h1 tk1 e1 K1
      have F1 := kept_fr kF K1 (by simp)
      have N1 := kept_news kN K1 (by simp)
      clear kN kF
      k_steps
      (rename News h₀ L _ _ => kN); (rename Kept s.heap _ _ => kK); have kK := kept_all kK (by first | exact kN | exact fun p hp => kN p (.tail _ hp)) N0; refine hret v1 _ _ _ ?_ kK; (unfold binP; (repeat first | rw [if_pos (by assumption)] | rw [if_neg (by assumption)] | rw [if_neg (ntrue (by assumption))]); exact e1)
    · intro er e h1 tk1 e1 fl
      refine fly_on B' kF rfl rfl Z' (kept00 W _) (fun b o q => ⟨o, W b o q (by simp)⟩) (fun b hb => .inl hb) (fun b hb => zfrs Z' Y.here hzf b (mods_all hb)) fl hzf Y.here fun h3 fl => hexc er e h3 _ ?_ fl
      (unfold binP; (repeat first | rw [if_pos (by assumption)] | rw [if_neg (by assumption)] | rw [if_neg (ntrue (by assumption))]); exact e1)
  · unfold Stop
    (rename Fr g' L' _ _ => kF); (rename News g' L' _ _ => kN)
    have W := whole K' kF (by first | exact kN | exact fun p hp => kN p (.tail _ hp)) N0
    have Y1 := Y.kept0 W
    k_dflt (refine pow_spec B' kF X' T' rfl rfl rfl rfl (roomD hdp (by decide)) (roomU hun (by decide)) Y1 hz' hlt hlf (zfrs Z' Y.here hzf) ha hb hm ?_ ?_)
    · intro v1 tk h1 tk1 e1 K1
      have F1 := kept_fr kF K1 (by simp)
      have N1 := kept_news kN K1 (by simp)
      clear kN kF
      k_steps
      (rename News h₀ L _ _ => kN); (rename Kept s.heap _ _ => kK); have kK := kept_all kK (by first | exact kN | exact fun p hp => kN p (.tail _ hp)) N0; refine hret v1 _ _ _ ?_ kK; (unfold binP; (repeat first | rw [if_pos (by assumption)] | rw [if_neg (by assumption)] | rw [if_neg (ntrue (by assumption))]); exact e1)
    · intro er e h1 tk1 e1 fl
      refine fly_on B' kF rfl rfl Z' (kept00 W _) (fun b o q => ⟨o, W b o q (by simp)⟩) (fun b hb => .inl hb) (fun b hb => zfrs Z' Y.here hzf b (mods_all hb)) fl hzf Y.here fun h3 fl => hexc er e h3 _ ?_ fl
      (unfold binP; (repeat first | rw [if_pos (by assumption)] | rw [if_neg (by assumption)] | rw [if_neg (ntrue (by assumption))]); exact e1)
  · (rename News h₀ L _ _ => kN); (rename Kept s.heap _ _ => kK); have kK := kept_all kK (by first | exact kN | exact fun p hp => kN p (.tail _ hp)) N0; refine hret _ _ _ _ ?_ kK; (unfold binP; (repeat first | rw [if_pos (by assumption)] | rw [if_neg (by assumption)] | rw [if_neg (ntrue (by assumption))]); try rfl)
  · (rename News h₀ L _ _ => kN); (rename Kept s.heap _ _ => kK); have kK := kept_all kK (by first | exact kN | exact fun p hp => kN p (.tail _ hp)) N0; refine hret _ _ _ _ ?_ kK; (unfold binP; (repeat first | rw [if_pos (by assumption)] | rw [if_neg (by assumption)] | rw [if_neg (ntrue (by assumption))]); try rfl)
  · (rename News h₀ L _ _ => kN); (rename Kept s.heap _ _ => kK); have kK := kept_all kK (by first | exact kN | exact fun p hp => kN p (.tail _ hp)) N0; refine hret _ _ _ _ ?_ kK; (unfold binP; (repeat first | rw [if_pos (by assumption)] | rw [if_neg (by assumption)] | rw [if_neg (ntrue (by assumption))]); try rfl)
  · (rename News h₀ L _ _ => kN); (rename Kept s.heap _ _ => kK); have kK := kept_all kK (by first | exact kN | exact fun p hp => kN p (.tail _ hp)) N0; refine hret _ _ _ _ ?_ kK; (unfold binP; (repeat first | rw [if_pos (by assumption)] | rw [if_neg (by assumption)] | rw [if_neg (ntrue (by assumption))]); try rfl)
  · unfold Stop
    (rename Fr g' L' _ _ => kF); (rename News g' L' _ _ => kN)
    k_dflt (refine gcd_spec B' kF X' T' rfl rfl rfl rfl (roomD hdp (by decide)) (roomU hun (by decide)) ha7 hb7 ?_)
    intro tq h1 tk1 K1
    have F1 := kept_fr kF K1 (by simp)
    have N1 := kept_news kN K1 (by simp)
    clear kN kF
    k_steps
    (rename News h₀ L _ _ => kN); (rename Kept s.heap _ _ => kK); have kK := kept_all kK (by first | exact kN | exact fun p hp => kN p (.tail _ hp)) N0; refine hret _ _ _ _ ?_ kK; (unfold binP; (repeat first | rw [if_pos (by assumption)] | rw [if_neg (by assumption)] | rw [if_neg (ntrue (by assumption))]); try rfl)
  · unfold Stop
    (rename Fr g' L' _ _ => kF); (rename News g' L' _ _ => kN)
    have W := whole K' kF (by first | exact kN | exact fun p hp => kN p (.tail _ hp)) N0
    have Y1 := Y.kept0 W
    k_dflt (refine bits_spec B' kF X' T' rfl rfl rfl rfl (roomD hdp (by decide)) (roomU hun (by decide)) Y1 hz' hlt hlf (zfrs Z' Y.here hzf) hm ?_ ?_)
    · intro v1 tk h1 tk1 e1 K1
      have F1 := kept_fr kF K1 (by simp)
      have N1 := kept_news kN K1 (by simp)
      clear kN kF
      k_steps
      (rename News h₀ L _ _ => kN); (rename Kept s.heap _ _ => kK); have kK := kept_all kK (by first | exact kN | exact fun p hp => kN p (.tail _ hp)) N0; refine hret v1 _ _ _ ?_ kK; (unfold binP; (repeat first | rw [if_pos (by assumption)] | rw [if_neg (by assumption)] | rw [if_neg (ntrue (by assumption))]); exact e1)
    · intro er e h1 tk1 e1 fl
      refine fly_on B' kF rfl rfl Z' (kept00 W _) (fun b o q => ⟨o, W b o q (by simp)⟩) (fun b hb => .inl hb) (fun b hb => zfrs Z' Y.here hzf b (mods_all hb)) fl hzf Y.here fun h3 fl => hexc er e h3 _ ?_ fl
      (unfold binP; (repeat first | rw [if_pos (by assumption)] | rw [if_neg (by assumption)] | rw [if_neg (ntrue (by assumption))]); exact e1)

end
end
section
theorem walk_off_M15 : True := by
  w_top off
  trivial
open PySem PySem.W PyProof.Rows PySem.Calls PySem.Spec
structure FnAt (tx : List Str) (fs : List (Int × Int)) (i : Int) (x : Str) (ar : Int) : Prop where
  i0 : 0 ≤ i
  i62 : i < 2 ^ 62
  at_ : ∃ na, fs[i.toNat]? = some (na, ar) ∧ 0 ≤ na ∧ na < 2 ^ 62 ∧ tx[na.toNat]? = some x
noncomputable def opP (x : Str) (args : List Int) (mb : Int) : Except Er Int := match args with
  | [v] => (match unP x v with | .ok r => sizeP r mb | .error e => .error e)
  | [a, b] => (match binP x a b mb with | .ok r => sizeP r mb | .error e => .error e)
  | _ => .ok 0
theorem vneq {z : SA} {V : Nat} (hV : V ∉ z.all) : V ≠ z.S ∧ V ≠ z.dS ∧ V ≠ z.T ∧ V ≠ z.AN ∧ V ≠ z.F ∧ V ≠ z.FN := by
  simp only [SA.all, List.mem_cons, List.not_mem_nil, or_false, not_or] at hV
  exact hV
theorem notK {z : SA} {V : Addr} {o0 o1 o2 o3 o4 : Obj} (e : z.S ≠ z.dS ∧ z.S ≠ z.T ∧ z.S ≠ z.AN ∧ z.S ≠ z.F ∧ z.S ≠ z.FN ∧ z.dS ≠ z.T ∧ z.dS ≠ z.AN ∧ z.dS ≠ z.F ∧ z.dS ≠ z.FN ∧ z.T ≠ z.AN ∧ z.T ≠ z.F ∧ z.T ≠ z.FN ∧ z.AN ≠ z.F ∧ z.AN ≠ z.FN ∧ z.F ≠ z.FN) (hV : V ∉ z.all) :
    z.S ∉ List.map (fun x : Addr × Obj => x.1) [(V, o0), (z.T, o1), (z.AN, o2), (z.F, o3), (z.FN, o4)] ∧ z.dS ∉ List.map (fun x : Addr × Obj => x.1) [(V, o0), (z.T, o1), (z.AN, o2), (z.F, o3), (z.FN, o4)] := by
  obtain ⟨a1, a2, a3, a4, a5, b1, b2, b3, b4, _⟩ := e
  simp only [SA.all, List.mem_cons, List.not_mem_nil, or_false, not_or] at hV
  obtain ⟨c1, c2, _⟩ := hV
  simp only [List.map_cons, List.map_nil, List.mem_cons, List.not_mem_nil, or_false, not_or]
  exact ⟨⟨Ne.symm c1, a2, a3, a4, a5⟩, Ne.symm c2, b1, b2, b3, b4⟩
theorem opP1e {x : Str} {v mb : Int} {e : Er} (h : unP x v = .error e) : opP x [v] mb = .error e := by simp [opP, h]
theorem opP1 {x : Str} {v mb r : Int} (h : unP x v = .ok r) : opP x [v] mb = sizeP r mb := by simp [opP, h]
theorem opP2e {x : Str} {a b mb : Int} {e : Er} (h : binP x a b mb = .error e) : opP x [a, b] mb = .error e := by simp [opP, h]
theorem opP2 {x : Str} {a b mb r : Int} (h : binP x a b mb = .ok r) : opP x [a, b] mb = sizeP r mb := by simp [opP, h]
/-- the heap with another object at one place -/
noncomputable def hset (h : Heap) (V : Addr) (o : Obj) : Heap := h.update V fun _ => o
theorem hset_self {h : Heap} {V : Addr} {o o0 : Obj} (e : h.get? V = some o0) (hf : o.isFreed = false) : (hset h V o).get? V = some o := Heap.get?_update_self (fun _ => o) e hf
theorem hset_other {h : Heap} {V a : Addr} {o : Obj} (e : a ≠ V) : (hset h V o).get? a = h.get? a := Heap.get?_update_other _ _ (Ne.symm e)
theorem virt {h g hX : Heap} {L V : Addr} {z : SA} {oV o' : Obj} {m : Str → Option Value} (hV : h.get? V = some oV) (K : Kept h g (V :: z.mods)) (F : Fr g L hX m) (e : hX.get? V = some o') (hf : o'.isFreed = false) : Kept (hset h V o') hX z.mods := fun b o q hm => by
  by_cases hb : b = V
  · subst hb; rw [hset_self hV hf] at q; cases q; exact e
  · rw [hset_other hb] at q
    exact F.keep _ _ (K b o q (by simp only [List.mem_cons, not_or]; exact ⟨hb, hm⟩))
theorem virt_st {h hX : Heap} {V : Addr} {z : SA} {w : World} {tx : List Str} {fs : List (Int × Int)} {o' : Obj} (K : Kept (hset h V o') hX z.mods) (Y : SymH w hX z tx fs) : ∀ b o, (hset h V o').get? b = some o → ∃ o', hX.get? b = some o' := fun b o q => by
  by_cases hb : b ∈ z.mods
  · exact Y.ex b hb
  · exact ⟨o, K b o q hb⟩
theorem virt_here {h : Heap} {V : Addr} {z : SA} {o' : Obj} (hz : ∀ a ∈ z.all, ∃ o, h.get? a = some o) (hV : V ∉ z.all) : ∀ a ∈ z.all, ∃ o, (hset h V o').get? a = some o := fun a ha => by
  rw [hset_other (show a ≠ V from fun q => hV (by rw [← q]; exact ha))]; exact hz a ha
theorem hset_size (h : Heap) (V : Addr) (o : Obj) : (hset h V o).objs.size = h.objs.size := by unfold hset Heap.update; simp
theorem kept_butV {g h h' : Heap} {L V : Addr} {o : Obj} {news rest : List (Addr × Obj)} (K : Kept h h' (((V, o) :: rest).map (·.1))) (N : News g L h' news) (sub : ∀ p ∈ rest, p ∈ news) (N0 : ∀ p ∈ rest, h.get? p.1 = some p.2) : Kept h h' [V] := fun b o e hn => by
  by_cases hb : b ∈ rest.map (·.1)
  · obtain ⟨p, hp, rfl⟩ := List.mem_map.mp hb
    rw [N0 p hp] at e; cases e
    exact (N p (sub p hp)).1
  · exact K b o e (by simp only [List.map_cons, List.mem_cons, not_or]; exact ⟨by simpa using hn, hb⟩)
theorem kl_last_snoc (y : Value) : ∀ p : List Value, kl_last (p ++ [y]) = some (p, y)
  | [] => rfl
  | x :: p => by
    show (match kl_last (p ++ [y]) with | some (p, y) => some (x :: p, y) | none => some ([], x)) = _
    rw [kl_last_snoc y p]
theorem pop_end {prog : Program} {w : World} {A : Around} {E : Value → Shared → Prop} {s : Shared} {h₀ : Heap} {L D : Addr} {m : Str → Option Value} {news news' : List (Addr × Obj)} {n : Nat} {p : List Value} {y : Value} {Q : Value → Shared → Prop} (F : Fr h₀ L s.heap m) (N : News h₀ L s.heap news) (U : Upd D (W.listOf (p ++ [y]).toArray n) (W.listOf p.toArray (n + 1)) news news')
    (hz : (p ++ [y]).length ≤ sizeLine) (h : ∀ h', Fr h₀ L h' m → News h₀ L h' news' → Q y { s with heap := h' }) : wpAny (model prog w) A (call (.builtin "list.pop") [.ref D]) Q E s :=
  kl_pop F N (kl_last_snoc y p) U hz h
theorem pop_ {prog : Program} {w : World} {A : Around} {E : Value → Shared → Prop} {s : Shared} {h₀ : Heap} {L D : Addr} {m : Str → Option Value} {news news' : List (Addr × Obj)} {n : Nat} {p : List Value} {y : Value} {Q : Value → Shared → Prop} (F : Fr h₀ L s.heap m := by k_asm) (N : News h₀ L s.heap news := by k_asm) (U : Upd D (W.listOf (p ++ [y]).toArray n) (W.listOf p.toArray (n + 1)) news news' := by k_upd)
    (hz : (p ++ [y]).length ≤ sizeLine := by (simp [PySem.sizeLine_eq]; omega)) (h : ∀ h', Fr h₀ L h' m → News h₀ L h' news' → Q y { s with heap := h' }) : wpAny (model prog w) A (call (.builtin "list.pop") [.ref D]) Q E s := pop_end F N U hz h
end
set_option hygiene true
local macro_rules | `(tactic| walk_at "call builtin:list.pop") => `(tactic| (k_dflt (refine pop_ (h := ?_)); intro _ _ N'; (try dsimp only [List.nil_append, List.cons_append] at N')))
set_option hygiene false
section
section
variable {w : World} {mean : ExcName → Option Value} {mg mb : Str → Option Value} {A : Around} {env : Env} {outer : List Env} {A₀ : Around} {base h₀ : Heap} {L : Addr} {m : Str → Option Value} {s : Shared} {Q E : Value → Shared → Prop}
  (B : Below A₀ base outer h₀) (F : Fr h₀ L s.heap m) (X : (hd.heap_1 w.params).In h₀) (T : Top hdV (looseW hdV []) mean mg mb h₀)
  (hA : A.frames = some (env :: outer)) (hf : env.frame = some L) (hke : env.scope.kind = .function) (hh : A.handled = none)
include B F X T hA hf hke hh
theorem apply1_spec (hdp : A.depth + 17 < recursionLimit) (hun : A.units + 200 < cLine) {z : SA} {tx : List Str} {fs : List (Int × Int)} {x : Str} {i v c mb : Int} {t1 t2 t3 t4 : Tok} {be : List Value} {V n : Nat} (Y : SymH w s.heap z tx fs) (hz : Fresh h₀ L z) (hlt : tx.length < 80000) (hlf : fs.length < 80000) (hzf : ∀ a ∈ z.all, a ∉ frs (env :: outer)) (hi : FnAt tx fs i x 1) (hV : s.heap.get? V = some (W.listOf (be ++ [Value.int v t2]).toArray n)) (hV0 : h₀.get? V = none ∧ V ≠ L) (hVz : V ∉ z.all) (hVf : V ∉ frs (env :: outer)) (hbe : be.length < 1000)  (hm : mb ≤ 65) 
    (hret : ∀ vr tk h' tk' n', opP x [v] mb = .ok vr → Kept s.heap h' [V] → h'.get? V = some (W.listOf (be ++ [Value.int vr tk]).toArray n') → Q .none { s with heap := h', toks := tk' })
    (hexc : ∀ er e h' tk' n', opP x [v] mb = .error er → Flown w (hset s.heap V (W.listOf be.toArray n')) h' z.mods (env :: outer) e (er.ball tx fs) z (er.T tx) (er.F tx fs) → E (.ref e) { s with heap := h', toks := tk' }) :
    wpAny (model PySem.Challenge.rw_rh0079_01.row.prog w) A (PySem.call (.ref 335) [.ref z.S, .int i t1, .ref V, .int mb t3]) Q E s := by
  revert X; k_fill; intro X
  refine wpAny_call ?_
  obtain ⟨hd0, dp, fr, gd, un⟩ := A
  dsimp only at hA hh hdp hun
  subst hA hh
  obtain ⟨o1, o2, o3, o4, N⟩ := Y.four hz
  have N := news_cons hV hV0.2 hV0.1 N
  k_dflt (refine' enter_fn (rb := [(Str.ofString "max_bits", .int mb t3), (Str.ofString "values", .ref V), (Str.ofString "functor", .int i t1), (Str.ofString "symbols", .ref z.S)]) B F X N T ?kA hf hke ?k6 ?k7 ?k8 ?k9 ?kB ?kR ?_ ?c2 ?c3 ?c4 ?c5; (case kA => exact rfl); (case k6 => k_is); (case k7 => k_is); (case k8 => exact room0 hdp); (case k9 => exact BindsTo.of_eq rfl); (case kR => exact rfl); (case c5 => decide); (case kB => exact locs rfl); (case c2 => exact rfl); (case c3 => exact rfl); (case c4 => exact rfl); k_whole; intro g' L' h' F' N' B' X' T' K' S' Z' tkE; (try dsimp only); (try k_fold); refine let_AE ?_; intro A1 en)
  have hz' := fresh_of (fun p hp => N' p (.tail _ hp))
  have N0 := fun p hp => (N p hp).1
  clear N
  obtain ⟨i0, i62, na, hna, na0, na62, hx⟩ := hi
  have YF : ∀ {h1 m1 news1}, Fr g' L' h1 m1 → (∀ p ∈ [(z.T, o1), (z.AN, o2), (z.F, o3), (z.FN, o4)], p ∈ news1) → News g' L' h1 news1 → SymH w h1 z tx fs := fun {h1 m1 news1} f sub nn =>
    Y.kept (ms := [V]) (fun b o e hb => by
      by_cases hm : b ∈ z.mods
      · simp only [SA.mods, List.mem_cons, List.not_mem_nil, or_false] at hm
        rcases hm with rfl | rfl | rfl | rfl
        · have := N0 (z.T, o1) (by simp); rw [this] at e; cases e; exact (nn (z.T, o1) (sub _ (by simp))).1
        · have := N0 (z.AN, o2) (by simp); rw [this] at e; cases e; exact (nn (z.AN, o2) (sub _ (by simp))).1
        · have := N0 (z.F, o3) (by simp); rw [this] at e; cases e; exact (nn (z.F, o3) (sub _ (by simp))).1
        · have := N0 (z.FN, o4) (by simp); rw [this] at e; cases e; exact (nn (z.FN, o4) (sub _ (by simp))).1
      · exact f.keep _ _ (K' _ _ e (by simp only [List.map_cons, List.map_nil]; simpa [SA.mods] using And.intro (by simpa using hb) (by simpa [SA.mods] using hm)))) (by simpa using hVz) (by simp; intro o ho; rw [hV] at ho; cases ho; simp)
  obtain ⟨vS, vdS, vT, vAN, vF, vFN⟩ := vneq hVz
  have gS : g'.get? z.S = some (instObj 154 z.dS) := K' _ _ Y.oS (notK (Y.ne) hVz).1
  have gdS : g'.get? z.dS = some (symDict w z) := K' _ _ Y.odS (notK (Y.ne) hVz).2
  k_steps
  unfold Stop
  (rename Fr g' L' _ _ => kF); (rename News g' L' _ _ => kN)
  have Y1 := YF kF (by simp) kN
  k_dflt (refine name_spec B' kF X' T' rfl rfl rfl rfl (roomD hdp (by decide)) (roomU hun (by decide)) Y1 i0 i62 hna ?_)
  intro tq h1 tk1 K1
  have F1 := kept_fr kF K1 (by simp)
  have N1 := kept_news kN K1 (by simp)
  clear kN kF
  k_steps
  unfold Stop
  (rename Fr g' L' _ _ => kF); (rename News g' L' _ _ => kN)
  have Y1 := YF kF (by simp) kN
  k_dflt (refine text_spec B' kF X' T' rfl rfl rfl rfl (roomD hdp (by decide)) (roomU hun (by decide)) Y1 na0 na62 hx ?_)
  intro tq h1 tk1 K1
  have F1 := kept_fr kF K1 (by simp)
  have N1 := kept_news kN K1 (by simp)
  clear kN kF
  k_steps
  unfold Stop
  (rename Fr g' L' _ _ => kF); (rename News g' L' _ _ => kN)
  have Y1 := YF kF (by simp) kN
  k_dflt (refine arity_spec B' kF X' T' rfl rfl rfl rfl (roomD hdp (by decide)) (roomU hun (by decide)) Y1 i0 i62 hna ?_)
  intro tq h1 tk1 K1
  have F1 := kept_fr kF K1 (by simp)
  have N1 := kept_news kN K1 (by simp)
  clear kN kF
  k_steps
  unfold Stop
  (rename Fr g' L' _ _ => kF); (rename News g' L' _ _ => kN)
  have Y1 := YF kF (by simp) kN
  have VK := virt hV K' kF (kN _ (.head _)).1 rfl
  k_dflt (refine unary_spec B' kF X' T' rfl rfl rfl rfl (roomD hdp (by decide)) (roomU hun (by decide)) Y1 hz' hlt hlf (zfrs Z' Y.here hzf)  ?_ ?_)
  rotate_left
  · intro er e h1 tk1 e1 fl
    exact fly_on B' kF rfl rfl ((hset_size _ _ _).symm ▸ Z') VK (virt_st VK Y1) (fun b hb => .inl hb) (fun b hb => zfrs Z' Y.here hzf b (mods_all hb)) fl hzf (virt_here Y.here hVz) fun h3 fl => hexc er e h3 _ _ (opP1e e1) fl
  intro r tr h1 tk1 e1 K1
  have F1 := kept_fr kF K1 (by simp)
  have N1 := kept_news kN K1 (by simp)
  clear kN kF
  k_steps
  unfold Stop
  (rename Fr g' L' _ _ => kF); (rename News g' L' _ _ => kN)
  have Y1 := YF kF (by simp) kN
  have VK := virt hV K' kF (kN _ (.head _)).1 rfl
  k_dflt (refine size_spec B' kF X' T' rfl rfl rfl rfl (roomD hdp (by decide)) (roomU hun (by decide)) Y1 hz' hlt hlf (zfrs Z' Y.here hzf) hm ?_ ?_)
  rotate_left
  · intro er e h1 tk1 q1 fl
    exact fly_on B' kF rfl rfl ((hset_size _ _ _).symm ▸ Z') VK (virt_st VK Y1) (fun b hb => .inl hb) (fun b hb => zfrs Z' Y.here hzf b (mods_all hb)) fl hzf (virt_here Y.here hVz) fun h3 fl => hexc er e h3 _ _ ((opP1 e1).trans q1) fl
  intro r' tr' h2 tk2 q1 K2
  have F2 := kept_fr kF K2 (by simp)
  have N2 := kept_news kN K2 (by simp)
  clear kN kF
  k_steps
  (rename News h₀ L _ _ => kN); (rename Kept s.heap _ _ => kK)
  have kV := (kN _ (.head _)).1
  rw [listOf_push] at kV
  exact hret r' _ _ _ _ ((opP1 e1).trans q1) (kept_butV kK kN (fun p hp => .tail _ hp) (fun p hp => N0 p (.tail _ hp))) kV
theorem apply2_spec (hdp : A.depth + 17 < recursionLimit) (hun : A.units + 200 < cLine) {z : SA} {tx : List Str} {fs : List (Int × Int)} {x : Str} {i v c mb : Int} {t1 t2 t3 t4 : Tok} {be : List Value} {V n : Nat} (Y : SymH w s.heap z tx fs) (hz : Fresh h₀ L z) (hlt : tx.length < 80000) (hlf : fs.length < 80000) (hzf : ∀ a ∈ z.all, a ∉ frs (env :: outer)) (hi : FnAt tx fs i x 2) (hV : s.heap.get? V = some (W.listOf ((be ++ [Value.int v t2]) ++ [Value.int c t4]).toArray n)) (hV0 : h₀.get? V = none ∧ V ≠ L) (hVz : V ∉ z.all) (hVf : V ∉ frs (env :: outer)) (hbe : be.length < 1000) (hv65 : v.natAbs < 2 ^ 65) (hc65 : c.natAbs < 2 ^ 65) (hm : mb ≤ 65) 
    (hret : ∀ vr tk h' tk' n', opP x [v, c] mb = .ok vr → Kept s.heap h' [V] → h'.get? V = some (W.listOf (be ++ [Value.int vr tk]).toArray n') → Q .none { s with heap := h', toks := tk' })
    (hexc : ∀ er e h' tk' n', opP x [v, c] mb = .error er → Flown w (hset s.heap V (W.listOf be.toArray n')) h' z.mods (env :: outer) e (er.ball tx fs) z (er.T tx) (er.F tx fs) → E (.ref e) { s with heap := h', toks := tk' }) :
    wpAny (model PySem.Challenge.rw_rh0079_01.row.prog w) A (PySem.call (.ref 335) [.ref z.S, .int i t1, .ref V, .int mb t3]) Q E s := by
  revert X; k_fill; intro X
  refine wpAny_call ?_
  obtain ⟨hd0, dp, fr, gd, un⟩ := A
  dsimp only at hA hh hdp hun
  subst hA hh
  obtain ⟨o1, o2, o3, o4, N⟩ := Y.four hz
  have N := news_cons hV hV0.2 hV0.1 N
  k_dflt (refine' enter_fn (rb := [(Str.ofString "max_bits", .int mb t3), (Str.ofString "values", .ref V), (Str.ofString "functor", .int i t1), (Str.ofString "symbols", .ref z.S)]) B F X N T ?kA hf hke ?k6 ?k7 ?k8 ?k9 ?kB ?kR ?_ ?c2 ?c3 ?c4 ?c5; (case kA => exact rfl); (case k6 => k_is); (case k7 => k_is); (case k8 => exact room0 hdp); (case k9 => exact BindsTo.of_eq rfl); (case kR => exact rfl); (case c5 => decide); (case kB => exact locs rfl); (case c2 => exact rfl); (case c3 => exact rfl); (case c4 => exact rfl); k_whole; intro g' L' h' F' N' B' X' T' K' S' Z' tkE; (try dsimp only); (try k_fold); refine let_AE ?_; intro A1 en)
  have hz' := fresh_of (fun p hp => N' p (.tail _ hp))
  have N0 := fun p hp => (N p hp).1
  clear N
  obtain ⟨i0, i62, na, hna, na0, na62, hx⟩ := hi
  have YF : ∀ {h1 m1 news1}, Fr g' L' h1 m1 → (∀ p ∈ [(z.T, o1), (z.AN, o2), (z.F, o3), (z.FN, o4)], p ∈ news1) → News g' L' h1 news1 → SymH w h1 z tx fs := fun {h1 m1 news1} f sub nn =>
    Y.kept (ms := [V]) (fun b o e hb => by
      by_cases hm : b ∈ z.mods
      · simp only [SA.mods, List.mem_cons, List.not_mem_nil, or_false] at hm
        rcases hm with rfl | rfl | rfl | rfl
        · have := N0 (z.T, o1) (by simp); rw [this] at e; cases e; exact (nn (z.T, o1) (sub _ (by simp))).1
        · have := N0 (z.AN, o2) (by simp); rw [this] at e; cases e; exact (nn (z.AN, o2) (sub _ (by simp))).1
        · have := N0 (z.F, o3) (by simp); rw [this] at e; cases e; exact (nn (z.F, o3) (sub _ (by simp))).1
        · have := N0 (z.FN, o4) (by simp); rw [this] at e; cases e; exact (nn (z.FN, o4) (sub _ (by simp))).1
      · exact f.keep _ _ (K' _ _ e (by simp only [List.map_cons, List.map_nil]; simpa [SA.mods] using And.intro (by simpa using hb) (by simpa [SA.mods] using hm)))) (by simpa using hVz) (by simp; intro o ho; rw [hV] at ho; cases ho; simp)
  obtain ⟨vS, vdS, vT, vAN, vF, vFN⟩ := vneq hVz
  have gS : g'.get? z.S = some (instObj 154 z.dS) := K' _ _ Y.oS (notK (Y.ne) hVz).1
  have gdS : g'.get? z.dS = some (symDict w z) := K' _ _ Y.odS (notK (Y.ne) hVz).2
  k_steps
  unfold Stop
  (rename Fr g' L' _ _ => kF); (rename News g' L' _ _ => kN)
  have Y1 := YF kF (by simp) kN
  k_dflt (refine name_spec B' kF X' T' rfl rfl rfl rfl (roomD hdp (by decide)) (roomU hun (by decide)) Y1 i0 i62 hna ?_)
  intro tq h1 tk1 K1
  have F1 := kept_fr kF K1 (by simp)
  have N1 := kept_news kN K1 (by simp)
  clear kN kF
  k_steps
  unfold Stop
  (rename Fr g' L' _ _ => kF); (rename News g' L' _ _ => kN)
  have Y1 := YF kF (by simp) kN
  k_dflt (refine text_spec B' kF X' T' rfl rfl rfl rfl (roomD hdp (by decide)) (roomU hun (by decide)) Y1 na0 na62 hx ?_)
  intro tq h1 tk1 K1
  have F1 := kept_fr kF K1 (by simp)
  have N1 := kept_news kN K1 (by simp)
  clear kN kF
  k_steps
  unfold Stop
  (rename Fr g' L' _ _ => kF); (rename News g' L' _ _ => kN)
  have Y1 := YF kF (by simp) kN
  k_dflt (refine arity_spec B' kF X' T' rfl rfl rfl rfl (roomD hdp (by decide)) (roomU hun (by decide)) Y1 i0 i62 hna ?_)
  intro tq h1 tk1 K1
  have F1 := kept_fr kF K1 (by simp)
  have N1 := kept_news kN K1 (by simp)
  clear kN kF
  k_steps
  unfold Stop
  (rename Fr g' L' _ _ => kF); (rename News g' L' _ _ => kN)
  have Y1 := YF kF (by simp) kN
  have VK := virt hV K' kF (kN _ (.head _)).1 rfl
  k_dflt (refine binary_spec B' kF X' T' rfl rfl rfl rfl (roomD hdp (by decide)) (roomU hun (by decide)) Y1 hz' hlt hlf (zfrs Z' Y.here hzf) hv65 hc65 hm ?_ ?_)
  rotate_left
  · intro er e h1 tk1 e1 fl
    exact fly_on B' kF rfl rfl ((hset_size _ _ _).symm ▸ Z') VK (virt_st VK Y1) (fun b hb => .inl hb) (fun b hb => zfrs Z' Y.here hzf b (mods_all hb)) fl hzf (virt_here Y.here hVz) fun h3 fl => hexc er e h3 _ _ (opP2e e1) fl
  intro r tr h1 tk1 e1 K1
  have F1 := kept_fr kF K1 (by simp)
  have N1 := kept_news kN K1 (by simp)
  clear kN kF
  k_steps
  unfold Stop
  (rename Fr g' L' _ _ => kF); (rename News g' L' _ _ => kN)
  have Y1 := YF kF (by simp) kN
  have VK := virt hV K' kF (kN _ (.head _)).1 rfl
  k_dflt (refine size_spec B' kF X' T' rfl rfl rfl rfl (roomD hdp (by decide)) (roomU hun (by decide)) Y1 hz' hlt hlf (zfrs Z' Y.here hzf) hm ?_ ?_)
  rotate_left
  · intro er e h1 tk1 q1 fl
    exact fly_on B' kF rfl rfl ((hset_size _ _ _).symm ▸ Z') VK (virt_st VK Y1) (fun b hb => .inl hb) (fun b hb => zfrs Z' Y.here hzf b (mods_all hb)) fl hzf (virt_here Y.here hVz) fun h3 fl => hexc er e h3 _ _ ((opP2 e1).trans q1) fl
  intro r' tr' h2 tk2 q1 K2
  have F2 := kept_fr kF K2 (by simp)
  have N2 := kept_news kN K2 (by simp)
  clear kN kF
  k_steps
  (rename News h₀ L _ _ => kN); (rename Kept s.heap _ _ => kK)
  have kV := (kN _ (.head _)).1
  rw [listOf_push] at kV
  exact hret r' _ _ _ _ ((opP2 e1).trans q1) (kept_butV kK kN (fun p hp => .tail _ hp) (fun p hp => N0 p (.tail _ hp))) kV

end
end
section
theorem walk_off_M16 : True := by
  w_top off
  trivial
open PySem PySem.W PyProof.Rows PySem.Calls PySem.Spec
noncomputable def unL : List Str := [Str.ofString "-", Str.ofString "+", Str.ofString "abs", Str.ofString "sign", Str.ofString "\\", Str.ofString "msb", Str.ofString "succ", Str.ofString "truncate", Str.ofString "round", Str.ofString "ceiling", Str.ofString "floor"]
noncomputable def biL : List Str := [Str.ofString "+", Str.ofString "-", Str.ofString "*", Str.ofString "//", Str.ofString "rem", Str.ofString "mod", Str.ofString "div", Str.ofString "min", Str.ofString "max", Str.ofString "gcd", Str.ofString ">>", Str.ofString "<<", Str.ofString "/\\", Str.ofString "\\/", Str.ofString "xor", Str.ofString "^", Str.ofString "**", Str.ofString "plus"]
noncomputable def isEv (x : Str) (ar : Int) : Bool := if ar = 1 then unL.any (· == x) else if ar = 2 then biL.any (· == x) else false
theorem k222 (P : Params) : ∃ o items n, (hd.heap_1 P).lookup 222 = some o ∧ o.cls = .type "tuple" ∧ o.data = .seq items n ∧ StrsAre items.toList unL := ⟨_, _, _, rfl, rfl, rfl, by repeat constructor⟩
theorem k223 (P : Params) : ∃ o items n, (hd.heap_1 P).lookup 223 = some o ∧ o.cls = .type "tuple" ∧ o.data = .seq items n ∧ StrsAre items.toList biL := ⟨_, _, _, rfl, rfl, rfl, by repeat constructor⟩
local macro_rules | `(tactic| walk_at "compareOp In str ref") => `(tactic| (k_dflt (refine in_tuple_strs (Fr.tup (by assumption) (by assumption)) (by assumption) ?_)))
section
variable {w : World} {mean : ExcName → Option Value} {mg mb : Str → Option Value} {A : Around} {env : Env} {outer : List Env} {A₀ : Around} {base h₀ : Heap} {L : Addr} {m : Str → Option Value} {s : Shared} {Q E : Value → Shared → Prop}
  (B : Below A₀ base outer h₀) (F : Fr h₀ L s.heap m) (X : (hd.heap_1 w.params).In h₀) (T : Top hdV (looseW hdV []) mean mg mb h₀)
  (hA : A.frames = some (env :: outer)) (hf : env.frame = some L) (hke : env.scope.kind = .function) (hh : A.handled = none)
include B F X T hA hf hke hh
theorem isev_spec (hdp : A.depth + 1 < recursionLimit) (hun : A.units + 8 < cLine) {x : Str} {ar : Int} {t1 t2 : Tok} (hret : ∀ h' tk', Kept s.heap h' [] → Q (.bool (isEv x ar)) { s with heap := h', toks := tk' }) :
    wpAny (model PySem.Challenge.rw_rh0079_01.row.prog w) A (PySem.call (.ref 237) [.str x t1, .int ar t2]) Q E s := by
  revert X; k_fill; intro X
  refine wpAny_call ?_
  obtain ⟨hd0, dp, fr, gd, un⟩ := A
  dsimp only at hA hh hdp hun
  subst hA hh
  have N : News h₀ L s.heap [] := News.nil
  k_dflt (refine' enter_fn (rb := [(Str.ofString "arity", .int ar t2), (Str.ofString "text", .str x t1)]) B F X N T ?kA hf hke ?k6 ?k7 ?k8 ?k9 ?kB ?kR ?_ ?c2 ?c3 ?c4 ?c5; (case kA => exact rfl); (case k6 => k_is); (case k7 => k_is); (case k8 => exact room0 hdp); (case k9 => exact BindsTo.of_eq rfl); (case kR => exact rfl); (case c5 => decide); (case kB => exact locs rfl); (case c2 => exact rfl); (case c3 => exact rfl); (case c4 => exact rfl); k_whole; intro g' L' h' F' N' B' X' T' K' S' Z' tkE; (try dsimp only); (try k_fold); refine let_AE ?_; intro A1 en)
  obtain ⟨oU, iU, nU, eU, cU, dU, sU⟩ := k222 w.params
  obtain ⟨oB, iB, nB, eB, cB, dB, sB⟩ := k223 w.params
  have tU : IsTup g' 222 iU := ⟨oU, X' _ _ eU, cU, nU, dU⟩
  have tB : IsTup g' 223 iB := ⟨oB, X' _ _ eB, cB, nB, dB⟩
  clear eU eB
  k_steps
  all_goals ((rename Kept s.heap _ _ => kK); have q := fun (n : Nat) => hret _ n kK; unfold isEv at q)
  · rw [if_pos (by assumption)] at q; exact q _
  · rw [if_neg (by assumption), if_pos (by assumption)] at q; exact q _
  · rw [if_neg (by assumption), if_neg (by assumption)] at q; exact q _
theorem check_spec (hdp : A.depth + 2 < recursionLimit) (hun : A.units + 16 < cLine) {z : SA} {tx : List Str} {fs : List (Int × Int)} {x : Str} {i ar : Int} {t : Tok} (Y : SymH w s.heap z tx fs) (hi : FnAt tx fs i x ar) (hev : isEv x ar = true) (hret : ∀ h' tk', Kept s.heap h' [] → Q .none { s with heap := h', toks := tk' }) :
    wpAny (model PySem.Challenge.rw_rh0079_01.row.prog w) A (PySem.call (.ref 244) [.ref z.S, .int i t]) Q E s := by
  revert X; k_fill; intro X
  refine wpAny_call ?_
  obtain ⟨hd0, dp, fr, gd, un⟩ := A
  dsimp only at hA hh hdp hun
  subst hA hh
  obtain ⟨i0, i62, na, hna, na0, na62, hx⟩ := hi
  have N : News h₀ L s.heap [] := News.nil
  k_dflt (refine' enter_fn (rb := [(Str.ofString "functor", .int i t), (Str.ofString "symbols", .ref z.S)]) B F X N T ?kA hf hke ?k6 ?k7 ?k8 ?k9 ?kB ?kR ?_ ?c2 ?c3 ?c4 ?c5; (case kA => exact rfl); (case k6 => k_is); (case k7 => k_is); (case k8 => exact room0 hdp); (case k9 => exact BindsTo.of_eq rfl); (case kR => exact rfl); (case c5 => decide); (case kB => exact locs rfl); (case c2 => exact rfl); (case c3 => exact rfl); (case c4 => exact rfl); k_whole; intro g' L' h' F' N' B' X' T' K' S' Z' tkE; (try dsimp only); (try k_fold); refine let_AE ?_; intro A1 en)
  have gS := K' _ _ Y.oS (by simp)
  have gdS := K' _ _ Y.odS (by simp)
  k_steps
  unfold Stop
  (rename Fr g' L' _ _ => kF); (rename News g' L' _ _ => kN)
  have Y1 := Y.kept0 (fun b o e _ => kF.keep b o (K' b o e (by simp)))
  k_dflt (refine name_spec B' kF X' T' rfl rfl rfl rfl (roomD hdp (by decide)) (roomU hun (by decide)) Y1 i0 i62 hna ?_)
  intro tq h1 tk1 K1
  have F1 := kept_fr kF K1 (by simp)
  have N1 := kept_news kN K1 (by simp)
  clear kN kF
  k_steps
  unfold Stop
  (rename Fr g' L' _ _ => kF); (rename News g' L' _ _ => kN)
  have Y1 := Y.kept0 (fun b o e _ => kF.keep b o (K' b o e (by simp)))
  k_dflt (refine arity_spec B' kF X' T' rfl rfl rfl rfl (roomD hdp (by decide)) (roomU hun (by decide)) Y1 i0 i62 hna ?_)
  intro tq2 h1 tk1 K1
  have F1 := kept_fr kF K1 (by simp)
  have N1 := kept_news kN K1 (by simp)
  clear kN kF
  k_steps
  unfold Stop
  (rename Fr g' L' _ _ => kF); (rename News g' L' _ _ => kN)
  have Y1 := Y.kept0 (fun b o e _ => kF.keep b o (K' b o e (by simp)))
  k_dflt (refine text_spec B' kF X' T' rfl rfl rfl rfl (roomD hdp (by decide)) (roomU hun (by decide)) Y1 na0 na62 hx ?_)
  intro tq3 h1 tk1 K1
  have F1 := kept_fr kF K1 (by simp)
  have N1 := kept_news kN K1 (by simp)
  clear kN kF
  k_steps
  unfold Stop
  (rename Fr g' L' _ _ => kF); (rename News g' L' _ _ => kN)
  have Y1 := Y.kept0 (fun b o e _ => kF.keep b o (K' b o e (by simp)))
  k_dflt (refine isev_spec B' kF X' T' rfl rfl rfl rfl (roomD hdp (by decide)) (roomU hun (by decide))  ?_)
  intro h1 tk1 K1
  have F1 := kept_fr kF K1 (by simp)
  have N1 := kept_news kN K1 (by simp)
  clear kN kF
  rw [hev]
  k_steps
  all_goals ((rename Kept s.heap _ _ => kK); exact hret _ _ kK)

end
end
section
theorem walk_off_E6 : True := by
  w_top off
  trivial
open PySem PySem.W PyProof.Rows PySem.Calls PySem.Spec
namespace F
open PySem.F
theorem slot_rev_next : Slot "reversed" "__next__" "reversed.__next__" :=
  .of (owner := "reversed") (n := "__next__") (by rw [typeLookup_type, builtinLookup_eq_fast]; kernel_rfl) (by decide +kernel) (by decide +kernel) (by decide +kernel)
    (by first | exact .inl (by decide +kernel) | exact .inr (by decide +kernel)) (by rw [isSubtype_type]; kernel_rfl)
theorem entry_rev_next : entryFor table "reversed.__next__" = some Builtin.«reversed.__next__» := entryFor_of_tree (by kernel_rfl)
theorem owner_rev : Manifest.owners.lookup (String.ofList ['d', 'e', 's', 'r', 'e', 'v', 'e', 'r'].reverse) = some Manifest.sig_reversed := by kernel_rfl
theorem args_rev_next_1 (a : Value) : argsOk "reversed.__next__" ⟨[a], []⟩ := by
  unfold argsOk; rw [signature?_of (id := "reversed.__next__") (n := ['_', '_', 't', 'x', 'e', 'n', '_', '_']) (o := ['d', 'e', 's', 'r', 'e', 'v', 'e', 'r']) (by kernel_rfl) owner_rev]; kernel_rfl
theorem slot_rev_iter : Slot "reversed" "__iter__" "reversed.__iter__" :=
  .of (owner := "reversed") (n := "__iter__") (by rw [typeLookup_type, builtinLookup_eq_fast]; kernel_rfl) (by decide +kernel) (by decide +kernel) (by decide +kernel)
    (by first | exact .inl (by decide +kernel) | exact .inr (by decide +kernel)) (by rw [isSubtype_type]; kernel_rfl)
theorem args_rev_iter_1 (a : Value) : argsOk "reversed.__iter__" ⟨[a], []⟩ := by
  unfold argsOk; rw [signature?_of (id := "reversed.__iter__") (n := ['_', '_', 'r', 'e', 't', 'i', '_', '_']) (o := ['d', 'e', 's', 'r', 'e', 'v', 'e', 'r']) (by kernel_rfl) owner_rev]; kernel_rfl
theorem entry_rev_iter : entryFor table "reversed.__iter__" = some Builtin.«dict_keyiterator.__iter__» :=
  entryFor_alias (id' := "dict_keyiterator.__iter__") (by kernel_rfl) (by first | rfl | decide +kernel | (unfold String.splitOn; simp +decide [String.splitOnAux])) (by decide +kernel) (by kernel_rfl)
theorem slot_rev_init : Slot "reversed" "__init__" "object.__init__" :=
  .of (owner := "object") (n := "__init__") (by rw [typeLookup_type, builtinLookup_eq_fast]; kernel_rfl) (by decide +kernel) (by decide +kernel) (by decide +kernel)
    (by first | exact .inl (by decide +kernel) | exact .inr (by decide +kernel)) (by rw [isSubtype_type]; kernel_rfl)
theorem called_reversed : TypeCalled "reversed" "reversed.__new__" "object.__init__" :=
  ⟨by decide +kernel, by decide +kernel, ⟨_, _, mro_reversed⟩, made_reversed, by decide +kernel, by rw [isSubtype_type]; kernel_rfl, slot_rev_init⟩
theorem tuple_no_reversed : typeLookup (.type "tuple") "__reversed__" = pure none := by rw [typeLookup_type, builtinLookup_eq_fast]; kernel_rfl
theorem tuple_no_dict : isSubtype (.type "tuple") (.type "dict") = pure false := by rw [isSubtype_type]; kernel_rfl
end F
section
variable {prog : Program} {w : World} {A : Around} {E : Value → Shared → Prop} {s : Shared}
noncomputable def rvObj (l : Addr) (i : Int) : Obj := { cls := .type "reversed", data := .fields #[.ref l, rawInt i] }
theorem code_rev_tuple {l : Addr} {items : Array Value} {Q₁ : Value → Shared → Prop} (hl : IsTup s.heap l items) (hfit : (items.size : Int) < 2 ^ 63)
    (h : ∀ tk, Q₁ (.ref s.heap.objs.size) { s with heap := s.heap.push (rvObj l ((items.size : Int) - 1)), toks := tk }) :
    codeAny (model prog w) A (.call (.builtin "reversed.__new__") ⟨[.type "reversed", .ref l], []⟩) (wants Q₁ E) s := by
  have hT : s.TypeIs (.ref l) "tuple" := by obtain ⟨o, ho, hc, _⟩ := hl; exact ⟨o, ho, hc⟩
  refine codeAny_of_tree ?_
  show wpAny _ A.in1 (do checkBuiltinCall "reversed.__new__" ⟨[.type "reversed", .ref l], []⟩; again (.builtin "reversed.__new__" ⟨[.type "reversed", .ref l], []⟩)) _ _ s
  refine wpAny_bind (wpAny_of_eq (F.newCall_reversed_1 _) (wpAny_pure ⟨plainId_quiet F.plain_reversed_new _, codeAny_builtin F.entry_reversed_new ?_⟩))
  rw [Around.under_plainId F.plain_reversed_new _]
  unfold Builtin.«reversed.__new__»
  refine wpAny_bind (wpAny_of_eq (newClass_reversed _) ?_)
  try dsimp only
  refine wpAny_bind (wpAny_of_eq (a := ()) (by first | rfl | kernel_rfl) ?_)
  refine wpAny_bind (wpAny_of_eq (a := ()) (by first | rfl | kernel_rfl) ?_)
  try dsimp only
  refine wpAny_bind (wpAny_specialOf hT F.tuple_no_reversed ?_)
  try dsimp only
  refine wpAny_bind ?_
  with_unfolding_all refine wpAny_bind (wpAny_isInstance hT F.tuple_no_dict ?_)
  try dsimp only
  rw [if_neg (by decide)]
  refine wpAny_bind (wpAny_specialOf hT F.slot_tuple_getitem.lookup ?_)
  try dsimp only
  rw [if_pos (by decide)]
  refine wpAny_pure ?_
  try dsimp only
  rw [if_neg (by decide)]
  refine wpAny_bind (len_tuple hl hfit ?_)
  refine wpAny_bind (wpAny_of_eq (a := some (items.size : Int)) (by rfl) ?_)
  try dsimp only
  unfold Builtin.SmallTypes.newRecord
  try dsimp only
  refine wpAny_bind (wpAny_newObj_type ?_ (by size_fits))
  exact wpAny_pure (h _)
theorem call_rev_tuple {l : Addr} {items : Array Value} {Q : Value → Shared → Prop} (hl : IsTup s.heap l items) (hfit : (items.size : Int) < 2 ^ 63)
    (h : ∀ tk, Q (.ref s.heap.objs.size) { s with heap := s.heap.push (rvObj l ((items.size : Int) - 1)), toks := tk }) : wpAny (model prog w) A (call (.type "reversed") [.ref l]) Q E s := by
  refine callType_codes F.called_reversed (F.typeCall_reversed_1 _) F.entry_object_init (Q₁ := fun obj s₁ => obj = .ref s.heap.objs.size ∧ ∃ tk, s₁ = { s with heap := s.heap.push (rvObj l ((items.size : Int) - 1)), toks := tk }) (code_rev_tuple hl hfit fun tk => ⟨rfl, tk, rfl⟩) ?_
  rintro obj s₁ ⟨rfl, tk, rfl⟩
  have hT : ({ s with heap := s.heap.push (rvObj l ((items.size : Int) - 1)), toks := tk } : Shared).TypeIs (.ref s.heap.objs.size) "reversed" := ⟨_, Heap.get?_push_size _ rfl, rfl⟩
  exact ⟨hT, F.args_object_init_2 _ _, object_init_meets F.called_reversed.init.lookup F.called_reversed.made (by decide) prog w A.in1 _ _ ⟨hT, rfl, h tk⟩⟩
noncomputable def IsRv (h : Heap) (a l : Addr) (i : Int) : Prop := ∃ o, h.get? a = some o ∧ o.cls = .type "reversed" ∧ o.data = .fields #[.ref l, rawInt i]
theorem IsRv.typeIs {a l : Addr} {i : Int} (x : IsRv s.heap a l i) : s.TypeIs (.ref a) "reversed" := let ⟨o, ho, hc, _⟩ := x; ⟨o, ho, hc⟩
theorem IsRv.at {h h' : Heap} {a l : Addr} {i : Int} (x : IsRv h a l i) (e : ∀ o, h.get? a = some o → h'.get? a = some o) : IsRv h' a l i := let ⟨o, ho, r⟩ := x; ⟨o, e _ ho, r⟩
theorem next_rv_item {it l : Addr} {i : Nat} {items : Array Value} {x : Value} {Q : Option Value → Shared → Prop} (hit : IsRv s.heap it l (i : Int)) (hl : IsTup s.heap l items) (hx : items[i]? = some x) (hi : i < 1000)
    (hQ : ∀ h' tk, IsRv h' it l ((i : Int) - 1) → Heap.SameBut it s.heap h' → Q (some x) { s with heap := h', toks := tk }) : wpAny (model prog w) A (pyNext (.ref it)) Q E s := by
  obtain ⟨o, ho, hc, hd⟩ := id hit
  have hT : s.TypeIs (.ref l) "tuple" := by obtain ⟨o, ho, hc, _⟩ := hl; exact ⟨o, ho, hc⟩
  unfold pyNext
  refine wpAny_bind (wpAny_attempt (wpAny_callSpecial?_slot (name := Str.ofString "__next__") hit.typeIs F.slot_rev_next
    (wpAny_call_entry F.slot_rev_next hit.typeIs F.entry_rev_next ?_ (F.args_rev_next_1 _))))
  unfold Builtin.«reversed.__next__»
  refine wpAny_bind (wpAny_of_eq (a := (Value.ref it, [])) rfl ?_)
  try dsimp only
  refine wpAny_bind (wpAny_field ho hd (x := .ref l) rfl ?_)
  refine wpAny_bind (wpAny_field ho hd (x := rawInt (i : Int)) rfl ?_)
  show wpAny _ _ (if (i : Int) < 0 then _ else _) _ _ s
  rw [if_neg (by omega)]
  refine wpAny_bind (wpAny_specialOf hT F.slot_tuple_getitem.lookup ?_)
  try dsimp only
  rw [if_neg (by decide)]
  refine wpAny_bind (wpAny_mkInt ?_)
  have hsz : i < items.size := by
    by_cases q : i < items.size
    · exact q
    · rw [Array.getElem?_eq_none (by omega)] at hx; cases hx
  refine wpAny_bind (wpAny_attempt (getItem_tuple (j := i) (x := x) ⟨hl.choose, hl.choose_spec⟩ (by omega) (by omega) (seqIndex_of (by omega) (by omega)) hx ?_))
  try dsimp only
  refine wpAny_bind (wpAny_field ho hd (x := rawInt (i : Int)) rfl ?_)
  show wpAny _ _ (setField (.ref it) 1 (rawInt ((i : Int) - 1)) >>= fun _ => ret x) _ _ _
  refine wpAny_bind (wpAny_setField ho hd (by simp) ?_)
  refine wpAny_pure ⟨x, rfl, wpAny_pure (hQ _ _ ?_ (Heap.SameBut.update ..))⟩
  exact ⟨_, Heap.get?_update_self _ ho (Obj.isFreed_of_fields (Obj.data_mapFields hd _)), (Obj.cls_mapFields ..).trans hc, by
    rw [Obj.data_mapFields hd]; simp⟩
theorem next_rv_end {it l : Addr} {Q : Option Value → Shared → Prop} (hh : A.handled = none) (hit : IsRv s.heap it l (-1))
    (hQ : ∀ h', Heap.ExtBut it s.heap h' → Q none { s with heap := h' }) : wpAny (model prog w) A (pyNext (.ref it)) Q E s := by
  obtain ⟨o, ho, hc, hd⟩ := id hit
  unfold pyNext
  refine wpAny_bind (wpAny_attempt (wpAny_callSpecial?_slot (name := Str.ofString "__next__") hit.typeIs F.slot_rev_next
    (wpAny_call_entry F.slot_rev_next hit.typeIs F.entry_rev_next ?_ (F.args_rev_next_1 _))))
  unfold Builtin.«reversed.__next__»
  refine wpAny_bind (wpAny_of_eq (a := (Value.ref it, [])) rfl ?_)
  try dsimp only
  refine wpAny_bind (wpAny_field ho hd (x := .ref l) rfl ?_)
  refine wpAny_bind (wpAny_field ho hd (x := rawInt (-1)) rfl ?_)
  show wpAny _ _ (if (-1 : Int) < 0 then _ else _) _ _ s
  rw [if_pos (by decide)]
  refine wpAny_bind (wpAny_rule ?_)
  with_unfolding_all refine wpAny_bind (wpAny_bind (wpAny_setField ho hd (by simp) ?_))
  have e1 : (s.heap.update it (Obj.mapFields (·.setIfInBounds 1 (rawInt (-1))))).get? it = some (Obj.mapFields (·.setIfInBounds 1 (rawInt (-1))) o) := Heap.get?_update_self _ ho (Obj.isFreed_of_fields (Obj.data_mapFields hd _))
  have d1 : (Obj.mapFields (·.setIfInBounds 1 (rawInt (-1))) o).data = .fields #[.ref l, rawInt (-1)] := by rw [Obj.data_mapFields hd]; simp
  with_unfolding_all refine wpAny_setField e1 d1 (by simp) ?_
  have x1 : Heap.ExtBut it s.heap ((s.heap.update it (Obj.mapFields (·.setIfInBounds 1 (rawInt (-1))))).update it (Obj.mapFields (·.setIfInBounds 0 Value.none))) := fun b o' hb q => by
    rw [Heap.get?_update_other _ _ (Ne.symm hb), Heap.get?_update_other _ _ (Ne.symm hb)]; exact q
  refine wpAny_bind ?_
  unfold Builtin.SmallTypes.stopIteration
  refine wpAny_bind ?_
  simp only [newExc, newTuple]
  refine wpAny_bind (wpAny_newObj_type ?_ (by size_fits))
  refine wpAny_bind (m := firstArgMember _ _) (wpAny_of_eq (a := Value.none) (by first | rfl | (simp only [firstArgMember]; rfl)) ?_)
  refine wpAny_newObj_type ?_ (by size_fits)
  simp only [raiseNew]
  refine wpAny_bind (wpAny_handled ?_)
  first | rw [show A.in1.handled = none from hh] | rw [hh]
  refine wpAny_bind (wpAny_pure (wpAny_throw ?_))
  refine wpAny_bind (wpAny_isInstance (T := "StopIteration") (b := true) ⟨_, Heap.get?_push_size _ rfl, rfl⟩ isSubtype_stop ?_)
  exact wpAny_pure (hQ _ ((x1.push _).push _))
theorem iter_rv {it l : Addr} {i : Int} {Q : Value → Shared → Prop} (hit : IsRv s.heap it l i) (h : Q (.ref it) s) : wpAny (model prog w) A (pyIter (.ref it)) Q E s := by
  refine wpAny_pyIter_slot hit.typeIs F.slot_rev_iter (wpAny_call_entry F.slot_rev_iter hit.typeIs F.entry_rev_iter ?_ (F.args_rev_iter_1 _))
  show wpAny _ _ (ret (.ref it)) _ _ s
  exact wpAny_pure ⟨_, rfl, "reversed", _, hit.typeIs, F.slot_rev_next.lookup, h⟩
end
end
section
theorem walk_off_E7 : True := by
  w_top off
  trivial
open PySem PySem.W PyProof.Rows PySem.Calls PySem.Spec PyProof.V
theorem IsTup.at' {h h' : Heap} {l : Addr} {items : Array Value} (x : IsTup h l items) (e : ∀ o, h.get? l = some o → h'.get? l = some o) : IsTup h' l items := let ⟨o, ho, r⟩ := x; ⟨o, e _ ho, r⟩
theorem walks_rv {prog : Program} {w : World} {A : Around} (hh : A.handled = none) (I l : Addr) (hne : l ≠ I) (items : Array Value) (hsz : items.size < 1000) :
    Walks prog w A I [I, l] [I] items.size (fun i v => items[items.size - 1 - i]? = some v) (fun i h => i ≤ items.size ∧ IsRv h I l ((items.size : Int) - 1 - (i : Int)) ∧ IsTup h l items) where
  sub := fun b hb => by simp at hb; simp [hb]
  frame := fun _ _ _ x hk => ⟨x.1, x.2.1.at fun o e => hk I (by simp) o e, IsTup.at' x.2.2 fun o e => hk l (by simp) o e⟩
  item := fun i s Q E hi x hQ => by
    have e : (items.size : Int) - 1 - (i : Int) = ((items.size - 1 - i : Nat) : Int) := by omega
    have hit := x.2.1
    rw [e] at hit
    have hx : items[items.size - 1 - i]? = some (items[items.size - 1 - i]'(by omega)) := Array.getElem?_eq_getElem (by omega)
    refine next_rv_item hit x.2.2 hx (by omega) fun h' tk hit' hs' => ?_
    have e2 : ((items.size - 1 - i : Nat) : Int) - 1 = (items.size : Int) - 1 - ((i + 1 : Nat) : Int) := by omega
    rw [e2] at hit'
    exact hQ _ h' tk hx ⟨hi, hit', IsTup.at' x.2.2 fun o eo => (hs'.2 l hne).trans eo⟩ fun b o hb eo => hs'.extBut b o (fun h => hb (by simp [h])) eo
  done := fun s Q E x hQ => by
    have e : (items.size : Int) - 1 - (items.size : Int) = -1 := by omega
    have hit := x.2.1
    rw [e] at hit
    exact next_rv_end hh hit fun h' he' => hQ h' s.toks fun b o hb eo => he' b o (fun h => hb (by simp [h])) eo
  self := fun _ _ _ _ x hQ => iter_rv x.2.1 hQ
section
variable {prog : Program} {w : World} {A : Around} {E : Value → Shared → Prop} {s : Shared} {env : Env} {h₀ : Heap} {L : Addr} {m : Str → Option Value} {x : Str} {body : List Stmt} {Q : Flow → Shared → Prop}
theorem rv_reversed {l : Addr} {vs : List Value} {news : List (Addr × Obj)} {Q : Value → Shared → Prop} (F : Fr h₀ L s.heap m := by k_asm) (N : News h₀ L s.heap news := by k_asm) (hl : IsTup h₀ l vs.toArray := by assumption) (hlen : vs.length < 1000 := by first | assumption | simp)
    (h : ∀ D h' tk, Fr h₀ L h' m → News h₀ L h' ((D, rvObj l ((vs.length : Int) - 1)) :: news) → (∀ p ∈ news, p.1 ≠ D) → (∀ p ∈ news, p.1 < D) → Q (.ref D) { s with heap := h', toks := tk }) : wpAny (model prog w) A (call (.type "reversed") [.ref l]) Q E s := by
  refine call_rev_tuple (IsTup.at' hl fun o e => F.keep _ _ e) (by simp; omega) fun tk => ?_
  have e : ((vs.toArray.size : Nat) : Int) - 1 = (vs.length : Int) - 1 := by simp
  rw [e]
  exact h _ _ _ (F.push _) (News.push F N _) (fun p hp => Nat.ne_of_lt (Heap.lt_size (N p hp).1)) fun p hp => Heap.lt_size (N p hp).1
noncomputable def RvRest (prog : Program) (w : World) (A : Around) (E : Value → Shared → Prop) (h₀ : Heap) (env : Env) (x : Str) (body : List Stmt) (Q : Flow → Shared → Prop) (s : Shared) (I : Addr) : List Value → (Str → Option Value) → List (Addr × Obj) → Prop
  | [], m, news => ∀ h tk, Fr h₀ env.locals h m → News h₀ env.locals h news → Q .next { s with heap := h, toks := tk }
  | v :: r, m, news => ∀ (it : Obj) h tk, it.cls = .type "reversed" → Fr h₀ env.locals h (fun y => if y = x then some v else m y) → News h₀ env.locals h ((I, it) :: news) →
      wpAny (model prog w) A (execs body env) (UnrPost h₀ env.locals { s with heap := h, toks := tk } I it (fun m' n' => RvRest prog w A E h₀ env x body Q s I r m' n') Q) E { s with heap := h, toks := tk }
theorem iter_rvTup {ax I : Addr} {vs : List Value} {m₀ : Str → Option Value} {news : List (Addr × Obj)}
    (hh : A.handled = none) (F : Fr h₀ env.locals s.heap m₀) (N : News h₀ env.locals s.heap ((I, rvObj ax ((vs.length : Int) - 1)) :: news)) (hoff : ∀ p ∈ news, p.1 ≠ I) (hax : IsTup h₀ ax vs.toArray) (hlen : vs.length < 1000)
    (rest : RvRest prog w A E h₀ env x body Q s I vs.reverse m₀ news) :
    wpAny (model prog w) A (pyIter (.ref I)) (fun it s₂ => LoopAtV prog w A h₀ env x body Q E it s₂) E s := by
  have hIx := N _ (List.mem_cons_self ..)
  have hl : IsTup s.heap ax vs.toArray := IsTup.at' hax fun o e => F.keep _ _ e
  have hne : ax ≠ I := fun q => by obtain ⟨o, ho, _⟩ := hax; rw [q, hIx.2.2] at ho; cases ho
  have hit : IsRv s.heap I ax ((vs.length : Int) - 1) := ⟨_, hIx.1, rfl, rfl⟩
  refine iter_rv hit ?_
  have W := walks_rv (prog := prog) (w := w) hh I ax hne vs.toArray (by simpa using hlen)
  have hlen : vs.toArray.size = vs.length := by simp
  rw [hlen] at W
  let J : Nat → (Str → Option Value) → List (Addr × Obj) → Prop := fun i m₁ news₁ => RvRest prog w A E h₀ env x body Q s I (vs.reverse.drop i) m₁ news₁
  refine ⟨I, _, _, vs.length, _, _, m₀, news, J, rfl, W, ?_, ?_, ?_, ⟨Nat.zero_le _, ?_, hl⟩, F, (fun p hp => N p (List.mem_cons_of_mem _ hp)), (show RvRest prog w A E h₀ env x body Q s I (vs.reverse.drop 0) m₀ news by rw [List.drop_zero]; exact rest), ?_, ?_⟩
  · intro hmm
    rcases List.mem_cons.mp hmm with e | hmm
    · exact hIx.2.1 e.symm
    · obtain ⟨o, ho, _⟩ := hax
      have hlt := Heap.lt_size ho
      rw [← List.mem_singleton.mp hmm] at hlt
      exact absurd (Nat.lt_of_lt_of_le hlt F.above) (Nat.lt_irrefl _)
  · intro b hb
    rw [List.mem_singleton.mp hb]
    exact hIx.2.2
  · intro p hp hI
    exact hoff p hp (List.mem_singleton.mp hI)
  · have e : (vs.length : Int) - 1 - ((0 : Nat) : Int) = (vs.length : Int) - 1 := by omega
    rw [e]
    exact hit
  · rintro i v m₁ news₁ s₁ own ⟨hh', tk', rfl⟩ hin hP hJ hofs hown hget hall hst F₁ N₁
    obtain ⟨it, hit', hic, hid⟩ := hst.2.1
    have hmemI := hall I (List.mem_cons_self ..) hIx.2.2 _ hit'
    have hdrop : vs.reverse.drop i = v :: vs.reverse.drop (i + 1) := by
      have hlt : i < vs.length := hin
      have hlt' : i < vs.reverse.length := by rw [List.length_reverse]; exact hlt
      have hv : vs.reverse[i]? = some v := by
        rw [List.getElem?_reverse hlt]
        simpa using hP
      rw [List.drop_eq_getElem_cons hlt']
      congr 1
      exact Option.some.inj ((List.getElem?_eq_getElem hlt').symm.trans hv)
    have hJ : RvRest prog w A E h₀ env x body Q s I (vs.reverse.drop i) m₁ news₁ := hJ
    rw [hdrop] at hJ
    have N₂ : News h₀ env.locals hh' ((I, it) :: news₁) := fun p hp => by
      rcases List.mem_cons.mp hp with rfl | hp
      · exact N₁ _ (List.mem_append_left _ hmemI)
      · exact N₁ _ (List.mem_append_right _ hp)
    refine wpAny_mono (hJ it hh' tk' hic F₁ N₂) (fun f s₂ p => ?_) fun _ _ e => e
    have fin : UnrEnd h₀ env.locals { s with heap := hh', toks := tk' } I it (fun m' n' => RvRest prog w A E h₀ env x body Q s I (vs.reverse.drop (i + 1)) m' n') s₂ →
        LoopStepU h₀ env.locals [I] own (J (i + 1)) { s with heap := hh', toks := tk' } .next s₂ := by
      rintro ⟨h', tk, m', news', e, F', N', ho, r⟩
      refine ⟨rfl, h', tk, m', news', e, F', fun p hp => ?_, fun p hp hI => ho p hp (List.mem_singleton.mp hI), r⟩
      rcases List.mem_append.mp hp with hp | hp
      · have h2 : hh'.get? p.1 = some p.2 := hget p hp
        rcases List.mem_cons.mp (hown p hp) with h1 | h1
        · have h3 : p = (I, it) := by
            rw [h1, hit'] at h2
            exact Prod.ext h1 (Option.some.inj h2).symm
          rw [h3]; exact N' _ (List.mem_cons_self ..)
        · have h1' : p.1 = ax := List.mem_singleton.mp h1
          have := (N₁ _ (List.mem_append_left _ hp)).2.2
          rw [h1'] at this
          obtain ⟨o, ho, _⟩ := hax
          rw [this] at ho; cases ho
      · exact N' _ (List.mem_cons_of_mem _ hp)
    cases f with
    | ret v => exact .ret p
    | brk => exact .brk p
    | next => exact .next (fin p)
    | cont => exact .cont (fin p)
  · rintro h' tk m' news' F' N' _ hJ
    have hJ : RvRest prog w A E h₀ env x body Q s I (vs.reverse.drop vs.length) m' news' := hJ
    have z : vs.reverse.drop vs.length = [] := List.drop_of_length_le (by rw [List.length_reverse]; exact Nat.le_refl _)
    rw [z] at hJ
    exact hJ h' tk F' N'
end
end
section
theorem walk_off_M17 : True := by
  w_top off
  trivial
open PySem PySem.W PyProof.Rows PySem.Calls PySem.Spec
inductive Tm | num (n : Int) | un (i : Int) (x : Str) (t : Tm) | bin (i : Int) (x : Str) (a b : Tm)
noncomputable def TmAt (h : Heap) : Tm → Value → Prop
  | .num n, v => ∃ a t1 t2, v = .ref a ∧ IsTup h a #[.str (Str.ofString "i") t1, .int n t2]
  | .un i _ t, v => ∃ a b t1 t2 v1, v = .ref a ∧ IsTup h a #[.str (Str.ofString "s") t1, .int i t2, .ref b] ∧ IsTup h b #[v1] ∧ TmAt h t v1
  | .bin i _ p q, v => ∃ a b t1 t2 v1 v2, v = .ref a ∧ IsTup h a #[.str (Str.ofString "s") t1, .int i t2, .ref b] ∧ IsTup h b #[v1, v2] ∧ TmAt h p v1 ∧ TmAt h q v2
noncomputable def WfT (tx : List Str) (fs : List (Int × Int)) : Tm → Prop
  | .num n => n.natAbs < 2 ^ 65
  | .un i x t => FnAt tx fs i x 1 ∧ isEv x 1 = true ∧ WfT tx fs t
  | .bin i x p q => FnAt tx fs i x 2 ∧ isEv x 2 = true ∧ WfT tx fs p ∧ WfT tx fs q
noncomputable def Tm.sz : Tm → Nat | .num _ => 1 | .un _ _ t => 2 + t.sz | .bin _ _ p q => 2 + p.sz + q.sz
noncomputable def evT (mb : Int) : Tm → Except Er Int
  | .num n => .ok n
  | .un _ x t => match evT mb t with | .ok v => opP x [v] mb | .error e => .error e
  | .bin _ x p q => match evT mb p with | .ok a => (match evT mb q with | .ok b => opP x [a, b] mb | .error e => .error e) | .error e => .error e
/-- how many arguments -/
noncomputable def arB : Bool → Int | false => 1 | true => 2
inductive It | tm (t : Tm) | ap (b : Bool) (i : Int) (x : Str)
noncomputable def It.cost : It → Nat | .tm t => t.sz | .ap _ _ _ => 1
noncomputable def costs : List It → Nat | [] => 0 | i :: r => i.cost + costs r
noncomputable def runS (mb : Int) : List It → List Int → Except Er (List Int)
  | [], vs => .ok vs
  | .tm t :: r, vs => match evT mb t with | .ok v => runS mb r (v :: vs) | .error e => .error e
  | .ap false _ x :: r, v :: vs => match opP x [v] mb with | .ok q => runS mb r (q :: vs) | .error e => .error e
  | .ap true _ x :: r, b :: a :: vs => match opP x [a, b] mb with | .ok q => runS mb r (q :: vs) | .error e => .error e
  | _, _ => .ok []
/-- every functor to come finds its arguments -/
noncomputable def fits : List It → Nat → Prop
  | [], k => k = 1
  | .tm _ :: r, k => fits r (k + 1)
  | .ap false _ _ :: r, k => 1 ≤ k ∧ fits r k
  | .ap true _ _ :: r, k => 2 ≤ k ∧ fits r (k - 1)
theorem runS_nil {mb : Int} {vs : List Int} : runS mb [] vs = .ok vs := by cases vs <;> rfl
theorem runS_tm {mb : Int} {t : Tm} {r : List It} {vs : List Int} : runS mb (.tm t :: r) vs = (match evT mb t with | .ok v => runS mb r (v :: vs) | .error e => .error e) := by cases vs <;> rfl
theorem runS_one {mb i : Int} {x : Str} {r : List It} {v : Int} {vs : List Int} : runS mb (.ap false i x :: r) (v :: vs) = (match opP x [v] mb with | .ok q => runS mb r (q :: vs) | .error e => .error e) := rfl
theorem runS_two {mb i : Int} {x : Str} {r : List It} {a b : Int} {vs : List Int} : runS mb (.ap true i x :: r) (b :: a :: vs) = (match opP x [a, b] mb with | .ok q => runS mb r (q :: vs) | .error e => .error e) := rfl
theorem evT_un {mb i : Int} {x : Str} {t : Tm} : evT mb (.un i x t) = (match evT mb t with | .ok v => opP x [v] mb | .error e => .error e) := rfl
theorem evT_bin {mb i : Int} {x : Str} {p q : Tm} : evT mb (.bin i x p q) = (match evT mb p with | .ok a => (match evT mb q with | .ok b => opP x [a, b] mb | .error e => .error e) | .error e => .error e) := rfl
theorem run_un {mb : Int} {i : Int} {x : Str} {t : Tm} {r : List It} {vs : List Int} : runS mb (.tm (.un i x t) :: r) vs = runS mb (.tm t :: .ap false i x :: r) vs := by
  rw [runS_tm, runS_tm, evT_un]
  cases evT mb t with
  | ok v => exact runS_one.symm
  | error e => rfl
theorem run_bin {mb : Int} {i : Int} {x : Str} {p q : Tm} {r : List It} {vs : List Int} : runS mb (.tm (.bin i x p q) :: r) vs = runS mb (.tm p :: .tm q :: .ap true i x :: r) vs := by
  rw [runS_tm, runS_tm, evT_bin]
  cases evT mb p with
  | ok v =>
    show _ = runS mb (.tm q :: .ap true i x :: r) (v :: vs)
    rw [runS_tm]
    cases evT mb q with
    | ok u => exact runS_two.symm
    | error e => rfl
  | error e => rfl
noncomputable def WfI (tx : List Str) (fs : List (Int × Int)) : It → Prop
  | .tm t => WfT tx fs t
  | .ap b i x => FnAt tx fs i x (arB b)
noncomputable def ItAt (g h : Heap) : It → Value → Prop
  | .tm t, v => TmAt g t v
  | .ap _ i _, v => ∃ a t1 t2, v = .ref a ∧ IsTup h a #[.str (Str.ofString "apply") t1, .int i t2] ∧ g.get? a = none
inductive StkT (g h : Heap) : List Value → List It → Prop
  | nil : StkT g h [] []
  | snoc {be : List Value} {v : Value} {r : List It} {i : It} : ItAt g h i v → StkT g h be r → StkT g h (be ++ [v]) (i :: r)
inductive StkI : List Value → List Int → Prop
  | nil : StkI [] []
  | snoc {be : List Value} {v : Int} {t : Tok} {r : List Int} : StkI be r → StkI (be ++ [.int v t]) (v :: r)
theorem StkI.len {vs : List Value} {l : List Int} (h : StkI vs l) : vs.length = l.length := by
  induction h with
  | nil => rfl
  | snoc _ ih => simp [ih]
theorem StkT.len {g h : Heap} {vs : List Value} {l : List It} (x : StkT g h vs l) : vs.length = l.length := by
  induction x with
  | nil => rfl
  | snoc _ _ ih => simp [ih]
theorem ItAt.mono {g h h' : Heap} {i : It} {v : Value} (k : ∀ a items, IsTup h a items → g.get? a = none → IsTup h' a items) (x : ItAt g h i v) : ItAt g h' i v := by
  cases i with
  | tm t => exact x
  | ap b i y => obtain ⟨a, t1, t2, e, ht, hg⟩ := x; exact ⟨a, t1, t2, e, k _ _ ht hg, hg⟩
theorem StkT.mono {g h h' : Heap} (k : ∀ a items, IsTup h a items → g.get? a = none → IsTup h' a items) {vs : List Value} {l : List It} (x : StkT g h vs l) : StkT g h' vs l := by
  induction x with
  | nil => exact .nil
  | snoc a _ ih => exact .snoc (a.mono k) ih
theorem Tm.sz_pos : ∀ t : Tm, 1 ≤ t.sz
  | .num _ => Nat.le_refl _
  | .un _ _ _ => by simp [Tm.sz]; omega
  | .bin _ _ _ _ => by simp [Tm.sz]; omega
theorem It.cost_pos (i : It) : 1 ≤ i.cost := by cases i <;> simp [It.cost, Tm.sz_pos]
theorem len_costs : ∀ l : List It, l.length ≤ costs l
  | [] => Nat.le_refl _
  | i :: r => by have := len_costs r; have := i.cost_pos; simp only [List.length_cons, costs]; omega
theorem bl_nat {v mb : Int} (h : ¬ mb < bl v) (hm : mb ≤ 65) : v.natAbs < 2 ^ 65 := by
  unfold bl Builtin.Int.intBits at h
  split at h
  · rename_i q; simp at q; subst q; decide
  · rename_i q
    have h0 : v.natAbs ≠ 0 := fun x => q (by simpa using x)
    exact (Nat.log2_lt h0).mp (by omega)
theorem sizeP_ok {v mb r : Int} (h : sizeP v mb = .ok r) (hm : mb ≤ 65) : r.natAbs < 2 ^ 65 := by
  unfold sizeP at h
  split at h
  · cases h
  · cases h; exact bl_nat (by assumption) hm
theorem opP_ok {x : Str} {args : List Int} {mb r : Int} (h : opP x args mb = .ok r) (hm : mb ≤ 65) : r.natAbs < 2 ^ 65 := by
  unfold opP at h
  split at h
  · split at h
    · exact sizeP_ok h hm
    · cases h
  · split at h
    · exact sizeP_ok h hm
    · cases h
  · cases h; decide
theorem norm4 {m : Str → Option Value} {a b c d : Str} {p q r t : Value} (h1 : m a = some p) (h2 : m b = some q) (h3 : m c = some r) (h4 : m d = some t) : m = fun y => if y = a then some p else if y = b then some q else if y = c then some r else if y = d then some t else m y := by
  funext y
  by_cases e1 : y = a
  · subst e1; simp [h1]
  · by_cases e2 : y = b
    · subst e2; simp [e1, h2]
    · by_cases e3 : y = c
      · subst e3; simp [e1, e2, h3]
      · by_cases e4 : y = d
        · subst e4; simp [e1, e2, e3, h4]
        · simp [e1, e2, e3, e4]
/-- what apply_functor does with the last items of a row -/
noncomputable def ApplyC (w : World) (items be : List Value) (x : Str) (i ar : Int) (args : List Int) (mb2 : Int) : Prop :=
  ∀ (mean : ExcName → Option Value) (mg mb : Str → Option Value) (A : Around) (env : Env) (outer : List Env) (A₀ : Around) (base h₀ : Heap) (L : Addr) (m : Str → Option Value) (s : Shared) (Q E : Value → Shared → Prop)
    (z : SA) (tx : List Str) (fs : List (Int × Int)) (t1 t3 : Tok) (V n : Nat),
    Below A₀ base outer h₀ → Fr h₀ L s.heap m → (hd.heap_1 w.params).In h₀ → Top hdV (looseW hdV []) mean mg mb h₀ → A.frames = some (env :: outer) → env.frame = some L → env.scope.kind = .function → A.handled = none →
    A.depth + 17 < recursionLimit → A.units + 200 < cLine → SymH w s.heap z tx fs → Fresh h₀ L z → tx.length < 80000 → fs.length < 80000 → (∀ a ∈ z.all, a ∉ frs (env :: outer)) → FnAt tx fs i x ar →
    s.heap.get? V = some (W.listOf items.toArray n) → (h₀.get? V = none ∧ V ≠ L) → V ∉ z.all → V ∉ frs (env :: outer) →
    (∀ vr tk h' tk' n', opP x args mb2 = .ok vr → Kept s.heap h' [V] → h'.get? V = some (W.listOf (be ++ [Value.int vr tk]).toArray n') → Q .none { s with heap := h', toks := tk' }) →
    (∀ er e h' tk' n', opP x args mb2 = .error er → Flown w (hset s.heap V (W.listOf be.toArray n')) h' z.mods (env :: outer) e (er.ball tx fs) z (er.T tx) (er.F tx fs) → E (.ref e) { s with heap := h', toks := tk' }) →
    wpAny (model PySem.Challenge.rw_rh0079_01.row.prog w) A (PySem.call (.ref 335) [.ref z.S, .int i t1, .ref V, .int mb2 t3]) Q E s
theorem apply1_C {w : World} {be : List Value} {x : Str} {i v mb2 : Int} {t2 : Tok} (hbe : be.length < 1000) (hm : mb2 ≤ 65) : ApplyC w (be ++ [.int v t2]) be x i 1 [v] mb2 := by
  intro mean mg mb A env outer A₀ base h₀ L m s Q E z tx fs t1 t3 V n B F X T hA hf hke hh hdp hun Y hz hlt hlf hzf hi hV hV0 hVz hVf hret hexc
  exact apply1_spec (c := 0) (t4 := 0) B F X T hA hf hke hh hdp hun Y hz hlt hlf hzf hi hV hV0 hVz hVf hbe hm hret hexc
theorem apply2_C {w : World} {be : List Value} {x : Str} {i v c mb2 : Int} {t2 t4 : Tok} (hbe : be.length < 1000) (hv : v.natAbs < 2 ^ 65) (hc : c.natAbs < 2 ^ 65) (hm : mb2 ≤ 65) : ApplyC w (be ++ [.int v t2, .int c t4]) be x i 2 [v, c] mb2 := by
  intro mean mg mb A env outer A₀ base h₀ L m s Q E z tx fs t1 t3 V n B F X T hA hf hke hh hdp hun Y hz hlt hlf hzf hi hV hV0 hVz hVf hret hexc
  exact apply2_spec B F X T hA hf hke hh hdp hun Y hz hlt hlf hzf hi (by rw [List.append_assoc]; exact hV) hV0 hVz hVf hbe hv hc hm hret hexc
theorem run_one {mb : Int} {t : Tm} {v : Int} (h : runS mb [] [v] = runS mb [.tm t] []) : evT mb t = .ok v := by
  rw [runS_nil, runS_tm] at h
  cases q : evT mb t with
  | ok u => rw [q] at h; have h2 : (Except.ok [v] : Except Er (List Int)) = .ok [u] := h.trans runS_nil; injection h2 with h3; injection h3 with h4; rw [h4]
  | error e => rw [q] at h; cases h
theorem run_err {mb : Int} {t : Tm} {e : Er} (h : Except.error e = runS mb [.tm t] []) : evT mb t = .error e := by
  rw [runS_tm] at h
  cases q : evT mb t with
  | ok u => rw [q] at h; have h2 : (Except.error e : Except Er (List Int)) = .ok [u] := h.trans runS_nil; cases h2
  | error e' => rw [q] at h; injection h with h1; rw [h1]
/-- a functor to apply, its arguments at the row's end -/
inductive ApP (w : World) (mb i : Int) (x : Str) (ar : Int) (r : List It) (vals : List Value) (vs : List Int) (t0 : Tm) : Prop
  | mk (be : List Value) (vr args : List Int) (C : ApplyC w vals be x i ar args mb) (sk : StkI be vr) (wv : ∀ v ∈ vr, v.natAbs < 2 ^ 65) (l : vr.length < vs.length) (f : fits r (vr.length + 1)) (o1 : ∀ q, opP x args mb = .ok q → runS mb r (q :: vr) = runS mb [.tm t0] []) (o2 : ∀ er, opP x args mb = .error er → evT mb t0 = .error er) : ApP w mb i x ar r vals vs t0
theorem ap_pack {w : World} {mb i : Int} {b : Bool} {x : Str} {r : List It} {vals : List Value} {vs : List Int} {t0 : Tm} (sI : StkI vals vs) (fit : fits (.ap b i x :: r) vs.length) (wV : ∀ v ∈ vs, v.natAbs < 2 ^ 65) (hm : mb ≤ 65) (hl : vals.length < 1000) (hrun : runS mb (.ap b i x :: r) vs = runS mb [.tm t0] []) :
    ApP w mb i x (arB b) r vals vs t0 := by
  cases b with
  | false =>
    obtain ⟨fit1, fit2⟩ := fit
    cases sI with
    | nil => cases fit1
    | snoc sI =>
      rename_i be v t vr
      rw [List.length_append] at hl
      rw [runS_one] at hrun
      exact ⟨be, vr, [v], apply1_C (Nat.lt_of_le_of_lt (Nat.le_add_right _ _) hl) hm, sI, fun u hu => wV u (.tail _ hu), Nat.lt_succ_self _, fit2, fun q e => by rw [← hrun, e], fun er e => run_err (by rw [← hrun, e])⟩
  | true =>
    obtain ⟨fit1, fit2⟩ := fit
    cases sI with
    | nil => cases fit1
    | snoc sI =>
      rename_i be1 c tc vr1
      cases sI with
      | nil => exact absurd fit1 (Nat.not_succ_le_self 1)
      | snoc sI =>
        rename_i be v t vr
        rw [List.length_append, List.length_append] at hl
        rw [runS_two] at hrun
        have e0 : be ++ [Value.int v t] ++ [Value.int c tc] = be ++ [Value.int v t, Value.int c tc] := by rw [List.append_assoc]; rfl
        rw [e0]
        exact ⟨be, vr, [v, c], apply2_C (Nat.lt_of_le_of_lt (Nat.le_trans (Nat.le_add_right _ _) (Nat.le_add_right _ _)) hl) (wV _ (.tail _ (.head _))) (wV _ (.head _)) hm, sI, fun u hu => wV u (.tail _ (.tail _ hu)), Nat.lt_succ_of_lt (Nat.lt_succ_self _), fit2, fun q e => by rw [← hrun, e], fun er e => run_err (by rw [← hrun, e])⟩
/-- a term's parts, and the whole -/
inductive StA (g : Heap) (tx : List Str) (fs : List (Int × Int)) (i : Int) (x : Str) : Tm → List Value → Int → Prop
  | un (t : Tm) (v : Value) (h : TmAt g t v) (w : WfT tx fs t) : StA g tx fs i x (.un i x t) [v] (arB false)
  | bin (p q : Tm) (v u : Value) (h : TmAt g p v) (h2 : TmAt g q u) (w : WfT tx fs p) (w2 : WfT tx fs q) : StA g tx fs i x (.bin i x p q) [v, u] (arB true)
inductive StP (g : Heap) (tx : List Str) (fs : List (Int × Int)) (t : Tm) : Value → Prop
  | num (n : Int) (v : Value) (e : t = .num n) : StP g tx fs t v
  | st (c b : Addr) (u1 u2 : Tok) (i : Int) (x : Str) (ar : Int) (args : List Value) (hc : IsTup g c #[.str (Str.ofString "s") u1, .int i u2, .ref b]) (hb : IsTup g b args.toArray) (hal : args.length < 1000) (wf : FnAt tx fs i x ar) (hev : isEv x ar = true) (ha : StA g tx fs i x t args ar) : StP g tx fs t (.ref c)
theorem st_pack {g : Heap} {tx : List Str} {fs : List (Int × Int)} {t : Tm} {v : Value} (ht : TmAt g t v) (hw : WfT tx fs t) : StP g tx fs t v := by
  cases t with
  | num n => exact .num n v rfl
  | un i x t1 =>
    obtain ⟨c, b, u1, u2, v1, rfl, hc, hb, hv1⟩ := ht
    exact .st c b u1 u2 i x 1 [v1] hc hb (Nat.le_of_ble_eq_true rfl) hw.1 hw.2.1 (.un t1 v1 hv1 hw.2.2)
  | bin i x p q =>
    obtain ⟨c, b, u1, u2, v1, v2, rfl, hc, hb, hv1, hv2⟩ := ht
    exact .st c b u1 u2 i x 2 [v1, v2] hc hb (Nat.le_of_ble_eq_true rfl) hw.1 hw.2.1 (.bin p q v1 v2 hv1 hv2 hw.2.2.1 hw.2.2.2)
end
section
theorem walk_off_M18 : True := by
  w_top off
  trivial
open PySem PySem.W PyProof.Rows PySem.Calls PySem.Spec
noncomputable def TdO (l : List Value) (n : Nat) : Obj := W.listOf l.toArray n
structure EvJ (w : World) (g : Heap) (z : SA) (tx : List Str) (fs : List (Int × Int)) (mb : Int) (t0 : Tm) (S : Value) (MB : Value) (Dv Dt : Nat) (mods : List (Addr × Obj)) (n : Nat) (m : Str → Option Value) (news : List (Addr × Obj)) (h : Heap) : Prop where
  a : m (Str.ofString "todo") = some (.ref Dt) ∧ m (Str.ofString "values") = some (.ref Dv) ∧ m (Str.ofString "symbols") = some S ∧ m (Str.ofString "max_bits") = some MB
  b : ∃ tods vals n1 n2 its vs, news = (Dv, W.listOf vals.toArray n2) :: (Dt, W.listOf tods.toArray n1) :: mods ∧ StkT g h tods its ∧ StkI vals vs ∧ (∀ i ∈ its, WfI tx fs i) ∧ (∀ v ∈ vs, v.natAbs < 2 ^ 65) ∧ fits its vs.length ∧
    runS mb its vs = runS mb [.tm t0] [] ∧ n = costs its ∧ vs.length + costs its ≤ t0.sz
  y : SymH w h z tx fs
theorem truthy_snoc {prog : Program} {w : World} {A : Around} {E : Value → Shared → Prop} {s : Shared} {h₀ : Heap} {L D : Addr} {news : List (Addr × Obj)} {n : Nat} {be : List Value} {v : Value} {Q : Bool → Shared → Prop} (N : News h₀ L s.heap news := by k_asm) (hm : (D, W.listOf (be ++ [v]).toArray n) ∈ news := by k_mem) (hb : be.length < 1000 := by assumption)
    (h : Q true { s with toks := s.toks + 1 + 1 }) : wpAny (model prog w) A (truthy (.ref D)) Q E s :=
  wpAny_truthy_list (items := (be ++ [v]).toArray) ⟨_, (N _ hm).1, rfl, n, rfl⟩ (by simp; omega) (by
    have e : (!(be ++ [v]).toArray.isEmpty) = true := by simp
    rw [e]; exact h)
theorem StkI.one {vs : List Value} {v : Int} (h : StkI vs [v]) : ∃ t, vs = [.int v t] := by
  cases h with
  | snoc h => cases h; exact ⟨_, rfl⟩
/-- what a turn of the loop must show at its end -/
noncomputable def EvFin (w : World) (g : Heap) (L : Nat) (z : SA) (tx : List Str) (fs : List (Int × Int)) (mb : Int) (t0 : Tm) (S MB : Value) (Dv Dt : Nat) (mods rest : List (Addr × Obj)) (h1 : Heap) : Prop :=
  ∀ (h2 : Heap) (m2 : Str → Option Value) (news2 : List (Addr × Obj)) (vals' : List Value) (n2' : Nat) (tods' : List Value) (n1' : Nat) (its' : List It) (vs' : List Int), Fr g L h2 m2 → News g L h2 news2 → (∀ p ∈ rest, p ∈ news2) → (Dv, W.listOf vals'.toArray n2') ∈ news2 → (Dt, W.listOf tods'.toArray n1') ∈ news2 →
    (m2 (Str.ofString "todo") = some (.ref Dt) ∧ m2 (Str.ofString "values") = some (.ref Dv) ∧ m2 (Str.ofString "symbols") = some S ∧ m2 (Str.ofString "max_bits") = some MB) →
    ((∀ a items, IsTup h1 a items → IsTup h2 a items) → StkT g h2 tods' its') → StkI vals' vs' → (∀ i ∈ its', WfI tx fs i) → (∀ v ∈ vs', v.natAbs < 2 ^ 65) → fits its' vs'.length → runS mb its' vs' = runS mb [.tm t0] [] → vs'.length + costs its' ≤ t0.sz →
    EvJ w g z tx fs mb t0 S MB Dv Dt mods (costs its') m2 ((Dv, W.listOf vals'.toArray n2') :: (Dt, W.listOf tods'.toArray n1') :: mods) h2 ∧ News g L h2 ((Dv, W.listOf vals'.toArray n2') :: (Dt, W.listOf tods'.toArray n1') :: mods)
theorem ev_fin {w : World} {g : Heap} {L : Nat} {z : SA} {tx : List Str} {fs : List (Int × Int)} {mb : Int} {t0 : Tm} {S MB : Value} {Dv Dt : Nat} {mods rest : List (Addr × Obj)} {h1 : Heap} {m1 : Str → Option Value} {vals tods : List Value} {n1 n2 : Nat}
    (F1 : Fr g L h1 m1) (N1 : News g L h1 ((Dv, W.listOf vals.toArray n2) :: (Dt, W.listOf tods.toArray n1) :: mods)) (hR3 : ∀ c o, h1.get? c = some o → g.get? c = none → c ≠ L → c ∉ [Dv, Dt] → (c, o) ∈ rest) (y : SymH w h1 z tx fs)
    (hzL : ∀ b ∈ [L, Dv, Dt], b ∉ z.all) (hmods : ∀ p ∈ mods, p.1 ∉ [L, Dv, Dt]) : EvFin w g L z tx fs mb t0 S MB Dv Dt mods rest h1 := by
  intro h2 m2 news2 vals' n2' tods' n1' its' vs' F2 N2 hs hv ht am sT sI wI wV fit hrun hsz
  have K : Kept h1 h2 [L, Dv, Dt] := later (ex := [Dv, Dt]) F2 hR3 F1.keep N2 hs
  have nt : ∀ b ∈ [L, Dv, Dt], ∀ o, h1.get? b = some o → o.cls = .type "tuple" → ∀ items n, o.data ≠ .seq items n := by
    intro b hb o ho hc items n hd
    simp only [List.mem_cons, List.not_mem_nil, or_false] at hb
    rcases hb with rfl | rfl | rfl
    · obtain ⟨oL, es, ep, hL, hd', _⟩ := F1.ns
      rw [hL] at ho; cases ho; rw [hd'] at hd; cases hd
    · have := (N1 _ (.head _)).1; rw [this] at ho; cases ho; simp at hc
    · have := (N1 _ (.tail _ (.head _))).1; rw [this] at ho; cases ho; simp at hc
  have kT : ∀ a items, IsTup h1 a items → IsTup h2 a items := fun a items ⟨o, ho, hc, n, hd⟩ => ⟨o, K _ _ ho (fun q => nt a q o ho hc items n hd), hc, n, hd⟩
  have nn : News g L h2 ((Dv, W.listOf vals'.toArray n2') :: (Dt, W.listOf tods'.toArray n1') :: mods) := fun p hp => by
    rcases List.mem_cons.mp hp with rfl | hp
    · exact N2 _ hv
    rcases List.mem_cons.mp hp with rfl | hp
    · exact N2 _ ht
    · have := N1 p (.tail _ (.tail _ hp))
      have q := hmods p hp
      simp only [List.mem_cons, not_or] at q
      exact N2 _ (hs _ (hR3 _ _ this.1 this.2.2 q.1 (by simp only [List.mem_cons, not_or]; exact q.2)))
  exact ⟨⟨am, ⟨tods', vals', n1', n2', its', vs', rfl, sT kT, sI, wI, wV, fit, hrun, rfl, hsz⟩, y.kept' K hzL nt⟩, nn⟩
theorem ev_sym {w : World} {g : Heap} {L : Nat} {z : SA} {tx : List Str} {fs : List (Int × Int)} {Dv Dt : Nat} {mods rest : List (Addr × Obj)} {h1 : Heap} {m1 : Str → Option Value} {vals tods : List Value} {n1 n2 : Nat}
    (F1 : Fr g L h1 m1) (N1 : News g L h1 ((Dv, W.listOf vals.toArray n2) :: (Dt, W.listOf tods.toArray n1) :: mods)) (hR3 : ∀ c o, h1.get? c = some o → g.get? c = none → c ≠ L → c ∉ [Dv, Dt] → (c, o) ∈ rest) (y : SymH w h1 z tx fs)
    (hzL : ∀ b ∈ [L, Dv, Dt], b ∉ z.all) : ∀ (h2 : Heap) (m2 : Str → Option Value) (news2 : List (Addr × Obj)), Fr g L h2 m2 → News g L h2 news2 → (∀ p ∈ rest, p ∈ news2) → SymH w h2 z tx fs := by
  intro h2 m2 news2 F2 N2 hs
  have K : Kept h1 h2 [L, Dv, Dt] := later (ex := [Dv, Dt]) F2 hR3 F1.keep N2 hs
  refine y.kept' K hzL ?_
  intro b hb o ho hc items n hd
  simp only [List.mem_cons, List.not_mem_nil, or_false] at hb
  rcases hb with rfl | rfl | rfl
  · obtain ⟨oL, es, ep, hL, hd', _⟩ := F1.ns
    rw [hL] at ho; cases ho; rw [hd'] at hd; cases hd
  · have := (N1 _ (.head _)).1; rw [this] at ho; cases ho; simp at hc
  · have := (N1 _ (.tail _ (.head _))).1; rw [this] at ho; cases ho; simp at hc
/-- a tuple that the ledger's tail holds -/
noncomputable def LT (g : Heap) (L : Nat) (rest : List (Addr × Obj)) (c : Nat) (items : Array Value) : Prop := ∀ (h2 : Heap) (m2 : Str → Option Value) (news2 : List (Addr × Obj)), Fr g L h2 m2 → News g L h2 news2 → (∀ p ∈ rest, p ∈ news2) → IsTup h2 c items
theorem LT.get {g h2 : Heap} {L c : Nat} {rest news2 : List (Addr × Obj)} {items : Array Value} {m2 : Str → Option Value} (x : LT g L rest c items) (F : Fr g L h2 m2) (N : News g L h2 news2) (hs : ∀ p ∈ rest, p ∈ news2) : IsTup h2 c items := x _ _ _ F N hs
section
variable {prog : Program} {w : World} {A : Around} {E : Value → Shared → Prop} {s : Shared} {value slice : Expr} {t : Addr} {u : Tok} {a b c : Value} {l : List Value} {Q : Value → Shared → Prop}
theorem item_t0 (ht : IsTup s.heap t (a :: l).toArray := by k_dflt (first | assumption | exact Fr.tup (by k_asm) (by assumption) | exact LT.get (by assumption) (by k_asm) (by k_asm) (by intro p hp; simp [hp]))) (h : Q a s) (hl : l.length < 1000 := by simp)
    (hs : subscripted slice false (.ref t) (.int 0 u) = operate [.ref t, .int 0 u] (getItem (.ref t) (.int 0 u)) := by with_unfolding_all rfl) (hg : ∀ r, letTemporaryGo value (.ref t) r = pure () := by (intro _; with_unfolding_all rfl)) :
    wpAny (model prog w) A (subscriptTail value slice (.ref t) (.int 0 u)) Q E s :=
  item_tuple (j := 0) (x := a) ht (by decide) (by decide) (seqIndex_of (by decide) (by simp)) (by simp) h hs hg
theorem item_t1 (ht : IsTup s.heap t (a :: b :: l).toArray := by k_dflt (first | assumption | exact Fr.tup (by k_asm) (by assumption) | exact LT.get (by assumption) (by k_asm) (by k_asm) (by intro p hp; simp [hp]))) (h : Q b s) (hl : l.length < 1000 := by simp)
    (hs : subscripted slice false (.ref t) (.int 1 u) = operate [.ref t, .int 1 u] (getItem (.ref t) (.int 1 u)) := by with_unfolding_all rfl) (hg : ∀ r, letTemporaryGo value (.ref t) r = pure () := by (intro _; with_unfolding_all rfl)) :
    wpAny (model prog w) A (subscriptTail value slice (.ref t) (.int 1 u)) Q E s :=
  item_tuple (j := 1) (x := b) ht (by decide) (by decide) (seqIndex_of (by decide) (by simp only [List.size_toArray, List.length_cons]; omega)) (by simp) h hs hg
theorem item_t2 (ht : IsTup s.heap t (a :: b :: c :: l).toArray := by k_dflt (first | assumption | exact Fr.tup (by k_asm) (by assumption) | exact LT.get (by assumption) (by k_asm) (by k_asm) (by intro p hp; simp [hp]))) (h : Q c s) (hl : l.length < 1000 := by simp)
    (hs : subscripted slice false (.ref t) (.int 2 u) = operate [.ref t, .int 2 u] (getItem (.ref t) (.int 2 u)) := by with_unfolding_all rfl) (hg : ∀ r, letTemporaryGo value (.ref t) r = pure () := by (intro _; with_unfolding_all rfl)) :
    wpAny (model prog w) A (subscriptTail value slice (.ref t) (.int 2 u)) Q E s :=
  item_tuple (j := 2) (x := c) ht (by decide) (by decide) (seqIndex_of (by decide) (by simp only [List.size_toArray, List.length_cons]; omega)) (by simp) h hs hg
end
theorem LT.mk {g h1 : Heap} {L Dv Dt c : Nat} {mods rest : List (Addr × Obj)} {items : Array Value} {m1 : Str → Option Value} {vals tods : List Value} {n1 n2 : Nat} (F1 : Fr g L h1 m1) (N1 : News g L h1 ((Dv, W.listOf vals.toArray n2) :: (Dt, W.listOf tods.toArray n1) :: mods))
    (hR3 : ∀ c o, h1.get? c = some o → g.get? c = none → c ≠ L → c ∉ [Dv, Dt] → (c, o) ∈ rest) (hc : IsTup h1 c items) (hg : g.get? c = none) : LT g L rest c items := by
  intro h2 m2 news2 F2 N2 hs
  obtain ⟨o, ho, hcl, n, hd⟩ := hc
  refine ⟨o, (N2 _ (hs _ (hR3 c o ho hg ?_ ?_))).1, hcl, n, hd⟩
  · rintro rfl
    obtain ⟨oL, es, ep, hL, hd', _⟩ := F1.ns
    rw [hL] at ho; cases ho; rw [hd'] at hd; cases hd
  · intro q
    simp only [List.mem_cons, List.not_mem_nil, or_false] at q
    rcases q with rfl | rfl
    · have := (N1 _ (.head _)).1; rw [this] at ho; cases ho; simp at hcl
    · have := (N1 _ (.tail _ (.head _))).1; rw [this] at ho; cases ho; simp at hcl
theorem not_frs {A₀ : Around} {base g : Heap} {env : Env} {outer : List Env} {L V : Nat} {nm : Str} {scope : Scope} {f : Addr} {cd : Value} (B : Below A₀ base (env :: outer) g) (hV : g.get? V = none) (hL : V ≠ L) : V ∉ frs (envOf nm scope L f cd :: env :: outer) := by
  rw [frs_cons rfl]
  simp only [List.mem_cons, not_or]
  refine ⟨hL, fun q => ?_⟩
  obtain ⟨_, o, ho, _⟩ := B.frames.mem q
  rw [hV] at ho; cases ho
theorem hset_kept {h : Heap} {V : Addr} {o o0 : Obj} (_e : h.get? V = some o0) (_hf : o.isFreed = false) : Kept h (hset h V o) [V] := fun b o' q hb => by
  rw [hset_other (by simpa using hb)]; exact q
theorem notK4 {z : SA} {o1 o2 o3 o4 : Obj} (e : z.S ≠ z.dS ∧ z.S ≠ z.T ∧ z.S ≠ z.AN ∧ z.S ≠ z.F ∧ z.S ≠ z.FN ∧ z.dS ≠ z.T ∧ z.dS ≠ z.AN ∧ z.dS ≠ z.F ∧ z.dS ≠ z.FN ∧ z.T ≠ z.AN ∧ z.T ≠ z.F ∧ z.T ≠ z.FN ∧ z.AN ≠ z.F ∧ z.AN ≠ z.FN ∧ z.F ≠ z.FN) :
    z.S ∉ List.map (fun x : Addr × Obj => x.1) [(z.T, o1), (z.AN, o2), (z.F, o3), (z.FN, o4)] ∧ z.dS ∉ List.map (fun x : Addr × Obj => x.1) [(z.T, o1), (z.AN, o2), (z.F, o3), (z.FN, o4)] := by
  obtain ⟨a1, a2, a3, a4, a5, b1, b2, b3, b4, _⟩ := e
  simp only [List.map_cons, List.map_nil, List.mem_cons, List.not_mem_nil, or_false, not_or]
  exact ⟨⟨a2, a3, a4, a5⟩, b1, b2, b3, b4⟩
theorem TmAt.mono {h h' : Heap} (k : ∀ a items, IsTup h a items → IsTup h' a items) : ∀ {t : Tm} {v : Value}, TmAt h t v → TmAt h' t v
  | .num _, _, ⟨a, t1, t2, e, h1⟩ => ⟨a, t1, t2, e, k _ _ h1⟩
  | .un _ _ _, _, ⟨a, b, t1, t2, v1, e, h1, h2, h3⟩ => ⟨a, b, t1, t2, v1, e, k _ _ h1, k _ _ h2, TmAt.mono k h3⟩
  | .bin _ _ _ _, _, ⟨a, b, t1, t2, v1, v2, e, h1, h2, h3, h4⟩ => ⟨a, b, t1, t2, v1, v2, e, k _ _ h1, k _ _ h2, TmAt.mono k h3, TmAt.mono k h4⟩
theorem off3 {I D1 Dv Dt : Nat} {a b c : Obj} {rest : List (Addr × Obj)} (h : D1 < I ∧ Dv < I ∧ Dt < I ∧ AllLt I rest) : ∀ p ∈ (D1, a) :: (Dv, b) :: (Dt, c) :: rest, p.1 ≠ I := fun p hp => by
  obtain ⟨h1, h2, h3, h4⟩ := h
  rcases List.mem_cons.mp hp with rfl | hp
  · exact Nat.ne_of_lt h1
  rcases List.mem_cons.mp hp with rfl | hp
  · exact Nat.ne_of_lt h2
  rcases List.mem_cons.mp hp with rfl | hp
  · exact Nat.ne_of_lt h3
  · exact Nat.ne_of_lt (allLt_at h4 p hp)
theorem ev_ledger {g h : Heap} {L Dv Dt : Nat} {a b : Obj} {mods : List (Addr × Obj)} {m : Str → Option Value} (F : Fr g L h m) (N : News g L h ((Dv, a) :: (Dt, b) :: mods)) : ∃ rest, News g L h ((Dv, a) :: (Dt, b) :: rest) ∧ (∀ p ∈ rest, p.1 ≠ Dv) ∧ (∀ p ∈ rest, p.1 ≠ Dt) ∧
    (∀ c o, h.get? c = some o → g.get? c = none → c ≠ L → c ∉ [Dv, Dt] → (c, o) ∈ rest) := by
  obtain ⟨rest, NR, h1, h2⟩ := rest_of F [Dv, Dt]
  refine ⟨rest, fun p hp => ?_, fun p hp q => h1 p hp (by simp [q]), fun p hp q => h1 p hp (by simp [q]), h2⟩
  rcases List.mem_cons.mp hp with rfl | hp
  · exact N _ (.head _)
  · rcases List.mem_cons.mp hp with rfl | hp
    · exact N _ (.tail _ (.head _))
    · exact NR p hp
local macro_rules | `(tactic| walk_at "truthy ref") => `(tactic| k_dflt (refine truthy_snoc (h := ?_)))
end
local macro_rules | `(tactic| walk_at "subscriptTail") => `(tactic| with_reducible refine item_t0 (h := ?_))
section
local macro_rules | `(tactic| walk_at "truthy ref") => `(tactic| k_dflt (refine truthy_snoc (h := ?_)))
end
local macro_rules | `(tactic| walk_at "subscriptTail") => `(tactic| with_reducible refine item_t1 (h := ?_))
section
local macro_rules | `(tactic| walk_at "truthy ref") => `(tactic| k_dflt (refine truthy_snoc (h := ?_)))
local macro_rules | `(tactic| walk_at "subscriptTail") => `(tactic| with_reducible refine item_t2 (h := ?_))
set_option hygiene true
local macro_rules | `(tactic| walk_at "call type:reversed") => `(tactic| (k_dflt (refine rv_reversed (h := ?_)); intro _ _ _ _ _ _ l2; (try k_lt l2)))
set_option hygiene false
end
local macro_rules | `(tactic| walk_at "pyIter ref") => `(tactic| refine stop_call ?_)
section
local macro_rules | `(tactic| walk_at "truthy ref") => `(tactic| k_dflt (refine truthy_snoc (h := ?_)))
local macro_rules | `(tactic| walk_at "subscriptTail") => `(tactic| with_reducible refine item_t2 (h := ?_))
set_option hygiene true
local macro_rules | `(tactic| walk_at "call type:reversed") => `(tactic| (k_dflt (refine rv_reversed (h := ?_)); intro _ _ _ _ _ _ l2; (try k_lt l2)))
set_option hygiene false
section
variable {w : World} {mean : ExcName → Option Value} {mg mb : Str → Option Value} {A : Around} {env : Env} {outer : List Env} {A₀ : Around} {base h₀ : Heap} {L : Addr} {m : Str → Option Value} {s : Shared} {Q E : Value → Shared → Prop}
  (B : Below A₀ base outer h₀) (F : Fr h₀ L s.heap m) (X : (hd.heap_1 w.params).In h₀) (T : Top hdV (looseW hdV []) mean mg mb h₀)
  (hA : A.frames = some (env :: outer)) (hf : env.frame = some L) (hke : env.scope.kind = .function) (hh : A.handled = none)
include B F X T hA hf hke hh
theorem eval_spec (hdp : A.depth + 19 < recursionLimit) (hun : A.units + 230 < cLine) {z : SA} {tx : List Str} {fs : List (Int × Int)} {t0 : Tm} {mb : Int} {tv : Value} {t1 : Tok} (Y : SymH w s.heap z tx fs) (hz : Fresh h₀ L z) (hlt : tx.length < 80000) (hlf : fs.length < 80000) (hzf : ∀ a ∈ z.all, a ∉ frs (env :: outer)) (hm : mb ≤ 65) (ht : TmAt s.heap t0 tv) (hw : WfT tx fs t0) (hsz : t0.sz < 900) 
    (hret : ∀ vr tk h' tk', evT mb t0 = .ok vr → Kept s.heap h' [] → Q (.int vr tk) { s with heap := h', toks := tk' })
    (hexc : ∀ er e h' tk', evT mb t0 = .error er → Flown w s.heap h' z.mods (env :: outer) e (er.ball tx fs) z (er.T tx) (er.F tx fs) → E (.ref e) { s with heap := h', toks := tk' }) :
    wpAny (model PySem.Challenge.rw_rh0079_01.row.prog w) A (PySem.call (.ref 342) [.ref z.S, tv, .int mb t1]) Q E s := by
  revert X; k_fill; intro X
  refine wpAny_call ?_
  obtain ⟨hd0, dp, fr, gd, un⟩ := A
  dsimp only at hA hh hdp hun
  subst hA hh
  obtain ⟨o1, o2, o3, o4, N⟩ := Y.four hz
  k_dflt (refine' enter_fn (rb := [(Str.ofString "max_bits", .int mb t1), (Str.ofString "term", tv), (Str.ofString "symbols", .ref z.S)]) B F X N T ?kA hf hke ?k6 ?k7 ?k8 ?k9 ?kB ?kR ?_ ?c2 ?c3 ?c4 ?c5; (case kA => exact rfl); (case k6 => k_is); (case k7 => k_is); (case k8 => exact room0 hdp); (case k9 => exact BindsTo.of_eq rfl); (case kR => exact rfl); (case c5 => decide); (case kB => exact locs rfl); (case c2 => exact rfl); (case c3 => exact rfl); (case c4 => exact rfl); k_whole; intro g' L' h' F' N' B' X' T' K' S' Z' tkE; (try dsimp only); (try k_fold); refine let_AE ?_; intro A1 en)
  have hz' := fresh_of N'
  have N0 := fun p hp => (N p hp).1
  clear N
  k_steps
  unfold Stop
  (rename Fr g' L' _ _ => kF); (rename News g' L' _ _ => kN)
  rename_i Dt ha q1 hb tk0 _ Dv hc q2 hd _
  have hzL : ∀ b ∈ [L', Dv, Dt], b ∉ z.all := by
    have gD1 := (kN _ (.head _)).2.2
    have gD2 := (kN _ (.tail _ (.head _))).2.2
    intro b hb q
    simp only [List.mem_cons, List.not_mem_nil, or_false] at hb
    rcases hb with rfl | rfl | rfl
    · obtain ⟨o, ho⟩ := Y.here _ q
      exact absurd (Nat.lt_of_lt_of_le (Heap.lt_size ho) Z') (Nat.lt_irrefl _)
    · simp only [SA.all, List.mem_cons, List.not_mem_nil, or_false] at q
      rcases q with e | e | e | e | e | e
      · rw [e] at gD1; have := K' _ _ Y.oS (notK4 Y.ne).1; rw [gD1] at this; cases this
      · rw [e] at gD1; have := K' _ _ Y.odS (notK4 Y.ne).2; rw [gD1] at this; cases this
      · exact Nat.ne_of_lt q2.2.1 e.symm
      · exact Nat.ne_of_lt q2.2.2.1 e.symm
      · exact Nat.ne_of_lt q2.2.2.2.1 e.symm
      · exact Nat.ne_of_lt q2.2.2.2.2 e.symm
    · simp only [SA.all, List.mem_cons, List.not_mem_nil, or_false] at q
      rcases q with e | e | e | e | e | e
      · rw [e] at gD2; have := K' _ _ Y.oS (notK4 Y.ne).1; rw [gD2] at this; cases this
      · rw [e] at gD2; have := K' _ _ Y.odS (notK4 Y.ne).2; rw [gD2] at this; cases this
      · exact Nat.ne_of_lt q1.1 e.symm
      · exact Nat.ne_of_lt q1.2.1 e.symm
      · exact Nat.ne_of_lt q1.2.2.1 e.symm
      · exact Nat.ne_of_lt q1.2.2.2 e.symm
  have hmods : ∀ p ∈ [(z.T, o1), (z.AN, o2), (z.F, o3), (z.FN, o4)], p.1 ∉ [L', Dv, Dt] := by
    intro p hp
    simp only [List.mem_cons, List.not_mem_nil, or_false, not_or]
    simp only [List.mem_cons, List.not_mem_nil, or_false] at hp
    rcases hp with rfl | rfl | rfl | rfl
    · exact ⟨(hz' _ (.head _)).2, Nat.ne_of_lt q2.2.1, Nat.ne_of_lt q1.1⟩
    · exact ⟨(hz' _ (.tail _ (.head _))).2, Nat.ne_of_lt q2.2.2.1, Nat.ne_of_lt q1.2.1⟩
    · exact ⟨(hz' _ (.tail _ (.tail _ (.head _)))).2, Nat.ne_of_lt q2.2.2.2.1, Nat.ne_of_lt q1.2.2.1⟩
    · exact ⟨(hz' _ (.tail _ (.tail _ (.tail _ (.head _))))).2, Nat.ne_of_lt q2.2.2.2.2, Nat.ne_of_lt q1.2.2.2⟩
  refine While_m (EvJ w g' z tx fs mb t0 (.ref z.S) (.int mb t1) Dv Dt [(z.T, o1), (z.AN, o2), (z.F, o3), (z.FN, o4)]) (n₀ := t0.sz) kF kN ?_ ?_
  · refine ⟨⟨rfl, rfl, rfl, rfl⟩, ⟨[tv], [], 0, 0, [.tm t0], [], rfl, .snoc (be := []) ?_ .nil, .nil, ?_, ?_, ?_, rfl, ?_, ?_⟩, ?_⟩
    · exact ht.mono fun a items ⟨o, ho, hc, r⟩ => ⟨o, K' _ _ ho (fun q => Y.notTup a (mods_all q) o ho hc), hc, r⟩
    · simp [WfI, hw]
    · simp
    · simp [fits]
    · simp [costs, It.cost]
    · simp [costs, It.cost]
    · exact Y.kept0 (whole K' kF (fun p hp => kN p (.tail _ (.tail _ hp))) N0)
  rintro n m₁ news₁ h₁ tk₁ F₁ N₁ ⟨⟨a1, a2, a3, a4⟩, ⟨tods, vals, n1, n2, its, vs, rfl, sT, sI, wI, wV, fit, hrun, rfl, hsz2⟩, y⟩
  obtain ⟨rest, N1, hR1, hR2, hR3⟩ := ev_ledger F₁ N₁
  have Dne : Dt ≠ Dv := Nat.ne_of_lt q2.1
  have vlen := sI.len
  have fin : EvFin w g' L' z tx fs mb t0 (.ref z.S) (.int mb t1) Dv Dt _ rest h₁ := ev_fin F₁ N₁ hR3 y hzL hmods
  have lt := fun {c items} => LT.mk (c := c) (items := items) F₁ N₁ hR3
  have sym := ev_sym F₁ N₁ hR3 y hzL
  rw [norm4 a1 a2 a3 a4] at F₁
  clear kF kN
  cases sT with
  | nil =>
    clear N1
    have : vs.length = 1 := fit
    match vs, this with
    | [v], _ =>
    obtain ⟨tv1, rfl⟩ := sI.one
    k_steps
    (rename News h₀ L _ _ => kN); (rename Kept s.heap _ _ => kK); have kK := kept_all kK (by exact fun p hp => kN p (.tail _ (.tail _ hp))) N0
    exact hret v _ _ _ (run_one hrun) kK
  | snoc i1 sT =>
    rename_i be v r it
    clear N₁
    have blen : be.length < 1000 := by
      have := sT.len
      have := len_costs r
      simp only [costs] at hsz2
      omega
    have vlen2 : vals.length < 1000 := by omega
    cases it with
    | tm t =>
      have i2 := st_pack i1 (wI _ (.head _))
      cases i2 with
      | num nv _ q =>
        subst q
        obtain ⟨c, u1, u2, rfl, hc⟩ := i1
        k_steps
        (rename Fr g' L' _ _ => kF); (rename News g' L' _ _ => kN)
        rw [listOf_push] at kN
        refine (fun ff => ?_) (fin _ _ _ _ _ _ _ r (nv :: vs) kF kN (fun p hp => .tail _ (.tail _ hp)) (.head _) (.tail _ (.head _)) ⟨rfl, rfl, rfl, rfl⟩ (fun k => sT.mono fun a items h _ => k a items h) (.snoc sI) (fun i hi => wI i (.tail _ hi)) ?_ fit ?_ ?_)
        · exact WStep.intro kF ff.2 (by simp only [costs, It.cost, Tm.sz]; omega) ff.1
        · intro v hv
          rcases List.mem_cons.mp hv with rfl | hv
          · exact wI _ (.head _)
          · exact wV _ hv
        · exact hrun
        · simp only [costs, It.cost, Tm.sz, List.length_cons] at hsz2 ⊢; omega
      | st c b u1 u2 i x ar args hc hb hal wf hev hargs =>
        k_steps
        unfold Stop
        (rename Fr g' L' _ _ => kF); (rename News g' L' _ _ => kN)
        have Y1 := sym _ _ _ kF kN (fun p hp => .tail _ (.tail _ hp))
        k_dflt (refine check_spec B' kF X' T' rfl rfl rfl rfl (roomD hdp (by decide)) (roomU hun (by decide)) Y1 wf hev ?_)
        intro h2 tk2 K1
        have F1 := kept_fr kF K1 (by simp)
        have N1 := kept_news kN K1 (by simp)
        clear kN kF
        k_steps
        unfold Stop
        (rename Fr g' L' _ _ => kF); (rename News g' L' _ _ => kN)
        rw [listOf_push] at kN
        refine iter_rvTup rfl kF kN (off3 (by assumption)) hb hal ?_
        cases hargs with
        | un t v1 hv1 wt =>
          show RvRest _ _ _ _ _ _ _ _ _ _ _ [v1] _ _
          clear kF kN
          intro it h3 tk3 hcl F3 N3
          k_steps
          (rename Fr g' L' _ _ => kF); (rename News g' L' _ _ => kN)
          rw [listOf_push] at kN
          refine ⟨_, _, _, _, rfl, kF, kN, off3 (by assumption), ?_⟩
          clear kF kN
          intro h4 tk4 F4 N4
          k_steps
          (rename Fr g' L' _ _ => kF); (rename News g' L' _ _ => kN)
          refine (fun ff => ?_) (fin _ _ _ _ _ _ _ (.tm t :: .ap false i x :: r) vs kF kN (fun p hp => .tail _ (.tail _ (.tail _ hp))) (.tail _ (.head _)) (.tail _ (.tail _ (.head _))) ⟨rfl, rfl, rfl, rfl⟩ (fun k => .snoc hv1 (.snoc ⟨_, _, _, rfl, ⟨_, (kN _ (.head _)).1, rfl, 0, rfl⟩, (kN _ (.head _)).2.2⟩ (sT.mono fun a items h _ => k a items h))) sI ?_ wV ?_ ?_ ?_)
          · exact WStep.intro kF ff.2 (by simp only [costs, It.cost, Tm.sz]; omega) ff.1
          · intro j hj
            rcases List.mem_cons.mp hj with rfl | hj
            · exact wt
            rcases List.mem_cons.mp hj with rfl | hj
            · exact wf
            · exact wI _ (.tail _ hj)
          · exact ⟨by omega, fit⟩
          · rw [← hrun, run_un]
          · simp only [costs, It.cost, Tm.sz, List.length_cons] at hsz2 ⊢; omega
        | bin p q v1 v2 hv1 hv2 wt wt2 =>
          show RvRest _ _ _ _ _ _ _ _ _ _ _ [v2, v1] _ _
          clear kF kN
          intro it h3 tk3 hcl F3 N3
          k_steps
          (rename Fr g' L' _ _ => kF); (rename News g' L' _ _ => kN)
          rw [listOf_push] at kN
          refine ⟨_, _, _, _, rfl, kF, kN, off3 (by assumption), ?_⟩
          clear kF kN
          intro it5 h5 tk5 hcl5 F5 N5
          k_steps
          (rename Fr g' L' _ _ => kF); (rename News g' L' _ _ => kN)
          rw [listOf_push] at kN
          refine ⟨_, _, _, _, rfl, kF, kN, off3 (by assumption), ?_⟩
          clear kF kN
          intro h4 tk4 F4 N4
          k_steps
          (rename Fr g' L' _ _ => kF); (rename News g' L' _ _ => kN)
          refine (fun ff => ?_) (fin _ _ _ _ _ _ _ (.tm p :: .tm q :: .ap true i x :: r) vs kF kN (fun p hp => .tail _ (.tail _ (.tail _ hp))) (.tail _ (.head _)) (.tail _ (.tail _ (.head _))) ⟨rfl, rfl, rfl, rfl⟩ (fun k => .snoc hv1 (.snoc hv2 (.snoc ⟨_, _, _, rfl, ⟨_, (kN _ (.head _)).1, rfl, 0, rfl⟩, (kN _ (.head _)).2.2⟩ (sT.mono fun a items h _ => k a items h)))) sI ?_ wV ?_ ?_ ?_)
          · exact WStep.intro kF ff.2 (by simp only [costs, It.cost, Tm.sz]; omega) ff.1
          · intro j hj
            rcases List.mem_cons.mp hj with rfl | hj
            · exact wt
            rcases List.mem_cons.mp hj with rfl | hj
            · exact wt2
            rcases List.mem_cons.mp hj with rfl | hj
            · exact wf
            · exact wI _ (.tail _ hj)
          · exact ⟨by omega, fit⟩
          · rw [← hrun, run_bin]
          · simp only [costs, It.cost, Tm.sz, List.length_cons] at hsz2 ⊢; omega
    | ap b i x =>
      obtain ⟨c, u1, u2, rfl, hc, hg⟩ := i1
      have wf := wI _ (.head _)
      have cT : LT g' L' rest c #[.str (Str.ofString "apply") u1, .int i u2] := lt hc hg
      clear hc
      obtain ⟨vb, vr, args, C, sB, wVr, hvl, fit2, ho1, ho2⟩ := ap_pack (w := w) sI fit wV hm vlen2 hrun
      k_steps
      unfold Stop
      (rename Fr g' L' _ _ => kF); (rename News g' L' _ _ => kN)
      have Y1 := sym _ _ _ kF kN (fun p hp => .tail _ (.tail _ hp))
      have hV := kN _ (.head _)
      k_dflt (refine C _ _ _ _ _ _ _ _ _ _ _ _ _ _ _ _ _ _ _ _ _ B' kF X' T' rfl rfl rfl rfl (roomD hdp (by decide)) (roomU hun (by decide)) Y1 hz' hlt hlf (zfrs Z' Y.here hzf) wf hV.1 ⟨hV.2.2, hV.2.1⟩ (hzL _ (.tail _ (.head _))) (not_frs B' hV.2.2 hV.2.1) ?_ ?_)
      · intro q tq h2 tk2 n' e1 K1 hV2
        have F1 := kept_fr kF K1 (by simpa using ⟨hV.2.2, hV.2.1⟩)
        have N1 := news_cons hV2 hV.2.1 hV.2.2 (kept_news (fun p hp => kN p (.tail _ hp)) K1 (by simpa using ⟨Dne, fun a b hp => hR1 (a, b) hp⟩))
        clear kN kF
        k_steps
        (rename Fr g' L' _ _ => kF); (rename News g' L' _ _ => kN)
        refine (fun ff => ?_) (fin _ _ _ _ _ _ _ r (q :: vr) kF kN (fun p hp => .tail _ (.tail _ hp)) (.head _) (.tail _ (.head _)) ⟨rfl, rfl, rfl, rfl⟩ (fun k => sT.mono fun a items h _ => k a items h) (.snoc sB) (fun i hi => wI i (.tail _ hi)) ?_ fit2 ?_ ?_)
        · exact WStep.intro kF ff.2 (by simp only [costs, It.cost, Tm.sz]; omega) ff.1
        · intro v hv
          rcases List.mem_cons.mp hv with rfl | hv
          · exact opP_ok e1 hm
          · exact wVr _ hv
        · exact ho1 q e1
        · simp only [costs, It.cost, Tm.sz, List.length_cons] at hsz2 ⊢; omega
      · intro er e h2 tk2 n' e1 fl
        have FX := kept_fr kF (hset_kept (o := W.listOf vb.toArray n') hV.1 rfl) (by simpa using ⟨hV.2.2, hV.2.1⟩)
        have YX := Y1.kept (hset_kept (o := W.listOf vb.toArray n') hV.1 rfl) (by simpa using hzL _ (.tail _ (.head _))) (by simp; intro o ho; rw [hV.1] at ho; cases ho; simp)
        have WX : Kept s.heap _ z.mods := fun b o q hb => FX.keep b o (K' b o q hb)
        refine fly_on B' FX rfl rfl Z' WX (fun b o q => ?_) (fun b hb => .inl hb) (fun b hb => zfrs Z' Y.here hzf b (mods_all hb)) fl hzf Y.here fun h3 fl => hexc er e h3 _ (ho2 er e1) fl
        by_cases hb : b ∈ z.mods
        · exact YX.ex b hb
        · exact ⟨o, WX b o q hb⟩
end
end
section
theorem walk_off_E8 : True := by
  w_top off
  trivial
open PySem PySem.W PyProof.Rows PySem.Calls PySem.Spec
section
variable {prog : Program} {w : World} {A₀ A : Around} {s : Shared} {base h₀ : Heap} {outer : List Env} {L : Addr} {m mg mb : Str → Option Value} {env : Env} {news : List (Addr × Obj)} {K : Frag} {p : Program} {loose : List Str} {mean : ExcName → Option Value}
  {R : Result → Shared → Prop} {name qual : Str} {params : Arguments} {body : List Stmt} {scope : Scope} {dV kV doc pm cdv ct oc : Value} {an od : Option Addr} {osl : Array (Option Value)} {f : Addr} {args : Args} {binds rb : List (Str × Value)}
/-- as enter_fn, but the answer is handed out raw (no LeaveK): for bodies that catch -/
theorem enter_raw (B : Below A₀ base outer h₀) (F : Fr h₀ L s.heap m) (X₀ : K.In h₀) (N : News h₀ L s.heap news) (T : Top p loose mean mg mb h₀)
    (hA : A.frames = some (env :: outer)) (hf : env.frame = some L) (hke : env.scope.kind = .function)
    (ho : K.lookup f = some ⟨oc, od, .func (fnOf name qual params body scope dV kV doc pm an cdv ct), osl⟩) (hcd : codeIn K cdv qual = true) (hroom : A.depth < recursionLimit)
    (hbind : BindsTo s (fnOf name qual params body scope dV kV doc pm an cdv ct) args binds) (hloc : ∀ y ∈ binds, scope.names.lookup y.1 = some .local)
    (hrb : binds.reverse = rb)
    (h : ∀ g L' h₁, Fr g L' h₁ (lk rb) → News g L' h₁ news → Below A base (env :: outer) g → K.In g → Top p loose mean mg mb g → Kept s.heap g (news.map (·.1)) → h₀.StaysIn g → s.heap.objs.size ≤ L' → ∀ tkE,
      wpAny (model prog w) (A.deeper (envOf qual scope L' f cdv)) (execs body (envOf qual scope L' f cdv))
        (fun fl s' => R (.ok (.ret (match fl with | .ret v => v | _ => .none))) s')
        (fun e s' => wpAny (model prog w) (A.deeper (envOf qual scope L' f cdv)) (leaving (envOf qual scope L' f cdv) e) (fun _ s'' => R (.error e) s'') (fun e' s'' => R (.error e') s'') s')
        { s with heap := h₁, toks := tkE })
    (hco : scope.isCoroutine = false) (hgen : scope.isGenerator = false) (hk : scope.kind = .function)
    (hcell : ∀ x ∈ scope.names, x.2 ≠ .cell) : codeAny (model prog w) A (.call (.ref f) args) R s := by
  subst hrb
  obtain ⟨_, BG, st, _⟩ := groundX (R := fun r s' => Kept s.heap s'.heap (news.map (·.1)) → R r s') B F N hA hf hke
  have kg : Kept s.heap (hideAll s.heap (news.map (·.1))) (news.map (·.1)) := fun b o e hn => hideAll_get _ e hn
  refine codeAny_call_def (fd := fnOf name qual params body scope dV kV doc pm an cdv ct) (body := body) (binds := binds) hroom ((X₀.keeps F.keep) _ _ ho) rfl ((T.nolimit).keeps F.keep) (codeRec_of (X₀.keeps F.keep) hcd) rfl hbind hcell hloc (fun h₁ hns hk₁ => ?_) hco hgen hk
  exact h _ s.heap.objs.size h₁ ⟨hns, fun b o e => hk₁ b o (of_hideAll _ e), Nat.le_of_eq (hideAll_size _ _)⟩
    (fun p hp => ⟨hk₁ _ _ (N p hp).1, Nat.ne_of_lt (Heap.lt_size (N p hp).1), hideAll_none _ (List.mem_map_of_mem hp)⟩) BG (X₀.keeps st) (T.keeps st) kg st (Nat.le_refl _) _
end
section
variable {M : Model} {A : Around} {E : Value → Shared → Prop} {s : Shared}
theorem catch_low {base : Heap} {env : Env} {outer : List Env} {L e d : Addr} {tb : Option Addr} {Q : Unit → Shared → Prop}
    (hfr : A.frames = some (env :: outer)) (hl : s.heap.FunFrames base (env :: outer)) (hf : env.frame = some L) (hx : ExcAt s.heap e d tb)
    (h : ∀ h' T, s.heap.get? T = none → ExcAt h' e d (some T) → Lv (env :: outer) e tb s.heap h' → Q () { s with heap := h' }) : wpAny M A (noteFrame (.ref e) env) (fun _ s' => wpAny M A (setFlight (.ref e) none) Q E s') E s := by
  obtain ⟨vs, sl, he, hv⟩ := hx
  unfold noteFrame
  simp only [hf]
  cases tb with
  | none =>
    refine wpAny_bind (wpAny_field he rfl hv ?_)
    rw [if_neg (by decide)]
    exact entry_low hfr hl hf he (Array.getElem?_eq_some_iff.mp hv).1 h
  | some T =>
    obtain ⟨hv1, hTe, oT, ts, hT, hdT, h3⟩ := hv
    refine wpAny_bind (wpAny_field he rfl hv1 ?_)
    rw [if_pos (show (Value.ref T != Value.none) = true from by simp)]
    refine wpAny_bind (wpAny_field hT hdT h3 ?_)
    rw [if_neg (show ¬ ((Value.none == rawInt L) = true) from by simp [rawInt])]
    refine wpAny_bind (wpAny_setField hT hdT (Array.getElem?_eq_some_iff.mp h3).1 ?_)
    have other : ∀ b, b ≠ T → (s.heap.update T (Obj.mapFields (·.setIfInBounds 3 Value.none))).get? b = s.heap.get? b := fun b hb => Heap.get?_update_other _ _ (Ne.symm hb)
    have noRecord : ∀ b o, s.heap.get? b = some o → (∀ vs, o.data ≠ .fields vs) → b ≠ T := fun b o hb hnf q => by
      rw [q, hT] at hb; cases hb; exact hnf ts hdT
    refine entry_low hfr (hl.of_keeps fun b o hb hnf => ⟨o, (other b (noRecord b o hb hnf)).trans hb, rfl⟩) hf ((other e (Ne.symm hTe)).trans he) (Array.getElem?_eq_some_iff.mp hv1).1 fun h' T' hT' hx' hlv => ?_
    refine h h' T' ?_ hx' ⟨fun b o hb hbe hbT hbf => hlv.kept b o ((other b (hbT T rfl)).trans hb) hbe (by simp) hbf, fun b o hb hbe hbT => hlv.slots b o ((other b (hbT T rfl)).trans hb) hbe (by simp)⟩
    cases q : s.heap.get? T' with
    | none => rfl
    | some o =>
      by_cases qT : T' = T
      · subst qT
        have := Heap.get?_update_self (Obj.mapFields (·.setIfInBounds 3 Value.none)) hT (Obj.isFreed_of_fields (Obj.data_mapFields hdT _))
        dsimp only at hT'
        rw [this] at hT'; cases hT'
      · dsimp only at hT'; rw [other T' qT, q] at hT'; cases hT'
end
end
section
theorem walk_off_E9 : True := by
  w_top off
  trivial
open PySem PySem.W PyProof.Rows PySem.Calls PySem.Spec
theorem flown_frames {w : World} {base hX h' : Heap} {l : List Env} {e : Addr} {D : PyData} {ms : List Addr} {z : SA} {tx : List Str} {fs : List (Int × Int)} (hl : hX.FunFrames base l) (hmf : ∀ b ∈ ms, b ∉ frs l) (fl : Flown w hX h' ms l e D z tx fs) : h'.FunFrames base l := by
  have : ∀ {l' : List Env}, (∀ x ∈ l', x ∈ l) → hX.FunFrames base l' → h'.FunFrames base l' := by
    intro l'
    induction l' with
    | nil => intro _ _; trivial
    | cons x r ih =>
      intro hx' ⟨a1, ⟨L1, o1, f1, f2, f3, f4⟩, a3⟩
      have hL1 : L1 ∈ frs l := List.mem_filterMap.mpr ⟨x, hx' x (.head _), f1⟩
      obtain ⟨sl1, q⟩ := fl.slots L1 o1 f3 (fun r => hmf L1 r hL1)
      exact ⟨a1, ⟨L1, _, f1, f2, q, f4⟩, ih (fun y hy => hx' y (.tail _ hy)) a3⟩
  exact this (fun _ h => h) hl
theorem ns_slots {h h' : Heap} {a : Addr} {m : Str → Option Value} (hn : h.Ns a m) (k : ∀ o, h.get? a = some o → ∃ sl, h'.get? a = some { o with slots := sl }) : h'.Ns a m := by
  obtain ⟨o, es, ep, ho, hd, r⟩ := hn
  obtain ⟨sl, e⟩ := k o ho
  exact ⟨_, es, ep, e, hd, r⟩
/-- the frame of a body that catches: over the ground without the caller's frame -/
theorem catch_fr {w : World} {g g2 hX h1 h2 : Heap} {L L' e d T1 : Addr} {m : Str → Option Value} {z : SA} {env : Env} {nm : Str} {scope : Scope} {f : Addr} {cd : Value} {D : PyData} {tx : List Str} {fs : List (Int × Int)} (F : Fr g L' hX m) (hz : Fresh g L' z) (hf : env.frame = some L)
    (fl : Flown w hX h1 z.mods [envOf nm scope L' f cd, env] e D z tx fs) (hx : ExcAt h1 e d (some T1)) (lv : Lv [envOf nm scope L' f cd, env] e (some T1) h1 h2) (hdn : hX.get? d = none) (hTX : hX.get? T1 = none)
    (sg : ∀ b o, g2.get? b = some o → g.get? b = some o ∧ b ≠ L) (hs : g2.objs.size = g.objs.size) : Fr g2 L' h2 m := by
  have hLX : ∃ o, hX.get? L' = some o := by obtain ⟨oL, es, ep, q, _⟩ := F.ns; exact ⟨oL, q⟩
  obtain ⟨oL, hLo⟩ := hLX
  have e1 : L' ≠ e := fun q => by rw [q, fl.enew] at hLo; cases hLo
  have e2 : L' ≠ T1 := fun q => by rw [q, hTX] at hLo; cases hLo
  have hm : L' ∉ z.mods := fun q => (hz _ q).2 rfl
  refine ⟨ns_slots (h := h1) (ns_slots F.ns fun o ho => fl.slots L' o ho hm) fun o ho => lv.slots L' o ho e1 (fun T q => by cases q; exact e2), fun b o q => ?_, hs ▸ F.above⟩
  obtain ⟨q1, q2⟩ := sg b o q
  have q3 := F.keep b o q1
  have n1 : b ∉ z.mods := fun r => by rw [(hz _ r).1] at q1; cases q1
  have n2 : b ∉ frs [envOf nm scope L' f cd, env] := by
    rw [frs_cons rfl, frs_cons hf]
    simp only [List.mem_cons, not_or]
    exact ⟨fun r => absurd (Nat.lt_of_lt_of_le (Heap.lt_size (r ▸ q1)) F.above) (Nat.lt_irrefl _), q2, by simp [frs]⟩
  refine lv.kept b o (fl.kept b o q3 n1 n2) (fun r => ?_) (fun T r1 r => ?_) n2
  · rw [r, fl.enew] at q3; cases q3
  · cases r1; rw [r, hTX] at q3; cases q3
/-- setFlight to none once more: only the traceback's head is written -/
theorem set_again {M : Model} {A : Around} {E : Value → Shared → Prop} {s : Shared} {e d T : Addr} {Q : Unit → Shared → Prop} (hx : ExcAt s.heap e d (some T)) (h : ∀ h', ExcAt h' e d (some T) → (∀ b o, s.heap.get? b = some o → b ≠ T → h'.get? b = some o) → Q () { s with heap := h' }) : wpAny M A (setFlight (.ref e) none) Q E s := by
  obtain ⟨vs, sl, he, hv, hTe, oT, ts, hT, hdT, h3⟩ := hx
  unfold setFlight
  refine wpAny_bind (wpAny_field he rfl hv ?_)
  rw [if_pos (show (Value.ref T != Value.none) = true from by simp)]
  have h3s := (Array.getElem?_eq_some_iff.mp h3).1
  refine wpAny_setField hT hdT h3s ?_
  have oth : ∀ b o, s.heap.get? b = some o → b ≠ T → (s.heap.update T (Obj.mapFields (·.setIfInBounds 3 ((none : Option Addr).elim Value.none fun f => rawInt f)))).get? b = some o := fun b o q hb => by rw [Heap.get?_update_other _ _ (Ne.symm hb)]; exact q
  refine h _ ⟨vs, sl, oth _ _ he (Ne.symm hTe), hv, hTe, _, _, Heap.get?_update_self _ hT (Obj.isFreed_of_fields (Obj.data_mapFields hdT _)), Obj.data_mapFields hdT _, ?_⟩ oth
  simp [h3s]
theorem k_prolog (P : Params) : nsIn (hd.heap_1 P) mainGlobals (Str.ofString "PrologError") = some (some (.ref 51)) := by kernel_rfl
end
section
theorem walk_off_E10 : True := by
  w_top off
  trivial
open PySem PySem.W PyProof.Rows PySem.Calls PySem.Builtin PySem.Builtin.ObjectAttr
theorem k51_ga (P : Params) : findIn (hd.heap_1 P) (.ref 51) "__getattribute__" = some (some (.builtin "BaseException.__getattribute__")) := by kernel_rfl
theorem slot_ga : Slot "Exception" "__getattribute__" "BaseException.__getattribute__" :=
  .of (owner := "BaseException") (n := "__getattribute__") (by rw [typeLookup_type, builtinLookup_eq_fast]; kernel_rfl) (by decide +kernel) (by decide +kernel) (by decide +kernel)
    (by first | exact .inl (by decide +kernel) | exact .inr (by decide +kernel)) (by rw [isSubtype_type]; kernel_rfl)
theorem k51_bexc (P : Params) : mroIn (hd.heap_1 P) 51 (.type "BaseException") = some true := by kernel_rfl
theorem k51_gattr (P : Params) : findIn (hd.heap_1 P) (.ref 51) "__getattr__" = some none := by kernel_rfl
theorem k51_ballF (P : Params) : findIn (hd.heap_1 P) (.ref 51) "ball" = some none := by kernel_rfl
section
variable {w : World} {A : Around} {E : Value → Shared → Prop} {h : Heap} {g : Array GenState} {d : Drawn} {t : Nat} {os : OsState}
theorem get_ball {e dx : Addr} {fv : Array Value} {sl : Array (Option Value)} {tk : Tok} {b : Addr} {Q : Value → Shared → Prop} (X : (hd.heap_1 w.params).In h) (he : h.get? e = some ⟨.ref 51, some dx, .fields fv, sl⟩) (hdx : h.get? dx = some (ballDict w tk (.ref b)))
    (hQ : ∀ t', Q (.ref b) ⟨h, g, d, t', os⟩) : wpAny (model PySem.Challenge.rw_rh0079_01.row.prog w) A (getAttr (.ref e) (Str.ofString "ball") true) Q E ⟨h, g, d, t, os⟩ := by
  have L1 : Looks (model PySem.Challenge.rw_rh0079_01.row.prog w) h _ _ := looks_findIn X (k51_ga w.params)
  have L2 : Looks (model PySem.Challenge.rw_rh0079_01.row.prog w) h _ _ := looks_findIn X (k51_gattr w.params)
  have L3 : Looks (model PySem.Challenge.rw_rh0079_01.row.prog w) h _ _ := looks_findIn X (k51_ballF w.params)
  obtain ⟨nm51, q51, bs51, sn51, sub51, ab51, col51, k0, k1, k2, k3, k5, e51⟩ := k51 w.params
  have hC := X _ _ e51
  have f3 := slot_ga.bind (.ref e)
  have hx0 : (true && onTheHeap (Value.builtin "BaseException.__getattribute__")) = false := rfl
  have hx2 : (Value.builtin "BaseException.__getattribute__" == Value.builtin "object.__getattribute__") = false := by decide +kernel
  have hx1 : (onTheHeap (Value.ref 51) && Value.builtin "BaseException.__getattribute__" == Value.builtin "object.__getattribute__") = false := by rw [hx2]; rfl
  unfold getAttr
  repeat (any_goals (first | exact hQ _ | assumption | (with_reducible refine wpAny_loadPart_at he ?_) | (with_reducible refine L1.here (s := ⟨h, g, d, _, os⟩) ?_) | (with_reducible refine L2.here (s := ⟨h, g, d, _, os⟩) ?_) | (with_reducible refine L3.here (s := ⟨h, g, d, _, os⟩) ?_) | wp_step))
  have I : InstAt h e ⟨.ref 51, some dx, .fields fv, sl⟩ 51 (some (ballDict w tk (.ref b))) := ⟨he, rfl, rfl, hdx⟩
  have sub : Looks (model PySem.Challenge.rw_rh0079_01.row.prog w) h (isInstance (.ref e) (.type "BaseException")) true := I.type.andThen (looks_mroIn X (k51_bexc w.params))
  refine codeAny_call_builtin slot_ga.plain F.entry_bexc_ga (@check_slot (model PySem.Challenge.rw_rh0079_01.row.prog w) _ _ _ "BaseException.__getattribute__" "BaseException" "__getattribute__" (.ref e) [.str (Str.ofString "ball") t] [] _ (by decide +kernel) (by decide +kernel) sub (F.args_bexc_ga _ _) ?_)
  unfold Builtin.«object.__getattribute__»
  repeat (any_goals (first | exact hQ _ | assumption | (with_reducible refine wpAny_loadPart_at he ?_) | (with_reducible refine wpAny_loadPart_at hdx ?_) | (with_reducible refine wpAny_load hC ?_) | (with_reducible refine wpAny_loadPart_at hC ?_) | (with_reducible refine L3.here (s := ⟨h, g, d, _, os⟩) ?_) | wp_step))

end
end
section
theorem walk_off_E11 : True := by
  w_top off
  trivial
open PySem PySem.W PyProof.Rows PySem.Calls PySem.Spec
/-- what stands when an error has been caught: seen from the heap of the call -/
structure Caught (w : World) (hX h3 : Heap) (l : List Env) (e d : Addr) (D : PyData) (z : SA) (tx : List Str) (fs : List (Int × Int)) : Prop where
  exc : ∃ fv sl, h3.get? e = some ⟨.ref 51, some d, .fields fv, sl⟩
  ball : ∃ tk v, h3.get? d = some (ballDict w tk v) ∧ Reads h3 v D []
  sym : SymH w h3 z tx fs
  kept : ∀ b o, hX.get? b = some o → b ∉ z.mods → b ∉ frs l → h3.get? b = some o
  slots : ∀ b o, hX.get? b = some o → b ∉ z.mods → ∃ sl, h3.get? b = some { o with slots := sl }
  enew : hX.get? e = none
  dnew : hX.get? d = none
theorem caught_of {w : World} {base hX h1 h2 h3 : Heap} {l : List Env} {e d T1 T2 : Addr} {D : PyData} {tk : Tok} {v : Value} {z : SA} {tx : List Str} {fs : List (Int × Int)} (hl : hX.FunFrames base l) (fl : Flown w hX h1 z.mods l e D z tx fs) (hx : ExcAt h1 e d (some T1)) (hx2 : ExcAt h2 e d (some T2)) (hx3 : ExcAt h3 e d (some T2)) (lv : Lv l e (some T1) h1 h2) (hdn : hX.get? d = none) (hTX : hX.get? T1 = none) (hT2 : h1.get? T2 = none)
    (hd1 : h1.get? d = some (ballDict w tk v)) (hv : Reads h1 v D []) (kp : ∀ b o, h2.get? b = some o → b ≠ T2 → h3.get? b = some o) (hz : ∀ a ∈ z.all, a ∉ frs l) (hzX : ∀ a ∈ z.all, ∃ o, hX.get? a = some o) : Caught w hX h3 l e d D z tx fs := by
  obtain ⟨vs, sl, he1, hv1, hTe, oT, ts, hT1, hTd, _⟩ := id hx
  obtain ⟨vs3, sl3, he3, _⟩ := id hx3
  have nfr : ∀ b, hX.get? b = none → b ∉ frs l := fun b q r => by
    obtain ⟨_, o, ho, _⟩ := hl.mem r
    rw [q] at ho; cases ho
  have st : ∀ b o, h1.get? b = some o → (∀ vs, o.data ≠ .fields vs) → ∃ sl, h3.get? b = some { o with slots := sl } := fun b o q nf => by
    have n1 : b ≠ e := fun r => by rw [r, he1] at q; cases q; exact nf _ rfl
    have n2 : ∀ T, some T1 = some T → b ≠ T := fun T r1 r => by cases r1; rw [r, hT1] at q; cases q; exact nf _ hTd
    have n3 : b ≠ T2 := fun r => by rw [r, hT2] at q; cases q
    obtain ⟨sl, q2⟩ := lv.slots b o q n1 n2
    exact ⟨sl, kp _ _ q2 n3⟩
  have kp1 : ∀ b o, h1.get? b = some o → b ≠ e → b ≠ T1 → b ∉ frs l → h3.get? b = some o := fun b o q n1 n2 n3 =>
    kp _ _ (lv.kept b o q n1 (fun T r => by cases r; exact n2) n3) (fun r => by rw [r, hT2] at q; cases q)
  have nE : ∀ b o, hX.get? b = some o → b ≠ e := fun b o q r => by rw [r, fl.enew] at q; cases q
  have nT : ∀ b o, hX.get? b = some o → b ≠ T1 := fun b o q r => by rw [r, hTX] at q; cases q
  refine ⟨⟨_, _, he3⟩, ⟨tk, v, kp1 _ _ hd1 (fun r => by rw [r, he1] at hd1; cases hd1) (fun r => by rw [r, hT1] at hd1; cases hd1; cases hTd) (nfr _ hdn), Reads.slots hv st⟩, fl.sym.slots st fun a ha o q => ?_, fun b o q n1 n2 => kp1 _ _ (fl.kept b o q n1 n2) (nE b o q) (nT b o q) n2, fun b o q n1 => ?_, fl.enew, hdn⟩
  · obtain ⟨o', ho'⟩ := hzX a ha
    exact kp1 _ _ q (nE a o' ho') (nT a o' ho') (hz a ha)
  · obtain ⟨sl1, q1⟩ := fl.slots b o q n1
    obtain ⟨sl2, q2⟩ := lv.slots b _ q1 (nE b o q) (fun T r1 => by cases r1; exact nT b o q)
    exact ⟨sl2, kp _ _ q2 (fun r => by rw [r, hT2] at q1; cases q1)⟩
end
section
theorem walk_off_E12 : True := by
  w_top off
  trivial
open PySem PySem.W PyProof.Rows PySem.Calls PySem.Spec
theorem reads_flat {h h' : Heap} (k : ∀ b o items n, h.get? b = some o → o.data = .seq items n → h'.get? b = some o) {v : Value} {d : PyData} {as : List Addr} (r : Reads h v d as) (f : flatD d = true) : Reads h' v d as :=
  reads_gen (fl := true) (fun b o e _ q => let ⟨_, items, n, hd⟩ := q rfl; ⟨o, k b o items n e hd, rfl, fun _ n d => ⟨n, d⟩, fun _ _ d => d⟩) r (fun _ => f)
theorem er_flat (er : Er) (tx : List Str) (fs : List (Int × Int)) : flatD (er.ball tx fs) = true := by
  cases er <;> simp [Er.ball, ballD, formalD, Er.more, flatD, flatDs]
end
section
theorem walk_off_M19 : True := by
  w_top off
  trivial
open PySem PySem.W PyProof.Rows PySem.Calls PySem.Spec
theorem not_frs2 {env : Env} {L L' b : Addr} {nm : Str} {scope : Scope} {f : Addr} {cd : Value} (hf : env.frame = some L) (h1 : b ≠ L') (h2 : b ≠ L) : b ∉ frs [envOf nm scope L' f cd, env] := by
  rw [frs_cons rfl, frs_cons hf]; simp only [List.mem_cons, not_or]; exact ⟨h1, h2, by simp [frs]⟩
end
local macro_rules | `(tactic| walk_at "exec Try") => `(tactic| refine stop_call ?_)
section
section
variable {w : World} {mean : ExcName → Option Value} {mg mb : Str → Option Value} {A : Around} {env : Env} {outer : List Env} {A₀ : Around} {base h₀ : Heap} {L : Addr} {m : Str → Option Value} {s : Shared} {Q E : Value → Shared → Prop}
  (B : Below A₀ base outer h₀) (F : Fr h₀ L s.heap m) (X : (hd.heap_1 w.params).In h₀) (T : Top hdV (looseW hdV []) mean mg mb h₀)
  (hA : A.frames = some (env :: outer)) (hf : env.frame = some L) (hke : env.scope.kind = .function) (hh : A.handled = none)
include B F X T hA hf hke hh
theorem value_spec (hdp : A.depth + 21 < recursionLimit) (hun : A.units + 250 < cLine) {z : SA} {tx : List Str} {fs : List (Int × Int)} {t0 : Tm} {mb2 : Int} {tv : Value} {t1 : Tok} (ho : outer = []) (Y : SymH w s.heap z tx fs) (hz : Fresh h₀ L z) (hlt : tx.length < 80000) (hlf : fs.length < 80000) (hzf : ∀ a ∈ z.all, a ∉ frs (env :: outer)) (hm : mb2 ≤ 65) (ht : TmAt s.heap t0 tv) (hw : WfT tx fs t0) (hsz : t0.sz < 900)
    (hret : ∀ vr tk h' tk', evT mb2 t0 = .ok vr → Kept s.heap h' [] → Q (.int vr tk) { s with heap := h', toks := tk' })
    (hcat : ∀ er b h' tk', evT mb2 t0 = .error er → Fr h₀ L h' m → Reads h' (.ref b) (er.ball tx fs) [] → SymH w h' z (er.T tx) (er.F tx fs) → Kept s.heap h' (L :: z.mods) → Q (.ref b) { s with heap := h', toks := tk' }) :
    wpAny (model PySem.Challenge.rw_rh0079_01.row.prog w) A (PySem.call (.ref 370) [.ref z.S, tv, .int mb2 t1]) Q E s := by
  revert X; k_fill; intro X
  refine wpAny_call ?_
  obtain ⟨hd0, dp, fr, gd, un⟩ := A
  dsimp only at hA hh hdp hun
  subst hA hh
  subst ho
  obtain ⟨o1, o2, o3, o4, N⟩ := Y.four hz
  k_dflt (refine' enter_raw (rb := [(Str.ofString "most", .int mb2 t1), (Str.ofString "tree", tv), (Str.ofString "names", .ref z.S)]) B F X N T ?kA hf hke ?k6 ?k7 ?k8 ?k9 ?kB ?kR ?_ ?c2 ?c3 ?c4 ?c5; (case kA => exact rfl); (case k6 => k_is); (case k7 => k_is); (case k8 => exact room0 hdp); (case k9 => exact BindsTo.of_eq rfl); (case kR => exact rfl); (case c5 => decide); (case kB => exact locs rfl); (case c2 => exact rfl); (case c3 => exact rfl); (case c4 => exact rfl); k_whole; intro g' L' h' F' N' B' X' T' K' S' Z' tkE; (try dsimp only); (try k_fold); refine let_AE ?_; intro A1 en)
  have hz' := fresh_of N'
  have N0 := fun p hp => (N p hp).1
  clear N
  k_steps
  unfold Stop
  refine wpAny_Try_except ?_
  k_steps

  unfold Stop
  (rename Fr g' L' _ _ => kF); (rename News g' L' _ _ => kN)
  have W := whole K' kF kN N0
  k_dflt (refine eval_spec B' kF X' T' rfl rfl rfl rfl (roomD hdp (by decide)) (roomU hun (by decide)) (Y.kept0 W) hz' hlt hlf (zfrs Z' Y.here hzf) hm (ht.mono fun a items ⟨o, ho, hc, r⟩ => ⟨o, W _ _ ho (by simp), hc, r⟩) hw hsz ?_ ?_)
  · intro vr tk h1 tk1 e1 K1
    have F1 := kept_fr kF K1 (by simp)
    have N1 := kept_news kN K1 (by simp)
    clear kN kF
    k_steps
    exact hret vr tk _ _ e1 (fun b o q hb => K1 b o (W b o q hb) hb)
  · intro er e h1 tk1 e1 fl
    obtain ⟨d, T1, tkb, vb, hdn, hTX, hx, hd1, hv⟩ := id fl.exc
    have fr1 := flown_frames ((Below.push B' kF).frames) (fun b hb => zfrs Z' Y.here hzf b (mods_all hb)) fl
    refine catch_low (base := base) (tb := some T1) (PySem.Around.frames_deeper rfl) fr1 rfl hx fun h2 T2 hT2 hx2 lv => ?_
    have hLX : ∃ o, h'.get? L' = some o := by obtain ⟨oL, es, ep, q, _⟩ := kF.ns; exact ⟨oL, q⟩
    have sg : ∀ b o, (hideAll g' [L]).get? b = some o → g'.get? b = some o ∧ b ≠ L := fun b o q => ⟨of_hideAll _ q, fun r => by rw [hideAll_none [L] (h := g') (show b ∈ [L] by simp [r])] at q; cases q⟩
    have F2 := catch_fr kF hz' hf fl hx lv hdn hTX sg (hideAll_size _ _)
    have X2 : (hd.heap_1 w.params).In (hideAll g' [L]) := X.keeps fun b o q => by
      rw [hideAll_get _ (S' b o q) (by simp; rintro rfl; exact absurd (Nat.lt_of_lt_of_le (Heap.lt_size q) F.above) (Nat.lt_irrefl _))]
    have Tp2 : TopRead hdV (looseW hdV []) mg mb (hideAll g' [L]) := (topRead_of T).keeps fun b o q => by
      rw [hideAll_get _ (S' b o q) (by simp; rintro rfl; exact absurd (Nat.lt_of_lt_of_le (Heap.lt_size q) F.above) (Nat.lt_irrefl _))]
    refine wpAny_handleBy_cons (codeAny_handlers_test (name_K F2 X2 Tp2 (k_prolog _) ?_)) (by intro q; cases q)
    obtain ⟨nm51, q51, bs51, sn51, sub51, ab51, col51, k0, k1, k2, k3, k5, e51⟩ := k51 w.params
    have hC := F2.keep _ _ (X2 _ _ e51)
    obtain ⟨ve, se, hoe, _⟩ := id hx2
    refine wpAny_excMatches_sub_self hC hoe rfl (by decide) (codeAny_handlers_suite_as ?_)
    refine set_again hx2 fun h3 hx3 kp3 => ?_
    have hT2g : ∀ o, h'.get? T2 ≠ some o := fun o q => by obtain ⟨o', q'⟩ := fl.stays T2 o q; rw [hT2] at q'; cases q'
    have F3 := kept_fr F2 (h' := h3) (ms := [T2]) (fun b o q hb => kp3 b o q (by simpa using hb)) (by
      simp only [List.mem_singleton, forall_eq]
      refine ⟨?_, fun r => ?_⟩
      · cases q : (hideAll g' [L]).get? T2 with
        | none => rfl
        | some o => exact absurd (kF.keep _ _ (sg _ _ q).1) (hT2g o)
      · obtain ⟨o, q⟩ := hLX; rw [← r] at q; exact hT2g o q)
    have CA := caught_of (w := w) ((Below.push B' kF).frames) fl hx hx2 hx3 lv hdn hTX hT2 hd1 hv kp3 (zfrs Z' Y.here hzf) (Y.kept0 W).here
    refine wpAny_storeName_local rfl F3.ns (fun h4 hn4 hs4 => ?_) rfl
    have F4 := F3.set hn4 hs4
    have TT : Top hdV (looseW hdV []) mean mg mb (hideAll g' [L]) := T.keeps fun b o q => by
      rw [hideAll_get _ (S' b o q) (by simp; rintro rfl; exact absurd (Nat.lt_of_lt_of_le (Heap.lt_size q) F.above) (Nat.lt_irrefl _))]
    obtain ⟨rest, N4, _, hR⟩ := rest_of F4 []
    obtain ⟨fv3, sl3, qe3⟩ := CA.exc
    obtain ⟨tk3, v3, qd3, rd3⟩ := CA.ball
    have eL : e ≠ L' := fun r => by obtain ⟨o, q⟩ := hLX; rw [← r, CA.enew] at q; cases q
    have dL : d ≠ L' := fun r => by obtain ⟨o, q⟩ := hLX; rw [← r, CA.dnew] at q; cases q
    have qe4 := (hs4.2 e eL).trans qe3
    have qd4 := (hs4.2 d dL).trans qd3
    obtain ⟨b3, rfl⟩ : ∃ b, v3 = .ref b := by cases rd3 with | tuple h1 => exact ⟨_, rfl⟩
    have hnL3 := F3.ns
    clear kF kN F2 F3 N0 B' T' X'
    k_steps
    refine get_ball (X2.keeps (F4.keep)) qe4 qd4 fun t5 => ?_
    k_steps
    (rename Fr (hideAll g' [L]) L' _ _ => F5); (rename News (hideAll g' [L]) L' _ _ => N5)
    have K5 : Kept h4 _ [L'] := later (ex := []) F5 hR F4.keep N5 (fun p hp => hp)
    have kk : ∀ b o, h3.get? b = some o → b ≠ L' → _ := fun b o q hb => K5 b o ((hs4.2 b hb).trans q) (by simpa using hb)
    have LL : L' ≠ L := fun r => absurd (Nat.lt_of_lt_of_le F.ns.lt Z') (by rw [r]; exact Nat.lt_irrefl _)
    have hLm : L ∉ z.mods := fun q => (hz _ q).2 rfl
    have ltL : ∀ b o, s.heap.get? b = some o → b ≠ L' := fun b o q r => by rw [r, Heap.get?_none_of_le Z'] at q; cases q
    have K6 : ∀ b o, s.heap.get? b = some o → b ∉ z.mods → b ≠ L → _ := fun b o q n1 n2 => kk b o (CA.kept b o (W b o q (by simp)) n1 (not_frs2 hf (ltL b o q) n2)) (ltL b o q)
    refine hcat er b3 _ _ e1 ?_ ?_ ?_ ?_
    · refine ⟨ns_slots F.ns fun o q => ?_, fun b o q => ?_, F.above⟩
      · obtain ⟨sl, q1⟩ := CA.slots L o (W _ _ q (by simp)) hLm
        exact ⟨sl, kk _ _ q1 (Ne.symm LL)⟩
      · exact K6 b o (F.keep _ _ q) (fun r => by rw [(hz _ r).1] at q; cases q) (fun r => absurd (Nat.lt_of_lt_of_le (Heap.lt_size (r ▸ q)) F.above) (Nat.lt_irrefl _))
    · refine reads_flat (fun b o items n q q2 => kk b o q fun r => ?_) rd3 (er_flat er tx fs)
      obtain ⟨oL, es, ep, hLo, hdd, _⟩ := hnL3
      rw [r, hLo] at q; cases q; rw [hdd] at q2; cases q2
    · refine CA.sym.kept' (ms := [L']) (fun b o q hb => kk b o q (by simpa using hb)) (fun b hb => ?_) (fun b hb o q _ items n q2 => ?_)
      · obtain rfl : b = L' := by simpa using hb
        intro q; obtain ⟨o, ho⟩ := Y.here _ q; exact ltL _ _ ho rfl
      · obtain rfl : b = L' := by simpa using hb
        obtain ⟨oL, es, ep, hLo, hdd, _⟩ := hnL3
        rw [hLo] at q; cases q; rw [hdd] at q2; cases q2
    · exact fun b o q hb => by
        simp only [List.mem_cons, not_or] at hb
        exact K6 b o q hb.2 hb.1

end
end
section
local macro_rules | `(tactic| walk_at "no such key") => `(tactic| skip)
theorem walk_off_AC : True := by
  w_top off
  trivial
open PySem PySem.W PyProof.Rows PySem.Calls PySem.Spec
section
variable {w : World} {mean : ExcName → Option Value} {mg mb : Str → Option Value} {A : Around} {env : Env} {outer : List Env} {A₀ : Around} {base h₀ : Heap} {L : Addr} {m : Str → Option Value} {s : Shared} {Q E : Value → Shared → Prop}
  (B : Below A₀ base outer h₀) (F : Fr h₀ L s.heap m) (X : (hd.heap_1 w.params).In h₀) (T : Top hdV (looseW hdV []) mean mg mb h₀)
  (hA : A.frames = some (env :: outer)) (hf : env.frame = some L) (hke : env.scope.kind = .function) (hh : A.handled = none)
include B F X T hA hf hke hh
theorem done_spec (hdp : A.depth + 21 < recursionLimit) (hun : A.units + 250 < cLine) {z : SA} {tx : List Str} {fs : List (Int × Int)} {x : Str} {i ar mb2 : Int} {t1 t3 : Tok} {items be : List Value} {args : List Int} {V n : Nat} (C : ApplyC w items be x i ar args mb2) (ho : outer = []) (Y : SymH w s.heap z tx fs) (hz : Fresh h₀ L z) (hlt : tx.length < 80000) (hlf : fs.length < 80000) (hzf : ∀ a ∈ z.all, a ∉ frs (env :: outer)) (hi : FnAt tx fs i x ar) (hV : s.heap.get? V = some (W.listOf items.toArray n)) (hV0 : h₀.get? V = none ∧ V ≠ L) (hVz : V ∉ z.all) (hVf : V ∉ frs (env :: outer))
    (hret : ∀ vr tk h' tk' n' t, opP x args mb2 = .ok vr → Kept s.heap h' [V] → h'.get? V = some (W.listOf (be ++ [Value.int vr tk]).toArray n') → Q (.str (Str.ofString "done") t) { s with heap := h', toks := tk' })
    (hcat : ∀ er b h' tk' n', opP x args mb2 = .error er → Fr h₀ L h' m → Reads h' (.ref b) (er.ball tx fs) [] → SymH w h' z (er.T tx) (er.F tx fs) → h'.get? V = some (W.listOf be.toArray n') → Kept s.heap h' (L :: V :: z.mods) → Q (.ref b) { s with heap := h', toks := tk' }) :
    wpAny (model PySem.Challenge.rw_rh0079_01.row.prog w) A (PySem.call (.ref 377) [.ref z.S, .int i t1, .ref V, .int mb2 t3]) Q E s := by
  revert X; k_fill; intro X
  refine wpAny_call ?_
  obtain ⟨hd0, dp, fr, gd, un⟩ := A
  dsimp only at hA hh hdp hun
  subst hA hh
  subst ho
  obtain ⟨o1, o2, o3, o4, N⟩ := Y.four hz
  have N := news_cons hV hV0.2 hV0.1 N
  k_dflt (refine' enter_raw (rb := [(Str.ofString "most", .int mb2 t3), (Str.ofString "values", .ref V), (Str.ofString "shape", .int i t1), (Str.ofString "names", .ref z.S)]) B F X N T ?kA hf hke ?k6 ?k7 ?k8 ?k9 ?kB ?kR ?_ ?c2 ?c3 ?c4 ?c5; (case kA => exact rfl); (case k6 => k_is); (case k7 => k_is); (case k8 => exact room0 hdp); (case k9 => exact BindsTo.of_eq rfl); (case kR => exact rfl); (case c5 => decide); (case kB => exact locs rfl); (case c2 => exact rfl); (case c3 => exact rfl); (case c4 => exact rfl); k_whole; intro g' L' h' F' N' B' X' T' K' S' Z' tkE; (try dsimp only); (try k_fold); refine let_AE ?_; intro A1 en)
  have hz' := fresh_of (fun p hp => N' p (.tail _ hp))
  have N0 := fun p hp => (N p hp).1
  clear N
  k_steps
  unfold Stop
  refine wpAny_Try_except ?_
  k_steps
  unfold Stop
  (rename Fr g' L' _ _ => kF); (rename News g' L' _ _ => kN)
  have W0 := whole K' kF kN N0
  have hV' := kN _ (.head _)
  have Y1 := Y.kept0 W0
  k_dflt (refine C _ _ _ _ _ _ _ _ _ _ _ _ _ _ _ _ _ _ _ _ _ B' kF X' T' rfl rfl rfl rfl (roomD hdp (by decide)) (roomU hun (by decide)) Y1 hz' hlt hlf (zfrs Z' Y.here hzf) hi hV'.1 ⟨hV'.2.2, hV'.2.1⟩ hVz ?vf ?_ ?_)
  case vf => exact not_frs B' hV'.2.2 hV'.2.1
  · intro vr tk h1 tk1 n1 e1 K1 hV1
    have F1 := kept_fr kF K1 (by simpa using ⟨hV'.2.2, hV'.2.1⟩)
    have N1 := News.nil (h₀ := g') (L := L') (h := h1)
    clear kN kF
    k_steps
    exact hret vr tk _ _ n1 _ e1 (fun b o q hb => K1 b o (W0 b o q (by simp)) hb) hV1
  · intro er e h1 tk1 n1 e1 fl
    have FX := kept_fr kF (hset_kept (o := W.listOf be.toArray n1) hV'.1 rfl) (by simpa using ⟨hV'.2.2, hV'.2.1⟩)
    have YX := Y1.kept (hset_kept (o := W.listOf be.toArray n1) hV'.1 rfl) (by simpa using hVz) (by simp; intro o ho; rw [hV'.1] at ho; cases ho; simp)
    have WX : Kept s.heap _ [V] := fun b o q hb => hset_kept (o := W.listOf be.toArray n1) hV'.1 rfl b o (W0 b o q (by simp)) hb
    have VX : (hset h' V (W.listOf be.toArray n1)).get? V = some (W.listOf be.toArray n1) := hset_self hV'.1 rfl
    generalize hset h' V (W.listOf be.toArray n1) = hX at fl FX YX WX VX
    clear kF kN
    obtain ⟨d, T1, tkb, vb, hdn, hTX, hx, hd1, hv⟩ := id fl.exc
    have fr1 := flown_frames ((Below.push B' FX).frames) (fun b hb => zfrs Z' Y.here hzf b (mods_all hb)) fl
    refine catch_low (base := base) (tb := some T1) (PySem.Around.frames_deeper rfl) fr1 rfl hx fun h2 T2 hT2 hx2 lv => ?_
    have hLX : ∃ o, hX.get? L' = some o := by obtain ⟨oL, es, ep, q, _⟩ := FX.ns; exact ⟨oL, q⟩
    have sg : ∀ b o, (hideAll g' [L]).get? b = some o → g'.get? b = some o ∧ b ≠ L := fun b o q => ⟨of_hideAll _ q, fun r => by rw [hideAll_none [L] (h := g') (show b ∈ [L] by simp [r])] at q; cases q⟩
    have F2 := catch_fr FX hz' hf fl hx lv hdn hTX sg (hideAll_size _ _)
    have X2 : (hd.heap_1 w.params).In (hideAll g' [L]) := X.keeps fun b o q => by
      rw [hideAll_get _ (S' b o q) (by simp; rintro rfl; exact absurd (Nat.lt_of_lt_of_le (Heap.lt_size q) F.above) (Nat.lt_irrefl _))]
    have Tp2 : TopRead hdV (looseW hdV []) mg mb (hideAll g' [L]) := (topRead_of T).keeps fun b o q => by
      rw [hideAll_get _ (S' b o q) (by simp; rintro rfl; exact absurd (Nat.lt_of_lt_of_le (Heap.lt_size q) F.above) (Nat.lt_irrefl _))]
    refine wpAny_handleBy_cons (codeAny_handlers_test (name_K F2 X2 Tp2 (k_prolog _) ?_)) (by intro q; cases q)
    obtain ⟨nm51, q51, bs51, sn51, sub51, ab51, col51, k0, k1, k2, k3, k5, e51⟩ := k51 w.params
    have hC := F2.keep _ _ (X2 _ _ e51)
    obtain ⟨ve, se, hoe, _⟩ := id hx2
    refine wpAny_excMatches_sub_self hC hoe rfl (by decide) (codeAny_handlers_suite_as ?_)
    refine set_again hx2 fun h3 hx3 kp3 => ?_
    have hT2g : ∀ o, hX.get? T2 ≠ some o := fun o q => by obtain ⟨o', q'⟩ := fl.stays T2 o q; rw [hT2] at q'; cases q'
    have F3 := kept_fr F2 (h' := h3) (ms := [T2]) (fun b o q hb => kp3 b o q (by simpa using hb)) (by
      simp only [List.mem_singleton, forall_eq]
      refine ⟨?_, fun r => ?_⟩
      · cases q : (hideAll g' [L]).get? T2 with
        | none => rfl
        | some o => exact absurd (FX.keep _ _ (sg _ _ q).1) (hT2g o)
      · obtain ⟨o, q⟩ := hLX; rw [← r] at q; exact hT2g o q)
    have CA := caught_of (w := w) ((Below.push B' FX).frames) fl hx hx2 hx3 lv hdn hTX hT2 hd1 hv kp3 (zfrs Z' Y.here hzf) YX.here
    refine wpAny_storeName_local rfl F3.ns (fun h4 hn4 hs4 => ?_) rfl
    have F4 := F3.set hn4 hs4
    have TT : Top hdV (looseW hdV []) mean mg mb (hideAll g' [L]) := T.keeps fun b o q => by
      rw [hideAll_get _ (S' b o q) (by simp; rintro rfl; exact absurd (Nat.lt_of_lt_of_le (Heap.lt_size q) F.above) (Nat.lt_irrefl _))]
    obtain ⟨rest, N4, _, hR⟩ := rest_of F4 []
    obtain ⟨fv3, sl3, qe3⟩ := CA.exc
    obtain ⟨tk3, v3, qd3, rd3⟩ := CA.ball
    have eL : e ≠ L' := fun r => by obtain ⟨o, q⟩ := hLX; rw [← r, CA.enew] at q; cases q
    have dL : d ≠ L' := fun r => by obtain ⟨o, q⟩ := hLX; rw [← r, CA.dnew] at q; cases q
    have qe4 := (hs4.2 e eL).trans qe3
    have qd4 := (hs4.2 d dL).trans qd3
    obtain ⟨b3, rfl⟩ : ∃ b, v3 = .ref b := by cases rd3 with | tuple h1 => exact ⟨_, rfl⟩
    have hnL3 := F3.ns
    clear FX F2 F3 N0 B' T' X'
    k_steps
    refine get_ball (X2.keeps (F4.keep)) qe4 qd4 fun t5 => ?_
    k_steps
    (rename Fr (hideAll g' [L]) L' _ _ => F5); (rename News (hideAll g' [L]) L' _ _ => N5)
    have K5 : Kept h4 _ [L'] := later (ex := []) F5 hR F4.keep N5 (fun p hp => hp)
    have kk : ∀ b o, h3.get? b = some o → b ≠ L' → _ := fun b o q hb => K5 b o ((hs4.2 b hb).trans q) (by simpa using hb)
    have LL : L' ≠ L := fun r => absurd (Nat.lt_of_lt_of_le F.ns.lt Z') (by rw [r]; exact Nat.lt_irrefl _)
    have hLm : L ∉ z.mods := fun q => (hz _ q).2 rfl
    have ltL : ∀ b o, s.heap.get? b = some o → b ≠ L' := fun b o q r => by rw [r, Heap.get?_none_of_le Z'] at q; cases q
    have K6 : ∀ b o, s.heap.get? b = some o → b ∉ z.mods → b ≠ L → b ≠ V → _ := fun b o q n1 n2 n3 => kk b o (CA.kept b o (WX b o q (by simpa using n3)) n1 (not_frs2 hf (ltL b o q) n2)) (ltL b o q)
    refine hcat er b3 _ _ n1 e1 ?_ ?_ ?_ ?_ ?_
    · refine ⟨ns_slots F.ns fun o q => ?_, fun b o q => ?_, F.above⟩
      · obtain ⟨sl, q1⟩ := CA.slots L o (WX _ _ q (by simpa using Ne.symm hV0.2)) hLm
        exact ⟨sl, kk _ _ q1 (Ne.symm LL)⟩
      · exact K6 b o (F.keep _ _ q) (fun r => by rw [(hz _ r).1] at q; cases q) (fun r => absurd (Nat.lt_of_lt_of_le (Heap.lt_size (r ▸ q)) F.above) (Nat.lt_irrefl _)) (fun r => by rw [r, hV0.1] at q; cases q)
    · refine reads_flat (fun b o items n q q2 => kk b o q fun r => ?_) rd3 (er_flat er tx fs)
      obtain ⟨oL, es, ep, hLo, hdd, _⟩ := hnL3
      rw [r, hLo] at q; cases q; rw [hdd] at q2; cases q2
    · refine CA.sym.kept' (ms := [L']) (fun b o q hb => kk b o q (by simpa using hb)) (fun b hb => ?_) (fun b hb o q _ items n q2 => ?_)
      · obtain rfl : b = L' := by simpa using hb
        intro q; obtain ⟨o, ho⟩ := Y.here _ q; exact ltL _ _ ho rfl
      · obtain rfl : b = L' := by simpa using hb
        obtain ⟨oL, es, ep, hLo, hdd, _⟩ := hnL3
        rw [hLo] at q; cases q; rw [hdd] at q2; cases q2
    · exact kk V _ (CA.kept V _ VX (fun q => hVz (mods_all q)) (not_frs2 hf (ltL V _ hV) hV0.2)) (ltL V _ hV)
    · exact fun b o q hb => by
        simp only [List.mem_cons, not_or] at hb
        exact K6 b o q hb.2.2 hb.1 hb.2.1
end
end
section
theorem walk_off_E13 : True := by
  w_top off
  trivial
open PySem PySem.W PyProof.Rows PySem.Calls PySem.Spec PyProof.V
section
variable {prog : Program} {w : World} {A : Around} {E : Value → Shared → Prop} {s : Shared} {env : Env} {h₀ : Heap} {x : Str} {body : List Stmt} {Q : Flow → Shared → Prop}
/-- what a turn's end must show -/
noncomputable def HStep (h₀ : Heap) (L : Addr) (fp : List Addr) (J : (Str → Option Value) → Heap → Prop) (s₁ : Shared) (Q : Flow → Shared → Prop) (f : Flow) (s₃ : Shared) : Prop :=
  match f with
  | .ret v => Q (.ret v) s₃
  | .brk => Q .next s₃
  | _ => ∃ h' tk' m', s₃ = { s₁ with heap := h', toks := tk' } ∧ Fr h₀ L h' m' ∧ (∀ b ∈ fp, ∀ o, s₁.heap.get? b = some o → h'.get? b = some o) ∧ J m' h'
theorem HStep.intro {L : Addr} {fp : List Addr} {J : (Str → Option Value) → Heap → Prop} {s₁ : Shared} {h' : Heap} {tk' : Nat} {m' : Str → Option Value} (F : Fr h₀ L h' m') (k : ∀ b ∈ fp, ∀ o, s₁.heap.get? b = some o → h'.get? b = some o) (j : J m' h') :
    HStep h₀ L fp J s₁ Q .next { s₁ with heap := h', toks := tk' } := ⟨h', tk', m', rfl, F, k, j⟩
/-- a for loop; the invariant speaks of the heap -/
theorem loopH {I : Nat} {fp : List Addr} {n : Nat} {P : Nat → Value → Prop} {St : Nat → Heap → Prop} {m₀ : Str → Option Value} (W : Walks prog w A I fp [I] n P St) (J : Nat → (Str → Option Value) → Heap → Prop)
    (hLf : env.locals ∉ fp) (hI₀ : h₀.get? I = none) (hst : St 0 s.heap) (F : Fr h₀ env.locals s.heap m₀) (J0 : J 0 m₀ s.heap)
    (turn : ∀ i v m₁ hp h tk, i < n → P i v → J i m₁ hp → St i hp → (∀ b o, h₀.get? b = some o → hp.get? b = some o) → Kept hp h [env.locals, I] → St (i + 1) h → Fr h₀ env.locals h (fun y => if y = x then some v else m₁ y) →
      wpAny (model prog w) A (execs body env) (HStep h₀ env.locals fp (J (i + 1)) { s with heap := h, toks := tk } Q) E { s with heap := h, toks := tk })
    (done : ∀ m₁ hp h tk, J n m₁ hp → St n hp → (∀ b o, h₀.get? b = some o → hp.get? b = some o) → Kept hp h [env.locals, I] → Fr h₀ env.locals h m₁ → Q .next { s with heap := h, toks := tk }) :
    LoopAtV prog w A h₀ env x body Q E (.ref I) s := by
  let J' : Nat → (Str → Option Value) → List (Addr × Obj) → Prop := fun i m news => ∃ hp, J i m hp ∧ St i hp ∧ (∀ b o, h₀.get? b = some o → hp.get? b = some o) ∧ ∀ a o, hp.get? a = some o → h₀.get? a = none → a ≠ env.locals → a ∉ [I] → (a, o) ∈ news
  obtain ⟨r0, N0, hr1, hr2⟩ := rest_of F [I]
  refine ⟨I, fp, [I], n, P, St, m₀, r0, J', rfl, W, hLf, ?_, hr1, hst, F, N0, ⟨s.heap, J0, hst, F.keep, hr2⟩, ?_, ?_⟩
  · intro b hb; rw [List.mem_singleton.mp hb]; exact hI₀
  · rintro i v m₁ news₁ s₁ own ⟨hh', tk', rfl⟩ hin hP ⟨hp, hJ, hS, hG, hR⟩ hoff hown hget hall hst' F₁ N₁
    have K : Kept hp hh' [env.locals, I] := later (ex := [I]) F₁ hR hG N₁ (fun p hp => List.mem_append_right _ hp)
    refine wpAny_mono (turn i v m₁ hp hh' tk' hin hP hJ hS hG K hst' F₁) (fun f s₂ p => ?_) fun _ _ e => e
    have fin : (∃ h' tk m', s₂ = { s with heap := h', toks := tk } ∧ Fr h₀ env.locals h' m' ∧ (∀ b ∈ fp, ∀ o, hh'.get? b = some o → h'.get? b = some o) ∧ J (i + 1) m' h') →
        LoopStepU h₀ env.locals [I] own (J' (i + 1)) { s with heap := hh', toks := tk' } .next s₂ := by
      rintro ⟨h', tk, m', rfl, F', hk, hJ'⟩
      obtain ⟨r1, N1, h1, h2⟩ := rest_of F' [I]
      refine ⟨rfl, h', tk, m', r1, rfl, F', fun p hp => ?_, h1, ⟨h', hJ', W.frame _ _ _ hst' hk, F'.keep, h2⟩⟩
      rcases List.mem_append.mp hp with hp | hp
      · exact ⟨hk _ (hown p hp) _ (hget p hp), (N₁ p (List.mem_append_left _ hp)).2⟩
      · exact N1 p hp
    cases f with
    | ret v => exact .ret p
    | brk => exact .brk p
    | next => exact .next (fin p)
    | cont => exact .cont (fin p)
  · rintro h' tk m' news' F' N' _ ⟨hp, hJ, hS, hG, hR⟩
    exact done m' hp h' tk hJ hS hG (later (ex := [I]) F' hR hG N' (fun p hp => hp)) F'
/-- over a tuple -/
theorem loopTup {t : Nat} {items : Array Value} {m₀ : Str → Option Value} (J : Nat → (Str → Option Value) → Heap → Prop) (hh : A.handled = none) (ht : IsTup s.heap t items) (hLt : t ≠ env.locals)
    (F : Fr h₀ env.locals s.heap m₀) (J0 : ∀ h, (∀ b o, s.heap.get? b = some o → h.get? b = some o) → J 0 m₀ h)
    (turn : ∀ i v (I : Nat) m₁ hp h tk, i < items.size → items[i]? = some v → J i m₁ hp → (∀ o, hp.get? I = some o → o.cls ≠ .type "tuple") → (∀ b o, h₀.get? b = some o → hp.get? b = some o) → Kept hp h [env.locals, I] → h₀.get? I = none → I ≠ env.locals → (∀ b o, s.heap.get? b = some o → b ≠ I) → (∃ oI : Obj, h.get? I = some oI ∧ oI.cls = .type "tuple_iterator") → IsTup h t items → Fr h₀ env.locals h (fun y => if y = x then some v else m₁ y) →
      wpAny (model prog w) A (execs body env) (HStep h₀ env.locals [I, t] (J (i + 1)) { s with heap := h, toks := tk } Q) E { s with heap := h, toks := tk })
    (done : ∀ (I : Nat) m₁ hp h tk, J items.size m₁ hp → (∀ o, hp.get? I = some o → o.cls ≠ .type "tuple") → (∀ b o, h₀.get? b = some o → hp.get? b = some o) → Kept hp h [env.locals, I] → I ≠ env.locals → (∀ b o, s.heap.get? b = some o → b ≠ I) → Fr h₀ env.locals h m₁ → Q .next { s with heap := h, toks := tk }) :
    wpAny (model prog w) A (pyIter (.ref t)) (fun it s₂ => LoopAtV prog w A h₀ env x body Q E it s₂) E s := by
  have ht' : s.heap.IsTuple t items := ht
  have hlt : t < s.heap.objs.size := by obtain ⟨_, e, _⟩ := ht; exact Heap.lt_size e
  have hLI : env.locals ≠ s.heap.objs.size := Nat.ne_of_lt F.ns.lt
  have hI0 : h₀.get? s.heap.objs.size = none := next_is_new F
  have hsI : ∀ b o, s.heap.get? b = some o → b ≠ s.heap.objs.size := fun b o e => Nat.ne_of_lt (Heap.lt_size e)
  refine wpAny_pyIter_tuple ht' ?_
  refine loopH (Walks.tuple hh s.heap.objs.size t (Nat.ne_of_lt hlt) items) J ?_ hI0 ⟨⟨_, Heap.get?_push_size _ rfl, rfl, rfl⟩, ht'.at fun o e => Heap.get?_push_of_some _ e⟩ (F.push _) (J0 _ fun b o e => Heap.get?_push_of_some _ e) ?_ ?_
  · intro hm
    rcases List.mem_cons.mp hm with e | hm
    · exact hLI e
    · exact hLt (List.mem_singleton.mp hm).symm
  · intro i v m₁ hp h tk hi hv hJ hS hG hK hst F₁
    exact turn i v _ m₁ hp h tk hi hv hJ (fun o e => by obtain ⟨o', e', c, _⟩ := hS.1; rw [e'] at e; cases e; rw [c]; simp) hG hK hI0 (Ne.symm hLI) hsI (let ⟨o, e, c, _⟩ := hst.1; ⟨o, e, c⟩) hst.2 F₁
  · intro m₁ hp h tk hJ hS hG hK F₁
    exact done _ m₁ hp h tk hJ (fun o e => by obtain ⟨o', e', c, _⟩ := hS.1; rw [e'] at e; cases e; rw [c]; simp) hG hK (Ne.symm hLI) hsI F₁
/-- over a range from nought -/
theorem loopRange {r : Addr} {a₀ b₀ : Int} {t₀ u₀ v₀ : Tok} {n : Nat} {m₀ : Str → Option Value} (J : Nat → (Str → Option Value) → Heap → Prop) (hh : A.handled = none) (hr : IsRange s.heap r a₀ b₀ 1 t₀ u₀ v₀) (hsmall : Builtin.Range.small a₀ b₀ 1 = true) (hn : Builtin.Range.rangeSize a₀ b₀ 1 = (n : Int))
    (F : Fr h₀ env.locals s.heap m₀) (J0 : ∀ h, (∀ b o, s.heap.get? b = some o → h.get? b = some o) → J 0 m₀ h)
    (turn : ∀ i v (I : Nat) m₁ hp h tk, i < n → (∃ t, v = .int (a₀ + (i : Int) * 1) t) → J i m₁ hp → (∀ o, hp.get? I = some o → o.cls ≠ .type "tuple" ∧ o.cls ≠ .type "list") → (∀ b o, h₀.get? b = some o → hp.get? b = some o) → Kept hp h [env.locals, I] → h₀.get? I = none → I ≠ env.locals → (∀ b o, s.heap.get? b = some o → b ≠ I) → (∃ oI : Obj, h.get? I = some oI ∧ oI.cls ≠ .type "tuple" ∧ oI.cls ≠ .type "list") → Fr h₀ env.locals h (fun y => if y = x then some v else m₁ y) →
      wpAny (model prog w) A (execs body env) (HStep h₀ env.locals [I] (J (i + 1)) { s with heap := h, toks := tk } Q) E { s with heap := h, toks := tk })
    (done : ∀ (I : Nat) m₁ hp h tk, J n m₁ hp → (∀ o, hp.get? I = some o → o.cls ≠ .type "tuple" ∧ o.cls ≠ .type "list") → (∀ b o, h₀.get? b = some o → hp.get? b = some o) → Kept hp h [env.locals, I] → I ≠ env.locals → (∀ b o, s.heap.get? b = some o → b ≠ I) → Fr h₀ env.locals h m₁ → Q .next { s with heap := h, toks := tk }) :
    wpAny (model prog w) A (pyIter (.ref r)) (fun it s₂ => LoopAtV prog w A h₀ env x body Q E it s₂) E s := by
  have hLI : env.locals ≠ s.heap.objs.size := Nat.ne_of_lt F.ns.lt
  have hI0 : h₀.get? s.heap.objs.size = none := next_is_new F
  have hsI : ∀ b o, s.heap.get? b = some o → b ≠ s.heap.objs.size := fun b o e => Nat.ne_of_lt (Heap.lt_size e)
  refine wpAny_pyIter_range hr hsmall ?_
  have W : Walks prog w A s.heap.objs.size [s.heap.objs.size] [s.heap.objs.size] n (fun i v => ∃ t, v = .int (a₀ + i * 1) t)
      (fun i h => IsRangeIter h s.heap.objs.size (a₀ + (i : Nat) * 1) ((n : Int) - (i : Nat)) 1) := Walks.range hh _ a₀ 1 n
  refine loopH W J ?_ hI0 ?_ (F.push _) (J0 _ fun b o e => Heap.get?_push_of_some _ e) ?_ ?_
  · intro hm
    exact hLI (List.mem_singleton.mp hm)
  · show IsRangeIter _ _ _ _ _
    rw [hn]; simpa using Heap.get?_push_size _ rfl
  · intro i v m₁ hp h tk hi hv hJ hS hG hK hst F₁
    exact turn i v _ m₁ hp h tk hi hv hJ (fun o e => by have e' : hp.get? s.heap.objs.size = some _ := hS; rw [e'] at e; cases e; simp) hG hK hI0 (Ne.symm hLI) hsI ⟨_, hst, by simp, by simp⟩ F₁
  · intro m₁ hp h tk hJ hS hG hK F₁
    exact done _ m₁ hp h tk hJ (fun o e => by have e' : hp.get? s.heap.objs.size = some _ := hS; rw [e'] at e; cases e; simp) hG hK (Ne.symm hLI) hsI F₁
end
end
section
theorem walk_off_M21 : True := by
  w_top off
  trivial
open PySem PySem.W PyProof.Rows PySem.Calls PySem.Spec
theorem fnAt_new {tx : List Str} {fs : List (Int × Int)} {x : Str} {ar : Int} (hlt : tx.length < 90000) (hlf : fs.length < 90000) :
    FnAt (addNew tx x) (addNew fs (numOf (addNew tx x) x, ar)) (numOf (addNew fs (numOf (addNew tx x) x, ar)) (numOf (addNew tx x) x, ar)) x ar := by
  obtain ⟨i, hi, hil, hie⟩ := numOf_at (addNew_has fs (numOf (addNew tx x) x, ar))
  obtain ⟨j, hj, hjl, hje⟩ := numOf_at (addNew_has tx x)
  have l1 := addNew_length fs (numOf (addNew tx x) x, ar)
  have l2 := addNew_length tx x
  rw [hie]
  refine ⟨by omega, by omega, numOf (addNew tx x) x, by simpa using hi, by omega, by omega, ?_⟩
  rw [hje]; simpa using hj
theorem menu_item {prog : Program} {w : World} {A : Around} {E : Value → Shared → Prop} {s : Shared} {value slice : Expr} {h₀ : Heap} {L D : Addr} {news : List (Addr × Obj)} {vs : List Value} {tx : List Str} {n : Nat} {r : Int} {u : Tok} {Q : Value → Shared → Prop}
    (N : News h₀ L s.heap news) (hm : (D, W.listOf vs.toArray n) ∈ news) (hS : StrsAre vs tx) (h0 : 0 ≤ r) (hr : r < (tx.length : Int)) (h63 : r < 1000) (h : ∀ x t, x ∈ tx → Q (.str x t) s)
    (hs : subscripted slice false (.ref D) (.int r u) = operate [.ref D, .int r u] (getItem (.ref D) (.int r u)) := by with_unfolding_all rfl) :
    wpAny (model prog w) A (subscriptTail value slice (.ref D) (.int r u)) Q E s := by
  have hlt : r.toNat < tx.length := by omega
  obtain ⟨t', e⟩ := strsAre_at hS (List.getElem?_eq_getElem hlt)
  have hl : s.heap.IsList D vs.toArray := ⟨_, (N _ hm).1, rfl, n, rfl⟩
  exact tail_any hl.typeIs slot_list_getitem.lookup (wpAny_getItem_list hl h0 (by omega) (x := .str _ t') (by simpa using e) (h _ _ (List.getElem_mem _))) hs
theorem ev1 {x : Str} (h : x ∈ unL) : isEv x 1 = true := by
  unfold isEv; rw [if_pos rfl]; exact List.any_eq_true.mpr ⟨x, h, by simp⟩
theorem ev2 {x : Str} (h : x ∈ biL) : isEv x 2 = true := by
  unfold isEv; rw [if_neg (by decide), if_pos rfl]; exact List.any_eq_true.mpr ⟨x, h, by simp⟩
theorem my_ieq {a b : Int} {P Q : Prop} (h1 : a = b → P) (h2 : a ≠ b → Q) : if (a == b) = true then P else Q := by
  by_cases h : a = b
  · rw [if_pos (by simpa using h)]; exact h1 h
  · rw [if_neg (by simpa using h)]; exact h2 h
theorem my_tt {P Q : Prop} (h : P) : if true = true then P else Q := by rw [if_pos rfl]; exact h
theorem my_ff {P Q : Prop} (h : Q) : if false = true then P else Q := by rw [if_neg (by decide)]; exact h
theorem my_T {d : Decidable True} {P Q : Prop} (h : P) : @ite Prop True d P Q := by rw [if_pos trivial]; exact h
theorem my_F {d : Decidable False} {P Q : Prop} (h : Q) : @ite Prop False d P Q := by rw [if_neg id]; exact h
theorem put_first {h₀ h h' : Heap} {L P : Addr} {a : Addr × Obj} {o o' : Obj} {rest : List (Addr × Obj)} (N : News h₀ L h (a :: (P, o) :: rest)) (K : Kept h h' [P]) (hP : h'.get? P = some o') (n1 : a.1 ≠ P) (n2 : ∀ p ∈ rest, p.1 ≠ P) : News h₀ L h' ((P, o') :: a :: rest) :=
  news_cons hP (N _ (.tail _ (.head _))).2.1 (N _ (.tail _ (.head _))).2.2 (kept_news (fun p hp => by
    rcases List.mem_cons.mp hp with rfl | hp
    · exact N _ (.head _)
    · exact N p (.tail _ (.tail _ hp))) K (fun p hp => by
    rcases List.mem_cons.mp hp with rfl | hp
    · simpa using n1
    · simpa using n2 p hp))
theorem put_same {h₀ h h' : Heap} {L P : Addr} {o o' : Obj} {rest : List (Addr × Obj)} (N : News h₀ L h ((P, o) :: rest)) (K : Kept h h' [P]) (hP : h'.get? P = some o') (n2 : ∀ p ∈ rest, p.1 ≠ P) : News h₀ L h' ((P, o') :: rest) :=
  news_cons hP (N _ (.head _)).2.1 (N _ (.head _)).2.2 (kept_news (fun p hp => N p (.tail _ hp)) K (fun p hp => by simpa using n2 p hp))
/-- the table at any heap of the frame, where one list place besides the table's own turned -/
theorem sym_but {w : World} {h g h1 : Heap} {L V : Addr} {m1 : Str → Option Value} {z : SA} {tx : List Str} {fs : List (Int × Int)} {oV o0 o1 o2 o3 o4 : Obj} {news1 : List (Addr × Obj)} (Y : SymH w h z tx fs) (K' : Kept h g (((V, o0) :: [(z.T, o1), (z.AN, o2), (z.F, o3), (z.FN, o4)]).map (·.1)))
    (hV : h.get? V = some oV) (hcl : oV.cls ≠ .type "tuple") (hVz : V ∉ z.all) (N0 : ∀ p ∈ [(z.T, o1), (z.AN, o2), (z.F, o3), (z.FN, o4)], h.get? p.1 = some p.2) (f : Fr g L h1 m1) (nn : News g L h1 news1) (sub : ∀ p ∈ [(z.T, o1), (z.AN, o2), (z.F, o3), (z.FN, o4)], p ∈ news1) : SymH w h1 z tx fs :=
  Y.kept (ms := [V]) (fun b o e hb => by
    by_cases hm : b ∈ z.mods
    · simp only [SA.mods, List.mem_cons, List.not_mem_nil, or_false] at hm
      rcases hm with rfl | rfl | rfl | rfl
      · have := N0 (z.T, o1) (by simp); rw [this] at e; cases e; exact (nn (z.T, o1) (sub _ (by simp))).1
      · have := N0 (z.AN, o2) (by simp); rw [this] at e; cases e; exact (nn (z.AN, o2) (sub _ (by simp))).1
      · have := N0 (z.F, o3) (by simp); rw [this] at e; cases e; exact (nn (z.F, o3) (sub _ (by simp))).1
      · have := N0 (z.FN, o4) (by simp); rw [this] at e; cases e; exact (nn (z.FN, o4) (sub _ (by simp))).1
    · exact f.keep _ _ (K' _ _ e (by simp only [List.map_cons, List.map_nil]; simpa [SA.mods] using And.intro (by simpa using hb) (by simpa [SA.mods] using hm)))) (by simpa using hVz) (by simp; intro o ho; rw [hV] at ho; cases ho; exact hcl)
local macro_rules | `(tactic| walk_at "subscriptTail") => `(tactic| (k_here; (with_reducible show wpAny _ _ (subscriptTail _ _ (Value.ref _) (Value.int _ _)) _ _ _); refine stop_call ?_))
local macro_rules | `(tactic| walk_at "ite") => `(tactic| (with_reducible first | refine my_T ?_ | refine my_F ?_ | refine my_tt ?_ | refine my_ff ?_ | (refine my_ieq ?_ ?_ <;> intro _)))
section
variable {w : World} {mean : ExcName → Option Value} {mg mb : Str → Option Value} {A : Around} {env : Env} {outer : List Env} {A₀ : Around} {base h₀ : Heap} {L : Addr} {m : Str → Option Value} {s : Shared} {Q E : Value → Shared → Prop}
  (B : Below A₀ base outer h₀) (F : Fr h₀ L s.heap m) (X : (hd.heap_1 w.params).In h₀) (T : Top hdV (looseW hdV []) mean mg mb h₀)
  (hA : A.frames = some (env :: outer)) (hf : env.frame = some L) (hke : env.scope.kind = .function) (hh : A.handled = none)
include B F X T hA hf hke hh
theorem lawfn_spec (hdp : A.depth + 4 < recursionLimit) (hun : A.units + 30 < cLine) {P : Addr} {G : Heap} {o : Obj} {k : Int} (hP0 : h₀.get? P = none) (hPL : P ≠ L)
    (hG : Gnd G s.heap P) (hP : s.heap.get? P = some o) (p : PoolO G k o) (hk : k < 800000) {z : SA} {tx : List Str} {fs : List (Int × Int)} (Y : SymH w s.heap z tx fs) (hz : Fresh h₀ L z) (hPz : P ∉ z.all) (hlt : tx.length < 90000) (hlf : fs.length < 90000)
    (hGz : ∀ b ∈ z.mods, G.get? b = none) {left : Int} {t : Tok}
    (hret : ∀ (x : Str) (ar : Int) (tk : Tok) (h' : Heap) (tk' : Nat) (o' : Obj), (ar = 1 ∨ ar = 2 ∧ left ≠ 1) → isEv x ar = true → Kept s.heap h' (P :: z.mods) → h'.get? P = some o' → PoolO G (k + 2) o' →
      SymH w h' z (addNew tx x) (addNew fs (numOf (addNew tx x) x, ar)) → Q (.int (numOf (addNew fs (numOf (addNew tx x) x, ar)) (numOf (addNew tx x) x, ar)) tk) { s with heap := h', toks := tk' }) :
    wpAny (model PySem.Challenge.rw_rh0079_01.row.prog w) A (PySem.call (.ref 363) [.ref P, .ref z.S, .int left t]) Q E s := by
  revert X; k_fill; intro X
  refine wpAny_call ?_
  obtain ⟨hd0, dp, fr, gd, un⟩ := A
  dsimp only at hA hh hdp hun
  subst hA hh
  obtain ⟨o1, o2, o3, o4, N⟩ := Y.four hz
  have N := news_cons hP hPL hP0 N
  k_dflt (refine' enter_fn (rb := [(Str.ofString "left", .int left t), (Str.ofString "names", .ref z.S), (Str.ofString "pool", .ref P)]) B F X N T ?kA hf hke ?k6 ?k7 ?k8 ?k9 ?kB ?kR ?_ ?c2 ?c3 ?c4 ?c5; (case kA => exact rfl); (case k6 => k_is); (case k7 => k_is); (case k8 => exact room0 hdp); (case k9 => exact BindsTo.of_eq rfl); (case kR => exact rfl); (case c5 => decide); (case kB => exact locs rfl); (case c2 => exact rfl); (case c3 => exact rfl); (case c4 => exact rfl); k_whole; intro g' L' h' F' N' B' X' T' K' S' Z' tkE; (try dsimp only); (try k_fold); refine let_AE ?_; intro A1 en)
  have hz' := fresh_of (fun p hp => N' p (.tail _ hp))
  have N0 := fun p hp => (N p hp).1
  clear N
  obtain ⟨vS, vdS, vT, vAN, vF, vFN⟩ := vneq hPz
  have gS : g'.get? z.S = some (instObj 154 z.dS) := K' _ _ Y.oS (notK (Y.ne) hPz).1
  have gdS : g'.get? z.dS = some (symDict w z) := K' _ _ Y.odS (notK (Y.ne) hPz).2
  have hGg : Gnd G g' P := ⟨fun b o e => K' b o (hG.sub b o e) (by
    simp only [List.map_cons, List.map_nil, List.mem_cons, List.not_mem_nil, or_false, not_or]
    have q : ∀ c ∈ z.mods, b ≠ c := fun c hc r => by rw [r, hGz c hc] at e; cases e
    exact ⟨(fun r => by rw [r, hG.free] at e; cases e), q _ (by simp [SA.mods]), q _ (by simp [SA.mods]), q _ (by simp [SA.mods]), q _ (by simp [SA.mods])⟩), hG.free⟩
  have nP := N' _ (.head _)
  have n4 : ∀ p ∈ [(z.T, o1), (z.AN, o2), (z.F, o3), (z.FN, o4)], p.1 ≠ P := by simp only [List.mem_cons, List.not_mem_nil, or_false, forall_eq_or_imp, forall_eq]; exact ⟨vT.symm, vAN.symm, vF.symm, vFN.symm⟩
  have hclP : o.cls ≠ .type "tuple" := by obtain ⟨_, _, _, _, _, _, _, _, _, _, rfl, _⟩ := p; simp
  have SB : ∀ {h1 m1 news1}, Fr g' L' h1 m1 → News g' L' h1 news1 → (∀ p ∈ [(z.T, o1), (z.AN, o2), (z.F, o3), (z.FN, o4)], p ∈ news1) → SymH w h1 z tx fs := fun f nn sub => sym_but Y K' hP hclP hPz (fun p hp => N0 p (.tail _ hp)) f nn sub
  have fin : ∀ {h1 : Heap} {tk1 : Nat} {o5 : Obj} {x : Str} {ar : Int} {tk : Tok}, (ar = 1 ∨ ar = 2 ∧ left ≠ 1) → isEv x ar = true → Kept g' h1 (P :: z.mods) → h1.get? P = some o5 → PoolO G (k + 2) o5 → SymH w h1 z (addNew tx x) (addNew fs (numOf (addNew tx x) x, ar)) →
      Q (.int (numOf (addNew fs (numOf (addNew tx x) x, ar)) (numOf (addNew tx x) x, ar)) tk) { s with heap := h1, toks := tk1 } := fun e1 e2 K e3 e4 e5 =>
    hret _ _ _ _ _ _ e1 e2 (fun b o e hn => K b o (K' b o e (by simpa [SA.mods] using hn)) hn) e3 e4 e5
  k_steps
  · unfold Stop
    (rename Fr g' L' _ _ => kF); (rename News g' L' _ _ => kN)
    k_dflt (refine draw_pool B' kF X' T' rfl rfl rfl rfl (roomD hdp (by decide)) (roomU hun (by decide)) nP.2.2 nP.2.1 (hGg.fr kF) (kN _ (.tail _ (.head _))).1 p (by omega) (by decide) (by decide) ?_)
    intro r0 t0 h0 tk0 o5 K0 hP0 p0 hr0 hs0
    have F0 := kept_fr kF K0 (by simpa using ⟨nP.2.2, nP.2.1⟩)
    have NA := put_first kN K0 hP0 (Nat.ne_of_gt (And.left (by assumption))) n4
    clear kN kF
    k_steps
    unfold Stop
    (rename News g' L' _ _ => kN)
    refine menu_item kN (.tail _ (.head _)) (tx := unL) (by unfold unL; repeat constructor) hr0 hs0 (by omega) ?_
    intro x tx0 hx
    k_steps
    unfold Stop
    (rename Fr g' L' _ _ => kF); (rename News g' L' _ _ => kN)
    have Y1 := SB kF kN (fun p hp => by simp only [List.mem_cons] at hp ⊢; rcases hp with e | e | e | e | e <;> simp [e])
    have hP7 := (kN (P, o5) (by simp)).1
    k_dflt (refine func_spec B' kF X' T' rfl rfl rfl rfl (roomD hdp (by decide)) (roomU hun (by decide)) Y1 hz' hlt hlf ?_)
    intro tq h8 tk8 K8 Y8
    have F8 := kept_fr kF K8 hz'
    have hP8 := K8 P _ hP7 (fun q => hPz (mods_all q))
    have N8 := news_cons hP8 nP.2.1 nP.2.2 News.nil
    clear kN kF
    k_steps
    (rename Kept s.heap _ _ => kK)

    exact hret _ _ _ _ _ _ (.inl rfl) (ev1 hx) kK hP8 (PoolO.mono (by assumption) (by omega)) Y8
  · unfold Stop
    (rename Fr g' L' _ _ => kF); (rename News g' L' _ _ => kN)
    k_dflt (refine draw_pool B' kF X' T' rfl rfl rfl rfl (roomD hdp (by decide)) (roomU hun (by decide)) nP.2.2 nP.2.1 (hGg.fr kF) (kN _ (.head _)).1 p (by omega) (by decide) (by decide) ?_)
    intro r0 t0 h0 tk0 o5 K0 hP0 p0 hr0 hs0
    have F0 := kept_fr kF K0 (by simpa using ⟨nP.2.2, nP.2.1⟩)
    have NA := put_same kN K0 hP0 n4
    clear kN kF
    k_steps
    · unfold Stop
      (rename Fr g' L' _ _ => kF); (rename News g' L' _ _ => kN)
      k_dflt (refine draw_pool B' kF X' T' rfl rfl rfl rfl (roomD hdp (by decide)) (roomU hun (by decide)) nP.2.2 nP.2.1 (hGg.fr kF) (kN _ (.tail _ (.head _))).1 p0 (by omega) (by decide) (by decide) ?_)
      intro r1 t1 h1 tk1 o6 K1 hP1 p1 hr1 hs1
      have F1 := kept_fr kF K1 (by simpa using ⟨nP.2.2, nP.2.1⟩)
      have NB := put_first kN K1 hP1 (Nat.ne_of_gt (And.left (by assumption))) n4
      clear kN kF
      k_steps
      unfold Stop
      (rename News g' L' _ _ => kN)
      refine menu_item kN (.tail _ (.head _)) (tx := unL) (by unfold unL; repeat constructor) hr1 hs1 (by omega) ?_
      intro x tx0 hx
      k_steps
      unfold Stop
      (rename Fr g' L' _ _ => kF); (rename News g' L' _ _ => kN)
      have Y1 := SB kF kN (fun p hp => by simp only [List.mem_cons] at hp ⊢; rcases hp with e | e | e | e | e <;> simp [e])
      have hP7 := (kN (P, o6) (by simp)).1
      k_dflt (refine func_spec B' kF X' T' rfl rfl rfl rfl (roomD hdp (by decide)) (roomU hun (by decide)) Y1 hz' hlt hlf ?_)
      intro tq h8 tk8 K8 Y8
      have F8 := kept_fr kF K8 hz'
      have hP8 := K8 P _ hP7 (fun q => hPz (mods_all q))
      have N8 := news_cons hP8 nP.2.1 nP.2.2 News.nil
      clear kN kF
      k_steps
      (rename Kept s.heap _ _ => kK)
      exact hret _ _ _ _ _ _ (.inl rfl) (ev1 hx) kK hP8 (PoolO.mono (by assumption) (by omega)) Y8
    · unfold Stop
      (rename Fr g' L' _ _ => kF); (rename News g' L' _ _ => kN)
      k_dflt (refine draw_pool B' kF X' T' rfl rfl rfl rfl (roomD hdp (by decide)) (roomU hun (by decide)) nP.2.2 nP.2.1 (hGg.fr kF) (kN _ (.tail _ (.head _))).1 p0 (by omega) (by decide) (by decide) ?_)
      intro r1 t1 h1 tk1 o6 K1 hP1 p1 hr1 hs1
      have F1 := kept_fr kF K1 (by simpa using ⟨nP.2.2, nP.2.1⟩)
      have NB := put_first kN K1 hP1 (Nat.ne_of_gt (And.left (by assumption))) n4
      clear kN kF
      k_steps
      unfold Stop
      (rename News g' L' _ _ => kN)
      refine menu_item kN (.tail _ (.head _)) (tx := biL) (by unfold biL; repeat constructor) hr1 hs1 (by omega) ?_
      intro x tx0 hx
      k_steps
      unfold Stop
      (rename Fr g' L' _ _ => kF); (rename News g' L' _ _ => kN)
      have Y1 := SB kF kN (fun p hp => by simp only [List.mem_cons] at hp ⊢; rcases hp with e | e | e | e | e <;> simp [e])
      have hP7 := (kN (P, o6) (by simp)).1
      k_dflt (refine func_spec B' kF X' T' rfl rfl rfl rfl (roomD hdp (by decide)) (roomU hun (by decide)) Y1 hz' hlt hlf ?_)
      intro tq h8 tk8 K8 Y8
      have F8 := kept_fr kF K8 hz'
      have hP8 := K8 P _ hP7 (fun q => hPz (mods_all q))
      have N8 := news_cons hP8 nP.2.1 nP.2.2 News.nil
      clear kN kF
      k_steps
      (rename Kept s.heap _ _ => kK)
      exact hret _ _ _ _ _ _ (.inr ⟨rfl, by assumption⟩) (ev2 hx) kK hP8 (PoolO.mono (by assumption) (by omega)) Y8

end
end
section
theorem walk_off_M22 : True := by
  w_top off
  trivial
open PySem PySem.W PyProof.Rows PySem.Calls PySem.Spec
inductive RowsAre (h : Heap) : List Value → Prop
  | nil : RowsAre h []
  | cons {a : Addr} {x : Str} {k : Int} {t u : Tok} {r : List Value} : IsTup h a #[.str x t, .int k u] → RowsAre h r → RowsAre h (.ref a :: r)
theorem istup_of {g h : Heap} {L a : Addr} {news : List (Addr × Obj)} {items : Array Value} (N : News g L h news) (hm : (a, ({ cls := .type "tuple", data := .seq items 0 } : Obj)) ∈ news) : IsTup h a items := ⟨_, (N _ hm).1, rfl, 0, rfl⟩
theorem RowsAre.at {h : Heap} {l : List Value} (x : RowsAre h l) : ∀ {i : Nat} {v : Value}, l[i]? = some v → ∃ a x k t u, v = .ref a ∧ IsTup h a #[.str x t, .int k u] := by
  induction x with
  | nil => intro i v e; simp at e
  | cons ht _ ih =>
    intro i v e
    cases i with
    | zero => simp at e; subst e; exact ⟨_, _, _, _, _, rfl, ht⟩
    | succ j => exact ih (by simpa using e)
theorem RowsAre.mono' {h h' : Heap} {l : List Value} (x : RowsAre h l) (k : ∀ b o, h.get? b = some o → h'.get? b = some o) : RowsAre h' l := by
  induction x with
  | nil => exact .nil
  | cons a _ ih => exact .cons (let ⟨o, e, r⟩ := a; ⟨o, k _ _ e, r⟩) ih
noncomputable def isStrV : Value → Bool | .str _ _ => true | _ => false
theorem isStrV_get {l : List Value} (h : l.all isStrV = true) {i : Nat} {v : Value} (e : l[i]? = some v) : ∃ y t, v = .str y t := by
  have := List.all_eq_true.mp h v (List.mem_of_getElem? e)
  cases v with
  | str y t => exact ⟨y, t, rfl⟩
  | _ => cases this
inductive RowE : List Expr → Prop
  | nil : RowE []
  | cons {x : Str} {n : Int} {p q pos : Pos} {k c d : Nat} {r : List Expr} : RowE r → RowE (.Tuple [.Constant (.str x) c p, .Constant (.int n) d q] k pos :: r)
section
variable {prog : Program} {w : World} {A : Around} {E : Value → Shared → Prop} {env : Env} {g : Heap} {L : Addr} {m : Str → Option Value} {pos : Pos}
theorem rows_eval {es : List Expr} (x : RowE es) : ∀ {s : Shared} {Q : List Value → Shared → Prop}, Fr g L s.heap m →
    (∀ vs h' tk', Fr g L h' m → (∀ b o, s.heap.get? b = some o → h'.get? b = some o) → RowsAre h' vs → vs.length = es.length → Q vs { s with heap := h', toks := tk' }) → wpAny (model prog w) A (spliced (backTo pos (starEach es env))) Q E s := by
  induction x with
  | nil => exact fun F h => args_nil (h [] _ _ F (fun _ _ e => e) .nil rfl)
  | cons r ih =>
    intro s Q F h
    refine args_cons (Tuple_ (args_cons (Constant_str (args_cons (wpAny_Constant_int (args_nil ?_))))))
    refine wpAny_newObj_type ?_ (by show (2 : Nat) ≤ sizeLine; rw [sizeLine_eq]; decide)
    refine ih ?_ ?_
    · exact F.keeps fun b o e => Heap.get?_push_of_some _ e
    · intro vs h' tk' F' K' R' hl
      exact h (_ :: vs) h' tk' F' (fun b o e => K' b o (Heap.get?_push_of_some _ e)) (.cons ⟨_, K' _ _ (Heap.get?_push_size _ rfl), rfl, 0, rfl⟩ R') (by simp [hl])
theorem rowTuple {es : List Expr} {k : Nat} {pos2 : Pos} (x : RowE es) {s : Shared} {Q : Value → Shared → Prop} (F : Fr g L s.heap m) (hz : es.length ≤ 100)
    (h : ∀ (t : Addr) (items : Array Value) h' tk', Fr g L h' m → (∀ b o, s.heap.get? b = some o → h'.get? b = some o) → IsTup h' t items → RowsAre h' items.toList → items.size = es.length → Q (.ref t) { s with heap := h', toks := tk' }) :
    wpAny (model prog w) A (eval (.Tuple es k pos2) env) Q E s := by
  refine Tuple_ (rows_eval x F fun vs h2 tk2 F2 K2 R2 hl => ?_)
  refine wpAny_newObj_type ?_ (by show vs.toArray.size ≤ sizeLine; rw [List.size_toArray, hl, sizeLine_eq]; omega)
  exact h _ vs.toArray _ _ (F2.keeps fun b o e => Heap.get?_push_of_some _ e) (fun b o e => Heap.get?_push_of_some _ (K2 b o e)) ⟨_, Heap.get?_push_size _ rfl, rfl, 0, rfl⟩ (R2.mono' fun b o e => Heap.get?_push_of_some _ e) (by simp [hl])
end
section
variable {w : World} {mean : ExcName → Option Value} {mg mb : Str → Option Value} {A : Around} {env : Env} {outer : List Env} {A₀ : Around} {base h₀ : Heap} {L : Addr} {m : Str → Option Value} {s : Shared} {Q E : Value → Shared → Prop}
  (B : Below A₀ base outer h₀) (F : Fr h₀ L s.heap m) (X : (hd.heap_1 w.params).In h₀) (T : Top hdV (looseW hdV []) mean mg mb h₀)
  (hA : A.frames = some (env :: outer)) (hf : env.frame = some L) (hke : env.scope.kind = .function) (hh : A.handled = none)
include B F X T hA hf hke hh
theorem fatoms_spec (hdp : A.depth + 1 < recursionLimit) (hun : A.units + 8 < cLine)
    (hret : ∀ (t : Addr) (items : Array Value) (h' : Heap) (tk' : Nat), Kept s.heap h' [] → IsTup h' t items → items.toList.all isStrV = true → items.size = 29 → Q (.ref t) { s with heap := h', toks := tk' }) :
    wpAny (model PySem.Challenge.rw_rh0079_01.row.prog w) A (PySem.call (.ref 60) ([] ++ [])) Q E s := by
  revert X; k_fill; intro X
  refine wpAny_call ?_
  obtain ⟨hd0, dp, fr, gd, un⟩ := A
  dsimp only at hA hh hdp hun
  subst hA hh
  have N : News h₀ L s.heap [] := News.nil
  k_dflt (refine' enter_fn (rb := []) B F X N T ?kA hf hke ?k6 ?k7 ?k8 ?k9 ?kB ?kR ?_ ?c2 ?c3 ?c4 ?c5; (case kA => exact rfl); (case k6 => k_is); (case k7 => k_is); (case k8 => exact room0 hdp); (case k9 => exact BindsTo.of_eq rfl); (case kR => exact rfl); (case c5 => decide); (case kB => exact locs rfl); (case c2 => exact rfl); (case c3 => exact rfl); (case c4 => exact rfl); k_whole; intro g' L' h' F' N' B' X' T' K' S' Z' tkE; (try dsimp only); (try k_fold); refine let_AE ?_; intro A1 en)
  k_steps
  (rename News g' L' _ _ => kN); (rename Kept s.heap _ _ => kK)
  refine hret _ _ _ _ kK ⟨_, (kN _ (.head _)).1, rfl, 0, rfl⟩ rfl rfl
end
local macro_rules | `(tactic| walk_at "eval Tuple") => `(tactic| refine stop_call ?_)
section
variable {w : World} {mean : ExcName → Option Value} {mg mb : Str → Option Value} {A : Around} {env : Env} {outer : List Env} {A₀ : Around} {base h₀ : Heap} {L : Addr} {m : Str → Option Value} {s : Shared} {Q E : Value → Shared → Prop}
  (B : Below A₀ base outer h₀) (F : Fr h₀ L s.heap m) (X : (hd.heap_1 w.params).In h₀) (T : Top hdV (looseW hdV []) mean mg mb h₀)
  (hA : A.frames = some (env :: outer)) (hf : env.frame = some L) (hke : env.scope.kind = .function) (hh : A.handled = none)
include B F X T hA hf hke hh
theorem ffuncs_spec (hdp : A.depth + 1 < recursionLimit) (hun : A.units + 8 < cLine)
    (hret : ∀ (t : Addr) (items : Array Value) (h' : Heap) (tk' : Nat), Kept s.heap h' [] → IsTup h' t items → RowsAre h' items.toList → items.size = 32 → Q (.ref t) { s with heap := h', toks := tk' }) :
    wpAny (model PySem.Challenge.rw_rh0079_01.row.prog w) A (PySem.call (.ref 67) ([] ++ [])) Q E s := by
  revert X; k_fill; intro X
  refine wpAny_call ?_
  obtain ⟨hd0, dp, fr, gd, un⟩ := A
  dsimp only at hA hh hdp hun
  subst hA hh
  have N : News h₀ L s.heap [] := News.nil
  k_dflt (refine' enter_fn (rb := []) B F X N T ?kA hf hke ?k6 ?k7 ?k8 ?k9 ?kB ?kR ?_ ?c2 ?c3 ?c4 ?c5; (case kA => exact rfl); (case k6 => k_is); (case k7 => k_is); (case k8 => exact room0 hdp); (case k9 => exact BindsTo.of_eq rfl); (case kR => exact rfl); (case c5 => decide); (case kB => exact locs rfl); (case c2 => exact rfl); (case c3 => exact rfl); (case c4 => exact rfl); k_whole; intro g' L' h' F' N' B' X' T' K' S' Z' tkE; (try dsimp only); (try k_fold); refine let_AE ?_; intro A1 en)
  k_steps
  unfold Stop
  (rename Fr g' L' _ _ => kF)
  with_reducible refine rowTuple ?_ kF ?_ ?_
  · repeat constructor
  · exact Nat.le_of_ble_eq_true rfl
  intro t items h2 tk2 F2 K2 T2 R2 hl
  clear kF
  have N2 := News.nil (h₀ := g') (L := L') (h := h2)
  k_steps
  exact hret _ _ _ _ (by assumption) T2 R2 hl
end
end
section
theorem walk_off_M23 : True := by
  w_top off
  trivial
open PySem PySem.W PyProof.Rows PySem.Calls PySem.Spec
theorem sym_start {w : World} {h : Heap} {S dS T AN F FN n n1 n2 : Nat} {t1 t2 t3 t4 : Tok} {oA oF : Obj} (hS : h.get? S = some (instObj 154 dS)) (hdS : h.get? dS = some (symDict w ⟨S, dS, T, AN, F, FN, t1, t2, t3, t4, n⟩)) (hT : h.get? T = some (W.listOf #[] n1)) (hA : h.get? AN = some oA) (hF : h.get? F = some (W.listOf #[] n2)) (hFN : h.get? FN = some oF)
    (dA : oA.IsDictOf (kS w) []) (dF : oF.IsDictOf (kI w) []) (l1 : (AN == sysModules) = false) (l2 : (FN == sysModules) = false) (nd : [S, dS, T, AN, F, FN].Nodup) : SymH w h ⟨S, dS, T, AN, F, FN, t1, t2, t3, t4, n⟩ [] [] := by
  obtain ⟨es, ep, ex, hd, _, he, _⟩ := dF
  have he : es.toList = [] := by
    cases q : es.toList with
    | nil => rfl
    | cons a r => rw [q] at he; cases he
  exact ⟨hS, hdS, ⟨[], n1, hT, .nil⟩, ⟨oA, hA, [], dA, rfl, fun i v e => by simp at e⟩, ⟨oF, [], n2, hFN, ⟨es, ep, ex, hd, by simpa using he, by simp⟩, ⟨rfl, fun i v e => by simp at e⟩, fun p hp => by simp at hp, hF⟩, nd, l1, l2, by simp, by simp⟩
theorem sym_start' {w : World} {g h : Heap} {L S dS T AN F FN n n1 n2 : Nat} {t1 t2 t3 t4 : Tok} {oA oF : Obj} (N : News g L h [(FN, oF), (F, W.listOf #[] n2), (AN, oA), (T, W.listOf #[] n1), (S, instObj 154 dS), (dS, symDict w ⟨S, dS, T, AN, F, FN, t1, t2, t3, t4, n⟩)])
    (dA : oA.IsDictOf (kS w) []) (dF : oF.IsDictOf (kI w) []) (l1 : (AN == sysModules) = false) (l2 : (FN == sysModules) = false) (nd : [S, dS, T, AN, F, FN].Nodup) : ∃ z : SA, z.S = S ∧ SymH w h z [] [] ∧ ∀ a ∈ z.all, g.get? a = none ∧ a ≠ L := by
  have e1 := N _ (.head _)
  have e2 := N _ (.tail _ (.head _))
  have e3 := N _ (.tail _ (.tail _ (.head _)))
  have e4 := N _ (.tail _ (.tail _ (.tail _ (.head _))))
  have e5 := N _ (.tail _ (.tail _ (.tail _ (.tail _ (.head _)))))
  have e6 := N _ (.tail _ (.tail _ (.tail _ (.tail _ (.tail _ (.head _))))))
  refine ⟨_, rfl, sym_start (t1 := t1) (t2 := t2) (t3 := t3) (t4 := t4) e5.1 e6.1 e4.1 e3.1 e2.1 e1.1 dA dF l1 l2 nd, ?_⟩
  simp only [SA.all, List.mem_cons, List.not_mem_nil, or_false, forall_eq_or_imp, forall_eq]
  exact ⟨⟨e5.2.2, e5.2.1⟩, ⟨e6.2.2, e6.2.1⟩, ⟨e4.2.2, e4.2.1⟩, ⟨e3.2.2, e3.2.1⟩, ⟨e2.2.2, e2.2.1⟩, ⟨e1.2.2, e1.2.1⟩⟩
theorem tup_ne {g h : Heap} {L t : Addr} {m : Str → Option Value} {items : Array Value} (ht : IsTup h t items) (F : Fr g L h m) : t ≠ L := by
  rintro rfl
  obtain ⟨o, es, ep, ho, hd, _⟩ := F.ns
  obtain ⟨o', ho', _, n, hd'⟩ := ht
  rw [ho] at ho'; cases ho'; rw [hd] at hd'; cases hd'
theorem fr_notTup {g h : Heap} {L : Addr} {m : Str → Option Value} (F : Fr g L h m) : ∀ o, h.get? L = some o → ∀ items n, o.data ≠ .seq items n := by
  intro o e items n q
  obtain ⟨o', es, ep, ho, hd, _⟩ := F.ns
  rw [ho] at e; cases e; rw [hd] at q; cases q
/-- the table over a turn of a loop -/
theorem sym_turn {w : World} {hp h : Heap} {L I : Nat} {z : SA} {tx : List Str} {fs : List (Int × Int)} (Y : SymH w hp z tx fs) (K : Kept hp h [L, I]) (hL : L ∉ z.all) (hI : I ∉ z.all) (nL : ∀ o, hp.get? L = some o → ∀ items n, o.data ≠ .seq items n) (nI : ∀ o, hp.get? I = some o → o.cls ≠ .type "tuple") : SymH w h z tx fs :=
  Y.kept' K (by simp only [List.mem_cons, List.not_mem_nil, or_false, forall_eq_or_imp, forall_eq]; exact ⟨hL, hI⟩) (by
    simp only [List.mem_cons, List.not_mem_nil, or_false, forall_eq_or_imp, forall_eq]
    exact ⟨fun o e _ => nL o e, fun o e c => absurd c (nI o e)⟩)
theorem tup_turn {hp h : Heap} {L I : Nat} {a : Addr} {items : Array Value} (x : IsTup hp a items) (K : Kept hp h [L, I]) (nL : ∀ o, hp.get? L = some o → ∀ items n, o.data ≠ .seq items n) (nI : ∀ o, hp.get? I = some o → o.cls ≠ .type "tuple") : IsTup h a items := by
  obtain ⟨o, e, c, n, d⟩ := x
  refine ⟨o, K _ _ e ?_, c, n, d⟩
  simp only [List.mem_cons, List.not_mem_nil, or_false, not_or]
  exact ⟨fun r => by subst r; exact nL o e _ _ d, fun r => by subst r; exact nI o e c⟩
theorem RowsAre.map {h h' : Heap} (k : ∀ a items, IsTup h a items → IsTup h' a items) {l : List Value} (x : RowsAre h l) : RowsAre h' l := by
  induction x with
  | nil => exact .nil
  | cons a _ ih => exact .cons (k _ _ a) ih
theorem RowsAre.mono {h h' : Heap} {l : List Value} (x : RowsAre h l) (k : ∀ b o, h.get? b = some o → h'.get? b = some o) : RowsAre h' l := x.map fun _ _ ⟨o, e, r⟩ => ⟨o, k _ _ e, r⟩
theorem RowsAre.turn {hp h : Heap} {L I : Nat} {l : List Value} (x : RowsAre hp l) (K : Kept hp h [L, I]) (nL : ∀ o, hp.get? L = some o → ∀ items n, o.data ≠ .seq items n) (nI : ∀ o, hp.get? I = some o → o.cls ≠ .type "tuple") : RowsAre h l := x.map fun _ _ y => tup_turn y K nL nI
theorem RowsAre.kept {h h' : Heap} {ms : List Addr} {l : List Value} (x : RowsAre h l) (K : Kept h h' ms) (hm : ∀ b ∈ ms, ∀ o, h.get? b = some o → o.cls ≠ .type "tuple") : RowsAre h' l := x.map fun _ _ ⟨o, e, c, r⟩ => ⟨o, K _ _ e (fun q => hm _ q o e c), c, r⟩
theorem k154_makes (P : Params) : makesIn (hd.heap_1 P) 154 = true := by kernel_rfl
theorem k154_init (P : Params) : findIn (hd.heap_1 P) (.ref 154) "__init__" = some (some (.ref 81)) := by kernel_rfl
theorem k81_fn (P : Params) : typeIn (hd.heap_1 P) (.ref 81) = some (.type "function") := by kernel_rfl
theorem norm1 {m : Str → Option Value} {a : Str} {p : Value} (h1 : m a = some p) : m = fun y => if y = a then some p else m y := by
  funext y; by_cases e : y = a
  · subst e; simp [h1]
  · simp [e]
section
variable {w : World} {mean : ExcName → Option Value} {mg mb : Str → Option Value} {A : Around} {env : Env} {outer : List Env} {A₀ : Around} {base h₀ : Heap} {L : Addr} {m : Str → Option Value} {s : Shared} {Q E : Value → Shared → Prop}
  (B : Below A₀ base outer h₀) (F : Fr h₀ L s.heap m) (X : (hd.heap_1 w.params).In h₀) (T : Top hdV (looseW hdV []) mean mg mb h₀)
  (hA : A.frames = some (env :: outer)) (hf : env.frame = some L) (hke : env.scope.kind = .function) (hh : A.handled = none)
include B F X T hA hf hke hh
theorem symbols_spec (hdp : A.depth + 6 < recursionLimit) (hun : A.units + 60 < cLine)
    (hret : ∀ (z : SA) (tx : List Str) (fs : List (Int × Int)) (h' : Heap) (tk' : Nat), (∀ a ∈ z.all, s.heap.get? a = none) → Kept s.heap h' [] → SymH w h' z tx fs → tx.length ≤ 100 → fs.length ≤ 100 → Q (.ref z.S) { s with heap := h', toks := tk' }) :
    wpAny (model PySem.Challenge.rw_rh0079_01.row.prog w) A (PySem.call (.ref 154) []) Q E s := by
  revert X; k_fill; intro X
  refine wpAny_call ?_
  obtain ⟨hd0, dp, fr, gd, un⟩ := A
  dsimp only at hA hh hdp hun
  subst hA hh
  obtain ⟨sh, sg, sd, st, so⟩ := s
  have XX := X.keeps F.keep
  refine make_core (makes_of XX (k154_makes _)) (looks_findIn XX (k154_init _)) (fun self => bind_fn XX self (k81_fn _)) (.inl rfl) ?_
  have kk : ∀ b o, sh.get? b = some o → ((sh.push emptyDict).push (instObj 154 sh.objs.size)).get? b = some o := fun b o e => Heap.get?_push_of_some _ (Heap.get?_push_of_some _ e)
  have hge : ((sh.push emptyDict).push (instObj 154 sh.objs.size)).get? (sh.objs.size + 1) = some (instObj 154 sh.objs.size) := by heap_get
  have hgd : ((sh.push emptyDict).push (instObj 154 sh.objs.size)).get? sh.objs.size = some (dictOf [] 0) := Heap.get?_push_of_some _ (Heap.get?_push_size _ rfl)
  have hen : sh.get? (sh.objs.size + 1) = none := Heap.get?_none_of_le (by omega)
  have hdn : sh.get? sh.objs.size = none := Heap.get?_none_of_le (Nat.le_refl _)
  have hlt : sh.objs.size < sh.objs.size + 1 := Nat.lt_succ_self _
  generalize hE : sh.objs.size + 1 = S at hge hen hlt ⊢
  generalize hT : sh.objs.size = dS at hge hgd hdn hlt ⊢
  generalize hH : (sh.push emptyDict).push (instObj 154 dS) = h1 at hge hgd ⊢
  have kk1 : ∀ b o, sh.get? b = some o → h1.get? b = some o := by subst hT hH; exact kk
  have F1 : Fr h₀ L h1 m := F.keeps kk1
  have nS := new_to F hen
  have nD := new_to F hdn
  have N : News h₀ L h1 [(S, instObj 154 dS), (dS, dictOf [] 0)] := news_cons hge nS.1 nS.2 (news_cons hgd nD.1 nD.2 News.nil)
  k_dflt (refine' enter_fn (rb := [(Str.ofString "self", .ref S)]) (s := ⟨h1, sg, sd, st, so⟩) B F1 X N T ?kA hf hke ?k6 ?k7 ?k8 ?k9 ?kB ?kR ?_ ?c2 ?c3 ?c4 ?c5; (case kA => exact rfl); (case k6 => k_is); (case k7 => k_is); (case k8 => exact roomD (j := 0) hdp (by decide)); (case k9 => exact BindsTo.of_eq rfl); (case kR => exact rfl); (case c5 => decide); (case kB => exact locs rfl); (case c2 => exact rfl); (case c3 => exact rfl); (case c4 => exact rfl); k_whole; intro g' L' h' F' N' B' X' T' K' S' Z' tkE; (try dsimp only); (try k_fold); refine let_AE ?_; intro A1 en)
  k_steps
  unfold Stop
  (rename Fr g' L' _ _ => kF); (rename News g' L' _ _ => kN)
  obtain ⟨z, hzS, Y0, hfr⟩ := sym_start' kN (by assumption) (by assumption) (by assumption) (by assumption) (by simp only [List.nodup_cons, List.mem_cons, List.not_mem_nil, or_false, not_or, List.nodup_nil, and_true, not_false_eq_true]; omega)
  subst hzS
  have hz' : Fresh g' L' z := fun a ha => hfr a (mods_all ha)
  have hLz : L' ∉ z.all := fun q => (hfr _ q).2 rfl
  have sub : ∀ b o, sh.get? b = some o → g'.get? b = some o := fun b o e => K' b o (kk1 b o e) (by
    simp only [List.map_cons, List.map_nil, List.mem_cons, List.not_mem_nil, or_false, not_or]
    exact ⟨(fun r => by rw [r, hen] at e; cases e), (fun r => by rw [r, hdn] at e; cases e)⟩)
  have zn : ∀ a ∈ z.all, sh.get? a = none := fun a ha => by
    cases q : sh.get? a with
    | none => rfl
    | some o => have := sub a o q; rw [(hfr a ha).1] at this; cases this
  have d5 : dp + 1 + 1 + 3 < recursionLimit := by omega
  have u5 : un + 1 + 3 + 30 < cLine := by omega
  k_dflt (refine fatoms_spec B' kF X' T' rfl rfl rfl rfl (show dp + 1 + 1 + 1 < recursionLimit by omega) (show un + 1 + 3 + 8 < cLine by omega) ?_)
  intro t items h2 tk2 K2 ht hstr hsz
  have F2 := kept_fr kF K2 (by simp)
  have Y1 := Y0.kept0 K2
  clear kF kN Y0
  refine loopTup (fun i m hp => m (Str.ofString "self") = some (.ref z.S) ∧ (∃ tx, tx.length ≤ i ∧ SymH w hp z tx []) ∧ ∀ o, hp.get? L' = some o → ∀ items n, o.data ≠ .seq items n) rfl ht (tup_ne ht F2) F2 ?_ ?_ ?_
  · intro h k
    refine ⟨rfl, ⟨[], Nat.le_refl _, Y1.kept0 fun b o e _ => k b o e⟩, fun o e => ?_⟩
    obtain ⟨o', es, ep, ho, hd, _⟩ := F2.ns
    have e' : h.get? L' = some o' := k _ _ ho; rw [e'] at e; cases e; intro items n q; rw [hd] at q; cases q
  · intro i v I m₁ hp h tk hi hv ⟨hself, ⟨tx, hlen, Y⟩, hnL⟩ hpI hG hK hI0 hIL hIn hIo ht2 F3
    obtain ⟨y, ty, rfl⟩ := isStrV_get hstr (i := i) (by simpa using hv)
    have hIz : I ∉ z.all := fun q => by obtain ⟨o, e⟩ := Y1.here _ q; exact hIn _ _ e rfl
    have Yh := sym_turn Y hK hLz hIz hnL hpI
    rw [norm1 hself] at F3
    have N3 : News g' L' h [(z.S, instObj 154 z.dS), (z.dS, symDict w z)] := news_cons Yh.oS (hfr _ (.head _)).2 (hfr _ (.head _)).1 (news_cons Yh.odS (hfr _ (.tail _ (.head _))).2 (hfr _ (.tail _ (.head _))).1 News.nil)
    k_steps
    unfold Stop
    (rename Fr g' L' _ _ => kF)
    k_dflt (refine atom_spec B' kF X' T' rfl rfl rfl rfl (show dp + 1 + 1 + 1 < recursionLimit by omega) (show un + 1 + 3 + 8 < cLine by omega) Yh hz' (by omega) ?_)
    intro tk3 h3 tk3' K3 Y3
    have F4 := kept_fr kF K3 (fun b hb => hz' b (by simp only [SA.mods, List.mem_cons, List.not_mem_nil, or_false] at hb ⊢; rcases hb with e | e <;> simp [e]))
    have N4 : News g' L' h3 [] := News.nil
    have h2z : ∀ b ∈ [z.T, z.AN], b ∈ z.all := fun b hb => mods_all (by simp only [SA.mods, List.mem_cons, List.not_mem_nil, or_false] at hb ⊢; rcases hb with e | e <;> simp [e])
    clear kF N3
    k_steps
    refine HStep.intro (by assumption) (fun b hb o e => ?_) ⟨rfl, ⟨_, ?_, Y3⟩, fun o e => fr_notTup (by assumption) o e⟩
    · simp only [List.mem_cons, List.not_mem_nil, or_false] at hb
      refine K3 b o e fun q => ?_
      rcases hb with rfl | rfl
      · exact hIz (h2z _ q)
      · obtain ⟨o2, e2, c2, _⟩ := ht2
        rw [e] at e2; cases e2
        exact Yh.notTup _ (h2z _ q) _ e c2
    · have := addNew_length tx y; omega
  · intro I m₁ hp h tk ⟨hself, ⟨tx, hlen, Y⟩, hnL⟩ hpI hG hK hIL hIn F3
    have hIz : I ∉ z.all := fun q => by obtain ⟨o, e⟩ := Y1.here _ q; exact hIn _ _ e rfl
    have Yh := sym_turn Y hK hLz hIz hnL hpI
    rw [norm1 hself] at F3
    have N3 : News g' L' h [(z.S, instObj 154 z.dS), (z.dS, symDict w z)] := news_cons Yh.oS (hfr _ (.head _)).2 (hfr _ (.head _)).1 (news_cons Yh.odS (hfr _ (.tail _ (.head _))).2 (hfr _ (.tail _ (.head _))).1 News.nil)
    k_steps
    unfold Stop
    (rename Fr g' L' _ _ => kF)
    k_dflt (refine ffuncs_spec B' kF X' T' rfl rfl rfl rfl (show dp + 1 + 1 + 1 < recursionLimit by omega) (show un + 1 + 3 + 8 < cLine by omega) ?_)
    intro t5 items5 h5 tk5 K5 ht5 hrow hsz5
    have F5 := kept_fr kF K5 (by simp)
    have Y5 := Yh.kept0 K5
    rw [hsz] at hlen
    clear kF N3 Yh Y
    refine loopTup (fun i m hp => m (Str.ofString "self") = some (.ref z.S) ∧ (∃ tx fs, tx.length ≤ 29 + i ∧ fs.length ≤ i ∧ SymH w hp z tx fs ∧ RowsAre hp items5.toList) ∧ ∀ o, hp.get? L' = some o → ∀ items n, o.data ≠ .seq items n) rfl ht5 (tup_ne ht5 F5) F5 ?_ ?_ ?_
    · intro h k
      refine ⟨rfl, ⟨tx, [], hlen, Nat.le_refl _, Y5.kept0 fun b o e _ => k b o e, hrow.mono k⟩, fun o e => ?_⟩
      obtain ⟨o', es, ep, ho, hd, _⟩ := F5.ns
      have e' : h.get? L' = some o' := k _ _ ho; rw [e'] at e; cases e; intro items n q; rw [hd] at q; cases q
    · intro i v I m₁ hp h tk hi hv ⟨hself, ⟨tx, fs, hlen, hlenf, Y, hrw⟩, hnL⟩ hpI hG hK hI0 hIL hIn hIo ht2 F3
      obtain ⟨a, y, k, ty, uy, rfl, hrp⟩ := hrw.at (i := i) (by simpa using hv)
      have hIz : I ∉ z.all := fun q => by obtain ⟨o, e⟩ := Y5.here _ q; exact hIn _ _ e rfl
      have Yh := sym_turn Y hK hLz hIz hnL hpI
      have hr2 : IsTup h a #[.str y ty, .int k uy] := tup_turn hrp hK hnL hpI
      rw [norm1 hself] at F3
      have N3 : News g' L' h [(z.S, instObj 154 z.dS), (z.dS, symDict w z)] := news_cons Yh.oS (hfr _ (.head _)).2 (hfr _ (.head _)).1 (news_cons Yh.odS (hfr _ (.tail _ (.head _))).2 (hfr _ (.tail _ (.head _))).1 News.nil)
      k_steps
      unfold Stop
      (rename Fr g' L' _ _ => kF)
      k_dflt (refine func_spec B' kF X' T' rfl rfl rfl rfl (show dp + 1 + 1 + 2 < recursionLimit by omega) (show un + 1 + 3 + 12 < cLine by omega) Yh hz' (by omega) (by omega) ?_)
      intro tk3 h3 tk3' K3 Y3
      have F4 := kept_fr kF K3 hz'
      have N4 : News g' L' h3 [] := News.nil
      clear kF N3
      k_steps
      refine HStep.intro (by assumption) (fun b hb o e => ?_) ⟨rfl, ⟨_, _, ?_, ?_, Y3, (hrw.turn hK hnL hpI).kept K3 fun b hb o e => Yh.notTup b (mods_all hb) o e⟩, fun o e => fr_notTup (by assumption) o e⟩
      · simp only [List.mem_cons, List.not_mem_nil, or_false] at hb
        refine K3 b o e fun q => ?_
        rcases hb with rfl | rfl
        · exact hIz (mods_all q)
        · obtain ⟨o2, e2, c2, _⟩ := ht2
          rw [e] at e2; cases e2
          exact Yh.notTup _ (mods_all q) _ e c2
      · have := addNew_length tx y; omega
      · have := addNew_length fs (numOf (addNew tx y) y, k); omega
    · intro I m₁ hp h tk ⟨hself, ⟨tx, fs, hlen, hlenf, Y, hrw⟩, hnL⟩ hpI hG hK hIL hIn F3
      have hIz : I ∉ z.all := fun q => by obtain ⟨o, e⟩ := Y5.here _ q; exact hIn _ _ e rfl
      have Yh := sym_turn Y hK hLz hIz hnL hpI
      rw [hsz5] at hlen hlenf
      have N3 : News g' L' h [] := News.nil
      have gh : ∀ b o, g'.get? b = some o → h.get? b = some o := F3.keep
      k_steps
      (try refine ⟨rfl, ?_⟩)
      exact hret z tx fs h _ zn (fun b o e _ => gh b o (sub b o e)) Yh (by omega) (by omega)
end
end
section
theorem walk_off_R1 : True := by
  w_top off
  trivial
open PySem PySem.W PyProof.Rows PySem.Calls PySem.Spec
theorem addNew_twice {α : Type} [DecidableEq α] {l : List α} {x : α} (h : x ∈ l) : addNew l x = l := addNew_mem h
theorem addNew_keeps {α : Type} [DecidableEq α] {l : List α} {x : α} (y : α) (h : x ∈ l) : x ∈ addNew l y := by
  obtain ⟨r, e⟩ := addNew_prefix l y; rw [e]; exact List.mem_append_left _ h
theorem erT_twice (tx : List Str) (nm x : Str) : erT (erT tx nm x) nm x = erT tx nm x := by
  have h1 : x ∈ erT tx nm x := addNew_keeps _ (addNew_has tx x)
  have h2 : nm ∈ erT tx nm x := addNew_has _ _
  show addNew (addNew (erT tx nm x) x) nm = _
  rw [addNew_mem h1, addNew_mem h2]
theorem erF_twice (tx : List Str) (fs : List (Int × Int)) (nm x : Str) (k : Int) : erF (erT tx nm x) (erF tx fs nm x k) nm x k = erF tx fs nm x k := by
  show addNew (erF tx fs nm x k) (numOf (erT (erT tx nm x) nm x) nm, k) = _
  rw [erT_twice]
  exact addNew_mem (addNew_has fs _)
theorem ball_twice (er : Er) (tx : List Str) (fs : List (Int × Int)) : er.ball (er.T tx) (er.F tx fs) = er.ball tx fs := by
  unfold Er.ball Er.T Er.F formalD
  rw [erF_twice, erT_twice]
theorem erT_prefix (er : Er) (tx : List Str) : ∃ r, er.T tx = tx ++ r := by
  obtain ⟨r, e⟩ := addNew_prefix tx er.x
  obtain ⟨r2, e2⟩ := addNew_prefix (addNew tx er.x) er.nm
  exact ⟨r ++ r2, by show addNew (addNew tx er.x) er.nm = _; rw [e2, e, List.append_assoc]⟩
theorem erF_prefix (er : Er) (tx : List Str) (fs : List (Int × Int)) : ∃ r, er.F tx fs = fs ++ r := addNew_prefix fs _
theorem erT_len (er : Er) (tx : List Str) : (er.T tx).length ≤ tx.length + 2 := by
  have h1 := addNew_length tx er.x
  have h2 := addNew_length (addNew tx er.x) er.nm
  show (addNew (addNew tx er.x) er.nm).length ≤ _
  omega
theorem erF_len (er : Er) (tx : List Str) (fs : List (Int × Int)) : (er.F tx fs).length ≤ fs.length + 1 := addNew_length fs _
theorem FnAt.mono {tx : List Str} {fs : List (Int × Int)} {i ar : Int} {x : Str} (h : FnAt tx fs i x ar) (r : List Str) (r2 : List (Int × Int)) : FnAt (tx ++ r) (fs ++ r2) i x ar := by
  obtain ⟨i0, i62, na, h1, h2, h3, h4⟩ := h
  exact ⟨i0, i62, na, by rw [List.getElem?_append_left (List.getElem?_eq_some_iff.mp h1).1]; exact h1, h2, h3, by rw [List.getElem?_append_left (List.getElem?_eq_some_iff.mp h4).1]; exact h4⟩
theorem WfT.mono {tx : List Str} {fs : List (Int × Int)} (r : List Str) (r2 : List (Int × Int)) : ∀ {t : Tm}, WfT tx fs t → WfT (tx ++ r) (fs ++ r2) t
  | .num _, h => h
  | .un _ _ _, ⟨h1, h2, h3⟩ => ⟨h1.mono r r2, h2, h3.mono r r2⟩
  | .bin _ _ _ _, ⟨h1, h2, h3, h4⟩ => ⟨h1.mono r r2, h2, h3.mono r r2, h4.mono r r2⟩
/-- the rows of terms and of values, seen from their end -/
inductive Rows (h : Heap) (tx : List Str) (fs : List (Int × Int)) (mb : Int) : List Value → List Value → Nat → Prop
  | nil : Rows h tx fs mb [] [] 0
  | snoc {tv vv : List Value} {k : Nat} {t : Tm} {v : Value} {n : Int} {u : Tok} : Rows h tx fs mb tv vv k → TmAt h t v → WfT tx fs t → evT mb t = .ok n → n.natAbs < 2 ^ 65 → Rows h tx fs mb (tv ++ [v]) (vv ++ [.int n u]) (k + t.sz)
theorem Rows.len {h : Heap} {tx : List Str} {fs : List (Int × Int)} {mb : Int} {tv vv : List Value} {k : Nat} (x : Rows h tx fs mb tv vv k) : tv.length = vv.length ∧ tv.length ≤ k := by
  induction x with
  | nil => exact ⟨rfl, Nat.le_refl _⟩
  | snoc _ _ _ _ _ ih => rename_i t _ _ _ _ _ _ _ _; have := Tm.sz_pos t; simp only [List.length_append, List.length_singleton]; omega
theorem Rows.mono {h h' : Heap} {tx : List Str} {fs : List (Int × Int)} {mb : Int} {tv vv : List Value} {k : Nat} (x : Rows h tx fs mb tv vv k) (kk : ∀ a items, IsTup h a items → IsTup h' a items) (r : List Str) (r2 : List (Int × Int)) : Rows h' (tx ++ r) (fs ++ r2) mb tv vv k := by
  induction x with
  | nil => exact .nil
  | snoc _ a b c d ih => exact .snoc ih (a.mono kk) (b.mono r r2) c d
theorem Rows.grow {h h' : Heap} {tx : List Str} {fs : List (Int × Int)} {mb : Int} {tv vv : List Value} {k : Nat} (x : Rows h tx fs mb tv vv k) (kk : ∀ a items, IsTup h a items → IsTup h' a items) (y : Str) (f : Int × Int) : Rows h' (addNew tx y) (addNew fs f) mb tv vv k := by
  obtain ⟨r, e⟩ := addNew_prefix tx y
  obtain ⟨r2, e2⟩ := addNew_prefix fs f
  rw [e, e2]; exact x.mono kk r r2
theorem Rows.same {h h' : Heap} {tx : List Str} {fs : List (Int × Int)} {mb : Int} {tv vv : List Value} {k : Nat} (x : Rows h tx fs mb tv vv k) (kk : ∀ a items, IsTup h a items → IsTup h' a items) : Rows h' tx fs mb tv vv k := by
  simpa using x.mono kk [] []
theorem Rows.ints {h : Heap} {tx : List Str} {fs : List (Int × Int)} {mb : Int} {tv vv : List Value} {k : Nat} (x : Rows h tx fs mb tv vv k) : ∃ ns, IntsAre vv ns := by
  induction x with
  | nil => exact ⟨[], .nil⟩
  | snoc _ _ _ _ _ ih => rename_i n u _ _ _ _ _; obtain ⟨ns, e⟩ := ih; exact ⟨_, IntsAre.append e (.cons n u .nil)⟩
theorem Rows.at {h : Heap} {tx : List Str} {fs : List (Int × Int)} {mb : Int} {tv vv : List Value} {k : Nat} (x : Rows h tx fs mb tv vv k) : ∀ {i : Nat} {v : Value}, tv[i]? = some v → ∃ t n u, vv[i]? = some (.int n u) ∧ TmAt h t v ∧ WfT tx fs t ∧ evT mb t = .ok n ∧ t.sz ≤ k := by
  induction x with
  | nil => intro i v e; simp at e
  | snoc y a b c d ih =>
    intro i v e
    have hl := y.len.1
    rename_i tv vv k t v0 n u
    by_cases hi : i < tv.length
    · rw [List.getElem?_append_left hi] at e
      obtain ⟨t1, n1, u1, e1, e2, e3, e4, e5⟩ := ih e
      exact ⟨t1, n1, u1, by rw [List.getElem?_append_left (by omega)]; exact e1, e2, e3, e4, by omega⟩
    · have hii : i = tv.length := by
        have := (List.getElem?_eq_some_iff.mp e).1
        simp only [List.length_append, List.length_singleton] at this
        omega
      subst hii
      rw [List.getElem?_append_right (Nat.le_refl _)] at e
      simp at e; subst e
      exact ⟨t, n, u, by rw [hl, List.getElem?_append_right (Nat.le_refl _)]; simp, a, b, c, by omega⟩
theorem opP_neg1 {v mb r : Int} {x : Str} (hx : (x == Str.ofString "-") = true) (h : opP x [v] mb = .ok r) : r = -v := by
  have e : unP x v = .ok (-v) := by unfold unP; rw [if_pos hx]
  rw [opP1 e] at h
  unfold sizeP at h
  split at h
  · cases h
  · cases h; rfl
theorem opP_neg2 {a b mb r : Int} {x : Str} (hx : (x == Str.ofString "-") = true) (h : opP x [a, b] mb = .ok r) : r = a - b := by
  have e : binP x a b mb = .ok (a - b) := by
    have e : x = Str.ofString "-" := by simpa using hx
    subst e
    unfold binP
    rw [if_neg (by decide), if_neg (by decide), if_pos hx]
  rw [opP2 e] at h
  unfold sizeP at h
  split at h
  · cases h
  · cases h; rfl
end
section
theorem walk_off_R2 : True := by
  w_top off
  trivial
open PySem PySem.W PyProof.Rows PySem.Calls PySem.Spec
/-- a heap with one place alone -/
noncomputable def onlyAt (h : Heap) (a : Nat) : Heap := hideAll h ((List.range h.objs.size).filter fun b => decide (b ≠ a))
theorem only_self {h : Heap} {a : Nat} {o : Obj} (e : h.get? a = some o) : (onlyAt h a).get? a = some o := hideAll_get _ e (by simp)
theorem only_of {h : Heap} {a b : Nat} {o : Obj} (e : (onlyAt h a).get? b = some o) : b = a ∧ h.get? a = some o := by
  have e1 := of_hideAll _ e
  by_cases q : b = a
  · subst q; exact ⟨rfl, e1⟩
  · have : (onlyAt h a).get? b = none := hideAll_none _ (by
      rw [List.mem_filter]; exact ⟨List.mem_range.mpr (Heap.lt_size e1), by simpa using q⟩)
    rw [this] at e; cases e
theorem pool_start {h : Heap} {D : Nat} {ws : List Value} {ns : List Int} {n : Nat} {t1 t2 t3 : Tok} {m : Nat} (hD : h.get? D = some (W.listOf ws.toArray n)) (hi : IntsAre ws ns) (hl : ns.length ≤ 63) :
    PoolO (onlyAt h D) 0 (W.listOf #[.ref D, .int 0 t1, .int (-1) t2, .int 0 t3] m) :=
  ⟨D, ws, ns, 0, -1, 0, t1, t2, t3, m, rfl, ⟨_, only_self hD, rfl, n, rfl⟩, hi, hl, by omega, by omega, by omega, by omega, by omega⟩
noncomputable def tmD : Tm → PyData
  | .num n => .tuple [.str (Str.ofString "i"), .int n]
  | .un i _ t => .tuple [.str (Str.ofString "s"), .int i, .tuple [tmD t]]
  | .bin i _ p q => .tuple [.str (Str.ofString "s"), .int i, .tuple [tmD p, tmD q]]
theorem reads_tup {h : Heap} {a : Addr} {items : Array Value} {xs : List PyData} (x : IsTup h a items) (r : ReadsAll h items.toList xs []) : Reads h (.ref a) (.tuple xs) [] := let ⟨_, e, c, _, d⟩ := x; .tuple e c d r
theorem tm_reads {h : Heap} : ∀ {t : Tm} {v : Value}, TmAt h t v → Reads h v (tmD t) []
  | .num _, _, ⟨a, t1, t2, e, h1⟩ => e ▸ reads_tup h1 (.cons (.str _ _) (.cons (.int _ _) .nil))
  | .un _ _ t, _, ⟨a, b, t1, t2, v1, e, h1, h2, h3⟩ => e ▸ reads_tup h1 (.cons (.str _ _) (.cons (.int _ _) (.cons (reads_tup h2 (.cons (tm_reads h3) .nil)) .nil)))
  | .bin _ _ p q, _, ⟨a, b, t1, t2, v1, v2, e, h1, h2, h3, h4⟩ => e ▸ reads_tup h1 (.cons (.str _ _) (.cons (.int _ _) (.cons (reads_tup h2 (.cons (tm_reads h3) (.cons (tm_reads h4) .nil))) .nil)))
theorem strOk_i : PyData.strOk (Str.ofString "i") = true := by decide +kernel
theorem strOk_s : PyData.strOk (Str.ofString "s") = true := by decide +kernel
theorem tmD_can : ∀ t : Tm, (tmD t).canLay0 = true
  | .num _ => by simp [tmD, PyData.canLay0, PyData.canLayAll0, strOk_i]
  | .un _ _ t => by simp [tmD, PyData.canLay0, PyData.canLayAll0, strOk_s, tmD_can t]
  | .bin _ _ p q => by simp [tmD, PyData.canLay0, PyData.canLayAll0, strOk_s, tmD_can p, tmD_can q]
theorem tmD_depth : ∀ t : Tm, (tmD t).depth ≤ t.sz
  | .num _ => by simp [tmD, PyData.depth, PyData.depthAll, Tm.sz]
  | .un _ _ t => by have := tmD_depth t; simp [tmD, PyData.depth, PyData.depthAll, Tm.sz]; omega
  | .bin _ _ p q => by have h1 := tmD_depth p; have h2 := tmD_depth q; simp [tmD, PyData.depth, PyData.depthAll, Tm.sz]; omega
theorem canLay_app : ∀ a b : List PyData, PyData.canLayAll0 (a ++ b) = (PyData.canLayAll0 a && PyData.canLayAll0 b)
  | [], b => by simp [PyData.canLayAll0]
  | x :: a, b => by simp [PyData.canLayAll0, canLay_app a b, Bool.and_assoc]
theorem depth_app : ∀ a b : List PyData, PyData.depthAll (a ++ b) = max (PyData.depthAll a) (PyData.depthAll b)
  | [], b => by simp [PyData.depthAll]
  | x :: a, b => by simp [PyData.depthAll, depth_app a b, Nat.max_assoc]
theorem reads_app {h : Heap} : ∀ {vs ws : List Value} {ds es : List PyData}, ReadsAll h vs ds [] → ReadsAll h ws es [] → ReadsAll h (vs ++ ws) (ds ++ es) []
  | [], _, [], _, _, y => y
  | [], _, _ :: _, _, x, _ => nomatch x
  | _ :: _, _, [], _, x, _ => nomatch x
  | v :: vs, ws, d :: ds, es, x, y => by
    generalize hq : ([] : List Addr) = q at x
    cases x with
    | cons a b =>
      rename_i as bs
      obtain ⟨rfl, rfl⟩ := List.append_eq_nil_iff.mp hq.symm
      exact .cons (as := []) (bs := []) a (reads_app b y)
theorem Rows.reads {h : Heap} {tx : List Str} {fs : List (Int × Int)} {mb : Int} {tv vv : List Value} {k : Nat} (x : Rows h tx fs mb tv vv k) : ∃ ds, ReadsAll h tv ds [] ∧ ds.length = tv.length ∧ PyData.canLayAll0 ds = true ∧ PyData.depthAll ds ≤ k := by
  induction x with
  | nil => exact ⟨[], .nil, rfl, by simp [PyData.canLayAll0], by simp [PyData.depthAll]⟩
  | snoc _ a _ _ _ ih =>
    rename_i t v n u _ _ _ _
    obtain ⟨ds, h1, h2, h3, h4⟩ := ih
    refine ⟨ds ++ [tmD t], reads_app h1 (.cons (tm_reads a) .nil), by simp [h2], by simp [canLay_app, h3, PyData.canLayAll0, tmD_can], ?_⟩
    have := tmD_depth t
    simp [depth_app, PyData.depthAll]; omega
theorem trees_eq_nil {prog : Program} {w : World} {A : Around} {E : Value → Shared → Prop} {s : Shared} {Q : Value → Shared → Prop} {h₀ : Heap} {L Tr T2 : Addr} {news : List (Addr × Obj)} {tv vv : List Value} {n m : Nat} {tx : List Str} {fs : List (Int × Int)} {mb : Int} {k : Nat}
    (N : News h₀ L s.heap news) (h1 : (Tr, W.listOf tv.toArray n) ∈ news) (h2 : (T2, W.listOf #[] m) ∈ news) (R : Rows s.heap tx fs mb tv vv k) (hk : k ≤ 60) (hu : A.units + 64 < cLine) (h : Q (.bool tv.isEmpty) s) : wpAny (model prog w) A (compareOp .Eq (.ref Tr) (.ref T2)) Q E s := by
  obtain ⟨ds, r1, r2, r3, r4⟩ := R.reads
  refine eq_dataH (reads_list_at (N _ h1).1 rfl rfl (by simpa using r1)) (reads_list_at (xs := []) (N _ h2).1 rfl rfl .nil) ?_ ?_ hu ?_
  · simp [SeqAt.shaped, PyData.canLay0, r3, PyData.depth]; omega
  · rfl
  · have e : PyData.eqv (.list ds) (.list []) = tv.isEmpty := by
      cases ds with
      | nil => cases tv with
        | nil => simp [PyData.eqv, PyData.eqvAll]
        | cons a b => simp at r2
      | cons a b => cases tv with
        | nil => simp at r2
        | cons c d => simp [PyData.eqv, PyData.eqvAll]
    rw [e]; exact h
theorem pick_from {a b : List Value} : (slicePick (a ++ b).toArray (some (a.length : Int)) none none).toList = b := by
  have e : sliceBounds (some (a.length : Int)) none none (a ++ b).toArray.size = (((a.length : Nat) : Int), (((a ++ b).length : Nat) : Int), 1) := by
    simp only [sliceBounds, Option.getD_none, show (1 : Int) > 0 by decide, if_true, if_neg (show ¬ ((a.length : Int) < 0) by omega), List.size_toArray, List.length_append]
    congr 1
    omega
  rw [kmk_pick_nat _ e]
  simp
theorem pick_upto {a b : List Value} : (slicePick (a ++ b).toArray none (some (a.length : Int)) none).toList = a := by
  have e : sliceBounds none (some (a.length : Int)) none (a ++ b).toArray.size = (((0 : Nat) : Int), ((a.length : Nat) : Int), 1) := by
    simp only [sliceBounds, Option.getD_none, show (1 : Int) > 0 by decide, if_true, if_neg (show ¬ ((a.length : Int) < 0) by omega), List.size_toArray, List.length_append]
    congr 1
    congr 1
    omega
  rw [kmk_pick_nat _ e]
  simp
end
section
theorem walk_off_R3 : True := by
  w_top off
  trivial
open PySem PySem.W PyProof.Rows PySem.Calls PySem.Spec
/-- the fixed places of the law, apart from each other -/
structure FixL (h₀ : Heap) (L : Nat) (z : SA) (P V D c1 c2 : Nat) (G : Heap) : Prop where
  fr : ∀ a ∈ c1 :: c2 :: D :: P :: V :: z.all, h₀.get? a = none ∧ a ≠ L
  nd : [P, V, D, c1, c2].Nodup
  nz : ∀ a ∈ [P, V, D, c1, c2], a ∉ z.all
  gd : ∀ b o, G.get? b = some o → b = D
  gD : ∃ o, G.get? D = some o ∧ o.cls = .type "list"
/-- the row of trees -/
structure TrF (h₀ : Heap) (L : Nat) (z : SA) (P V D c1 c2 Tr : Nat) : Prop where
  fr : h₀.get? Tr = none ∧ Tr ≠ L
  nd : Tr ∉ [P, V, D, c1, c2]
  nz : Tr ∉ z.all
/-- what stands at a heap of the law -/
structure LS (w : World) (h₀ : Heap) (L : Nat) (z : SA) (P V D c1 c2 : Nat) (G : Heap) (mb : Int) (tx : List Str) (fs : List (Int × Int)) (tv vv va : List Value) (kk : Nat) (Tr : Nat) (kp : Int) (h : Heap) : Prop where
  cel1 : ∃ o, h.get? c1 = some o ∧ o.data = .cell (some (.ref z.S))
  cel2 : ∃ o t, h.get? c2 = some o ∧ o.data = .cell (some (.int mb t))
  pl : ∃ o, h.get? P = some o ∧ PoolO G kp o
  gn : Gnd G h P
  sy : SymH w h z tx fs
  eT : ∃ n, h.get? Tr = some (W.listOf tv.toArray n)
  eV : ∃ n, h.get? V = some (W.listOf va.toArray n)
  R : Rows h tx fs mb tv vv kk
/-- a row that is not empty, seen from its end -/
theorem Rows.last {h : Heap} {tx : List Str} {fs : List (Int × Int)} {mb : Int} {tv vv : List Value} {k : Nat} (x : Rows h tx fs mb tv vv k) (he : tv.isEmpty = false) : ∃ be bv kb t v n u, tv = be ++ [v] ∧ vv = bv ++ [.int n u] ∧ k = kb + t.sz ∧ Rows h tx fs mb be bv kb ∧ TmAt h t v ∧ WfT tx fs t ∧ evT mb t = .ok n ∧ n.natAbs < 2 ^ 65 := by
  cases x with
  | nil => simp at he
  | snoc a b c d e => exact ⟨_, _, _, _, _, _, _, rfl, rfl, rfl, a, b, c, d, e⟩
section
variable {w : World} {h₀ h h' : Heap} {L : Nat} {z : SA} {P V D c1 c2 : Nat} {G : Heap} {mb : Int} {tx tx' : List Str} {fs fs' : List (Int × Int)} {tv vv va va' : List Value} {kk : Nat} {Tr : Nat} {kp kp' : Int} {m : Str → Option Value}
theorem LS.move {ms : List Addr} (S : LS w h₀ L z P V D c1 c2 G mb tx fs tv vv va kk Tr kp h) (X : FixL h₀ L z P V D c1 c2 G) (K : Kept h h' ms) (hms : ∀ b ∈ ms, b ≠ c1 ∧ b ≠ c2 ∧ b ≠ D ∧ b ≠ Tr)
    (hcl : ∀ b ∈ ms, ∀ o, h.get? b = some o → o.cls = .type "tuple" → ∀ items n, o.data ≠ .seq items n) (pl' : ∃ o, h'.get? P = some o ∧ PoolO G kp' o) (sy' : SymH w h' z tx' fs') (hx : ∃ r, tx' = tx ++ r) (hf : ∃ r, fs' = fs ++ r)
    (eV' : ∃ n, h'.get? V = some (W.listOf va'.toArray n)) : LS w h₀ L z P V D c1 c2 G mb tx' fs' tv vv va' kk Tr kp' h' := by
  obtain ⟨o1, e1, d1⟩ := S.cel1
  obtain ⟨o2, t2, e2, d2⟩ := S.cel2
  obtain ⟨n, eT⟩ := S.eT
  obtain ⟨r, rfl⟩ := hx
  obtain ⟨r2, rfl⟩ := hf
  refine ⟨⟨o1, K _ _ e1 fun q => (hms _ q).1 rfl, d1⟩, ⟨o2, t2, K _ _ e2 fun q => (hms _ q).2.1 rfl, d2⟩, pl', ⟨fun b o e => ?_, S.gn.free⟩, sy', ⟨n, K _ _ eT fun q => (hms _ q).2.2.2 rfl⟩, eV', S.R.mono (fun a items x => ?_) r r2⟩
  · have hb := X.gd b o e
    subst hb
    exact K _ _ (S.gn.sub _ _ e) fun q => (hms _ q).2.2.1 rfl
  · obtain ⟨o, e, c, n, d⟩ := x
    exact ⟨o, K _ _ e (fun q => hcl _ q o e c _ _ d), c, n, d⟩
theorem FixL.ne (X : FixL h₀ L z P V D c1 c2 G) : P ≠ V ∧ P ≠ D ∧ P ≠ c1 ∧ P ≠ c2 ∧ V ≠ D ∧ V ≠ c1 ∧ V ≠ c2 ∧ D ≠ c1 ∧ D ≠ c2 ∧ c1 ≠ c2 := by
  have := X.nd
  simp only [List.nodup_cons, List.mem_cons, List.not_mem_nil, or_false, not_or] at this
  obtain ⟨⟨a1, a2, a3, a4⟩, ⟨b1, b2, b3⟩, ⟨d1, d2⟩, e1, _⟩ := this
  exact ⟨a1, a2, a3, a4, b1, b2, b3, d1, d2, e1⟩
theorem TrF.ne (X : TrF h₀ L z P V D c1 c2 Tr) : Tr ≠ P ∧ Tr ≠ V ∧ Tr ≠ D ∧ Tr ≠ c1 ∧ Tr ≠ c2 := by
  have := X.nd
  simpa only [List.mem_cons, List.not_mem_nil, or_false, not_or] using this
theorem FixL.frL (X : FixL h₀ L z P V D c1 c2 G) : L ≠ c1 ∧ L ≠ c2 ∧ L ≠ D ∧ L ≠ P ∧ L ≠ V ∧ L ∉ z.all := by
  have := X.fr
  simp only [List.mem_cons, forall_eq_or_imp] at this
  exact ⟨this.1.2.symm, this.2.1.2.symm, this.2.2.1.2.symm, this.2.2.2.1.2.symm, this.2.2.2.2.1.2.symm, fun q => (this.2.2.2.2.2 _ q).2 rfl⟩
/-- over steps that leave all but the frame -/
theorem LS.walk (S : LS w h₀ L z P V D c1 c2 G mb tx fs tv vv va kk Tr kp h) (X : FixL h₀ L z P V D c1 c2 G) (Y : TrF h₀ L z P V D c1 c2 Tr) (nL : ∀ o, h.get? L = some o → ∀ items n, o.data ≠ .seq items n) (K : Kept h h' [L]) : LS w h₀ L z P V D c1 c2 G mb tx fs tv vv va kk Tr kp h' := by
  obtain ⟨l1, l2, l3, l4, l5, l6⟩ := X.frL
  obtain ⟨oP, eP, pP⟩ := S.pl
  obtain ⟨n, eV⟩ := S.eV
  refine S.move X K (fun b hb => ?_) (fun b hb o e _ => ?_) ⟨oP, K _ _ eP (by simpa using Ne.symm l4), pP⟩ (S.sy.kept' K (by simpa using l6) (fun b hb o e _ => ?_)) ⟨[], by simp⟩ ⟨[], by simp⟩ ⟨n, K _ _ eV (by simpa using Ne.symm l5)⟩
  · obtain rfl := List.mem_singleton.mp hb; exact ⟨l1, l2, l3, Ne.symm Y.fr.2⟩
  · obtain rfl := List.mem_singleton.mp hb; exact nL o e
  · obtain rfl := List.mem_singleton.mp hb; exact nL o e
/-- over a loop's own step -/
theorem LS.walkI {I : Nat} (S : LS w h₀ L z P V D c1 c2 G mb tx fs tv vv va kk Tr kp h) (X : FixL h₀ L z P V D c1 c2 G) (Y : TrF h₀ L z P V D c1 c2 Tr) (nL : ∀ o, h.get? L = some o → ∀ items n, o.data ≠ .seq items n) (hI : ∀ a ∈ c1 :: c2 :: D :: P :: V :: z.all, a ≠ I)
    (nI : ∀ o, h.get? I = some o → o.cls ≠ .type "tuple" ∧ o.cls ≠ .type "list") (K : Kept h h' [L, I]) : LS w h₀ L z P V D c1 c2 G mb tx fs tv vv va kk Tr kp h' := by
  obtain ⟨l1, l2, l3, l4, l5, l6⟩ := X.frL
  obtain ⟨oP, eP, pP⟩ := S.pl
  obtain ⟨n, eV⟩ := S.eV
  obtain ⟨nT, eT⟩ := S.eT
  have hTI : Tr ≠ I := by rintro rfl; have := (nI _ eT).2; simp at this
  simp only [List.mem_cons, forall_eq_or_imp] at hI
  obtain ⟨i1, i2, i3, i4, i5, i6⟩ := hI
  have hcl : ∀ b ∈ [L, I], ∀ o, h.get? b = some o → o.cls = .type "tuple" → ∀ items n, o.data ≠ .seq items n := fun b hb o e c => by
    simp only [List.mem_cons, List.not_mem_nil, or_false] at hb
    rcases hb with rfl | rfl
    · exact nL o e
    · exact absurd c (nI o e).1
  refine S.move X K (fun b hb => ?_) hcl ⟨oP, K _ _ eP ?_, pP⟩ (S.sy.kept' K ?_ hcl) ⟨[], by simp⟩ ⟨[], by simp⟩ ⟨n, K _ _ eV ?_⟩
  · simp only [List.mem_cons, List.not_mem_nil, or_false] at hb
    rcases hb with rfl | rfl
    · exact ⟨l1, l2, l3, Ne.symm Y.fr.2⟩
    · exact ⟨Ne.symm i1, Ne.symm i2, Ne.symm i3, Ne.symm hTI⟩
  · simp only [List.mem_cons, List.not_mem_nil, or_false, not_or]; exact ⟨Ne.symm l4, i4⟩
  · simp only [List.mem_cons, List.not_mem_nil, or_false, forall_eq_or_imp, forall_eq]; exact ⟨l6, fun q => i6 _ q rfl⟩
  · simp only [List.mem_cons, List.not_mem_nil, or_false, not_or]; exact ⟨Ne.symm l5, i5⟩
/-- over a draw -/
theorem LS.draw {o' : Obj} (S : LS w h₀ L z P V D c1 c2 G mb tx fs tv vv va kk Tr kp h) (X : FixL h₀ L z P V D c1 c2 G) (Y : TrF h₀ L z P V D c1 c2 Tr) (K : Kept h h' [P]) (eP' : h'.get? P = some o') (p' : PoolO G kp' o') : LS w h₀ L z P V D c1 c2 G mb tx fs tv vv va kk Tr kp' h' := by
  obtain ⟨x1, x2, x3, x4, _⟩ := X.ne
  obtain ⟨oP, eP, pP⟩ := S.pl
  obtain ⟨n, eV⟩ := S.eV
  have hc : oP.cls ≠ .type "tuple" := by obtain ⟨_, _, _, _, _, _, _, _, _, _, rfl, _⟩ := pP; simp
  have hcl : ∀ b ∈ [P], ∀ o, h.get? b = some o → o.cls = .type "tuple" → ∀ items n, o.data ≠ .seq items n := fun b hb o e c => by
    obtain rfl := List.mem_singleton.mp hb; rw [eP] at e; cases e; exact absurd c hc
  refine S.move X K (fun b hb => ?_) hcl ⟨o', eP', p'⟩ (S.sy.kept' K (by simpa using X.nz P (by simp)) hcl) ⟨[], by simp⟩ ⟨[], by simp⟩ ⟨n, K _ _ eV (by simpa using Ne.symm x1)⟩
  obtain rfl := List.mem_singleton.mp hb; exact ⟨x3, x4, x2, Ne.symm Y.ne.1⟩
/-- over a draw of a functor -/
theorem LS.func {o' : Obj} (S : LS w h₀ L z P V D c1 c2 G mb tx fs tv vv va kk Tr kp h) (X : FixL h₀ L z P V D c1 c2 G) (Y : TrF h₀ L z P V D c1 c2 Tr) (K : Kept h h' (P :: z.mods)) (eP' : h'.get? P = some o') (p' : PoolO G kp' o') (sy' : SymH w h' z tx' fs') (hx : ∃ r, tx' = tx ++ r) (hf : ∃ r, fs' = fs ++ r) : LS w h₀ L z P V D c1 c2 G mb tx' fs' tv vv va kk Tr kp' h' := by
  obtain ⟨x1, x2, x3, x4, _⟩ := X.ne
  obtain ⟨oP, eP, pP⟩ := S.pl
  obtain ⟨n, eV⟩ := S.eV
  have hc : oP.cls ≠ .type "tuple" := by obtain ⟨_, _, _, _, _, _, _, _, _, _, rfl, _⟩ := pP; simp
  refine S.move X K (fun b hb => ?_) (fun b hb o e c => ?_) ⟨o', eP', p'⟩ sy' hx hf ⟨n, K _ _ eV ?_⟩
  · rcases List.mem_cons.mp hb with rfl | hb
    · exact ⟨x3, x4, x2, Ne.symm Y.ne.1⟩
    · exact ⟨fun q => X.nz c1 (by simp) (q ▸ mods_all hb), fun q => X.nz c2 (by simp) (q ▸ mods_all hb), fun q => X.nz D (by simp) (q ▸ mods_all hb), fun q => Y.nz (q ▸ mods_all hb)⟩
  · rcases List.mem_cons.mp hb with rfl | hb
    · rw [eP] at e; cases e; exact absurd c hc
    · exact absurd c (S.sy.notTup _ (mods_all hb) _ e)
  · exact fun q => by
      rcases List.mem_cons.mp q with q | q
      · exact x1 q.symm
      · exact X.nz V (by simp) (mods_all q)
/-- over the functor's own work -/
theorem LS.done {n : Nat} (S : LS w h₀ L z P V D c1 c2 G mb tx fs tv vv va kk Tr kp h) (X : FixL h₀ L z P V D c1 c2 G) (Y : TrF h₀ L z P V D c1 c2 Tr) (K : Kept h h' [V]) (eV' : h'.get? V = some (W.listOf va'.toArray n)) : LS w h₀ L z P V D c1 c2 G mb tx fs tv vv va' kk Tr kp h' := by
  obtain ⟨x1, x2, x3, x4, x5, x6, x7, _⟩ := X.ne
  obtain ⟨oP, eP, pP⟩ := S.pl
  obtain ⟨n0, eV⟩ := S.eV
  have hcl : ∀ b ∈ [V], ∀ o, h.get? b = some o → o.cls = .type "tuple" → ∀ items n, o.data ≠ .seq items n := fun b hb o e c => by
    obtain rfl := List.mem_singleton.mp hb; rw [eV] at e; cases e; simp at c
  refine S.move X K (fun b hb => ?_) hcl ⟨oP, K _ _ eP (by simpa using x1), pP⟩ (S.sy.kept' K (by simpa using X.nz V (by simp)) hcl) ⟨[], by simp⟩ ⟨[], by simp⟩ ⟨n, eV'⟩
  obtain rfl := List.mem_singleton.mp hb; exact ⟨x6, x7, x5, Ne.symm Y.ne.2.1⟩
/-- over the functor's own work, where it raised and was caught -/
theorem LS.fail {n : Nat} (S : LS w h₀ L z P V D c1 c2 G mb tx fs tv vv va kk Tr kp h) (X : FixL h₀ L z P V D c1 c2 G) (Y : TrF h₀ L z P V D c1 c2 Tr) (nL : ∀ o, h.get? L = some o → ∀ items n, o.data ≠ .seq items n) (K : Kept h h' (L :: V :: z.mods)) (eV' : h'.get? V = some (W.listOf va'.toArray n)) (sy' : SymH w h' z tx' fs') (hx : ∃ r, tx' = tx ++ r) (hf : ∃ r, fs' = fs ++ r) : LS w h₀ L z P V D c1 c2 G mb tx' fs' tv vv va' kk Tr kp h' := by
  obtain ⟨x1, x2, x3, x4, x5, x6, x7, _⟩ := X.ne
  obtain ⟨l1, l2, l3, l4, l5, l6⟩ := X.frL
  obtain ⟨oP, eP, pP⟩ := S.pl
  obtain ⟨n0, eV⟩ := S.eV
  refine S.move X K (fun b hb => ?_) (fun b hb o e c => ?_) ⟨oP, K _ _ eP ?_, pP⟩ sy' hx hf ⟨n, eV'⟩
  · simp only [List.mem_cons] at hb
    rcases hb with rfl | rfl | hb
    · exact ⟨l1, l2, l3, Ne.symm Y.fr.2⟩
    · exact ⟨x6, x7, x5, Ne.symm Y.ne.2.1⟩
    · exact ⟨fun q => X.nz c1 (by simp) (q ▸ mods_all hb), fun q => X.nz c2 (by simp) (q ▸ mods_all hb), fun q => X.nz D (by simp) (q ▸ mods_all hb), fun q => Y.nz (q ▸ mods_all hb)⟩
  · simp only [List.mem_cons] at hb
    rcases hb with rfl | rfl | hb
    · exact nL o e
    · rw [eV] at e; cases e; simp at c
    · exact absurd c (S.sy.notTup _ (mods_all hb) _ e)
  · simp only [List.mem_cons, not_or]
    exact ⟨Ne.symm l4, x1, fun q => X.nz P (by simp) (mods_all q)⟩
theorem LS.mono (S : LS w h₀ L z P V D c1 c2 G mb tx fs tv vv va kk Tr kp h) (hk : kp ≤ kp') : LS w h₀ L z P V D c1 c2 G mb tx fs tv vv va kk Tr kp' h :=
  { S with pl := let ⟨o, e, p⟩ := S.pl; ⟨o, e, p.mono hk⟩ }
theorem LS.push {a : Nat} {r : Int} {t t1 t2 : Tok} {nT nV : Nat} (S : LS w h₀ L z P V D c1 c2 G mb tx fs tv vv vv kk Tr kp h) (X : FixL h₀ L z P V D c1 c2 G) (Y : TrF h₀ L z P V D c1 c2 Tr) (nL : ∀ o, h.get? L = some o → ∀ items n, o.data ≠ .seq items n) (K : Kept h h' [L, Tr, V])
    (eT : h'.get? Tr = some (W.listOf (tv ++ [Value.ref a]).toArray nT)) (eV : h'.get? V = some (W.listOf (vv ++ [Value.int r t]).toArray nV)) (ht : IsTup h' a #[.str (Str.ofString "i") t1, .int r t2]) (hr : r.natAbs < 2 ^ 65) :
    LS w h₀ L z P V D c1 c2 G mb tx fs (tv ++ [Value.ref a]) (vv ++ [Value.int r t]) (vv ++ [Value.int r t]) (kk + 1) Tr kp h' := by
  obtain ⟨l1, l2, l3, l4, l5, l6⟩ := X.frL
  obtain ⟨x1, x2, x3, x4, x5, x6, x7, _⟩ := X.ne
  obtain ⟨y1, y2, y3, y4, y5⟩ := Y.ne
  obtain ⟨oP, eP, pP⟩ := S.pl
  obtain ⟨o1, e1, d1⟩ := S.cel1
  obtain ⟨o2, tm, e2, d2⟩ := S.cel2
  obtain ⟨nT0, eT0⟩ := S.eT
  obtain ⟨nV0, eV0⟩ := S.eV
  have hcl : ∀ b ∈ [L, Tr, V], ∀ o, h.get? b = some o → o.cls = .type "tuple" → ∀ items n, o.data ≠ .seq items n := fun b hb o e c => by
    simp only [List.mem_cons, List.not_mem_nil, or_false] at hb
    rcases hb with rfl | rfl | rfl
    · exact nL o e
    · rw [eT0] at e; cases e; simp at c
    · rw [eV0] at e; cases e; simp at c
  have kk1 : ∀ b o, h.get? b = some o → b ≠ L → b ≠ Tr → b ≠ V → h'.get? b = some o := fun b o e q1 q2 q3 => K b o e (by simp only [List.mem_cons, List.not_mem_nil, or_false, not_or]; exact ⟨q1, q2, q3⟩)
  refine ⟨⟨o1, kk1 _ _ e1 (Ne.symm l1) (Ne.symm y4) (Ne.symm x6), d1⟩, ⟨o2, tm, kk1 _ _ e2 (Ne.symm l2) (Ne.symm y5) (Ne.symm x7), d2⟩, ⟨oP, kk1 _ _ eP (Ne.symm l4) (Ne.symm y1) x1, pP⟩, ⟨fun b o e => ?_, S.gn.free⟩, S.sy.kept' K ?_ hcl, ⟨_, eT⟩, ⟨_, eV⟩, ?_⟩
  · have hb := X.gd b o e
    subst hb
    exact kk1 _ _ (S.gn.sub _ _ e) (Ne.symm l3) (Ne.symm y3) (Ne.symm x5)
  · simp only [List.mem_cons, List.not_mem_nil, or_false, forall_eq_or_imp, forall_eq]
    exact ⟨l6, Y.nz, X.nz V (by simp)⟩
  · have := Rows.snoc (u := t) (S.R.same (h' := h') fun a items x => by
      obtain ⟨o, e, c, n, d⟩ := x
      exact ⟨o, K _ _ e (fun q => hcl _ q o e c _ _ d), c, n, d⟩) (t := .num r) ⟨a, t1, t2, rfl, ht⟩ hr rfl hr
    exact this
theorem LS.repl {be bv : List Value} {a Tr' : Nat} {t : Tm} {vr : Int} {tk : Tok} {kb n : Nat} (S : LS w h₀ L z P V D c1 c2 G mb tx fs tv vv (bv ++ [Value.int vr tk]) kk Tr kp h) (R : Rows h tx fs mb be bv kb)
    (e : h.get? Tr' = some (W.listOf (be ++ [Value.ref a]).toArray n)) (ht : TmAt h t (.ref a)) (hw : WfT tx fs t) (he : evT mb t = .ok vr) (hv : vr.natAbs < 2 ^ 65) :
    LS w h₀ L z P V D c1 c2 G mb tx fs (be ++ [Value.ref a]) (bv ++ [Value.int vr tk]) (bv ++ [Value.int vr tk]) (kb + t.sz) Tr' kp h :=
  ⟨S.cel1, S.cel2, S.pl, S.gn, S.sy, ⟨_, e⟩, S.eV, R.snoc ht hw he hv⟩
theorem tups_kept {ms : List Addr} (K : Kept h h' ms) (hcl : ∀ b ∈ ms, ∀ o, h.get? b = some o → o.cls = .type "tuple" → ∀ items n, o.data ≠ .seq items n) : ∀ a items, IsTup h a items → IsTup h' a items := fun a items x => by
  obtain ⟨o, e, c, n, d⟩ := x
  exact ⟨o, K _ _ e (fun q => hcl _ q o e c _ _ d), c, n, d⟩
theorem walkT (nL : ∀ o, h.get? L = some o → ∀ items n, o.data ≠ .seq items n) (K : Kept h h' [L]) : ∀ a items, IsTup h a items → IsTup h' a items := tups_kept K fun b hb o e _ => by
  obtain rfl := List.mem_singleton.mp hb; exact nL o e
theorem LS.doneT (S : LS w h₀ L z P V D c1 c2 G mb tx fs tv vv va kk Tr kp h) (K : Kept h h' [V]) : ∀ a items, IsTup h a items → IsTup h' a items := tups_kept K fun b hb o e c => by
  obtain ⟨n0, eV⟩ := S.eV
  obtain rfl := List.mem_singleton.mp hb; rw [eV] at e; cases e; simp at c
theorem LS.failT (S : LS w h₀ L z P V D c1 c2 G mb tx fs tv vv va kk Tr kp h) (nL : ∀ o, h.get? L = some o → ∀ items n, o.data ≠ .seq items n) (K : Kept h h' (L :: V :: z.mods)) : ∀ a items, IsTup h a items → IsTup h' a items := tups_kept K fun b hb o e c => by
  obtain ⟨n0, eV⟩ := S.eV
  simp only [List.mem_cons] at hb
  rcases hb with rfl | rfl | hb
  · exact nL o e
  · rw [eV] at e; cases e; simp at c
  · exact absurd c (S.sy.notTup _ (mods_all hb) _ e)
theorem LS.valT (S : LS w h₀ L z P V D c1 c2 G mb tx fs tv vv va kk Tr kp h) (nL : ∀ o, h.get? L = some o → ∀ items n, o.data ≠ .seq items n) (K : Kept h h' (L :: z.mods)) : ∀ a items, IsTup h a items → IsTup h' a items := tups_kept K fun b hb o e c => by
  simp only [List.mem_cons] at hb
  rcases hb with rfl | hb
  · exact nL o e
  · exact absurd c (S.sy.notTup _ (mods_all hb) _ e)
theorem Rows.back {be bv : List Value} {v : Value} {n : Int} {u : Tok} {k : Nat} (x : Rows h tx fs mb (be ++ [v]) (bv ++ [Value.int n u]) k) : ∃ kb t, k = kb + t.sz ∧ Rows h tx fs mb be bv kb ∧ TmAt h t v ∧ WfT tx fs t ∧ evT mb t = .ok n ∧ n.natAbs < 2 ^ 65 := by
  obtain ⟨be', bv', kb, t, v', n', u', e1, e2, e3, r, a, b, c, d⟩ := x.last (by simp)
  obtain ⟨rfl, q1⟩ := List.append_inj' e1 rfl
  obtain ⟨rfl, q2⟩ := List.append_inj' e2 rfl
  simp only [List.cons.injEq, and_true, Value.int.injEq] at q1 q2
  obtain ⟨rfl, rfl⟩ := q2
  subst q1
  exact ⟨kb, t, e3, r, a, b, c, d⟩
theorem LS.here (S : LS w h₀ L z P V D c1 c2 G mb tx fs tv vv va kk Tr kp h) (X : FixL h₀ L z P V D c1 c2 G) : ∀ a ∈ c1 :: c2 :: D :: P :: V :: z.all, ∃ o, h.get? a = some o := by
  obtain ⟨o1, e1, _⟩ := S.cel1
  obtain ⟨o2, _, e2, _⟩ := S.cel2
  obtain ⟨oP, eP, _⟩ := S.pl
  obtain ⟨n, eV⟩ := S.eV
  obtain ⟨oD, eD, _⟩ := X.gD
  simp only [List.mem_cons, forall_eq_or_imp]
  exact ⟨⟨_, e1⟩, ⟨_, e2⟩, ⟨_, S.gn.sub _ _ eD⟩, ⟨_, eP⟩, ⟨_, eV⟩, S.sy.here⟩
/-- the ledger of a heap of the law: the two rows, and all else in one rest -/
inductive LedM (w : World) (h₀ : Heap) (L : Nat) (z : SA) (P V D c1 c2 : Nat) (mb : Int) (tv va : List Value) (Tr : Nat) (extra : List (Addr × Obj)) (h : Heap) : Prop
  | mk (oc1 oc2 : Obj) (tm : Tok) (nT nV : Nat) (R : List (Addr × Obj)) (d1 : oc1.data = .cell (some (.ref z.S))) (d2 : oc2.data = .cell (some (.int mb tm)))
      (N : News h₀ L h (extra ++ (Tr, W.listOf tv.toArray nT) :: (V, W.listOf va.toArray nV) :: R)) (m1 : (c1, oc1) ∈ R) (m2 : (c2, oc2) ∈ R) (mS : (z.S, instObj 154 z.dS) ∈ R) (mdS : (z.dS, symDict w z) ∈ R)
      (hV1 : ∀ p ∈ R, p.1 ≠ V) (hT1 : ∀ p ∈ (V, W.listOf va.toArray nV) :: R, p.1 ≠ Tr)
      (hR : ∀ a o, h.get? a = some o → h₀.get? a = none → a ≠ L → (a, o) ∈ (Tr, W.listOf tv.toArray nT) :: (V, W.listOf va.toArray nV) :: R)
      (mA : ∀ a ∈ c1 :: c2 :: D :: P :: V :: z.all, ∃ o, (a, o) ∈ (Tr, W.listOf tv.toArray nT) :: (V, W.listOf va.toArray nV) :: R) : LedM w h₀ L z P V D c1 c2 mb tv va Tr extra h
theorem LS.ledM (S : LS w h₀ L z P V D c1 c2 G mb tx fs tv vv va kk Tr kp h) (X : FixL h₀ L z P V D c1 c2 G) (Y : TrF h₀ L z P V D c1 c2 Tr) (F : Fr h₀ L h m) (extra : List (Addr × Obj)) (NX : News h₀ L h extra) : LedM w h₀ L z P V D c1 c2 mb tv va Tr extra h := by
  have hI := S.here X
  obtain ⟨oc1, e1, d1⟩ := S.cel1
  obtain ⟨oc2, tm, e2, d2⟩ := S.cel2
  obtain ⟨nT, eT⟩ := S.eT
  obtain ⟨nV, eV⟩ := S.eV
  obtain ⟨x1, x2, x3, x4, x5, x6, x7, _⟩ := X.ne
  obtain ⟨y1, y2, y3, y4, y5⟩ := Y.ne
  obtain ⟨rest, NR, hR1, hR2⟩ := rest_of F [Tr, V]
  have fr := X.fr
  have fV := fr V (.tail _ (.tail _ (.tail _ (.tail _ (.head _)))))
  have hR : ∀ a o, h.get? a = some o → h₀.get? a = none → a ≠ L → a ≠ Tr → a ≠ V → (a, o) ∈ rest := fun a o e g l q1 q2 => hR2 a o e g l (fun q => by
    rcases List.mem_cons.mp q with q | q
    · exact q1 q
    · exact q2 (List.mem_singleton.mp q))
  have hA : ∀ a o, h.get? a = some o → h₀.get? a = none → a ≠ L → (a, o) ∈ (Tr, W.listOf tv.toArray nT) :: (V, W.listOf va.toArray nV) :: rest := fun a o e g l => by
    by_cases q1 : a = Tr
    · subst q1; rw [eT] at e; cases e; exact .head _
    by_cases q2 : a = V
    · subst q2; rw [eV] at e; cases e; exact .tail _ (.head _)
    exact .tail _ (.tail _ (hR a o e g l q1 q2))
  have zS : ∀ a ∈ z.all, a ≠ Tr ∧ a ≠ V := fun a ha => ⟨fun q => Y.nz (q ▸ ha), fun q => X.nz V (.tail _ (.head _)) (q ▸ ha)⟩
  have fz := fun a (ha : a ∈ z.all) => fr a (.tail _ (.tail _ (.tail _ (.tail _ (.tail _ ha)))))
  have s1 := fz z.S (.head _)
  have s2 := fz z.dS (.tail _ (.head _))
  have s3 := zS z.S (.head _)
  have s4 := zS z.dS (.tail _ (.head _))
  have f1 := fr c1 (.head _)
  have f2 := fr c2 (.tail _ (.head _))
  exact .mk oc1 oc2 tm nT nV rest d1 d2 (news_append NX (news_cons eT Y.fr.2 Y.fr.1 (news_cons eV fV.2 fV.1 NR))) (hR _ _ e1 f1.1 f1.2 (Ne.symm y4) (Ne.symm x6)) (hR _ _ e2 f2.1 f2.2 (Ne.symm y5) (Ne.symm x7))
    (hR _ _ S.sy.oS s1.1 s1.2 s3.1 s3.2) (hR _ _ S.sy.odS s2.1 s2.2 s4.1 s4.2) (fun p hp q => hR1 p hp (q ▸ .tail _ (.head _))) (List.forall_mem_cons.mpr ⟨Ne.symm y2, fun p hp q => hR1 p hp (q ▸ .head _)⟩) hA
    (fun a ha => (hI a ha).elim fun o e => ⟨o, hA a o e (fr a ha).1 (fr a ha).2⟩)
theorem subTV {a : Nat} {oa oT oT' oV oV' : Obj} {rest : List (Addr × Obj)} : ∀ p ∈ (Tr, oT) :: (V, oV) :: rest, p.1 ∈ [Tr, V] ∨ p ∈ (a, oa) :: (Tr, oT') :: (V, oV') :: rest :=
  List.forall_mem_cons.mpr ⟨.inl (.head _), List.forall_mem_cons.mpr ⟨.inl (.tail _ (.head _)), fun _ hp => .inr (.tail _ (.tail _ (.tail _ hp)))⟩⟩
theorem trf_new {Tr1 : Nat} {l : List (Addr × Obj)} (mA : ∀ a ∈ c1 :: c2 :: D :: P :: V :: z.all, ∃ o, (a, o) ∈ l) (fr : h₀.get? Tr1 = none ∧ Tr1 ≠ L) (hl : ∀ p ∈ l, p.1 < Tr1) : TrF h₀ L z P V D c1 c2 Tr1 := by
  have no : Tr1 ∉ c1 :: c2 :: D :: P :: V :: z.all := fun q => (mA _ q).elim fun _ r => Nat.lt_irrefl _ (hl _ r)
  refine ⟨fr, fun q => no ?_, fun q => no (.tail _ (.tail _ (.tail _ (.tail _ (.tail _ q)))))⟩
  rcases List.mem_cons.mp q with rfl | q
  · exact .tail _ (.tail _ (.tail _ (.head _)))
  rcases List.mem_cons.mp q with rfl | q
  · exact .tail _ (.tail _ (.tail _ (.tail _ (.head _))))
  rcases List.mem_cons.mp q with rfl | q
  · exact .tail _ (.tail _ (.head _))
  rcases List.mem_cons.mp q with rfl | q
  · exact .head _
  · exact List.mem_singleton.mp q ▸ .tail _ (.head _)
theorem offV {l : List (Addr × Obj)} (mA : ∀ a ∈ c1 :: c2 :: D :: P :: V :: z.all, ∃ o, (a, o) ∈ l) {b : Nat} (hb : AllLt b l) : b ∉ V :: z.mods := fun q =>
  (mA b (.tail _ (.tail _ (.tail _ (.tail _ ((List.mem_cons.mp q).elim (fun e => e ▸ .head _) fun q => .tail _ (mods_all q))))))).elim fun _ r => Nat.lt_irrefl _ (allLt_at hb _ r)
/-- the table's own ledger behind a written head -/
theorem sym_ledger (Y : SymH w h z tx fs) (F : Fr h₀ L h m) (fz : ∀ a ∈ z.all, h₀.get? a = none ∧ a ≠ L) (head : List (Addr × Obj)) (NH : News h₀ L h head) :
    ∃ o1 o2 o3 o4, ∃ rest : List (Addr × Obj), News h₀ L h (head ++ (z.S, instObj 154 z.dS) :: (z.dS, symDict w z) :: (z.T, o1) :: (z.AN, o2) :: (z.F, o3) :: (z.FN, o4) :: rest) ∧ (∀ p ∈ rest, p.1 ∉ head.map (·.1)) ∧
      ∀ a o, h.get? a = some o → h₀.get? a = none → a ≠ L → a ∉ head.map (·.1) → (a, o) ∈ (z.S, instObj 154 z.dS) :: (z.dS, symDict w z) :: (z.T, o1) :: (z.AN, o2) :: (z.F, o3) :: (z.FN, o4) :: rest := by
  obtain ⟨o1, o2, o3, o4, N4⟩ := Y.four (h₀ := h₀) (L := L) fun a ha => fz a (mods_all ha)
  obtain ⟨rest, NR, hR1, hR2⟩ := rest_of F (head.map (·.1) ++ [z.S, z.dS, z.T, z.AN, z.F, z.FN])
  have q1 := N4 _ (.head _)
  have q2 := N4 _ (.tail _ (.head _))
  have q3 := N4 _ (.tail _ (.tail _ (.head _)))
  have q4 := N4 _ (.tail _ (.tail _ (.tail _ (.head _))))
  refine ⟨o1, o2, o3, o4, rest, fun p hp => ?_, fun p hp q => hR1 p hp (List.mem_append_left _ q), fun a o e g0 gL gh => ?_⟩
  · rcases List.mem_append.mp hp with hp | hp
    · exact NH p hp
    · exact (news_cons Y.oS (fz z.S (by simp [SA.all])).2 (fz z.S (by simp [SA.all])).1 (news_cons Y.odS (fz z.dS (by simp [SA.all])).2 (fz z.dS (by simp [SA.all])).1
        (news_cons q1.1 q1.2.1 q1.2.2 (news_cons q2.1 q2.2.1 q2.2.2 (news_cons q3.1 q3.2.1 q3.2.2 (news_cons q4.1 q4.2.1 q4.2.2 NR)))))) p hp
  · by_cases ha : a ∈ [z.S, z.dS, z.T, z.AN, z.F, z.FN]
    · have all : ∀ p ∈ [(z.S, instObj 154 z.dS), (z.dS, symDict w z), (z.T, o1), (z.AN, o2), (z.F, o3), (z.FN, o4)], h.get? p.1 = some p.2 := by
        simp only [List.mem_cons, List.not_mem_nil, or_false, forall_eq_or_imp, forall_eq]
        exact ⟨Y.oS, Y.odS, q1.1, q2.1, q3.1, q4.1⟩
      have : a ∈ ([(z.S, instObj 154 z.dS), (z.dS, symDict w z), (z.T, o1), (z.AN, o2), (z.F, o3), (z.FN, o4)] : List (Addr × Obj)).map (·.1) := by simpa using ha
      obtain ⟨p, hp, rfl⟩ := List.mem_map.mp this
      have e3 := all p hp
      rw [e] at e3; cases e3
      exact List.mem_append_left rest hp
    · exact List.mem_append_right [(z.S, instObj 154 z.dS), (z.dS, symDict w z), (z.T, o1), (z.AN, o2), (z.F, o3), (z.FN, o4)] (hR2 a o e g0 gL fun q => (List.mem_append.mp q).elim gh ha)
end
/-- between the turns -/
inductive LKs (w : World) (h₀ : Heap) (L : Nat) (z : SA) (P V D c1 c2 : Nat) (G : Heap) (mb : Int) (i : Nat) (m : Str → Option Value) (h : Heap) : Prop
  | mk (tx : List Str) (fs : List (Int × Int)) (tv vv : List Value) (kk : Nat) (kp : Int) (Tr : Nat) (jt : m (Str.ofString "trees") = some (.ref Tr)) (FT : TrF h₀ L z P V D c1 c2 Tr) (S : LS w h₀ L z P V D c1 c2 G mb tx fs tv vv vv kk Tr kp h)
      (l1 : tx.length ≤ 100 + i) (l2 : fs.length ≤ 100 + i) (l3 : kk ≤ 2 * i) (l4 : kp ≤ 10 * (i : Int) + 100) : LKs w h₀ L z P V D c1 c2 G mb i m h
structure LK (w : World) (h₀ : Heap) (L : Nat) (z : SA) (P V D c1 c2 : Nat) (G : Heap) (mb : Int) (i : Nat) (m : Str → Option Value) (h : Heap) : Prop where
  pool : m (Str.ofString "pool") = some (.ref P)
  vals : m (Str.ofString "values") = some (.ref V)
  st : LKs w h₀ L z P V D c1 c2 G mb i m h
  nL : ∀ o, h.get? L = some o → ∀ items n, o.data ≠ .seq items n
/-- what the test of a turn leaves -/
inductive TestP (w : World) (h₀ : Heap) (L : Nat) (z : SA) (P V D c1 c2 : Nat) (G : Heap) (mb : Int) (tx : List Str) (fs : List (Int × Int)) (tv vv : List Value) (kk Tr : Nat) (kp : Int) (m : Str → Option Value) (I : Nat) (oI : Obj) (s : Shared) (b : Bool) (s' : Shared) : Prop
  | mk (h' : Heap) (tk' : Nat) (e : s' = { s with heap := h', toks := tk' }) (F : Fr h₀ L h' m) (S : LS w h₀ L z P V D c1 c2 G mb tx fs tv vv vv kk Tr kp h') (eI : h'.get? I = some oI) (hb : b = false → tv.isEmpty = false) : TestP w h₀ L z P V D c1 c2 G mb tx fs tv vv kk Tr kp m I oI s b s'
theorem later2 {g h1 h2 : Heap} {L : Addr} {m2 : Str → Option Value} {led news2 : List (Addr × Obj)} (ex : List Addr) (F2 : Fr g L h2 m2) (hr : ∀ a o, h1.get? a = some o → g.get? a = none → a ≠ L → (a, o) ∈ led)
    (G1 : ∀ b o, g.get? b = some o → h1.get? b = some o) (N2 : News g L h2 news2) (hs : ∀ p ∈ led, p.1 ∈ ex ∨ p ∈ news2) : Kept h1 h2 (L :: ex) := fun b o e hn => by
  simp only [List.mem_cons, not_or] at hn
  cases q : g.get? b with
  | some o' => have := G1 b o' q; rw [e] at this; cases this; exact F2.keep _ _ q
  | none => exact (N2 _ ((hs _ (hr b o e q hn.1)).resolve_left hn.2)).1
theorem later0 {g h1 h2 : Heap} {L : Addr} {m2 : Str → Option Value} {led news2 : List (Addr × Obj)} (F2 : Fr g L h2 m2) (hr : ∀ a o, h1.get? a = some o → g.get? a = none → a ≠ L → (a, o) ∈ led)
    (G1 : ∀ b o, g.get? b = some o → h1.get? b = some o) (N2 : News g L h2 news2) (hs : ∀ p ∈ led, p ∈ news2) : Kept h1 h2 [L] := later2 [] F2 hr G1 N2 fun p hp => .inr (hs p hp)
theorem test_mono {M : Model} {A : Around} {E : Value → Shared → Prop} {s : Shared} {t : Sem Bool} {Q' : Bool → Shared → Prop} {Q0 : Shared → Bool → Shared → Prop} (h : wpAny M A t (Q0 s) E s) (hQ : ∀ b s', Q0 s b s' → Q' b s') : wpAny M A t Q' E s := wpAny_mono h hQ fun _ _ e => e
/-- the arguments that a tree's functor takes, as they stand -/
noncomputable def ArgAt (h : Heap) : Tm → List Value → Prop
  | .un _ _ t, [v] => TmAt h t v
  | .bin _ _ p q, [v1, v2] => TmAt h p v1 ∧ TmAt h q v2
  | _, _ => False
theorem ArgAt.mono {h h' : Heap} (k : ∀ a items, IsTup h a items → IsTup h' a items) : ∀ {t : Tm} {av : List Value}, ArgAt h t av → ArgAt h' t av := by
  intro t av x
  cases t with
  | num n => exact x
  | un i y t => match av, x with
    | [v], x => exact TmAt.mono k x
  | bin i y p q => match av, x with
    | [v1, v2], x => exact ⟨x.1.mono k, x.2.mono k⟩
/-- a functor and the last items that it takes -/
inductive Cut (w : World) (h : Heap) (mb : Int) (tx : List Str) (fs : List (Int × Int)) (tv vv : List Value) (kk : Nat) (x : Str) (ix ar : Int) : Prop
  | mk (be bv av au : List Value) (args : List Int) (tm : Tm) (kb : Nat) (e1 : tv = be ++ av) (e2 : vv = bv ++ au) (e3 : kb + tm.sz ≤ kk + 2) (Rb : Rows h tx fs mb be bv kb) (ha : ArgAt h tm av) (hw : WfT tx fs tm) (he : evT mb tm = opP x args mb)
      (hl : (av.length : Int) = ar) (hal : av.length ≤ 2) (hul : au.length ≤ 2) (C : ApplyC w (bv ++ au) bv x ix ar args mb)
      (hT : ∀ (h' : Heap) (a b : Nat) (t1 t2 : Tok), IsTup h' a #[.str (Str.ofString "s") t1, .int ix t2, .ref b] → IsTup h' b av.toArray → ArgAt h' tm av → TmAt h' tm (.ref a))
      (hau : (∃ n u, au = [Value.int n u] ∧ args = [n]) ∨ ∃ n n2 u u2, au = [Value.int n u, Value.int n2 u2] ∧ args = [n, n2]) : Cut w h mb tx fs tv vv kk x ix ar
theorem cut_of {w : World} {h : Heap} {mb : Int} {tx : List Str} {fs : List (Int × Int)} {tv vv : List Value} {kk : Nat} {x : Str} {ix ar : Int} (R : Rows h tx fs mb tv vv kk) (hE : tv.isEmpty = false) (har : ar = 1 ∨ ar = 2 ∧ (tv.toArray.size : Int) ≠ 1) (hfn : FnAt tx fs ix x ar) (hev : isEv x ar = true) (hm : mb ≤ 65) (hk : kk < 900) :
    Cut w h mb tx fs tv vv kk x ix ar := by
  obtain ⟨be, bv, kb, t, v1, n1, u1, rfl, rfl, rfl, Rb, ht, hw, he, hv⟩ := R.last hE
  have hb := Rb.len
  rcases har with rfl | ⟨rfl, hne⟩
  · exact ⟨be, bv, [v1], [.int n1 u1], [n1], .un ix x t, kb, rfl, rfl, by simp only [Tm.sz]; omega, Rb, ht, ⟨hfn, hev, hw⟩, by simp only [evT, he], rfl, by simp, by simp, apply1_C (by omega) hm,
      fun h' a b t1 t2 q1 q2 q3 => ⟨a, b, t1, t2, v1, rfl, q1, q2, q3⟩, .inl ⟨n1, u1, rfl, rfl⟩⟩
  · have hbe : be.isEmpty = false := by
      cases be with
      | nil => exact absurd (by simp) hne
      | cons _ _ => rfl
    obtain ⟨be2, bv2, kb2, t2, v2, n2, u2, rfl, rfl, rfl, Rb2, ht2, hw2, he2, hv2⟩ := Rb.last hbe
    have hb2 := Rb2.len
    exact ⟨be2, bv2, [v2, v1], [.int n2 u2, .int n1 u1], [n2, n1], .bin ix x t2 t, kb2, by simp, by simp, by simp only [Tm.sz]; omega, Rb2, ⟨ht2, ht⟩, ⟨hfn, hev, hw2, hw⟩, by simp only [evT, he2, he], rfl, by simp, by simp, apply2_C (by omega) hv2 hv hm,
      fun h' a b t1 t2 q1 q2 q3 => ⟨a, b, t1, t2, v2, v1, rfl, q1, q2, q3.1, q3.2⟩, .inr ⟨n2, n1, u2, u1, rfl, rfl⟩⟩
theorem castEq {a b : Nat} (h : a = b) : (a : Int) = (b : Int) := by rw [h]
theorem sub_len {prog : Program} {w : World} {A : Around} {E : Value → Shared → Prop} {s : Shared} {be xs : List Value} {k : Int} {t u : Tok} {Q : Value → Shared → Prop} (hk : (xs.length : Int) = k) (h : Q (.int (be.length : Int) s.toks) { s with toks := s.toks + 1 }) :
    wpAny (model prog w) A (binaryOp .Sub (.int ((be ++ xs).toArray.size : Int) t) (.int k u)) Q E s := by
  refine sub_int ?_
  have e : ((be ++ xs).toArray.size : Int) - k = (be.length : Int) := by rw [← hk]; simp
  rw [e]; exact h
theorem pick_from' {a b : List Value} {k : Int} (hk : k = (a.length : Int)) : (slicePick (a ++ b).toArray (some k) none none).toList = b := by subst hk; exact pick_from
theorem pick_upto' {a b : List Value} {k : Int} (hk : k = (a.length : Int)) : (slicePick (a ++ b).toArray none (some k) none).toList = a := by subst hk; exact pick_upto
theorem pick_all' {a : List Value} {k : Int} (hk : k = (a.length : Int)) : (slicePick a.toArray none (some k) none).toList = a := by
  have := pick_upto' (a := a) (b := []) hk
  simpa using this
theorem reads_tups {h h' : Heap} (k : ∀ a items, IsTup h a items → IsTup h' a items) {v : Value} {d : PyData} {as : List Addr} (r : Reads h v d as) (f : flatD d = true) : Reads h' v d as :=
  reads_gen (fl := true) (fun b o e _ q => by
    obtain ⟨hc, items, n, hd⟩ := q rfl
    obtain ⟨o', e', c', n', d'⟩ := k b items ⟨o, e, hc, n, hd⟩
    exact ⟨o', e', c'.trans hc.symm, fun it m d => by rw [hd] at d; cases d; exact ⟨n', d'⟩, fun es ep d => by rw [hd] at d; cases d⟩) r (fun _ => f)
theorem strOk_a : PyData.strOk (Str.ofString "a") = true := by decide +kernel
theorem strOk_done : PyData.strOk (Str.ofString "done") = true := by decide +kernel
theorem ball_shaped (er : Er) (tx : List Str) (fs : List (Int × Int)) : SeqAt.shaped (er.ball tx fs) = true := by
  cases er <;> simp [SeqAt.shaped, Er.ball, ballD, formalD, Er.more, PyData.canLay0, PyData.canLayAll0, strOk_s, strOk_i, strOk_a, PyData.depth, PyData.depthAll]
theorem ball_eqv (er : Er) (tx : List Str) (fs : List (Int × Int)) : PyData.eqv (er.ball tx fs) (er.ball tx fs) = true := by
  cases er <;> simp [Er.ball, ballD, formalD, Er.more, PyData.eqv, PyData.eqvAll]
theorem ball_ne_done {prog : Program} {w : World} {A : Around} {E : Value → Shared → Prop} {s : Shared} {Q : Value → Shared → Prop} {b : Addr} {er : Er} {tx : List Str} {fs : List (Int × Int)} {t : Tok} (r : Reads s.heap (.ref b) (er.ball tx fs) []) (hu : A.units + 64 < cLine) (h : Q (.bool true) s) :
    wpAny (model prog w) A (compareOp .NotEq (.ref b) (.str (Str.ofString "done") t)) Q E s :=
  ne_dataH r (.str _ _) (ball_shaped er tx fs) (by simp [SeqAt.shaped, PyData.canLay0, strOk_done, PyData.depth]) hu (by
    have e : PyData.eqv (er.ball tx fs) (.str (Str.ofString "done")) = false := by cases er <;> simp [Er.ball, ballD, PyData.eqv]
    rw [e]; exact h)
theorem ball_same {prog : Program} {w : World} {A : Around} {E : Value → Shared → Prop} {s : Shared} {Q : Value → Shared → Prop} {a b : Addr} {er : Er} {tx : List Str} {fs : List (Int × Int)} (r : Reads s.heap (.ref a) (er.ball tx fs) []) (r2 : Reads s.heap (.ref b) (er.ball tx fs) []) (hu : A.units + 64 < cLine) (h : Q (.bool true) s) :
    wpAny (model prog w) A (compareOp .Eq (.ref a) (.ref b)) Q E s :=
  eq_dataH r r2 (ball_shaped er tx fs) (ball_shaped er tx fs) hu (by rw [ball_eqv]; exact h)
theorem news_take4 {g h : Heap} {L : Addr} {a b c d : Addr × Obj} {rest : List (Addr × Obj)} (N : News g L h (a :: b :: c :: d :: rest)) : News g L h [a, b, c, d] := fun p hp => N p (by
  simp only [List.mem_cons, List.not_mem_nil, or_false] at hp ⊢; rcases hp with e | e | e | e <;> simp [e])
theorem off4 {a b c d : Nat} {oa ob oc od : Obj} {ms : List Nat} (h1 : a ∉ ms) (h2 : b ∉ ms) (h3 : c ∉ ms) (h4 : d ∉ ms) : ∀ p ∈ [((a : Addr), oa), (b, ob), (c, oc), (d, od)], p.1 ∉ ms := by
  intro p hp
  simp only [List.mem_cons, List.not_mem_nil, or_false] at hp
  rcases hp with rfl | rfl | rfl | rfl <;> assumption
theorem ints_at {vs : List Value} {ns : List Int} (x : IntsAre vs ns) : ∀ {i : Nat} {n : Int} {u : Tok}, vs[i]? = some (.int n u) → ns[i]? = some n := by
  induction x with
  | nil => intro i n u e; simp at e
  | cons a b _ ih =>
    intro i n u e
    cases i with
    | zero => simp at e; simp [e.1]
    | succ j => simpa using ih (by simpa using e)
theorem ints_next {vs ys : List Value} {ns : List Int} {i : Nat} {n : Int} {u tk : Tok} (x : IntsAre vs ns) (y : IntsAre ys (ns.take i)) (e : vs[i]? = some (.int n u)) : IntsAre (ys ++ [.int n tk]) (ns.take (i + 1)) := by
  rw [List.take_add_one, ints_at x e]
  exact y.append (.cons n tk .nil)
theorem comp_all {prog : Program} {w : World} {A : Around} {h₀ : Heap} {L : Addr} {m : Str → Option Value} {env : Env} {elt : Expr} {x : Str} {scope : Scope} {cl : List (Str × Addr)} {s : Shared} {S : List (Addr × Obj) → Prop} {P : Nat → Value → Prop}
    {Fin : List Value → List (Addr × Obj) → Prop} {led : List (Addr × Obj)} {n : Nat} (Inv : Nat → List Value → Prop) (i0 : Inv 0 [])
    (turn : ∀ i ys, i < n → Inv i ys → ∀ v I oI C oC D m₂ h tk (E' : Value → Shared → Prop) (Rest : Value → List (Addr × Obj) → Prop), P i v → LCg.NsObj oC m₂ → m₂ x = some v → Fr h₀ L h m → News h₀ L h ((I, oI) :: (C, oC) :: (D, LCg.lst ys) :: led) → LCg.Off3 I C D led → ((@Ne Nat I C) ∧ (@Ne Nat I D) ∧ (@Ne Nat C D)) →
      (∀ y, Inv (i + 1) (ys ++ [y]) → Rest y led) → wpAny (model prog w) A (eval elt (compEnvC scope cl C env)) (LCg.CompEnd h₀ L m { s with heap := h, toks := tk } I oI C oC D (LCg.lst ys) S Rest) E' { s with heap := h, toks := tk })
    (fin : ∀ ys, Inv n ys → Fin ys led) : LCg.CompRest prog w A h₀ L m env elt x scope cl s S P Fin n 0 [] led := by
  suffices H : ∀ k i ys, i + k = n → Inv i ys → LCg.CompRest prog w A h₀ L m env elt x scope cl s S P Fin k i ys led from H n 0 [] (by omega) i0
  intro k
  induction k with
  | zero => intro i ys e hi; obtain rfl : i = n := by omega
            exact LCg.CompRest.zero (fin ys hi)
  | succ k ih =>
    intro i ys e hi
    refine LCg.CompRest.succ fun v I oI C oC D m₂ h tk E' hP hC hx F N off ne => ?_
    exact turn i ys (by omega) hi v I oI C oC D m₂ h tk E' _ hP hC hx F N off ne fun y hy => ih (i + 1) _ (by omega) hy
theorem not_frs1 {env : Env} {L b : Addr} (hf : env.frame = some L) (h2 : b ≠ L) : b ∉ frs [env] := by
  rw [frs_cons hf]; simp [frs]; exact h2
theorem item_end {prog : Program} {w : World} {A : Around} {E : Value → Shared → Prop} {s : Shared} {value slice : Expr} {h₀ : Heap} {L D : Addr} {news : List (Addr × Obj)} {vs : List Value} {y : Value} {n : Nat} {k : Int} {u : Tok} {Q : Value → Shared → Prop}
    (N : News h₀ L s.heap news := by k_asm) (hm : (D, W.listOf (vs ++ [y]).toArray n) ∈ news := by k_mem) (hk : k = (vs.length : Int) := by first | exact castEq (by assumption) | rfl) (hb : vs.length < 1000 := by omega) (h : Q y s)
    (hs : subscripted slice false (.ref D) (.int k u) = operate [.ref D, .int k u] (getItem (.ref D) (.int k u)) := by with_unfolding_all rfl) :
    wpAny (model prog w) A (subscriptTail value slice (.ref D) (.int k u)) Q E s := by
  have hl : s.heap.IsList D (vs ++ [y]).toArray := ⟨_, (N _ hm).1, rfl, n, rfl⟩
  exact tail_any hl.typeIs slot_list_getitem.lookup (wpAny_getItem_list hl (by omega) (by omega) (x := y) (by subst hk; simp) h) hs
end
section
theorem walk_off_M24 : True := by
  w_top off
  trivial
local macro_rules | `(tactic| k_qdec) => `(tactic| decide +kernel)
open PySem PySem.W PyProof.Rows PySem.Calls PySem.Spec
theorem if_y {c : Prop} {d : Decidable c} {P Q : Prop} (hc : c) (h : P) : @ite Prop c d P Q := by rw [if_pos hc]; exact h
theorem if_n {c : Prop} {d : Decidable c} {P Q : Prop} (hc : ¬ c) (h : Q) : @ite Prop c d P Q := by rw [if_neg hc]; exact h
noncomputable abbrev endMap (P V Tr : Nat) (m : Str → Option Value) : Str → Option Value := fun y => if y = Str.ofString "pool" then some (.ref P) else if y = Str.ofString "values" then some (.ref V) else if y = Str.ofString "trees" then some (.ref Tr) else m y
theorem my_iT {a b : Int} {P Q : Prop} (hc : (a == b) = true := by k_dflt (exact rfl)) (h : P) : if (a == b) = true then P else Q := by rw [if_pos hc]; exact h
theorem my_iF {a b : Int} {P Q : Prop} (hc : (a == b) = false := by k_dflt (exact rfl)) (h : Q) : if (a == b) = true then P else Q := by rw [if_neg (by rw [hc]; decide)]; exact h
theorem isl_of {h₀ h : Heap} {L l : Addr} {news : List (Addr × Obj)} {items : Array Value} {n : Nat} (N : News h₀ L h news) (hm : (l, W.listOf items n) ∈ news) : h.IsList l items := ⟨_, (N _ hm).1, rfl, n, rfl⟩
theorem gmods {h₀ : Heap} {L : Nat} {z : SA} {P V D c1 c2 : Nat} {G : Heap} (X : FixL h₀ L z P V D c1 c2 G) : ∀ b ∈ z.mods, G.get? b = none := fun b hb => by
  cases q : G.get? b with
  | none => rfl
  | some o => exact absurd (mods_all (X.gd b o q ▸ hb)) (X.nz D (by simp))
noncomputable abbrev turnMap (v : Value) (P V Tr : Nat) (m : Str → Option Value) : Str → Option Value := fun y => if y = Str.ofString "_" then some v else if y = Str.ofString "pool" then some (.ref P) else if y = Str.ofString "values" then some (.ref V) else if y = Str.ofString "trees" then some (.ref Tr) else m y
theorem range_small {b : Int} (h0 : 0 ≤ b) (h : b < 100) : Builtin.Range.small 0 b 1 = true := by
  unfold Builtin.Range.small Builtin.Range.rangeFitsLong Builtin.Range.rangeSize
  simp
  split <;> omega
theorem cell_notTup {h : Heap} {a : Addr} {o : Obj} {v : Option Value} (e : h.get? a = some o) (d : o.data = .cell v) : ∀ o', h.get? a = some o' → ∀ items n, o'.data ≠ .seq items n := fun o' e' items n q => by
  rw [e] at e'; cases e'; rw [d] at q; cases q
theorem list_notTup {h : Heap} {a : Addr} {its : Array Value} {n0 : Nat} (e : h.get? a = some (W.listOf its n0)) : ∀ o', h.get? a = some o' → o'.cls ≠ .type "tuple" := fun o' e' => by
  rw [e] at e'; cases e'; simp
theorem norm3 {m : Str → Option Value} {a b c : Str} {p q r : Value} (h1 : m a = some p) (h2 : m b = some q) (h3 : m c = some r) : m = fun y => if y = a then some p else if y = b then some q else if y = c then some r else m y := by
  funext y
  by_cases e1 : y = a
  · subst e1; simp [h1]
  · by_cases e2 : y = b
    · subst e2; simp [e1, h2]
    · by_cases e3 : y = c
      · subst e3; simp [e1, e2, h3]
      · simp [e1, e2, e3]
theorem put_third {h₀ h h' : Heap} {L P : Addr} {a b : Addr × Obj} {o o' : Obj} {rest : List (Addr × Obj)} (N : News h₀ L h (a :: b :: (P, o) :: rest)) (K : Kept h h' [P]) (hP : h'.get? P = some o') (n2 : ∀ p ∈ rest, p.1 ≠ P) (na : a.1 ≠ P) (nb : b.1 ≠ P) : News h₀ L h' (a :: b :: (P, o') :: rest) := fun p hp => by
  simp only [List.mem_cons] at hp
  rcases hp with rfl | rfl | rfl | hp
  · exact ⟨K _ _ (N _ (.head _)).1 (by simpa using na), (N _ (.head _)).2⟩
  · exact ⟨K _ _ (N _ (.tail _ (.head _))).1 (by simpa using nb), (N _ (.tail _ (.head _))).2⟩
  · exact ⟨hP, (N (P, o) (.tail _ (.tail _ (.head _)))).2⟩
  · have hp' : p ∈ a :: b :: (P, o) :: rest := by simp [hp]
    exact ⟨K _ _ (N p hp').1 (by simpa using n2 p hp), (N p hp').2⟩
theorem pool_start2 {h : Heap} {P D : Nat} {ws : List Value} {ns : List Int} {n : Nat} {t1 t2 t3 : Tok} {m : Nat} (_ : h.get? P = some (W.listOf #[.ref D, .int 0 t1, .int (-1) t2, .int 0 t3] m)) (hD : h.get? D = some (W.listOf ws.toArray n)) (hi : IntsAre ws ns) (hl : ns.length ≤ 63) :
    PoolO (onlyAt h D) 0 (W.listOf #[.ref D, .int 0 t1, .int (-1) t2, .int 0 t3] m) := pool_start hD hi hl
theorem cellN {M : Model} {A : Around} {E : Value → Shared → Prop} {s : Shared} {h₀ : Heap} {L a : Addr} {cn : Str} {cs : Scope} {ccd : Value} {cl : List (Str × Addr)} {x : Str} {pos : Pos} {v : Value} {Q : Value → Shared → Prop} {news : List (Addr × Obj)} {c : Addr} {o : Obj}
    (hc : cl.lookup x = some c := by rfl) (N : News h₀ L s.heap news := by k_asm) (hm : (c, o) ∈ news := by k_mem) (hd : o.data = .cell (some v) := by assumption) (h : Q v s)
    (hk : cs.kind = .function := by rfl) (hx : (envX cn cs L a ccd cl).kindOf x = some .cell := by rfl) (hb : (x == ("__debug__" : Str)) = false := by decide) : wpAny M A (eval (.Name x pos) (envX cn cs L a ccd cl)) Q E s := nameX_C N hc hm hd h hk hx hb
theorem slice_ {prog : Program} {w : World} {A : Around} {E : Value → Shared → Prop} {s : Shared} {value slice : Expr} {h₀ : Heap} {L l : Addr} {m : Str → Option Value} {news : List (Addr × Obj)} {its : Array Value} {vl vu : Value} {lo hi : Option Int} {zs : List Value} {Q : Value → Shared → Prop} (F : Fr h₀ L s.heap m := by k_asm) (N : News h₀ L s.heap news := by k_asm) (hl : s.heap.IsList l its := by exact isl_of (by k_asm) (by k_mem)) (pl : IsPart vl lo := by kmk_part) (pu : IsPart vu hi := by kmk_part)
    (e : (slicePick its lo hi none).toList = zs := by first | exact pick_from' rfl | exact pick_from' (castEq (by assumption)) | exact pick_upto' rfl | exact pick_upto' (castEq (by assumption)) | exact pick_all' (castEq (by assumption)))
    (hs : subscripted slice false (.ref l) (.ref s.heap.objs.size) = operate [.ref s.heap.objs.size, .ref l] (getItem (.ref l) (.ref s.heap.objs.size)) := by with_unfolding_all rfl) (ht : ∀ r, letTemporaryGo value (.ref l) r = pure () := by kmk_pure) (hz : its.size ≤ sizeLine := by (simp only [List.size_toArray, List.length_append, List.length_cons, List.length_nil, sizeLine_eq]; omega))
    (h : ∀ D h', Fr h₀ L h' m → News h₀ L h' ((D, W.listOf zs.toArray 0) :: news) → (∀ p ∈ news, p.1 < D) → Q (.ref D) { s with heap := h' }) :
    wpAny (model prog w) A (subscriptTail value slice (.ref l) (.ref s.heap.objs.size)) Q E { s with heap := s.heap.push { cls := .type "slice", data := .fields #[vl, vu, .none] } } := kmk_slice_lit F N hl pl pu e h hs ht hz
theorem tuple_ {prog : Program} {w : World} {A : Around} {E : Value → Shared → Prop} {s : Shared} {h₀ : Heap} {L l : Addr} {m : Str → Option Value} {news : List (Addr × Obj)} {items : Array Value} {zs : List Value} {Q : Value → Shared → Prop} (F : Fr h₀ L s.heap m := by k_asm) (N : News h₀ L s.heap news := by k_asm) (hl : s.heap.IsList l items := by exact isl_of (by k_asm) (by k_mem)) (hz : items.size ≤ 16384 := by exact Nat.le_trans (by assumption) (Nat.le_of_ble_eq_true rfl)) (e : items.toList = zs := by exact rfl)
    (h : ∀ D h', Fr h₀ L h' m → News h₀ L h' ((D, ({ cls := .type "tuple", data := .seq zs.toArray } : Obj)) :: news) → (∀ p ∈ news, p.1 < D) → Q (.ref D) { s with heap := h' }) : wpAny (model prog w) A (call (.type "tuple") [.ref l]) Q E s := kde_tupleOf F N hl hz e h
local macro_rules | `(tactic| k_all) => `(tactic| first | assumption | exact List.forall_mem_cons.mpr ⟨by k_ne, by k_all⟩)
local macro_rules
  | `(tactic| walk_at "call builtin:list.append") => `(tactic| refine stop_call ?_)
  | `(tactic| walk_at "binaryOp Add ref ref") => `(tactic| refine stop_call ?_)
  | `(tactic| walk_at "compareOp NotEq ref str") => `(tactic| refine stop_call ?_)
  | `(tactic| walk_at "CompEnd") => `(tactic| refine stop_call ?_)
  | `(tactic| walk_at "CompSrc") => `(tactic| refine stop_call ?_)
  | `(tactic| walk_at "isTrue BoolOp") => `(tactic| refine stop_call ?_)
  | `(tactic| walk_at "compareOp Eq ref ref") => `(tactic| refine stop_call ?_)
  | `(tactic| walk_at "compareOp NotEq ref ref") => `(tactic| refine stop_call ?_)
  | `(tactic| walk_at "ite") => `(tactic| (with_reducible first | refine my_iT (h := ?_) | refine my_iF (h := ?_) | refine if_y (by assumption) ?_ | refine if_n (by assumption) ?_))
  | `(tactic| walk_at "eval Name") => `(tactic| k_dflt (refine cellN (h := ?_)))
  | `(tactic| walk_at "subscriptTail Name Name ref int") => `(tactic| k_dflt (refine item_end (h := ?_)))
  | `(tactic| walk_at "binaryOp Sub int int") => `(tactic| refine sub_len (by assumption) ?_)
set_option hygiene true
local macro_rules | `(tactic| walk_at "subscriptTail Name Slice ref ref") => `(tactic| (k_dflt (refine slice_ (h := ?_)); intro D' h' F' N' l1; (try k_lt l1); (try k_sweep)))
set_option hygiene false
set_option hygiene true
local macro_rules | `(tactic| walk_at "call type:tuple") => `(tactic| (k_dflt (refine tuple_ (h := ?_)); intro D' h' F' N' l1; (try k_lt l1); (try k_sweep)))
set_option hygiene false
theorem law_holds : PySem.Challenge.rw_rh0079_01.Holds := hd (by
  k_go0
  all_goals (try k_fold)
  (rename Frag.In _ _ => X); (rename Top _ _ _ _ _ _ => T); (rename Below _ _ _ _ => B)
  (rename Heap.CodeRec _ _ _ => q1)
  clear q1
  (rename World => w); (rename Shared => s₁)
  k_steps
  unfold Stop
  (rename Fr _ _ _ _ => kF); (rename News _ _ _ _ => kN)
  rename_i D0 ws _ hIn hIl _ lD P0 _ lP _ _
  obtain ⟨D, hD⟩ : ∃ D : Nat, D = D0 := ⟨D0, rfl⟩; subst hD
  obtain ⟨P, hP⟩ : ∃ P : Nat, P = P0 := ⟨P0, rfl⟩; subst hP
  k_dflt (refine symbols_spec B kF X T rfl rfl rfl rfl (Nat.le_of_ble_eq_true rfl) (Nat.le_of_ble_eq_true rfl) ?_)
  intro z tx fs h1 tk1 zn K1 Y1 hl1 hl2
  have F1 := kept_fr kF K1 (by simp)
  have N1 := kept_news kN K1 (by simp)
  have nz : ∀ a o, (a, o) ∈ _ → a ∉ z.all := fun a o hm q => by have := (kN _ hm).1; rw [zn a q] at this; cases this
  have fz := fun a ha => And.symm (new_to kF (zn a ha))
  have hPz := nz _ _ (.head _)
  have hDz := nz _ _ (.tail _ (.head _))
  have h2z := nz _ _ (.tail _ (.tail _ (.head _)))
  have h1z := nz _ _ (.tail _ (.tail _ (.tail _ (.head _))))
  have hDP : P ≠ D := Nat.ne_of_gt lP.1
  have hc2P := Nat.ne_of_lt lP.2.1
  have hc1P := Nat.ne_of_lt lP.2.2
  obtain ⟨g1, g2, g3, g4, rest, N2, hR1, hR2⟩ := sym_ledger Y1 F1 fz _ N1
  simp only [List.cons_append, List.nil_append, List.map_cons, List.map_nil] at N2 hR1 hR2
  have hr1 : ∀ p ∈ rest, p.1 ≠ P := fun p hp q => hR1 p hp (by simp [q])
  have hr2 : ∀ p ∈ rest, p.1 ≠ s₁.heap.objs.size + 1 + 1 := fun p hp q => hR1 p hp (by simp [q])
  have hr3 : ∀ p ∈ rest, p.1 ≠ s₁.heap.objs.size + 1 := fun p hp q => hR1 p hp (by simp [q])
  have hzX : ∀ a : Nat, a ∉ z.all → (∀ p ∈ rest, p.1 ≠ a) → ∀ p ∈ (z.S, instObj 154 z.dS) :: (z.dS, symDict w z) :: (z.T, g1) :: (z.AN, g2) :: (z.F, g3) :: (z.FN, g4) :: rest, p.1 ≠ a := by
    intro a h1 h2 p hp q
    simp only [List.mem_cons] at hp
    rcases hp with rfl | rfl | rfl | rfl | rfl | rfl | hp
    iterate 6 exact h1 (by rw [← q]; simp [SA.all])
    exact h2 p hp q
  have hzP := hzX P hPz hr1
  have hz2 := hzX _ h2z hr2
  have hz1 := hzX _ h1z hr3
  clear hr1 hr2 hr3 hzX nz kF kN N1
  have nP := N2 _ (.head _)
  have nD := N2 _ (.tail _ (.head _))
  have p0 := pool_start2 nP.1 nD.1 hIn (by omega)
  have hfD := only_self nD.1
  have hfP : (onlyAt h1 D).get? P = none := by
    cases q : (onlyAt h1 D).get? P with
    | none => rfl
    | some o => exact absurd (only_of q).1 hDP
  have hgd : ∀ b o, (onlyAt h1 D).get? b = some o → b = D ∧ o = W.listOf ws.toArray 0 := fun b o q => by
    obtain ⟨q1, q2⟩ := only_of q
    rw [nD.1] at q2; cases q2; exact ⟨q1, rfl⟩
  generalize onlyAt h1 D = G at p0 hfD hfP hgd
  have G1 := F1.keep
  have nL1 := fr_notTup F1
  have nc21 := cell_notTup (N2 _ (.tail _ (.tail _ (.head _)))).1 (by assumption)
  have nc11 := cell_notTup (N2 _ (.tail _ (.tail _ (.tail _ (.head _))))).1 (by assumption)
  have nP1 := list_notTup nP.1
  have nD1 := list_notTup nD.1
  k_steps
  unfold Stop
  (rename Fr _ _ _ _ => kF); (rename News _ _ _ _ => kN)
  k_dflt (refine draw_pool B kF X T rfl rfl rfl rfl (Nat.le_of_ble_eq_true rfl) (Nat.le_of_ble_eq_true rfl) nP.2.2 nP.2.1 (G := G) ⟨fun b o q => (by obtain ⟨rfl, rfl⟩ := hgd b o q; exact (kN _ (.tail _ (.head _))).1), hfP⟩ (kN _ (.head _)).1 p0 (by decide) (by decide) (by decide) ?_)
  intro r1 t1 h2 tk2 oP1 K2 hPP2 p2 hr1 hs1
  have F2 := kept_fr kF K2 (by simpa using ⟨nP.2.2, nP.2.1⟩)
  have N3 := put_same kN K2 hPP2 (List.forall_mem_cons.mpr ⟨hDP.symm, List.forall_mem_cons.mpr ⟨hc2P, List.forall_mem_cons.mpr ⟨hc1P, hzP⟩⟩⟩)
  clear kF kN
  k_steps
  unfold Stop
  (rename Fr _ _ _ _ => kF); (rename News _ _ _ _ => kN)
  rename_i oc1 dc1 _ _ oc2 dc2 _ _ Tr0 _ lT _ _ _ V0 _ lV _ _
  obtain ⟨Tr, hTr⟩ : ∃ Tr : Nat, Tr = Tr0 := ⟨Tr0, rfl⟩; subst hTr
  obtain ⟨V, hV⟩ : ∃ V : Nat, V = V0 := ⟨V0, rfl⟩; subst hV
  have nP2 := kN _ (.tail _ (.tail _ (.head _)))
  k_dflt (refine draw_pool B kF X T rfl rfl rfl rfl (Nat.le_of_ble_eq_true rfl) (Nat.le_of_ble_eq_true rfl) nP2.2.2 nP2.2.1 (G := G) ⟨fun b o q => (by obtain ⟨rfl, rfl⟩ := hgd b o q; exact (kN _ (.tail _ (.tail _ (.tail _ (.head _))))).1), hfP⟩ nP2.1 p2 (by decide) (by decide) (by decide) ?_)
  intro r2 t2 h3 tk3 oP2 K3 hPP3 p3 hr2 hs2
  have F3 := kept_fr kF K3 (by simpa using ⟨nP2.2.2, nP2.2.1⟩)
  have N4 := put_third kN K3 hPP3 (List.forall_mem_cons.mpr ⟨hDP.symm, List.forall_mem_cons.mpr ⟨hc2P, List.forall_mem_cons.mpr ⟨hc1P, hzP⟩⟩⟩) (Nat.ne_of_gt lV.2.1) (Nat.ne_of_gt lT.1)
  clear kF kN
  k_steps
  unfold Stop
  (rename Fr _ _ _ _ => kF); (rename News _ _ _ _ => kN); (rename IsRange _ _ _ _ _ _ _ _ => hR)
  have nV := kN _ (.head _)
  have nT := kN _ (.tail _ (.head _))
  have nP3 := kN _ (.tail _ (.tail _ (.head _)))
  have nD3 := kN _ (.tail _ (.tail _ (.tail _ (.head _))))
  have nc2 := kN _ (.tail _ (.tail _ (.tail _ (.tail _ (.head _)))))
  have nc1 := kN _ (.tail _ (.tail _ (.tail _ (.tail _ (.tail _ (.head _))))))
  have hVz : V ∉ z.all := by
    obtain ⟨_, _, _, _, _, q1, q2, q3, q4, q5, q6, _⟩ := lV
    simp only [SA.all, List.mem_cons, List.not_mem_nil, or_false, not_or]
    exact ⟨Nat.ne_of_gt q1, Nat.ne_of_gt q2, Nat.ne_of_gt q3, Nat.ne_of_gt q4, Nat.ne_of_gt q5, Nat.ne_of_gt q6⟩
  have hTz : Tr ∉ z.all := by
    obtain ⟨_, _, _, _, q1, q2, q3, q4, q5, q6, _⟩ := lT
    simp only [SA.all, List.mem_cons, List.not_mem_nil, or_false, not_or]
    exact ⟨Nat.ne_of_gt q1, Nat.ne_of_gt q2, Nat.ne_of_gt q3, Nat.ne_of_gt q4, Nat.ne_of_gt q5, Nat.ne_of_gt q6⟩
  have hK := later (ex := [P, D, s₁.heap.objs.size + 1 + 1, s₁.heap.objs.size + 1]) kF hR2 G1 kN fun p hp => .tail _ (.tail _ (.tail _ (.tail _ (.tail _ (.tail _ hp)))))
  have YL : SymH w _ z tx fs := Y1.kept' hK (by
      simp only [List.mem_cons, List.not_mem_nil, or_false, forall_eq_or_imp, forall_eq]
      exact ⟨fun q => (fz _ q).2 rfl, hPz, hDz, h2z, h1z⟩) (by
      simp only [List.mem_cons, List.not_mem_nil, or_false, forall_eq_or_imp, forall_eq]
      exact ⟨fun o e _ => nL1 o e, fun o e c => absurd c (nP1 o e), fun o e c => absurd c (nD1 o e), fun o e _ => nc21 o e, fun o e _ => nc11 o e⟩)
  have FX : FixL s₁.heap s₁.heap.objs.size z P V D (s₁.heap.objs.size + 1) (s₁.heap.objs.size + 1 + 1) G := by
    refine ⟨?_, ?_, ?_, fun b o e => (hgd b o e).1, ⟨_, hfD, rfl⟩⟩
    · simp only [List.mem_cons, forall_eq_or_imp]
      exact ⟨⟨nc1.2.2, nc1.2.1⟩, ⟨nc2.2.2, nc2.2.1⟩, ⟨nD3.2.2, nD3.2.1⟩, ⟨nP3.2.2, nP3.2.1⟩, ⟨nV.2.2, nV.2.1⟩, fz⟩
    · simp only [List.nodup_cons, List.mem_cons, List.not_mem_nil, or_false, not_or, List.nodup_nil, and_true, not_false_eq_true]
      refine ⟨⟨Nat.ne_of_lt lV.2.1, hDP, Ne.symm hc1P, Ne.symm hc2P⟩, ⟨Nat.ne_of_gt lV.2.2.1, Nat.ne_of_gt lV.2.2.2.2.1, Nat.ne_of_gt lV.2.2.2.1⟩, ⟨Nat.ne_of_gt lD.2, Nat.ne_of_gt lD.1⟩, Nat.ne_of_lt (Nat.lt_succ_self _)⟩
    · simp only [List.mem_cons, List.not_mem_nil, or_false, forall_eq_or_imp, forall_eq]
      exact ⟨hPz, hVz, hDz, h1z, h2z⟩
  have FT : TrF s₁.heap s₁.heap.objs.size z P V D (s₁.heap.objs.size + 1) (s₁.heap.objs.size + 1 + 1) Tr := by
    refine ⟨⟨nT.2.2, nT.2.1⟩, ?_, hTz⟩
    simp only [List.mem_cons, List.not_mem_nil, or_false, not_or]
    exact ⟨Nat.ne_of_gt lT.1, Nat.ne_of_lt lV.1, Nat.ne_of_gt lT.2.1, Nat.ne_of_gt lT.2.2.2.1, Nat.ne_of_gt lT.2.2.1⟩
  have S0 : LS w s₁.heap s₁.heap.objs.size z P V D (s₁.heap.objs.size + 1) (s₁.heap.objs.size + 1 + 1) G (6 + r1) tx fs [] [] [] 0 Tr 2 _ :=
    ⟨⟨_, nc1.1, dc1⟩, ⟨_, _, nc2.1, dc2⟩, ⟨_, nP3.1, p3⟩, ⟨fun b o e => by obtain ⟨rfl, rfl⟩ := hgd b o e; exact nD3.1, hfP⟩, YL, ⟨_, nT.1⟩, ⟨_, nV.1⟩, .nil⟩
  have hIz := S0.here FX
  clear nP2 K3 K2 hPP2 hPP3 p2 nP lP lT lV hK nV nT nP3 nD3 nc2 nc1 dc1 dc2 p0 p3 hR2 hzP hz1 hz2 nc21 nc11 nP1 nD1 nL1 hVz hTz G1 YL
  obtain ⟨nn, hnn⟩ : ∃ nn : Nat, Builtin.Range.rangeSize 0 (2 + r2) 1 = (nn : Int) := ⟨(2 + r2).toNat, by rw [Builtin.Range.rangeSize]; simp; omega⟩
  have hnb : nn ≤ 12 := by rw [Builtin.Range.rangeSize] at hnn; simp at hnn; omega
  refine loopRange (fun i m hp => LK w s₁.heap s₁.heap.objs.size z P V D (s₁.heap.objs.size + 1) (s₁.heap.objs.size + 1 + 1) G (6 + r1) i m hp) rfl hR ?_ hnn kF ?_ ?_ ?_
  · exact range_small (by omega) (by omega)
  · intro h k
    refine ⟨rfl, rfl, ⟨tx, fs, [], [], 0, _, Tr, rfl, FT, S0.walk FX FT (fr_notTup kF) (fun b o e _ => k b o e), by omega, by omega, by omega, by omega⟩, ?_⟩
    exact fr_notTup (kF.keeps k)
  · clear S0 FT hl1 hl2
    intro i v I m₁ hp h tk hi _ hJ hpI hG hK hI0 hIL hIn hO F3
    obtain ⟨jp, jv, ⟨tx, fs, tv, vv, kk, kp, Tr, jt, FT, S, l1, l2, l3, l4⟩, jn⟩ := hJ
    obtain ⟨oI, eI, hIo⟩ := hO
    have hIp := fun a ha => (hIz a ha).elim fun o e => hIn _ _ e
    have S1 := S.walkI FX FT jn hIp hpI hK
    have fP := FX.fr P (by simp)
    have hPI := (hIp P (by simp)).symm
    rw [norm3 jp jv jt] at F3
    change Fr s₁.heap s₁.heap.objs.size h (turnMap v P V Tr m₁) at F3
    change Kept hp h [s₁.heap.objs.size, I] at hK
    change I ≠ s₁.heap.objs.size at hIL
    obtain ⟨oc1, oc2, tm, nT, nV, rest, dc1, dc2, N3, mc1, mc2, mS, mdS, hV1, hT1, hR, mA⟩ := S1.ledM FX FT F3 [] News.nil
    simp only [List.nil_append] at N3
    have G3 := F3.keep
    have n3 := fr_notTup F3
    k_steps
    unfold Stop
    refine test_mono (Q0 := TestP w s₁.heap s₁.heap.objs.size z P V D (s₁.heap.objs.size + 1) (s₁.heap.objs.size + 1 + 1) G (6 + r1) tx fs tv vv kk Tr (kp + 1) (turnMap v P V Tr m₁) I oI) ?_ ?_
    · refine isTrue_or ?_
      k_steps
      unfold Stop
      (rename Fr _ _ _ _ => kF); (rename News _ _ _ _ => kN)
      have K4 := later0 kF hR G3 kN (fun p hp => .tail _ hp)
      have S2 := S1.walk FX FT n3 K4
      have eI2 := K4 _ _ eI (by simpa using hIL)
      refine trees_eq_nil kN (by k_mem) (by k_mem) S2.R (by omega) (Nat.le_of_ble_eq_true rfl) ?_
      by_cases hE : tv.isEmpty = true
      · rw [hE]
        k_steps
        exact ⟨_, _, rfl, by assumption, S2.mono (by omega), eI2, fun q => nomatch q⟩
      · have hE' : tv.isEmpty = false := by simpa using hE
        rw [hE']
        k_steps
        unfold Stop
        refine isTrue_or ?_
        k_steps
        unfold Stop
        clear K4 S2 eI2
        (rename Fr _ _ _ _ => kF); (rename News _ _ _ _ => kN)
        have K4 := later0 kF hR G3 kN (fun p hp => .tail _ hp)
        have S2 := S1.walk FX FT n3 K4
        have eI2 := K4 _ _ eI (by simpa using hIL)
        obtain ⟨oP3, eP3, pP3⟩ := S2.pl
        k_dflt (refine draw_pool B kF X T rfl rfl rfl rfl (Nat.le_of_ble_eq_true rfl) (Nat.le_of_ble_eq_true rfl) fP.1 fP.2 S2.gn eP3 pP3 (by omega) (by decide) (by decide) ?_)
        intro r6 t6 h6 tk6 oP6 K6 eP6 p6 hr6 hs6
        have S4 := S2.draw FX FT K6 eP6 p6
        have F6 := kept_fr kF K6 (by simpa using fP)
        have eI6 := K6 _ _ eI2 (by simpa using hPI)
        have N6 : News s₁.heap s₁.heap.objs.size h6 [] := News.nil
        clear kN kF
        k_steps
        all_goals (try (unfold Stop; refine isTrue_or_nil ?_))
        all_goals exact ⟨_, _, rfl, by assumption, S4, eI6, fun _ => hE'⟩
    · rintro b s' ⟨h', tk', rfl, F4, S4, eI4, hb⟩
      clear dc1 dc2 N3 mc1 mc2 mS mdS hV1 hT1 hR mA oc1 oc2 rest
      obtain ⟨oc1, oc2, tm, nT, nV, rest, dc1, dc2, N3, mc1, mc2, mS, mdS, hV1, hT1, hR, mA⟩ := S4.ledM FX FT F4 [] News.nil
      simp only [List.nil_append] at N3
      have G3 := F4.keep
      have n3 := fr_notTup F4
      have hlen := S4.R.len
      have hzF : Fresh s₁.heap s₁.heap.objs.size z := fun a ha => fz a (mods_all ha)
      have hmb : 6 + r1 ≤ 65 := by omega
      cases b
      · k_steps
        unfold Stop
        (rename Fr _ _ _ _ => kF); (rename News _ _ _ _ => kN)
        have K5 := later0 kF hR G3 kN (fun p hp => hp)
        have S5 := S4.walk FX FT n3 K5
        have eI5 := K5 _ _ eI4 (by simpa using hIL)
        obtain ⟨oP5, eP5, pP5⟩ := S5.pl
        k_dflt (refine lawfn_spec B kF X T rfl rfl rfl rfl (Nat.le_of_ble_eq_true rfl) (Nat.le_of_ble_eq_true rfl) fP.1 fP.2 S5.gn eP5 pP5 (by omega) S5.sy hzF (FX.nz P (by simp)) (by omega) (by omega) (gmods FX) ?_)
        intro x ar tk6 h6 tk6' oP6 har hev K6 eP6 p6 Y6
        have hfn := fnAt_new (x := x) (ar := ar) (show tx.length < 90000 by omega) (show fs.length < 90000 by omega)
        have S6 := S5.func FX FT K6 eP6 p6 Y6 (addNew_prefix _ _) (addNew_prefix _ _)
        have hx6 := addNew_length tx x
        have hf6 := addNew_length fs (numOf (addNew tx x) x, ar)
        generalize numOf (addNew fs (numOf (addNew tx x) x, ar)) (numOf (addNew tx x) x, ar) = ix at hfn ⊢
        generalize addNew fs (numOf (addNew tx x) x, ar) = fs6 at hfn S6 hf6
        generalize addNew tx x = tx6 at hfn S6 hx6
        have F6 := kept_fr kF K6 (List.forall_mem_cons.mpr ⟨fP, hzF⟩)
        have eI6 := K6 _ _ eI5 (fun q => (List.mem_cons.mp q).elim (fun q => hPI q) fun q => hIp I (by simp [mods_all q]) rfl)
        clear kF kN hV1 hT1 hR G3 n3 dc1 dc2 mc1 mc2 mS mdS mA oc1 oc2 rest S5 S4 S1 K5 K6 eP5 pP5 eI5 eI4 eP6 p6 Y6
        obtain ⟨be, bv, av, au, args, tm0, kb, rfl, rfl, e3, Rb, ha, hw8, he8, hl, hal, hul, CC, hT, hau⟩ := cut_of (w := w) S6.R (hb rfl) har hfn hev hmb (by omega)
        have hbl : be.length < 30 := by have := Rb.len; omega
        have hlb := Rb.len.1
        obtain ⟨oc1, oc2, tm, nT, nV, rest, dc1, dc2, N6, mc1, mc2, mS, mdS, hV1, hT1, hR, mA⟩ := S6.ledM FX FT F6 [] News.nil
        simp only [List.nil_append] at N6
        have G6 := F6.keep
        have n6 := fr_notTup F6
        k_steps
        unfold Stop
        (rename Fr _ _ _ _ => kF); (rename News _ _ _ _ => kN)
        have Y7 := (S6.walk FX FT n6 (later0 kF hR G6 kN (fun p hp => hp))).sy
        obtain ⟨i0, i62, na, hna, na0, na62, hxx⟩ := id hfn
        k_dflt (refine arity_spec B kF X T rfl rfl rfl rfl (Nat.le_of_ble_eq_true rfl) (Nat.le_of_ble_eq_true rfl) Y7 i0 i62 hna ?_)
        intro tk7 h7 tk7' K7
        have F7 := kept_fr kF K7 (by simp)
        have N7 := kept_news kN K7 (by simp)
        clear kF kN Y7
        k_steps
        unfold Stop
        (rename Fr _ _ _ _ => kF); (rename News _ _ _ _ => kN)
        rename_i D1 _ lA1 D2 _ lA2 D3 _ lA3 _ _ _ D4 _ lA4 _ _ _ D5 _ lA5 _ _
        have K8 := later0 kF hR G6 kN (fun p hp => .tail _ (.tail _ (.tail _ (.tail _ (.tail _ hp)))))
        have S8 := S6.walk FX FT n6 K8
        have eI8 := K8 _ _ eI6 (by simpa using hIL)
        have n8 := fr_notTup kF
        have ht8 := hT _ D3 D2 _ _ (istup_of kN (.tail _ (.tail _ (.head _)))) (istup_of kN (.tail _ (.tail _ (.tail _ (.head _))))) (ha.mono (walkT n6 K8))
        obtain ⟨nV8, eV8⟩ := S8.eV
        have NX := news_take4 kN
        have q2 := offV mA lA2.2
        have q3 := offV mA lA3.2.2
        have q4 := offV mA lA4.2.2.2
        have q5 := offV mA lA5.2.2.2.2
        have mV : ∀ a : Nat, a ∉ V :: z.mods → a ∉ [V] := fun a q r => q (by rw [List.mem_singleton.mp r]; exact .head _)
        k_dflt (refine done_spec B kF X T rfl rfl rfl rfl (Nat.le_of_ble_eq_true rfl) (Nat.le_of_ble_eq_true rfl) CC rfl S8.sy hzF (by omega) (by omega) (fun a ha => not_frs1 rfl (fz a ha).2) hfn eV8 (FX.fr V (by simp)) (FX.nz V (by simp)) (not_frs1 rfl (FX.fr V (by simp)).2) ?_ ?_)
        · intro vr tk9 h9 tk9' n9 t9 e9 K9 eV9
          have S9 := S8.done FX FT K9 eV9
          have NX9 := kept_news NX K9 (off4 (mV _ q5) (mV _ q4) (mV _ q3) (mV _ q2))
          have F9 := kept_fr kF K9 (by simpa using FX.fr V (by simp))
          have eI9 := K9 _ _ eI8 (by simpa using (hIp V (by simp)).symm)
          have ht9 := ht8.mono (S8.doneT K9)
          have Rb9 := Rb.same fun a i q => S8.doneT K9 _ _ (walkT n6 K8 _ _ q)
          clear lA1 lA2 lA3 lA4 lA5 kF kN NX hV1 hT1 hR G6 n6 dc1 dc2 mc1 mc2 mS mdS mA oc1 oc2 rest S8 S6 K9 K8 eI8 eI6 n8 ht8 eV8 eV9 ha q2 q3 q4 q5 mV CC hT
          obtain ⟨oc1, oc2, tm, nT, nV, rest, dc1, dc2, N9, mc1, mc2, mS, mdS, hV1, hT1, hR, mA⟩ := S9.ledM FX FT F9 _ NX9
          simp only [List.cons_append, List.nil_append] at N9
          have G9 := F9.keep
          have n9 := fr_notTup F9
          obtain ⟨ns, hns⟩ := Rb.ints
          k_steps
          unfold Stop
          (rename Fr _ _ _ _ => kF); (rename News _ _ _ _ => kN)
          refine ke_ne_ints (isl_of kN (.head _)) (isl_of kN (.tail _ (.tail _ (.head _)))) hns hns (Nat.le_of_ble_eq_true rfl) ?_
          rw [decide_eq_true rfl]
          k_steps
          · (rename (_ : Int) ≠ _ => hq)
            exact absurd (by simp only [List.size_toArray, List.length_append, List.length_cons, List.length_nil]; omega) hq
          unfold Stop
          have Y10 := (S9.walk FX FT n9 (later0 kF hR G9 kN (fun p hp => .tail _ (.tail _ (.tail _ (.tail _ (.tail _ hp))))))).sy
          k_dflt (refine name_spec B kF X T rfl rfl rfl rfl (Nat.le_of_ble_eq_true rfl) (Nat.le_of_ble_eq_true rfl) Y10 i0 i62 hna ?_)
          intro tk10 h10 tk10' K10
          have F10 := kept_fr kF K10 (by simp)
          have N10 := kept_news kN K10 (by simp)
          clear kF kN Y10
          k_steps
          unfold Stop
          (rename Fr _ _ _ _ => kF); (rename News _ _ _ _ => kN)
          have Y11 := (S9.walk FX FT n9 (later0 kF hR G9 kN (fun p hp => .tail _ (.tail _ (.tail _ (.tail _ (.tail _ hp))))))).sy
          k_dflt (refine text_spec B kF X T rfl rfl rfl rfl (Nat.le_of_ble_eq_true rfl) (Nat.le_of_ble_eq_true rfl) Y11 na0 na62 hxx ?_)
          intro tk11 h11 tk11' K11
          have F11 := kept_fr kF K11 (by simp)
          have N11 := kept_news kN K11 (by simp)
          clear kF kN Y11
          by_cases hxm : (x == Str.ofString "-") = true
          · rcases hau with ⟨n1, u1, rfl, rfl⟩ | ⟨n2, n1, u2, u1, rfl, rfl⟩
            · have hvr := opP_neg1 hxm e9
              k_steps
              · (rename (_ : Int) ≠ _ => hq)
                exact absurd hvr (by simpa using hq)
              unfold Stop
              (rename Fr _ _ _ _ => kF); (rename News _ _ _ _ => kN)
              k_dflt (refine kmk_add_lit (zs := be ++ [Value.ref D3]) kF kN (isl_of kN (.tail _ (.head _))) (isl_of kN (.head _)) (by simp) ?_ (by simp [sizeLine_eq]; omega))
              intro Tr1 h12 F12 N12 lN
              have FT1 := trf_new mA (N12 _ (.head _)).2.symm (fun p hp => lN p (by repeat (first | exact hp | refine List.Mem.tail _ ?_)))
              clear kF kN lN
              k_steps
              (rename Fr _ _ _ _ => kF); (rename News _ _ _ _ => kN)
              have K12 := later0 kF hR G9 kN (fun p hp => by repeat (first | exact hp | refine List.Mem.tail _ ?_))
              have S12 := (S9.walk FX FT n9 K12).repl (Rb9.same (walkT n9 K12)) (kN (Tr1, _) (by repeat (first | exact List.Mem.head _ | refine List.Mem.tail _ ?_))).1 (ht9.mono (walkT n9 K12)) hw8 (he8.trans e9) (opP_ok e9 hmb)
              refine HStep.intro kF (fun b hb o e => ?_) ⟨rfl, rfl, ⟨tx6, fs6, _, _, _, _, Tr1, rfl, FT1, S12, by omega, by omega, by omega, by omega⟩, fr_notTup kF⟩
              obtain rfl := List.mem_singleton.mp hb
              rw [eI] at e; cases e
              exact K12 _ _ eI9 (by simpa using hIL)
            · have hvr := opP_neg2 hxm e9
              k_steps
              · (rename (_ : Int) ≠ _ => hq)
                exact absurd hvr (by simpa using hq)
              unfold Stop
              (rename Fr _ _ _ _ => kF); (rename News _ _ _ _ => kN)
              k_dflt (refine kmk_add_lit (zs := be ++ [Value.ref D3]) kF kN (isl_of kN (.tail _ (.head _))) (isl_of kN (.head _)) (by simp) ?_ (by simp [sizeLine_eq]; omega))
              intro Tr1 h12 F12 N12 lN
              have FT1 := trf_new mA (N12 _ (.head _)).2.symm (fun p hp => lN p (by repeat (first | exact hp | refine List.Mem.tail _ ?_)))
              clear kF kN lN
              k_steps
              (rename Fr _ _ _ _ => kF); (rename News _ _ _ _ => kN)
              have K12 := later0 kF hR G9 kN (fun p hp => by repeat (first | exact hp | refine List.Mem.tail _ ?_))
              have S12 := (S9.walk FX FT n9 K12).repl (Rb9.same (walkT n9 K12)) (kN (Tr1, _) (by repeat (first | exact List.Mem.head _ | refine List.Mem.tail _ ?_))).1 (ht9.mono (walkT n9 K12)) hw8 (he8.trans e9) (opP_ok e9 hmb)
              refine HStep.intro kF (fun b hb o e => ?_) ⟨rfl, rfl, ⟨tx6, fs6, _, _, _, _, Tr1, rfl, FT1, S12, by omega, by omega, by omega, by omega⟩, fr_notTup kF⟩
              obtain rfl := List.mem_singleton.mp hb
              rw [eI] at e; cases e
              exact K12 _ _ eI9 (by simpa using hIL)
          · k_steps
            unfold Stop
            (rename Fr _ _ _ _ => kF); (rename News _ _ _ _ => kN)
            k_dflt (refine kmk_add_lit (zs := be ++ [Value.ref D3]) kF kN (isl_of kN (.tail _ (.head _))) (isl_of kN (.head _)) (by simp) ?_ (by simp [sizeLine_eq]; omega))
            intro Tr1 h12 F12 N12 lN
            have FT1 := trf_new mA (N12 _ (.head _)).2.symm (fun p hp => lN p (by repeat (first | exact hp | refine List.Mem.tail _ ?_)))
            clear kF kN lN
            k_steps
            (rename Fr _ _ _ _ => kF); (rename News _ _ _ _ => kN)
            have K12 := later0 kF hR G9 kN (fun p hp => by repeat (first | exact hp | refine List.Mem.tail _ ?_))
            have S12 := (S9.walk FX FT n9 K12).repl (Rb9.same (walkT n9 K12)) (kN (Tr1, _) (by repeat (first | exact List.Mem.head _ | refine List.Mem.tail _ ?_))).1 (ht9.mono (walkT n9 K12)) hw8 (he8.trans e9) (opP_ok e9 hmb)
            refine HStep.intro kF (fun b hb o e => ?_) ⟨rfl, rfl, ⟨tx6, fs6, _, _, _, _, Tr1, rfl, FT1, S12, by omega, by omega, by omega, by omega⟩, fr_notTup kF⟩
            obtain rfl := List.mem_singleton.mp hb
            rw [eI] at e; cases e
            exact K12 _ _ eI9 (by simpa using hIL)
        · intro er b9 h9 tk9' n9 e9 F9 R9 Y9 eV9 K9
          have S9 := S8.fail FX FT n8 K9 eV9 Y9 (erT_prefix er tx6) (erF_prefix er tx6 fs6)
          have NX9 := kept_news NX K9 (off4 (fun q => (List.mem_cons.mp q).elim (NX _ (.head _)).2.1 q5) (fun q => (List.mem_cons.mp q).elim (NX _ (.tail _ (.head _))).2.1 q4) (fun q => (List.mem_cons.mp q).elim (NX _ (.tail _ (.tail _ (.head _)))).2.1 q3) (fun q => (List.mem_cons.mp q).elim (NX _ (.tail _ (.tail _ (.tail _ (.head _))))).2.1 q2))
          have ht9 := ht8.mono (S8.failT n8 K9)
          have hw9 : WfT (er.T tx6) (er.F tx6 fs6) tm0 := by
            obtain ⟨ra, ea⟩ := erT_prefix er tx6
            obtain ⟨rb, eb⟩ := erF_prefix er tx6 fs6
            rw [ea, eb]; exact hw8.mono ra rb
          have hl9 := erT_len er tx6
          have hm9 := erF_len er tx6 fs6
          clear lA1 lA2 lA3 lA4 lA5 kF kN NX hV1 hT1 hR G6 n6 dc1 dc2 mc1 mc2 mS mdS mA oc1 oc2 rest S8 S6 K9 K8 eI8 eI6 n8 ht8 eV8 eV9 ha q2 q3 q4 q5 mV CC hT
          obtain ⟨oc1, oc2, tm, nT, nV, rest, dc1, dc2, N9, mc1, mc2, mS, mdS, hV1, hT1, hR, mA⟩ := S9.ledM FX FT F9 _ NX9
          simp only [List.cons_append, List.nil_append] at N9
          have G9 := F9.keep
          have n9 := fr_notTup F9
          obtain ⟨ns, hns⟩ := Rb.ints
          k_steps
          unfold Stop
          (rename Fr _ _ _ _ => kF); (rename News _ _ _ _ => kN)
          refine ke_ne_ints (isl_of kN (.head _)) (isl_of kN (.tail _ (.tail _ (.head _)))) hns hns (Nat.le_of_ble_eq_true rfl) ?_
          rw [decide_eq_true rfl]
          k_steps
          unfold Stop
          have K10 := later0 kF hR G9 kN (fun p hp => by repeat (first | exact hp | refine List.Mem.tail _ ?_))
          have T10 := walkT n9 K10
          refine ball_ne_done (reads_tups T10 R9 (er_flat er tx6 fs6)) (Nat.le_of_ble_eq_true rfl) ?_
          clear T10 K10
          k_steps
          unfold Stop
          have K10 := later0 kF hR G9 kN (fun p hp => by repeat (first | exact hp | refine List.Mem.tail _ ?_))
          have S10 := S9.walk FX FT n9 K10
          have T10 := walkT n9 K10
          have R10 := reads_tups T10 R9 (er_flat er tx6 fs6)
          have n10 := fr_notTup kF
          k_dflt (refine value_spec (t0 := tm0) B kF X T rfl rfl rfl rfl (Nat.le_of_ble_eq_true rfl) (Nat.le_of_ble_eq_true rfl) rfl S10.sy hzF (by omega) (by omega) (fun a ha => not_frs1 rfl (fz a ha).2) hmb (ht9.mono T10) hw9 (by omega) ?_ ?_)
          · intro vr _ _ _ e11 _
            rw [he8, e9] at e11; cases e11
          · intro er2 b11 h11 tk11 e11 F11 R11 Y11 K11
            rw [he8, e9] at e11; cases e11
            rw [ball_twice] at R11
            have R12 := reads_tups (S10.valT n10 K11) R10 (er_flat _ _ _)
            have N11 : News s₁.heap s₁.heap.objs.size h11 [] := News.nil
            clear kF kN
            k_steps
            unfold Stop
            refine ball_same R12 R11 (Nat.le_of_ble_eq_true rfl) ?_
            k_steps
            unfold HStep
            dsimp only
            k_steps
      · k_steps
        unfold Stop
        (rename Fr _ _ _ _ => kF); (rename News _ _ _ _ => kN)
        have K5 := later0 kF hR G3 kN (fun p hp => hp)
        have S5 := S4.walk FX FT n3 K5
        have eI5 := K5 _ _ eI4 (by simpa using hIL)
        obtain ⟨oP5, eP5, pP5⟩ := S5.pl
        k_dflt (refine number_spec B kF X T rfl rfl rfl rfl (Nat.le_of_ble_eq_true rfl) (Nat.le_of_ble_eq_true rfl) fP.1 fP.2 S5.gn eP5 pP5 (by omega) ?_)
        intro r6 t6 h6 tk6 oP6 K6 eP6 p6 hlo hhi
        have S6 := S5.draw FX FT K6 eP6 p6
        have F6 := kept_fr kF K6 (by simpa using fP)
        have eI6 := K6 _ _ eI5 (by simpa using hPI)
        clear kF kN hV1 hT1 hR G3 n3 dc1 dc2 mc1 mc2 mS mdS mA oc1 oc2 rest S5 S4 S1 K5 K6 eP5 pP5 eI5 eI4 eP6 p6
        obtain ⟨oc1, oc2, tm, nT, nV, rest, dc1, dc2, N6, mc1, mc2, mS, mdS, hV1, hT1, hR, mA⟩ := S6.ledM FX FT F6 [] News.nil
        simp only [List.nil_append] at N6
        have G6 := F6.keep
        have n6 := fr_notTup F6
        k_steps
        unfold Stop
        (rename Fr _ _ _ _ => kF); (rename News _ _ _ _ => kN); (rename And (Nat.lt Tr _) _ => lA)
        k_dflt (refine append_K kF kN (.tail (Nat.ne_of_gt lA.1) (.head hT1)) ?_ (by simp only [List.size_toArray, sizeLine_eq]; omega))
        clear kF kN
        intro h7 F7 N7
        k_steps
        unfold Stop
        (rename Fr _ _ _ _ => kF); (rename News _ _ _ _ => kN)
        k_dflt (refine append_K kF kN (.tail (Nat.ne_of_gt lA.2.1) (.tail FT.ne.2.1 (.head hV1))) ?_ (by simp only [List.size_toArray, sizeLine_eq]; omega))
        clear kF kN
        intro h8 F8 N8
        k_steps
        (rename Fr _ _ _ _ => kF); (rename News _ _ _ _ => kN)
        simp only [listOf_push] at kN
        have K9 := later2 [Tr, V] kF hR G6 kN subTV
        have S9 := S6.push FX FT n6 K9 (kN (Tr, _) (.tail _ (.head _))).1 (kN (V, _) (.tail _ (.tail _ (.head _)))).1 (istup_of kN (.head _)) (by omega)
        refine HStep.intro kF (fun b hb o e => ?_) ⟨rfl, rfl, ⟨tx, fs, _, _, _, _, Tr, rfl, FT, S9, by omega, by omega, by omega, by omega⟩, fr_notTup kF⟩
        obtain rfl := List.mem_singleton.mp hb
        rw [eI] at e; cases e
        exact K9 _ _ eI6 (by
          simp only [List.mem_cons, List.not_mem_nil, or_false, not_or]
          exact ⟨hIL, fun q => by obtain ⟨nq, eq⟩ := S6.eT; rw [q, eq] at eI6; cases eI6; exact hIo.2 rfl, (hIp V (by simp)).symm⟩)
  · clear S0 FT hl1 hl2
    intro I m₁ hp h tk hJ hpI hG hK hIL hIn F3
    obtain ⟨jp, jv, ⟨tx, fs, tv, vv, kk, kp, Tr, jt, FT, S, l1, l2, l3, l4⟩, jn⟩ := hJ
    have hIp := fun a ha => (hIz a ha).elim fun o e => hIn _ _ e
    have S1 := S.walkI FX FT jn hIp hpI hK
    rw [norm3 jp jv jt] at F3
    change Fr s₁.heap s₁.heap.objs.size h (endMap P V Tr m₁) at F3
    obtain ⟨oc1, oc2, tm, nT, nV, rest, dc1, dc2, N3, mc1, mc2, mS, mdS, hV1, hT1, hR, mA⟩ := S1.ledM FX FT F3 [] News.nil
    simp only [List.nil_append] at N3
    have G3 := F3.keep
    have n3 := fr_notTup F3
    have hlen := S1.R.len
    obtain ⟨ns, hns⟩ := S1.R.ints
    have hzF : Fresh s₁.heap s₁.heap.objs.size z := fun a ha => fz a (mods_all ha)
    have hnl : ns.length = tv.length := by rw [hlen.1]; exact hns.length.symm
    k_steps
    unfold Stop
    (rename Fr _ _ _ _ => kF); (rename News _ _ _ _ => kN)
    refine LCg.CompSrc.ledger rfl kF kN (by k_mem) (by simp only [List.size_toArray, sizeLine_eq]; omega) ?_
    intro gg
    have mT : (Tr, W.listOf tv.toArray nT) ∈ (Tr, W.listOf tv.toArray nT) :: (V, W.listOf vv.toArray nV) :: rest := .head _
    refine comp_all (fun i ys => IntsAre ys (ns.take i)) .nil ?_ ?_
    · clear kF kN
      intro i ys hi hy v Ic oIc C oC Dc m₂ h7 tk7 E' Rest hv hC hx F7 N7 off ne hRest
      have K7 := later0 F7 hR G3 N7 (fun p hp => .tail _ (.tail _ (.tail _ hp)))
      obtain ⟨t, n, u, q1, q2, q3, q4, q5⟩ := (S1.walk FX FT n3 K7).R.at (i := i) (by simpa using hv)
      k_steps
      unfold Stop
      (rename Fr _ _ _ _ => kF); (rename News _ _ _ _ => kN)
      have K8 := later0 kF hR G3 kN (fun p hp => .tail _ (.tail _ (.tail _ hp)))
      obtain ⟨t', n', u', p1, p2, p3, p4, p5⟩ := (S1.walk FX FT n3 K8).R.at (i := i) (by simpa using hv)
      k_dflt (refine value_spec (t0 := t') B kF X T rfl rfl rfl rfl (Nat.le_of_ble_eq_true rfl) (Nat.le_of_ble_eq_true rfl) rfl (S1.walk FX FT n3 K8).sy hzF (by omega) (by omega) (fun a ha => not_frs1 rfl (fz a ha).2) (by omega) p2 p3 (by omega) ?_ ?_)
      · intro vr tk8 h8 tk8' e8 K9
        rw [p4] at e8; cases e8
        have F8 := kept_fr kF K9 (by simp)
        have N8 := kept_news kN K9 (by simp)
        clear kF kN
        k_steps
        unfold Stop
        exact LCg.CompEnd.intro (by assumption) (by assumption) _ (fun p hp => hp) off (.inr ⟨_, mT, rfl, _, rfl⟩) (hRest _ (ints_next hns hy p1))
      · intro er b h8 tk8 e8
        rw [p4] at e8; cases e8
    · intro ys hy D9 h9 tk9 F9 N9 off
      clear kF kN
      k_steps
      unfold Stop
      (rename Fr _ _ _ _ => kF); (rename News _ _ _ _ => kN)
      refine ke_eq_ints (isl_of (n := nV) kN (by k_mem)) (isl_of (n := ys.length) kN (.head _)) hns hy (Nat.le_of_ble_eq_true rfl) ?_
      rw [decide_eq_true (by rw [List.size_toArray, ← hnl, List.take_length])]
      k_steps)
end
end Mine
theorem PySem.Challenge.cw_rh0079_01_holds : PySem.Challenge.rw_rh0079_01.Holds := by
  exact Mine.law_holds
