import PyProof.Rows.All
import Wide.All
import OpenK.AllK
import Wide.FinOn
import Lean
import PySem.Challenge.RW_nt0443_01
set_option Elab.async false
set_option linter.all false
section
open PySem PySem.W PyProof.Rows
set_option maxRecDepth 100000
namespace Mine
noncomputable abbrev pR : Program := PySem.Challenge.pw_nt0443_01
noncomputable abbrev st (x : String) : Str := Str.ofString x
noncomputable abbrev aT {α : Type} (l : List α) : Array α := Array.mk l
noncomputable abbrev vr (a : Addr) : Value := .ref a
noncomputable abbrev vi (i : Int) (t : Tok) : Value := .int i t
noncomputable abbrev vs (s : Str) (t : Tok) : Value := .str s t
noncomputable abbrev N (o : Obj) (l r : BT) : BT := .node o l r
noncomputable abbrev L : BT := .nil
noncomputable abbrev oT (l : List Value) : Obj := Obj.mk (Value.type "tuple") none (Data.seq (Array.mk l) 0) (Array.mk [])
noncomputable def stA (i : Nat) : Stmt := (pR.main.body[i]?).getD (.Pass ⟨0, 0, 0, 0⟩)
noncomputable def fnA : Stmt → Arguments
  | .FunctionDef _ a _ _ _ _ _ _ _ _ => a
  | .ClassDef _ _ _ [.FunctionDef _ a _ _ _ _ _ _ _ _] .. => a
  | _ => ⟨[], [], none, [], [], none, []⟩
noncomputable def fnBd : Stmt → List Stmt
  | .FunctionDef _ _ b _ _ _ _ _ _ _ => b
  | .ClassDef _ _ _ [.FunctionDef _ _ b _ _ _ _ _ _ _] .. => b
  | _ => []
noncomputable def fnSc : Stmt → Scope
  | .FunctionDef _ _ _ _ _ _ sc _ _ _ => sc
  | .ClassDef _ _ _ [.FunctionDef _ _ _ _ _ _ sc _ _ _] .. => sc
  | _ => pR.main.scope
noncomputable def fA (i : Nat) : Arguments := fnA (stA i)
noncomputable def fB (i : Nat) : List Stmt := fnBd (stA i)
noncomputable def fS (i : Nat) : Scope := fnSc (stA i)
noncomputable def o_43 (P : Params) : Obj := (oT [])
noncomputable def o_44 (P : Params) : Obj := (Obj.mk Value.none none (Data.fields (aT [])) (aT []))
noncomputable def o_45 (P : Params) : Obj := (Obj.mk (Value.type "code") none (Data.fields (aT [(vs (st "<module>") 182), (vs (st "<module>") 183), (vs (st "/claim/cut.py") 184), (vi 1 0), (vi 0 0), (vi 0 0), (vi 0 0), (vi 0 0), (vr 11), (Value.bool false), (vi 181 0), (vr 12), Value.none, Value.none, Value.none, Value.none, (vi 185 0), (vi 1 0), (vs (st "/claim/cut.py") 186)])) (aT []))
noncomputable def o_46 (P : Params) : Obj := (Obj.mk (Value.type "frame") none Data.plain (aT [(Option.some (vr 13)), (Option.some (vr 3)), (Option.some (vr 3)), none, (Option.some (vs (st "__main__") 164)), none, (Option.some (vr 0))]))
noncomputable def o_49 (P : Params) : Obj := (Obj.mk (Value.type "dict") none (Data.dict (aT [(DictEntry.mk (PyData.keyHash P (st "__name__")) (vs (st "__name__") 165) (vs (st "chess.errors") 277)), (DictEntry.mk (PyData.keyHash P (st "__doc__")) (vs (st "__doc__") 166) Value.none), (DictEntry.mk (PyData.keyHash P (st "__package__")) (vs (st "__package__") 167) Value.none), (DictEntry.mk (PyData.keyHash P (st "__loader__")) (vs (st "__loader__") 168) (Value.builtin "__main__.__loader__#opaque")), (DictEntry.mk (PyData.keyHash P (st "__spec__")) (vs (st "__spec__") 169) Value.none), (DictEntry.mk (PyData.keyHash P (st "__annotations__")) (vs (st "__annotations__") 170) (vr 6)), (DictEntry.mk (PyData.keyHash P (st "__builtins__")) (vs (st "__builtins__") 171) (vr 4)), (DictEntry.mk (PyData.keyHash P (st "__file__")) (vs (st "__file__") 173) (vs (st "/claim/cut.py") 172)), (DictEntry.mk (PyData.keyHash P (st "__cached__")) (vs (st "__cached__") 174) Value.none), (DictEntry.mk (PyData.keyHash P (st "WHITE")) (vs (st "WHITE") 190) (vi 0 189)), (DictEntry.mk (PyData.keyHash P (st "BLACK")) (vs (st "BLACK") 192) (vi 1 191)), (DictEntry.mk (PyData.keyHash P (st "PAWN")) (vs (st "PAWN") 194) (vi 1 193)), (DictEntry.mk (PyData.keyHash P (st "KNIGHT")) (vs (st "KNIGHT") 196) (vi 2 195)), (DictEntry.mk (PyData.keyHash P (st "BISHOP")) (vs (st "BISHOP") 198) (vi 3 197)), (DictEntry.mk (PyData.keyHash P (st "ROOK")) (vs (st "ROOK") 200) (vi 4 199)), (DictEntry.mk (PyData.keyHash P (st "QUEEN")) (vs (st "QUEEN") 202) (vi 5 201)), (DictEntry.mk (PyData.keyHash P (st "KING")) (vs (st "KING") 204) (vi 6 203)), (DictEntry.mk (PyData.keyHash P (st "EMPTY")) (vs (st "EMPTY") 206) (vi 0 205)), (DictEntry.mk (PyData.keyHash P (st "side_of")) (vs (st "side_of") 213) (vr 21)), (DictEntry.mk (PyData.keyHash P (st "kind_of")) (vs (st "kind_of") 220) (vr 28)), (DictEntry.mk (PyData.keyHash P (st "more_than_one")) (vs (st "more_than_one") 229) (vr 35)), (DictEntry.mk (PyData.keyHash P (st "highest")) (vs (st "highest") 238) (vr 42)), (DictEntry.mk (PyData.keyHash P (st "lowest")) (vs (st "lowest") 245) (vr 49)), (DictEntry.mk (PyData.keyHash P (st "squares_of")) (vs (st "squares_of") 254) (vr 56)), (DictEntry.mk (PyData.keyHash P (st "direction")) (vs (st "direction") 266) (vr 63)), (DictEntry.mk (PyData.keyHash P (st "between")) (vs (st "between") 276) (vr 70))]) 26) (aT []))
noncomputable def o_50 (P : Params) : Obj := (Obj.mk Value.none none (Data.fields (aT [(vi 11 0), (vi 0 0), (vr 20), (vi 13 0), (vi 0 0), (vr 27), (vi 16 0), (vi 0 0), (vr 34), (vi 18 0), (vi 0 0), (vr 41), (vi 31 0), (vi 0 0), (vr 48), (vi 33 0), (vi 0 0), (vr 55), (vi 46 0), (vi 0 0), (vr 62), (vi 51 0), (vi 0 0), (vr 69)])) (aT []))
noncomputable def o_51 (P : Params) : Obj := (oT [])
noncomputable def o_52 (P : Params) : Obj := (Obj.mk Value.none none (Data.fields (aT [])) (aT []))
noncomputable def o_53 (P : Params) : Obj := (oT [(vs (st "piece") 210)])
noncomputable def o_54 (P : Params) : Obj := (oT [])
noncomputable def o_55 (P : Params) : Obj := (Obj.mk Value.none none (Data.func (FuncData.mk (st "side_of") (st "side_of") (fA 10) (.stmts (fB 10)) (fS 10) 0 [] Value.none Value.none Value.none Value.none none Value.none Value.none 0)) (aT []))
noncomputable def o_56 (P : Params) : Obj := (Obj.mk (Value.type "code") none (Data.fields (aT [(vs (st "side_of") 207), (vs (st "side_of") 208), (vs (st "/claim/cut.py") 209), (vi 11 0), (vi 1 0), (vi 0 0), (vi 0 0), (vi 3 0), (vr 15), (Value.bool true), (vi 181 0), (vr 16), Value.none, (vr 17), (vr 18), (vr 19), (vi 211 0), (vi 11 0), (vs (st "/claim/cut.py") 212)])) (aT []))
noncomputable def o_57 (P : Params) : Obj := (Obj.mk (Value.type "function") none (Data.func (FuncData.mk (st "side_of") (st "side_of") (fA 10) (.stmts (fB 10)) (fS 10) 3 [] Value.none Value.none Value.none (vs (st "chess.kinds") 187) none (vr 20) Value.none 0)) (aT []))
noncomputable def o_58 (P : Params) : Obj := (oT [])
noncomputable def o_59 (P : Params) : Obj := (Obj.mk Value.none none (Data.fields (aT [])) (aT []))
noncomputable def o_60 (P : Params) : Obj := (oT [(vs (st "piece") 217)])
noncomputable def o_61 (P : Params) : Obj := (oT [])
noncomputable def o_62 (P : Params) : Obj := (Obj.mk Value.none none (Data.func (FuncData.mk (st "kind_of") (st "kind_of") (fA 11) (.stmts (fB 11)) (fS 11) 0 [] Value.none Value.none Value.none Value.none none Value.none Value.none 0)) (aT []))
noncomputable def o_63 (P : Params) : Obj := (Obj.mk (Value.type "code") none (Data.fields (aT [(vs (st "kind_of") 214), (vs (st "kind_of") 215), (vs (st "/claim/cut.py") 216), (vi 13 0), (vi 1 0), (vi 0 0), (vi 0 0), (vi 3 0), (vr 22), (Value.bool true), (vi 181 0), (vr 23), Value.none, (vr 24), (vr 25), (vr 26), (vi 218 0), (vi 13 0), (vs (st "/claim/cut.py") 219)])) (aT []))
noncomputable def o_64 (P : Params) : Obj := (Obj.mk (Value.type "function") none (Data.func (FuncData.mk (st "kind_of") (st "kind_of") (fA 11) (.stmts (fB 11)) (fS 11) 3 [] Value.none Value.none Value.none (vs (st "chess.kinds") 187) none (vr 27) Value.none 0)) (aT []))
noncomputable def o_65 (P : Params) : Obj := (oT [])
noncomputable def o_66 (P : Params) : Obj := (Obj.mk Value.none none (Data.fields (aT [])) (aT []))
noncomputable def o_67 (P : Params) : Obj := (oT [(vs (st "b") 226)])
noncomputable def o_68 (P : Params) : Obj := (oT [])
noncomputable def o_69 (P : Params) : Obj := (Obj.mk Value.none none (Data.func (FuncData.mk (st "more_than_one") (st "more_than_one") (fA 13) (.stmts (fB 13)) (fS 13) 0 [] Value.none Value.none Value.none Value.none none Value.none Value.none 0)) (aT []))
noncomputable def o_70 (P : Params) : Obj := (Obj.mk (Value.type "code") none (Data.fields (aT [(vs (st "more_than_one") 223), (vs (st "more_than_one") 224), (vs (st "/claim/cut.py") 225), (vi 16 0), (vi 1 0), (vi 0 0), (vi 0 0), (vi 3 0), (vr 29), (Value.bool true), (vi 181 0), (vr 30), Value.none, (vr 31), (vr 32), (vr 33), (vi 227 0), (vi 16 0), (vs (st "/claim/cut.py") 228)])) (aT []))
noncomputable def o_71 (P : Params) : Obj := (Obj.mk (Value.type "function") none (Data.func (FuncData.mk (st "more_than_one") (st "more_than_one") (fA 13) (.stmts (fB 13)) (fS 13) 3 [] Value.none Value.none Value.none (vs (st "chess.bits") 221) none (vr 34) Value.none 0)) (aT []))
noncomputable def o_72 (P : Params) : Obj := (oT [])
noncomputable def o_73 (P : Params) : Obj := (Obj.mk Value.none none (Data.fields (aT [])) (aT []))
noncomputable def o_74 (P : Params) : Obj := (oT [(vs (st "b") 233), (vs (st "width") 234), (vs (st "square") 235)])
noncomputable def o_75 (P : Params) : Obj := (oT [])
noncomputable def o_76 (P : Params) : Obj := (Obj.mk Value.none none (Data.func (FuncData.mk (st "highest") (st "highest") (fA 14) (.stmts (fB 14)) (fS 14) 0 [] Value.none Value.none Value.none Value.none none Value.none Value.none 0)) (aT []))
noncomputable def o_77 (P : Params) : Obj := (Obj.mk (Value.type "code") none (Data.fields (aT [(vs (st "highest") 230), (vs (st "highest") 231), (vs (st "/claim/cut.py") 232), (vi 18 0), (vi 1 0), (vi 0 0), (vi 0 0), (vi 3 0), (vr 36), (Value.bool true), (vi 181 0), (vr 37), Value.none, (vr 38), (vr 39), (vr 40), (vi 236 0), (vi 18 0), (vs (st "/claim/cut.py") 237)])) (aT []))
noncomputable def o_78 (P : Params) : Obj := (Obj.mk (Value.type "function") none (Data.func (FuncData.mk (st "highest") (st "highest") (fA 14) (.stmts (fB 14)) (fS 14) 3 [] Value.none Value.none Value.none (vs (st "chess.bits") 221) none (vr 41) Value.none 0)) (aT []))
noncomputable def o_79 (P : Params) : Obj := (oT [])
noncomputable def o_80 (P : Params) : Obj := (Obj.mk Value.none none (Data.fields (aT [])) (aT []))
noncomputable def o_81 (P : Params) : Obj := (oT [(vs (st "b") 242)])
noncomputable def o_82 (P : Params) : Obj := (oT [])
noncomputable def o_83 (P : Params) : Obj := (Obj.mk Value.none none (Data.func (FuncData.mk (st "lowest") (st "lowest") (fA 15) (.stmts (fB 15)) (fS 15) 0 [] Value.none Value.none Value.none Value.none none Value.none Value.none 0)) (aT []))
noncomputable def o_84 (P : Params) : Obj := (Obj.mk (Value.type "code") none (Data.fields (aT [(vs (st "lowest") 239), (vs (st "lowest") 240), (vs (st "/claim/cut.py") 241), (vi 31 0), (vi 1 0), (vi 0 0), (vi 0 0), (vi 3 0), (vr 43), (Value.bool true), (vi 181 0), (vr 44), Value.none, (vr 45), (vr 46), (vr 47), (vi 243 0), (vi 31 0), (vs (st "/claim/cut.py") 244)])) (aT []))
noncomputable def o_85 (P : Params) : Obj := (Obj.mk (Value.type "function") none (Data.func (FuncData.mk (st "lowest") (st "lowest") (fA 15) (.stmts (fB 15)) (fS 15) 3 [] Value.none Value.none Value.none (vs (st "chess.bits") 221) none (vr 48) Value.none 0)) (aT []))
noncomputable def o_86 (P : Params) : Obj := (oT [])
noncomputable def o_87 (P : Params) : Obj := (Obj.mk Value.none none (Data.fields (aT [])) (aT []))
noncomputable def o_88 (P : Params) : Obj := (oT [(vs (st "b") 249), (vs (st "out") 250), (vs (st "square") 251)])
noncomputable def o_89 (P : Params) : Obj := (oT [])
noncomputable def o_90 (P : Params) : Obj := (Obj.mk Value.none none (Data.func (FuncData.mk (st "squares_of") (st "squares_of") (fA 16) (.stmts (fB 16)) (fS 16) 0 [] Value.none Value.none Value.none Value.none none Value.none Value.none 0)) (aT []))
noncomputable def o_91 (P : Params) : Obj := (Obj.mk (Value.type "code") none (Data.fields (aT [(vs (st "squares_of") 246), (vs (st "squares_of") 247), (vs (st "/claim/cut.py") 248), (vi 33 0), (vi 1 0), (vi 0 0), (vi 0 0), (vi 3 0), (vr 50), (Value.bool true), (vi 181 0), (vr 51), Value.none, (vr 52), (vr 53), (vr 54), (vi 252 0), (vi 33 0), (vs (st "/claim/cut.py") 253)])) (aT []))
noncomputable def o_92 (P : Params) : Obj := (Obj.mk (Value.type "function") none (Data.func (FuncData.mk (st "squares_of") (st "squares_of") (fA 16) (.stmts (fB 16)) (fS 16) 3 [] Value.none Value.none Value.none (vs (st "chess.bits") 221) none (vr 55) Value.none 0)) (aT []))
noncomputable def o_93 (P : Params) : Obj := (oT [])
noncomputable def o_94 (P : Params) : Obj := (Obj.mk Value.none none (Data.fields (aT [])) (aT []))
noncomputable def o_95 (P : Params) : Obj := (oT [(vs (st "geo") 260), (vs (st "a") 261), (vs (st "b") 262), (vs (st "d") 263)])
noncomputable def o_96 (P : Params) : Obj := (oT [])
noncomputable def o_97 (P : Params) : Obj := (Obj.mk Value.none none (Data.func (FuncData.mk (st "direction") (st "direction") (fA 18) (.stmts (fB 18)) (fS 18) 0 [] Value.none Value.none Value.none Value.none none Value.none Value.none 0)) (aT []))
noncomputable def o_98 (P : Params) : Obj := (Obj.mk (Value.type "code") none (Data.fields (aT [(vs (st "direction") 257), (vs (st "direction") 258), (vs (st "/claim/cut.py") 259), (vi 46 0), (vi 3 0), (vi 0 0), (vi 0 0), (vi 3 0), (vr 57), (Value.bool true), (vi 181 0), (vr 58), Value.none, (vr 59), (vr 60), (vr 61), (vi 264 0), (vi 46 0), (vs (st "/claim/cut.py") 265)])) (aT []))
noncomputable def o_99 (P : Params) : Obj := (Obj.mk (Value.type "function") none (Data.func (FuncData.mk (st "direction") (st "direction") (fA 18) (.stmts (fB 18)) (fS 18) 3 [] Value.none Value.none Value.none (vs (st "chess.lines") 255) none (vr 62) Value.none 0)) (aT []))
noncomputable def o_100 (P : Params) : Obj := (oT [])
noncomputable def o_101 (P : Params) : Obj := (Obj.mk Value.none none (Data.fields (aT [])) (aT []))
noncomputable def o_102 (P : Params) : Obj := (oT [(vs (st "geo") 270), (vs (st "a") 271), (vs (st "b") 272), (vs (st "d") 273)])
noncomputable def o_103 (P : Params) : Obj := (oT [])
noncomputable def o_104 (P : Params) : Obj := (Obj.mk Value.none none (Data.func (FuncData.mk (st "between") (st "between") (fA 19) (.stmts (fB 19)) (fS 19) 0 [] Value.none Value.none Value.none Value.none none Value.none Value.none 0)) (aT []))
noncomputable def o_105 (P : Params) : Obj := (Obj.mk (Value.type "code") none (Data.fields (aT [(vs (st "between") 267), (vs (st "between") 268), (vs (st "/claim/cut.py") 269), (vi 51 0), (vi 3 0), (vi 0 0), (vi 0 0), (vi 3 0), (vr 64), (Value.bool true), (vi 181 0), (vr 65), Value.none, (vr 66), (vr 67), (vr 68), (vi 274 0), (vi 51 0), (vs (st "/claim/cut.py") 275)])) (aT []))
noncomputable def o_106 (P : Params) : Obj := (Obj.mk (Value.type "function") none (Data.func (FuncData.mk (st "between") (st "between") (fA 19) (.stmts (fB 19)) (fS 19) 3 [] Value.none Value.none Value.none (vs (st "chess.lines") 255) none (vr 69) Value.none 0)) (aT []))
noncomputable def o_107 (P : Params) : Obj := (Obj.mk Value.none none (Data.dict (aT [(DictEntry.mk (PyData.keyHash P (st "type.__subclasses__.Exception.0")) (vs (st "type.__subclasses__.Exception.0") 304) (vi 87 0)), (DictEntry.mk (PyData.keyHash P (st "type.__subclasses__.Exception.n")) (vs (st "type.__subclasses__.Exception.n") 305) (vi 1 0))]) 2) (aT []))
noncomputable def o_108 (P : Params) : Obj := (Obj.mk (Value.type "dict") none (Data.dict (aT [(DictEntry.mk (PyData.keyHash P (st "__name__")) (vs (st "__name__") 165) (vs (st "chess.geometry") 308)), (DictEntry.mk (PyData.keyHash P (st "__doc__")) (vs (st "__doc__") 166) Value.none), (DictEntry.mk (PyData.keyHash P (st "__package__")) (vs (st "__package__") 167) Value.none), (DictEntry.mk (PyData.keyHash P (st "__loader__")) (vs (st "__loader__") 168) (Value.builtin "__main__.__loader__#opaque")), (DictEntry.mk (PyData.keyHash P (st "__spec__")) (vs (st "__spec__") 169) Value.none), (DictEntry.mk (PyData.keyHash P (st "__annotations__")) (vs (st "__annotations__") 170) (vr 6)), (DictEntry.mk (PyData.keyHash P (st "__builtins__")) (vs (st "__builtins__") 171) (vr 4)), (DictEntry.mk (PyData.keyHash P (st "__file__")) (vs (st "__file__") 173) (vs (st "/claim/cut.py") 172)), (DictEntry.mk (PyData.keyHash P (st "__cached__")) (vs (st "__cached__") 174) Value.none), (DictEntry.mk (PyData.keyHash P (st "WHITE")) (vs (st "WHITE") 190) (vi 0 189)), (DictEntry.mk (PyData.keyHash P (st "BLACK")) (vs (st "BLACK") 192) (vi 1 191)), (DictEntry.mk (PyData.keyHash P (st "PAWN")) (vs (st "PAWN") 194) (vi 1 193)), (DictEntry.mk (PyData.keyHash P (st "KNIGHT")) (vs (st "KNIGHT") 196) (vi 2 195)), (DictEntry.mk (PyData.keyHash P (st "BISHOP")) (vs (st "BISHOP") 198) (vi 3 197)), (DictEntry.mk (PyData.keyHash P (st "ROOK")) (vs (st "ROOK") 200) (vi 4 199)), (DictEntry.mk (PyData.keyHash P (st "QUEEN")) (vs (st "QUEEN") 202) (vi 5 201)), (DictEntry.mk (PyData.keyHash P (st "KING")) (vs (st "KING") 204) (vi 6 203)), (DictEntry.mk (PyData.keyHash P (st "EMPTY")) (vs (st "EMPTY") 206) (vi 0 205)), (DictEntry.mk (PyData.keyHash P (st "side_of")) (vs (st "side_of") 213) (vr 21)), (DictEntry.mk (PyData.keyHash P (st "kind_of")) (vs (st "kind_of") 220) (vr 28)), (DictEntry.mk (PyData.keyHash P (st "more_than_one")) (vs (st "more_than_one") 229) (vr 35)), (DictEntry.mk (PyData.keyHash P (st "highest")) (vs (st "highest") 238) (vr 42)), (DictEntry.mk (PyData.keyHash P (st "lowest")) (vs (st "lowest") 245) (vr 49)), (DictEntry.mk (PyData.keyHash P (st "squares_of")) (vs (st "squares_of") 254) (vr 56)), (DictEntry.mk (PyData.keyHash P (st "direction")) (vs (st "direction") 266) (vr 63)), (DictEntry.mk (PyData.keyHash P (st "between")) (vs (st "between") 276) (vr 70)), (DictEntry.mk (PyData.keyHash P (st "ChessError")) (vs (st "ChessError") 307) (vr 87)), (DictEntry.mk (PyData.keyHash P (st "STEP_FILES")) (vs (st "STEP_FILES") 321) (vr 91)), (DictEntry.mk (PyData.keyHash P (st "STEP_RANKS")) (vs (st "STEP_RANKS") 333) (vr 92))]) 29) (aT []))
noncomputable def o_109 (P : Params) : Obj := (Obj.mk Value.none none (Data.fields (aT [(vi 11 0), (vi 0 0), (vr 20), (vi 13 0), (vi 0 0), (vr 27), (vi 16 0), (vi 0 0), (vr 34), (vi 18 0), (vi 0 0), (vr 41), (vi 31 0), (vi 0 0), (vr 48), (vi 33 0), (vi 0 0), (vr 55), (vi 46 0), (vi 0 0), (vr 62), (vi 51 0), (vi 0 0), (vr 69), (vi 57 0), (vi 0 0), (vr 76)])) (aT []))
noncomputable def o_110 (P : Params) : Obj := (oT [(Value.type "Exception")])
noncomputable def o_111 (P : Params) : Obj := (Obj.mk (Value.type "builtin_function_or_method") none (Data.fields (aT [(Value.builtin "type.__prepare__"), (Value.type "type")])) (aT []))
noncomputable def o_112 (P : Params) : Obj := (Obj.mk (Value.type "dict") none (Data.dict (aT [(DictEntry.mk (PyData.keyHash P (st "__module__")) (vs (st "__module__") 286) (vs (st "chess.errors") 277)), (DictEntry.mk (PyData.keyHash P (st "__qualname__")) (vs (st "__qualname__") 288) (vs (st "ChessError") 287)), (DictEntry.mk (PyData.keyHash P (st "__firstlineno__")) (vs (st "__firstlineno__") 290) (vi 57 289)), (DictEntry.mk (PyData.keyHash P (st "__init__")) (vs (st "__init__") 298) (vr 84)), (DictEntry.mk (PyData.keyHash P (st "__static_attributes__")) (vs (st "__static_attributes__") 300) (vr 85))]) 5) (aT []))
noncomputable def o_113 (P : Params) : Obj := (oT [])
noncomputable def o_114 (P : Params) : Obj := (Obj.mk Value.none none (Data.fields (aT [(vi 59 0), (vi 4 0), (vr 83)])) (aT []))
noncomputable def o_115 (P : Params) : Obj := (Obj.mk (Value.type "code") none (Data.fields (aT [(vs (st "ChessError") 281), (vs (st "ChessError") 282), (vs (st "/claim/cut.py") 283), (vi 57 0), (vi 0 0), (vi 0 0), (vi 0 0), (vi 0 0), (vr 74), (Value.bool false), (vi 181 0), (vr 75), Value.none, Value.none, Value.none, Value.none, (vi 284 0), (vi 57 0), (vs (st "/claim/cut.py") 285)])) (aT []))
noncomputable def o_116 (P : Params) : Obj := (Obj.mk (Value.type "frame") none Data.plain (aT [(Option.some (vr 76)), (Option.some (vr 3)), (Option.some (vr 73)), none, (Option.some (vs (st "chess.errors") 277)), none, (Option.some (vr 0))]))
noncomputable def o_117 (P : Params) : Obj := (oT [])
noncomputable def o_118 (P : Params) : Obj := (Obj.mk Value.none none (Data.fields (aT [])) (aT []))
noncomputable def o_119 (P : Params) : Obj := (oT [(vs (st "self") 294), (vs (st "text") 295)])
noncomputable def o_120 (P : Params) : Obj := (oT [])
noncomputable def o_121 (P : Params) : Obj := (Obj.mk Value.none none (Data.func (FuncData.mk (st "__init__") (st "ChessError.__init__") (fA 21) (.stmts (fB 21)) (fS 21) 0 [] Value.none Value.none Value.none Value.none none Value.none Value.none 0)) (aT []))
noncomputable def o_122 (P : Params) : Obj := (Obj.mk (Value.type "code") none (Data.fields (aT [(vs (st "__init__") 291), (vs (st "ChessError.__init__") 292), (vs (st "/claim/cut.py") 293), (vi 59 0), (vi 2 0), (vi 0 0), (vi 0 0), (vi 3 0), (vr 78), (Value.bool true), (vi 181 0), (vr 79), Value.none, (vr 80), (vr 81), (vr 82), (vi 296 0), (vi 59 0), (vs (st "/claim/cut.py") 297)])) (aT []))
noncomputable def o_123 (P : Params) : Obj := (Obj.mk (Value.type "function") none (Data.func (FuncData.mk (st "__init__") (st "ChessError.__init__") (fA 21) (.stmts (fB 21)) (fS 21) 3 [] Value.none Value.none Value.none (vs (st "chess.errors") 277) none (vr 83) Value.none 0)) (aT []))
noncomputable def o_124 (P : Params) : Obj := (oT [(vs (st "text") 299)])
noncomputable def o_125 (P : Params) : Obj := (Obj.mk (Value.type "dict") none (Data.dict (aT [(DictEntry.mk (PyData.keyHash P (st "__module__")) (vs (st "__module__") 286) (vs (st "chess.errors") 277)), (DictEntry.mk (PyData.keyHash P (st "__firstlineno__")) (vs (st "__firstlineno__") 290) (vi 57 289)), (DictEntry.mk (PyData.keyHash P (st "__init__")) (vs (st "__init__") 298) (vr 84)), (DictEntry.mk (PyData.keyHash P (st "__static_attributes__")) (vs (st "__static_attributes__") 300) (vr 85)), (DictEntry.mk (PyData.keyHash P (st "__weakref__")) (vs (st "__weakref__") 302) (vr 88)), (DictEntry.mk (PyData.keyHash P (st "__doc__")) (vs (st "__doc__") 303) Value.none)]) 3) (aT []))
noncomputable def o_126 (P : Params) : Obj := (Obj.mk (Value.type "type") none (Data.cls (ClassData.mk (st "ChessError") [(Value.type "Exception")] [(vr 87), (Value.type "Exception"), (Value.type "BaseException"), (Value.type "object")] 86 (st "ChessError") true [] [] false none false)) (aT [(Option.some (vr 71)), none, (Option.some (vs (st "ChessError") 279)), (Option.some (vs (st "ChessError") 287)), (Option.some (Value.builtin "Exception.__new__")), (Option.some (Value.bool true))]))
noncomputable def o_127 (P : Params) : Obj := (Obj.mk (Value.type "getset_descriptor") none (Data.fields (aT [(vs (st "__weakref__") 301), (vr 87), (Value.builtin "ExceptionGroup.__weakref__"), Value.none])) (aT []))
noncomputable def o_128 (P : Params) : Obj := (Obj.mk (Value.type "super") none (Data.fields (aT [(vr 87), (vr 87), (vr 87)])) (aT []))
noncomputable def o_129 (P : Params) : Obj := (Obj.mk (Value.type "builtin_function_or_method") none (Data.fields (aT [(Value.builtin "object.__init_subclass__"), (vr 87)])) (aT []))
noncomputable def o_130 (P : Params) : Obj := (oT [(vi 0 310), (vi 1 311), (vi 0 312), (vi (Neg.neg 1) 314), (vi 1 315), (vi 1 316), (vi (Neg.neg 1) 318), (vi (Neg.neg 1) 320)])
noncomputable def o_131 (P : Params) : Obj := (oT [(vi 1 322), (vi 0 323), (vi (Neg.neg 1) 325), (vi 0 326), (vi 1 327), (vi (Neg.neg 1) 329), (vi (Neg.neg 1) 331), (vi 1 332)])
noncomputable def o_132 (P : Params) : Obj := (Obj.mk (Value.type "dict") none (Data.dict (aT [(DictEntry.mk (PyData.keyHash P (st "__name__")) (vs (st "__name__") 165) (vs (st "chess.geometry") 308)), (DictEntry.mk (PyData.keyHash P (st "__doc__")) (vs (st "__doc__") 166) Value.none), (DictEntry.mk (PyData.keyHash P (st "__package__")) (vs (st "__package__") 167) Value.none), (DictEntry.mk (PyData.keyHash P (st "__loader__")) (vs (st "__loader__") 168) (Value.builtin "__main__.__loader__#opaque")), (DictEntry.mk (PyData.keyHash P (st "__spec__")) (vs (st "__spec__") 169) Value.none), (DictEntry.mk (PyData.keyHash P (st "__annotations__")) (vs (st "__annotations__") 170) (vr 6)), (DictEntry.mk (PyData.keyHash P (st "__builtins__")) (vs (st "__builtins__") 171) (vr 4)), (DictEntry.mk (PyData.keyHash P (st "__file__")) (vs (st "__file__") 173) (vs (st "/claim/cut.py") 172)), (DictEntry.mk (PyData.keyHash P (st "__cached__")) (vs (st "__cached__") 174) Value.none), (DictEntry.mk (PyData.keyHash P (st "WHITE")) (vs (st "WHITE") 190) (vi 0 189)), (DictEntry.mk (PyData.keyHash P (st "BLACK")) (vs (st "BLACK") 192) (vi 1 191)), (DictEntry.mk (PyData.keyHash P (st "PAWN")) (vs (st "PAWN") 194) (vi 1 193)), (DictEntry.mk (PyData.keyHash P (st "KNIGHT")) (vs (st "KNIGHT") 196) (vi 2 195)), (DictEntry.mk (PyData.keyHash P (st "BISHOP")) (vs (st "BISHOP") 198) (vi 3 197)), (DictEntry.mk (PyData.keyHash P (st "ROOK")) (vs (st "ROOK") 200) (vi 4 199)), (DictEntry.mk (PyData.keyHash P (st "QUEEN")) (vs (st "QUEEN") 202) (vi 5 201)), (DictEntry.mk (PyData.keyHash P (st "KING")) (vs (st "KING") 204) (vi 6 203)), (DictEntry.mk (PyData.keyHash P (st "EMPTY")) (vs (st "EMPTY") 206) (vi 0 205)), (DictEntry.mk (PyData.keyHash P (st "side_of")) (vs (st "side_of") 213) (vr 21)), (DictEntry.mk (PyData.keyHash P (st "kind_of")) (vs (st "kind_of") 220) (vr 28)), (DictEntry.mk (PyData.keyHash P (st "more_than_one")) (vs (st "more_than_one") 229) (vr 35)), (DictEntry.mk (PyData.keyHash P (st "highest")) (vs (st "highest") 238) (vr 42)), (DictEntry.mk (PyData.keyHash P (st "lowest")) (vs (st "lowest") 245) (vr 49)), (DictEntry.mk (PyData.keyHash P (st "squares_of")) (vs (st "squares_of") 254) (vr 56)), (DictEntry.mk (PyData.keyHash P (st "direction")) (vs (st "direction") 266) (vr 63)), (DictEntry.mk (PyData.keyHash P (st "between")) (vs (st "between") 276) (vr 70)), (DictEntry.mk (PyData.keyHash P (st "ChessError")) (vs (st "ChessError") 307) (vr 87)), (DictEntry.mk (PyData.keyHash P (st "STEP_FILES")) (vs (st "STEP_FILES") 321) (vr 91)), (DictEntry.mk (PyData.keyHash P (st "STEP_RANKS")) (vs (st "STEP_RANKS") 333) (vr 92)), (DictEntry.mk (PyData.keyHash P (st "Geometry")) (vs (st "Geometry") 378) (vr 109)), (DictEntry.mk (PyData.keyHash P (st "is_growing")) (vs (st "is_growing") 385) (vr 120)), (DictEntry.mk (PyData.keyHash P (st "add_masks")) (vs (st "add_masks") 396) (vr 127)), (DictEntry.mk (PyData.keyHash P (st "inner_squares")) (vs (st "inner_squares") 405) (vr 134)), (DictEntry.mk (PyData.keyHash P (st "add_rays")) (vs (st "add_rays") 419) (vr 141)), (DictEntry.mk (PyData.keyHash P (st "add_pawns")) (vs (st "add_pawns") 427) (vr 148))]) 35) (aT []))
noncomputable def o_133 (P : Params) : Obj := (Obj.mk Value.none none (Data.fields (aT [(vi 11 0), (vi 0 0), (vr 20), (vi 13 0), (vi 0 0), (vr 27), (vi 16 0), (vi 0 0), (vr 34), (vi 18 0), (vi 0 0), (vr 41), (vi 31 0), (vi 0 0), (vr 48), (vi 33 0), (vi 0 0), (vr 55), (vi 46 0), (vi 0 0), (vr 62), (vi 51 0), (vi 0 0), (vr 69), (vi 57 0), (vi 0 0), (vr 76), (vi 65 0), (vi 0 0), (vr 98), (vi 82 0), (vi 0 0), (vr 119), (vi 84 0), (vi 0 0), (vr 126), (vi 92 0), (vi 0 0), (vr 133), (vi 103 0), (vi 0 0), (vr 140), (vi 118 0), (vi 0 0), (vr 147)])) (aT []))
noncomputable def o_134 (P : Params) : Obj := (oT [])
noncomputable def o_135 (P : Params) : Obj := (Obj.mk (Value.type "builtin_function_or_method") none (Data.fields (aT [(Value.builtin "type.__prepare__"), (Value.type "type")])) (aT []))
noncomputable def o_136 (P : Params) : Obj := (Obj.mk (Value.type "dict") none (Data.dict (aT [(DictEntry.mk (PyData.keyHash P (st "__module__")) (vs (st "__module__") 341) (vs (st "chess.geometry") 308)), (DictEntry.mk (PyData.keyHash P (st "__qualname__")) (vs (st "__qualname__") 343) (vs (st "Geometry") 342)), (DictEntry.mk (PyData.keyHash P (st "__firstlineno__")) (vs (st "__firstlineno__") 345) (vi 65 344)), (DictEntry.mk (PyData.keyHash P (st "__init__")) (vs (st "__init__") 356) (vr 106)), (DictEntry.mk (PyData.keyHash P (st "__static_attributes__")) (vs (st "__static_attributes__") 371) (vr 107))]) 5) (aT []))
noncomputable def o_137 (P : Params) : Obj := (oT [])
noncomputable def o_138 (P : Params) : Obj := (Obj.mk Value.none none (Data.fields (aT [(vi 67 0), (vi 4 0), (vr 105)])) (aT []))
noncomputable def o_139 (P : Params) : Obj := (Obj.mk (Value.type "code") none (Data.fields (aT [(vs (st "Geometry") 336), (vs (st "Geometry") 337), (vs (st "/claim/cut.py") 338), (vi 65 0), (vi 0 0), (vi 0 0), (vi 0 0), (vi 0 0), (vr 96), (Value.bool false), (vi 181 0), (vr 97), Value.none, Value.none, Value.none, Value.none, (vi 339 0), (vi 65 0), (vs (st "/claim/cut.py") 340)])) (aT []))
noncomputable def o_140 (P : Params) : Obj := (Obj.mk (Value.type "frame") none Data.plain (aT [(Option.some (vr 98)), (Option.some (vr 3)), (Option.some (vr 95)), none, (Option.some (vs (st "chess.geometry") 308)), none, (Option.some (vr 0))]))
noncomputable def o_141 (P : Params) : Obj := (oT [])
noncomputable def o_142 (P : Params) : Obj := (Obj.mk Value.none none (Data.fields (aT [])) (aT []))
noncomputable def o_143 (P : Params) : Obj := (oT [(vs (st "self") 349), (vs (st "files") 350), (vs (st "ranks") 351), (vs (st "has_double") 352), (vs (st "has_castling") 353)])
noncomputable def o_144 (P : Params) : Obj := (oT [])
noncomputable def o_145 (P : Params) : Obj := (Obj.mk Value.none none (Data.func (FuncData.mk (st "__init__") (st "Geometry.__init__") (fA 25) (.stmts (fB 25)) (fS 25) 0 [] Value.none Value.none Value.none Value.none none Value.none Value.none 0)) (aT []))
noncomputable def o_146 (P : Params) : Obj := (Obj.mk (Value.type "code") none (Data.fields (aT [(vs (st "__init__") 346), (vs (st "Geometry.__init__") 347), (vs (st "/claim/cut.py") 348), (vi 67 0), (vi 5 0), (vi 0 0), (vi 0 0), (vi 3 0), (vr 100), (Value.bool true), (vi 181 0), (vr 101), Value.none, (vr 102), (vr 103), (vr 104), (vi 354 0), (vi 67 0), (vs (st "/claim/cut.py") 355)])) (aT []))
noncomputable def o_147 (P : Params) : Obj := (Obj.mk (Value.type "function") none (Data.func (FuncData.mk (st "__init__") (st "Geometry.__init__") (fA 25) (.stmts (fB 25)) (fS 25) 3 [] Value.none Value.none Value.none (vs (st "chess.geometry") 308) none (vr 105) Value.none 0)) (aT []))
noncomputable def o_148 (P : Params) : Obj := (oT [(vs (st "castles") 357), (vs (st "file_masks") 358), (vs (st "files") 359), (vs (st "full") 360), (vs (st "has_castling") 361), (vs (st "has_double") 362), (vs (st "king") 363), (vs (st "knight") 364), (vs (st "pawn") 365), (vs (st "rank_masks") 366), (vs (st "ranks") 367), (vs (st "rays") 368), (vs (st "rights_lost") 369), (vs (st "size") 370)])
noncomputable def o_149 (P : Params) : Obj := (Obj.mk (Value.type "dict") none (Data.dict (aT [(DictEntry.mk (PyData.keyHash P (st "__module__")) (vs (st "__module__") 341) (vs (st "chess.geometry") 308)), (DictEntry.mk (PyData.keyHash P (st "__firstlineno__")) (vs (st "__firstlineno__") 345) (vi 65 344)), (DictEntry.mk (PyData.keyHash P (st "__init__")) (vs (st "__init__") 356) (vr 106)), (DictEntry.mk (PyData.keyHash P (st "__static_attributes__")) (vs (st "__static_attributes__") 371) (vr 107)), (DictEntry.mk (PyData.keyHash P (st "__dict__")) (vs (st "__dict__") 373) (vr 110)), (DictEntry.mk (PyData.keyHash P (st "__weakref__")) (vs (st "__weakref__") 375) (vr 111)), (DictEntry.mk (PyData.keyHash P (st "__doc__")) (vs (st "__doc__") 376) Value.none)]) 4) (aT []))
noncomputable def o_150 (P : Params) : Obj := (Obj.mk (Value.type "type") none (Data.cls (ClassData.mk (st "Geometry") [(Value.type "object")] [(vr 109), (Value.type "object")] 108 (st "Geometry") true [] [] false none false)) (aT [none, none, (Option.some (vs (st "Geometry") 334)), (Option.some (vs (st "Geometry") 342)), (Option.some (Value.builtin "object.__new__")), (Option.some (Value.bool true))]))
noncomputable def o_151 (P : Params) : Obj := (Obj.mk (Value.type "getset_descriptor") none (Data.fields (aT [(vs (st "__dict__") 372), (vr 109), (Value.builtin "function.__dict__"), (Value.builtin "function.__dict__#set")])) (aT []))
noncomputable def o_152 (P : Params) : Obj := (Obj.mk (Value.type "getset_descriptor") none (Data.fields (aT [(vs (st "__weakref__") 374), (vr 109), (Value.builtin "ExceptionGroup.__weakref__"), Value.none])) (aT []))
noncomputable def o_153 (P : Params) : Obj := (Obj.mk (Value.type "super") none (Data.fields (aT [(vr 109), (vr 109), (vr 109)])) (aT []))
noncomputable def o_154 (P : Params) : Obj := (Obj.mk (Value.type "builtin_function_or_method") none (Data.fields (aT [(Value.builtin "object.__init_subclass__"), (vr 109)])) (aT []))
noncomputable def o_155 (P : Params) : Obj := (oT [])
noncomputable def o_156 (P : Params) : Obj := (Obj.mk Value.none none (Data.fields (aT [])) (aT []))
noncomputable def o_157 (P : Params) : Obj := (oT [(vs (st "d") 382)])
noncomputable def o_158 (P : Params) : Obj := (oT [])
noncomputable def o_159 (P : Params) : Obj := (Obj.mk Value.none none (Data.func (FuncData.mk (st "is_growing") (st "is_growing") (fA 26) (.stmts (fB 26)) (fS 26) 0 [] Value.none Value.none Value.none Value.none none Value.none Value.none 0)) (aT []))
noncomputable def o_160 (P : Params) : Obj := (Obj.mk (Value.type "code") none (Data.fields (aT [(vs (st "is_growing") 379), (vs (st "is_growing") 380), (vs (st "/claim/cut.py") 381), (vi 82 0), (vi 1 0), (vi 0 0), (vi 0 0), (vi 3 0), (vr 114), (Value.bool true), (vi 181 0), (vr 115), Value.none, (vr 116), (vr 117), (vr 118), (vi 383 0), (vi 82 0), (vs (st "/claim/cut.py") 384)])) (aT []))
noncomputable def o_161 (P : Params) : Obj := (Obj.mk (Value.type "function") none (Data.func (FuncData.mk (st "is_growing") (st "is_growing") (fA 26) (.stmts (fB 26)) (fS 26) 3 [] Value.none Value.none Value.none (vs (st "chess.geometry") 308) none (vr 119) Value.none 0)) (aT []))
noncomputable def o_162 (P : Params) : Obj := (oT [])
noncomputable def o_163 (P : Params) : Obj := (Obj.mk Value.none none (Data.fields (aT [])) (aT []))
noncomputable def o_164 (P : Params) : Obj := (oT [(vs (st "geo") 389), (vs (st "row") 390), (vs (st "column") 391), (vs (st "r") 392), (vs (st "f") 393)])
noncomputable def o_165 (P : Params) : Obj := (oT [])
noncomputable def o_166 (P : Params) : Obj := (Obj.mk Value.none none (Data.func (FuncData.mk (st "add_masks") (st "add_masks") (fA 27) (.stmts (fB 27)) (fS 27) 0 [] Value.none Value.none Value.none Value.none none Value.none Value.none 0)) (aT []))
noncomputable def o_167 (P : Params) : Obj := (Obj.mk (Value.type "code") none (Data.fields (aT [(vs (st "add_masks") 386), (vs (st "add_masks") 387), (vs (st "/claim/cut.py") 388), (vi 84 0), (vi 1 0), (vi 0 0), (vi 0 0), (vi 3 0), (vr 121), (Value.bool true), (vi 181 0), (vr 122), Value.none, (vr 123), (vr 124), (vr 125), (vi 394 0), (vi 84 0), (vs (st "/claim/cut.py") 395)])) (aT []))
noncomputable def o_168 (P : Params) : Obj := (Obj.mk (Value.type "function") none (Data.func (FuncData.mk (st "add_masks") (st "add_masks") (fA 27) (.stmts (fB 27)) (fS 27) 3 [] Value.none Value.none Value.none (vs (st "chess.geometry") 308) none (vr 126) Value.none 0)) (aT []))
noncomputable def o_169 (P : Params) : Obj := (oT [])
noncomputable def o_170 (P : Params) : Obj := (Obj.mk Value.none none (Data.fields (aT [])) (aT []))
noncomputable def o_171 (P : Params) : Obj := (oT [(vs (st "geo") 400), (vs (st "d") 401), (vs (st "edge") 402)])
noncomputable def o_172 (P : Params) : Obj := (oT [])
noncomputable def o_173 (P : Params) : Obj := (Obj.mk Value.none none (Data.func (FuncData.mk (st "inner_squares") (st "inner_squares") (fA 28) (.stmts (fB 28)) (fS 28) 0 [] Value.none Value.none Value.none Value.none none Value.none Value.none 0)) (aT []))
noncomputable def o_174 (P : Params) : Obj := (Obj.mk (Value.type "code") none (Data.fields (aT [(vs (st "inner_squares") 397), (vs (st "inner_squares") 398), (vs (st "/claim/cut.py") 399), (vi 92 0), (vi 2 0), (vi 0 0), (vi 0 0), (vi 3 0), (vr 128), (Value.bool true), (vi 181 0), (vr 129), Value.none, (vr 130), (vr 131), (vr 132), (vi 403 0), (vi 92 0), (vs (st "/claim/cut.py") 404)])) (aT []))
noncomputable def o_175 (P : Params) : Obj := (Obj.mk (Value.type "function") none (Data.func (FuncData.mk (st "inner_squares") (st "inner_squares") (fA 28) (.stmts (fB 28)) (fS 28) 3 [] Value.none Value.none Value.none (vs (st "chess.geometry") 308) none (vr 133) Value.none 0)) (aT []))
noncomputable def o_176 (P : Params) : Obj := (oT [])
noncomputable def o_177 (P : Params) : Obj := (Obj.mk Value.none none (Data.fields (aT [])) (aT []))
noncomputable def o_178 (P : Params) : Obj := (oT [(vs (st "geo") 409), (vs (st "d") 410), (vs (st "inner") 411), (vs (st "delta") 412), (vs (st "ray") 413), (vs (st "order") 414), (vs (st "square") 415), (vs (st "goal") 416)])
noncomputable def o_179 (P : Params) : Obj := (oT [])
noncomputable def o_180 (P : Params) : Obj := (Obj.mk Value.none none (Data.func (FuncData.mk (st "add_rays") (st "add_rays") (fA 29) (.stmts (fB 29)) (fS 29) 0 [] Value.none Value.none Value.none Value.none none Value.none Value.none 0)) (aT []))
noncomputable def o_181 (P : Params) : Obj := (Obj.mk (Value.type "code") none (Data.fields (aT [(vs (st "add_rays") 406), (vs (st "add_rays") 407), (vs (st "/claim/cut.py") 408), (vi 103 0), (vi 1 0), (vi 0 0), (vi 0 0), (vi 3 0), (vr 135), (Value.bool true), (vi 181 0), (vr 136), Value.none, (vr 137), (vr 138), (vr 139), (vi 417 0), (vi 103 0), (vs (st "/claim/cut.py") 418)])) (aT []))
noncomputable def o_182 (P : Params) : Obj := (Obj.mk (Value.type "function") none (Data.func (FuncData.mk (st "add_rays") (st "add_rays") (fA 29) (.stmts (fB 29)) (fS 29) 3 [] Value.none Value.none Value.none (vs (st "chess.geometry") 308) none (vr 140) Value.none 0)) (aT []))
noncomputable def o_183 (P : Params) : Obj := (oT [])
noncomputable def o_184 (P : Params) : Obj := (Obj.mk Value.none none (Data.fields (aT [])) (aT []))
noncomputable def o_185 (P : Params) : Obj := (oT [(vs (st "geo") 423), (vs (st "square") 424)])
noncomputable def o_186 (P : Params) : Obj := (oT [])
noncomputable def o_187 (P : Params) : Obj := (Obj.mk Value.none none (Data.func (FuncData.mk (st "add_pawns") (st "add_pawns") (fA 30) (.stmts (fB 30)) (fS 30) 0 [] Value.none Value.none Value.none Value.none none Value.none Value.none 0)) (aT []))
noncomputable def o_188 (P : Params) : Obj := (Obj.mk (Value.type "code") none (Data.fields (aT [(vs (st "add_pawns") 420), (vs (st "add_pawns") 421), (vs (st "/claim/cut.py") 422), (vi 118 0), (vi 1 0), (vi 0 0), (vi 0 0), (vi 3 0), (vr 142), (Value.bool true), (vi 181 0), (vr 143), Value.none, (vr 144), (vr 145), (vr 146), (vi 425 0), (vi 118 0), (vs (st "/claim/cut.py") 426)])) (aT []))
noncomputable def o_189 (P : Params) : Obj := (Obj.mk (Value.type "function") none (Data.func (FuncData.mk (st "add_pawns") (st "add_pawns") (fA 30) (.stmts (fB 30)) (fS 30) 3 [] Value.none Value.none Value.none (vs (st "chess.geometry") 308) none (vr 147) Value.none 0)) (aT []))
noncomputable def o_190 (P : Params) : Obj := (Obj.mk (Value.type "dict") none (Data.dict (aT [(DictEntry.mk (PyData.keyHash P (st "__name__")) (vs (st "__name__") 165) (vs (st "chess.position") 536)), (DictEntry.mk (PyData.keyHash P (st "__doc__")) (vs (st "__doc__") 166) Value.none), (DictEntry.mk (PyData.keyHash P (st "__package__")) (vs (st "__package__") 167) Value.none), (DictEntry.mk (PyData.keyHash P (st "__loader__")) (vs (st "__loader__") 168) (Value.builtin "__main__.__loader__#opaque")), (DictEntry.mk (PyData.keyHash P (st "__spec__")) (vs (st "__spec__") 169) Value.none), (DictEntry.mk (PyData.keyHash P (st "__annotations__")) (vs (st "__annotations__") 170) (vr 6)), (DictEntry.mk (PyData.keyHash P (st "__builtins__")) (vs (st "__builtins__") 171) (vr 4)), (DictEntry.mk (PyData.keyHash P (st "__file__")) (vs (st "__file__") 173) (vs (st "/claim/cut.py") 172)), (DictEntry.mk (PyData.keyHash P (st "__cached__")) (vs (st "__cached__") 174) Value.none), (DictEntry.mk (PyData.keyHash P (st "WHITE")) (vs (st "WHITE") 190) (vi 0 189)), (DictEntry.mk (PyData.keyHash P (st "BLACK")) (vs (st "BLACK") 192) (vi 1 191)), (DictEntry.mk (PyData.keyHash P (st "PAWN")) (vs (st "PAWN") 194) (vi 1 193)), (DictEntry.mk (PyData.keyHash P (st "KNIGHT")) (vs (st "KNIGHT") 196) (vi 2 195)), (DictEntry.mk (PyData.keyHash P (st "BISHOP")) (vs (st "BISHOP") 198) (vi 3 197)), (DictEntry.mk (PyData.keyHash P (st "ROOK")) (vs (st "ROOK") 200) (vi 4 199)), (DictEntry.mk (PyData.keyHash P (st "QUEEN")) (vs (st "QUEEN") 202) (vi 5 201)), (DictEntry.mk (PyData.keyHash P (st "KING")) (vs (st "KING") 204) (vi 6 203)), (DictEntry.mk (PyData.keyHash P (st "EMPTY")) (vs (st "EMPTY") 206) (vi 0 205)), (DictEntry.mk (PyData.keyHash P (st "side_of")) (vs (st "side_of") 213) (vr 21)), (DictEntry.mk (PyData.keyHash P (st "kind_of")) (vs (st "kind_of") 220) (vr 28)), (DictEntry.mk (PyData.keyHash P (st "more_than_one")) (vs (st "more_than_one") 229) (vr 35)), (DictEntry.mk (PyData.keyHash P (st "highest")) (vs (st "highest") 238) (vr 42)), (DictEntry.mk (PyData.keyHash P (st "lowest")) (vs (st "lowest") 245) (vr 49)), (DictEntry.mk (PyData.keyHash P (st "squares_of")) (vs (st "squares_of") 254) (vr 56)), (DictEntry.mk (PyData.keyHash P (st "direction")) (vs (st "direction") 266) (vr 63)), (DictEntry.mk (PyData.keyHash P (st "between")) (vs (st "between") 276) (vr 70)), (DictEntry.mk (PyData.keyHash P (st "ChessError")) (vs (st "ChessError") 307) (vr 87)), (DictEntry.mk (PyData.keyHash P (st "STEP_FILES")) (vs (st "STEP_FILES") 321) (vr 91)), (DictEntry.mk (PyData.keyHash P (st "STEP_RANKS")) (vs (st "STEP_RANKS") 333) (vr 92)), (DictEntry.mk (PyData.keyHash P (st "Geometry")) (vs (st "Geometry") 378) (vr 109)), (DictEntry.mk (PyData.keyHash P (st "is_growing")) (vs (st "is_growing") 385) (vr 120)), (DictEntry.mk (PyData.keyHash P (st "add_masks")) (vs (st "add_masks") 396) (vr 127)), (DictEntry.mk (PyData.keyHash P (st "inner_squares")) (vs (st "inner_squares") 405) (vr 134)), (DictEntry.mk (PyData.keyHash P (st "add_rays")) (vs (st "add_rays") 419) (vr 141)), (DictEntry.mk (PyData.keyHash P (st "add_pawns")) (vs (st "add_pawns") 427) (vr 148)), (DictEntry.mk (PyData.keyHash P (st "add_knights")) (vs (st "add_knights") 444) (vr 155)), (DictEntry.mk (PyData.keyHash P (st "add_castles")) (vs (st "add_castles") 457) (vr 162)), (DictEntry.mk (PyData.keyHash P (st "make_geometry")) (vs (st "make_geometry") 468) (vr 169)), (DictEntry.mk (PyData.keyHash P (st "ray_attacks")) (vs (st "ray_attacks") 483) (vr 176)), (DictEntry.mk (PyData.keyHash P (st "rook_attacks")) (vs (st "rook_attacks") 494) (vr 183)), (DictEntry.mk (PyData.keyHash P (st "bishop_attacks")) (vs (st "bishop_attacks") 505) (vr 190)), (DictEntry.mk (PyData.keyHash P (st "queen_attacks")) (vs (st "queen_attacks") 514) (vr 197)), (DictEntry.mk (PyData.keyHash P (st "slider_attacks")) (vs (st "slider_attacks") 524) (vr 204)), (DictEntry.mk (PyData.keyHash P (st "piece_attacks")) (vs (st "piece_attacks") 535) (vr 211))]) 44) (aT []))
noncomputable def o_191 (P : Params) : Obj := (Obj.mk Value.none none (Data.fields (aT [(vi 11 0), (vi 0 0), (vr 20), (vi 13 0), (vi 0 0), (vr 27), (vi 16 0), (vi 0 0), (vr 34), (vi 18 0), (vi 0 0), (vr 41), (vi 31 0), (vi 0 0), (vr 48), (vi 33 0), (vi 0 0), (vr 55), (vi 46 0), (vi 0 0), (vr 62), (vi 51 0), (vi 0 0), (vr 69), (vi 57 0), (vi 0 0), (vr 76), (vi 65 0), (vi 0 0), (vr 98), (vi 82 0), (vi 0 0), (vr 119), (vi 84 0), (vi 0 0), (vr 126), (vi 92 0), (vi 0 0), (vr 133), (vi 103 0), (vi 0 0), (vr 140), (vi 118 0), (vi 0 0), (vr 147), (vi 122 0), (vi 0 0), (vr 154), (vi 134 0), (vi 0 0), (vr 161), (vi 151 0), (vi 0 0), (vr 168), (vi 162 0), (vi 0 0), (vr 175), (vi 177 0), (vi 0 0), (vr 182), (vi 182 0), (vi 0 0), (vr 189), (vi 187 0), (vi 0 0), (vr 196), (vi 189 0), (vi 0 0), (vr 203), (vi 197 0), (vi 0 0), (vr 210)])) (aT []))
noncomputable def o_192 (P : Params) : Obj := (oT [])
noncomputable def o_193 (P : Params) : Obj := (Obj.mk Value.none none (Data.fields (aT [])) (aT []))
noncomputable def o_194 (P : Params) : Obj := (oT [(vs (st "geo") 431), (vs (st "files") 432), (vs (st "not_first") 433), (vs (st "not_last") 434), (vs (st "not_first_two") 435), (vs (st "not_last_two") 436), (vs (st "square") 437), (vs (st "b") 438), (vs (st "near") 439), (vs (st "far") 440), (vs (st "found") 441)])
noncomputable def o_195 (P : Params) : Obj := (oT [])
noncomputable def o_196 (P : Params) : Obj := (Obj.mk Value.none none (Data.func (FuncData.mk (st "add_knights") (st "add_knights") (fA 31) (.stmts (fB 31)) (fS 31) 0 [] Value.none Value.none Value.none Value.none none Value.none Value.none 0)) (aT []))
noncomputable def o_197 (P : Params) : Obj := (Obj.mk (Value.type "code") none (Data.fields (aT [(vs (st "add_knights") 428), (vs (st "add_knights") 429), (vs (st "/claim/cut.py") 430), (vi 122 0), (vi 1 0), (vi 0 0), (vi 0 0), (vi 3 0), (vr 149), (Value.bool true), (vi 181 0), (vr 150), Value.none, (vr 151), (vr 152), (vr 153), (vi 442 0), (vi 122 0), (vs (st "/claim/cut.py") 443)])) (aT []))
noncomputable def o_198 (P : Params) : Obj := (Obj.mk (Value.type "function") none (Data.func (FuncData.mk (st "add_knights") (st "add_knights") (fA 31) (.stmts (fB 31)) (fS 31) 3 [] Value.none Value.none Value.none (vs (st "chess.geometry") 308) none (vr 154) Value.none 0)) (aT []))
noncomputable def o_199 (P : Params) : Obj := (oT [])
noncomputable def o_200 (P : Params) : Obj := (Obj.mk Value.none none (Data.fields (aT [])) (aT []))
noncomputable def o_201 (P : Params) : Obj := (oT [(vs (st "geo") 448), (vs (st "start") 449), (vs (st "index") 450), (vs (st "base") 451), (vs (st "corner") 452), (vs (st "way") 453), (vs (st "goal") 454)])
noncomputable def o_202 (P : Params) : Obj := (oT [])
noncomputable def o_203 (P : Params) : Obj := (Obj.mk Value.none none (Data.func (FuncData.mk (st "add_castles") (st "add_castles") (fA 32) (.stmts (fB 32)) (fS 32) 0 [] Value.none Value.none Value.none Value.none none Value.none Value.none 0)) (aT []))
noncomputable def o_204 (P : Params) : Obj := (Obj.mk (Value.type "code") none (Data.fields (aT [(vs (st "add_castles") 445), (vs (st "add_castles") 446), (vs (st "/claim/cut.py") 447), (vi 134 0), (vi 1 0), (vi 0 0), (vi 0 0), (vi 3 0), (vr 156), (Value.bool true), (vi 181 0), (vr 157), Value.none, (vr 158), (vr 159), (vr 160), (vi 455 0), (vi 134 0), (vs (st "/claim/cut.py") 456)])) (aT []))
noncomputable def o_205 (P : Params) : Obj := (Obj.mk (Value.type "function") none (Data.func (FuncData.mk (st "add_castles") (st "add_castles") (fA 32) (.stmts (fB 32)) (fS 32) 3 [] Value.none Value.none Value.none (vs (st "chess.geometry") 308) none (vr 161) Value.none 0)) (aT []))
noncomputable def o_206 (P : Params) : Obj := (oT [])
noncomputable def o_207 (P : Params) : Obj := (Obj.mk Value.none none (Data.fields (aT [])) (aT []))
noncomputable def o_208 (P : Params) : Obj := (oT [(vs (st "files") 461), (vs (st "ranks") 462), (vs (st "has_double") 463), (vs (st "has_castling") 464), (vs (st "geo") 465)])
noncomputable def o_209 (P : Params) : Obj := (oT [])
noncomputable def o_210 (P : Params) : Obj := (Obj.mk Value.none none (Data.func (FuncData.mk (st "make_geometry") (st "make_geometry") (fA 33) (.stmts (fB 33)) (fS 33) 0 [] Value.none Value.none Value.none Value.none none Value.none Value.none 0)) (aT []))
noncomputable def o_211 (P : Params) : Obj := (Obj.mk (Value.type "code") none (Data.fields (aT [(vs (st "make_geometry") 458), (vs (st "make_geometry") 459), (vs (st "/claim/cut.py") 460), (vi 151 0), (vi 4 0), (vi 0 0), (vi 0 0), (vi 3 0), (vr 163), (Value.bool true), (vi 181 0), (vr 164), Value.none, (vr 165), (vr 166), (vr 167), (vi 466 0), (vi 151 0), (vs (st "/claim/cut.py") 467)])) (aT []))
noncomputable def o_212 (P : Params) : Obj := (Obj.mk (Value.type "function") none (Data.func (FuncData.mk (st "make_geometry") (st "make_geometry") (fA 33) (.stmts (fB 33)) (fS 33) 3 [] Value.none Value.none Value.none (vs (st "chess.geometry") 308) none (vr 168) Value.none 0)) (aT []))
noncomputable def o_213 (P : Params) : Obj := (oT [])
noncomputable def o_214 (P : Params) : Obj := (Obj.mk Value.none none (Data.fields (aT [])) (aT []))
noncomputable def o_215 (P : Params) : Obj := (oT [(vs (st "geo") 474), (vs (st "d") 475), (vs (st "square") 476), (vs (st "occupied") 477), (vs (st "ray") 478), (vs (st "stop") 479), (vs (st "behind") 480)])
noncomputable def o_216 (P : Params) : Obj := (oT [])
noncomputable def o_217 (P : Params) : Obj := (Obj.mk Value.none none (Data.func (FuncData.mk (st "ray_attacks") (st "ray_attacks") (fA 35) (.stmts (fB 35)) (fS 35) 0 [] Value.none Value.none Value.none Value.none none Value.none Value.none 0)) (aT []))
noncomputable def o_218 (P : Params) : Obj := (Obj.mk (Value.type "code") none (Data.fields (aT [(vs (st "ray_attacks") 471), (vs (st "ray_attacks") 472), (vs (st "/claim/cut.py") 473), (vi 162 0), (vi 4 0), (vi 0 0), (vi 0 0), (vi 3 0), (vr 170), (Value.bool true), (vi 181 0), (vr 171), Value.none, (vr 172), (vr 173), (vr 174), (vi 481 0), (vi 162 0), (vs (st "/claim/cut.py") 482)])) (aT []))
noncomputable def o_219 (P : Params) : Obj := (Obj.mk (Value.type "function") none (Data.func (FuncData.mk (st "ray_attacks") (st "ray_attacks") (fA 35) (.stmts (fB 35)) (fS 35) 3 [] Value.none Value.none Value.none (vs (st "chess.sliders") 469) none (vr 175) Value.none 0)) (aT []))
noncomputable def o_220 (P : Params) : Obj := (oT [])
noncomputable def o_221 (P : Params) : Obj := (Obj.mk Value.none none (Data.fields (aT [])) (aT []))
noncomputable def o_222 (P : Params) : Obj := (oT [(vs (st "geo") 487), (vs (st "square") 488), (vs (st "occupied") 489), (vs (st "found") 490), (vs (st "d") 491)])
noncomputable def o_223 (P : Params) : Obj := (oT [])
noncomputable def o_224 (P : Params) : Obj := (Obj.mk Value.none none (Data.func (FuncData.mk (st "rook_attacks") (st "rook_attacks") (fA 36) (.stmts (fB 36)) (fS 36) 0 [] Value.none Value.none Value.none Value.none none Value.none Value.none 0)) (aT []))
noncomputable def o_225 (P : Params) : Obj := (Obj.mk (Value.type "code") none (Data.fields (aT [(vs (st "rook_attacks") 484), (vs (st "rook_attacks") 485), (vs (st "/claim/cut.py") 486), (vi 177 0), (vi 3 0), (vi 0 0), (vi 0 0), (vi 3 0), (vr 177), (Value.bool true), (vi 181 0), (vr 178), Value.none, (vr 179), (vr 180), (vr 181), (vi 492 0), (vi 177 0), (vs (st "/claim/cut.py") 493)])) (aT []))
noncomputable def o_226 (P : Params) : Obj := (Obj.mk (Value.type "function") none (Data.func (FuncData.mk (st "rook_attacks") (st "rook_attacks") (fA 36) (.stmts (fB 36)) (fS 36) 3 [] Value.none Value.none Value.none (vs (st "chess.sliders") 469) none (vr 182) Value.none 0)) (aT []))
noncomputable def o_227 (P : Params) : Obj := (oT [])
noncomputable def o_228 (P : Params) : Obj := (Obj.mk Value.none none (Data.fields (aT [])) (aT []))
noncomputable def o_229 (P : Params) : Obj := (oT [(vs (st "geo") 498), (vs (st "square") 499), (vs (st "occupied") 500), (vs (st "found") 501), (vs (st "d") 502)])
noncomputable def o_230 (P : Params) : Obj := (oT [])
noncomputable def o_231 (P : Params) : Obj := (Obj.mk Value.none none (Data.func (FuncData.mk (st "bishop_attacks") (st "bishop_attacks") (fA 37) (.stmts (fB 37)) (fS 37) 0 [] Value.none Value.none Value.none Value.none none Value.none Value.none 0)) (aT []))
noncomputable def o_232 (P : Params) : Obj := (Obj.mk (Value.type "code") none (Data.fields (aT [(vs (st "bishop_attacks") 495), (vs (st "bishop_attacks") 496), (vs (st "/claim/cut.py") 497), (vi 182 0), (vi 3 0), (vi 0 0), (vi 0 0), (vi 3 0), (vr 184), (Value.bool true), (vi 181 0), (vr 185), Value.none, (vr 186), (vr 187), (vr 188), (vi 503 0), (vi 182 0), (vs (st "/claim/cut.py") 504)])) (aT []))
noncomputable def o_233 (P : Params) : Obj := (Obj.mk (Value.type "function") none (Data.func (FuncData.mk (st "bishop_attacks") (st "bishop_attacks") (fA 37) (.stmts (fB 37)) (fS 37) 3 [] Value.none Value.none Value.none (vs (st "chess.sliders") 469) none (vr 189) Value.none 0)) (aT []))
noncomputable def o_234 (P : Params) : Obj := (oT [])
noncomputable def o_235 (P : Params) : Obj := (Obj.mk Value.none none (Data.fields (aT [])) (aT []))
noncomputable def o_236 (P : Params) : Obj := (oT [(vs (st "geo") 509), (vs (st "square") 510), (vs (st "occupied") 511)])
noncomputable def o_237 (P : Params) : Obj := (oT [])
noncomputable def o_238 (P : Params) : Obj := (Obj.mk Value.none none (Data.func (FuncData.mk (st "queen_attacks") (st "queen_attacks") (fA 38) (.stmts (fB 38)) (fS 38) 0 [] Value.none Value.none Value.none Value.none none Value.none Value.none 0)) (aT []))
noncomputable def o_239 (P : Params) : Obj := (Obj.mk (Value.type "code") none (Data.fields (aT [(vs (st "queen_attacks") 506), (vs (st "queen_attacks") 507), (vs (st "/claim/cut.py") 508), (vi 187 0), (vi 3 0), (vi 0 0), (vi 0 0), (vi 3 0), (vr 191), (Value.bool true), (vi 181 0), (vr 192), Value.none, (vr 193), (vr 194), (vr 195), (vi 512 0), (vi 187 0), (vs (st "/claim/cut.py") 513)])) (aT []))
noncomputable def o_240 (P : Params) : Obj := (Obj.mk (Value.type "function") none (Data.func (FuncData.mk (st "queen_attacks") (st "queen_attacks") (fA 38) (.stmts (fB 38)) (fS 38) 3 [] Value.none Value.none Value.none (vs (st "chess.sliders") 469) none (vr 196) Value.none 0)) (aT []))
noncomputable def o_241 (P : Params) : Obj := (oT [])
noncomputable def o_242 (P : Params) : Obj := (Obj.mk Value.none none (Data.fields (aT [])) (aT []))
noncomputable def o_243 (P : Params) : Obj := (oT [(vs (st "geo") 518), (vs (st "kind") 519), (vs (st "square") 520), (vs (st "occupied") 521)])
noncomputable def o_244 (P : Params) : Obj := (oT [])
noncomputable def o_245 (P : Params) : Obj := (Obj.mk Value.none none (Data.func (FuncData.mk (st "slider_attacks") (st "slider_attacks") (fA 39) (.stmts (fB 39)) (fS 39) 0 [] Value.none Value.none Value.none Value.none none Value.none Value.none 0)) (aT []))
noncomputable def o_246 (P : Params) : Obj := (Obj.mk (Value.type "code") none (Data.fields (aT [(vs (st "slider_attacks") 515), (vs (st "slider_attacks") 516), (vs (st "/claim/cut.py") 517), (vi 189 0), (vi 4 0), (vi 0 0), (vi 0 0), (vi 3 0), (vr 198), (Value.bool true), (vi 181 0), (vr 199), Value.none, (vr 200), (vr 201), (vr 202), (vi 522 0), (vi 189 0), (vs (st "/claim/cut.py") 523)])) (aT []))
noncomputable def o_247 (P : Params) : Obj := (Obj.mk (Value.type "function") none (Data.func (FuncData.mk (st "slider_attacks") (st "slider_attacks") (fA 39) (.stmts (fB 39)) (fS 39) 3 [] Value.none Value.none Value.none (vs (st "chess.sliders") 469) none (vr 203) Value.none 0)) (aT []))
noncomputable def o_248 (P : Params) : Obj := (oT [])
noncomputable def o_249 (P : Params) : Obj := (Obj.mk Value.none none (Data.fields (aT [])) (aT []))
noncomputable def o_250 (P : Params) : Obj := (oT [(vs (st "geo") 528), (vs (st "side") 529), (vs (st "kind") 530), (vs (st "square") 531), (vs (st "occupied") 532)])
noncomputable def o_251 (P : Params) : Obj := (oT [])
noncomputable def o_252 (P : Params) : Obj := (Obj.mk Value.none none (Data.func (FuncData.mk (st "piece_attacks") (st "piece_attacks") (fA 40) (.stmts (fB 40)) (fS 40) 0 [] Value.none Value.none Value.none Value.none none Value.none Value.none 0)) (aT []))
noncomputable def o_253 (P : Params) : Obj := (Obj.mk (Value.type "code") none (Data.fields (aT [(vs (st "piece_attacks") 525), (vs (st "piece_attacks") 526), (vs (st "/claim/cut.py") 527), (vi 197 0), (vi 5 0), (vi 0 0), (vi 0 0), (vi 3 0), (vr 205), (Value.bool true), (vi 181 0), (vr 206), Value.none, (vr 207), (vr 208), (vr 209), (vi 533 0), (vi 197 0), (vs (st "/claim/cut.py") 534)])) (aT []))
noncomputable def o_254 (P : Params) : Obj := (Obj.mk (Value.type "function") none (Data.func (FuncData.mk (st "piece_attacks") (st "piece_attacks") (fA 40) (.stmts (fB 40)) (fS 40) 3 [] Value.none Value.none Value.none (vs (st "chess.sliders") 469) none (vr 210) Value.none 0)) (aT []))
noncomputable def o_255 (P : Params) : Obj := (Obj.mk (Value.type "dict") none (Data.dict (aT [(DictEntry.mk (PyData.keyHash P (st "__name__")) (vs (st "__name__") 165) (vs (st "chess.attacks") 597)), (DictEntry.mk (PyData.keyHash P (st "__doc__")) (vs (st "__doc__") 166) Value.none), (DictEntry.mk (PyData.keyHash P (st "__package__")) (vs (st "__package__") 167) Value.none), (DictEntry.mk (PyData.keyHash P (st "__loader__")) (vs (st "__loader__") 168) (Value.builtin "__main__.__loader__#opaque")), (DictEntry.mk (PyData.keyHash P (st "__spec__")) (vs (st "__spec__") 169) Value.none), (DictEntry.mk (PyData.keyHash P (st "__annotations__")) (vs (st "__annotations__") 170) (vr 6)), (DictEntry.mk (PyData.keyHash P (st "__builtins__")) (vs (st "__builtins__") 171) (vr 4)), (DictEntry.mk (PyData.keyHash P (st "__file__")) (vs (st "__file__") 173) (vs (st "/claim/cut.py") 172)), (DictEntry.mk (PyData.keyHash P (st "__cached__")) (vs (st "__cached__") 174) Value.none), (DictEntry.mk (PyData.keyHash P (st "WHITE")) (vs (st "WHITE") 190) (vi 0 189)), (DictEntry.mk (PyData.keyHash P (st "BLACK")) (vs (st "BLACK") 192) (vi 1 191)), (DictEntry.mk (PyData.keyHash P (st "PAWN")) (vs (st "PAWN") 194) (vi 1 193)), (DictEntry.mk (PyData.keyHash P (st "KNIGHT")) (vs (st "KNIGHT") 196) (vi 2 195)), (DictEntry.mk (PyData.keyHash P (st "BISHOP")) (vs (st "BISHOP") 198) (vi 3 197)), (DictEntry.mk (PyData.keyHash P (st "ROOK")) (vs (st "ROOK") 200) (vi 4 199)), (DictEntry.mk (PyData.keyHash P (st "QUEEN")) (vs (st "QUEEN") 202) (vi 5 201)), (DictEntry.mk (PyData.keyHash P (st "KING")) (vs (st "KING") 204) (vi 6 203)), (DictEntry.mk (PyData.keyHash P (st "EMPTY")) (vs (st "EMPTY") 206) (vi 0 205)), (DictEntry.mk (PyData.keyHash P (st "side_of")) (vs (st "side_of") 213) (vr 21)), (DictEntry.mk (PyData.keyHash P (st "kind_of")) (vs (st "kind_of") 220) (vr 28)), (DictEntry.mk (PyData.keyHash P (st "more_than_one")) (vs (st "more_than_one") 229) (vr 35)), (DictEntry.mk (PyData.keyHash P (st "highest")) (vs (st "highest") 238) (vr 42)), (DictEntry.mk (PyData.keyHash P (st "lowest")) (vs (st "lowest") 245) (vr 49)), (DictEntry.mk (PyData.keyHash P (st "squares_of")) (vs (st "squares_of") 254) (vr 56)), (DictEntry.mk (PyData.keyHash P (st "direction")) (vs (st "direction") 266) (vr 63)), (DictEntry.mk (PyData.keyHash P (st "between")) (vs (st "between") 276) (vr 70)), (DictEntry.mk (PyData.keyHash P (st "ChessError")) (vs (st "ChessError") 307) (vr 87)), (DictEntry.mk (PyData.keyHash P (st "STEP_FILES")) (vs (st "STEP_FILES") 321) (vr 91)), (DictEntry.mk (PyData.keyHash P (st "STEP_RANKS")) (vs (st "STEP_RANKS") 333) (vr 92)), (DictEntry.mk (PyData.keyHash P (st "Geometry")) (vs (st "Geometry") 378) (vr 109)), (DictEntry.mk (PyData.keyHash P (st "is_growing")) (vs (st "is_growing") 385) (vr 120)), (DictEntry.mk (PyData.keyHash P (st "add_masks")) (vs (st "add_masks") 396) (vr 127)), (DictEntry.mk (PyData.keyHash P (st "inner_squares")) (vs (st "inner_squares") 405) (vr 134)), (DictEntry.mk (PyData.keyHash P (st "add_rays")) (vs (st "add_rays") 419) (vr 141)), (DictEntry.mk (PyData.keyHash P (st "add_pawns")) (vs (st "add_pawns") 427) (vr 148)), (DictEntry.mk (PyData.keyHash P (st "add_knights")) (vs (st "add_knights") 444) (vr 155)), (DictEntry.mk (PyData.keyHash P (st "add_castles")) (vs (st "add_castles") 457) (vr 162)), (DictEntry.mk (PyData.keyHash P (st "make_geometry")) (vs (st "make_geometry") 468) (vr 169)), (DictEntry.mk (PyData.keyHash P (st "ray_attacks")) (vs (st "ray_attacks") 483) (vr 176)), (DictEntry.mk (PyData.keyHash P (st "rook_attacks")) (vs (st "rook_attacks") 494) (vr 183)), (DictEntry.mk (PyData.keyHash P (st "bishop_attacks")) (vs (st "bishop_attacks") 505) (vr 190)), (DictEntry.mk (PyData.keyHash P (st "queen_attacks")) (vs (st "queen_attacks") 514) (vr 197)), (DictEntry.mk (PyData.keyHash P (st "slider_attacks")) (vs (st "slider_attacks") 524) (vr 204)), (DictEntry.mk (PyData.keyHash P (st "piece_attacks")) (vs (st "piece_attacks") 535) (vr 211)), (DictEntry.mk (PyData.keyHash P (st "Position")) (vs (st "Position") 578) (vr 228)), (DictEntry.mk (PyData.keyHash P (st "put_piece")) (vs (st "put_piece") 588) (vr 239)), (DictEntry.mk (PyData.keyHash P (st "king_square")) (vs (st "king_square") 596) (vr 246)), (DictEntry.mk (PyData.keyHash P (st "straight_sliders")) (vs (st "straight_sliders") 605) (vr 253)), (DictEntry.mk (PyData.keyHash P (st "slanting_sliders")) (vs (st "slanting_sliders") 612) (vr 260)), (DictEntry.mk (PyData.keyHash P (st "pawn_attackers")) (vs (st "pawn_attackers") 621) (vr 267))]) 50) (aT []))
noncomputable def o_256 (P : Params) : Obj := (Obj.mk Value.none none (Data.fields (aT [(vi 11 0), (vi 0 0), (vr 20), (vi 13 0), (vi 0 0), (vr 27), (vi 16 0), (vi 0 0), (vr 34), (vi 18 0), (vi 0 0), (vr 41), (vi 31 0), (vi 0 0), (vr 48), (vi 33 0), (vi 0 0), (vr 55), (vi 46 0), (vi 0 0), (vr 62), (vi 51 0), (vi 0 0), (vr 69), (vi 57 0), (vi 0 0), (vr 76), (vi 65 0), (vi 0 0), (vr 98), (vi 82 0), (vi 0 0), (vr 119), (vi 84 0), (vi 0 0), (vr 126), (vi 92 0), (vi 0 0), (vr 133), (vi 103 0), (vi 0 0), (vr 140), (vi 118 0), (vi 0 0), (vr 147), (vi 122 0), (vi 0 0), (vr 154), (vi 134 0), (vi 0 0), (vr 161), (vi 151 0), (vi 0 0), (vr 168), (vi 162 0), (vi 0 0), (vr 175), (vi 177 0), (vi 0 0), (vr 182), (vi 182 0), (vi 0 0), (vr 189), (vi 187 0), (vi 0 0), (vr 196), (vi 189 0), (vi 0 0), (vr 203), (vi 197 0), (vi 0 0), (vr 210), (vi 206 0), (vi 0 0), (vr 217), (vi 221 0), (vi 0 0), (vr 238), (vi 227 0), (vi 0 0), (vr 245), (vi 230 0), (vi 0 0), (vr 252), (vi 232 0), (vi 0 0), (vr 259), (vi 234 0), (vi 0 0), (vr 266)])) (aT []))
noncomputable def o_257 (P : Params) : Obj := (oT [])
noncomputable def o_258 (P : Params) : Obj := (Obj.mk (Value.type "builtin_function_or_method") none (Data.fields (aT [(Value.builtin "type.__prepare__"), (Value.type "type")])) (aT []))
noncomputable def o_259 (P : Params) : Obj := (Obj.mk (Value.type "dict") none (Data.dict (aT [(DictEntry.mk (PyData.keyHash P (st "__module__")) (vs (st "__module__") 545) (vs (st "chess.position") 536)), (DictEntry.mk (PyData.keyHash P (st "__qualname__")) (vs (st "__qualname__") 547) (vs (st "Position") 546)), (DictEntry.mk (PyData.keyHash P (st "__firstlineno__")) (vs (st "__firstlineno__") 549) (vi 206 548)), (DictEntry.mk (PyData.keyHash P (st "__init__")) (vs (st "__init__") 558) (vr 225)), (DictEntry.mk (PyData.keyHash P (st "__static_attributes__")) (vs (st "__static_attributes__") 571) (vr 226))]) 5) (aT []))
noncomputable def o_260 (P : Params) : Obj := (oT [])
noncomputable def o_261 (P : Params) : Obj := (Obj.mk Value.none none (Data.fields (aT [(vi 208 0), (vi 4 0), (vr 224)])) (aT []))
noncomputable def o_262 (P : Params) : Obj := (Obj.mk (Value.type "code") none (Data.fields (aT [(vs (st "Position") 540), (vs (st "Position") 541), (vs (st "/claim/cut.py") 542), (vi 206 0), (vi 0 0), (vi 0 0), (vi 0 0), (vi 0 0), (vr 215), (Value.bool false), (vi 181 0), (vr 216), Value.none, Value.none, Value.none, Value.none, (vi 543 0), (vi 206 0), (vs (st "/claim/cut.py") 544)])) (aT []))
noncomputable def o_263 (P : Params) : Obj := (Obj.mk (Value.type "frame") none Data.plain (aT [(Option.some (vr 217)), (Option.some (vr 3)), (Option.some (vr 214)), none, (Option.some (vs (st "chess.position") 536)), none, (Option.some (vr 0))]))
noncomputable def o_264 (P : Params) : Obj := (oT [])
noncomputable def o_265 (P : Params) : Obj := (Obj.mk Value.none none (Data.fields (aT [])) (aT []))
noncomputable def o_266 (P : Params) : Obj := (oT [(vs (st "self") 553), (vs (st "geo") 554), (vs (st "zob") 555)])
noncomputable def o_267 (P : Params) : Obj := (oT [])
noncomputable def o_268 (P : Params) : Obj := (Obj.mk Value.none none (Data.func (FuncData.mk (st "__init__") (st "Position.__init__") (fA 42) (.stmts (fB 42)) (fS 42) 0 [] Value.none Value.none Value.none Value.none none Value.none Value.none 0)) (aT []))
noncomputable def o_269 (P : Params) : Obj := (Obj.mk (Value.type "code") none (Data.fields (aT [(vs (st "__init__") 550), (vs (st "Position.__init__") 551), (vs (st "/claim/cut.py") 552), (vi 208 0), (vi 3 0), (vi 0 0), (vi 0 0), (vi 3 0), (vr 219), (Value.bool true), (vi 181 0), (vr 220), Value.none, (vr 221), (vr 222), (vr 223), (vi 556 0), (vi 208 0), (vs (st "/claim/cut.py") 557)])) (aT []))
noncomputable def o_270 (P : Params) : Obj := (Obj.mk (Value.type "function") none (Data.func (FuncData.mk (st "__init__") (st "Position.__init__") (fA 42) (.stmts (fB 42)) (fS 42) 3 [] Value.none Value.none Value.none (vs (st "chess.position") 536) none (vr 224) Value.none 0)) (aT []))
noncomputable def o_271 (P : Params) : Obj := (oT [(vs (st "board") 559), (vs (st "ep") 560), (vs (st "full") 561), (vs (st "geo") 562), (vs (st "half") 563), (vs (st "history") 564), (vs (st "key") 565), (vs (st "kinds") 566), (vs (st "rights") 567), (vs (st "side") 568), (vs (st "sides") 569), (vs (st "zob") 570)])
noncomputable def o_272 (P : Params) : Obj := (Obj.mk (Value.type "dict") none (Data.dict (aT [(DictEntry.mk (PyData.keyHash P (st "__module__")) (vs (st "__module__") 545) (vs (st "chess.position") 536)), (DictEntry.mk (PyData.keyHash P (st "__firstlineno__")) (vs (st "__firstlineno__") 549) (vi 206 548)), (DictEntry.mk (PyData.keyHash P (st "__init__")) (vs (st "__init__") 558) (vr 225)), (DictEntry.mk (PyData.keyHash P (st "__static_attributes__")) (vs (st "__static_attributes__") 571) (vr 226)), (DictEntry.mk (PyData.keyHash P (st "__dict__")) (vs (st "__dict__") 573) (vr 229)), (DictEntry.mk (PyData.keyHash P (st "__weakref__")) (vs (st "__weakref__") 575) (vr 230)), (DictEntry.mk (PyData.keyHash P (st "__doc__")) (vs (st "__doc__") 576) Value.none)]) 4) (aT []))
noncomputable def o_273 (P : Params) : Obj := (Obj.mk (Value.type "type") none (Data.cls (ClassData.mk (st "Position") [(Value.type "object")] [(vr 228), (Value.type "object")] 227 (st "Position") true [] [] false none false)) (aT [none, none, (Option.some (vs (st "Position") 538)), (Option.some (vs (st "Position") 546)), (Option.some (Value.builtin "object.__new__")), (Option.some (Value.bool true))]))
noncomputable def o_274 (P : Params) : Obj := (Obj.mk (Value.type "getset_descriptor") none (Data.fields (aT [(vs (st "__dict__") 572), (vr 228), (Value.builtin "function.__dict__"), (Value.builtin "function.__dict__#set")])) (aT []))
noncomputable def o_275 (P : Params) : Obj := (Obj.mk (Value.type "getset_descriptor") none (Data.fields (aT [(vs (st "__weakref__") 574), (vr 228), (Value.builtin "ExceptionGroup.__weakref__"), Value.none])) (aT []))
noncomputable def o_276 (P : Params) : Obj := (Obj.mk (Value.type "super") none (Data.fields (aT [(vr 228), (vr 228), (vr 228)])) (aT []))
noncomputable def o_277 (P : Params) : Obj := (Obj.mk (Value.type "builtin_function_or_method") none (Data.fields (aT [(Value.builtin "object.__init_subclass__"), (vr 228)])) (aT []))
noncomputable def o_278 (P : Params) : Obj := (oT [])
noncomputable def o_279 (P : Params) : Obj := (Obj.mk Value.none none (Data.fields (aT [])) (aT []))
noncomputable def o_280 (P : Params) : Obj := (oT [(vs (st "pos") 582), (vs (st "piece") 583), (vs (st "s") 584), (vs (st "bit") 585)])
noncomputable def o_281 (P : Params) : Obj := (oT [])
noncomputable def o_282 (P : Params) : Obj := (Obj.mk Value.none none (Data.func (FuncData.mk (st "put_piece") (st "put_piece") (fA 43) (.stmts (fB 43)) (fS 43) 0 [] Value.none Value.none Value.none Value.none none Value.none Value.none 0)) (aT []))
noncomputable def o_283 (P : Params) : Obj := (Obj.mk (Value.type "code") none (Data.fields (aT [(vs (st "put_piece") 579), (vs (st "put_piece") 580), (vs (st "/claim/cut.py") 581), (vi 221 0), (vi 3 0), (vi 0 0), (vi 0 0), (vi 3 0), (vr 233), (Value.bool true), (vi 181 0), (vr 234), Value.none, (vr 235), (vr 236), (vr 237), (vi 586 0), (vi 221 0), (vs (st "/claim/cut.py") 587)])) (aT []))
noncomputable def o_284 (P : Params) : Obj := (Obj.mk (Value.type "function") none (Data.func (FuncData.mk (st "put_piece") (st "put_piece") (fA 43) (.stmts (fB 43)) (fS 43) 3 [] Value.none Value.none Value.none (vs (st "chess.position") 536) none (vr 238) Value.none 0)) (aT []))
noncomputable def o_285 (P : Params) : Obj := (oT [])
noncomputable def o_286 (P : Params) : Obj := (Obj.mk Value.none none (Data.fields (aT [])) (aT []))
noncomputable def o_287 (P : Params) : Obj := (oT [(vs (st "pos") 592), (vs (st "side") 593)])
noncomputable def o_288 (P : Params) : Obj := (oT [])
noncomputable def o_289 (P : Params) : Obj := (Obj.mk Value.none none (Data.func (FuncData.mk (st "king_square") (st "king_square") (fA 44) (.stmts (fB 44)) (fS 44) 0 [] Value.none Value.none Value.none Value.none none Value.none Value.none 0)) (aT []))
noncomputable def o_290 (P : Params) : Obj := (Obj.mk (Value.type "code") none (Data.fields (aT [(vs (st "king_square") 589), (vs (st "king_square") 590), (vs (st "/claim/cut.py") 591), (vi 227 0), (vi 2 0), (vi 0 0), (vi 0 0), (vi 3 0), (vr 240), (Value.bool true), (vi 181 0), (vr 241), Value.none, (vr 242), (vr 243), (vr 244), (vi 594 0), (vi 227 0), (vs (st "/claim/cut.py") 595)])) (aT []))
noncomputable def o_291 (P : Params) : Obj := (Obj.mk (Value.type "function") none (Data.func (FuncData.mk (st "king_square") (st "king_square") (fA 44) (.stmts (fB 44)) (fS 44) 3 [] Value.none Value.none Value.none (vs (st "chess.position") 536) none (vr 245) Value.none 0)) (aT []))
noncomputable def o_292 (P : Params) : Obj := (oT [])
noncomputable def o_293 (P : Params) : Obj := (Obj.mk Value.none none (Data.fields (aT [])) (aT []))
noncomputable def o_294 (P : Params) : Obj := (oT [(vs (st "pos") 602)])
noncomputable def o_295 (P : Params) : Obj := (oT [])
noncomputable def o_296 (P : Params) : Obj := (Obj.mk Value.none none (Data.func (FuncData.mk (st "straight_sliders") (st "straight_sliders") (fA 46) (.stmts (fB 46)) (fS 46) 0 [] Value.none Value.none Value.none Value.none none Value.none Value.none 0)) (aT []))
noncomputable def o_297 (P : Params) : Obj := (Obj.mk (Value.type "code") none (Data.fields (aT [(vs (st "straight_sliders") 599), (vs (st "straight_sliders") 600), (vs (st "/claim/cut.py") 601), (vi 230 0), (vi 1 0), (vi 0 0), (vi 0 0), (vi 3 0), (vr 247), (Value.bool true), (vi 181 0), (vr 248), Value.none, (vr 249), (vr 250), (vr 251), (vi 603 0), (vi 230 0), (vs (st "/claim/cut.py") 604)])) (aT []))
noncomputable def o_298 (P : Params) : Obj := (Obj.mk (Value.type "function") none (Data.func (FuncData.mk (st "straight_sliders") (st "straight_sliders") (fA 46) (.stmts (fB 46)) (fS 46) 3 [] Value.none Value.none Value.none (vs (st "chess.attacks") 597) none (vr 252) Value.none 0)) (aT []))
noncomputable def o_299 (P : Params) : Obj := (oT [])
noncomputable def o_300 (P : Params) : Obj := (Obj.mk Value.none none (Data.fields (aT [])) (aT []))
noncomputable def o_301 (P : Params) : Obj := (oT [(vs (st "pos") 609)])
noncomputable def o_302 (P : Params) : Obj := (oT [])
noncomputable def o_303 (P : Params) : Obj := (Obj.mk Value.none none (Data.func (FuncData.mk (st "slanting_sliders") (st "slanting_sliders") (fA 47) (.stmts (fB 47)) (fS 47) 0 [] Value.none Value.none Value.none Value.none none Value.none Value.none 0)) (aT []))
noncomputable def o_304 (P : Params) : Obj := (Obj.mk (Value.type "code") none (Data.fields (aT [(vs (st "slanting_sliders") 606), (vs (st "slanting_sliders") 607), (vs (st "/claim/cut.py") 608), (vi 232 0), (vi 1 0), (vi 0 0), (vi 0 0), (vi 3 0), (vr 254), (Value.bool true), (vi 181 0), (vr 255), Value.none, (vr 256), (vr 257), (vr 258), (vi 610 0), (vi 232 0), (vs (st "/claim/cut.py") 611)])) (aT []))
noncomputable def o_305 (P : Params) : Obj := (Obj.mk (Value.type "function") none (Data.func (FuncData.mk (st "slanting_sliders") (st "slanting_sliders") (fA 47) (.stmts (fB 47)) (fS 47) 3 [] Value.none Value.none Value.none (vs (st "chess.attacks") 597) none (vr 259) Value.none 0)) (aT []))
noncomputable def o_306 (P : Params) : Obj := (oT [])
noncomputable def o_307 (P : Params) : Obj := (Obj.mk Value.none none (Data.fields (aT [])) (aT []))
noncomputable def o_308 (P : Params) : Obj := (oT [(vs (st "pos") 616), (vs (st "square") 617), (vs (st "side") 618)])
noncomputable def o_309 (P : Params) : Obj := (oT [])
noncomputable def o_310 (P : Params) : Obj := (Obj.mk Value.none none (Data.func (FuncData.mk (st "pawn_attackers") (st "pawn_attackers") (fA 48) (.stmts (fB 48)) (fS 48) 0 [] Value.none Value.none Value.none Value.none none Value.none Value.none 0)) (aT []))
noncomputable def o_311 (P : Params) : Obj := (Obj.mk (Value.type "code") none (Data.fields (aT [(vs (st "pawn_attackers") 613), (vs (st "pawn_attackers") 614), (vs (st "/claim/cut.py") 615), (vi 234 0), (vi 3 0), (vi 0 0), (vi 0 0), (vi 3 0), (vr 261), (Value.bool true), (vi 181 0), (vr 262), Value.none, (vr 263), (vr 264), (vr 265), (vi 619 0), (vi 234 0), (vs (st "/claim/cut.py") 620)])) (aT []))
noncomputable def o_312 (P : Params) : Obj := (Obj.mk (Value.type "function") none (Data.func (FuncData.mk (st "pawn_attackers") (st "pawn_attackers") (fA 48) (.stmts (fB 48)) (fS 48) 3 [] Value.none Value.none Value.none (vs (st "chess.attacks") 597) none (vr 266) Value.none 0)) (aT []))
noncomputable def o_313 (P : Params) : Obj := (Obj.mk (Value.type "dict") none (Data.dict (aT [(DictEntry.mk (PyData.keyHash P (st "__name__")) (vs (st "__name__") 165) (vs (st "chess.attacks") 597)), (DictEntry.mk (PyData.keyHash P (st "__doc__")) (vs (st "__doc__") 166) Value.none), (DictEntry.mk (PyData.keyHash P (st "__package__")) (vs (st "__package__") 167) Value.none), (DictEntry.mk (PyData.keyHash P (st "__loader__")) (vs (st "__loader__") 168) (Value.builtin "__main__.__loader__#opaque")), (DictEntry.mk (PyData.keyHash P (st "__spec__")) (vs (st "__spec__") 169) Value.none), (DictEntry.mk (PyData.keyHash P (st "__annotations__")) (vs (st "__annotations__") 170) (vr 6)), (DictEntry.mk (PyData.keyHash P (st "__builtins__")) (vs (st "__builtins__") 171) (vr 4)), (DictEntry.mk (PyData.keyHash P (st "__file__")) (vs (st "__file__") 173) (vs (st "/claim/cut.py") 172)), (DictEntry.mk (PyData.keyHash P (st "__cached__")) (vs (st "__cached__") 174) Value.none), (DictEntry.mk (PyData.keyHash P (st "WHITE")) (vs (st "WHITE") 190) (vi 0 189)), (DictEntry.mk (PyData.keyHash P (st "BLACK")) (vs (st "BLACK") 192) (vi 1 191)), (DictEntry.mk (PyData.keyHash P (st "PAWN")) (vs (st "PAWN") 194) (vi 1 193)), (DictEntry.mk (PyData.keyHash P (st "KNIGHT")) (vs (st "KNIGHT") 196) (vi 2 195)), (DictEntry.mk (PyData.keyHash P (st "BISHOP")) (vs (st "BISHOP") 198) (vi 3 197)), (DictEntry.mk (PyData.keyHash P (st "ROOK")) (vs (st "ROOK") 200) (vi 4 199)), (DictEntry.mk (PyData.keyHash P (st "QUEEN")) (vs (st "QUEEN") 202) (vi 5 201)), (DictEntry.mk (PyData.keyHash P (st "KING")) (vs (st "KING") 204) (vi 6 203)), (DictEntry.mk (PyData.keyHash P (st "EMPTY")) (vs (st "EMPTY") 206) (vi 0 205)), (DictEntry.mk (PyData.keyHash P (st "side_of")) (vs (st "side_of") 213) (vr 21)), (DictEntry.mk (PyData.keyHash P (st "kind_of")) (vs (st "kind_of") 220) (vr 28)), (DictEntry.mk (PyData.keyHash P (st "more_than_one")) (vs (st "more_than_one") 229) (vr 35)), (DictEntry.mk (PyData.keyHash P (st "highest")) (vs (st "highest") 238) (vr 42)), (DictEntry.mk (PyData.keyHash P (st "lowest")) (vs (st "lowest") 245) (vr 49)), (DictEntry.mk (PyData.keyHash P (st "squares_of")) (vs (st "squares_of") 254) (vr 56)), (DictEntry.mk (PyData.keyHash P (st "direction")) (vs (st "direction") 266) (vr 63)), (DictEntry.mk (PyData.keyHash P (st "between")) (vs (st "between") 276) (vr 70)), (DictEntry.mk (PyData.keyHash P (st "ChessError")) (vs (st "ChessError") 307) (vr 87)), (DictEntry.mk (PyData.keyHash P (st "STEP_FILES")) (vs (st "STEP_FILES") 321) (vr 91)), (DictEntry.mk (PyData.keyHash P (st "STEP_RANKS")) (vs (st "STEP_RANKS") 333) (vr 92)), (DictEntry.mk (PyData.keyHash P (st "Geometry")) (vs (st "Geometry") 378) (vr 109)), (DictEntry.mk (PyData.keyHash P (st "is_growing")) (vs (st "is_growing") 385) (vr 120)), (DictEntry.mk (PyData.keyHash P (st "add_masks")) (vs (st "add_masks") 396) (vr 127)), (DictEntry.mk (PyData.keyHash P (st "inner_squares")) (vs (st "inner_squares") 405) (vr 134)), (DictEntry.mk (PyData.keyHash P (st "add_rays")) (vs (st "add_rays") 419) (vr 141)), (DictEntry.mk (PyData.keyHash P (st "add_pawns")) (vs (st "add_pawns") 427) (vr 148)), (DictEntry.mk (PyData.keyHash P (st "add_knights")) (vs (st "add_knights") 444) (vr 155)), (DictEntry.mk (PyData.keyHash P (st "add_castles")) (vs (st "add_castles") 457) (vr 162)), (DictEntry.mk (PyData.keyHash P (st "make_geometry")) (vs (st "make_geometry") 468) (vr 169)), (DictEntry.mk (PyData.keyHash P (st "ray_attacks")) (vs (st "ray_attacks") 483) (vr 176)), (DictEntry.mk (PyData.keyHash P (st "rook_attacks")) (vs (st "rook_attacks") 494) (vr 183)), (DictEntry.mk (PyData.keyHash P (st "bishop_attacks")) (vs (st "bishop_attacks") 505) (vr 190)), (DictEntry.mk (PyData.keyHash P (st "queen_attacks")) (vs (st "queen_attacks") 514) (vr 197)), (DictEntry.mk (PyData.keyHash P (st "slider_attacks")) (vs (st "slider_attacks") 524) (vr 204)), (DictEntry.mk (PyData.keyHash P (st "piece_attacks")) (vs (st "piece_attacks") 535) (vr 211)), (DictEntry.mk (PyData.keyHash P (st "Position")) (vs (st "Position") 578) (vr 228)), (DictEntry.mk (PyData.keyHash P (st "put_piece")) (vs (st "put_piece") 588) (vr 239)), (DictEntry.mk (PyData.keyHash P (st "king_square")) (vs (st "king_square") 596) (vr 246)), (DictEntry.mk (PyData.keyHash P (st "straight_sliders")) (vs (st "straight_sliders") 605) (vr 253)), (DictEntry.mk (PyData.keyHash P (st "slanting_sliders")) (vs (st "slanting_sliders") 612) (vr 260)), (DictEntry.mk (PyData.keyHash P (st "pawn_attackers")) (vs (st "pawn_attackers") 621) (vr 267)), (DictEntry.mk (PyData.keyHash P (st "step_attackers")) (vs (st "step_attackers") 632) (vr 274)), (DictEntry.mk (PyData.keyHash P (st "line_attackers")) (vs (st "line_attackers") 644) (vr 281)), (DictEntry.mk (PyData.keyHash P (st "attackers_to")) (vs (st "attackers_to") 654) (vr 288)), (DictEntry.mk (PyData.keyHash P (st "is_attacked")) (vs (st "is_attacked") 668) (vr 295)), (DictEntry.mk (PyData.keyHash P (st "checkers_of")) (vs (st "checkers_of") 677) (vr 302)), (DictEntry.mk (PyData.keyHash P (st "checkers")) (vs (st "checkers") 684) (vr 309)), (DictEntry.mk (PyData.keyHash P (st "in_check_of")) (vs (st "in_check_of") 693) (vr 316)), (DictEntry.mk (PyData.keyHash P (st "in_check")) (vs (st "in_check") 700) (vr 323)), (DictEntry.mk (PyData.keyHash P (st "check_quiet")) (vs (st "check_quiet") 707) (vr 330)), (DictEntry.mk (PyData.keyHash P (st "snipers_of")) (vs (st "snipers_of") 717) (vr 337)), (DictEntry.mk (PyData.keyHash P (st "blockers")) (vs (st "blockers") 732) (vr 344)), (DictEntry.mk (PyData.keyHash P (st "pinned_pieces")) (vs (st "pinned_pieces") 740) (vr 351))]) 62) (aT []))
noncomputable def o_314 (P : Params) : Obj := (Obj.mk Value.none none (Data.fields (aT [(vi 11 0), (vi 0 0), (vr 20), (vi 13 0), (vi 0 0), (vr 27), (vi 16 0), (vi 0 0), (vr 34), (vi 18 0), (vi 0 0), (vr 41), (vi 31 0), (vi 0 0), (vr 48), (vi 33 0), (vi 0 0), (vr 55), (vi 46 0), (vi 0 0), (vr 62), (vi 51 0), (vi 0 0), (vr 69), (vi 57 0), (vi 0 0), (vr 76), (vi 65 0), (vi 0 0), (vr 98), (vi 82 0), (vi 0 0), (vr 119), (vi 84 0), (vi 0 0), (vr 126), (vi 92 0), (vi 0 0), (vr 133), (vi 103 0), (vi 0 0), (vr 140), (vi 118 0), (vi 0 0), (vr 147), (vi 122 0), (vi 0 0), (vr 154), (vi 134 0), (vi 0 0), (vr 161), (vi 151 0), (vi 0 0), (vr 168), (vi 162 0), (vi 0 0), (vr 175), (vi 177 0), (vi 0 0), (vr 182), (vi 182 0), (vi 0 0), (vr 189), (vi 187 0), (vi 0 0), (vr 196), (vi 189 0), (vi 0 0), (vr 203), (vi 197 0), (vi 0 0), (vr 210), (vi 206 0), (vi 0 0), (vr 217), (vi 221 0), (vi 0 0), (vr 238), (vi 227 0), (vi 0 0), (vr 245), (vi 230 0), (vi 0 0), (vr 252), (vi 232 0), (vi 0 0), (vr 259), (vi 234 0), (vi 0 0), (vr 266), (vi 236 0), (vi 0 0), (vr 273), (vi 241 0), (vi 0 0), (vr 280), (vi 250 0), (vi 0 0), (vr 287), (vi 253 0), (vi 0 0), (vr 294), (vi 263 0), (vi 0 0), (vr 301), (vi 266 0), (vi 0 0), (vr 308), (vi 268 0), (vi 0 0), (vr 315), (vi 271 0), (vi 0 0), (vr 322), (vi 273 0), (vi 0 0), (vr 329), (vi 275 0), (vi 0 0), (vr 336), (vi 280 0), (vi 0 0), (vr 343), (vi 293 0), (vi 0 0), (vr 350)])) (aT []))
noncomputable def o_315 (P : Params) : Obj := (oT [])
noncomputable def o_316 (P : Params) : Obj := (Obj.mk Value.none none (Data.fields (aT [])) (aT []))
noncomputable def o_317 (P : Params) : Obj := (oT [(vs (st "pos") 625), (vs (st "square") 626), (vs (st "side") 627), (vs (st "geo") 628), (vs (st "near") 629)])
noncomputable def o_318 (P : Params) : Obj := (oT [])
noncomputable def o_319 (P : Params) : Obj := (Obj.mk Value.none none (Data.func (FuncData.mk (st "step_attackers") (st "step_attackers") (fA 49) (.stmts (fB 49)) (fS 49) 0 [] Value.none Value.none Value.none Value.none none Value.none Value.none 0)) (aT []))
noncomputable def o_320 (P : Params) : Obj := (Obj.mk (Value.type "code") none (Data.fields (aT [(vs (st "step_attackers") 622), (vs (st "step_attackers") 623), (vs (st "/claim/cut.py") 624), (vi 236 0), (vi 3 0), (vi 0 0), (vi 0 0), (vi 3 0), (vr 268), (Value.bool true), (vi 181 0), (vr 269), Value.none, (vr 270), (vr 271), (vr 272), (vi 630 0), (vi 236 0), (vs (st "/claim/cut.py") 631)])) (aT []))
noncomputable def o_321 (P : Params) : Obj := (Obj.mk (Value.type "function") none (Data.func (FuncData.mk (st "step_attackers") (st "step_attackers") (fA 49) (.stmts (fB 49)) (fS 49) 3 [] Value.none Value.none Value.none (vs (st "chess.attacks") 597) none (vr 273) Value.none 0)) (aT []))
noncomputable def o_322 (P : Params) : Obj := (oT [])
noncomputable def o_323 (P : Params) : Obj := (Obj.mk Value.none none (Data.fields (aT [])) (aT []))
noncomputable def o_324 (P : Params) : Obj := (oT [(vs (st "pos") 636), (vs (st "square") 637), (vs (st "occupied") 638), (vs (st "hits") 639), (vs (st "straight") 640), (vs (st "slanting") 641)])
noncomputable def o_325 (P : Params) : Obj := (oT [])
noncomputable def o_326 (P : Params) : Obj := (Obj.mk Value.none none (Data.func (FuncData.mk (st "line_attackers") (st "line_attackers") (fA 50) (.stmts (fB 50)) (fS 50) 0 [] Value.none Value.none Value.none Value.none none Value.none Value.none 0)) (aT []))
noncomputable def o_327 (P : Params) : Obj := (Obj.mk (Value.type "code") none (Data.fields (aT [(vs (st "line_attackers") 633), (vs (st "line_attackers") 634), (vs (st "/claim/cut.py") 635), (vi 241 0), (vi 3 0), (vi 0 0), (vi 0 0), (vi 3 0), (vr 275), (Value.bool true), (vi 181 0), (vr 276), Value.none, (vr 277), (vr 278), (vr 279), (vi 642 0), (vi 241 0), (vs (st "/claim/cut.py") 643)])) (aT []))
noncomputable def o_328 (P : Params) : Obj := (Obj.mk (Value.type "function") none (Data.func (FuncData.mk (st "line_attackers") (st "line_attackers") (fA 50) (.stmts (fB 50)) (fS 50) 3 [] Value.none Value.none Value.none (vs (st "chess.attacks") 597) none (vr 280) Value.none 0)) (aT []))
noncomputable def o_329 (P : Params) : Obj := (oT [])
noncomputable def o_330 (P : Params) : Obj := (Obj.mk Value.none none (Data.fields (aT [])) (aT []))
noncomputable def o_331 (P : Params) : Obj := (oT [(vs (st "pos") 648), (vs (st "square") 649), (vs (st "occupied") 650), (vs (st "steps") 651)])
noncomputable def o_332 (P : Params) : Obj := (oT [])
noncomputable def o_333 (P : Params) : Obj := (Obj.mk Value.none none (Data.func (FuncData.mk (st "attackers_to") (st "attackers_to") (fA 51) (.stmts (fB 51)) (fS 51) 0 [] Value.none Value.none Value.none Value.none none Value.none Value.none 0)) (aT []))
noncomputable def o_334 (P : Params) : Obj := (Obj.mk (Value.type "code") none (Data.fields (aT [(vs (st "attackers_to") 645), (vs (st "attackers_to") 646), (vs (st "/claim/cut.py") 647), (vi 250 0), (vi 3 0), (vi 0 0), (vi 0 0), (vi 3 0), (vr 282), (Value.bool true), (vi 181 0), (vr 283), Value.none, (vr 284), (vr 285), (vr 286), (vi 652 0), (vi 250 0), (vs (st "/claim/cut.py") 653)])) (aT []))
noncomputable def o_335 (P : Params) : Obj := (Obj.mk (Value.type "function") none (Data.func (FuncData.mk (st "attackers_to") (st "attackers_to") (fA 51) (.stmts (fB 51)) (fS 51) 3 [] Value.none Value.none Value.none (vs (st "chess.attacks") 597) none (vr 287) Value.none 0)) (aT []))
noncomputable def o_336 (P : Params) : Obj := (oT [])
noncomputable def o_337 (P : Params) : Obj := (Obj.mk Value.none none (Data.fields (aT [])) (aT []))
noncomputable def o_338 (P : Params) : Obj := (oT [(vs (st "pos") 658), (vs (st "square") 659), (vs (st "side") 660), (vs (st "occupied") 661), (vs (st "geo") 662), (vs (st "own") 663), (vs (st "straight") 664), (vs (st "slanting") 665)])
noncomputable def o_339 (P : Params) : Obj := (oT [])
noncomputable def o_340 (P : Params) : Obj := (Obj.mk Value.none none (Data.func (FuncData.mk (st "is_attacked") (st "is_attacked") (fA 52) (.stmts (fB 52)) (fS 52) 0 [] Value.none Value.none Value.none Value.none none Value.none Value.none 0)) (aT []))
noncomputable def o_341 (P : Params) : Obj := (Obj.mk (Value.type "code") none (Data.fields (aT [(vs (st "is_attacked") 655), (vs (st "is_attacked") 656), (vs (st "/claim/cut.py") 657), (vi 253 0), (vi 4 0), (vi 0 0), (vi 0 0), (vi 3 0), (vr 289), (Value.bool true), (vi 181 0), (vr 290), Value.none, (vr 291), (vr 292), (vr 293), (vi 666 0), (vi 253 0), (vs (st "/claim/cut.py") 667)])) (aT []))
noncomputable def o_342 (P : Params) : Obj := (Obj.mk (Value.type "function") none (Data.func (FuncData.mk (st "is_attacked") (st "is_attacked") (fA 52) (.stmts (fB 52)) (fS 52) 3 [] Value.none Value.none Value.none (vs (st "chess.attacks") 597) none (vr 294) Value.none 0)) (aT []))
noncomputable def o_343 (P : Params) : Obj := (oT [])
noncomputable def o_344 (P : Params) : Obj := (Obj.mk Value.none none (Data.fields (aT [])) (aT []))
noncomputable def o_345 (P : Params) : Obj := (oT [(vs (st "pos") 672), (vs (st "side") 673), (vs (st "everything") 674)])
noncomputable def o_346 (P : Params) : Obj := (oT [])
noncomputable def o_347 (P : Params) : Obj := (Obj.mk Value.none none (Data.func (FuncData.mk (st "checkers_of") (st "checkers_of") (fA 53) (.stmts (fB 53)) (fS 53) 0 [] Value.none Value.none Value.none Value.none none Value.none Value.none 0)) (aT []))
noncomputable def o_348 (P : Params) : Obj := (Obj.mk (Value.type "code") none (Data.fields (aT [(vs (st "checkers_of") 669), (vs (st "checkers_of") 670), (vs (st "/claim/cut.py") 671), (vi 263 0), (vi 2 0), (vi 0 0), (vi 0 0), (vi 3 0), (vr 296), (Value.bool true), (vi 181 0), (vr 297), Value.none, (vr 298), (vr 299), (vr 300), (vi 675 0), (vi 263 0), (vs (st "/claim/cut.py") 676)])) (aT []))
noncomputable def o_349 (P : Params) : Obj := (Obj.mk (Value.type "function") none (Data.func (FuncData.mk (st "checkers_of") (st "checkers_of") (fA 53) (.stmts (fB 53)) (fS 53) 3 [] Value.none Value.none Value.none (vs (st "chess.attacks") 597) none (vr 301) Value.none 0)) (aT []))
noncomputable def o_350 (P : Params) : Obj := (oT [])
noncomputable def o_351 (P : Params) : Obj := (Obj.mk Value.none none (Data.fields (aT [])) (aT []))
noncomputable def o_352 (P : Params) : Obj := (oT [(vs (st "pos") 681)])
noncomputable def o_353 (P : Params) : Obj := (oT [])
noncomputable def o_354 (P : Params) : Obj := (Obj.mk Value.none none (Data.func (FuncData.mk (st "checkers") (st "checkers") (fA 54) (.stmts (fB 54)) (fS 54) 0 [] Value.none Value.none Value.none Value.none none Value.none Value.none 0)) (aT []))
noncomputable def o_355 (P : Params) : Obj := (Obj.mk (Value.type "code") none (Data.fields (aT [(vs (st "checkers") 678), (vs (st "checkers") 679), (vs (st "/claim/cut.py") 680), (vi 266 0), (vi 1 0), (vi 0 0), (vi 0 0), (vi 3 0), (vr 303), (Value.bool true), (vi 181 0), (vr 304), Value.none, (vr 305), (vr 306), (vr 307), (vi 682 0), (vi 266 0), (vs (st "/claim/cut.py") 683)])) (aT []))
noncomputable def o_356 (P : Params) : Obj := (Obj.mk (Value.type "function") none (Data.func (FuncData.mk (st "checkers") (st "checkers") (fA 54) (.stmts (fB 54)) (fS 54) 3 [] Value.none Value.none Value.none (vs (st "chess.attacks") 597) none (vr 308) Value.none 0)) (aT []))
noncomputable def o_357 (P : Params) : Obj := (oT [])
noncomputable def o_358 (P : Params) : Obj := (Obj.mk Value.none none (Data.fields (aT [])) (aT []))
noncomputable def o_359 (P : Params) : Obj := (oT [(vs (st "pos") 688), (vs (st "side") 689), (vs (st "everything") 690)])
noncomputable def o_360 (P : Params) : Obj := (oT [])
noncomputable def o_361 (P : Params) : Obj := (Obj.mk Value.none none (Data.func (FuncData.mk (st "in_check_of") (st "in_check_of") (fA 55) (.stmts (fB 55)) (fS 55) 0 [] Value.none Value.none Value.none Value.none none Value.none Value.none 0)) (aT []))
noncomputable def o_362 (P : Params) : Obj := (Obj.mk (Value.type "code") none (Data.fields (aT [(vs (st "in_check_of") 685), (vs (st "in_check_of") 686), (vs (st "/claim/cut.py") 687), (vi 268 0), (vi 2 0), (vi 0 0), (vi 0 0), (vi 3 0), (vr 310), (Value.bool true), (vi 181 0), (vr 311), Value.none, (vr 312), (vr 313), (vr 314), (vi 691 0), (vi 268 0), (vs (st "/claim/cut.py") 692)])) (aT []))
noncomputable def o_363 (P : Params) : Obj := (Obj.mk (Value.type "function") none (Data.func (FuncData.mk (st "in_check_of") (st "in_check_of") (fA 55) (.stmts (fB 55)) (fS 55) 3 [] Value.none Value.none Value.none (vs (st "chess.attacks") 597) none (vr 315) Value.none 0)) (aT []))
noncomputable def o_364 (P : Params) : Obj := (oT [])
noncomputable def o_365 (P : Params) : Obj := (Obj.mk Value.none none (Data.fields (aT [])) (aT []))
noncomputable def o_366 (P : Params) : Obj := (oT [(vs (st "pos") 697)])
noncomputable def o_367 (P : Params) : Obj := (oT [])
noncomputable def o_368 (P : Params) : Obj := (Obj.mk Value.none none (Data.func (FuncData.mk (st "in_check") (st "in_check") (fA 56) (.stmts (fB 56)) (fS 56) 0 [] Value.none Value.none Value.none Value.none none Value.none Value.none 0)) (aT []))
noncomputable def o_369 (P : Params) : Obj := (Obj.mk (Value.type "code") none (Data.fields (aT [(vs (st "in_check") 694), (vs (st "in_check") 695), (vs (st "/claim/cut.py") 696), (vi 271 0), (vi 1 0), (vi 0 0), (vi 0 0), (vi 3 0), (vr 317), (Value.bool true), (vi 181 0), (vr 318), Value.none, (vr 319), (vr 320), (vr 321), (vi 698 0), (vi 271 0), (vs (st "/claim/cut.py") 699)])) (aT []))
noncomputable def o_370 (P : Params) : Obj := (Obj.mk (Value.type "function") none (Data.func (FuncData.mk (st "in_check") (st "in_check") (fA 56) (.stmts (fB 56)) (fS 56) 3 [] Value.none Value.none Value.none (vs (st "chess.attacks") 597) none (vr 322) Value.none 0)) (aT []))
noncomputable def o_371 (P : Params) : Obj := (oT [])
noncomputable def o_372 (P : Params) : Obj := (Obj.mk Value.none none (Data.fields (aT [])) (aT []))
noncomputable def o_373 (P : Params) : Obj := (oT [(vs (st "pos") 704)])
noncomputable def o_374 (P : Params) : Obj := (oT [])
noncomputable def o_375 (P : Params) : Obj := (Obj.mk Value.none none (Data.func (FuncData.mk (st "check_quiet") (st "check_quiet") (fA 57) (.stmts (fB 57)) (fS 57) 0 [] Value.none Value.none Value.none Value.none none Value.none Value.none 0)) (aT []))
noncomputable def o_376 (P : Params) : Obj := (Obj.mk (Value.type "code") none (Data.fields (aT [(vs (st "check_quiet") 701), (vs (st "check_quiet") 702), (vs (st "/claim/cut.py") 703), (vi 273 0), (vi 1 0), (vi 0 0), (vi 0 0), (vi 3 0), (vr 324), (Value.bool true), (vi 181 0), (vr 325), Value.none, (vr 326), (vr 327), (vr 328), (vi 705 0), (vi 273 0), (vs (st "/claim/cut.py") 706)])) (aT []))
noncomputable def o_377 (P : Params) : Obj := (Obj.mk (Value.type "function") none (Data.func (FuncData.mk (st "check_quiet") (st "check_quiet") (fA 57) (.stmts (fB 57)) (fS 57) 3 [] Value.none Value.none Value.none (vs (st "chess.attacks") 597) none (vr 329) Value.none 0)) (aT []))
noncomputable def o_378 (P : Params) : Obj := (oT [])
noncomputable def o_379 (P : Params) : Obj := (Obj.mk Value.none none (Data.fields (aT [])) (aT []))
noncomputable def o_380 (P : Params) : Obj := (oT [(vs (st "pos") 711), (vs (st "side") 712), (vs (st "king") 713), (vs (st "hits") 714)])
noncomputable def o_381 (P : Params) : Obj := (oT [])
noncomputable def o_382 (P : Params) : Obj := (Obj.mk Value.none none (Data.func (FuncData.mk (st "snipers_of") (st "snipers_of") (fA 58) (.stmts (fB 58)) (fS 58) 0 [] Value.none Value.none Value.none Value.none none Value.none Value.none 0)) (aT []))
noncomputable def o_383 (P : Params) : Obj := (Obj.mk (Value.type "code") none (Data.fields (aT [(vs (st "snipers_of") 708), (vs (st "snipers_of") 709), (vs (st "/claim/cut.py") 710), (vi 275 0), (vi 2 0), (vi 0 0), (vi 0 0), (vi 3 0), (vr 331), (Value.bool true), (vi 181 0), (vr 332), Value.none, (vr 333), (vr 334), (vr 335), (vi 715 0), (vi 275 0), (vs (st "/claim/cut.py") 716)])) (aT []))
noncomputable def o_384 (P : Params) : Obj := (Obj.mk (Value.type "function") none (Data.func (FuncData.mk (st "snipers_of") (st "snipers_of") (fA 58) (.stmts (fB 58)) (fS 58) 3 [] Value.none Value.none Value.none (vs (st "chess.attacks") 597) none (vr 336) Value.none 0)) (aT []))
noncomputable def o_385 (P : Params) : Obj := (oT [])
noncomputable def o_386 (P : Params) : Obj := (Obj.mk Value.none none (Data.fields (aT [])) (aT []))
noncomputable def o_387 (P : Params) : Obj := (oT [(vs (st "pos") 721), (vs (st "side") 722), (vs (st "king") 723), (vs (st "snipers") 724), (vs (st "standing") 725), (vs (st "held") 726), (vs (st "pinners") 727), (vs (st "sniper") 728), (vs (st "inside") 729)])
noncomputable def o_388 (P : Params) : Obj := (oT [])
noncomputable def o_389 (P : Params) : Obj := (Obj.mk Value.none none (Data.func (FuncData.mk (st "blockers") (st "blockers") (fA 59) (.stmts (fB 59)) (fS 59) 0 [] Value.none Value.none Value.none Value.none none Value.none Value.none 0)) (aT []))
noncomputable def o_390 (P : Params) : Obj := (Obj.mk (Value.type "code") none (Data.fields (aT [(vs (st "blockers") 718), (vs (st "blockers") 719), (vs (st "/claim/cut.py") 720), (vi 280 0), (vi 2 0), (vi 0 0), (vi 0 0), (vi 3 0), (vr 338), (Value.bool true), (vi 181 0), (vr 339), Value.none, (vr 340), (vr 341), (vr 342), (vi 730 0), (vi 280 0), (vs (st "/claim/cut.py") 731)])) (aT []))
noncomputable def o_391 (P : Params) : Obj := (Obj.mk (Value.type "function") none (Data.func (FuncData.mk (st "blockers") (st "blockers") (fA 59) (.stmts (fB 59)) (fS 59) 3 [] Value.none Value.none Value.none (vs (st "chess.attacks") 597) none (vr 343) Value.none 0)) (aT []))
noncomputable def o_392 (P : Params) : Obj := (oT [])
noncomputable def o_393 (P : Params) : Obj := (Obj.mk Value.none none (Data.fields (aT [])) (aT []))
noncomputable def o_394 (P : Params) : Obj := (oT [(vs (st "pos") 736), (vs (st "side") 737)])
noncomputable def o_395 (P : Params) : Obj := (oT [])
noncomputable def o_396 (P : Params) : Obj := (Obj.mk Value.none none (Data.func (FuncData.mk (st "pinned_pieces") (st "pinned_pieces") (fA 60) (.stmts (fB 60)) (fS 60) 0 [] Value.none Value.none Value.none Value.none none Value.none Value.none 0)) (aT []))
noncomputable def o_397 (P : Params) : Obj := (Obj.mk (Value.type "code") none (Data.fields (aT [(vs (st "pinned_pieces") 733), (vs (st "pinned_pieces") 734), (vs (st "/claim/cut.py") 735), (vi 293 0), (vi 2 0), (vi 0 0), (vi 0 0), (vi 3 0), (vr 345), (Value.bool true), (vi 181 0), (vr 346), Value.none, (vr 347), (vr 348), (vr 349), (vi 738 0), (vi 293 0), (vs (st "/claim/cut.py") 739)])) (aT []))
noncomputable def o_398 (P : Params) : Obj := (Obj.mk (Value.type "function") none (Data.func (FuncData.mk (st "pinned_pieces") (st "pinned_pieces") (fA 60) (.stmts (fB 60)) (fS 60) 3 [] Value.none Value.none Value.none (vs (st "chess.attacks") 597) none (vr 350) Value.none 0)) (aT []))
noncomputable def o_399 (P : Params) : Obj := (Obj.mk (Value.type "dict") none (Data.dict (aT [(DictEntry.mk (PyData.keyHash P (st "__name__")) (vs (st "__name__") 165) (vs (st "law_nt0443_01") 807)), (DictEntry.mk (PyData.keyHash P (st "__doc__")) (vs (st "__doc__") 166) Value.none), (DictEntry.mk (PyData.keyHash P (st "__package__")) (vs (st "__package__") 167) Value.none), (DictEntry.mk (PyData.keyHash P (st "__loader__")) (vs (st "__loader__") 168) (Value.builtin "__main__.__loader__#opaque")), (DictEntry.mk (PyData.keyHash P (st "__spec__")) (vs (st "__spec__") 169) Value.none), (DictEntry.mk (PyData.keyHash P (st "__annotations__")) (vs (st "__annotations__") 170) (vr 6)), (DictEntry.mk (PyData.keyHash P (st "__builtins__")) (vs (st "__builtins__") 171) (vr 4)), (DictEntry.mk (PyData.keyHash P (st "__file__")) (vs (st "__file__") 173) (vs (st "/claim/cut.py") 172)), (DictEntry.mk (PyData.keyHash P (st "__cached__")) (vs (st "__cached__") 174) Value.none), (DictEntry.mk (PyData.keyHash P (st "WHITE")) (vs (st "WHITE") 190) (vi 0 189)), (DictEntry.mk (PyData.keyHash P (st "BLACK")) (vs (st "BLACK") 192) (vi 1 191)), (DictEntry.mk (PyData.keyHash P (st "PAWN")) (vs (st "PAWN") 194) (vi 1 193)), (DictEntry.mk (PyData.keyHash P (st "KNIGHT")) (vs (st "KNIGHT") 196) (vi 2 195)), (DictEntry.mk (PyData.keyHash P (st "BISHOP")) (vs (st "BISHOP") 198) (vi 3 197)), (DictEntry.mk (PyData.keyHash P (st "ROOK")) (vs (st "ROOK") 200) (vi 4 199)), (DictEntry.mk (PyData.keyHash P (st "QUEEN")) (vs (st "QUEEN") 202) (vi 5 201)), (DictEntry.mk (PyData.keyHash P (st "KING")) (vs (st "KING") 204) (vi 6 203)), (DictEntry.mk (PyData.keyHash P (st "EMPTY")) (vs (st "EMPTY") 206) (vi 0 205)), (DictEntry.mk (PyData.keyHash P (st "side_of")) (vs (st "side_of") 213) (vr 21)), (DictEntry.mk (PyData.keyHash P (st "kind_of")) (vs (st "kind_of") 220) (vr 28)), (DictEntry.mk (PyData.keyHash P (st "more_than_one")) (vs (st "more_than_one") 229) (vr 35)), (DictEntry.mk (PyData.keyHash P (st "highest")) (vs (st "highest") 238) (vr 42)), (DictEntry.mk (PyData.keyHash P (st "lowest")) (vs (st "lowest") 245) (vr 49)), (DictEntry.mk (PyData.keyHash P (st "squares_of")) (vs (st "squares_of") 254) (vr 56)), (DictEntry.mk (PyData.keyHash P (st "direction")) (vs (st "direction") 266) (vr 63)), (DictEntry.mk (PyData.keyHash P (st "between")) (vs (st "between") 276) (vr 70)), (DictEntry.mk (PyData.keyHash P (st "ChessError")) (vs (st "ChessError") 307) (vr 87)), (DictEntry.mk (PyData.keyHash P (st "STEP_FILES")) (vs (st "STEP_FILES") 321) (vr 91)), (DictEntry.mk (PyData.keyHash P (st "STEP_RANKS")) (vs (st "STEP_RANKS") 333) (vr 92)), (DictEntry.mk (PyData.keyHash P (st "Geometry")) (vs (st "Geometry") 378) (vr 109)), (DictEntry.mk (PyData.keyHash P (st "is_growing")) (vs (st "is_growing") 385) (vr 120)), (DictEntry.mk (PyData.keyHash P (st "add_masks")) (vs (st "add_masks") 396) (vr 127)), (DictEntry.mk (PyData.keyHash P (st "inner_squares")) (vs (st "inner_squares") 405) (vr 134)), (DictEntry.mk (PyData.keyHash P (st "add_rays")) (vs (st "add_rays") 419) (vr 141)), (DictEntry.mk (PyData.keyHash P (st "add_pawns")) (vs (st "add_pawns") 427) (vr 148)), (DictEntry.mk (PyData.keyHash P (st "add_knights")) (vs (st "add_knights") 444) (vr 155)), (DictEntry.mk (PyData.keyHash P (st "add_castles")) (vs (st "add_castles") 457) (vr 162)), (DictEntry.mk (PyData.keyHash P (st "make_geometry")) (vs (st "make_geometry") 468) (vr 169)), (DictEntry.mk (PyData.keyHash P (st "ray_attacks")) (vs (st "ray_attacks") 483) (vr 176)), (DictEntry.mk (PyData.keyHash P (st "rook_attacks")) (vs (st "rook_attacks") 494) (vr 183)), (DictEntry.mk (PyData.keyHash P (st "bishop_attacks")) (vs (st "bishop_attacks") 505) (vr 190)), (DictEntry.mk (PyData.keyHash P (st "queen_attacks")) (vs (st "queen_attacks") 514) (vr 197)), (DictEntry.mk (PyData.keyHash P (st "slider_attacks")) (vs (st "slider_attacks") 524) (vr 204)), (DictEntry.mk (PyData.keyHash P (st "piece_attacks")) (vs (st "piece_attacks") 535) (vr 211)), (DictEntry.mk (PyData.keyHash P (st "Position")) (vs (st "Position") 578) (vr 228)), (DictEntry.mk (PyData.keyHash P (st "put_piece")) (vs (st "put_piece") 588) (vr 239)), (DictEntry.mk (PyData.keyHash P (st "king_square")) (vs (st "king_square") 596) (vr 246)), (DictEntry.mk (PyData.keyHash P (st "straight_sliders")) (vs (st "straight_sliders") 605) (vr 253)), (DictEntry.mk (PyData.keyHash P (st "slanting_sliders")) (vs (st "slanting_sliders") 612) (vr 260)), (DictEntry.mk (PyData.keyHash P (st "pawn_attackers")) (vs (st "pawn_attackers") 621) (vr 267)), (DictEntry.mk (PyData.keyHash P (st "step_attackers")) (vs (st "step_attackers") 632) (vr 274)), (DictEntry.mk (PyData.keyHash P (st "line_attackers")) (vs (st "line_attackers") 644) (vr 281)), (DictEntry.mk (PyData.keyHash P (st "attackers_to")) (vs (st "attackers_to") 654) (vr 288)), (DictEntry.mk (PyData.keyHash P (st "is_attacked")) (vs (st "is_attacked") 668) (vr 295)), (DictEntry.mk (PyData.keyHash P (st "checkers_of")) (vs (st "checkers_of") 677) (vr 302)), (DictEntry.mk (PyData.keyHash P (st "checkers")) (vs (st "checkers") 684) (vr 309)), (DictEntry.mk (PyData.keyHash P (st "in_check_of")) (vs (st "in_check_of") 693) (vr 316)), (DictEntry.mk (PyData.keyHash P (st "in_check")) (vs (st "in_check") 700) (vr 323)), (DictEntry.mk (PyData.keyHash P (st "check_quiet")) (vs (st "check_quiet") 707) (vr 330)), (DictEntry.mk (PyData.keyHash P (st "snipers_of")) (vs (st "snipers_of") 717) (vr 337)), (DictEntry.mk (PyData.keyHash P (st "blockers")) (vs (st "blockers") 732) (vr 344)), (DictEntry.mk (PyData.keyHash P (st "pinned_pieces")) (vs (st "pinned_pieces") 740) (vr 351)), (DictEntry.mk (PyData.keyHash P (st "covered_by")) (vs (st "covered_by") 752) (vr 358)), (DictEntry.mk (PyData.keyHash P (st "attacked_by")) (vs (st "attacked_by") 760) (vr 365)), (DictEntry.mk (PyData.keyHash P (st "forbidden_to_king")) (vs (st "forbidden_to_king") 769) (vr 372)), (DictEntry.mk (PyData.keyHash P (st "Zobrist")) (vs (st "Zobrist") 806) (vr 389)), (DictEntry.mk (PyData.keyHash P (st "_law_shapes")) (vs (st "_law_shapes") 817) (vr 398)), (DictEntry.mk (PyData.keyHash P (st "_law_rest")) (vs (st "_law_rest") 823) (vr 405))]) 68) (aT []))
noncomputable def o_400 (P : Params) : Obj := (Obj.mk Value.none none (Data.fields (aT [(vi 11 0), (vi 0 0), (vr 20), (vi 13 0), (vi 0 0), (vr 27), (vi 16 0), (vi 0 0), (vr 34), (vi 18 0), (vi 0 0), (vr 41), (vi 31 0), (vi 0 0), (vr 48), (vi 33 0), (vi 0 0), (vr 55), (vi 46 0), (vi 0 0), (vr 62), (vi 51 0), (vi 0 0), (vr 69), (vi 57 0), (vi 0 0), (vr 76), (vi 65 0), (vi 0 0), (vr 98), (vi 82 0), (vi 0 0), (vr 119), (vi 84 0), (vi 0 0), (vr 126), (vi 92 0), (vi 0 0), (vr 133), (vi 103 0), (vi 0 0), (vr 140), (vi 118 0), (vi 0 0), (vr 147), (vi 122 0), (vi 0 0), (vr 154), (vi 134 0), (vi 0 0), (vr 161), (vi 151 0), (vi 0 0), (vr 168), (vi 162 0), (vi 0 0), (vr 175), (vi 177 0), (vi 0 0), (vr 182), (vi 182 0), (vi 0 0), (vr 189), (vi 187 0), (vi 0 0), (vr 196), (vi 189 0), (vi 0 0), (vr 203), (vi 197 0), (vi 0 0), (vr 210), (vi 206 0), (vi 0 0), (vr 217), (vi 221 0), (vi 0 0), (vr 238), (vi 227 0), (vi 0 0), (vr 245), (vi 230 0), (vi 0 0), (vr 252), (vi 232 0), (vi 0 0), (vr 259), (vi 234 0), (vi 0 0), (vr 266), (vi 236 0), (vi 0 0), (vr 273), (vi 241 0), (vi 0 0), (vr 280), (vi 250 0), (vi 0 0), (vr 287), (vi 253 0), (vi 0 0), (vr 294), (vi 263 0), (vi 0 0), (vr 301), (vi 266 0), (vi 0 0), (vr 308), (vi 268 0), (vi 0 0), (vr 315), (vi 271 0), (vi 0 0), (vr 322), (vi 273 0), (vi 0 0), (vr 329), (vi 275 0), (vi 0 0), (vr 336), (vi 280 0), (vi 0 0), (vr 343), (vi 293 0), (vi 0 0), (vr 350), (vi 295 0), (vi 0 0), (vr 357), (vi 301 0), (vi 0 0), (vr 364), (vi 303 0), (vi 0 0), (vr 371), (vi 307 0), (vi 0 0), (vr 378), (vi 316 0), (vi 0 0), (vr 404)])) (aT []))
noncomputable def o_401 (P : Params) : Obj := (oT [])
noncomputable def o_402 (P : Params) : Obj := (Obj.mk Value.none none (Data.fields (aT [])) (aT []))
noncomputable def o_403 (P : Params) : Obj := (oT [(vs (st "pos") 744), (vs (st "side") 745), (vs (st "occupied") 746), (vs (st "covered") 747), (vs (st "kind") 748), (vs (st "square") 749)])
noncomputable def o_404 (P : Params) : Obj := (oT [])
noncomputable def o_405 (P : Params) : Obj := (Obj.mk Value.none none (Data.func (FuncData.mk (st "covered_by") (st "covered_by") (fA 61) (.stmts (fB 61)) (fS 61) 0 [] Value.none Value.none Value.none Value.none none Value.none Value.none 0)) (aT []))
noncomputable def o_406 (P : Params) : Obj := (Obj.mk (Value.type "code") none (Data.fields (aT [(vs (st "covered_by") 741), (vs (st "covered_by") 742), (vs (st "/claim/cut.py") 743), (vi 295 0), (vi 3 0), (vi 0 0), (vi 0 0), (vi 3 0), (vr 352), (Value.bool true), (vi 181 0), (vr 353), Value.none, (vr 354), (vr 355), (vr 356), (vi 750 0), (vi 295 0), (vs (st "/claim/cut.py") 751)])) (aT []))
noncomputable def o_407 (P : Params) : Obj := (Obj.mk (Value.type "function") none (Data.func (FuncData.mk (st "covered_by") (st "covered_by") (fA 61) (.stmts (fB 61)) (fS 61) 3 [] Value.none Value.none Value.none (vs (st "chess.attacks") 597) none (vr 357) Value.none 0)) (aT []))
noncomputable def o_408 (P : Params) : Obj := (oT [])
noncomputable def o_409 (P : Params) : Obj := (Obj.mk Value.none none (Data.fields (aT [])) (aT []))
noncomputable def o_410 (P : Params) : Obj := (oT [(vs (st "pos") 756), (vs (st "side") 757)])
noncomputable def o_411 (P : Params) : Obj := (oT [])
noncomputable def o_412 (P : Params) : Obj := (Obj.mk Value.none none (Data.func (FuncData.mk (st "attacked_by") (st "attacked_by") (fA 62) (.stmts (fB 62)) (fS 62) 0 [] Value.none Value.none Value.none Value.none none Value.none Value.none 0)) (aT []))
noncomputable def o_413 (P : Params) : Obj := (Obj.mk (Value.type "code") none (Data.fields (aT [(vs (st "attacked_by") 753), (vs (st "attacked_by") 754), (vs (st "/claim/cut.py") 755), (vi 301 0), (vi 2 0), (vi 0 0), (vi 0 0), (vi 3 0), (vr 359), (Value.bool true), (vi 181 0), (vr 360), Value.none, (vr 361), (vr 362), (vr 363), (vi 758 0), (vi 301 0), (vs (st "/claim/cut.py") 759)])) (aT []))
noncomputable def o_414 (P : Params) : Obj := (Obj.mk (Value.type "function") none (Data.func (FuncData.mk (st "attacked_by") (st "attacked_by") (fA 62) (.stmts (fB 62)) (fS 62) 3 [] Value.none Value.none Value.none (vs (st "chess.attacks") 597) none (vr 364) Value.none 0)) (aT []))
noncomputable def o_415 (P : Params) : Obj := (oT [])
noncomputable def o_416 (P : Params) : Obj := (Obj.mk Value.none none (Data.fields (aT [])) (aT []))
noncomputable def o_417 (P : Params) : Obj := (oT [(vs (st "pos") 764), (vs (st "side") 765), (vs (st "everything") 766)])
noncomputable def o_418 (P : Params) : Obj := (oT [])
noncomputable def o_419 (P : Params) : Obj := (Obj.mk Value.none none (Data.func (FuncData.mk (st "forbidden_to_king") (st "forbidden_to_king") (fA 63) (.stmts (fB 63)) (fS 63) 0 [] Value.none Value.none Value.none Value.none none Value.none Value.none 0)) (aT []))
noncomputable def o_420 (P : Params) : Obj := (Obj.mk (Value.type "code") none (Data.fields (aT [(vs (st "forbidden_to_king") 761), (vs (st "forbidden_to_king") 762), (vs (st "/claim/cut.py") 763), (vi 303 0), (vi 2 0), (vi 0 0), (vi 0 0), (vi 3 0), (vr 366), (Value.bool true), (vi 181 0), (vr 367), Value.none, (vr 368), (vr 369), (vr 370), (vi 767 0), (vi 303 0), (vs (st "/claim/cut.py") 768)])) (aT []))
noncomputable def o_421 (P : Params) : Obj := (Obj.mk (Value.type "function") none (Data.func (FuncData.mk (st "forbidden_to_king") (st "forbidden_to_king") (fA 63) (.stmts (fB 63)) (fS 63) 3 [] Value.none Value.none Value.none (vs (st "chess.attacks") 597) none (vr 371) Value.none 0)) (aT []))
noncomputable def o_422 (P : Params) : Obj := (oT [])
noncomputable def o_423 (P : Params) : Obj := (Obj.mk (Value.type "builtin_function_or_method") none (Data.fields (aT [(Value.builtin "type.__prepare__"), (Value.type "type")])) (aT []))
noncomputable def o_424 (P : Params) : Obj := (Obj.mk (Value.type "dict") none (Data.dict (aT [(DictEntry.mk (PyData.keyHash P (st "__module__")) (vs (st "__module__") 779) (vs (st "chess.zobrist") 770)), (DictEntry.mk (PyData.keyHash P (st "__qualname__")) (vs (st "__qualname__") 781) (vs (st "Zobrist") 780)), (DictEntry.mk (PyData.keyHash P (st "__firstlineno__")) (vs (st "__firstlineno__") 783) (vi 307 782)), (DictEntry.mk (PyData.keyHash P (st "__init__")) (vs (st "__init__") 794) (vr 386)), (DictEntry.mk (PyData.keyHash P (st "__static_attributes__")) (vs (st "__static_attributes__") 799) (vr 387))]) 5) (aT []))
noncomputable def o_425 (P : Params) : Obj := (oT [])
noncomputable def o_426 (P : Params) : Obj := (Obj.mk Value.none none (Data.fields (aT [(vi 309 0), (vi 4 0), (vr 385)])) (aT []))
noncomputable def o_427 (P : Params) : Obj := (Obj.mk (Value.type "code") none (Data.fields (aT [(vs (st "Zobrist") 774), (vs (st "Zobrist") 775), (vs (st "/claim/cut.py") 776), (vi 307 0), (vi 0 0), (vi 0 0), (vi 0 0), (vi 0 0), (vr 376), (Value.bool false), (vi 181 0), (vr 377), Value.none, Value.none, Value.none, Value.none, (vi 777 0), (vi 307 0), (vs (st "/claim/cut.py") 778)])) (aT []))
noncomputable def o_428 (P : Params) : Obj := (Obj.mk (Value.type "frame") none Data.plain (aT [(Option.some (vr 378)), (Option.some (vr 3)), (Option.some (vr 375)), none, (Option.some (vs (st "chess.zobrist") 770)), none, (Option.some (vr 0))]))
noncomputable def o_429 (P : Params) : Obj := (oT [])
noncomputable def o_430 (P : Params) : Obj := (Obj.mk Value.none none (Data.fields (aT [])) (aT []))
noncomputable def o_431 (P : Params) : Obj := (oT [(vs (st "self") 787), (vs (st "pieces") 788), (vs (st "ep") 789), (vs (st "rights") 790), (vs (st "side") 791)])
noncomputable def o_432 (P : Params) : Obj := (oT [])
noncomputable def o_433 (P : Params) : Obj := (Obj.mk Value.none none (Data.func (FuncData.mk (st "__init__") (st "Zobrist.__init__") (fA 65) (.stmts (fB 65)) (fS 65) 0 [] Value.none Value.none Value.none Value.none none Value.none Value.none 0)) (aT []))
noncomputable def o_434 (P : Params) : Obj := (Obj.mk (Value.type "code") none (Data.fields (aT [(vs (st "__init__") 784), (vs (st "Zobrist.__init__") 785), (vs (st "/claim/cut.py") 786), (vi 309 0), (vi 5 0), (vi 0 0), (vi 0 0), (vi 3 0), (vr 380), (Value.bool true), (vi 181 0), (vr 381), Value.none, (vr 382), (vr 383), (vr 384), (vi 792 0), (vi 309 0), (vs (st "/claim/cut.py") 793)])) (aT []))
noncomputable def o_435 (P : Params) : Obj := (Obj.mk (Value.type "function") none (Data.func (FuncData.mk (st "__init__") (st "Zobrist.__init__") (fA 65) (.stmts (fB 65)) (fS 65) 3 [] Value.none Value.none Value.none (vs (st "chess.zobrist") 770) none (vr 385) Value.none 0)) (aT []))
noncomputable def o_436 (P : Params) : Obj := (oT [(vs (st "ep") 795), (vs (st "pieces") 796), (vs (st "rights") 797), (vs (st "side") 798)])
noncomputable def o_437 (P : Params) : Obj := (Obj.mk (Value.type "dict") none (Data.dict (aT [(DictEntry.mk (PyData.keyHash P (st "__module__")) (vs (st "__module__") 779) (vs (st "chess.zobrist") 770)), (DictEntry.mk (PyData.keyHash P (st "__firstlineno__")) (vs (st "__firstlineno__") 783) (vi 307 782)), (DictEntry.mk (PyData.keyHash P (st "__init__")) (vs (st "__init__") 794) (vr 386)), (DictEntry.mk (PyData.keyHash P (st "__static_attributes__")) (vs (st "__static_attributes__") 799) (vr 387)), (DictEntry.mk (PyData.keyHash P (st "__dict__")) (vs (st "__dict__") 801) (vr 390)), (DictEntry.mk (PyData.keyHash P (st "__weakref__")) (vs (st "__weakref__") 803) (vr 391)), (DictEntry.mk (PyData.keyHash P (st "__doc__")) (vs (st "__doc__") 804) Value.none)]) 4) (aT []))
noncomputable def o_438 (P : Params) : Obj := (Obj.mk (Value.type "type") none (Data.cls (ClassData.mk (st "Zobrist") [(Value.type "object")] [(vr 389), (Value.type "object")] 388 (st "Zobrist") true [] [] false none false)) (aT [none, none, (Option.some (vs (st "Zobrist") 772)), (Option.some (vs (st "Zobrist") 780)), (Option.some (Value.builtin "object.__new__")), (Option.some (Value.bool true))]))
noncomputable def o_439 (P : Params) : Obj := (Obj.mk (Value.type "getset_descriptor") none (Data.fields (aT [(vs (st "__dict__") 800), (vr 389), (Value.builtin "function.__dict__"), (Value.builtin "function.__dict__#set")])) (aT []))
noncomputable def o_440 (P : Params) : Obj := (Obj.mk (Value.type "getset_descriptor") none (Data.fields (aT [(vs (st "__weakref__") 802), (vr 389), (Value.builtin "ExceptionGroup.__weakref__"), Value.none])) (aT []))
noncomputable def o_441 (P : Params) : Obj := (Obj.mk (Value.type "super") none (Data.fields (aT [(vr 389), (vr 389), (vr 389)])) (aT []))
noncomputable def o_442 (P : Params) : Obj := (Obj.mk (Value.type "builtin_function_or_method") none (Data.fields (aT [(Value.builtin "object.__init_subclass__"), (vr 389)])) (aT []))
noncomputable def o_443 (P : Params) : Obj := (oT [(vi 4 809), (vi 4 810)])
noncomputable def o_444 (P : Params) : Obj := (oT [(vi 3 811), (vi 5 812)])
noncomputable def o_445 (P : Params) : Obj := (oT [(vi 5 813), (vi 4 814)])
noncomputable def o_446 (P : Params) : Obj := (oT [(vi 4 815), (vi 5 816)])
noncomputable def o_447 (P : Params) : Obj := (oT [(vr 394), (vr 395), (vr 396), (vr 397)])
noncomputable def o_448 (P : Params) : Obj := (oT [])
noncomputable def o_449 (P : Params) : Obj := (Obj.mk Value.none none (Data.fields (aT [])) (aT []))
noncomputable def o_450 (P : Params) : Obj := (oT [])
noncomputable def o_451 (P : Params) : Obj := (oT [])
noncomputable def o_452 (P : Params) : Obj := (Obj.mk Value.none none (Data.func (FuncData.mk (st "_law_rest") (st "_law_rest") (fA 68) (.stmts (fB 68)) (fS 68) 0 [] Value.none Value.none Value.none Value.none none Value.none Value.none 0)) (aT []))
noncomputable def o_453 (P : Params) : Obj := (Obj.mk (Value.type "code") none (Data.fields (aT [(vs (st "_law_rest") 818), (vs (st "_law_rest") 819), (vs (st "/claim/cut.py") 820), (vi 316 0), (vi 0 0), (vi 0 0), (vi 0 0), (vi 3 0), (vr 399), (Value.bool true), (vi 181 0), (vr 400), Value.none, (vr 401), (vr 402), (vr 403), (vi 821 0), (vi 316 0), (vs (st "/claim/cut.py") 822)])) (aT []))
noncomputable def o_454 (P : Params) : Obj := (Obj.mk (Value.type "function") none (Data.func (FuncData.mk (st "_law_rest") (st "_law_rest") (fA 68) (.stmts (fB 68)) (fS 68) 3 [] Value.none Value.none Value.none (vs (st "law_nt0443_01") 807) none (vr 404) Value.none 0)) (aT []))
noncomputable def o_455 (P : Params) : Obj := (Obj.mk (Value.type "dict") none (Data.dict (aT [(DictEntry.mk (PyData.keyHash P (st "__name__")) (vs (st "__name__") 165) (vs (st "law_nt0443_01") 807)), (DictEntry.mk (PyData.keyHash P (st "__doc__")) (vs (st "__doc__") 166) Value.none), (DictEntry.mk (PyData.keyHash P (st "__package__")) (vs (st "__package__") 167) Value.none), (DictEntry.mk (PyData.keyHash P (st "__loader__")) (vs (st "__loader__") 168) (Value.builtin "__main__.__loader__#opaque")), (DictEntry.mk (PyData.keyHash P (st "__spec__")) (vs (st "__spec__") 169) Value.none), (DictEntry.mk (PyData.keyHash P (st "__annotations__")) (vs (st "__annotations__") 170) (vr 6)), (DictEntry.mk (PyData.keyHash P (st "__builtins__")) (vs (st "__builtins__") 171) (vr 4)), (DictEntry.mk (PyData.keyHash P (st "__file__")) (vs (st "__file__") 173) (vs (st "/claim/cut.py") 172)), (DictEntry.mk (PyData.keyHash P (st "__cached__")) (vs (st "__cached__") 174) Value.none), (DictEntry.mk (PyData.keyHash P (st "WHITE")) (vs (st "WHITE") 190) (vi 0 189)), (DictEntry.mk (PyData.keyHash P (st "BLACK")) (vs (st "BLACK") 192) (vi 1 191)), (DictEntry.mk (PyData.keyHash P (st "PAWN")) (vs (st "PAWN") 194) (vi 1 193)), (DictEntry.mk (PyData.keyHash P (st "KNIGHT")) (vs (st "KNIGHT") 196) (vi 2 195)), (DictEntry.mk (PyData.keyHash P (st "BISHOP")) (vs (st "BISHOP") 198) (vi 3 197)), (DictEntry.mk (PyData.keyHash P (st "ROOK")) (vs (st "ROOK") 200) (vi 4 199)), (DictEntry.mk (PyData.keyHash P (st "QUEEN")) (vs (st "QUEEN") 202) (vi 5 201)), (DictEntry.mk (PyData.keyHash P (st "KING")) (vs (st "KING") 204) (vi 6 203)), (DictEntry.mk (PyData.keyHash P (st "EMPTY")) (vs (st "EMPTY") 206) (vi 0 205)), (DictEntry.mk (PyData.keyHash P (st "side_of")) (vs (st "side_of") 213) (vr 21)), (DictEntry.mk (PyData.keyHash P (st "kind_of")) (vs (st "kind_of") 220) (vr 28)), (DictEntry.mk (PyData.keyHash P (st "more_than_one")) (vs (st "more_than_one") 229) (vr 35)), (DictEntry.mk (PyData.keyHash P (st "highest")) (vs (st "highest") 238) (vr 42)), (DictEntry.mk (PyData.keyHash P (st "lowest")) (vs (st "lowest") 245) (vr 49)), (DictEntry.mk (PyData.keyHash P (st "squares_of")) (vs (st "squares_of") 254) (vr 56)), (DictEntry.mk (PyData.keyHash P (st "direction")) (vs (st "direction") 266) (vr 63)), (DictEntry.mk (PyData.keyHash P (st "between")) (vs (st "between") 276) (vr 70)), (DictEntry.mk (PyData.keyHash P (st "ChessError")) (vs (st "ChessError") 307) (vr 87)), (DictEntry.mk (PyData.keyHash P (st "STEP_FILES")) (vs (st "STEP_FILES") 321) (vr 91)), (DictEntry.mk (PyData.keyHash P (st "STEP_RANKS")) (vs (st "STEP_RANKS") 333) (vr 92)), (DictEntry.mk (PyData.keyHash P (st "Geometry")) (vs (st "Geometry") 378) (vr 109)), (DictEntry.mk (PyData.keyHash P (st "is_growing")) (vs (st "is_growing") 385) (vr 120)), (DictEntry.mk (PyData.keyHash P (st "add_masks")) (vs (st "add_masks") 396) (vr 127)), (DictEntry.mk (PyData.keyHash P (st "inner_squares")) (vs (st "inner_squares") 405) (vr 134)), (DictEntry.mk (PyData.keyHash P (st "add_rays")) (vs (st "add_rays") 419) (vr 141)), (DictEntry.mk (PyData.keyHash P (st "add_pawns")) (vs (st "add_pawns") 427) (vr 148)), (DictEntry.mk (PyData.keyHash P (st "add_knights")) (vs (st "add_knights") 444) (vr 155)), (DictEntry.mk (PyData.keyHash P (st "add_castles")) (vs (st "add_castles") 457) (vr 162)), (DictEntry.mk (PyData.keyHash P (st "make_geometry")) (vs (st "make_geometry") 468) (vr 169)), (DictEntry.mk (PyData.keyHash P (st "ray_attacks")) (vs (st "ray_attacks") 483) (vr 176)), (DictEntry.mk (PyData.keyHash P (st "rook_attacks")) (vs (st "rook_attacks") 494) (vr 183)), (DictEntry.mk (PyData.keyHash P (st "bishop_attacks")) (vs (st "bishop_attacks") 505) (vr 190)), (DictEntry.mk (PyData.keyHash P (st "queen_attacks")) (vs (st "queen_attacks") 514) (vr 197)), (DictEntry.mk (PyData.keyHash P (st "slider_attacks")) (vs (st "slider_attacks") 524) (vr 204)), (DictEntry.mk (PyData.keyHash P (st "piece_attacks")) (vs (st "piece_attacks") 535) (vr 211)), (DictEntry.mk (PyData.keyHash P (st "Position")) (vs (st "Position") 578) (vr 228)), (DictEntry.mk (PyData.keyHash P (st "put_piece")) (vs (st "put_piece") 588) (vr 239)), (DictEntry.mk (PyData.keyHash P (st "king_square")) (vs (st "king_square") 596) (vr 246)), (DictEntry.mk (PyData.keyHash P (st "straight_sliders")) (vs (st "straight_sliders") 605) (vr 253)), (DictEntry.mk (PyData.keyHash P (st "slanting_sliders")) (vs (st "slanting_sliders") 612) (vr 260)), (DictEntry.mk (PyData.keyHash P (st "pawn_attackers")) (vs (st "pawn_attackers") 621) (vr 267)), (DictEntry.mk (PyData.keyHash P (st "step_attackers")) (vs (st "step_attackers") 632) (vr 274)), (DictEntry.mk (PyData.keyHash P (st "line_attackers")) (vs (st "line_attackers") 644) (vr 281)), (DictEntry.mk (PyData.keyHash P (st "attackers_to")) (vs (st "attackers_to") 654) (vr 288)), (DictEntry.mk (PyData.keyHash P (st "is_attacked")) (vs (st "is_attacked") 668) (vr 295)), (DictEntry.mk (PyData.keyHash P (st "checkers_of")) (vs (st "checkers_of") 677) (vr 302)), (DictEntry.mk (PyData.keyHash P (st "checkers")) (vs (st "checkers") 684) (vr 309)), (DictEntry.mk (PyData.keyHash P (st "in_check_of")) (vs (st "in_check_of") 693) (vr 316)), (DictEntry.mk (PyData.keyHash P (st "in_check")) (vs (st "in_check") 700) (vr 323)), (DictEntry.mk (PyData.keyHash P (st "check_quiet")) (vs (st "check_quiet") 707) (vr 330)), (DictEntry.mk (PyData.keyHash P (st "snipers_of")) (vs (st "snipers_of") 717) (vr 337)), (DictEntry.mk (PyData.keyHash P (st "blockers")) (vs (st "blockers") 732) (vr 344)), (DictEntry.mk (PyData.keyHash P (st "pinned_pieces")) (vs (st "pinned_pieces") 740) (vr 351)), (DictEntry.mk (PyData.keyHash P (st "covered_by")) (vs (st "covered_by") 752) (vr 358)), (DictEntry.mk (PyData.keyHash P (st "attacked_by")) (vs (st "attacked_by") 760) (vr 365)), (DictEntry.mk (PyData.keyHash P (st "forbidden_to_king")) (vs (st "forbidden_to_king") 769) (vr 372)), (DictEntry.mk (PyData.keyHash P (st "Zobrist")) (vs (st "Zobrist") 806) (vr 389)), (DictEntry.mk (PyData.keyHash P (st "_law_shapes")) (vs (st "_law_shapes") 817) (vr 398)), (DictEntry.mk (PyData.keyHash P (st "_law_rest")) (vs (st "_law_rest") 823) (vr 405)), (DictEntry.mk (PyData.keyHash P (st "_law_hits")) (vs (st "_law_hits") 839) (vr 412)), (DictEntry.mk (PyData.keyHash P (st "_law_hitters")) (vs (st "_law_hitters") 845) (vr 417)), (DictEntry.mk (PyData.keyHash P (st "_law_bits")) (vs (st "_law_bits") 854) (vr 424)), (DictEntry.mk (PyData.keyHash P (st "_law_within")) (vs (st "_law_within") 870) (vr 431)), (DictEntry.mk (PyData.keyHash P (st "_law_held")) (vs (st "_law_held") 876) (vr 436)), (DictEntry.mk (PyData.keyHash P (st "law")) (vs (st "law") 882) (vr 441))]) 74) (aT []))
noncomputable def o_456 (P : Params) : Obj := (Obj.mk Value.none none (Data.fields (aT [(vi 11 0), (vi 0 0), (vr 20), (vi 13 0), (vi 0 0), (vr 27), (vi 16 0), (vi 0 0), (vr 34), (vi 18 0), (vi 0 0), (vr 41), (vi 31 0), (vi 0 0), (vr 48), (vi 33 0), (vi 0 0), (vr 55), (vi 46 0), (vi 0 0), (vr 62), (vi 51 0), (vi 0 0), (vr 69), (vi 57 0), (vi 0 0), (vr 76), (vi 65 0), (vi 0 0), (vr 98), (vi 82 0), (vi 0 0), (vr 119), (vi 84 0), (vi 0 0), (vr 126), (vi 92 0), (vi 0 0), (vr 133), (vi 103 0), (vi 0 0), (vr 140), (vi 118 0), (vi 0 0), (vr 147), (vi 122 0), (vi 0 0), (vr 154), (vi 134 0), (vi 0 0), (vr 161), (vi 151 0), (vi 0 0), (vr 168), (vi 162 0), (vi 0 0), (vr 175), (vi 177 0), (vi 0 0), (vr 182), (vi 182 0), (vi 0 0), (vr 189), (vi 187 0), (vi 0 0), (vr 196), (vi 189 0), (vi 0 0), (vr 203), (vi 197 0), (vi 0 0), (vr 210), (vi 206 0), (vi 0 0), (vr 217), (vi 221 0), (vi 0 0), (vr 238), (vi 227 0), (vi 0 0), (vr 245), (vi 230 0), (vi 0 0), (vr 252), (vi 232 0), (vi 0 0), (vr 259), (vi 234 0), (vi 0 0), (vr 266), (vi 236 0), (vi 0 0), (vr 273), (vi 241 0), (vi 0 0), (vr 280), (vi 250 0), (vi 0 0), (vr 287), (vi 253 0), (vi 0 0), (vr 294), (vi 263 0), (vi 0 0), (vr 301), (vi 266 0), (vi 0 0), (vr 308), (vi 268 0), (vi 0 0), (vr 315), (vi 271 0), (vi 0 0), (vr 322), (vi 273 0), (vi 0 0), (vr 329), (vi 275 0), (vi 0 0), (vr 336), (vi 280 0), (vi 0 0), (vr 343), (vi 293 0), (vi 0 0), (vr 350), (vi 295 0), (vi 0 0), (vr 357), (vi 301 0), (vi 0 0), (vr 364), (vi 303 0), (vi 0 0), (vr 371), (vi 307 0), (vi 0 0), (vr 378), (vi 316 0), (vi 0 0), (vr 404), (vi 318 0), (vi 0 0), (vr 411), (vi 337 0), (vi 0 0), (vr 416), (vi 339 0), (vi 0 0), (vr 423), (vi 344 0), (vi 0 0), (vr 430), (vi 350 0), (vi 0 0), (vr 435), (vi 363 0), (vi 0 0), (vr 440)])) (aT []))
noncomputable def o_457 (P : Params) : Obj := (oT [])
noncomputable def o_458 (P : Params) : Obj := (Obj.mk Value.none none (Data.fields (aT [])) (aT []))
noncomputable def o_459 (P : Params) : Obj := (oT [(vs (st "files") 827), (vs (st "man") 828), (vs (st "at") 829), (vs (st "goal") 830), (vs (st "lying") 831), (vs (st "df") 832), (vs (st "dr") 833), (vs (st "far") 834), (vs (st "kind") 835), (vs (st "k") 836)])
noncomputable def o_460 (P : Params) : Obj := (oT [])
noncomputable def o_461 (P : Params) : Obj := (Obj.mk Value.none none (Data.func (FuncData.mk (st "_law_hits") (st "_law_hits") (fA 69) (.stmts (fB 69)) (fS 69) 0 [] Value.none Value.none Value.none Value.none none Value.none Value.none 0)) (aT []))
noncomputable def o_462 (P : Params) : Obj := (Obj.mk (Value.type "code") none (Data.fields (aT [(vs (st "_law_hits") 824), (vs (st "_law_hits") 825), (vs (st "/claim/cut.py") 826), (vi 318 0), (vi 5 0), (vi 0 0), (vi 0 0), (vi 3 0), (vr 406), (Value.bool true), (vi 181 0), (vr 407), Value.none, (vr 408), (vr 409), (vr 410), (vi 837 0), (vi 318 0), (vs (st "/claim/cut.py") 838)])) (aT []))
noncomputable def o_463 (P : Params) : Obj := (Obj.mk (Value.type "function") none (Data.func (FuncData.mk (st "_law_hits") (st "_law_hits") (fA 69) (.stmts (fB 69)) (fS 69) 3 [] Value.none Value.none Value.none (vs (st "law_nt0443_01") 807) none (vr 411) Value.none 0)) (aT []))
noncomputable def o_464 (P : Params) : Obj := (oT [])
noncomputable def o_465 (P : Params) : Obj := (Obj.mk Value.none none (Data.fields (aT [])) (aT []))
noncomputable def o_466 (P : Params) : Obj := (Obj.mk Value.none none (Data.func (FuncData.mk (st "_law_hitters") (st "_law_hitters") (fA 70) (.stmts (fB 70)) (fS 70) 0 [] Value.none Value.none Value.none Value.none none Value.none Value.none 0)) (aT []))
noncomputable def o_467 (P : Params) : Obj := (Obj.mk (Value.type "code") none (Data.fields (aT [(vs (st "_law_hitters") 840), (vs (st "_law_hitters") 841), (vs (st "/claim/cut.py") 842), (vi 337 0), (vi 5 0), (vi 0 0), (vi 0 0), (vi 3 0), (vr 413), (Value.bool true), (vi 181 0), (vr 414), Value.none, Value.none, Value.none, (vr 415), (vi 843 0), (vi 337 0), (vs (st "/claim/cut.py") 844)])) (aT []))
noncomputable def o_468 (P : Params) : Obj := (Obj.mk (Value.type "function") none (Data.func (FuncData.mk (st "_law_hitters") (st "_law_hitters") (fA 70) (.stmts (fB 70)) (fS 70) 3 [] Value.none Value.none Value.none (vs (st "law_nt0443_01") 807) none (vr 416) Value.none 0)) (aT []))
noncomputable def o_469 (P : Params) : Obj := (oT [])
noncomputable def o_470 (P : Params) : Obj := (Obj.mk Value.none none (Data.fields (aT [])) (aT []))
noncomputable def o_471 (P : Params) : Obj := (oT [(vs (st "squares") 849), (vs (st "total") 850), (vs (st "t") 851)])
noncomputable def o_472 (P : Params) : Obj := (oT [])
noncomputable def o_473 (P : Params) : Obj := (Obj.mk Value.none none (Data.func (FuncData.mk (st "_law_bits") (st "_law_bits") (fA 71) (.stmts (fB 71)) (fS 71) 0 [] Value.none Value.none Value.none Value.none none Value.none Value.none 0)) (aT []))
noncomputable def o_474 (P : Params) : Obj := (Obj.mk (Value.type "code") none (Data.fields (aT [(vs (st "_law_bits") 846), (vs (st "_law_bits") 847), (vs (st "/claim/cut.py") 848), (vi 339 0), (vi 1 0), (vi 0 0), (vi 0 0), (vi 3 0), (vr 418), (Value.bool true), (vi 181 0), (vr 419), Value.none, (vr 420), (vr 421), (vr 422), (vi 852 0), (vi 339 0), (vs (st "/claim/cut.py") 853)])) (aT []))
noncomputable def o_475 (P : Params) : Obj := (Obj.mk (Value.type "function") none (Data.func (FuncData.mk (st "_law_bits") (st "_law_bits") (fA 71) (.stmts (fB 71)) (fS 71) 3 [] Value.none Value.none Value.none (vs (st "law_nt0443_01") 807) none (vr 423) Value.none 0)) (aT []))
noncomputable def o_476 (P : Params) : Obj := (oT [])
noncomputable def o_477 (P : Params) : Obj := (Obj.mk Value.none none (Data.fields (aT [])) (aT []))
noncomputable def o_478 (P : Params) : Obj := (oT [(vs (st "files") 858), (vs (st "a") 859), (vs (st "b") 860), (vs (st "q") 861), (vs (st "af") 862), (vs (st "ar") 863), (vs (st "bf") 864), (vs (st "br") 865), (vs (st "qf") 866), (vs (st "qr") 867)])
noncomputable def o_479 (P : Params) : Obj := (oT [])
noncomputable def o_480 (P : Params) : Obj := (Obj.mk Value.none none (Data.func (FuncData.mk (st "_law_within") (st "_law_within") (fA 72) (.stmts (fB 72)) (fS 72) 0 [] Value.none Value.none Value.none Value.none none Value.none Value.none 0)) (aT []))
noncomputable def o_481 (P : Params) : Obj := (Obj.mk (Value.type "code") none (Data.fields (aT [(vs (st "_law_within") 855), (vs (st "_law_within") 856), (vs (st "/claim/cut.py") 857), (vi 344 0), (vi 4 0), (vi 0 0), (vi 0 0), (vi 3 0), (vr 425), (Value.bool true), (vi 181 0), (vr 426), Value.none, (vr 427), (vr 428), (vr 429), (vi 868 0), (vi 344 0), (vs (st "/claim/cut.py") 869)])) (aT []))
noncomputable def o_482 (P : Params) : Obj := (Obj.mk (Value.type "function") none (Data.func (FuncData.mk (st "_law_within") (st "_law_within") (fA 72) (.stmts (fB 72)) (fS 72) 3 [] Value.none Value.none Value.none (vs (st "law_nt0443_01") 807) none (vr 430) Value.none 0)) (aT []))
noncomputable def o_483 (P : Params) : Obj := (oT [])
noncomputable def o_484 (P : Params) : Obj := (Obj.mk Value.none none (Data.fields (aT [])) (aT []))
noncomputable def o_485 (P : Params) : Obj := (Obj.mk Value.none none (Data.func (FuncData.mk (st "_law_held") (st "_law_held") (fA 73) (.stmts (fB 73)) (fS 73) 0 [] Value.none Value.none Value.none Value.none none Value.none Value.none 0)) (aT []))
noncomputable def o_486 (P : Params) : Obj := (Obj.mk (Value.type "code") none (Data.fields (aT [(vs (st "_law_held") 871), (vs (st "_law_held") 872), (vs (st "/claim/cut.py") 873), (vi 350 0), (vi 4 0), (vi 0 0), (vi 0 0), (vi 3 0), (vr 432), (Value.bool true), (vi 181 0), (vr 433), Value.none, Value.none, Value.none, (vr 434), (vi 874 0), (vi 350 0), (vs (st "/claim/cut.py") 875)])) (aT []))
noncomputable def o_487 (P : Params) : Obj := (Obj.mk (Value.type "function") none (Data.func (FuncData.mk (st "_law_held") (st "_law_held") (fA 73) (.stmts (fB 73)) (fS 73) 3 [] Value.none Value.none Value.none (vs (st "law_nt0443_01") 807) none (vr 435) Value.none 0)) (aT []))
noncomputable def o_488 (P : Params) : Obj := (oT [])
noncomputable def o_489 (P : Params) : Obj := (Obj.mk Value.none none (Data.fields (aT [])) (aT []))
noncomputable def o_490 (P : Params) : Obj := (Obj.mk Value.none none (Data.func (FuncData.mk (st "law") (st "law") (fA 74) (.stmts (fB 74)) (fS 74) 0 [] Value.none Value.none Value.none Value.none none Value.none Value.none 0)) (aT []))
noncomputable def o_491 (P : Params) : Obj := (Obj.mk (Value.type "code") none (Data.fields (aT [(vs (st "law") 877), (vs (st "law") 878), (vs (st "/claim/cut.py") 879), (vi 363 0), (vi 1 0), (vi 0 0), (vi 0 0), (vi 3 0), (vr 437), (Value.bool true), (vi 181 0), (vr 438), Value.none, Value.none, Value.none, (vr 439), (vi 880 0), (vi 363 0), (vs (st "/claim/cut.py") 881)])) (aT []))
noncomputable def o_492 (P : Params) : Obj := (Obj.mk (Value.type "function") none (Data.func (FuncData.mk (st "law") (st "law") (fA 74) (.stmts (fB 74)) (fS 74) 3 [] Value.none Value.none Value.none (vs (st "law_nt0443_01") 807) none (vr 440) Value.none 0)) (aT []))
noncomputable def tree_47 (P : Params) : BT := (N (boot_o_0 P) (N (boot_o_1 P) (N (boot_o_3 P) (N (boot_o_7 P) L L) (N (o_43 P) L L)) (N (boot_o_5 P) (N (boot_o_9 P) L L) (N (o_45 P) L L))) (N (boot_o_2 P) (N (boot_o_4 P) (N (boot_o_8 P) L L) (N (o_44 P) L L)) (N (boot_o_6 P) (N (boot_o_10 P) L L) (N (o_46 P) L L))))
noncomputable def tree_106 (P : Params) : BT := (N (boot_o_0 P) (N (boot_o_1 P) (N (o_49 P) (N (boot_o_7 P) (N (o_51 P) (N (o_67 P) (N (o_99 P) L L) L) (N (o_83 P) L L)) (N (o_59 P) (N (o_75 P) L L) (N (o_91 P) L L))) (N (o_43 P) (N (o_55 P) (N (o_71 P) (N (o_103 P) L L) L) (N (o_87 P) L L)) (N (o_63 P) (N (o_79 P) L L) (N (o_95 P) L L)))) (N (boot_o_5 P) (N (boot_o_9 P) (N (o_53 P) (N (o_69 P) (N (o_101 P) L L) L) (N (o_85 P) L L)) (N (o_61 P) (N (o_77 P) L L) (N (o_93 P) L L))) (N (o_45 P) (N (o_57 P) (N (o_73 P) (N (o_105 P) L L) L) (N (o_89 P) L L)) (N (o_65 P) (N (o_81 P) L L) (N (o_97 P) L L))))) (N (boot_o_2 P) (N (boot_o_4 P) (N (boot_o_8 P) (N (o_52 P) (N (o_68 P) (N (o_100 P) L L) L) (N (o_84 P) L L)) (N (o_60 P) (N (o_76 P) L L) (N (o_92 P) L L))) (N (o_50 P) (N (o_56 P) (N (o_72 P) (N (o_104 P) L L) L) (N (o_88 P) L L)) (N (o_64 P) (N (o_80 P) L L) (N (o_96 P) L L)))) (N (boot_o_6 P) (N (boot_o_10 P) (N (o_54 P) (N (o_70 P) (N (o_102 P) L L) L) (N (o_86 P) L L)) (N (o_62 P) (N (o_78 P) L L) (N (o_94 P) L L))) (N (o_46 P) (N (o_58 P) (N (o_74 P) (N (o_106 P) L L) L) (N (o_90 P) L L)) (N (o_66 P) (N (o_82 P) L L) (N (o_98 P) L L))))))
noncomputable def tree_131 (P : Params) : BT := (N (boot_o_0 P) (N (boot_o_1 P) (N (o_108 P) (N (boot_o_7 P) (N (o_51 P) (N (o_67 P) (N (o_99 P) L L) L) (N (o_83 P) (N (o_118 P) L L) L)) (N (o_59 P) (N (o_75 P) (N (o_110 P) L L) L) (N (o_91 P) (N (o_126 P) L L) L))) (N (o_43 P) (N (o_55 P) (N (o_71 P) (N (o_103 P) L L) L) (N (o_87 P) (N (o_122 P) L L) L)) (N (o_63 P) (N (o_79 P) (N (o_114 P) L L) L) (N (o_95 P) (N (o_130 P) L L) L)))) (N (boot_o_5 P) (N (boot_o_9 P) (N (o_53 P) (N (o_69 P) (N (o_101 P) L L) L) (N (o_85 P) (N (o_120 P) L L) L)) (N (o_61 P) (N (o_77 P) (N (o_112 P) L L) L) (N (o_93 P) (N (o_128 P) L L) L))) (N (o_45 P) (N (o_57 P) (N (o_73 P) (N (o_105 P) L L) L) (N (o_89 P) (N (o_124 P) L L) L)) (N (o_65 P) (N (o_81 P) (N (o_116 P) L L) L) (N (o_97 P) L L))))) (N (o_107 P) (N (boot_o_4 P) (N (boot_o_8 P) (N (o_52 P) (N (o_68 P) (N (o_100 P) L L) L) (N (o_84 P) (N (o_119 P) L L) L)) (N (o_60 P) (N (o_76 P) (N (o_111 P) L L) L) (N (o_92 P) (N (o_127 P) L L) L))) (N (o_109 P) (N (o_56 P) (N (o_72 P) (N (o_104 P) L L) L) (N (o_88 P) (N (o_123 P) L L) L)) (N (o_64 P) (N (o_80 P) (N (o_115 P) L L) L) (N (o_96 P) (N (o_131 P) L L) L)))) (N (boot_o_6 P) (N (boot_o_10 P) (N (o_54 P) (N (o_70 P) (N (o_102 P) L L) L) (N (o_86 P) (N (o_121 P) L L) L)) (N (o_62 P) (N (o_78 P) (N (o_113 P) L L) L) (N (o_94 P) (N (o_129 P) L L) L))) (N (o_46 P) (N (o_58 P) (N (o_74 P) (N (o_106 P) L L) L) (N (o_90 P) (N (o_125 P) L L) L)) (N (o_66 P) (N (o_82 P) (N (o_117 P) L L) L) (N (o_98 P) L L))))))
noncomputable def tree_189 (P : Params) : BT := (N (boot_o_0 P) (N (boot_o_1 P) (N (o_132 P) (N (boot_o_7 P) (N (o_51 P) (N (o_67 P) (N (o_99 P) (N (o_168 P) L L) L) (N (o_136 P) L L)) (N (o_83 P) (N (o_118 P) (N (o_184 P) L L) L) (N (o_152 P) L L))) (N (o_59 P) (N (o_75 P) (N (o_110 P) (N (o_176 P) L L) L) (N (o_144 P) L L)) (N (o_91 P) (N (o_126 P) L L) (N (o_160 P) L L)))) (N (o_43 P) (N (o_55 P) (N (o_71 P) (N (o_103 P) (N (o_172 P) L L) L) (N (o_140 P) L L)) (N (o_87 P) (N (o_122 P) (N (o_188 P) L L) L) (N (o_156 P) L L))) (N (o_63 P) (N (o_79 P) (N (o_114 P) (N (o_180 P) L L) L) (N (o_148 P) L L)) (N (o_95 P) (N (o_130 P) L L) (N (o_164 P) L L))))) (N (boot_o_5 P) (N (boot_o_9 P) (N (o_53 P) (N (o_69 P) (N (o_101 P) (N (o_170 P) L L) L) (N (o_138 P) L L)) (N (o_85 P) (N (o_120 P) (N (o_186 P) L L) L) (N (o_154 P) L L))) (N (o_61 P) (N (o_77 P) (N (o_112 P) (N (o_178 P) L L) L) (N (o_146 P) L L)) (N (o_93 P) (N (o_128 P) L L) (N (o_162 P) L L)))) (N (o_45 P) (N (o_57 P) (N (o_73 P) (N (o_105 P) (N (o_174 P) L L) L) (N (o_142 P) L L)) (N (o_89 P) (N (o_124 P) L L) (N (o_158 P) L L))) (N (o_65 P) (N (o_81 P) (N (o_116 P) (N (o_182 P) L L) L) (N (o_150 P) L L)) (N (o_97 P) (N (o_134 P) L L) (N (o_166 P) L L)))))) (N (o_107 P) (N (boot_o_4 P) (N (boot_o_8 P) (N (o_52 P) (N (o_68 P) (N (o_100 P) (N (o_169 P) L L) L) (N (o_137 P) L L)) (N (o_84 P) (N (o_119 P) (N (o_185 P) L L) L) (N (o_153 P) L L))) (N (o_60 P) (N (o_76 P) (N (o_111 P) (N (o_177 P) L L) L) (N (o_145 P) L L)) (N (o_92 P) (N (o_127 P) L L) (N (o_161 P) L L)))) (N (o_133 P) (N (o_56 P) (N (o_72 P) (N (o_104 P) (N (o_173 P) L L) L) (N (o_141 P) L L)) (N (o_88 P) (N (o_123 P) (N (o_189 P) L L) L) (N (o_157 P) L L))) (N (o_64 P) (N (o_80 P) (N (o_115 P) (N (o_181 P) L L) L) (N (o_149 P) L L)) (N (o_96 P) (N (o_131 P) L L) (N (o_165 P) L L))))) (N (boot_o_6 P) (N (boot_o_10 P) (N (o_54 P) (N (o_70 P) (N (o_102 P) (N (o_171 P) L L) L) (N (o_139 P) L L)) (N (o_86 P) (N (o_121 P) (N (o_187 P) L L) L) (N (o_155 P) L L))) (N (o_62 P) (N (o_78 P) (N (o_113 P) (N (o_179 P) L L) L) (N (o_147 P) L L)) (N (o_94 P) (N (o_129 P) L L) (N (o_163 P) L L)))) (N (o_46 P) (N (o_58 P) (N (o_74 P) (N (o_106 P) (N (o_175 P) L L) L) (N (o_143 P) L L)) (N (o_90 P) (N (o_125 P) L L) (N (o_159 P) L L))) (N (o_66 P) (N (o_82 P) (N (o_117 P) (N (o_183 P) L L) L) (N (o_151 P) L L)) (N (o_98 P) (N (o_135 P) L L) (N (o_167 P) L L)))))))
noncomputable def tree_254 (P : Params) : BT := (N (boot_o_0 P) (N (boot_o_1 P) (N (o_190 P) (N (boot_o_7 P) (N (o_51 P) (N (o_67 P) (N (o_99 P) (N (o_168 P) L L) (N (o_234 P) L L)) (N (o_136 P) (N (o_202 P) L L) L)) (N (o_83 P) (N (o_118 P) (N (o_184 P) L L) (N (o_250 P) L L)) (N (o_152 P) (N (o_218 P) L L) L))) (N (o_59 P) (N (o_75 P) (N (o_110 P) (N (o_176 P) L L) (N (o_242 P) L L)) (N (o_144 P) (N (o_210 P) L L) L)) (N (o_91 P) (N (o_126 P) (N (o_194 P) L L) L) (N (o_160 P) (N (o_226 P) L L) L)))) (N (o_43 P) (N (o_55 P) (N (o_71 P) (N (o_103 P) (N (o_172 P) L L) (N (o_238 P) L L)) (N (o_140 P) (N (o_206 P) L L) L)) (N (o_87 P) (N (o_122 P) (N (o_188 P) L L) (N (o_254 P) L L)) (N (o_156 P) (N (o_222 P) L L) L))) (N (o_63 P) (N (o_79 P) (N (o_114 P) (N (o_180 P) L L) (N (o_246 P) L L)) (N (o_148 P) (N (o_214 P) L L) L)) (N (o_95 P) (N (o_130 P) (N (o_198 P) L L) L) (N (o_164 P) (N (o_230 P) L L) L))))) (N (boot_o_5 P) (N (boot_o_9 P) (N (o_53 P) (N (o_69 P) (N (o_101 P) (N (o_170 P) L L) (N (o_236 P) L L)) (N (o_138 P) (N (o_204 P) L L) L)) (N (o_85 P) (N (o_120 P) (N (o_186 P) L L) (N (o_252 P) L L)) (N (o_154 P) (N (o_220 P) L L) L))) (N (o_61 P) (N (o_77 P) (N (o_112 P) (N (o_178 P) L L) (N (o_244 P) L L)) (N (o_146 P) (N (o_212 P) L L) L)) (N (o_93 P) (N (o_128 P) (N (o_196 P) L L) L) (N (o_162 P) (N (o_228 P) L L) L)))) (N (o_45 P) (N (o_57 P) (N (o_73 P) (N (o_105 P) (N (o_174 P) L L) (N (o_240 P) L L)) (N (o_142 P) (N (o_208 P) L L) L)) (N (o_89 P) (N (o_124 P) (N (o_192 P) L L) L) (N (o_158 P) (N (o_224 P) L L) L))) (N (o_65 P) (N (o_81 P) (N (o_116 P) (N (o_182 P) L L) (N (o_248 P) L L)) (N (o_150 P) (N (o_216 P) L L) L)) (N (o_97 P) (N (o_134 P) (N (o_200 P) L L) L) (N (o_166 P) (N (o_232 P) L L) L)))))) (N (o_107 P) (N (boot_o_4 P) (N (boot_o_8 P) (N (o_52 P) (N (o_68 P) (N (o_100 P) (N (o_169 P) L L) (N (o_235 P) L L)) (N (o_137 P) (N (o_203 P) L L) L)) (N (o_84 P) (N (o_119 P) (N (o_185 P) L L) (N (o_251 P) L L)) (N (o_153 P) (N (o_219 P) L L) L))) (N (o_60 P) (N (o_76 P) (N (o_111 P) (N (o_177 P) L L) (N (o_243 P) L L)) (N (o_145 P) (N (o_211 P) L L) L)) (N (o_92 P) (N (o_127 P) (N (o_195 P) L L) L) (N (o_161 P) (N (o_227 P) L L) L)))) (N (o_191 P) (N (o_56 P) (N (o_72 P) (N (o_104 P) (N (o_173 P) L L) (N (o_239 P) L L)) (N (o_141 P) (N (o_207 P) L L) L)) (N (o_88 P) (N (o_123 P) (N (o_189 P) L L) L) (N (o_157 P) (N (o_223 P) L L) L))) (N (o_64 P) (N (o_80 P) (N (o_115 P) (N (o_181 P) L L) (N (o_247 P) L L)) (N (o_149 P) (N (o_215 P) L L) L)) (N (o_96 P) (N (o_131 P) (N (o_199 P) L L) L) (N (o_165 P) (N (o_231 P) L L) L))))) (N (boot_o_6 P) (N (boot_o_10 P) (N (o_54 P) (N (o_70 P) (N (o_102 P) (N (o_171 P) L L) (N (o_237 P) L L)) (N (o_139 P) (N (o_205 P) L L) L)) (N (o_86 P) (N (o_121 P) (N (o_187 P) L L) (N (o_253 P) L L)) (N (o_155 P) (N (o_221 P) L L) L))) (N (o_62 P) (N (o_78 P) (N (o_113 P) (N (o_179 P) L L) (N (o_245 P) L L)) (N (o_147 P) (N (o_213 P) L L) L)) (N (o_94 P) (N (o_129 P) (N (o_197 P) L L) L) (N (o_163 P) (N (o_229 P) L L) L)))) (N (o_46 P) (N (o_58 P) (N (o_74 P) (N (o_106 P) (N (o_175 P) L L) (N (o_241 P) L L)) (N (o_143 P) (N (o_209 P) L L) L)) (N (o_90 P) (N (o_125 P) (N (o_193 P) L L) L) (N (o_159 P) (N (o_225 P) L L) L))) (N (o_66 P) (N (o_82 P) (N (o_117 P) (N (o_183 P) L L) (N (o_249 P) L L)) (N (o_151 P) (N (o_217 P) L L) L)) (N (o_98 P) (N (o_135 P) (N (o_201 P) L L) L) (N (o_167 P) (N (o_233 P) L L) L)))))))
noncomputable def tree_312 (P : Params) : BT := (N (boot_o_0 P) (N (boot_o_1 P) (N (o_255 P) (N (boot_o_7 P) (N (o_51 P) (N (o_67 P) (N (o_99 P) (N (o_168 P) (N (o_300 P) L L) L) (N (o_234 P) L L)) (N (o_136 P) (N (o_202 P) L L) (N (o_268 P) L L))) (N (o_83 P) (N (o_118 P) (N (o_184 P) L L) (N (o_250 P) L L)) (N (o_152 P) (N (o_218 P) L L) (N (o_284 P) L L)))) (N (o_59 P) (N (o_75 P) (N (o_110 P) (N (o_176 P) (N (o_308 P) L L) L) (N (o_242 P) L L)) (N (o_144 P) (N (o_210 P) L L) (N (o_276 P) L L))) (N (o_91 P) (N (o_126 P) (N (o_194 P) L L) (N (o_260 P) L L)) (N (o_160 P) (N (o_226 P) L L) (N (o_292 P) L L))))) (N (o_43 P) (N (o_55 P) (N (o_71 P) (N (o_103 P) (N (o_172 P) (N (o_304 P) L L) L) (N (o_238 P) L L)) (N (o_140 P) (N (o_206 P) L L) (N (o_272 P) L L))) (N (o_87 P) (N (o_122 P) (N (o_188 P) L L) (N (o_254 P) L L)) (N (o_156 P) (N (o_222 P) L L) (N (o_288 P) L L)))) (N (o_63 P) (N (o_79 P) (N (o_114 P) (N (o_180 P) (N (o_312 P) L L) L) (N (o_246 P) L L)) (N (o_148 P) (N (o_214 P) L L) (N (o_280 P) L L))) (N (o_95 P) (N (o_130 P) (N (o_198 P) L L) (N (o_264 P) L L)) (N (o_164 P) (N (o_230 P) L L) (N (o_296 P) L L)))))) (N (boot_o_5 P) (N (boot_o_9 P) (N (o_53 P) (N (o_69 P) (N (o_101 P) (N (o_170 P) (N (o_302 P) L L) L) (N (o_236 P) L L)) (N (o_138 P) (N (o_204 P) L L) (N (o_270 P) L L))) (N (o_85 P) (N (o_120 P) (N (o_186 P) L L) (N (o_252 P) L L)) (N (o_154 P) (N (o_220 P) L L) (N (o_286 P) L L)))) (N (o_61 P) (N (o_77 P) (N (o_112 P) (N (o_178 P) (N (o_310 P) L L) L) (N (o_244 P) L L)) (N (o_146 P) (N (o_212 P) L L) (N (o_278 P) L L))) (N (o_93 P) (N (o_128 P) (N (o_196 P) L L) (N (o_262 P) L L)) (N (o_162 P) (N (o_228 P) L L) (N (o_294 P) L L))))) (N (o_45 P) (N (o_57 P) (N (o_73 P) (N (o_105 P) (N (o_174 P) (N (o_306 P) L L) L) (N (o_240 P) L L)) (N (o_142 P) (N (o_208 P) L L) (N (o_274 P) L L))) (N (o_89 P) (N (o_124 P) (N (o_192 P) L L) (N (o_258 P) L L)) (N (o_158 P) (N (o_224 P) L L) (N (o_290 P) L L)))) (N (o_65 P) (N (o_81 P) (N (o_116 P) (N (o_182 P) L L) (N (o_248 P) L L)) (N (o_150 P) (N (o_216 P) L L) (N (o_282 P) L L))) (N (o_97 P) (N (o_134 P) (N (o_200 P) L L) (N (o_266 P) L L)) (N (o_166 P) (N (o_232 P) L L) (N (o_298 P) L L))))))) (N (o_107 P) (N (boot_o_4 P) (N (boot_o_8 P) (N (o_52 P) (N (o_68 P) (N (o_100 P) (N (o_169 P) (N (o_301 P) L L) L) (N (o_235 P) L L)) (N (o_137 P) (N (o_203 P) L L) (N (o_269 P) L L))) (N (o_84 P) (N (o_119 P) (N (o_185 P) L L) (N (o_251 P) L L)) (N (o_153 P) (N (o_219 P) L L) (N (o_285 P) L L)))) (N (o_60 P) (N (o_76 P) (N (o_111 P) (N (o_177 P) (N (o_309 P) L L) L) (N (o_243 P) L L)) (N (o_145 P) (N (o_211 P) L L) (N (o_277 P) L L))) (N (o_92 P) (N (o_127 P) (N (o_195 P) L L) (N (o_261 P) L L)) (N (o_161 P) (N (o_227 P) L L) (N (o_293 P) L L))))) (N (o_256 P) (N (o_56 P) (N (o_72 P) (N (o_104 P) (N (o_173 P) (N (o_305 P) L L) L) (N (o_239 P) L L)) (N (o_141 P) (N (o_207 P) L L) (N (o_273 P) L L))) (N (o_88 P) (N (o_123 P) (N (o_189 P) L L) (N (o_257 P) L L)) (N (o_157 P) (N (o_223 P) L L) (N (o_289 P) L L)))) (N (o_64 P) (N (o_80 P) (N (o_115 P) (N (o_181 P) L L) (N (o_247 P) L L)) (N (o_149 P) (N (o_215 P) L L) (N (o_281 P) L L))) (N (o_96 P) (N (o_131 P) (N (o_199 P) L L) (N (o_265 P) L L)) (N (o_165 P) (N (o_231 P) L L) (N (o_297 P) L L)))))) (N (boot_o_6 P) (N (boot_o_10 P) (N (o_54 P) (N (o_70 P) (N (o_102 P) (N (o_171 P) (N (o_303 P) L L) L) (N (o_237 P) L L)) (N (o_139 P) (N (o_205 P) L L) (N (o_271 P) L L))) (N (o_86 P) (N (o_121 P) (N (o_187 P) L L) (N (o_253 P) L L)) (N (o_155 P) (N (o_221 P) L L) (N (o_287 P) L L)))) (N (o_62 P) (N (o_78 P) (N (o_113 P) (N (o_179 P) (N (o_311 P) L L) L) (N (o_245 P) L L)) (N (o_147 P) (N (o_213 P) L L) (N (o_279 P) L L))) (N (o_94 P) (N (o_129 P) (N (o_197 P) L L) (N (o_263 P) L L)) (N (o_163 P) (N (o_229 P) L L) (N (o_295 P) L L))))) (N (o_46 P) (N (o_58 P) (N (o_74 P) (N (o_106 P) (N (o_175 P) (N (o_307 P) L L) L) (N (o_241 P) L L)) (N (o_143 P) (N (o_209 P) L L) (N (o_275 P) L L))) (N (o_90 P) (N (o_125 P) (N (o_193 P) L L) (N (o_259 P) L L)) (N (o_159 P) (N (o_225 P) L L) (N (o_291 P) L L)))) (N (o_66 P) (N (o_82 P) (N (o_117 P) (N (o_183 P) L L) (N (o_249 P) L L)) (N (o_151 P) (N (o_217 P) L L) (N (o_283 P) L L))) (N (o_98 P) (N (o_135 P) (N (o_201 P) L L) (N (o_267 P) L L)) (N (o_167 P) (N (o_233 P) L L) (N (o_299 P) L L))))))))
noncomputable def tree_398 (P : Params) : BT := (N (boot_o_0 P) (N (boot_o_1 P) (N (o_313 P) (N (boot_o_7 P) (N (o_51 P) (N (o_67 P) (N (o_99 P) (N (o_168 P) (N (o_300 P) L L) L) (N (o_234 P) (N (o_366 P) L L) L)) (N (o_136 P) (N (o_202 P) (N (o_334 P) L L) L) (N (o_268 P) (N (o_398 P) L L) L))) (N (o_83 P) (N (o_118 P) (N (o_184 P) (N (o_318 P) L L) L) (N (o_250 P) (N (o_382 P) L L) L)) (N (o_152 P) (N (o_218 P) (N (o_350 P) L L) L) (N (o_284 P) L L)))) (N (o_59 P) (N (o_75 P) (N (o_110 P) (N (o_176 P) (N (o_308 P) L L) L) (N (o_242 P) (N (o_374 P) L L) L)) (N (o_144 P) (N (o_210 P) (N (o_342 P) L L) L) (N (o_276 P) L L))) (N (o_91 P) (N (o_126 P) (N (o_194 P) (N (o_326 P) L L) L) (N (o_260 P) (N (o_390 P) L L) L)) (N (o_160 P) (N (o_226 P) (N (o_358 P) L L) L) (N (o_292 P) L L))))) (N (o_43 P) (N (o_55 P) (N (o_71 P) (N (o_103 P) (N (o_172 P) (N (o_304 P) L L) L) (N (o_238 P) (N (o_370 P) L L) L)) (N (o_140 P) (N (o_206 P) (N (o_338 P) L L) L) (N (o_272 P) L L))) (N (o_87 P) (N (o_122 P) (N (o_188 P) (N (o_322 P) L L) L) (N (o_254 P) (N (o_386 P) L L) L)) (N (o_156 P) (N (o_222 P) (N (o_354 P) L L) L) (N (o_288 P) L L)))) (N (o_63 P) (N (o_79 P) (N (o_114 P) (N (o_180 P) (N (o_312 P) L L) L) (N (o_246 P) (N (o_378 P) L L) L)) (N (o_148 P) (N (o_214 P) (N (o_346 P) L L) L) (N (o_280 P) L L))) (N (o_95 P) (N (o_130 P) (N (o_198 P) (N (o_330 P) L L) L) (N (o_264 P) (N (o_394 P) L L) L)) (N (o_164 P) (N (o_230 P) (N (o_362 P) L L) L) (N (o_296 P) L L)))))) (N (boot_o_5 P) (N (boot_o_9 P) (N (o_53 P) (N (o_69 P) (N (o_101 P) (N (o_170 P) (N (o_302 P) L L) L) (N (o_236 P) (N (o_368 P) L L) L)) (N (o_138 P) (N (o_204 P) (N (o_336 P) L L) L) (N (o_270 P) L L))) (N (o_85 P) (N (o_120 P) (N (o_186 P) (N (o_320 P) L L) L) (N (o_252 P) (N (o_384 P) L L) L)) (N (o_154 P) (N (o_220 P) (N (o_352 P) L L) L) (N (o_286 P) L L)))) (N (o_61 P) (N (o_77 P) (N (o_112 P) (N (o_178 P) (N (o_310 P) L L) L) (N (o_244 P) (N (o_376 P) L L) L)) (N (o_146 P) (N (o_212 P) (N (o_344 P) L L) L) (N (o_278 P) L L))) (N (o_93 P) (N (o_128 P) (N (o_196 P) (N (o_328 P) L L) L) (N (o_262 P) (N (o_392 P) L L) L)) (N (o_162 P) (N (o_228 P) (N (o_360 P) L L) L) (N (o_294 P) L L))))) (N (o_45 P) (N (o_57 P) (N (o_73 P) (N (o_105 P) (N (o_174 P) (N (o_306 P) L L) L) (N (o_240 P) (N (o_372 P) L L) L)) (N (o_142 P) (N (o_208 P) (N (o_340 P) L L) L) (N (o_274 P) L L))) (N (o_89 P) (N (o_124 P) (N (o_192 P) (N (o_324 P) L L) L) (N (o_258 P) (N (o_388 P) L L) L)) (N (o_158 P) (N (o_224 P) (N (o_356 P) L L) L) (N (o_290 P) L L)))) (N (o_65 P) (N (o_81 P) (N (o_116 P) (N (o_182 P) (N (o_316 P) L L) L) (N (o_248 P) (N (o_380 P) L L) L)) (N (o_150 P) (N (o_216 P) (N (o_348 P) L L) L) (N (o_282 P) L L))) (N (o_97 P) (N (o_134 P) (N (o_200 P) (N (o_332 P) L L) L) (N (o_266 P) (N (o_396 P) L L) L)) (N (o_166 P) (N (o_232 P) (N (o_364 P) L L) L) (N (o_298 P) L L))))))) (N (o_107 P) (N (boot_o_4 P) (N (boot_o_8 P) (N (o_52 P) (N (o_68 P) (N (o_100 P) (N (o_169 P) (N (o_301 P) L L) L) (N (o_235 P) (N (o_367 P) L L) L)) (N (o_137 P) (N (o_203 P) (N (o_335 P) L L) L) (N (o_269 P) L L))) (N (o_84 P) (N (o_119 P) (N (o_185 P) (N (o_319 P) L L) L) (N (o_251 P) (N (o_383 P) L L) L)) (N (o_153 P) (N (o_219 P) (N (o_351 P) L L) L) (N (o_285 P) L L)))) (N (o_60 P) (N (o_76 P) (N (o_111 P) (N (o_177 P) (N (o_309 P) L L) L) (N (o_243 P) (N (o_375 P) L L) L)) (N (o_145 P) (N (o_211 P) (N (o_343 P) L L) L) (N (o_277 P) L L))) (N (o_92 P) (N (o_127 P) (N (o_195 P) (N (o_327 P) L L) L) (N (o_261 P) (N (o_391 P) L L) L)) (N (o_161 P) (N (o_227 P) (N (o_359 P) L L) L) (N (o_293 P) L L))))) (N (o_314 P) (N (o_56 P) (N (o_72 P) (N (o_104 P) (N (o_173 P) (N (o_305 P) L L) L) (N (o_239 P) (N (o_371 P) L L) L)) (N (o_141 P) (N (o_207 P) (N (o_339 P) L L) L) (N (o_273 P) L L))) (N (o_88 P) (N (o_123 P) (N (o_189 P) (N (o_323 P) L L) L) (N (o_257 P) (N (o_387 P) L L) L)) (N (o_157 P) (N (o_223 P) (N (o_355 P) L L) L) (N (o_289 P) L L)))) (N (o_64 P) (N (o_80 P) (N (o_115 P) (N (o_181 P) (N (o_315 P) L L) L) (N (o_247 P) (N (o_379 P) L L) L)) (N (o_149 P) (N (o_215 P) (N (o_347 P) L L) L) (N (o_281 P) L L))) (N (o_96 P) (N (o_131 P) (N (o_199 P) (N (o_331 P) L L) L) (N (o_265 P) (N (o_395 P) L L) L)) (N (o_165 P) (N (o_231 P) (N (o_363 P) L L) L) (N (o_297 P) L L)))))) (N (boot_o_6 P) (N (boot_o_10 P) (N (o_54 P) (N (o_70 P) (N (o_102 P) (N (o_171 P) (N (o_303 P) L L) L) (N (o_237 P) (N (o_369 P) L L) L)) (N (o_139 P) (N (o_205 P) (N (o_337 P) L L) L) (N (o_271 P) L L))) (N (o_86 P) (N (o_121 P) (N (o_187 P) (N (o_321 P) L L) L) (N (o_253 P) (N (o_385 P) L L) L)) (N (o_155 P) (N (o_221 P) (N (o_353 P) L L) L) (N (o_287 P) L L)))) (N (o_62 P) (N (o_78 P) (N (o_113 P) (N (o_179 P) (N (o_311 P) L L) L) (N (o_245 P) (N (o_377 P) L L) L)) (N (o_147 P) (N (o_213 P) (N (o_345 P) L L) L) (N (o_279 P) L L))) (N (o_94 P) (N (o_129 P) (N (o_197 P) (N (o_329 P) L L) L) (N (o_263 P) (N (o_393 P) L L) L)) (N (o_163 P) (N (o_229 P) (N (o_361 P) L L) L) (N (o_295 P) L L))))) (N (o_46 P) (N (o_58 P) (N (o_74 P) (N (o_106 P) (N (o_175 P) (N (o_307 P) L L) L) (N (o_241 P) (N (o_373 P) L L) L)) (N (o_143 P) (N (o_209 P) (N (o_341 P) L L) L) (N (o_275 P) L L))) (N (o_90 P) (N (o_125 P) (N (o_193 P) (N (o_325 P) L L) L) (N (o_259 P) (N (o_389 P) L L) L)) (N (o_159 P) (N (o_225 P) (N (o_357 P) L L) L) (N (o_291 P) L L)))) (N (o_66 P) (N (o_82 P) (N (o_117 P) (N (o_183 P) (N (o_317 P) L L) L) (N (o_249 P) (N (o_381 P) L L) L)) (N (o_151 P) (N (o_217 P) (N (o_349 P) L L) L) (N (o_283 P) L L))) (N (o_98 P) (N (o_135 P) (N (o_201 P) (N (o_333 P) L L) L) (N (o_267 P) (N (o_397 P) L L) L)) (N (o_167 P) (N (o_233 P) (N (o_365 P) L L) L) (N (o_299 P) L L))))))))
noncomputable def tree_454 (P : Params) : BT := (N (boot_o_0 P) (N (boot_o_1 P) (N (o_399 P) (N (boot_o_7 P) (N (o_51 P) (N (o_67 P) (N (o_99 P) (N (o_168 P) (N (o_300 P) L L) (N (o_432 P) L L)) (N (o_234 P) (N (o_366 P) L L) L)) (N (o_136 P) (N (o_202 P) (N (o_334 P) L L) L) (N (o_268 P) (N (o_398 P) L L) L))) (N (o_83 P) (N (o_118 P) (N (o_184 P) (N (o_318 P) L L) (N (o_448 P) L L)) (N (o_250 P) (N (o_382 P) L L) L)) (N (o_152 P) (N (o_218 P) (N (o_350 P) L L) L) (N (o_284 P) (N (o_416 P) L L) L)))) (N (o_59 P) (N (o_75 P) (N (o_110 P) (N (o_176 P) (N (o_308 P) L L) (N (o_440 P) L L)) (N (o_242 P) (N (o_374 P) L L) L)) (N (o_144 P) (N (o_210 P) (N (o_342 P) L L) L) (N (o_276 P) (N (o_408 P) L L) L))) (N (o_91 P) (N (o_126 P) (N (o_194 P) (N (o_326 P) L L) L) (N (o_260 P) (N (o_390 P) L L) L)) (N (o_160 P) (N (o_226 P) (N (o_358 P) L L) L) (N (o_292 P) (N (o_424 P) L L) L))))) (N (o_43 P) (N (o_55 P) (N (o_71 P) (N (o_103 P) (N (o_172 P) (N (o_304 P) L L) (N (o_436 P) L L)) (N (o_238 P) (N (o_370 P) L L) L)) (N (o_140 P) (N (o_206 P) (N (o_338 P) L L) L) (N (o_272 P) (N (o_404 P) L L) L))) (N (o_87 P) (N (o_122 P) (N (o_188 P) (N (o_322 P) L L) (N (o_452 P) L L)) (N (o_254 P) (N (o_386 P) L L) L)) (N (o_156 P) (N (o_222 P) (N (o_354 P) L L) L) (N (o_288 P) (N (o_420 P) L L) L)))) (N (o_63 P) (N (o_79 P) (N (o_114 P) (N (o_180 P) (N (o_312 P) L L) (N (o_444 P) L L)) (N (o_246 P) (N (o_378 P) L L) L)) (N (o_148 P) (N (o_214 P) (N (o_346 P) L L) L) (N (o_280 P) (N (o_412 P) L L) L))) (N (o_95 P) (N (o_130 P) (N (o_198 P) (N (o_330 P) L L) L) (N (o_264 P) (N (o_394 P) L L) L)) (N (o_164 P) (N (o_230 P) (N (o_362 P) L L) L) (N (o_296 P) (N (o_428 P) L L) L)))))) (N (boot_o_5 P) (N (boot_o_9 P) (N (o_53 P) (N (o_69 P) (N (o_101 P) (N (o_170 P) (N (o_302 P) L L) (N (o_434 P) L L)) (N (o_236 P) (N (o_368 P) L L) L)) (N (o_138 P) (N (o_204 P) (N (o_336 P) L L) L) (N (o_270 P) (N (o_402 P) L L) L))) (N (o_85 P) (N (o_120 P) (N (o_186 P) (N (o_320 P) L L) (N (o_450 P) L L)) (N (o_252 P) (N (o_384 P) L L) L)) (N (o_154 P) (N (o_220 P) (N (o_352 P) L L) L) (N (o_286 P) (N (o_418 P) L L) L)))) (N (o_61 P) (N (o_77 P) (N (o_112 P) (N (o_178 P) (N (o_310 P) L L) (N (o_442 P) L L)) (N (o_244 P) (N (o_376 P) L L) L)) (N (o_146 P) (N (o_212 P) (N (o_344 P) L L) L) (N (o_278 P) (N (o_410 P) L L) L))) (N (o_93 P) (N (o_128 P) (N (o_196 P) (N (o_328 P) L L) L) (N (o_262 P) (N (o_392 P) L L) L)) (N (o_162 P) (N (o_228 P) (N (o_360 P) L L) L) (N (o_294 P) (N (o_426 P) L L) L))))) (N (o_45 P) (N (o_57 P) (N (o_73 P) (N (o_105 P) (N (o_174 P) (N (o_306 P) L L) (N (o_438 P) L L)) (N (o_240 P) (N (o_372 P) L L) L)) (N (o_142 P) (N (o_208 P) (N (o_340 P) L L) L) (N (o_274 P) (N (o_406 P) L L) L))) (N (o_89 P) (N (o_124 P) (N (o_192 P) (N (o_324 P) L L) (N (o_454 P) L L)) (N (o_258 P) (N (o_388 P) L L) L)) (N (o_158 P) (N (o_224 P) (N (o_356 P) L L) L) (N (o_290 P) (N (o_422 P) L L) L)))) (N (o_65 P) (N (o_81 P) (N (o_116 P) (N (o_182 P) (N (o_316 P) L L) (N (o_446 P) L L)) (N (o_248 P) (N (o_380 P) L L) L)) (N (o_150 P) (N (o_216 P) (N (o_348 P) L L) L) (N (o_282 P) (N (o_414 P) L L) L))) (N (o_97 P) (N (o_134 P) (N (o_200 P) (N (o_332 P) L L) L) (N (o_266 P) (N (o_396 P) L L) L)) (N (o_166 P) (N (o_232 P) (N (o_364 P) L L) L) (N (o_298 P) (N (o_430 P) L L) L))))))) (N (o_107 P) (N (boot_o_4 P) (N (boot_o_8 P) (N (o_52 P) (N (o_68 P) (N (o_100 P) (N (o_169 P) (N (o_301 P) L L) (N (o_433 P) L L)) (N (o_235 P) (N (o_367 P) L L) L)) (N (o_137 P) (N (o_203 P) (N (o_335 P) L L) L) (N (o_269 P) (N (o_401 P) L L) L))) (N (o_84 P) (N (o_119 P) (N (o_185 P) (N (o_319 P) L L) (N (o_449 P) L L)) (N (o_251 P) (N (o_383 P) L L) L)) (N (o_153 P) (N (o_219 P) (N (o_351 P) L L) L) (N (o_285 P) (N (o_417 P) L L) L)))) (N (o_60 P) (N (o_76 P) (N (o_111 P) (N (o_177 P) (N (o_309 P) L L) (N (o_441 P) L L)) (N (o_243 P) (N (o_375 P) L L) L)) (N (o_145 P) (N (o_211 P) (N (o_343 P) L L) L) (N (o_277 P) (N (o_409 P) L L) L))) (N (o_92 P) (N (o_127 P) (N (o_195 P) (N (o_327 P) L L) L) (N (o_261 P) (N (o_391 P) L L) L)) (N (o_161 P) (N (o_227 P) (N (o_359 P) L L) L) (N (o_293 P) (N (o_425 P) L L) L))))) (N (o_400 P) (N (o_56 P) (N (o_72 P) (N (o_104 P) (N (o_173 P) (N (o_305 P) L L) (N (o_437 P) L L)) (N (o_239 P) (N (o_371 P) L L) L)) (N (o_141 P) (N (o_207 P) (N (o_339 P) L L) L) (N (o_273 P) (N (o_405 P) L L) L))) (N (o_88 P) (N (o_123 P) (N (o_189 P) (N (o_323 P) L L) (N (o_453 P) L L)) (N (o_257 P) (N (o_387 P) L L) L)) (N (o_157 P) (N (o_223 P) (N (o_355 P) L L) L) (N (o_289 P) (N (o_421 P) L L) L)))) (N (o_64 P) (N (o_80 P) (N (o_115 P) (N (o_181 P) (N (o_315 P) L L) (N (o_445 P) L L)) (N (o_247 P) (N (o_379 P) L L) L)) (N (o_149 P) (N (o_215 P) (N (o_347 P) L L) L) (N (o_281 P) (N (o_413 P) L L) L))) (N (o_96 P) (N (o_131 P) (N (o_199 P) (N (o_331 P) L L) L) (N (o_265 P) (N (o_395 P) L L) L)) (N (o_165 P) (N (o_231 P) (N (o_363 P) L L) L) (N (o_297 P) (N (o_429 P) L L) L)))))) (N (boot_o_6 P) (N (boot_o_10 P) (N (o_54 P) (N (o_70 P) (N (o_102 P) (N (o_171 P) (N (o_303 P) L L) (N (o_435 P) L L)) (N (o_237 P) (N (o_369 P) L L) L)) (N (o_139 P) (N (o_205 P) (N (o_337 P) L L) L) (N (o_271 P) (N (o_403 P) L L) L))) (N (o_86 P) (N (o_121 P) (N (o_187 P) (N (o_321 P) L L) (N (o_451 P) L L)) (N (o_253 P) (N (o_385 P) L L) L)) (N (o_155 P) (N (o_221 P) (N (o_353 P) L L) L) (N (o_287 P) (N (o_419 P) L L) L)))) (N (o_62 P) (N (o_78 P) (N (o_113 P) (N (o_179 P) (N (o_311 P) L L) (N (o_443 P) L L)) (N (o_245 P) (N (o_377 P) L L) L)) (N (o_147 P) (N (o_213 P) (N (o_345 P) L L) L) (N (o_279 P) (N (o_411 P) L L) L))) (N (o_94 P) (N (o_129 P) (N (o_197 P) (N (o_329 P) L L) L) (N (o_263 P) (N (o_393 P) L L) L)) (N (o_163 P) (N (o_229 P) (N (o_361 P) L L) L) (N (o_295 P) (N (o_427 P) L L) L))))) (N (o_46 P) (N (o_58 P) (N (o_74 P) (N (o_106 P) (N (o_175 P) (N (o_307 P) L L) (N (o_439 P) L L)) (N (o_241 P) (N (o_373 P) L L) L)) (N (o_143 P) (N (o_209 P) (N (o_341 P) L L) L) (N (o_275 P) (N (o_407 P) L L) L))) (N (o_90 P) (N (o_125 P) (N (o_193 P) (N (o_325 P) L L) L) (N (o_259 P) (N (o_389 P) L L) L)) (N (o_159 P) (N (o_225 P) (N (o_357 P) L L) L) (N (o_291 P) (N (o_423 P) L L) L)))) (N (o_66 P) (N (o_82 P) (N (o_117 P) (N (o_183 P) (N (o_317 P) L L) (N (o_447 P) L L)) (N (o_249 P) (N (o_381 P) L L) L)) (N (o_151 P) (N (o_217 P) (N (o_349 P) L L) L) (N (o_283 P) (N (o_415 P) L L) L))) (N (o_98 P) (N (o_135 P) (N (o_201 P) (N (o_333 P) L L) L) (N (o_267 P) (N (o_397 P) L L) L)) (N (o_167 P) (N (o_233 P) (N (o_365 P) L L) L) (N (o_299 P) (N (o_431 P) L L) L))))))))
noncomputable def tree_492 (P : Params) : BT := (N (boot_o_0 P) (N (boot_o_1 P) (N (o_455 P) (N (boot_o_7 P) (N (o_51 P) (N (o_67 P) (N (o_99 P) (N (o_168 P) (N (o_300 P) L L) (N (o_432 P) L L)) (N (o_234 P) (N (o_366 P) L L) L)) (N (o_136 P) (N (o_202 P) (N (o_334 P) L L) (N (o_466 P) L L)) (N (o_268 P) (N (o_398 P) L L) L))) (N (o_83 P) (N (o_118 P) (N (o_184 P) (N (o_318 P) L L) (N (o_448 P) L L)) (N (o_250 P) (N (o_382 P) L L) L)) (N (o_152 P) (N (o_218 P) (N (o_350 P) L L) (N (o_482 P) L L)) (N (o_284 P) (N (o_416 P) L L) L)))) (N (o_59 P) (N (o_75 P) (N (o_110 P) (N (o_176 P) (N (o_308 P) L L) (N (o_440 P) L L)) (N (o_242 P) (N (o_374 P) L L) L)) (N (o_144 P) (N (o_210 P) (N (o_342 P) L L) (N (o_474 P) L L)) (N (o_276 P) (N (o_408 P) L L) L))) (N (o_91 P) (N (o_126 P) (N (o_194 P) (N (o_326 P) L L) (N (o_458 P) L L)) (N (o_260 P) (N (o_390 P) L L) L)) (N (o_160 P) (N (o_226 P) (N (o_358 P) L L) (N (o_490 P) L L)) (N (o_292 P) (N (o_424 P) L L) L))))) (N (o_43 P) (N (o_55 P) (N (o_71 P) (N (o_103 P) (N (o_172 P) (N (o_304 P) L L) (N (o_436 P) L L)) (N (o_238 P) (N (o_370 P) L L) L)) (N (o_140 P) (N (o_206 P) (N (o_338 P) L L) (N (o_470 P) L L)) (N (o_272 P) (N (o_404 P) L L) L))) (N (o_87 P) (N (o_122 P) (N (o_188 P) (N (o_322 P) L L) (N (o_452 P) L L)) (N (o_254 P) (N (o_386 P) L L) L)) (N (o_156 P) (N (o_222 P) (N (o_354 P) L L) (N (o_486 P) L L)) (N (o_288 P) (N (o_420 P) L L) L)))) (N (o_63 P) (N (o_79 P) (N (o_114 P) (N (o_180 P) (N (o_312 P) L L) (N (o_444 P) L L)) (N (o_246 P) (N (o_378 P) L L) L)) (N (o_148 P) (N (o_214 P) (N (o_346 P) L L) (N (o_478 P) L L)) (N (o_280 P) (N (o_412 P) L L) L))) (N (o_95 P) (N (o_130 P) (N (o_198 P) (N (o_330 P) L L) (N (o_462 P) L L)) (N (o_264 P) (N (o_394 P) L L) L)) (N (o_164 P) (N (o_230 P) (N (o_362 P) L L) L) (N (o_296 P) (N (o_428 P) L L) L)))))) (N (boot_o_5 P) (N (boot_o_9 P) (N (o_53 P) (N (o_69 P) (N (o_101 P) (N (o_170 P) (N (o_302 P) L L) (N (o_434 P) L L)) (N (o_236 P) (N (o_368 P) L L) L)) (N (o_138 P) (N (o_204 P) (N (o_336 P) L L) (N (o_468 P) L L)) (N (o_270 P) (N (o_402 P) L L) L))) (N (o_85 P) (N (o_120 P) (N (o_186 P) (N (o_320 P) L L) (N (o_450 P) L L)) (N (o_252 P) (N (o_384 P) L L) L)) (N (o_154 P) (N (o_220 P) (N (o_352 P) L L) (N (o_484 P) L L)) (N (o_286 P) (N (o_418 P) L L) L)))) (N (o_61 P) (N (o_77 P) (N (o_112 P) (N (o_178 P) (N (o_310 P) L L) (N (o_442 P) L L)) (N (o_244 P) (N (o_376 P) L L) L)) (N (o_146 P) (N (o_212 P) (N (o_344 P) L L) (N (o_476 P) L L)) (N (o_278 P) (N (o_410 P) L L) L))) (N (o_93 P) (N (o_128 P) (N (o_196 P) (N (o_328 P) L L) (N (o_460 P) L L)) (N (o_262 P) (N (o_392 P) L L) L)) (N (o_162 P) (N (o_228 P) (N (o_360 P) L L) (N (o_492 P) L L)) (N (o_294 P) (N (o_426 P) L L) L))))) (N (o_45 P) (N (o_57 P) (N (o_73 P) (N (o_105 P) (N (o_174 P) (N (o_306 P) L L) (N (o_438 P) L L)) (N (o_240 P) (N (o_372 P) L L) L)) (N (o_142 P) (N (o_208 P) (N (o_340 P) L L) (N (o_472 P) L L)) (N (o_274 P) (N (o_406 P) L L) L))) (N (o_89 P) (N (o_124 P) (N (o_192 P) (N (o_324 P) L L) (N (o_454 P) L L)) (N (o_258 P) (N (o_388 P) L L) L)) (N (o_158 P) (N (o_224 P) (N (o_356 P) L L) (N (o_488 P) L L)) (N (o_290 P) (N (o_422 P) L L) L)))) (N (o_65 P) (N (o_81 P) (N (o_116 P) (N (o_182 P) (N (o_316 P) L L) (N (o_446 P) L L)) (N (o_248 P) (N (o_380 P) L L) L)) (N (o_150 P) (N (o_216 P) (N (o_348 P) L L) (N (o_480 P) L L)) (N (o_282 P) (N (o_414 P) L L) L))) (N (o_97 P) (N (o_134 P) (N (o_200 P) (N (o_332 P) L L) (N (o_464 P) L L)) (N (o_266 P) (N (o_396 P) L L) L)) (N (o_166 P) (N (o_232 P) (N (o_364 P) L L) L) (N (o_298 P) (N (o_430 P) L L) L))))))) (N (o_107 P) (N (boot_o_4 P) (N (boot_o_8 P) (N (o_52 P) (N (o_68 P) (N (o_100 P) (N (o_169 P) (N (o_301 P) L L) (N (o_433 P) L L)) (N (o_235 P) (N (o_367 P) L L) L)) (N (o_137 P) (N (o_203 P) (N (o_335 P) L L) (N (o_467 P) L L)) (N (o_269 P) (N (o_401 P) L L) L))) (N (o_84 P) (N (o_119 P) (N (o_185 P) (N (o_319 P) L L) (N (o_449 P) L L)) (N (o_251 P) (N (o_383 P) L L) L)) (N (o_153 P) (N (o_219 P) (N (o_351 P) L L) (N (o_483 P) L L)) (N (o_285 P) (N (o_417 P) L L) L)))) (N (o_60 P) (N (o_76 P) (N (o_111 P) (N (o_177 P) (N (o_309 P) L L) (N (o_441 P) L L)) (N (o_243 P) (N (o_375 P) L L) L)) (N (o_145 P) (N (o_211 P) (N (o_343 P) L L) (N (o_475 P) L L)) (N (o_277 P) (N (o_409 P) L L) L))) (N (o_92 P) (N (o_127 P) (N (o_195 P) (N (o_327 P) L L) (N (o_459 P) L L)) (N (o_261 P) (N (o_391 P) L L) L)) (N (o_161 P) (N (o_227 P) (N (o_359 P) L L) (N (o_491 P) L L)) (N (o_293 P) (N (o_425 P) L L) L))))) (N (o_456 P) (N (o_56 P) (N (o_72 P) (N (o_104 P) (N (o_173 P) (N (o_305 P) L L) (N (o_437 P) L L)) (N (o_239 P) (N (o_371 P) L L) L)) (N (o_141 P) (N (o_207 P) (N (o_339 P) L L) (N (o_471 P) L L)) (N (o_273 P) (N (o_405 P) L L) L))) (N (o_88 P) (N (o_123 P) (N (o_189 P) (N (o_323 P) L L) (N (o_453 P) L L)) (N (o_257 P) (N (o_387 P) L L) L)) (N (o_157 P) (N (o_223 P) (N (o_355 P) L L) (N (o_487 P) L L)) (N (o_289 P) (N (o_421 P) L L) L)))) (N (o_64 P) (N (o_80 P) (N (o_115 P) (N (o_181 P) (N (o_315 P) L L) (N (o_445 P) L L)) (N (o_247 P) (N (o_379 P) L L) L)) (N (o_149 P) (N (o_215 P) (N (o_347 P) L L) (N (o_479 P) L L)) (N (o_281 P) (N (o_413 P) L L) L))) (N (o_96 P) (N (o_131 P) (N (o_199 P) (N (o_331 P) L L) (N (o_463 P) L L)) (N (o_265 P) (N (o_395 P) L L) L)) (N (o_165 P) (N (o_231 P) (N (o_363 P) L L) L) (N (o_297 P) (N (o_429 P) L L) L)))))) (N (boot_o_6 P) (N (boot_o_10 P) (N (o_54 P) (N (o_70 P) (N (o_102 P) (N (o_171 P) (N (o_303 P) L L) (N (o_435 P) L L)) (N (o_237 P) (N (o_369 P) L L) L)) (N (o_139 P) (N (o_205 P) (N (o_337 P) L L) (N (o_469 P) L L)) (N (o_271 P) (N (o_403 P) L L) L))) (N (o_86 P) (N (o_121 P) (N (o_187 P) (N (o_321 P) L L) (N (o_451 P) L L)) (N (o_253 P) (N (o_385 P) L L) L)) (N (o_155 P) (N (o_221 P) (N (o_353 P) L L) (N (o_485 P) L L)) (N (o_287 P) (N (o_419 P) L L) L)))) (N (o_62 P) (N (o_78 P) (N (o_113 P) (N (o_179 P) (N (o_311 P) L L) (N (o_443 P) L L)) (N (o_245 P) (N (o_377 P) L L) L)) (N (o_147 P) (N (o_213 P) (N (o_345 P) L L) (N (o_477 P) L L)) (N (o_279 P) (N (o_411 P) L L) L))) (N (o_94 P) (N (o_129 P) (N (o_197 P) (N (o_329 P) L L) (N (o_461 P) L L)) (N (o_263 P) (N (o_393 P) L L) L)) (N (o_163 P) (N (o_229 P) (N (o_361 P) L L) L) (N (o_295 P) (N (o_427 P) L L) L))))) (N (o_46 P) (N (o_58 P) (N (o_74 P) (N (o_106 P) (N (o_175 P) (N (o_307 P) L L) (N (o_439 P) L L)) (N (o_241 P) (N (o_373 P) L L) L)) (N (o_143 P) (N (o_209 P) (N (o_341 P) L L) (N (o_473 P) L L)) (N (o_275 P) (N (o_407 P) L L) L))) (N (o_90 P) (N (o_125 P) (N (o_193 P) (N (o_325 P) L L) (N (o_457 P) L L)) (N (o_259 P) (N (o_389 P) L L) L)) (N (o_159 P) (N (o_225 P) (N (o_357 P) L L) (N (o_489 P) L L)) (N (o_291 P) (N (o_423 P) L L) L)))) (N (o_66 P) (N (o_82 P) (N (o_117 P) (N (o_183 P) (N (o_317 P) L L) (N (o_447 P) L L)) (N (o_249 P) (N (o_381 P) L L) L)) (N (o_151 P) (N (o_217 P) (N (o_349 P) L L) (N (o_481 P) L L)) (N (o_283 P) (N (o_415 P) L L) L))) (N (o_98 P) (N (o_135 P) (N (o_201 P) (N (o_333 P) L L) (N (o_465 P) L L)) (N (o_267 P) (N (o_397 P) L L) L)) (N (o_167 P) (N (o_233 P) (N (o_365 P) L L) L) (N (o_299 P) (N (o_431 P) L L) L))))))))
noncomputable def heap_46 (P : Params) : Heap := (Heap.mk (Array.mk [(boot_o_0 P), (boot_o_1 P), (boot_o_2 P), (boot_o_3 P), (boot_o_4 P), (boot_o_5 P), (boot_o_6 P), (boot_o_7 P), (boot_o_8 P), (boot_o_9 P), (boot_o_10 P), (o_43 P), (o_44 P), (o_45 P), (o_46 P)]) {})
noncomputable def heap_493 (P : Params) : Heap := (Heap.mk (Array.mk [(boot_o_0 P), (boot_o_1 P), (o_107 P), (o_455 P), (boot_o_4 P), (boot_o_5 P), (boot_o_6 P), (boot_o_7 P), (boot_o_8 P), (boot_o_9 P), (boot_o_10 P), (o_43 P), (o_456 P), (o_45 P), (o_46 P), (o_51 P), (o_52 P), (o_53 P), (o_54 P), (o_55 P), (o_56 P), (o_57 P), (o_58 P), (o_59 P), (o_60 P), (o_61 P), (o_62 P), (o_63 P), (o_64 P), (o_65 P), (o_66 P), (o_67 P), (o_68 P), (o_69 P), (o_70 P), (o_71 P), (o_72 P), (o_73 P), (o_74 P), (o_75 P), (o_76 P), (o_77 P), (o_78 P), (o_79 P), (o_80 P), (o_81 P), (o_82 P), (o_83 P), (o_84 P), (o_85 P), (o_86 P), (o_87 P), (o_88 P), (o_89 P), (o_90 P), (o_91 P), (o_92 P), (o_93 P), (o_94 P), (o_95 P), (o_96 P), (o_97 P), (o_98 P), (o_99 P), (o_100 P), (o_101 P), (o_102 P), (o_103 P), (o_104 P), (o_105 P), (o_106 P), (o_110 P), (o_111 P), (o_112 P), (o_113 P), (o_114 P), (o_115 P), (o_116 P), (o_117 P), (o_118 P), (o_119 P), (o_120 P), (o_121 P), (o_122 P), (o_123 P), (o_124 P), (o_125 P), (o_126 P), (o_127 P), (o_128 P), (o_129 P), (o_130 P), (o_131 P), (o_134 P), (o_135 P), (o_136 P), (o_137 P), (o_138 P), (o_139 P), (o_140 P), (o_141 P), (o_142 P), (o_143 P), (o_144 P), (o_145 P), (o_146 P), (o_147 P), (o_148 P), (o_149 P), (o_150 P), (o_151 P), (o_152 P), (o_153 P), (o_154 P), (o_155 P), (o_156 P), (o_157 P), (o_158 P), (o_159 P), (o_160 P), (o_161 P), (o_162 P), (o_163 P), (o_164 P), (o_165 P), (o_166 P), (o_167 P), (o_168 P), (o_169 P), (o_170 P), (o_171 P), (o_172 P), (o_173 P), (o_174 P), (o_175 P), (o_176 P), (o_177 P), (o_178 P), (o_179 P), (o_180 P), (o_181 P), (o_182 P), (o_183 P), (o_184 P), (o_185 P), (o_186 P), (o_187 P), (o_188 P), (o_189 P), (o_192 P), (o_193 P), (o_194 P), (o_195 P), (o_196 P), (o_197 P), (o_198 P), (o_199 P), (o_200 P), (o_201 P), (o_202 P), (o_203 P), (o_204 P), (o_205 P), (o_206 P), (o_207 P), (o_208 P), (o_209 P), (o_210 P), (o_211 P), (o_212 P), (o_213 P), (o_214 P), (o_215 P), (o_216 P), (o_217 P), (o_218 P), (o_219 P), (o_220 P), (o_221 P), (o_222 P), (o_223 P), (o_224 P), (o_225 P), (o_226 P), (o_227 P), (o_228 P), (o_229 P), (o_230 P), (o_231 P), (o_232 P), (o_233 P), (o_234 P), (o_235 P), (o_236 P), (o_237 P), (o_238 P), (o_239 P), (o_240 P), (o_241 P), (o_242 P), (o_243 P), (o_244 P), (o_245 P), (o_246 P), (o_247 P), (o_248 P), (o_249 P), (o_250 P), (o_251 P), (o_252 P), (o_253 P), (o_254 P), (o_257 P), (o_258 P), (o_259 P), (o_260 P), (o_261 P), (o_262 P), (o_263 P), (o_264 P), (o_265 P), (o_266 P), (o_267 P), (o_268 P), (o_269 P), (o_270 P), (o_271 P), (o_272 P), (o_273 P), (o_274 P), (o_275 P), (o_276 P), (o_277 P), (o_278 P), (o_279 P), (o_280 P), (o_281 P), (o_282 P), (o_283 P), (o_284 P), (o_285 P), (o_286 P), (o_287 P), (o_288 P), (o_289 P), (o_290 P), (o_291 P), (o_292 P), (o_293 P), (o_294 P), (o_295 P), (o_296 P), (o_297 P), (o_298 P), (o_299 P), (o_300 P), (o_301 P), (o_302 P), (o_303 P), (o_304 P), (o_305 P), (o_306 P), (o_307 P), (o_308 P), (o_309 P), (o_310 P), (o_311 P), (o_312 P), (o_315 P), (o_316 P), (o_317 P), (o_318 P), (o_319 P), (o_320 P), (o_321 P), (o_322 P), (o_323 P), (o_324 P), (o_325 P), (o_326 P), (o_327 P), (o_328 P), (o_329 P), (o_330 P), (o_331 P), (o_332 P), (o_333 P), (o_334 P), (o_335 P), (o_336 P), (o_337 P), (o_338 P), (o_339 P), (o_340 P), (o_341 P), (o_342 P), (o_343 P), (o_344 P), (o_345 P), (o_346 P), (o_347 P), (o_348 P), (o_349 P), (o_350 P), (o_351 P), (o_352 P), (o_353 P), (o_354 P), (o_355 P), (o_356 P), (o_357 P), (o_358 P), (o_359 P), (o_360 P), (o_361 P), (o_362 P), (o_363 P), (o_364 P), (o_365 P), (o_366 P), (o_367 P), (o_368 P), (o_369 P), (o_370 P), (o_371 P), (o_372 P), (o_373 P), (o_374 P), (o_375 P), (o_376 P), (o_377 P), (o_378 P), (o_379 P), (o_380 P), (o_381 P), (o_382 P), (o_383 P), (o_384 P), (o_385 P), (o_386 P), (o_387 P), (o_388 P), (o_389 P), (o_390 P), (o_391 P), (o_392 P), (o_393 P), (o_394 P), (o_395 P), (o_396 P), (o_397 P), (o_398 P), (o_401 P), (o_402 P), (o_403 P), (o_404 P), (o_405 P), (o_406 P), (o_407 P), (o_408 P), (o_409 P), (o_410 P), (o_411 P), (o_412 P), (o_413 P), (o_414 P), (o_415 P), (o_416 P), (o_417 P), (o_418 P), (o_419 P), (o_420 P), (o_421 P), (o_422 P), (o_423 P), (o_424 P), (o_425 P), (o_426 P), (o_427 P), (o_428 P), (o_429 P), (o_430 P), (o_431 P), (o_432 P), (o_433 P), (o_434 P), (o_435 P), (o_436 P), (o_437 P), (o_438 P), (o_439 P), (o_440 P), (o_441 P), (o_442 P), (o_443 P), (o_444 P), (o_445 P), (o_446 P), (o_447 P), (o_448 P), (o_449 P), (o_450 P), (o_451 P), (o_452 P), (o_453 P), (o_454 P), (o_457 P), (o_458 P), (o_459 P), (o_460 P), (o_461 P), (o_462 P), (o_463 P), (o_464 P), (o_465 P), (o_466 P), (o_467 P), (o_468 P), (o_469 P), (o_470 P), (o_471 P), (o_472 P), (o_473 P), (o_474 P), (o_475 P), (o_476 P), (o_477 P), (o_478 P), (o_479 P), (o_480 P), (o_481 P), (o_482 P), (o_483 P), (o_484 P), (o_485 P), (o_486 P), (o_487 P), (o_488 P), (o_489 P), (o_490 P), (o_491 P), (o_492 P)]) {})
noncomputable def Kf (P : Params) : Frag := [(2, o_107 P), (3, o_455 P), (15, o_51 P), (17, o_53 P), (18, o_54 P), (20, o_56 P), (21, o_57 P), (22, o_58 P), (24, o_60 P), (25, o_61 P), (27, o_63 P), (28, o_64 P), (29, o_65 P), (31, o_67 P), (32, o_68 P), (34, o_70 P), (35, o_71 P), (36, o_72 P), (38, o_74 P), (39, o_75 P), (41, o_77 P), (42, o_78 P), (43, o_79 P), (45, o_81 P), (46, o_82 P), (48, o_84 P), (49, o_85 P), (50, o_86 P), (52, o_88 P), (53, o_89 P), (55, o_91 P), (56, o_92 P), (57, o_93 P), (59, o_95 P), (60, o_96 P), (62, o_98 P), (63, o_99 P), (64, o_100 P), (66, o_102 P), (67, o_103 P), (69, o_105 P), (70, o_106 P), (71, o_110 P), (78, o_117 P), (80, o_119 P), (81, o_120 P), (83, o_122 P), (84, o_123 P), (85, o_124 P), (86, o_125 P), (87, o_126 P), (88, o_127 P), (91, o_130 P), (92, o_131 P), (100, o_141 P), (102, o_143 P), (103, o_144 P), (105, o_146 P), (106, o_147 P), (107, o_148 P), (108, o_149 P), (109, o_150 P), (110, o_151 P), (111, o_152 P), (114, o_155 P), (116, o_157 P), (117, o_158 P), (119, o_160 P), (120, o_161 P), (121, o_162 P), (123, o_164 P), (124, o_165 P), (126, o_167 P), (127, o_168 P), (128, o_169 P), (130, o_171 P), (131, o_172 P), (133, o_174 P), (134, o_175 P), (135, o_176 P), (137, o_178 P), (138, o_179 P), (140, o_181 P), (141, o_182 P), (142, o_183 P), (144, o_185 P), (145, o_186 P), (147, o_188 P), (148, o_189 P), (149, o_192 P), (151, o_194 P), (152, o_195 P), (154, o_197 P), (155, o_198 P), (156, o_199 P), (158, o_201 P), (159, o_202 P), (161, o_204 P), (162, o_205 P), (163, o_206 P), (165, o_208 P), (166, o_209 P), (168, o_211 P), (169, o_212 P), (170, o_213 P), (172, o_215 P), (173, o_216 P), (175, o_218 P), (176, o_219 P), (177, o_220 P), (179, o_222 P), (180, o_223 P), (182, o_225 P), (183, o_226 P), (184, o_227 P), (186, o_229 P), (187, o_230 P), (189, o_232 P), (190, o_233 P), (191, o_234 P), (193, o_236 P), (194, o_237 P), (196, o_239 P), (197, o_240 P), (198, o_241 P), (200, o_243 P), (201, o_244 P), (203, o_246 P), (204, o_247 P), (205, o_248 P), (207, o_250 P), (208, o_251 P), (210, o_253 P), (211, o_254 P), (219, o_264 P), (221, o_266 P), (222, o_267 P), (224, o_269 P), (225, o_270 P), (226, o_271 P), (227, o_272 P), (228, o_273 P), (229, o_274 P), (230, o_275 P), (233, o_278 P), (235, o_280 P), (236, o_281 P), (238, o_283 P), (239, o_284 P), (240, o_285 P), (242, o_287 P), (243, o_288 P), (245, o_290 P), (246, o_291 P), (247, o_292 P), (249, o_294 P), (250, o_295 P), (252, o_297 P), (253, o_298 P), (254, o_299 P), (256, o_301 P), (257, o_302 P), (259, o_304 P), (260, o_305 P), (261, o_306 P), (263, o_308 P), (264, o_309 P), (266, o_311 P), (267, o_312 P), (268, o_315 P), (270, o_317 P), (271, o_318 P), (273, o_320 P), (274, o_321 P), (275, o_322 P), (277, o_324 P), (278, o_325 P), (280, o_327 P), (281, o_328 P), (282, o_329 P), (284, o_331 P), (285, o_332 P), (287, o_334 P), (288, o_335 P), (289, o_336 P), (291, o_338 P), (292, o_339 P), (294, o_341 P), (295, o_342 P), (296, o_343 P), (298, o_345 P), (299, o_346 P), (301, o_348 P), (302, o_349 P), (303, o_350 P), (305, o_352 P), (306, o_353 P), (308, o_355 P), (309, o_356 P), (310, o_357 P), (312, o_359 P), (313, o_360 P), (315, o_362 P), (316, o_363 P), (317, o_364 P), (319, o_366 P), (320, o_367 P), (322, o_369 P), (323, o_370 P), (324, o_371 P), (326, o_373 P), (327, o_374 P), (329, o_376 P), (330, o_377 P), (331, o_378 P), (333, o_380 P), (334, o_381 P), (336, o_383 P), (337, o_384 P), (338, o_385 P), (340, o_387 P), (341, o_388 P), (343, o_390 P), (344, o_391 P), (345, o_392 P), (347, o_394 P), (348, o_395 P), (350, o_397 P), (351, o_398 P), (352, o_401 P), (354, o_403 P), (355, o_404 P), (357, o_406 P), (358, o_407 P), (359, o_408 P), (361, o_410 P), (362, o_411 P), (364, o_413 P), (365, o_414 P), (366, o_415 P), (368, o_417 P), (369, o_418 P), (371, o_420 P), (372, o_421 P), (380, o_429 P), (382, o_431 P), (383, o_432 P), (385, o_434 P), (386, o_435 P), (387, o_436 P), (388, o_437 P), (389, o_438 P), (390, o_439 P), (391, o_440 P), (394, o_443 P), (395, o_444 P), (396, o_445 P), (397, o_446 P), (398, o_447 P), (399, o_448 P), (401, o_450 P), (402, o_451 P), (404, o_453 P), (405, o_454 P), (406, o_457 P), (408, o_459 P), (409, o_460 P), (411, o_462 P), (412, o_463 P), (413, o_464 P), (416, o_467 P), (417, o_468 P), (418, o_469 P), (420, o_471 P), (421, o_472 P), (423, o_474 P), (424, o_475 P), (425, o_476 P), (427, o_478 P), (428, o_479 P), (430, o_481 P), (431, o_482 P), (432, o_483 P), (435, o_486 P), (436, o_487 P), (437, o_488 P), (440, o_491 P), (441, o_492 P)]
end Mine
end
section
open PySem PySem.W PyProof.Rows
set_option maxRecDepth 100000
namespace Mine
noncomputable def bE : List Stmt := behindTheImports pR
noncomputable def env41 : Env := { scope := pR.main.scope, locals := mainNs, globals := mainNs, cells := [], code := .ref 13, frame := some 14 }
noncomputable def cE : Code := .body bE env41
noncomputable abbrev q0 : Pos := ⟨0, 0, 0, 0⟩
noncomputable abbrev an6 : Option Value := some (.ref 6)
noncomputable abbrev ga : Array GenState := Array.mk []
noncomputable def bT1 : List Stmt := (bE.drop 0).take 21
noncomputable def bT2 : List Stmt := (bE.drop 21).take 4
noncomputable def bT3 : List Stmt := (bE.drop 25).take 6
noncomputable def bT4 : List Stmt := (bE.drop 31).take 11
noncomputable def bT5 : List Stmt := (bE.drop 42).take 7
noncomputable def bT6 : List Stmt := (bE.drop 49).take 12
noncomputable def bT7 : List Stmt := (bE.drop 61).take 8
noncomputable def bT8 : List Stmt := (bE.drop 69).take 6
theorem p_pre (w : World) (os : OsState) : topGo treeTable pR w 11 an6 12 ⟨boot_heap w.params, ga, boot_drawn, boot_toks, os⟩ (topStub pR) = some (⟨heap_46 w.params, ga, {}, 187, os⟩, ⟨denote treeTable cE, cE, q0, [topFrame q0]⟩) := by
  rw [PySem.W.Fast.te15667345088766844465, PySem.W.Fast.te14364793385576792824, PySem.W.Fast.te11892475500146522536]
  kernel_rfl
theorem p_blk (w : World) (os : OsState) : segRun treeTable pR w 11 an6 1 1 ⟨heap_46 w.params, ga, {}, 187, os⟩ (blockOf bE env41 cE q0 [topFrame q0]) = some (.next, (⟨tree_47 w.params, 15, {}, ga, {}, 187, os⟩ : SharedT).abs, cE, q0) := by
  rw [PySem.W.Fast.te14374325043358763698, PySem.W.Fast.te14364793385576792824]
  kernel_rfl
theorem p_1 (w : World) (os : OsState) : segRunT treeTable pR w 11 an6 1 360 ⟨tree_47 w.params, 15, {}, ga, {}, 187, os⟩ (piecesOf bT1 env41 cE ⟨0, 0, 0, 0⟩ [topFrame q0]) = some (.next, ⟨tree_106 w.params, 71, {}, ga, {}, 279, os⟩, cE, ⟨56, 0, 56, 8⟩) := by
  rw [PySem.W.Fast.te10110043849684766642, PySem.W.Fast.te14364793385576792824]
  kernel_rfl
theorem p_2 (w : World) (os : OsState) : segRunT treeTable pR w 11 an6 1 304 ⟨tree_106 w.params, 71, {}, ga, {}, 279, os⟩ (piecesOf bT2 env41 cE ⟨56, 0, 56, 8⟩ [topFrame q0]) = some (.next, ⟨tree_131 w.params, 93, {}, ga, {}, 334, os⟩, cE, ⟨64, 0, 64, 10⟩) := by
  rw [PySem.W.Fast.te10110043849684766642, PySem.W.Fast.te14364793385576792824]
  kernel_rfl
theorem p_3 (w : World) (os : OsState) : segRunT treeTable pR w 11 an6 1 398 ⟨tree_131 w.params, 93, {}, ga, {}, 334, os⟩ (piecesOf bT3 env41 cE ⟨64, 0, 64, 10⟩ [topFrame q0]) = some (.next, ⟨tree_189 w.params, 149, {}, ga, {}, 428, os⟩, cE, ⟨118, 0, 121, 90⟩) := by
  rw [PySem.W.Fast.te10110043849684766642, PySem.W.Fast.te14364793385576792824]
  kernel_rfl
theorem p_4 (w : World) (os : OsState) : segRunT treeTable pR w 11 an6 1 323 ⟨tree_189 w.params, 149, {}, ga, {}, 428, os⟩ (piecesOf bT4 env41 cE ⟨118, 0, 121, 90⟩ [topFrame q0]) = some (.next, ⟨tree_254 w.params, 212, {}, ga, {}, 538, os⟩, cE, ⟨205, 0, 205, 8⟩) := by
  rw [PySem.W.Fast.te10110043849684766642, PySem.W.Fast.te14364793385576792824]
  kernel_rfl
theorem p_5 (w : World) (os : OsState) : segRunT treeTable pR w 11 an6 1 395 ⟨tree_254 w.params, 212, {}, ga, {}, 538, os⟩ (piecesOf bT5 env41 cE ⟨205, 0, 205, 8⟩ [topFrame q0]) = some (.next, ⟨tree_312 w.params, 268, {}, ga, {}, 622, os⟩, cE, ⟨234, 0, 235, 77⟩) := by
  rw [PySem.W.Fast.te10110043849684766642, PySem.W.Fast.te14364793385576792824]
  kernel_rfl
theorem p_6 (w : World) (os : OsState) : segRunT treeTable pR w 11 an6 1 384 ⟨tree_312 w.params, 268, {}, ga, {}, 622, os⟩ (piecesOf bT6 env41 cE ⟨234, 0, 235, 77⟩ [topFrame q0]) = some (.next, ⟨tree_398 w.params, 352, {}, ga, {}, 741, os⟩, cE, ⟨293, 0, 294, 51⟩) := by
  rw [PySem.W.Fast.te10110043849684766642, PySem.W.Fast.te14364793385576792824]
  kernel_rfl
theorem p_7 (w : World) (os : OsState) : segRunT treeTable pR w 11 an6 1 396 ⟨tree_398 w.params, 352, {}, ga, {}, 741, os⟩ (piecesOf bT7 env41 cE ⟨293, 0, 294, 51⟩ [topFrame q0]) = some (.next, ⟨tree_454 w.params, 406, {}, ga, {}, 824, os⟩, cE, ⟨316, 0, 317, 52⟩) := by
  rw [PySem.W.Fast.te10110043849684766642, PySem.W.Fast.te14364793385576792824]
  kernel_rfl
theorem p_8 (w : World) (os : OsState) : segRunT treeTable pR w 11 an6 1 186 ⟨tree_454 w.params, 406, {}, ga, {}, 824, os⟩ (piecesOf bT8 env41 cE ⟨316, 0, 317, 52⟩ [topFrame q0]) = some (.next, ⟨tree_492 w.params, 442, {}, ga, {}, 883, os⟩, cE, ⟨363, 0, 409, 78⟩) := by
  rw [PySem.W.Fast.te10110043849684766642, PySem.W.Fast.te14364793385576792824]
  kernel_rfl
theorem p_fin (w : World) (os : OsState) : topRun treeTable pR w 11 an6 2 (⟨tree_492 w.params, 442, {}, ga, {}, 883, os⟩ : SharedT).abs ⟨doneF .next, cE, ⟨363, 0, 409, 78⟩, [topFrame q0]⟩ = some ⟨heap_493 w.params, ga, {}, 883, os⟩ := by
  rw [PySem.W.Fast.te14082659384304107361, PySem.W.Fast.te14364793385576792824]
  kernel_rfl
end Mine
end
section
open PySem PySem.W PyProof.Rows
set_option maxRecDepth 100000
namespace Mine
theorem hcut : bE = bT1 ++ (bT2 ++ (bT3 ++ (bT4 ++ (bT5 ++ (bT6 ++ (bT7 ++ (bT8 ++ []))))))) := by kernel_rfl
theorem run_all (w : World) (os : OsState) : topRun treeTable pR w 11 an6 (12 + (1 + (360 + (304 + (398 + (323 + (395 + (384 + (396 + (186 + 2)))))))))) ⟨boot_heap w.params, ga, boot_drawn, boot_toks, os⟩ (topStub pR) = some ⟨heap_493 w.params, ga, {}, 883, os⟩ := by
  have k0 := piece_nil (env := env41) (p_fin w os)
  have k8 := piece_app (segRun_of (p_8 w os)) k0
  have k7 := piece_app (segRun_of (p_7 w os)) k8
  have k6 := piece_app (segRun_of (p_6 w os)) k7
  have k5 := piece_app (segRun_of (p_5 w os)) k6
  have k4 := piece_app (segRun_of (p_4 w os)) k5
  have k3 := piece_app (segRun_of (p_3 w os)) k4
  have k2 := piece_app (segRun_of (p_2 w os)) k3
  have k1 := piece_app (segRun_of (p_1 w os)) k2
  rw [← hcut] at k1
  exact go_top (p_pre w os) (piece_block (p_blk w os) k1)
theorem p_size (w : World) : ((boot_heap w.params).isNs mainGlobals && ga.size == 0, (boot_heap w.params).objs.size, (boot_heap w.params).nsMap mainGlobals "__annotations__") = (true, 11, an6) := by
  rw [PySem.W.Fast.te8920871248978507458]
  kernel_rfl
noncomputable def vq : Program := { pR with main := { pR.main with body := [1, 2, 3, 4, 5, 6, 7, 8, 9, 10, 11, 13, 14, 15, 16, 18, 19, 21, 23, 24, 25, 26, 27, 28, 29, 30, 31, 32, 33, 35, 36, 37, 38, 39, 40, 42, 43, 44, 46, 47, 48, 49, 50, 51, 52, 53, 54, 55, 56, 57, 58, 59, 60, 61, 62, 63, 65, 67, 68, 69, 70, 71, 72, 73, 74].filterMap fun i => pR.main.body[i]? } }
noncomputable def S1 (w : World) (os : OsState) : Shared := ⟨heap_493 w.params, ga, {}, 883, os⟩
noncomputable abbrev Xq (s : Shared) : Bool := xlAt vq [] s && recOk PySem.Challenge.rw_nt0443_01.row.toRowW.records s
noncomputable def asK : List Addr := [2, 3, 15, 17, 18, 20, 21, 22, 24, 25, 27, 28, 29, 31, 32, 34, 35, 36, 38, 39, 41, 42, 43, 45, 46, 48, 49, 50, 52, 53, 55, 56, 57, 59, 60, 62, 63, 64, 66, 67, 69, 70, 71, 78, 80, 81, 83, 84, 85, 86, 87, 88, 91, 92, 100, 102, 103, 105, 106, 107, 108, 109, 110, 111, 114, 116, 117, 119, 120, 121, 123, 124, 126, 127, 128, 130, 131, 133, 134, 135, 137, 138, 140, 141, 142, 144, 145, 147, 148, 149, 151, 152, 154, 155, 156, 158, 159, 161, 162, 163, 165, 166, 168, 169, 170, 172, 173, 175, 176, 177, 179, 180, 182, 183, 184, 186, 187, 189, 190, 191, 193, 194, 196, 197, 198, 200, 201, 203, 204, 205, 207, 208, 210, 211, 219, 221, 222, 224, 225, 226, 227, 228, 229, 230, 233, 235, 236, 238, 239, 240, 242, 243, 245, 246, 247, 249, 250, 252, 253, 254, 256, 257, 259, 260, 261, 263, 264, 266, 267, 268, 270, 271, 273, 274, 275, 277, 278, 280, 281, 282, 284, 285, 287, 288, 289, 291, 292, 294, 295, 296, 298, 299, 301, 302, 303, 305, 306, 308, 309, 310, 312, 313, 315, 316, 317, 319, 320, 322, 323, 324, 326, 327, 329, 330, 331, 333, 334, 336, 337, 338, 340, 341, 343, 344, 345, 347, 348, 350, 351, 352, 354, 355, 357, 358, 359, 361, 362, 364, 365, 366, 368, 369, 371, 372, 380, 382, 383, 385, 386, 387, 388, 389, 390, 391, 394, 395, 396, 397, 398, 399, 401, 402, 404, 405, 406, 408, 409, 411, 412, 413, 416, 417, 418, 420, 421, 423, 424, 425, 427, 428, 430, 431, 432, 435, 436, 437, 440, 441]
theorem kE (P : Params) : asK = (Kf P).map (·.1) := by kernel_rfl
noncomputable abbrev Hk : Hook := kHook Kf asK kE
theorem l_1 (w : World) (os : OsState) : (staticsOk (importedModules pR.main.body) (boot_heap w.params) (heap_493 w.params) && namesBound pR (heap_493 w.params) && gensDone (S1 w os) && laidKept (boot_heap w.params) (heap_493 w.params)) = true := by
  rw [PySem.W.Fast.te5923862056798008813]
  kernel_rfl
theorem l_2 (w : World) (os : OsState) : seen ((recsOf vq).map (·.name)) (ownsOf vq) [] { S1 w os with gens := #[] } = expectedOf vq := by
  rw [PySem.W.Fast.te5160383126252970620, PySem.W.Fast.te3399658132070893891, PySem.W.Fast.te5991557255702980513]
  kernel_rfl
theorem l_3 (w : World) (os : OsState) : (S1 w os).heap.bltView = bltViewBooted := by kernel_rfl
theorem l_4 (w : World) (os : OsState) : ((S1 w os).heap.keysOk (looseW vq []) ((recsOf vq).map (·.name)) ((litsOf vq).map (·.1)) ((clssOf vq (looseW vq [])).map (·.name)) && (S1 w os).heap.accountedOkI (importedModules pR.main.body) && (S1 w os).heap.isNs mainGlobals && (S1 w os).heap.isNs builtinsNs && tablesOk vq (S1 w os).heap && Xq (S1 w os) && (if true then (S1 w os).gens.size == 0 else !leftWithCleanup (S1 w os).gens)) = true := by
  rw [PySem.W.Fast.te10880121769531294198, PySem.W.Fast.te821141287760084731, PySem.W.Fast.te3399658132070893891, PySem.W.Fast.te7409074990110511671, PySem.W.Fast.te13664370479719496447, PySem.W.Fast.te14722251495701143533, PySem.W.Fast.te5923862056798008813, PySem.W.Fast.te10994771534591457954]
  kernel_rfl
theorem l_5 (w : World) (os : OsState) : tabsOk vq (S1 w os) = true := by
  rw [PySem.W.Fast.te479339242167458305]
  kernel_rfl
theorem l_6 (w : World) (os : OsState) : pinSeenD vq (drecsOf vq) (S1 w os) = pinGoodD (drecsOf vq) := by
  rw [PySem.W.Fast.te16090120013241838585, PySem.W.Fast.te3247288618530077131]
  kernel_rfl
theorem l_7 (w : World) (os : OsState) : plainSeenE vq (looseW vq []) (S1 w os) = plainGoodE vq (looseW vq []) := by
  rw [PySem.W.Fast.te2386780881361962483, PySem.W.Fast.te821141287760084731]
  kernel_rfl
theorem l_8 (w : World) (os : OsState) : plainSeenD vq [] (S1 w os) = plainGoodD vq [] := by
  rw [PySem.W.Fast.te11698064438423848299]
  kernel_rfl
theorem l_9 (w : World) (os : OsState) : wideSeen vq (S1 w os) = wideGood vq := by
  rw [PySem.W.Fast.te7317090234206586261]
  kernel_rfl
theorem l_10 (w : World) (os : OsState) : clsSeenW vq [] (S1 w os) = clsGoodW vq [] := by
  rw [PySem.W.Fast.te7369524293546568484]
  kernel_rfl
theorem l_11 (w : World) (os : OsState) : Hk.obs (S1 w os) = Hk.val w := by kernel_rfl
theorem o_open : ∀ w : World, (fencedOpening treeTable pR w 5602).map (fun s => (s.heap, s.gens, s.drawn, s.toks)) = some (boot_heap w.params, Array.mk [], boot_drawn, boot_toks) :=
  boot_open (by kernel_rfl) (by kernel_rfl) (fun s => by kernel_rfl)
theorem left : LeftO pR vq [] Xq Hk.obs Hk.val 5602 :=
  LeftO.of_pieces o_open p_size run_all (by kernel_rfl) (fun w => funext fun os => looks_pair (l_1 w os) (looks_pair (looks_pair (l_2 w os) (looks_pair (l_3 w os) (looks_pair (l_4 w os) (looks_pair (l_5 w os) (looks_pair (l_6 w os) (looks_pair (l_7 w os) (looks_pair (l_8 w os) (looks_pair (l_9 w os) (l_10 w os))))))))) (l_11 w os)))
end Mine
end
section
open PySem PySem.W PyProof.Rows
set_option maxRecDepth 100000
namespace Mine
noncomputable abbrev said_R := PySem.Challenge.rw_nt0443_01
theorem said_lo3 : namesResolve pR = true := by rw [PySem.W.Fast.te8377067652309620493]; kernel_rfl
theorem said_lo5a : (["vars", "dir", "locals"] : List Str).filter (readsOut pR pR.main.body) = [] := by rw [PySem.W.Fast.te13343964577679436407]; kernel_rfl
theorem said_lo5 : noRoadLSs { strict := !(importedModules pR.main.body).all cThrough.contains, foot := none, bare := (["vars", "dir", "locals"] : List Str).filter (readsOut pR pR.main.body) } pR.main.body = true := by
  rw [said_lo5a, PySem.W.Fast.te8326940854005059898]; kernel_rfl
theorem said_lo6 : (namesMeet pR pR.main.body fun _ n => attrL n) = true := by rw [PySem.W.Fast.te17119622794617984870]; kernel_rfl
theorem said_lo : looksOpen pR = true := by
  delta looksOpen
  refine look_both (look_both (look_both (look_both (look_both ?_ ?_) said_lo3) ?_) said_lo5) said_lo6 <;> kernel_rfl
theorem said_row : said_R.row.wellSaid = true := by
  delta OpenRow.wellSaid OpenRow.partSaid
  refine look_both (look_both (look_both (look_both (look_both (look_both (look_both (look_both (look_both (look_both (look_both (look_both (look_both (look_both (look_both said_lo ?_) ?_) ?_) ?_) ?_) ?_) ?_) ?_) ?_) ?_) ?_) ?_) ?_) ?_) ?_ <;> kernel_rfl
theorem said_n1 : (noRoadLSs { strict := true, foot := some said_R.bound', writes := said_R.writes, may := said_R.may } said_R.footing) = true := by rw [PySem.W.Fast.te8326940854005059898]; kernel_rfl
theorem said_n2 : (namesMeet said_R.prog said_R.footing (fun sc n => (!(["type", "isinstance", "issubclass", "getattr", "hasattr"] : List Str).contains n || sc.names.lookup n == some .globalImplicit) &&
    (said_R.may != some n || sc.kind == .module || sc.names.lookup n == some .globalImplicit))) = true := by rw [PySem.W.Fast.te17119622794617984870]; kernel_rfl
theorem said_n3 : (namesMeet said_R.prog said_R.above (fun _ n => !said_R.own.contains n)) = true := by rw [PySem.W.Fast.te17119622794617984870]; kernel_rfl
theorem said_n4 : (namesMeet said_R.prog said_R.footing fun sc n => sc.kind == .module || sc.names.lookup n != some .globalExplicit) = true := by rw [PySem.W.Fast.te17119622794617984870]; kernel_rfl
theorem said_n5 : said_R.namesIt = true := by rw [PySem.W.Fast.te16286561074155671207]; kernel_rfl
theorem said_n6 : defStands said_R.about said_R.above = true := by rw [PySem.W.Fast.te9558739934217749035]; kernel_rfl
theorem said_n7 : noClassBlock said_R.prog said_R.footing = true := by rw [PySem.W.Fast.te8179353310426384613]; kernel_rfl
theorem said_n8 : said_R.footing.all footLine = true := by kernel_rfl
theorem said_n9 : decide (said_R.foot ≤ (behindTheImports said_R.prog).length) = true := by kernel_rfl
theorem said : said_R.wellSaid = true := by
  delta OpenLaw.wellSaid
  refine look_both (look_both (look_both (look_both (look_both (look_both (look_both (look_both (look_both (look_both (look_both (look_both (look_both (look_both (look_both (look_both (look_both (look_both said_row said_n9) said_n8) said_n7) ?_) ?_) said_n1) said_n6) said_n5) ?_) ?_) ?_) ?_) said_n2) ?_) ?_) ?_) said_n3) said_n4 <;> kernel_rfl
noncomputable def dLaw : DefRec := { name := Str.ofString "law", params := fA 74, body := fB 74, scope := fS 74, pos := ⟨363, 0, 409, 78⟩ }
theorem h_def : defOf vq PySem.Challenge.rw_nt0443_01.row.name = some (dLaw, []) := by kernel_rfl
theorem h_the : pR.theDef PySem.Challenge.rw_nt0443_01.row.name = some (dLaw.params, dLaw.body, dLaw.scope) := by kernel_rfl
theorem h_kw : kwWritten? dLaw.params.kwonlyargs dLaw.params.kw_defaults = some [] := by kernel_rfl
theorem h_wr : (!PySem.Challenge.rw_nt0443_01.row.writes || PySem.Challenge.rw_nt0443_01.row.records.isEmpty) = true := by kernel_rfl
theorem h_ok : (chainsOk vq && opensWell pR && (frees PySem.Challenge.rw_nt0443_01.row.toRowW && PySem.Challenge.rw_nt0443_01.row.within.isEmpty)) = true := by kernel_rfl
theorem h_bare : pR.bare := ⟨by kernel_rfl, by kernel_rfl, by kernel_rfl, by kernel_rfl, by kernel_rfl, by kernel_rfl⟩
theorem h_prom : PySem.Challenge.rw_nt0443_01.row.toRowW.promised := ⟨[WData.list []], by kernel_rfl, by kernel_rfl⟩
set_option maxHeartbeats 0 in
theorem head (walk : WalkO vq [] (XL vq []) Hk.says PySem.Challenge.rw_nt0443_01.row.toRowW dLaw [] fun f vs => PySem.call f vs) : PySem.Challenge.rw_nt0443_01.Holds :=
  holds_law said fun sd => holds_open (r := PySem.Challenge.rw_nt0443_01.row) (q := vq) (loose := []) (Xt := Xq) (XP := XL vq []) (Yf := Hk.obs) (Ya := Hk.val) (YP := Hk.says) (N := 5602) left Hk.of Hk.keeps (fun s e => xl_of s (Bool.and_eq_true_iff.mp e).1) XL.keeps h_def h_the h_kw (fun s e => recFacts_of (Bool.and_eq_true_iff.mp e).2) h_wr sd h_ok h_bare h_prom walk
end Mine
end
section
open PySem
set_option genInjectivity false
set_option genSizeOf false
namespace Mine
/-- abstract values -/
inductive V where
  | none | bool (b : Bool) | int (i : Int) | ref (k : Nat)

/-- abstract objects; a reference is a place in the list of objects -/
inductive O where
  | list (xs : List V)
  | tup (xs : List V)
  | clist (xs : List V)
  | rng (a b c : Int)
  | inst (c d : Nat)
  | attrs (m : List (Nat × V))

inductive Bi where
  | range | len | abs | max | min

/-- expressions: names are places -/
inductive X where
  | cst (v : V)
  | var (i : Nat)
  | bin (op : Operator) (a b : X)
  | un (op : UnaryOp) (a : X)
  | boolE (op : BoolOp) (es : List X)
  | cmp (l : X) (ops : List CmpOp) (rs : List X)
  | ife (t a b : X)
  | call (f : Nat) (es : List X)
  | new (c : Nat) (es : List X)
  | bi (b : Bi) (es : List X)
  | append (o x : X)
  | attr (o : X) (a : Nat)
  | sub (o i : X)
  | sliceTo (o u : X)
  | sliceFrom (o l : X)
  | listE (es : List X)
  | tupE (es : List X)
  | comp (elt iter : X) (conds : List X) (caps : List Nat)

inductive T where
  | var (i : Nat)
  | attr (o : X) (a : Nat)
  | sub (o i : X)
  | vars (is : List Nat)
  | swap (i j : Nat)

inductive S where
  | expr (e : X)
  | ret (e : X)
  | assign (t : T) (e : X)
  | augV (i : Nat) (op : Operator) (e : X)
  | augA (o : X) (a : Nat) (op : Operator) (e : X)
  | augS (o i : X) (op : Operator) (e : X)
  | iff (t : X) (b o : List S)
  | whl (t : X) (b : List S)
  | for (i : Nat) (it : X) (b : List S)
  | bad

inductive R where
  | next
  | ret (v : V)

noncomputable abbrev Hp := List O
noncomputable abbrev Lc := List (Option V)

structure FD where
  np : Nat
  nl : Nat
  body : List S

/-- the defs, and each class's __init__ -/
structure Pg where
  fns : List FD
  inits : List Nat

noncomputable def truth (h : Hp) : V → Option Bool
  | .none => some false
  | .bool b => some b
  | .int i => some (i != 0)
  | .ref k => match h[k]? with
    | some (.list xs) => if xs.length ≤ 1000 then some (!xs.isEmpty) else none
    | _ => none

noncomputable def fits (a : Int) : Bool := a.natAbs < 2 ^ 64

noncomputable def binI (op : Operator) (a b : Int) : Option Int :=
  match op with
  | .Add => some (a + b)
  | .Sub => some (a - b)
  | .Mult => if fits a && fits b then some (a * b) else none
  | .FloorDiv => if decide (b ≠ 0) && decide (b.natAbs < 1073741824) then some (a.fdiv b) else none
  | .Mod => if decide (b ≠ 0) then some (a.fmod b) else none
  | .LShift => if decide (0 ≤ b) && decide (b ≤ 1000) && fits a then some (a * 2 ^ b.toNat) else none
  | .RShift => if decide (0 ≤ b) then some (a.fdiv (2 ^ b.toNat)) else none
  | .BitOr => some (Builtin.bitOr a b)
  | .BitXor => some (Builtin.bitXor a b)
  | .BitAnd => some (Builtin.bitAnd a b)
  | _ => none

noncomputable def binV (op : Operator) (h : Hp) (a b : V) : Option (V × Hp) :=
  match a, b with
  | .int a, .int b => (binI op a b).map fun c => (.int c, h)
  | .ref k, .int n => match op, h[k]? with
    | .Mult, some (.list xs) => if decide (0 ≤ n) && decide (n ≤ 1000) && decide (xs.length ≤ 1) then some (.ref h.length, h ++ [.list ((List.replicate n.toNat xs).flatten)]) else none
    | _, _ => none
  | .ref j, .ref k => match op, h[j]?, h[k]? with
    | .Add, some (.list xs), some (.list ys) => if xs.length + ys.length ≤ 1000 then some (.ref h.length, h ++ [.list (xs ++ ys)]) else none
    | _, _, _ => none
  | _, _ => none

noncomputable def intsOf : List V → Option (List Int)
  | [] => some []
  | .int i :: r => (intsOf r).map (i :: ·)
  | _ :: _ => none

noncomputable def eqV (h : Hp) (a b : V) : Option Bool :=
  match a, b with
  | .int a, .int b => some (a == b)
  | .bool a, .bool b => some (a == b)
  | .ref j, .ref k => match h[j]?, h[k]? with
    | some (.list xs), some (.list ys) => match intsOf xs, intsOf ys with
      | some p, some q => some (p == q)
      | _, _ => none
    | some (.tup xs), some (.tup ys) => match intsOf xs, intsOf ys with
      | some p, some q => some (p == q)
      | _, _ => none
    | _, _ => none
  | _, _ => none

noncomputable def inV (h : Hp) (a b : V) : Option Bool :=
  match a, b with
  | .int a, .ref k => match h[k]? with
    | some (.list xs) => (intsOf xs).map fun p => p.contains a
    | some (.tup xs) => (intsOf xs).map fun p => p.contains a
    | _ => none
  | _, _ => none

noncomputable def cmpV (h : Hp) (op : CmpOp) (a b : V) : Option Bool :=
  match op with
  | .Eq => eqV h a b
  | .NotEq => (eqV h a b).map (!·)
  | .In => inV h a b
  | .NotIn => (inV h a b).map (!·)
  | .Lt => match a, b with | .int a, .int b => some (decide (a < b)) | _, _ => none
  | .LtE => match a, b with | .int a, .int b => some (decide (a ≤ b)) | _, _ => none
  | .Gt => match a, b with | .int a, .int b => some (decide (b < a)) | _, _ => none
  | .GtE => match a, b with | .int a, .int b => some (decide (b ≤ a)) | _, _ => none
  | _ => none

noncomputable def unV (h : Hp) (op : UnaryOp) (a : V) : Option V :=
  match op, a with
  | .USub, .int i => some (.int (-i))
  | .Invert, .int i => some (.int (Builtin.bitNot i))
  | .Not, v => (truth h v).map fun b => .bool (!b)
  | _, _ => none

noncomputable def getV (h : Hp) (o i : V) : Option V :=
  match o, i with
  | .ref k, .int i => if decide (0 ≤ i) && decide (i < 1000) then (match h[k]? with
    | some (.list xs) => xs[i.toNat]?
    | some (.tup xs) => xs[i.toNat]?
    | _ => none) else none
  | _, _ => none

noncomputable def setV (h : Hp) (o i v : V) : Option Hp :=
  match o, i with
  | .ref k, .int i => match h[k]? with
    | some (.list xs) => if decide (0 ≤ i) && decide (i < xs.length) && decide (i < 1000) then some (h.set k (.list (xs.set i.toNat v))) else none
    | _ => none
  | _, _ => none

noncomputable def seqOf (h : Hp) (k : Nat) : Option (List V) :=
  match h[k]? with
  | some (.list xs) => some xs
  | some (.clist xs) => some xs
  | _ => none

noncomputable def takeV (h : Hp) (o u : V) : Option (V × Hp) :=
  match o, u with
  | .ref k, .int u => match seqOf h k with
    | some xs => if decide (0 ≤ u) && decide (xs.length ≤ 1000) then some (.ref h.length, h ++ [.list (xs.take u.toNat)]) else none
    | _ => none
  | _, _ => none
noncomputable def dropV (h : Hp) (o u : V) : Option (V × Hp) :=
  match o, u with
  | .ref k, .int u => match seqOf h k with
    | some xs => if decide (0 ≤ u) && decide (xs.length ≤ 1000) then some (.ref h.length, h ++ [.list (xs.drop u.toNat)]) else none
    | _ => none
  | _, _ => none

noncomputable def getA (h : Hp) (o : V) (a : Nat) : Option V :=
  match o with
  | .ref k => match h[k]? with
    | some (.inst _ d) => match h[d]? with
      | some (.attrs m) => m.lookup a
      | _ => none
    | _ => none
  | _ => none

noncomputable def putA (a : Nat) (v : V) : List (Nat × V) → List (Nat × V)
  | [] => [(a, v)]
  | (b, w) :: r => if a == b then (b, v) :: r else (b, w) :: putA a v r

noncomputable def setA (h : Hp) (o : V) (a : Nat) (v : V) : Option Hp :=
  match o with
  | .ref k => match h[k]? with
    | some (.inst _ d) => match h[d]? with
      | some (.attrs m) => if m.length ≤ 100 then some (h.set d (.attrs (putA a v m))) else none
      | _ => none
    | _ => none
  | _ => none

noncomputable def appV (h : Hp) (o v : V) : Option Hp :=
  match o with
  | .ref k => match h[k]? with
    | some (.list xs) => if xs.length < 1000 then some (h.set k (.list (xs ++ [v]))) else none
    | _ => none
  | _ => none

noncomputable def isL (h : Hp) (o : V) : Bool :=
  match o with
  | .ref k => match h[k]? with
    | some (.list _) => true
    | _ => false
  | _ => false

noncomputable def rngItems (a b c : Int) : List V := (List.range (Builtin.Range.rangeSize a b c).toNat).map fun (i : Nat) => V.int (a + i * c)
noncomputable def rngOk (a b c : Int) : Bool := decide (a.natAbs ≤ 1000) && decide (b.natAbs ≤ 1000) && decide (c.natAbs ≤ 1000) && decide (c ≠ 0)
noncomputable def mkRng (h : Hp) (a b c : Int) : Option (V × Hp) := if rngOk a b c then some (.ref h.length, h ++ [.rng a b c]) else none

noncomputable def biV (h : Hp) (b : Bi) (vs : List V) : Option (V × Hp) :=
  match b, vs with
  | .range, [.int b] => mkRng h 0 b 1
  | .range, [.int a, .int b] => mkRng h a b 1
  | .range, [.int a, .int b, .int c] => mkRng h a b c
  | .len, [.ref k] => match seqOf h k with
    | some xs => if xs.length ≤ 1000 then some (.int xs.length, h) else none
    | _ => none
  | .abs, [.int a] => some (.int (if a < 0 then -a else a), h)
  | .max, [.int a, .int b] => some (.int (if b > a then b else a), h)
  | .min, [.int a, .int b] => some (.int (if b < a then b else a), h)
  | _, _ => none

noncomputable def evs (f : X → Hp → Option (V × Hp)) : List X → Hp → Option (List V × Hp)
  | [], h => some ([], h)
  | e :: r, h => (f e h).bind fun (v, h) => (evs f r h).bind fun (vs, h) => some (v :: vs, h)

noncomputable def boolL (f : X → Hp → Option (V × Hp)) (op : BoolOp) : List X → Hp → Option (V × Hp)
  | [], _ => none
  | [e], h => f e h
  | e :: r, h => (f e h).bind fun (v, h) => (truth h v).bind fun t =>
    match op, t with
    | .And, false => some (v, h)
    | .Or, true => some (v, h)
    | _, _ => boolL f op r h

noncomputable def chain (f : X → Hp → Option (V × Hp)) : V → List CmpOp → List X → Hp → Option (V × Hp)
  | l, [op], [r], h => (f r h).bind fun (v, h) => (cmpV h op l v).bind fun b => some (.bool b, h)
  | l, op :: op2 :: ops, r :: rs, h => (f r h).bind fun (v, h) => (cmpV h op l v).bind fun b =>
    if b then chain f v (op2 :: ops) rs h else some (.bool false, h)
  | _, _, _, _ => none

/-- what a loop goes over: written items, or the live items of a list or tuple -/
inductive Src where
  | items (xs : List V)
  | list (k : Nat)
  | tup (k : Nat)
noncomputable def srcOf (h : Hp) (v : V) : Option Src :=
  match v with
  | .ref k => match h[k]? with
    | some (.rng a b c) => if rngOk a b c then some (.items (rngItems a b c)) else none
    | some (.list _) => some (.list k)
    | some (.tup _) => some (.tup k)
    | _ => none
  | _ => none

noncomputable def liveAt (h : Hp) (src : Src) (i : Nat) : Option (Option V) :=
  match src with
  | .items xs => some xs[i]?
  | .list k => match h[k]? with
    | some (.list xs) => some xs[i]?
    | _ => none
  | .tup k => match h[k]? with
    | some (.tup xs) => some xs[i]?
    | _ => none

section
variable {α : Type}
/-- a loop over written items; the state is any -/
noncomputable def loopS (f : V → α → Option (R × α)) : List V → α → Option (R × α)
  | [], a => some (.next, a)
  | v :: r, a => (f v a).bind fun (x, a) => match x with
    | .next => loopS f r a
    | .ret w => some (.ret w, a)
noncomputable def loopL (hp : α → Hp) (f : V → α → Option (R × α)) (src : Src) : Nat → Nat → α → Option (R × α)
  | 0, _, _ => none
  | m + 1, i, a => (liveAt (hp a) src i).bind fun x => match x with
    | none => some (.next, a)
    | some v => (f v a).bind fun (x, a) => match x with
      | .next => loopL hp f src m (i + 1) a
      | .ret w => some (.ret w, a)
noncomputable def loopOn (hp : α → Hp) (f : V → α → Option (R × α)) (src : Src) (a : α) : Option (R × α) :=
  match src with
  | .items xs => loopS f xs a
  | .list k => loopL hp f (.list k) 1000 0 a
  | .tup k => loopL hp f (.tup k) 1000 0 a
noncomputable def loopW (t : α → Option (Bool × α)) (f : α → Option (R × α)) : Nat → α → Option (R × α)
  | 0, _ => none
  | m + 1, a => (t a).bind fun (b, a) => if b then (f a).bind fun (x, a) => match x with
      | .next => loopW t f m a
      | .ret w => some (.ret w, a)
    else some (.next, a)
end

noncomputable def testV (f : X → Hp → Option (V × Hp)) (e : X) (h : Hp) : Option (Bool × Hp) :=
  (f e h).bind fun (v, h) => (truth h v).bind fun b => some (b, h)

noncomputable def condsV (f : X → Hp → Option (V × Hp)) : List X → Hp → Option (Bool × Hp)
  | [], h => some (true, h)
  | [c], h => testV f c h
  | _, _ => none

noncomputable def putVars : List Nat → List V → Lc → Option Lc
  | [], [], l => some l
  | i :: is, v :: vs, l => if i < l.length then putVars is vs (l.set i (some v)) else none
  | _, _, _ => none

noncomputable def assignT (f : X → Hp → Option (V × Hp)) (t : T) (v : V) (l : Lc) (h : Hp) : Option (Lc × Hp) :=
  match t with
  | .var i => if i < l.length then some (l.set i (some v), h) else none
  | .attr o a => (f o h).bind fun (ov, h) => (setA h ov a v).bind fun h => some (l, h)
  | .sub o i => (f o h).bind fun (ov, h) => (f i h).bind fun (iv, h) => (setV h ov iv v).bind fun h => some (l, h)
  | .vars is => match v with
    | .ref k => match h[k]? with
      | some (.tup xs) => (putVars is xs l).bind fun l => some (l, h)
      | _ => none
    | _ => none
  | .swap i j => match v with
    | .ref k => match h[k]? with
      | some (.tup [x, y]) => if decide (i < l.length) && decide (j < l.length) then some ((l.set j (some y)).set i (some x), h) else none
      | _ => none
    | _ => none

mutual
noncomputable def callF (P : Pg) : Nat → Nat → List V → Hp → Option (V × Hp)
  | 0, _, _, _ => none
  | n + 1, f, vs, h => (P.fns[f]?).bind fun d =>
    if vs.length = d.np then
      (execs P n d.body (vs.map some ++ List.replicate (d.nl - d.np) none) h).bind fun (x, _, h) =>
        match x with
        | .next => some (.none, h)
        | .ret v => some (v, h)
    else none
noncomputable def newF (P : Pg) : Nat → Nat → List V → Hp → Option (V × Hp)
  | 0, _, _, _ => none
  | n + 1, c, vs, h => (P.inits[c]?).bind fun f =>
    (callF P n f (.ref (h.length + 1) :: vs) (h ++ [.attrs [], .inst c h.length])).bind fun (v, h') =>
      match v with
      | .none => some (.ref (h.length + 1), h')
      | _ => none
noncomputable def ev (P : Pg) : Nat → X → Lc → Hp → Option (V × Hp)
  | 0, _, _, _ => none
  | n + 1, e, l, h => match e with
    | .cst v => some (v, h)
    | .var i => match l[i]? with
      | some (some v) => some (v, h)
      | _ => none
    | .bin op a b => (ev P n a l h).bind fun (x, h) => (ev P n b l h).bind fun (y, h) => binV op h x y
    | .un op a => (ev P n a l h).bind fun (x, h) => (unV h op x).bind fun v => some (v, h)
    | .boolE op es => boolL (fun e h => ev P n e l h) op es h
    | .cmp a ops rs => (ev P n a l h).bind fun (x, h) => chain (fun e h => ev P n e l h) x ops rs h
    | .ife t a b => (testV (fun e h => ev P n e l h) t h).bind fun (c, h) => if c then ev P n a l h else ev P n b l h
    | .call f es => (evs (fun e h => ev P n e l h) es h).bind fun (vs, h) => callF P n f vs h
    | .new c es => (evs (fun e h => ev P n e l h) es h).bind fun (vs, h) => newF P n c vs h
    | .bi b es => (evs (fun e h => ev P n e l h) es h).bind fun (vs, h) => biV h b vs
    | .append o x => (ev P n o l h).bind fun (ov, h) => if isL h ov then (ev P n x l h).bind fun (v, h) => (appV h ov v).bind fun h => some (.none, h) else none
    | .attr o a => (ev P n o l h).bind fun (ov, h) => (getA h ov a).bind fun v => some (v, h)
    | .sub o i => (ev P n o l h).bind fun (ov, h) => (ev P n i l h).bind fun (iv, h) => (getV h ov iv).bind fun v => some (v, h)
    | .sliceTo o u => (ev P n o l h).bind fun (ov, h) => (ev P n u l h).bind fun (uv, h) => takeV h ov uv
    | .sliceFrom o u => (ev P n o l h).bind fun (ov, h) => (ev P n u l h).bind fun (uv, h) => dropV h ov uv
    | .listE es => (evs (fun e h => ev P n e l h) es h).bind fun (vs, h) => if vs.length ≤ 1000 then some (.ref h.length, h ++ [.list vs]) else none
    | .tupE es => (evs (fun e h => ev P n e l h) es h).bind fun (vs, h) => if vs.length ≤ 1000 then some (.ref h.length, h ++ [.tup vs]) else none
    | .comp elt iter conds caps => (ev P n iter l h).bind fun (it, h) => (srcOf h it).bind fun src =>
      (loopOn (fun (a : Hp) => a) (fun v a =>
        (condsV (fun e h => ev P n e (caps.map (fun i => (l[i]?).join) ++ [some v]) h) conds a).bind fun (b, a) =>
          if b then (ev P n elt (caps.map (fun i => (l[i]?).join) ++ [some v]) a).bind fun (y, a) => (appV a (.ref h.length) y).bind fun a => some (R.next, a)
          else some (R.next, a)) src (h ++ [.list []])).bind fun (_, a) => some (.ref h.length, a)
noncomputable def exec (P : Pg) : Nat → S → Lc → Hp → Option (R × Lc × Hp)
  | 0, _, _, _ => none
  | n + 1, st, l, h => match st with
    | .expr e => (ev P n e l h).bind fun (v, h) => match v with
      | .ref _ => none
      | _ => some (.next, l, h)
    | .ret e => (ev P n e l h).bind fun (v, h) => some (.ret v, l, h)
    | .assign t e => (ev P n e l h).bind fun (v, h) => (assignT (fun e h => ev P n e l h) t v l h).bind fun (l, h) => some (.next, l, h)
    | .augV i op e => (match l[i]? with
      | some (some x) => (ev P n e l h).bind fun (y, h) => (match x, y with
        | .int x, .int y => (binI op x y).bind fun z => some (.next, l.set i (some (.int z)), h)
        | _, _ => none)
      | _ => none)
    | .augA o a op e => (ev P n o l h).bind fun (ov, h) => (getA h ov a).bind fun x => (ev P n e l h).bind fun (y, h) => (match x, y with
      | .int x, .int y => (binI op x y).bind fun z => (setA h ov a (.int z)).bind fun h => some (.next, l, h)
      | _, _ => none)
    | .augS o i op e => (ev P n o l h).bind fun (ov, h) => (ev P n i l h).bind fun (iv, h) => (getV h ov iv).bind fun x => (ev P n e l h).bind fun (y, h) => (match x, y with
      | .int x, .int y => (binI op x y).bind fun z => (setV h ov iv (.int z)).bind fun h => some (.next, l, h)
      | _, _ => none)
    | .iff t b o => (testV (fun e h => ev P n e l h) t h).bind fun (c, h) => if c then execs P n b l h else execs P n o l h
    | .whl t b => loopW (fun (a : Lc × Hp) => (testV (fun e h => ev P n e a.1 h) t a.2).bind fun (c, h) => some (c, (a.1, h)))
        (fun a => execs P n b a.1 a.2) 1000 (l, h)
    | .for i it b => (ev P n it l h).bind fun (v, h) => (srcOf h v).bind fun src =>
      if i < l.length then loopOn (fun (a : Lc × Hp) => a.2) (fun v a => execs P n b (a.1.set i (some v)) a.2) src (l, h) else none
    | .bad => none
noncomputable def execs (P : Pg) : Nat → List S → Lc → Hp → Option (R × Lc × Hp)
  | 0, _, _, _ => none
  | n + 1, sts, l, h => match sts with
    | [] => some (.next, l, h)
    | st :: r => (exec P n st l h).bind fun (x, l, h) => match x with
      | .next => execs P n r l h
      | .ret v => some (.ret v, l, h)
end
end Mine
end
section
open PySem
set_option genSizeOf false
set_option genInjectivity false
namespace Mine
structure Cx where
  names : List (Str × NameKind)
  vars : List Str

structure Gt where
  consts : List (Str × V)
  fns : List (Str × Nat)
  clss : List (Str × Nat)
  attrs : List Str

noncomputable def idx : List Str → Str → Option Nat
  | [], _ => none
  | y :: r, x => if x == y then some 0 else (idx r x).map (· + 1)

noncomputable def biOf (x : Str) : Option Bi :=
  if x == "range" then some .range else if x == "len" then some .len else if x == "abs" then some .abs
  else if x == "max" then some .max else if x == "min" then some .min else none

noncomputable def notCall : Expr → Bool
  | .Call .. => false
  | _ => true
noncomputable def isCall : Expr → Bool
  | .Call .. => true
  | _ => false
noncomputable def isTuple : Expr → Bool
  | .Tuple .. => true
  | _ => false
noncomputable def isName : Expr → Bool
  | .Name .. => true
  | _ => false
noncomputable def namesOf : List Expr → Option (List Str)
  | [] => some []
  | .Name x _ :: r => (namesOf r).map (x :: ·)
  | _ :: _ => none

noncomputable def freesOf : List (Str × NameKind) → List Str
  | [] => []
  | (n, k) :: r => if k == .free then n :: freesOf r else freesOf r

noncomputable def mapO {α β : Type} (f : α → Option β) : List α → Option (List β)
  | [] => some []
  | a :: r => (f a).bind fun b => (mapO f r).bind fun bs => some (b :: bs)

noncomputable def scopeOk (sc : Scope) (cx : Cx) (x : Str) : Bool :=
  sc.kind == .function && sc.names.all (fun y => y.2 != .cell) && (sc.names.lookup x == some .local) &&
  sc.names.all (fun y => y.2 != .local || sc.names.lookup y.1 == some .local) &&
  (freesOf sc.names).all (fun y => cx.names.lookup y == some .cell && sc.names.lookup y == some .free)

noncomputable def globalIn (cx : Cx) (x : Str) : Bool := (idx cx.vars x).isNone && cx.names.lookup x == some .globalImplicit && x != "__debug__"

noncomputable def trE (g : Gt) : Nat → Cx → Expr → Option X
  | 0, _, _ => none
  | n + 1, cx, e => match e with
    | .Constant .none _ _ => some (.cst .none)
    | .Constant (.bool b) _ _ => some (.cst (.bool b))
    | .Constant (.int i) _ _ => some (.cst (.int i))
    | .Name x _ => if x == "__debug__" then none else match idx cx.vars x with
      | some i => some (.var i)
      | none => if globalIn cx x then (g.consts.lookup x).map .cst else none
    | .BinOp l op r _ => (trE g n cx l).bind fun l => (trE g n cx r).bind fun r => some (.bin op l r)
    | .UnaryOp op a _ => (trE g n cx a).bind fun a => some (.un op a)
    | .BoolOp op es _ => (mapO (trE g n cx) es).bind fun es => some (.boolE op es)
    | .Compare l ops rs _ => (trE g n cx l).bind fun l => (mapO (trE g n cx) rs).bind fun rs => some (.cmp l ops rs)
    | .IfExp t a b _ => (trE g n cx t).bind fun t => (trE g n cx a).bind fun a => (trE g n cx b).bind fun b => some (.ife t a b)
    | .Call (.Attribute o a ap) [x] [] p => if a == "append" && notCall o && ap.endLine == p.line then
        (trE g n cx o).bind fun o => (trE g n cx x).bind fun x => some (.append o x) else none
    | .Call (.Name f _) args [] _ => if globalIn cx f && decide (args.length ≤ 30) then
        (mapO (trE g n cx) args).bind fun es => match g.fns.lookup f with
          | some i => some (.call i es)
          | none => match g.clss.lookup f with
            | some i => some (.new i es)
            | none => (biOf f).map fun b => .bi b es
      else none
    | .Attribute o a _ => if notCall o then (trE g n cx o).bind fun o => (idx g.attrs a).bind fun a => some (.attr o a) else none
    | .Subscript o (.Slice none (some u) none _) _ => (trE g n cx o).bind fun o => (trE g n cx u).bind fun u => some (.sliceTo o u)
    | .Subscript o (.Slice (some u) none none _) _ => (trE g n cx o).bind fun o => (trE g n cx u).bind fun u => some (.sliceFrom o u)
    | .Subscript o i _ => (trE g n cx o).bind fun o => (trE g n cx i).bind fun i => some (.sub o i)
    | .List es _ => (mapO (trE g n cx) es).bind fun es => some (.listE es)
    | .Tuple es _ _ => (mapO (trE g n cx) es).bind fun es => some (.tupE es)
    | .ListComp elt [⟨.Name x _, iter, ifs, 0⟩] sc _ => if scopeOk sc cx x && x != "__debug__" then
        (trE g n cx iter).bind fun iter => (mapO (idx cx.vars) (freesOf sc.names)).bind fun caps =>
        (trE g n ⟨sc.names, freesOf sc.names ++ [x]⟩ elt).bind fun elt => (mapO (trE g n ⟨sc.names, freesOf sc.names ++ [x]⟩) ifs).bind fun ifs =>
          if ifs.length ≤ 1 then some (.comp elt iter ifs caps) else none
      else none
    | _ => none

noncomputable def swapOk (cx : Cx) : List Expr → Expr → Bool
  | [.Name x p, .Name y q], .Tuple [e1, e2] _ _ => cx.names.lookup x == some .local && cx.names.lookup y == some .local && p.line == q.line && x != y && !([e1, e2].all (foldedForSure 8)) && !([e1, e2].all (constantsAlone 8))
  | _, _ => false

noncomputable def trS (g : Gt) : Nat → Cx → Stmt → Option S
  | 0, _, _ => none
  | n + 1, cx, st => match st with
    | .Expr e _ => if isCall e then (trE g n cx e).bind fun e => some (.expr e) else none
    | .Return (some e) _ => (trE g n cx e).bind fun e => some (.ret e)
    | .Assign [.Name x _] e _ => (idx cx.vars x).bind fun i => (trE g n cx e).bind fun e => some (.assign (.var i) e)
    | .Assign [.Attribute o a _] e _ => (trE g n cx o).bind fun o => (idx g.attrs a).bind fun a => (trE g n cx e).bind fun e => some (.assign (.attr o a) e)
    | .Assign [.Subscript o i _] e _ => (trE g n cx o).bind fun o => (trE g n cx i).bind fun i => (trE g n cx e).bind fun e => some (.assign (.sub o i) e)
    | .Assign [.Tuple ts _ _] e _ => (namesOf ts).bind fun xs => (mapO (idx cx.vars) xs).bind fun is => (trE g n cx e).bind fun e' =>
        if !isTuple e || decide (4 ≤ is.length) then some (.assign (.vars is) e')
        else match is with
          | [i, j] => if swapOk cx ts e then some (.assign (.swap i j) e') else none
          | _ => none
    | .AugAssign (.Name x _) op e _ => (idx cx.vars x).bind fun i => (trE g n cx e).bind fun e => some (.augV i op e)
    | .AugAssign (.Attribute o a _) op e _ => (trE g n cx o).bind fun o => (idx g.attrs a).bind fun a => (trE g n cx e).bind fun e => some (.augA o a op e)
    | .AugAssign (.Subscript o i _) op e _ => (trE g n cx o).bind fun o => (trE g n cx i).bind fun i => (trE g n cx e).bind fun e => some (.augS o i op e)
    | .If t b o _ => (trE g n cx t).bind fun t => (mapO (trS g n cx) b).bind fun b => (mapO (trS g n cx) o).bind fun o => some (.iff t b o)
    | .While t b [] _ => (trE g n cx t).bind fun t => (mapO (trS g n cx) b).bind fun b => some (.whl t b)
    | .For (.Name x _) it b [] _ => (idx cx.vars x).bind fun i => (trE g n cx it).bind fun it => (mapO (trS g n cx) b).bind fun b => some (.for i it b)
    | .Raise _ _ _ => some .bad
    | _ => none
theorem bsK {α β : Type} {o : Option α} {f : α → Option β} {b : β} {G : Prop} (h : o.bind f = some b) (k : ∀ a, o = some a → f a = some b → G) : G := by
  cases o with
  | none => exact nomatch h
  | some a => exact k a rfl h
theorem bsP {α γ β : Type} {o : Option (α × γ)} {f : α × γ → Option β} {b : β} {G : Prop} (h : o.bind f = some b) (k : ∀ a c, o = some (a, c) → f (a, c) = some b → G) : G := bsK h fun p e1 e2 => k p.1 p.2 e1 e2
theorem bsT {α γ δ β : Type} {o : Option (α × γ × δ)} {f : α × γ × δ → Option β} {b : β} {G : Prop} (h : o.bind f = some b) (k : ∀ a c d, o = some (a, c, d) → f (a, c, d) = some b → G) : G := bsK h fun p e1 e2 => k p.1 p.2.1 p.2.2 e1 e2
theorem ifK {β : Type} {c : Prop} [Decidable c] {o : Option β} {b : β} {G : Prop} (h : (if c then o else none) = some b) (k : c → o = some b → G) : G := by
  by_cases e : c
  · rw [if_pos e] at h; exact k e h
  · rw [if_neg e] at h; exact nomatch h
theorem ifN {β : Type} {c : Prop} [Decidable c] {o : Option β} {b : β} {G : Prop} (h : (if c then none else o) = some b) (k : ¬c → o = some b → G) : G := by
  by_cases e : c
  · rw [if_pos e] at h; exact nomatch h
  · rw [if_neg e] at h; exact k e h
theorem mapK {α β : Type} {o : Option α} {f : α → β} {b : β} {G : Prop} (h : o.map f = some b) (k : ∀ a, o = some a → b = f a → G) : G := by
  cases o with
  | none => exact nomatch h
  | some a => exact k a rfl (Option.some.inj h).symm
theorem no {β : Type} {b : β} {G : Prop} (h : (none : Option β) = some b) : G := nomatch h
theorem so2 {β : Type} {a b : β} (h : some a = some b) : b = a := (Option.some.inj h).symm
theorem so {β : Type} {a b : β} (h : some a = some b) : a = b := Option.some.inj h
theorem testV_of {f : X → Hp → Option (V × Hp)} {x : X} {h h' : Hp} {v : V} {b : Bool} (e : f x h = some (v, h')) (t : truth h' v = some b) : testV f x h = some (b, h') := by
  unfold testV
  rw [e]
  show (truth h' v).bind _ = _
  rw [t]
  rfl
end Mine
end
section
open PySem PySem.W PyProof.Rows
set_option genSizeOf false
set_option genInjectivity false
namespace Mine
/-- the abstract value and the value, by the addresses rho -/
inductive VR (ρ : List Addr) : V → Value → Prop
  | none : VR ρ .none .none
  | bool (b : Bool) : VR ρ (.bool b) (.bool b)
  | int (i : Int) (t : Tok) : VR ρ (.int i) (.int i t)
  | ref {k : Nat} {a : Addr} : ρ[k]? = some a → VR ρ (.ref k) (.ref a)

noncomputable def VRs (ρ : List Addr) : List V → List Value → Prop
  | [], [] => True
  | v :: vs, x :: xs => VR ρ v x ∧ VRs ρ vs xs
  | _, _ => False

theorem VR.mono {ρ t : List Addr} {v : V} {x : Value} (h : VR ρ v x) : VR (ρ ++ t) v x := by
  cases h with
  | none => exact .none
  | bool b => exact .bool b
  | int i t => exact .int i t
  | ref h => exact .ref (by
      have := List.getElem?_eq_some_iff.mp h
      rw [List.getElem?_append_left this.1]; exact h)
theorem VRs.mono {ρ t : List Addr} : ∀ {vs : List V} {xs : List Value}, VRs ρ vs xs → VRs (ρ ++ t) vs xs
  | [], [], _ => trivial
  | _ :: _, _ :: _, h => ⟨h.1.mono, h.2.mono⟩
  | [], _ :: _, h => h.elim
  | _ :: _, [], h => h.elim

theorem VRs.length {ρ : List Addr} : ∀ {vs : List V} {xs : List Value}, VRs ρ vs xs → vs.length = xs.length
  | [], [], _ => rfl
  | _ :: _, _ :: _, h => congrArg (· + 1) h.2.length
  | [], _ :: _, h => h.elim
  | _ :: _, [], h => h.elim
theorem VRs.get {ρ : List Addr} : ∀ {vs : List V} {xs : List Value}, VRs ρ vs xs → ∀ {i : Nat} {v : V}, vs[i]? = some v → ∃ x, xs[i]? = some x ∧ VR ρ v x
  | [], [], _, i, v, h => by simp at h
  | _ :: _, _ :: _, h, 0, v, e => by simp at e; subst e; exact ⟨_, rfl, h.1⟩
  | _ :: _, _ :: _, h, i + 1, v, e => by simpa using VRs.get h.2 (i := i) (by simpa using e)
  | [], _ :: _, h, _, _, _ => h.elim
  | _ :: _, [], h, _, _, _ => h.elim
theorem VRs.get_none {ρ : List Addr} {vs : List V} {xs : List Value} (h : VRs ρ vs xs) {i : Nat} (e : vs[i]? = none) : xs[i]? = none := by
  rw [List.getElem?_eq_none_iff] at *
  rw [← h.length]; exact e
theorem VRs.append {ρ : List Addr} : ∀ {vs : List V} {xs : List Value}, VRs ρ vs xs → ∀ {ws : List V} {ys : List Value}, VRs ρ ws ys → VRs ρ (vs ++ ws) (xs ++ ys)
  | [], [], _, _, _, h => h
  | _ :: _, _ :: _, h, _, _, h' => ⟨h.1, h.2.append h'⟩
  | [], _ :: _, h, _, _, _ => h.elim
  | _ :: _, [], h, _, _, _ => h.elim
theorem VRs.take {ρ : List Addr} : ∀ {vs : List V} {xs : List Value}, VRs ρ vs xs → ∀ n, VRs ρ (vs.take n) (xs.take n)
  | [], [], _, n => by cases n <;> trivial
  | _ :: _, _ :: _, _, 0 => trivial
  | _ :: _, _ :: _, h, n + 1 => by rw [List.take_succ_cons, List.take_succ_cons]; exact ⟨h.1, h.2.take n⟩
  | [], _ :: _, h, _ => h.elim
  | _ :: _, [], h, _ => h.elim
theorem VRs.drop {ρ : List Addr} : ∀ {vs : List V} {xs : List Value}, VRs ρ vs xs → ∀ n, VRs ρ (vs.drop n) (xs.drop n)
  | [], [], _, n => by cases n <;> trivial
  | _ :: _, _ :: _, h, 0 => h
  | _ :: _, _ :: _, h, n + 1 => by rw [List.drop_succ_cons, List.drop_succ_cons]; exact h.2.drop n
  | [], _ :: _, h, _ => h.elim
  | _ :: _, [], h, _ => h.elim
theorem VRs.set {ρ : List Addr} : ∀ {vs : List V} {xs : List Value}, VRs ρ vs xs → ∀ {v x}, VR ρ v x → ∀ n, VRs ρ (vs.set n v) (xs.set n x)
  | [], [], _, _, _, _, n => trivial
  | _ :: _, _ :: _, h, _, _, h', 0 => ⟨h', h.2⟩
  | _ :: _, _ :: _, h, _, _, h', n + 1 => ⟨h.1, h.2.set h' n⟩
  | [], _ :: _, h, _, _, _, _ => h.elim
  | _ :: _, [], h, _, _, _, _ => h.elim
theorem VRs.ints {ρ : List Addr} : ∀ {vs : List V} {xs : List Value}, VRs ρ vs xs → ∀ {is : List Int}, intsOf vs = some is → IntsAre xs is
  | [], [], _, is, e => by cases so e; exact .nil
  | .int i :: r, x :: xs, h, is, e => by
    refine mapK e fun js e2 hx => ?_
    subst hx
    cases h.1
    exact .cons _ _ (h.2.ints e2)
  | .none :: _, _ :: _, _, _, e => no e
  | .bool _ :: _, _ :: _, _, _, e => no e
  | .ref _ :: _, _ :: _, _, _, e => no e
  | [], _ :: _, h, _, _ => h.elim
  | _ :: _, [], h, _, _ => h.elim

/-- what stands fixed in a whole walk -/
structure Con where
  prog : Program
  w : World
  base : Heap
  ρ0 : List Addr
  cl : List Addr
  an : List Str
  K : Frag
  mg : Str → Option Value
  mb : Str → Option Value

noncomputable def StrAttrs (ρ : List Addr) (an : List Str) (m : List (Nat × V)) (es : Array DictEntry) : Prop :=
  StrKeys es ∧ es.size ≤ m.length ∧ ∀ (i : Nat) x v, an[i]? = some x → m.lookup i = some v → ∃ v', nsFind es x = some v' ∧ VR ρ v v'

/-- the abstract object and the object -/
noncomputable def OM (C : Con) (ρ : List Addr) : O → Obj → Prop
  | .list xs, o => ∃ vs n, o = { cls := .type "list", dict := none, data := .seq (List.toArray vs) n, slots := #[] } ∧ VRs ρ xs vs
  | .tup xs, o => ∃ vs n, o = { cls := .type "tuple", dict := none, data := .seq (List.toArray vs) n, slots := #[] } ∧ VRs ρ xs vs
  | .clist xs, o => o.cls = .type "list" ∧ ∃ vs n, o.data = .seq (List.toArray vs) n ∧ VRs ρ xs vs
  | .rng a b c, o => ∃ t u v, o = { cls := .type "range", dict := none, data := .fields #[.int a t, .int b u, .int c v], slots := #[] }
  | .inst c d, o => ∃ Ca dx, C.cl[c]? = some Ca ∧ ρ[d]? = some dx ∧ o = instObj Ca dx
  | .attrs m, o => ∃ es ep, o.data = .dict es ep ∧ StrAttrs ρ C.an m es

theorem OM.mono {C : Con} {ρ t : List Addr} {O : O} {o : Obj} (h : OM C ρ O o) : OM C (ρ ++ t) O o := by
  cases O with
  | list xs => obtain ⟨vs, n, e, h⟩ := h; exact ⟨vs, n, e, h.mono⟩
  | tup xs => obtain ⟨vs, n, e, h⟩ := h; exact ⟨vs, n, e, h.mono⟩
  | clist xs => obtain ⟨e, vs, n, e', h⟩ := h; exact ⟨e, vs, n, e', h.mono⟩
  | rng a b c => exact h
  | inst c d =>
    obtain ⟨Ca, dx, h1, h2, h3⟩ := h
    refine ⟨Ca, dx, h1, ?_, h3⟩
    have := List.getElem?_eq_some_iff.mp h2
    rw [List.getElem?_append_left this.1]; exact h2
  | attrs m =>
    obtain ⟨es, ep, h1, h2, h3, h4⟩ := h
    exact ⟨es, ep, h1, h2, h3, fun i x v e1 e2 => let ⟨v', a, b⟩ := h4 i x v e1 e2; ⟨v', a, b.mono⟩⟩

noncomputable def isConst : O → Bool
  | .tup _ => true
  | .clist _ => true
  | _ => false

structure Inv (C : Con) (ρ : List Addr) (H : Hp) (h : Heap) : Prop where
  len : ρ.length = H.length
  pre : C.ρ0 <+: ρ
  nodup : ρ.Nodup
  objs : ∀ (k : Nat) O a, H[k]? = some O → ρ[k]? = some a → ∃ o, h.get? a = some o ∧ OM C ρ O o
  cons : ∀ k : Nat, k < C.ρ0.length → ∃ O, H[k]? = some O ∧ isConst O = true
  base : ∀ b o, C.base.get? b = some o → h.get? b = some o
  low : ∀ (k : Nat) a, C.ρ0.length ≤ k → ρ[k]? = some a → C.base.get? a = none

/-- what a piece of the walk may change: the call's own objects; it may add objects -/
structure Ext (C : Con) (ρ : List Addr) (h : Heap) (ρ' : List Addr) (h' : Heap) : Prop where
  pre : ∃ t, ρ' = ρ ++ t ∧ ∀ a ∈ t, h.get? a = none
  keep : ∀ b o, b ∉ ρ.drop C.ρ0.length → h.get? b = some o → h'.get? b = some o
  alive : ∀ b, (h.get? b).isSome = true → (h'.get? b).isSome = true

theorem Ext.refl (C : Con) (ρ : List Addr) (h : Heap) : Ext C ρ h ρ h := ⟨⟨[], by simp, by simp⟩, fun _ _ _ e => e, fun _ e => e⟩

theorem drop_append_mem {ρ t : List Addr} {n : Nat} (hn : n ≤ ρ.length) {b : Addr} (h : b ∈ (ρ ++ t).drop n) : b ∈ ρ.drop n ∨ b ∈ t := by
  rw [List.drop_append_of_le_length hn] at h
  exact List.mem_append.mp h

theorem Inv.len0 {C : Con} {ρ : List Addr} {H : Hp} {h : Heap} (I : Inv C ρ H h) : C.ρ0.length ≤ ρ.length := I.pre.length_le

theorem Ext.trans {C : Con} {ρ ρ' ρ'' : List Addr} {h h' h'' : Heap} (hl : C.ρ0.length ≤ ρ.length) (x : Ext C ρ h ρ' h') (y : Ext C ρ' h' ρ'' h'') : Ext C ρ h ρ'' h'' := by
  obtain ⟨t, rfl, ht⟩ := x.pre
  obtain ⟨u, rfl, hu⟩ := y.pre
  refine ⟨⟨t ++ u, by rw [List.append_assoc], fun a ha => ?_⟩, fun b o hb e => ?_, fun b e => y.alive b (x.alive b e)⟩
  · rcases List.mem_append.mp ha with ha | ha
    · exact ht a ha
    · have h1 := hu a ha
      cases e : h.get? a with
      | none => rfl
      | some o =>
        have := x.alive a (by rw [e]; rfl)
        rw [h1] at this; cases this
  · refine y.keep b o (fun hm => ?_) (x.keep b o hb e)
    rcases drop_append_mem hl hm with hm | hm
    · exact hb hm
    · rw [ht b hm] at e; cases e

theorem VR.ext {C : Con} {ρ ρ' : List Addr} {h h' : Heap} (x : Ext C ρ h ρ' h') {v : V} {a : Value} (r : VR ρ v a) : VR ρ' v a := by
  obtain ⟨t, rfl, _⟩ := x.pre; exact r.mono
theorem VRs.ext {C : Con} {ρ ρ' : List Addr} {h h' : Heap} (x : Ext C ρ h ρ' h') {v : List V} {a : List Value} (r : VRs ρ v a) : VRs ρ' v a := by
  obtain ⟨t, rfl, _⟩ := x.pre; exact r.mono

theorem Inv.mem_get {C : Con} {ρ : List Addr} {H : Hp} {h : Heap} (I : Inv C ρ H h) {a : Addr} (ha : a ∈ ρ) : ∃ o, h.get? a = some o := by
  obtain ⟨k, hk, rfl⟩ := List.mem_iff_getElem.mp ha
  have hk' : k < H.length := I.len ▸ hk
  obtain ⟨o, ho, _⟩ := I.objs k H[k] ρ[k] (List.getElem?_eq_getElem hk') (List.getElem?_eq_getElem hk)
  exact ⟨o, ho⟩

theorem Inv.fresh_not_mem {C : Con} {ρ : List Addr} {H : Hp} {h : Heap} (I : Inv C ρ H h) {a : Addr} (ha : h.get? a = none) : a ∉ ρ := fun hm => by
  obtain ⟨o, ho⟩ := I.mem_get hm
  rw [ha] at ho; cases ho

/-- objects are added, none is changed -/
theorem Inv.grow {C : Con} {ρ : List Addr} {H : Hp} {h h' : Heap} (I : Inv C ρ H h) (hk : ∀ b o, h.get? b = some o → h'.get? b = some o) : Inv C ρ H h' ∧ Ext C ρ h ρ h' :=
  ⟨⟨I.len, I.pre, I.nodup, fun k O a e1 e2 => let ⟨o, h1, h2⟩ := I.objs k O a e1 e2; ⟨o, hk _ _ h1, h2⟩, I.cons, fun b o e => hk _ _ (I.base b o e), I.low⟩,
   ⟨⟨[], by simp, by simp⟩, fun b o _ e => hk b o e, fun b e => by
      obtain ⟨o, ho⟩ := Option.isSome_iff_exists.mp e
      rw [hk b o ho]; rfl⟩⟩

theorem get?_none_size (h : Heap) : h.get? h.objs.size = none := by
  cases e : h.get? h.objs.size with
  | none => rfl
  | some o => exact absurd (Heap.lt_size e) (Nat.lt_irrefl _)

/-- a new object that the abstract heap has too; other objects may be added with it -/
theorem Inv.new {C : Con} {ρ : List Addr} {H : Hp} {h h' : Heap} {a : Addr} {O : O} {o : Obj} (I : Inv C ρ H h) (ha : h.get? a = none)
    (hk : ∀ b o, h.get? b = some o → h'.get? b = some o) (ho : h'.get? a = some o) (hm : OM C (ρ ++ [a]) O o) :
    Inv C (ρ ++ [a]) (H ++ [O]) h' ∧ Ext C ρ h (ρ ++ [a]) h' := by
  refine ⟨⟨by simp [I.len], I.pre.trans (List.prefix_append _ _), ?_, fun k O' b e1 e2 => ?_, fun k hk' => ?_, fun b o e => hk _ _ (I.base b o e), fun k b h1 h2 => ?_⟩, ⟨⟨[a], rfl, fun b hb => by simp at hb; subst hb; exact ha⟩, fun b o _ e => hk b o e, fun b e => by
      obtain ⟨o, ho⟩ := Option.isSome_iff_exists.mp e
      rw [hk b o ho]; rfl⟩⟩
  · rw [List.nodup_append]
    exact ⟨I.nodup, by simp, fun x hx y hy => by simp at hy; subst hy; rintro rfl; exact I.fresh_not_mem ha hx⟩
  · rcases Nat.lt_trichotomy k ρ.length with hlt | heq | hgt
    · rw [List.getElem?_append_left (I.len ▸ hlt)] at e1
      rw [List.getElem?_append_left hlt] at e2
      obtain ⟨o', h1, h2⟩ := I.objs k O' b e1 e2
      exact ⟨o', hk _ _ h1, h2.mono⟩
    · subst heq
      rw [List.getElem?_append_right (Nat.le_refl _)] at e2
      rw [List.getElem?_append_right (by rw [I.len]; exact Nat.le_refl _)] at e1
      simp [I.len] at e1 e2
      subst e1 e2
      exact ⟨o, ho, hm⟩
    · rw [List.getElem?_append_right (Nat.le_of_lt hgt)] at e2
      have : k - ρ.length ≠ 0 := by omega
      rw [List.getElem?_eq_none (by simp; omega)] at e2; cases e2
  · obtain ⟨O', h1, h2⟩ := I.cons k hk'
    refine ⟨O', ?_, h2⟩
    have : k < H.length := (List.getElem?_eq_some_iff.mp h1).1
    rw [List.getElem?_append_left this]; exact h1
  · rcases Nat.lt_trichotomy k ρ.length with hlt | heq | hgt
    · rw [List.getElem?_append_left hlt] at h2
      exact I.low k b h1 h2
    · subst heq
      rw [List.getElem?_append_right (Nat.le_refl _)] at h2
      simp at h2; subst h2
      cases e : C.base.get? a with
      | none => rfl
      | some o => rw [I.base _ _ e] at ha; cases ha
    · rw [List.getElem?_eq_none (by simp; omega)] at h2; cases h2

theorem Inv.push {C : Con} {ρ : List Addr} {H : Hp} {h : Heap} {O : O} {o : Obj} (I : Inv C ρ H h) (hf : o.isFreed = false) (hm : OM C (ρ ++ [h.objs.size]) O o) :
    Inv C (ρ ++ [h.objs.size]) (H ++ [O]) (h.push o) ∧ Ext C ρ h (ρ ++ [h.objs.size]) (h.push o) :=
  I.new (get?_none_size h) (fun _ _ e => Heap.get?_push_of_some _ e) (Heap.get?_push_size _ hf) hm

theorem last_get {ρ : List Addr} {a : Addr} {n : Nat} (h : ρ.length = n) : (ρ ++ [a])[n]? = some a := by
  subst h; simp

/-- an object of the call's own is changed -/
theorem Inv.upd {C : Con} {ρ : List Addr} {H : Hp} {h h' : Heap} {k : Nat} {a : Addr} {Oo O : O} {o : Obj} (I : Inv C ρ H h) (hO : H[k]? = some Oo) (hc : isConst Oo = false) (ha : ρ[k]? = some a)
    (hs : ∀ b, b ≠ a → h'.get? b = h.get? b) (ho : h'.get? a = some o) (hm : OM C ρ O o) :
    Inv C ρ (H.set k O) h' ∧ Ext C ρ h ρ h' := by
  have hk0 : C.ρ0.length ≤ k := by
    refine Nat.le_of_not_lt fun hlt => ?_
    obtain ⟨O', e1, e2⟩ := I.cons k hlt
    rw [hO] at e1; cases e1; rw [hc] at e2; cases e2
  have hkl : k < ρ.length := (List.getElem?_eq_some_iff.mp ha).1
  have hmem : a ∈ ρ.drop C.ρ0.length := by
    rw [List.mem_iff_getElem?]
    exact ⟨k - C.ρ0.length, by rw [List.getElem?_drop]; rw [show C.ρ0.length + (k - C.ρ0.length) = k by omega]; exact ha⟩
  refine ⟨⟨by simp [I.len], I.pre, I.nodup, fun j O' b e1 e2 => ?_, fun j hj => ?_, fun b ob e => ?_, I.low⟩, ⟨⟨[], by simp, by simp⟩, fun b o' hb e => ?_, fun b e => ?_⟩⟩
  · by_cases hjk : j = k
    · subst hjk
      rw [ha] at e2; cases e2
      rw [List.getElem?_set_self (I.len ▸ hkl)] at e1
      cases e1
      exact ⟨o, ho, hm⟩
    · rw [List.getElem?_set_ne (Ne.symm hjk)] at e1
      obtain ⟨o', h1, h2⟩ := I.objs j O' b e1 e2
      refine ⟨o', ?_, h2⟩
      rw [hs b (fun hb => ?_)]; exact h1
      subst hb
      have h1 := List.getElem?_eq_some_iff.mp e2
      have h2 := List.getElem?_eq_some_iff.mp ha
      exact hjk ((List.getElem_inj I.nodup (h₀ := h1.1) (h₁ := h2.1)).mp (h1.2.trans h2.2.symm))
  · obtain ⟨O', h1, h2⟩ := I.cons j hj
    exact ⟨O', by rw [List.getElem?_set_ne (by omega)]; exact h1, h2⟩
  · rw [hs b (fun hb => ?_)]; exact I.base b ob e
    subst hb
    rw [I.low k b hk0 ha] at e; cases e
  · rw [hs b (fun hb' => hb (hb' ▸ hmem))]; exact e
  · by_cases hb : b = a
    · subst hb; rw [ho]; rfl
    · rw [hs b hb]; exact e
end Mine
end
section
open PySem PySem.W PyProof.Rows
namespace Mine
noncomputable abbrev Post (C : Con) (ρ : List Addr) (s : Shared) (H' : Hp) (v : V) (Q : Value → Shared → Prop) : Prop :=
  ∀ h' tk ρ' v', Ext C ρ s.heap ρ' h' → Inv C ρ' H' h' → VR ρ' v v' → Q v' { s with heap := h', toks := tk }
noncomputable abbrev PostU (C : Con) (ρ : List Addr) (s : Shared) (H' : Hp) (Q : Shared → Prop) : Prop :=
  ∀ h' tk ρ', Ext C ρ s.heap ρ' h' → Inv C ρ' H' h' → Q { s with heap := h', toks := tk }

structure AOk (A : Around) (n : Nat) : Prop where
  handled : A.handled = none
  depth : A.depth + n ≤ 900
  units : A.units + 8 * n ≤ 9000

theorem AOk.mono {A : Around} {n m : Nat} (h : AOk A n) (hm : m ≤ n) : AOk A m := ⟨h.handled, by have := h.depth; (first | lia | omega), by have := h.units; (first | lia | omega)⟩
theorem AOk.line {A : Around} {n : Nat} (h : AOk A n) : A.units < cLine := by have := h.units; unfold cLine; (first | lia | omega)

section
variable {C : Con} {A : Around} {E : Value → Shared → Prop} {s : Shared} {ρ : List Addr} {H H' : Hp}

theorem bits64 {a : Int} (h : fits a = true) : Builtin.Int.intBits a ≤ 64 := intBits_le (of_decide_eq_true h)

theorem binI_ok {op : Operator} {a b c : Int} {t u : Tok} {Q : Value → Shared → Prop} (e : binI op a b = some c) (h : Q (.int c s.toks) { s with toks := s.toks + 1 }) :
    wpAny (model C.prog C.w) A (binaryOp op (.int a t) (.int b u)) Q E s := by
  cases op
  case Add => cases so e; exact PyProof.Rows.add_int h
  case Sub => cases so e; exact PyProof.Rows.sub_int h
  case Mult =>
    refine ifK e fun hh e => ?_
    · have hh := Bool.and_eq_true_iff.mp hh
      cases so e
      exact PyProof.Rows.mul_int h (.of_left (bits64 hh.1))
  case FloorDiv =>
    refine ifK e fun hh e => ?_
    · simp only [Bool.and_eq_true, decide_eq_true_eq] at hh
      cases so e
      exact PyProof.Rows.floordiv_int hh.1 h (Or.inl (PyProof.noPylong_small hh.2))
  case Mod =>
    refine ifK e fun hh e => ?_
    · have hh := of_decide_eq_true hh
      cases so e
      exact PyProof.Rows.mod_int' hh h
  case LShift =>
    refine ifK e fun hh e => ?_
    · simp only [Bool.and_eq_true, decide_eq_true_eq, fits] at hh
      cases so e
      exact PyProof.Rows.lshift_int_small hh.1.1 (by (first | lia | omega)) hh.2 h
  case RShift =>
    refine ifK e fun hh e => ?_
    · have hh := of_decide_eq_true hh
      cases so e
      exact PyProof.Rows.rshift_int hh h
  case BitOr => cases so e; exact PyProof.Rows.or_int h
  case BitXor => cases so e; exact PyProof.Rows.xor_int h
  case BitAnd => cases so e; exact PyProof.Rows.and_int h
  all_goals exact no e

theorem iopI_ok {op : Operator} {a b c : Int} {t u : Tok} {Q : Value → Shared → Prop} (e : binI op a b = some c) (h : Q (.int c s.toks) { s with toks := s.toks + 1 }) :
    wpAny (model C.prog C.w) A (inplaceOp op (.int a t) (.int b u)) Q E s := by
  cases op
  case Add => cases so e; exact PySem.P.iadd_int h
  case Sub => cases so e; exact PySem.P.isub_int h
  case Mult =>
    refine ifK e fun hh e => ?_
    · have hh := Bool.and_eq_true_iff.mp hh
      cases so e
      exact PySem.P.imul_int h (.of_left (bits64 hh.1))
  case FloorDiv =>
    refine ifK e fun hh e => ?_
    · simp only [Bool.and_eq_true, decide_eq_true_eq] at hh
      cases so e
      exact PyProof.Rows.ifloordiv_int hh.1 h (Or.inl (PyProof.noPylong_small hh.2))
  case Mod =>
    refine ifK e fun hh e => ?_
    · have hh := of_decide_eq_true hh
      cases so e
      exact PyProof.Rows.imod_int hh h
  case LShift =>
    refine ifK e fun hh e => ?_
    · simp only [Bool.and_eq_true, decide_eq_true_eq, fits] at hh
      cases so e
      exact PyProof.Rows.ilshift_int_small hh.1.1 (by (first | lia | omega)) hh.2 h
  case RShift =>
    refine ifK e fun hh e => ?_
    · have hh := of_decide_eq_true hh
      cases so e
      exact PyProof.Rows.irshift_int hh h
  case BitOr => cases so e; exact PyProof.Rows.ior_int h
  case BitXor => cases so e; exact PyProof.Rows.ixor_int h
  case BitAnd => cases so e; exact PyProof.Rows.iand_int h
  all_goals exact no e

theorem foldl_app (vs : List Value) : ∀ (n : Nat) (acc : Array Value), List.foldl (fun x y => x ++ y) acc (List.replicate n vs.toArray) = acc ++ ((List.replicate n vs).flatten).toArray
  | 0, acc => by simp
  | n + 1, acc => by
    rw [List.replicate_succ, List.foldl_cons, foldl_app vs n, List.replicate_succ, List.flatten_cons]
    simp [Array.append_assoc]

theorem VRs.rep {xs : List V} {vs : List Value} (h : VRs ρ xs vs) : ∀ n, VRs ρ (List.replicate n xs).flatten (List.replicate n vs).flatten
  | 0 => trivial
  | n + 1 => by rw [List.replicate_succ, List.replicate_succ, List.flatten_cons, List.flatten_cons]; exact h.append (h.rep n)

theorem lineBig : (1000 : Nat) ≤ sizeLine := by decide

set_option maxHeartbeats 1000000 in
theorem binV_ok {op : Operator} {a b : V} {a' b' : Value} {v : V} {Q : Value → Shared → Prop} (I : Inv C ρ H s.heap) (ha : VR ρ a a') (hb : VR ρ b b') (e : binV op H a b = some (v, H'))
    (h : Post C ρ s H' v Q) : wpAny (model C.prog C.w) A (binaryOp op a' b') Q E s := by
  cases ha with
  | int i t =>
    cases hb with
    | int j u =>
      refine mapK e fun c e2 e' => ?_
      cases e'
      exact binI_ok e2 (h s.heap (s.toks + 1) ρ _ (.refl ..) I (.int ..))
    | _ => exact no e
  | @ref k l hl =>
    cases hb with
    | int n u =>
      delta binV at e
      dsimp only at e
      cases hx : H[k]? with
      | none => rw [hx] at e; cases op <;> exact no e
      | some ob =>
      rw [hx] at e
      cases ob with
      | list xs =>
        cases op <;> try (with_reducible exact no e)
        refine ifK e fun hh e => ?_
        · simp only [Bool.and_eq_true, decide_eq_true_eq] at hh
          cases e
          obtain ⟨o, ho, vs, ep, rfl, hv⟩ := I.objs _ _ _ hx hl
          have hlen := hv.length
          have hT : s.TypeIs (.ref l) "list" := ⟨_, ho, rfl⟩
          refine wpAny_binaryOp_repeat_ref (T := "list") (U := "int") (by decide) hT (fun s' => typeIs_int s' n u) noFill_list_mul F.fills_int_mul F.slot_int_rmul repeat_list F.slot_int_index.lookup
            (call_meets F.slot_int_rmul (typeIs_int s n u) F.entry_int_rmul (F.args_int_rmul_2 _ _) (int___rmul___int_list n u l vs.toArray ep)
              ⟨ho, rfl, hT, call_meets F.slot_list_mul hT F.entry_list_mul (F.args_list_mul_2 _ _)
                (AutoListH.list___mul___list_int_3 l vs.toArray ep n u (by simp [Builtin.List.listFitsIndex]; (first | lia | omega)) ?_ ?_) ⟨ho, ?_⟩⟩)
          · have h1 : vs.toArray.size ≤ 1 := by simp; (first | lia | omega)
            have h2 : n.toNat ≤ 1000 := by (first | lia | omega)
            have := Nat.mul_le_mul h1 h2
            (first | lia | omega)
          · have h1 : vs.toArray.size ≤ 1 := by simp; (first | lia | omega)
            have h2 : n.toNat ≤ 1000 := by (first | lia | omega)
            have := Nat.mul_le_mul h1 h2
            simp [Builtin.List.listTooLong, sizeLine]
            simp at this
            (first | lia | omega)
          · have hem : (List.foldl (fun x1 x2 => x1 ++ x2) #[] (List.replicate (if vs.toArray.isEmpty = true then 0 else n.toNat) vs.toArray)) = ((List.replicate n.toNat vs).flatten).toArray := by
              rw [foldl_app]
              cases vs with
              | nil => simp
              | cons x r => simp
            rw [hem]
            obtain ⟨I', X'⟩ := I.push (O := .list ((List.replicate n.toNat xs).flatten)) (o := { cls := .type "list", data := .seq ((List.replicate n.toNat vs).flatten).toArray }) rfl ⟨_, _, rfl, (hv.rep n.toNat).mono⟩
            exact h _ _ _ _ X' I' (.ref (last_get I.len))
      | _ => cases op <;> exact no e
    | @ref k2 b2 hb2 =>
      delta binV at e
      dsimp only at e
      cases hx : H[k]? with
      | none => rw [hx] at e; cases op <;> exact no e
      | some ob =>
      rw [hx] at e
      cases ob with
      | list xs =>
        cases hy : H[k2]? with
        | none => rw [hy] at e; cases op <;> exact no e
        | some ob2 =>
        rw [hy] at e
        cases ob2 with
        | list ys =>
          cases op <;> try (with_reducible exact no e)
          refine ifK e fun hh e => ?_
          cases so e
          obtain ⟨o, ho, vs, ep, rfl, hv⟩ := I.objs _ _ _ hx hl
          obtain ⟨o2, ho2, vs2, ep2, rfl, hv2⟩ := I.objs _ _ _ hy hb2
          refine PySem.P.add_list ho ho2 ?_ (by have := hv.length; have := hv2.length; have := lineBig; simp; (first | lia | omega))
          rw [List.append_toArray]
          obtain ⟨I', X'⟩ := I.push (O := .list (xs ++ ys)) (o := { cls := .type "list", data := .seq (vs ++ vs2).toArray }) rfl ⟨_, _, rfl, (hv.append hv2).mono⟩
          exact h _ s.toks _ _ X' I' (.ref (last_get I.len))
        | _ => cases op <;> exact no e
      | _ => cases op <;> exact no e
    | _ => exact no e
  | _ => exact no e

theorem truth_ok {v : V} {x : Value} {b : Bool} {Q : Bool → Shared → Prop} (I : Inv C ρ H s.heap) (hv : VR ρ v x) (e : truth H v = some b) (h : ∀ tk, Q b { s with toks := tk }) :
    wpAny (model C.prog C.w) A (truthy x) Q E s := by
  cases hv with
  | none => cases e; exact PyProof.Rows.truthy_none (h s.toks)
  | bool b => cases e; exact wpAny_truthy_bool (h s.toks)
  | int i t => cases e; exact PyProof.Rows.truthy_int (h s.toks)
  | @ref k l hl =>
    delta truth at e
    dsimp only at e
    cases hx : H[k]? with
    | none => rw [hx] at e; exact no e
    | some ob =>
    rw [hx] at e
    cases ob with
    | list xs =>
      refine ifK e fun hh e => ?_
      · cases e
        obtain ⟨o, ho, vs, ep, rfl, hv⟩ := I.objs _ _ _ hx hl
        have hl := hv.length
        refine wpAny_truthy_list (items := vs.toArray) ⟨_, ho, rfl, _, rfl⟩ (by simp; (first | lia | omega)) ?_
        have : (!vs.toArray.isEmpty) = !xs.isEmpty := by
          cases xs with
          | nil => cases vs with
            | nil => rfl
            | cons _ _ => simp at hl
          | cons _ _ => cases vs with
            | nil => simp at hl
            | cons _ _ => rfl
        rw [this]; exact h _
    | _ => exact no e
end
end Mine
end
section
open PySem PySem.W PyProof.Rows
namespace Mine
section
variable {C : Con} {A : Around} {E : Value → Shared → Prop} {s : Shared} {ρ : List Addr} {H H' : Hp}

theorem unV_ok {op : UnaryOp} {a v : V} {a' : Value} {Q : Value → Shared → Prop} (I : Inv C ρ H s.heap) (ha : VR ρ a a') (e : unV H op a = some v)
    (h : Post C ρ s H v Q) : wpAny (model C.prog C.w) A (unaryOp op a') Q E s := by
  cases op with
  | Not =>
    refine mapK e fun b e2 hx => ?_
    subst hx
    exact PyProof.Rows.not_of (truth_ok I ha e2 fun tk => h _ tk _ _ (.refl ..) I (.bool _))
  | USub =>
    cases ha <;> first | exact no e | skip
    cases so e
    exact PyProof.Rows.neg_int (h _ _ _ _ (.refl ..) I (.int ..))
  | Invert =>
    cases ha <;> first | exact no e | skip
    cases so e
    exact PyProof.Rows.invert_int (h _ _ _ _ (.refl ..) I (.int ..))
  | UAdd => cases ha <;> exact no e

theorem getV_ok {o i v : V} {o' i' : Value} {Q : Value → Shared → Prop} (I : Inv C ρ H s.heap) (ho : VR ρ o o') (hi : VR ρ i i') (e : getV H o i = some v)
    (h : ∀ v', VR ρ v v' → Q v' s) : wpAny (model C.prog C.w) A (getItem o' i') Q E s := by
  cases ho with
  | @ref k l hl =>
    cases hi with
    | int i t =>
      refine ifK e fun hh e2 => ?_
      clear e
      · simp only [Bool.and_eq_true, decide_eq_true_eq] at hh
        cases hx : H[k]? with
        | none => rw [hx] at e2; exact no e2
        | some ob =>
        rw [hx] at e2
        cases ob with
        | list xs =>
          obtain ⟨ob, hob, vs, ep, rfl, hv⟩ := I.objs _ _ _ hx hl
          obtain ⟨v', h1, h2⟩ := hv.get e2
          exact wpAny_getItem_list (items := vs.toArray) ⟨_, hob, rfl, _, rfl⟩ hh.1 (by (first | lia | omega)) (by simpa using h1) (h v' h2)
        | tup xs =>
          obtain ⟨ob, hob, vs, ep, rfl, hv⟩ := I.objs _ _ _ hx hl
          obtain ⟨v', h1, h2⟩ := hv.get e2
          have hlt : i.toNat < vs.length := (List.getElem?_eq_some_iff.mp h1).1
          exact PySem.P.getItem_tuple (k := i.toNat) hob (by (first | lia | omega)) (by (first | lia | omega)) (seqIndex_of hh.1 (by simp; (first | lia | omega))) (by simpa using h1) (h v' h2)
        | _ => exact no e2
    | _ => exact no e
  | _ => exact no e

theorem setV_ok {o i v : V} {o' i' v' : Value} {Q : Unit → Shared → Prop} (I : Inv C ρ H s.heap) (ho : VR ρ o o') (hi : VR ρ i i') (hv : VR ρ v v') (e : setV H o i v = some H')
    (h : PostU C ρ s H' (Q ())) : wpAny (model C.prog C.w) A (setItem o' i' v') Q E s := by
  cases ho with
  | @ref k l hl =>
    cases hi with
    | int i t =>
      delta setV at e
      dsimp only at e
      cases hx : H[k]? with
      | none => rw [hx] at e; exact no e
      | some ob =>
      rw [hx] at e
      cases ob with
      | list xs =>
        refine ifK e fun hh e => ?_
        · simp only [Bool.and_eq_true, decide_eq_true_eq] at hh
          cases e
          obtain ⟨ob, hob, vs, ep, rfl, hvs⟩ := I.objs _ _ _ hx hl
          have hlen := hvs.length
          have hfit := fitsIndex_of hh.1.1 (show i < 2 ^ 63 by have := hh.2; (first | lia | omega))
          obtain ⟨j, hj0⟩ := Int.eq_ofNat_of_zero_le hh.1.1
          have hj : j < vs.toArray.size := by simp; (first | lia | omega)
          have hx' : vs.toArray[j]? = some vs.toArray[j] := Array.getElem?_eq_getElem hj
          have hli : s.heap.IsList l vs.toArray := ⟨_, hob, rfl, _, rfl⟩
          have key : Obj.mapSeq (·.setIfInBounds j v') { cls := .type "list", data := .seq vs.toArray ep } = { cls := .type "list", data := .seq (vs.set j v').toArray ep } := by
            simp [Obj.mapSeq]
          -- the item's store
          unfold setItem
          try with_reducible refine wpAny_holding ?_
          first | refine wpAny_bind (wpAny_pure ?_) | skip
          refine wpAny_bind (wpAny_sequenceKey hli.typeIs (by decide) ?_)
          refine wpAny_bind (wpAny_callSpecial?_slot (name := Str.ofString "__setitem__") hli.typeIs slot_list_setitem
            (wpAny_call_entry slot_list_setitem hli.typeIs entry_list_setitem ?_ (args_list_setitem _ _ _)))
          show wpAny _ _ (Builtin.List.listSubscript? (.int i t) >>= _) _ _ s
          refine wpAny_bind (wpAny_listSubscript_int hfit ?_)
          clear hfit
          subst hj0
          show wpAny _ _ ((seqItemAt l j >>= fun r => pure (r.map (j, ·))) >>= _) _ _ s
          refine wpAny_bind (wpAny_bind (wpAny_seqItemAt hob rfl (wpAny_pure ?_)))
          rw [hx']
          show wpAny _ _ (setSeqItemAt l j v' >>= _) _ _ s
          have hfin : (s.heap.update l (Obj.mapSeq (·.setIfInBounds j v'))).get? l = some { cls := .type "list", data := .seq (vs.set j v').toArray ep } := by
            rw [Heap.get?_update_self _ hob (by rw [key]; rfl), key]
          obtain ⟨I', X'⟩ := I.upd (k := k) (O := .list (xs.set (Int.toNat (j : Int)) v)) hx rfl hl (fun b hb => Heap.get?_update_other _ _ (Ne.symm hb)) hfin ⟨_, _, rfl, by simpa using hvs.set hv j⟩
          refine wpAny_bind (wpAny_setSeqItemAt hob rfl ?_)
          first
            | exact wpAny_bind (wpAny_pure (wpAny_pure ⟨.none, rfl, wpAny_pure (h _ s.toks _ X' I')⟩))
            | exact wpAny_pure ⟨.none, rfl, wpAny_pure (h _ s.toks _ X' I')⟩
      | _ => exact no e
    | _ => exact no e
  | _ => exact no e

theorem appV_ok {o v : V} {l : Addr} {v' : Value} {Q : Value → Shared → Prop} (I : Inv C ρ H s.heap) (ho : VR ρ o (.ref l)) (hv : VR ρ v v') (e : appV H o v = some H')
    (h : PostU C ρ s H' (Q .none)) : wpAny (model C.prog C.w) A (call (.builtin "list.append") [.ref l, v']) Q E s := by
  cases ho with
  | @ref k _ hl =>
    delta appV at e
    dsimp only at e
    cases hx : H[k]? with
    | none => rw [hx] at e; exact no e
    | some ob =>
    rw [hx] at e
    cases ob with
    | list xs =>
      refine ifK e fun hh e => ?_
      · cases e
        obtain ⟨ob, hob, vs, ep, rfl, hvs⟩ := I.objs _ _ _ hx hl
        refine wpAny_list_append_plain (items := vs.toArray) ⟨_, hob⟩ (fun h' hl' hs' => ?_) (by have := hvs.length; have := lineBig; simp; (first | lia | omega))
        obtain ⟨n', hl'⟩ := hl'
        obtain ⟨I', X'⟩ := I.upd (k := k) (O := .list (xs ++ [v])) hx rfl hl (fun b hb => hs'.2 b hb) hl' ⟨vs ++ [v'], n', by simp, hvs.append ⟨hv, trivial⟩⟩
        exact h _ s.toks _ X' I'
    | _ => exact no e

theorem bool_not_eq_true' {a b : Bool} (h : a = b) : (!a) = (!b) := by rw [h]

theorem ints_at {xs : List Value} {is : List Int} (h : IntsAre xs is) : ∀ (j : Nat) (x : Value), xs[j]? = some x → ∃ i t, is[j]? = some i ∧ x = Value.int i t := by
  induction h with
  | nil => intro j x e; simp at e
  | cons n t _ ih =>
    intro j x e
    cases j with
    | zero => simp at e; exact ⟨n, t, rfl, e.symm⟩
    | succ j => simpa using ih j x (by simpa using e)

theorem IntsAre.len {xs : List Value} {is : List Int} (h : IntsAre xs is) : xs.length = is.length := by
  induction h with
  | nil => rfl
  | cons _ _ _ ih => simp [ih]

theorem all_eq (is js : List Int) (h : is.length = js.length) : (List.range is.length).all (fun j => is[j]?.getD 0 == js[j]?.getD 0) = (is == js) := by
  induction is generalizing js with
  | nil => cases js with
    | nil => rfl
    | cons _ _ => simp at h
  | cons a r ih =>
    cases js with
    | nil => simp at h
    | cons b q =>
      have := ih q (by simpa using h)
      rw [List.length_cons, List.range_succ_eq_map, List.all_cons, List.all_map]
      simp only [List.getElem?_cons_zero, Option.getD_some, Function.comp_def, List.getElem?_cons_succ]
      rw [this]
      simp

theorem eqAt_ints {xs ys : List Value} {is js : List Int} (hx : IntsAre xs is) (hy : IntsAre ys js) (A : Around) (s : Shared) :
    ∀ j (h1 : j < xs.toArray.size) (h2 : j < ys.toArray.size), SeqAt.EqAt A s xs.toArray[j] ys.toArray[j] (is[j]?.getD 0 == js[j]?.getD 0) := by
  intro j h1 h2
  obtain ⟨i, t, e1, e2⟩ := ints_at hx j xs.toArray[j] (by simp)
  obtain ⟨i', t', e1', e2'⟩ := ints_at hy j ys.toArray[j] (by simp)
  rw [e2, e2', e1, e1']
  exact (MeetsSeq.EqGives.int i i' t t').at A s

theorem len_ne {is js : List Int} (h : is.length ≠ js.length) : (is == js) = false := by
  rw [beq_eq_false_iff_ne]; rintro rfl; exact h rfl

theorem rc_ok {a b : V} {a' b' : Value} {r : Bool} {n : Nat} (I : Inv C ρ H s.heap) (hA : AOk A n) (ha : VR ρ a a') (hb : VR ρ b b') (e : eqV H a b = some r) :
    (∀ Q : Value → Shared → Prop, Q (.bool r) s → wpAny (model C.prog C.w) A (compareOp .Eq a' b') Q E s) ∧
    (∀ Q : Value → Shared → Prop, Q (.bool !r) s → wpAny (model C.prog C.w) A (compareOp .NotEq a' b') Q E s) := by
  have hu : A.units < cLine := hA.line
  cases ha with
  | int i t =>
    cases hb with
    | int j u => cases e; exact ⟨fun Q h => PyProof.Rows.eq_int h, fun Q h => PyProof.Rows.ne_int (by simpa [bne] using h)⟩
    | _ => exact no e
  | bool i =>
    cases hb with
    | bool j => cases e; exact ⟨fun Q h => PyProof.Rows.eq_bool h, fun Q h => PyProof.Rows.ne_bool (by simpa [bne] using h)⟩
    | _ => exact no e
  | @ref k l hl =>
    cases hb with
    | @ref k2 l2 hl2 =>
      delta eqV at e
      dsimp only at e
      cases hx : H[k]? with
      | none => rw [hx] at e; exact no e
      | some ob =>
      cases hy : H[k2]? with
      | none => rw [hx, hy] at e; cases ob <;> exact no e
      | some ob2 =>
      rw [hx, hy] at e
      cases ob with
      | list xs =>
        cases ob2 with
        | list ys =>
          dsimp only at e
          cases hp : intsOf xs with
          | none => rw [hp] at e; exact no e
          | some p =>
          cases hq : intsOf ys with
          | none => rw [hp, hq] at e; exact no e
          | some q =>
          rw [hp, hq] at e
          cases so e
          obtain ⟨o, ho, vs, ep, rfl, hv⟩ := I.objs _ _ _ hx hl
          obtain ⟨o2, ho2, vs2, ep2, rfl, hv2⟩ := I.objs _ _ _ hy hl2
          have i1 := hv.ints hp
          have i2 := hv2.ints hq
          have l1 : s.heap.IsList l vs.toArray := ⟨_, ho, rfl, _, rfl⟩
          have l2 : s.heap.IsList l2 vs2.toArray := ⟨_, ho2, rfl, _, rfl⟩
          have n1 := IntsAre.len i1
          have n2 := IntsAre.len i2
          by_cases hn : p.length = q.length
          · have hall := all_eq p q hn
            have hsz : vs.toArray.size = vs2.toArray.size := by simp; (first | lia | omega)
            have hps : vs.toArray.size = p.length := by simp; (first | lia | omega)
            rw [← hall, ← hps]
            exact ⟨fun Q h => SeqAt.RcAt.lists l1 l2 hsz hu (eqAt_ints i1 i2 _ _) _ _ _ _ h, fun Q h => SeqAt.RcNeAt.lists l1 l2 hsz hu (eqAt_ints i1 i2 _ _) _ _ _ _ h⟩
          · rw [len_ne hn]
            have hsz : (vs.toArray.size != vs2.toArray.size) = true := by simp; (first | lia | omega)
            exact ⟨fun Q h => SeqAt.RcAt.lists_lengths l1 l2 hsz hu _ _ _ _ h, fun Q h => SeqAt.RcNeAt.lists_lengths l1 l2 hsz hu _ _ _ _ h⟩
        | _ => exact no e
      | tup xs =>
        cases ob2 with
        | tup ys =>
          dsimp only at e
          cases hp : intsOf xs with
          | none => rw [hp] at e; exact no e
          | some p =>
          cases hq : intsOf ys with
          | none => rw [hp, hq] at e; exact no e
          | some q =>
          rw [hp, hq] at e
          cases so e
          obtain ⟨o, ho, vs, ep, rfl, hv⟩ := I.objs _ _ _ hx hl
          obtain ⟨o2, ho2, vs2, ep2, rfl, hv2⟩ := I.objs _ _ _ hy hl2
          have i1 := hv.ints hp
          have i2 := hv2.ints hq
          have l1 : s.heap.IsTuple l vs.toArray := ⟨_, ho, rfl, _, rfl⟩
          have l2 : s.heap.IsTuple l2 vs2.toArray := ⟨_, ho2, rfl, _, rfl⟩
          have n1 := IntsAre.len i1
          have n2 := IntsAre.len i2
          have key : ((List.range (min vs.toArray.size vs2.toArray.size)).all (fun j => p[j]?.getD 0 == q[j]?.getD 0) && vs.toArray.size == vs2.toArray.size) = (p == q) := by
            by_cases hn : p.length = q.length
            · have hsz : vs.toArray.size = vs2.toArray.size := by simp; (first | lia | omega)
              have hps : vs.toArray.size = p.length := by simp; (first | lia | omega)
              rw [← all_eq p q hn, ← hsz, Nat.min_self, hps]; simp
            · have hsz : vs.toArray.size ≠ vs2.toArray.size := by simp; (first | lia | omega)
              rw [len_ne hn, beq_false_of_ne hsz, Bool.and_false]
          rw [← key]
          exact ⟨fun Q h => SeqAt.RcAt.tuples l1 l2 hu (eqAt_ints i1 i2 _ _) _ _ _ _ h, fun Q h => SeqAt.RcNeAt.tuples l1 l2 hu (eqAt_ints i1 i2 _ _) _ _ _ _ h⟩
        | _ => exact no e
      | _ => exact no e
    | _ => exact no e
  | _ => exact no e

theorem any_ints {xs : List Value} {is : List Int} (h : IntsAre xs is) (a : Int) : xs.toArray.any (fun y => match y with | .int i _ => i == a | _ => false) = is.contains a := by
  rw [List.any_toArray]
  induction h with
  | nil => rfl
  | cons n t _ ih => rw [List.any_cons, ih, List.contains_cons]; simp [Bool.beq_comm]

theorem in_ok {a b : V} {a' b' : Value} {r : Bool} (I : Inv C ρ H s.heap) (ha : VR ρ a a') (hb : VR ρ b b') (e : inV H a b = some r) :
    (∀ Q : Value → Shared → Prop, Q (.bool r) s → wpAny (model C.prog C.w) A (compareOp .In a' b') Q E s) ∧
    (∀ Q : Value → Shared → Prop, Q (.bool !r) s → wpAny (model C.prog C.w) A (compareOp .NotIn a' b') Q E s) := by
  cases ha with
  | int i t =>
    cases hb with
    | @ref k l hl =>
      delta inV at e
      dsimp only at e
      have he : ∀ {vs : List Value} {p : List Int}, IntsAre vs p → ∀ y, y ∈ vs.toArray → SeqAt.EqAt A.in1 s y (.int i t) ((fun y => match y with | .int j _ => j == i | _ => false) y) := by
        intro vs p hi y hy
        obtain ⟨j, hj, rfl⟩ := List.mem_iff_getElem.mp (by simpa using hy)
        obtain ⟨n, u, e1, e2⟩ := ints_at hi j vs[j] (List.getElem?_eq_getElem hj)
        rw [e2]
        exact (MeetsSeq.EqGives.int n i u t).at _ _
      cases hx : H[k]? with
      | none => rw [hx] at e; exact no e
      | some ob =>
      rw [hx] at e
      cases ob with
      | list xs =>
        refine mapK e fun p hp hr => ?_
        subst hr
        obtain ⟨o, ho, vs, ep, rfl, hv⟩ := I.objs _ _ _ hx hl
        have i1 := hv.ints hp
        rw [← any_ints i1]
        exact ⟨fun Q h => SeqAt.in_listAt _ ⟨_, ho, rfl, _, rfl⟩ (he i1) h, fun Q h => SeqAt.notIn_listAt _ ⟨_, ho, rfl, _, rfl⟩ (he i1) h⟩
      | tup xs =>
        refine mapK e fun p hp hr => ?_
        subst hr
        obtain ⟨o, ho, vs, ep, rfl, hv⟩ := I.objs _ _ _ hx hl
        have i1 := hv.ints hp
        rw [← any_ints i1]
        exact ⟨fun Q h => SeqAt.in_tupleAt _ ⟨_, ho, rfl, _, rfl⟩ (he i1) h, fun Q h => SeqAt.notIn_tupleAt _ ⟨_, ho, rfl, _, rfl⟩ (he i1) h⟩
      | _ => exact no e
    | _ => exact no e
  | _ => exact no e

theorem cmpV_ok {op : CmpOp} {a b : V} {a' b' : Value} {r : Bool} {n : Nat} {Q : Value → Shared → Prop} (I : Inv C ρ H s.heap) (hA : AOk A n) (ha : VR ρ a a') (hb : VR ρ b b') (e : cmpV H op a b = some r)
    (h : Q (.bool r) s) : wpAny (model C.prog C.w) A (compareOp op a' b') Q E s := by
  cases op
  case Eq => exact (rc_ok I hA ha hb e).1 Q h
  case NotEq =>
    refine mapK e fun r' e' hr => ?_
    subst hr
    exact (rc_ok I hA ha hb e').2 Q h
  case In => exact (in_ok I ha hb e).1 Q h
  case NotIn =>
    refine mapK e fun r' e' hr => ?_
    subst hr
    exact (in_ok I ha hb e').2 Q h
  case Lt =>
    cases ha with
    | int i t =>
      cases hb with
      | int j u => cases so e; exact PyProof.Rows.lt_int h
      | _ => exact no e
    | _ => exact no e
  case LtE =>
    cases ha with
    | int i t =>
      cases hb with
      | int j u => cases so e; exact PyProof.Rows.le_int h
      | _ => exact no e
    | _ => exact no e
  case Gt =>
    cases ha with
    | int i t =>
      cases hb with
      | int j u => cases so e; exact PyProof.Rows.gt_int h
      | _ => exact no e
    | _ => exact no e
  case GtE =>
    cases ha with
    | int i t =>
      cases hb with
      | int j u => cases so e; exact PyProof.Rows.ge_int h
      | _ => exact no e
    | _ => exact no e
  all_goals exact no e
end
end Mine
end
section
open PySem PySem.W PyProof.Rows
namespace Mine
structure ClsOk (K : Frag) (an : List Str) (Ca : Addr) : Prop where
  getattr : findIn K (.ref Ca) "__getattribute__" = some (some (.builtin "object.__getattribute__"))
  setattr : findIn K (.ref Ca) "__setattr__" = some (some (.builtin "object.__setattr__"))
  plain : plainOver K Ca = true
  hasDict : hasDictIn K Ca = true
  no : ∀ x ∈ an, findIn K (.ref Ca) x = some none

structure Good (C : Con) : Prop where
  X : C.K.In C.base
  nodup : C.an.Nodup
  cls : ∀ (c : Nat) Ca, C.cl[c]? = some Ca → ClsOk C.K C.an Ca

section
variable {C : Con} {A : Around} {E : Value → Shared → Prop} {s : Shared} {ρ : List Addr} {H H' : Hp}

theorem Inv.K {h : Heap} (I : Inv C ρ H h) (G : Good C) : C.K.In h := G.X.keeps I.base

theorem inst_at {h : Heap} {k d c : Nat} {x : Addr} (I : Inv C ρ H h) (hk : H[k]? = some (.inst c d)) (hx : ρ[k]? = some x) {m : List (Nat × V)} (hd : H[d]? = some (.attrs m)) :
    ∃ Ca dx od es ep, C.cl[c]? = some Ca ∧ ρ[d]? = some dx ∧ h.get? dx = some od ∧ od.data = .dict es ep ∧ StrAttrs ρ C.an m es ∧ h.get? x = some (instObj Ca dx) ∧ InstAt h x (instObj Ca dx) Ca (some od) := by
  obtain ⟨o, ho, Ca, dx, h1, h2, rfl⟩ := I.objs _ _ _ hk hx
  obtain ⟨od, hod, es, ep, h3, h4⟩ := I.objs _ _ _ hd h2
  exact ⟨Ca, dx, od, es, ep, h1, h2, hod, h3, h4, ho, ⟨ho, rfl, rfl, hod⟩⟩

theorem lookIn_of {od : Obj} {es : Array DictEntry} {ep : Nat} {x : Str} {v : Value} (hd : od.data = .dict es ep) (h : nsFind es x = some v) : lookIn x od = some (some v) := by
  unfold lookIn; rw [hd]; dsimp only
  unfold nsFind findBy at h
  rw [← Array.find?_toList] at h
  obtain ⟨e, h1, rfl⟩ := Option.map_eq_some_iff.mp h
  rw [h1]

theorem handed {v : V} {v' : Value} (h : VR ρ v v') : handedIn v' = true := by cases h <;> rfl

theorem getA_ok {o v : V} {o' : Value} {a : Nat} {name : Str} {expr : Bool} {Q : Value → Shared → Prop} (G : Good C) (I : Inv C ρ H s.heap) (ho : VR ρ o o') (ha : C.an[a]? = some name) (e : getA H o a = some v)
    (h : ∀ v' tk, VR ρ v v' → Q v' { s with toks := tk }) : wpAny (model C.prog C.w) A (getAttr o' name expr) Q E s := by
  cases ho with
  | @ref k x hx =>
    delta getA at e
    dsimp only at e
    cases hk : H[k]? with
    | none => rw [hk] at e; exact no e
    | some ob =>
    rw [hk] at e
    cases ob with
    | inst c d =>
      dsimp only at e
      cases hm : H[d]? with
      | none => rw [hm] at e; exact no e
      | some ob2 =>
      rw [hm] at e
      cases ob2 with
      | attrs m =>
        obtain ⟨Ca, dx, od, es, ep, h1, h2, h3, h4, h5, h6, h7⟩ := inst_at I hk hx hm
        obtain ⟨v', hv, hr⟩ := h5.2.2 a name v ha e
        have O := G.cls c Ca h1
        have X := I.K G
        refine get_value X h7 O.getattr ?_ (handed hr) (h v' _ hr)
        obtain ⟨cd, hc, hd⟩ := any_some O.hasDict
        unfold findObj
        rw [hc, Option.bind_some, O.no name (List.mem_of_getElem? ha), Option.bind_some]
        simp only [Option.bind_some]
        unfold PySem.W.ownOf
        rw [if_pos hd]
        dsimp only
        rw [lookIn_of h4 hv]
        rfl
      | _ => exact no e
    | _ => exact no e
  | _ => exact no e

theorem lookup_putA (a b : Nat) (v : V) : ∀ m : List (Nat × V), (putA a v m).lookup b = if b = a then some v else m.lookup b
  | [] => by
    simp only [putA, List.lookup_cons, List.lookup_nil]
    by_cases h : b = a
    · subst h; simp
    · have hb : (b == a) = false := beq_false_of_ne h
      rw [hb, if_neg h]
  | (c, w) :: r => by
    simp only [putA]
    by_cases hac : (a == c) = true
    · rw [if_pos hac]
      have : a = c := by simpa using hac
      subst this
      simp only [List.lookup_cons]
      by_cases h : b = a
      · subst h; simp
      · have hb : (b == a) = false := beq_false_of_ne h
        rw [hb, if_neg h]
    · rw [if_neg hac]
      simp only [List.lookup_cons, lookup_putA a b v r]
      have : a ≠ c := by simpa using hac
      by_cases h : b = a
      · subst h
        have hb : (b == c) = false := beq_false_of_ne this
        rw [hb]
      · rw [if_neg h, if_neg h]

theorem length_putA (a : Nat) (v : V) : ∀ m : List (Nat × V), (putA a v m).length = if (m.lookup a).isSome then m.length else m.length + 1
  | [] => by simp [putA]
  | (c, w) :: r => by
    simp only [putA]
    by_cases hac : (a == c) = true
    · rw [if_pos hac]; simp [List.lookup_cons, hac]
    · rw [if_neg hac]
      have : (a == c) = false := by simpa using hac
      simp only [List.length_cons, length_putA a v r, List.lookup_cons, this]
      split <;> rfl

theorem setA_ok {o v : V} {o' v' : Value} {a : Nat} {name : Str} {Q : Unit → Shared → Prop} (G : Good C) (I : Inv C ρ H s.heap) (ho : VR ρ o o') (hv : VR ρ v v') (ha : C.an[a]? = some name) (e : setA H o a v = some H')
    (h : PostU C ρ s H' (Q ())) : wpAny (model C.prog C.w) A (setAttr o' name v') Q E s := by
  cases ho with
  | @ref k x hx =>
    delta setA at e
    dsimp only at e
    cases hk : H[k]? with
    | none => rw [hk] at e; exact no e
    | some ob =>
    rw [hk] at e
    cases ob with
    | inst c d =>
      dsimp only at e
      cases hm : H[d]? with
      | none => rw [hm] at e; exact no e
      | some ob2 =>
      rw [hm] at e
      cases ob2 with
      | attrs m =>
        refine ifK e fun hlen e => ?_
        · cases e
          obtain ⟨Ca, dx, od, es, ep, h1, h2, h3, h4, h5, h6, h7⟩ := inst_at I hk hx hm
          have O := G.cls c Ca h1
          have X := I.K G
          obtain ⟨hkeys, hsize, hall⟩ := h5
          have hany : es.any (·.refKey) = false := by
            rw [Array.any_eq_false']; intro e he; obtain ⟨n, t, h⟩ := hkeys e he; simp [DictEntry.refKey, h]
          have hno := O.no name (List.mem_of_getElem? ha)
          have htk : takerIn C.K Ca name = some none := by unfold takerIn; rw [hno]; rfl
          refine set_plain X h7 O.setattr ?_
          refine osa_open (s := { s with toks := s.toks + 1 }) X h7 O.plain htk fun b => ?_
          obtain ⟨cd, hc, hd'⟩ := any_some O.hasDict
          refine wpAny_bind (wpAny_pure (wpAny_bind (wpAny_bind (wpAny_loadPart h6 (wpAny_bind ((looks_clsIn X hc).at ?_))))))
          rw [hd']
          refine wpAny_pure (a := some dx) (wpAny_bind (wpAny_pure (wpAny_bind ?_)))
          unfold nsSet
          refine wpAny_bind (wpAny_bind (wpAny_askSetting (wpAny_pure (wpAny_bind (wpAny_mkText (wpAny_bind (wpAny_loadPart h3 ?_)))))))
          rw [h4]
          dsimp only
          rw [aRefKeyMayBeTheName_at, hany, Bool.and_false]
          refine wpAny_updatePart h3 ?_
          obtain ⟨oc, odi, oda, osl⟩ := od
          dsimp only at h4
          subst h4
          have key : ∃ es' ep', Obj.putName name (PyData.keyHash C.w.params name) (.str name (s.toks + 1)) v' ⟨oc, odi, .dict es ep, osl⟩ = ⟨oc, odi, .dict es' ep', osl⟩ ∧
              StrAttrs ρ C.an (putA a v m) es' ∧ es'.size ≤ es.size + 1 := by
            cases hi : es.findIdx? (·.key.isStr name) with
            | some i =>
              refine ⟨es.modify i fun e => { e with val := v' }, ep, by simp only [Obj.putName_eq, Obj.putNameByArray, hi], ⟨hkeys.modify _ _, ?_, fun j y w hj hw => ?_⟩, by simp⟩
              · rw [length_putA]; simp only [Array.size_modify]; split <;> (first | lia | omega)
              · have hf := findBy_modify (fun n v => v.isStr n) Value.isStr_inj es name y v' i hi
                show ∃ w', findBy _ _ _ = _ ∧ _
                rw [hf]
                rw [lookup_putA] at hw
                by_cases hja : j = a
                · subst hja
                  rw [ha] at hj; cases hj
                  rw [if_pos rfl] at hw; cases hw
                  exact ⟨v', by rw [if_pos rfl], hv⟩
                · rw [if_neg hja] at hw
                  have hy : y ≠ name := fun hyn => by
                    subst hyn
                    have e1 := List.getElem?_eq_some_iff.mp hj
                    have e2 := List.getElem?_eq_some_iff.mp ha
                    exact hja ((List.getElem_inj G.nodup (h₀ := e1.1) (h₁ := e2.1)).mp (e1.2.trans e2.2.symm))
                  rw [if_neg hy]
                  exact hall j y w hj hw
            | none =>
              refine ⟨es.push ⟨PyData.keyHash C.w.params name, .str name (s.toks + 1), v'⟩, ep + 1, by simp only [Obj.putName_eq, Obj.putNameByArray, hi], ⟨hkeys.push _ _ _ _, ?_, fun j y w hj hw => ?_⟩, by simp⟩
              · rw [length_putA]
                have : (m.lookup a).isSome = false := by
                  cases hl : m.lookup a with
                  | none => rfl
                  | some w =>
                    obtain ⟨w', hw', _⟩ := hall a name w ha hl
                    unfold nsFind at hw'
                    rw [findBy_of_findIdx? (fun n v => v.isStr n) es name, hi] at hw'
                    cases hw'
                rw [this]; simp; (first | lia | omega)
              · have hf := findBy_push (fun n v => v.isStr n) es name y (PyData.keyHash C.w.params name) (.str name (s.toks + 1)) v' (fun y => by
                  show (name == y) = decide (y = name)
                  by_cases h : y = name
                  · subst h; simp
                  · have : ¬ name = y := fun e => h e.symm
                    simp [h, this]) hi
                show ∃ w', findBy _ _ _ = _ ∧ _
                rw [hf]
                rw [lookup_putA] at hw
                by_cases hja : j = a
                · subst hja
                  rw [ha] at hj; cases hj
                  rw [if_pos rfl] at hw; cases hw
                  exact ⟨v', by rw [if_pos rfl], hv⟩
                · rw [if_neg hja] at hw
                  have hy : y ≠ name := fun hyn => by
                    subst hyn
                    have e1 := List.getElem?_eq_some_iff.mp hj
                    have e2 := List.getElem?_eq_some_iff.mp ha
                    exact hja ((List.getElem_inj G.nodup (h₀ := e1.1) (h₁ := e2.1)).mp (e1.2.trans e2.2.symm))
                  rw [if_neg hy]
                  exact hall j y w hj hw
          obtain ⟨es', ep', hput, hat, hsz⟩ := key
          have hnew : (s.heap.update dx (Obj.putName name (PyData.keyHash C.w.params name) (.str name (s.toks + 1)) v')).get? dx = some ⟨oc, odi, .dict es' ep', osl⟩ := by
            rw [Heap.get?_update_self _ h3 (by rw [hput]; rfl), hput]
          obtain ⟨I', X'⟩ := I.upd (k := d) (O := .attrs (putA a v m)) hm rfl h2 (fun b hb => Heap.get?_update_other _ _ (Ne.symm hb)) hnew ⟨_, _, rfl, hat⟩
          refine wpAny_bind (wpAny_lookBehind hnew (pastItsLine_dict (by have := lineBig; (first | lia | omega))) ?_)
          exact wpAny_pure (h _ _ _ X' I')
      | _ => exact no e
    | _ => exact no e
  | _ => exact no e

theorem mkRng_ok {a b c : Int} {v : V} {h' : Heap} {x : Addr} {t u w : Tok} (I : Inv C ρ H s.heap) (e : mkRng H a b c = some (v, H')) (hx : h' = s.heap.push { cls := .type "range", data := .fields #[.int a t, .int b u, .int c w] }) (hxx : x = s.heap.objs.size) :
    Inv C (ρ ++ [x]) H' h' ∧ Ext C ρ s.heap (ρ ++ [x]) h' ∧ VR (ρ ++ [x]) v (.ref x) := by
  subst hx hxx
  refine ifK e fun _ e2 => ?_
  clear e
  · cases so e2
    obtain ⟨I', X'⟩ := I.push (O := .rng a b c) (o := { cls := .type "range", data := .fields #[.int a t, .int b u, .int c w] }) rfl ⟨t, u, w, rfl⟩
    exact ⟨I', X', .ref (last_get I.len)⟩

noncomputable def biVal : Bi → Value
  | .range => .type "range"
  | .len => .builtin "len"
  | .abs => .builtin "abs"
  | .max => .builtin "max"
  | .min => .builtin "min"

theorem seqOf_ok {h : Heap} {k : Nat} {l : Addr} {xs : List V} (I : Inv C ρ H h) (hl : ρ[k]? = some l) (e : seqOf H k = some xs) : ∃ vs : List Value, h.IsList l vs.toArray ∧ VRs ρ xs vs := by
  delta seqOf at e
  cases hx : H[k]? with
  | none => rw [hx] at e; exact no e
  | some ob =>
  rw [hx] at e
  cases ob with
  | list ys =>
    cases so e
    obtain ⟨o, ho, vs, ep, rfl, hv⟩ := I.objs _ _ _ hx hl
    exact ⟨vs, ⟨_, ho, rfl, _, rfl⟩, hv⟩
  | clist ys =>
    cases so e
    obtain ⟨o, ho, hc, vs, ep, hd, hv⟩ := I.objs _ _ _ hx hl
    exact ⟨vs, ⟨_, ho, hc, _, hd⟩, hv⟩
  | _ => exact no e

theorem one_or {vs : List V} {xs : List Value} {G : Prop} (hv : VRs ρ vs xs) (k1 : ∀ a x, VR ρ a x → vs = [a] → xs = [x] → G) (k2 : vs.length ≠ 1 → G) : G := by
  cases vs with
  | nil => exact k2 (by decide)
  | cons a r =>
  cases r with
  | cons _ _ => exact k2 (fun h => nomatch h)
  | nil =>
  cases xs with
  | nil => exact hv.elim
  | cons x xr =>
  cases xr with
  | nil => exact k1 a x hv.1 rfl rfl
  | cons _ _ => exact hv.2.elim
theorem two_or {vs : List V} {xs : List Value} {G : Prop} (hv : VRs ρ vs xs) (k1 : ∀ a b x y, VR ρ a x → VR ρ b y → vs = [a, b] → xs = [x, y] → G) (k2 : vs.length ≠ 2 → G) : G := by
  cases vs with
  | nil => exact k2 (by decide)
  | cons a r =>
  cases r with
  | nil => exact k2 (fun h => nomatch h)
  | cons b r =>
  cases r with
  | cons _ _ => exact k2 (fun h => nomatch h)
  | nil =>
  cases xs with
  | nil => exact hv.elim
  | cons x xr =>
  cases xr with
  | nil => exact hv.2.elim
  | cons y xr =>
  cases xr with
  | nil => exact k1 a b x y hv.1 hv.2.1 rfl rfl
  | cons _ _ => exact hv.2.2.elim
theorem biV_one {b : Bi} {vs : List V} (hb : b = .len ∨ b = .abs) (h : vs.length ≠ 1) : biV H b vs = none := by
  cases vs with
  | nil => rcases hb with rfl | rfl <;> rfl
  | cons a r =>
  cases r with
  | nil => exact absurd rfl h
  | cons _ _ => cases a <;> rcases hb with rfl | rfl <;> rfl
theorem biV_two {b : Bi} {vs : List V} (hb : b = .max ∨ b = .min) (h : vs.length ≠ 2) : biV H b vs = none := by
  cases vs with
  | nil => rcases hb with rfl | rfl <;> rfl
  | cons a r =>
  cases r with
  | nil => cases a <;> rcases hb with rfl | rfl <;> rfl
  | cons c r =>
  cases r with
  | nil => exact absurd rfl h
  | cons _ _ => cases a <;> cases c <;> rcases hb with rfl | rfl <;> rfl
theorem biV_ok {b : Bi} {vs : List V} {xs : List Value} {v : V} {n : Nat} {Q : Value → Shared → Prop} (hA : AOk A n) (I : Inv C ρ H s.heap) (hv : VRs ρ vs xs) (e : biV H b vs = some (v, H'))
    (h : Post C ρ s H' v Q) : wpAny (model C.prog C.w) A (call (biVal b) xs) Q E s := by
  cases b with
  | range =>
    cases hv0 : vs with
    | nil => subst hv0; exact no e
    | cons a r =>
    subst hv0
    cases xs with
    | nil => exact hv.elim
    | cons x xr =>
    obtain ⟨ha, hr⟩ := hv
    cases ha with
    | int i t =>
      cases r with
      | nil =>
        cases xr with
        | cons _ _ => exact hr.elim
        | nil =>
        refine call_range_1 ?_
        obtain ⟨I', X', r⟩ := mkRng_ok I e rfl rfl
        exact h _ _ _ _ X' I' r
      | cons b r =>
      cases xr with
      | nil => exact hr.elim
      | cons y yr =>
      obtain ⟨hb, hr⟩ := hr
      cases hb with
      | int j u =>
        cases r with
        | nil =>
          cases yr with
          | cons _ _ => exact hr.elim
          | nil =>
          refine call_range_2 ?_
          obtain ⟨I', X', r⟩ := mkRng_ok I e rfl rfl
          exact h _ _ _ _ X' I' r
        | cons c r =>
        cases yr with
        | nil => exact hr.elim
        | cons z zr =>
        obtain ⟨hc, hr⟩ := hr
        cases hc with
        | int m w =>
          cases r with
          | cons _ _ => exact no e
          | nil =>
          cases zr with
          | cons _ _ => exact hr.elim
          | nil =>
          refine ifK e fun hok' _ => ?_
          unfold rngOk at hok'
          simp only [Bool.and_eq_true, decide_eq_true_eq] at hok'
          refine call_range_3 hok'.2 ?_ (Or.inl (PyProof.noPylong_small (Nat.lt_of_le_of_lt hok'.1.2 (by decide))))
          obtain ⟨I', X', r⟩ := mkRng_ok I e rfl rfl
          exact h _ s.toks _ _ X' I' r
        | _ => exact no e
      | _ => cases r <;> exact no e
    | _ => exact no e
  | len =>
    refine one_or hv (fun a x ha ev ex => ?_) fun hn => ?_
    · subst ev ex
      cases ha with
      | @ref k l hl =>
        delta biV at e
        dsimp only at e
        cases hy : seqOf H k with
        | none => rw [hy] at e; exact no e
        | some ys =>
        rw [hy] at e
        refine ifK e fun hlen e2 => ?_
        clear e
        cases so e2
        obtain ⟨ws, hw, hr⟩ := seqOf_ok I hl hy
        have hn := hr.length
        have hs : ws.toArray.size = ys.length := List.size_toArray.trans hn.symm
        refine PyProof.Rows.len_list hw (by rw [hs]; (first | lia | omega)) ?_
        rw [hs]
        exact h s.heap _ ρ _ (.refl ..) I (.int ..)
      | _ => exact no e
    · exact no ((biV_one (by first | exact .inl rfl | exact .inr rfl) hn).symm.trans e)
  | abs =>
    refine one_or hv (fun a x ha ev ex => ?_) fun hn => ?_
    · subst ev ex
      cases ha with
      | int i t =>
        cases so e
        exact PyProof.Rows.call_abs_int fun u tk => h s.heap tk ρ _ (.refl ..) I (.int ..)
      | _ => exact no e
    · exact no ((biV_one (by first | exact .inl rfl | exact .inr rfl) hn).symm.trans e)
  | max =>
    refine two_or hv (fun a b x y ha hb ev ex => ?_) fun hn => ?_
    · subst ev ex
      cases ha with
      | int i t =>
        cases hb with
        | int j u =>
          cases so e
          refine max_two_ints hA.handled fun h' tk hk => ?_
          obtain ⟨I', X'⟩ := I.grow hk
          have := h h' tk ρ
          split
          · rename_i hh; exact this _ X' I' (by rw [if_pos hh]; exact .int ..)
          · rename_i hh; exact this _ X' I' (by rw [if_neg hh]; exact .int ..)
        | _ => exact no e
      | _ => exact no e
    · exact no ((biV_two (.inl rfl) hn).symm.trans e)
  | min =>
    refine two_or hv (fun a b x y ha hb ev ex => ?_) fun hn => ?_
    · subst ev ex
      cases ha with
      | int i t =>
        cases hb with
        | int j u =>
          cases so e
          refine min_two_ints hA.handled fun h' tk hk => ?_
          obtain ⟨I', X'⟩ := I.grow hk
          have := h h' tk ρ
          split
          · rename_i hh; exact this _ X' I' (by rw [if_pos hh]; exact .int ..)
          · rename_i hh; exact this _ X' I' (by rw [if_neg hh]; exact .int ..)
        | _ => exact no e
      | _ => exact no e
    · exact no ((biV_two (.inr rfl) hn).symm.trans e)
end
end Mine
end
section
open PySem PySem.W PyProof.Rows
namespace Mine
/-- the names of a frame's scope that hold values -/
noncomputable def varsOf (names : List (Str × NameKind)) : List Str := names.filterMap fun x => if x.2 == .local || x.2 == .cell then some x.1 else none

/-- a def of the text and the abstract one -/
structure FnOk (C : Con) (g : Gt) (a : Addr) (d : FD) : Prop where
  ex : ∃ o fd body cd, C.base.get? a = some o ∧ o.data = .func fd ∧ fd.closure = [] ∧ fd.body = .stmts body ∧ fd.globals = mainGlobals ∧ fd.builtins = builtinsNs ∧
    fd.scope.kind = .function ∧ fd.scope.isGenerator = false ∧ fd.scope.isCoroutine = false ∧ fd.code = cd ∧ C.base.CodeRec cd fd.qualname ∧
    (∀ vals : List Value, vals.length = d.np → bindArgs fd ⟨vals, []⟩ = pure (((varsOf fd.scope.names).take d.np).zip vals)) ∧
    mapO (trS g 60 ⟨fd.scope.names, varsOf fd.scope.names⟩) body = some d.body ∧ (varsOf fd.scope.names).length = d.nl ∧ d.np ≤ d.nl ∧ (fd.scope.names.map (·.1)).Nodup ∧ keepIn C.K (.ref a) = true

structure Tabs (C : Con) (g : Gt) (P : Pg) : Prop extends Good C where
  nsg : C.base.Ns mainGlobals C.mg
  nsb : C.base.Ns builtinsNs C.mb
  nolimit : C.base.NoLimit
  attrs : g.attrs = C.an
  consts : ∀ x v, g.consts.lookup x = some v → ∃ v', C.mg x = some v' ∧ VR C.ρ0 v v'
  fns : ∀ f i, g.fns.lookup f = some i → ∃ a d, C.mg f = some (.ref a) ∧ P.fns[i]? = some d ∧ FnOk C g a d
  clss : ∀ f i, g.clss.lookup f = some i → ∃ Ca j d fa, C.mg f = some (.ref Ca) ∧ C.cl[i]? = some Ca ∧ makesIn C.K Ca = true ∧ keepIn C.K (.ref Ca) = true ∧ P.inits[i]? = some j ∧ P.fns[j]? = some d ∧
    findIn C.K (.ref Ca) "__init__" = some (some (.ref fa)) ∧ typeIn C.K (.ref fa) = some (.type "function") ∧ FnOk C g fa d
  bis : ∀ x b, biOf x = some b → C.mg x = none ∧ C.mb x = some (biVal b)

structure EnvOk (cx : Cx) (env : Env) : Prop where
  kind : env.scope.kind = .function
  globals : env.globals = mainGlobals
  builtins : env.builtins = builtinsNs
  glob : ∀ x, cx.names.lookup x = some .globalImplicit → env.kindOf x = some .globalImplicit
  cellk : ∀ x, cx.names.lookup x = some .cell → env.kindOf x = some .cell

noncomputable def own (env : Env) : List Addr := env.locals :: env.cells.map (·.2)

/-- where the frame may be written -/
structure EnvW (C : Con) (cx : Cx) (env : Env) : Prop extends EnvOk cx env where
  apart : env.cells.Pairwise fun x y => x.2 ≠ y.2
  locs : ∀ n c, (n, c) ∈ env.cells → c ≠ env.locals
  new : ∀ a ∈ own env, C.base.get? a = none
  kinds : ∀ x, cx.names.lookup x = env.kindOf x
  nodup : cx.vars.Nodup

structure FR (cx : Cx) (env : Env) (l : Lc) (ρ : List Addr) (h : Heap) : Prop where
  len : l.length = cx.vars.length
  ns : ∃ m, h.Ns env.locals m ∧ ∀ (i : Nat) x, cx.vars[i]? = some x → env.kindOf x = some .local → ∀ v, l[i]? = some (some v) → ∃ v', m x = some v' ∧ VR ρ v v'
  var : ∀ (i : Nat) x, cx.vars[i]? = some x → env.kindOf x = some .local ∨ (env.kindOf x = some .cell ∧ ∃ c cv, env.cells.lookup x = some c ∧ h.IsCell c cv ∧ ∀ v, l[i]? = some (some v) → ∃ v', cv = some v' ∧ VR ρ v v')
  locNot : env.locals ∉ ρ
  cellNot : ∀ x c, (x, c) ∈ env.cells → c ∉ ρ
  cellHere : ∀ x c, (x, c) ∈ env.cells → ∃ cv, h.IsCell c cv

section
variable {C : Con} {A : Around} {E : Value → Shared → Prop} {s : Shared} {ρ ρ' : List Addr} {H H' : Hp} {cx : Cx} {env : Env} {l : Lc}

theorem Ext.keeps_at {h h' : Heap} (x : Ext C ρ h ρ' h') {a : Addr} (ha : a ∉ ρ) : ∀ o, h.get? a = some o → h'.get? a = some o := fun o e => x.keep a o (fun hm => ha (List.mem_of_mem_drop hm)) e

theorem Ext.not_mem {h h' : Heap} (x : Ext C ρ h ρ' h') {a : Addr} (ha : a ∉ ρ) (he : (h.get? a).isSome = true) : a ∉ ρ' := by
  obtain ⟨t, rfl, ht⟩ := x.pre
  intro hm
  rcases List.mem_append.mp hm with hm | hm
  · exact ha hm
  · rw [ht a hm] at he; cases he

theorem cell_at {h h' : Heap} {c : Addr} {v : Option Value} (x : h.IsCell c v) (hk : ∀ o, h.get? c = some o → h'.get? c = some o) : h'.IsCell c v :=
  let ⟨o, ho, hd⟩ := x; ⟨o, hk o ho, hd⟩

theorem FR.ext {h h' : Heap} (F : FR cx env l ρ h) (x : Ext C ρ h ρ' h') : FR cx env l ρ' h' := by
  obtain ⟨m, hm, hv⟩ := F.ns
  have hl : (h.get? env.locals).isSome = true := by obtain ⟨o, _, _, ho, _⟩ := hm; rw [ho]; rfl
  refine ⟨F.len, ⟨m, hm.at' (x.keeps_at F.locNot), fun i y hy hk v hl => let ⟨v', a, b⟩ := hv i y hy hk v hl; ⟨v', a, b.ext x⟩⟩, fun i y hy => ?_, x.not_mem F.locNot hl, fun y c hc => ?_, fun y c hc => ?_⟩
  · rcases F.var i y hy with h1 | ⟨h1, c, cv, h2, h3, h4⟩
    · exact .inl h1
    · exact .inr ⟨h1, c, cv, h2, cell_at h3 (x.keeps_at (F.cellNot y c (mem_of_lookup h2))), fun v hl => let ⟨v', a, b⟩ := h4 v hl; ⟨v', a, b.ext x⟩⟩
  · obtain ⟨cv, o, ho, _⟩ := F.cellHere y c hc
    exact x.not_mem (F.cellNot y c hc) (by rw [ho]; rfl)
  · obtain ⟨cv, hcv⟩ := F.cellHere y c hc
    exact ⟨cv, cell_at hcv (x.keeps_at (F.cellNot y c hc))⟩

theorem var_ok {i : Nat} {x : Str} {v : V} {Q : Value → Shared → Prop} (O : EnvOk cx env) (F : FR cx env l ρ s.heap) (hx : cx.vars[i]? = some x) (hl : l[i]? = some (some v))
    (h : ∀ v', VR ρ v v' → Q v' s) : wpAny (model C.prog C.w) A (loadName env x) Q E s := by
  rcases F.var i x hx with hk | ⟨hk, c, cv, h2, h3, h4⟩
  · obtain ⟨m, hm, hv⟩ := F.ns
    obtain ⟨v', h1, h2⟩ := hv i x hx hk v hl
    exact wpAny_loadName_local O.kind hk hm h1 (h v' h2)
  · obtain ⟨v', rfl, hr⟩ := h4 v hl
    exact wpAny_loadName_cell O.kind hk h2 h3 (h v' hr)

theorem glob_ok {x : Str} {v' : Value} {pos : Pos} {g : Gt} {P : Pg} {Q : Value → Shared → Prop} (T : Tabs C g P) (I : Inv C ρ H s.heap) (O : EnvOk cx env) (hx : globalIn cx x = true) (hv : C.mg x = some v')
    (h : Q v' s) : wpAny (model C.prog C.w) A (eval (.Name x pos) env) Q E s := by
  unfold globalIn at hx
  simp only [Bool.and_eq_true, bne_iff_ne, ne_eq, beq_iff_eq] at hx
  exact Calls.Name_function_global O.kind (O.glob x hx.1.2) (Calls.loadGlobal_global (by rw [O.globals]; exact T.nsg.keeps I.base) hv h) (by simpa using hx.2)

theorem bi_ok {x : Str} {b : Bi} {pos : Pos} {g : Gt} {P : Pg} {Q : Value → Shared → Prop} (T : Tabs C g P) (I : Inv C ρ H s.heap) (O : EnvOk cx env) (hx : globalIn cx x = true) (hv : biOf x = some b)
    (h : Q (biVal b) s) : wpAny (model C.prog C.w) A (eval (.Name x pos) env) Q E s := by
  unfold globalIn at hx
  simp only [Bool.and_eq_true, bne_iff_ne, ne_eq, beq_iff_eq] at hx
  obtain ⟨h1, h2⟩ := T.bis x b hv
  exact Calls.Name_function_global O.kind (O.glob x hx.1.2) (Calls.loadGlobal_builtin (by rw [O.globals]; exact T.nsg.keeps I.base) h1 (by rw [O.builtins]; exact T.nsb.keeps I.base) h2 h) (by simpa using hx.2)

/-- what statements may change: the call's own objects and the frame's own -/
structure XF (C : Con) (ow : List Addr) (ρ : List Addr) (h : Heap) (ρ' : List Addr) (h' : Heap) : Prop where
  pre : ∃ t, ρ' = ρ ++ t ∧ ∀ a ∈ t, h.get? a = none
  keep : ∀ b o, b ∉ ρ.drop C.ρ0.length → b ∉ ow → h.get? b = some o → h'.get? b = some o
  alive : ∀ b, (h.get? b).isSome = true → (h'.get? b).isSome = true

theorem Ext.xf {h h' : Heap} (x : Ext C ρ h ρ' h') (ow : List Addr) : XF C ow ρ h ρ' h' := ⟨x.pre, fun b o hb _ e => x.keep b o hb e, x.alive⟩
theorem XF.refl (C : Con) (ow : List Addr) (ρ : List Addr) (h : Heap) : XF C ow ρ h ρ h := (Ext.refl C ρ h).xf ow
theorem XF.trans {ow : List Addr} {ρ ρ' ρ'' : List Addr} {h h' h'' : Heap} (hl : C.ρ0.length ≤ ρ.length) (x : XF C ow ρ h ρ' h') (y : XF C ow ρ' h' ρ'' h'') : XF C ow ρ h ρ'' h'' := by
  obtain ⟨t, rfl, ht⟩ := x.pre
  obtain ⟨u, rfl, hu⟩ := y.pre
  refine ⟨⟨t ++ u, by rw [List.append_assoc], fun a ha => ?_⟩, fun b o hb ho e => ?_, fun b e => y.alive b (x.alive b e)⟩
  · rcases List.mem_append.mp ha with ha | ha
    · exact ht a ha
    · have h1 := hu a ha
      cases e : h.get? a with
      | none => rfl
      | some o =>
        have := x.alive a (by rw [e]; rfl)
        rw [h1] at this; cases this
  · refine y.keep b o (fun hm => ?_) ho (x.keep b o hb ho e)
    rcases drop_append_mem hl hm with hm | hm
    · exact hb hm
    · rw [ht b hm] at e; cases e
theorem VR.xf {ow : List Addr} {h h' : Heap} (x : XF C ow ρ h ρ' h') {v : V} {a : Value} (r : VR ρ v a) : VR ρ' v a := by
  obtain ⟨t, rfl, _⟩ := x.pre; exact r.mono
theorem XF.len {ow : List Addr} {h h' : Heap} (x : XF C ow ρ h ρ' h') (hl : C.ρ0.length ≤ ρ.length) : C.ρ0.length ≤ ρ'.length := by
  obtain ⟨t, rfl, _⟩ := x.pre; rw [List.length_append]; omega

/-- the heap is changed off the call's own objects -/
theorem Inv.off {h h' : Heap} {a : Addr} (I : Inv C ρ H h) (ha : a ∉ ρ) (hb : C.base.get? a = none) (hs : Heap.SameBut a h h') : Inv C ρ H h' :=
  ⟨I.len, I.pre, I.nodup, fun k O b e1 e2 => by
    obtain ⟨o, h1, h2⟩ := I.objs k O b e1 e2
    refine ⟨o, ?_, h2⟩
    rw [hs.2 b (fun hba => ha (hba ▸ List.mem_of_getElem? e2))]; exact h1, I.cons, fun b o e => by
    rw [hs.2 b (fun hba => by subst hba; rw [hb] at e; cases e)]; exact I.base b o e, I.low⟩

theorem nodup_get {vars : List Str} (hn : vars.Nodup) {i j : Nat} {x : Str} (hi : vars[i]? = some x) (hj : vars[j]? = some x) : i = j := by
  have e1 := List.getElem?_eq_some_iff.mp hi
  have e2 := List.getElem?_eq_some_iff.mp hj
  exact (List.getElem_inj hn (h₀ := e1.1) (h₁ := e2.1)).mp (e1.2.trans e2.2.symm)

theorem sameBut_alive {a : Addr} {h h' : Heap} (hs : Heap.SameBut a h h') (ha : (h'.get? a).isSome = true) : ∀ b, (h.get? b).isSome = true → (h'.get? b).isSome = true := fun b e => by
  by_cases hb : b = a
  · subst hb; exact ha
  · rw [hs.2 b hb]; exact e

theorem ns_some {h : Heap} {a : Addr} {m : Str → Option Value} (x : h.Ns a m) : (h.get? a).isSome = true := by obtain ⟨o, _, _, ho, _⟩ := x; rw [ho]; rfl
theorem cell_some {h : Heap} {a : Addr} {m : Option Value} (x : h.IsCell a m) : (h.get? a).isSome = true := by obtain ⟨o, ho, _⟩ := x; rw [ho]; rfl

theorem store_ok {i : Nat} {x : Str} {v : V} {v' : Value} {Q : Unit → Shared → Prop} (W : EnvW C cx env) (I : Inv C ρ H s.heap) (F : FR cx env l ρ s.heap) (hx : cx.vars[i]? = some x) (hv : VR ρ v v')
    (h : ∀ h' tk, XF C (own env) ρ s.heap ρ h' → Inv C ρ H h' → FR cx env (l.set i (some v)) ρ h' → Q () { s with heap := h', toks := tk }) :
    wpAny (model C.prog C.w) A (storeName env x v') Q E s := by
  obtain ⟨m, hm, hmv⟩ := F.ns
  have hil : i < l.length := by rw [F.len]; exact (List.getElem?_eq_some_iff.mp hx).1
  rcases F.var i x hx with hk | ⟨hk, c, cv, h2, h3, h4⟩
  · refine wpAny_storeName_local hk hm (fun h' hn' hs => ?_) (by rw [W.kind]; rfl)
    have hne : ∀ y c, (y, c) ∈ env.cells → c ≠ env.locals := W.locs
    refine h h' _ ⟨⟨[], by simp, by simp⟩, fun b o _ hb e => (hs.2 b (fun hb' => hb (by rw [hb']; exact List.mem_cons_self))).trans e, sameBut_alive hs (ns_some hn')⟩
      (I.off F.locNot (W.new _ List.mem_cons_self) hs) ⟨by simp [F.len], ⟨_, hn', fun j y hy hky w hw => ?_⟩, fun j y hy => ?_, F.locNot, F.cellNot, fun y c hc => ?_⟩
    · by_cases hji : j = i
      · subst hji
        rw [hx] at hy; cases hy
        rw [List.getElem?_set_self hil] at hw
        cases hw
        exact ⟨v', by simp, hv⟩
      · rw [List.getElem?_set_ne (Ne.symm hji)] at hw
        have hyx : y ≠ x := fun e => hji (nodup_get W.nodup hy (e ▸ hx))
        obtain ⟨w', e1, e2⟩ := hmv j y hy hky w hw
        exact ⟨w', by simp [hyx, e1], e2⟩
    · rcases F.var j y hy with h1 | ⟨h1, c, cv, h2, h3, h4⟩
      · exact .inl h1
      · have hji : j ≠ i := by rintro rfl; rw [hx] at hy; cases hy; rw [hk] at h1; cases h1
        refine .inr ⟨h1, c, cv, h2, h3.sameBut hs (hne y c (mem_of_lookup h2)), fun w hw => h4 w ?_⟩
        rwa [List.getElem?_set_ne (Ne.symm hji)] at hw
    · obtain ⟨cv, hcv⟩ := F.cellHere y c hc
      exact ⟨cv, hcv.sameBut hs (hne y c hc)⟩
  · have hcm := mem_of_lookup h2
    refine wpAny_storeName_cell W.kind hk h2 h3 fun h' hc' hs => ?_
    have hcl : c ≠ env.locals := W.locs x c hcm
    have hown : c ∈ own env := List.mem_cons_of_mem _ (List.mem_map_of_mem (f := fun z : Str × Addr => z.2) hcm)
    refine h h' _ ⟨⟨[], by simp, by simp⟩, fun b o _ hb e => (hs.2 b (fun hb' => hb (by rw [hb']; exact hown))).trans e, sameBut_alive hs (cell_some hc')⟩
      (I.off (F.cellNot x c hcm) (W.new _ hown) hs) ⟨by simp [F.len], ⟨m, hm.sameBut hs (Ne.symm hcl), fun j y hy hky w hw => ?_⟩, fun j y hy => ?_, F.locNot, F.cellNot, fun y d hd => ?_⟩
    · have hji : j ≠ i := by rintro rfl; rw [hx] at hy; cases hy; rw [hk] at hky; cases hky
      rw [List.getElem?_set_ne (Ne.symm hji)] at hw
      exact hmv j y hy hky w hw
    · by_cases hji : j = i
      · subst hji
        rw [hx] at hy; cases hy
        refine .inr ⟨hk, c, _, h2, hc', fun w hw => ?_⟩
        rw [List.getElem?_set_self hil] at hw
        cases hw
        exact ⟨v', rfl, hv⟩
      · rcases F.var j y hy with h1 | ⟨h1, d, dv, h5, h6, h7⟩
        · exact .inl h1
        · have hyx : y ≠ x := fun e => hji (nodup_get W.nodup hy (e ▸ hx))
          have hdc : d ≠ c := fun e => hyx (name_of_addr W.apart (mem_of_lookup h5) (e ▸ hcm))
          refine .inr ⟨h1, d, dv, h5, h6.sameBut hs hdc, fun w hw => h7 w ?_⟩
          rwa [List.getElem?_set_ne (Ne.symm hji)] at hw
    · by_cases hdc : d = c
      · subst hdc; exact ⟨_, hc'⟩
      · obtain ⟨cv, hcv⟩ := F.cellHere y d hd
        exact ⟨cv, hcv.sameBut hs hdc⟩
end
end Mine
end
section
open PySem PySem.W PyProof.Rows
namespace Mine
noncomputable def SE (C : Con) (g : Gt) (P : Pg) (n : Nat) : Prop := ∀ (m : Nat) (e : Expr) (x : X) (cx : Cx) (env : Env) (A : Around) (s : Shared) (ρ : List Addr) (l : Lc) (H : Hp) (v : V) (H' : Hp) (Q : Value → Shared → Prop) (E : Value → Shared → Prop),
  EnvOk cx env → AOk A n → Inv C ρ H s.heap → FR cx env l ρ s.heap → trE g m cx e = some x → ev P n x l H = some (v, H') → Post C ρ s H' v Q → wpAny (model C.prog C.w) A (eval e env) Q E s

noncomputable def ST (C : Con) (g : Gt) (P : Pg) (n : Nat) : Prop := ∀ (m : Nat) (e : Expr) (x : X) (cx : Cx) (env : Env) (A : Around) (s : Shared) (ρ : List Addr) (l : Lc) (H : Hp) (b : Bool) (H' : Hp) (Q : Bool → Shared → Prop) (E : Value → Shared → Prop),
  EnvOk cx env → AOk A n → Inv C ρ H s.heap → FR cx env l ρ s.heap → trE g m cx e = some x → testV (fun e h => ev P n e l h) x H = some (b, H') → PostU C ρ s H' (Q b) → wpAny (model C.prog C.w) A (isTrue e env (eval e env)) Q E s

noncomputable def SC (C : Con) (g : Gt) (P : Pg) (n : Nat) : Prop := ∀ (f : Nat) (d : FD) (a : Addr) (A : Around) (s : Shared) (ρ : List Addr) (H : Hp) (vs : List V) (xs : List Value) (v : V) (H' : Hp) (R : Result → Shared → Prop),
  AOk A n → Inv C ρ H s.heap → P.fns[f]? = some d → FnOk C g a d → VRs ρ vs xs → callF P n f vs H = some (v, H') → Post C ρ s H' v (fun v s => R (.ok (.ret v)) s) → codeAny (model C.prog C.w) A (.call (.ref a) ⟨xs, []⟩) R s

noncomputable def SN (C : Con) (g : Gt) (P : Pg) (n : Nat) : Prop := ∀ (f : Str) (c : Nat) (Ca : Addr) (A : Around) (s : Shared) (ρ : List Addr) (H : Hp) (vs : List V) (xs : List Value) (v : V) (H' : Hp) (Q : Value → Shared → Prop) (E : Value → Shared → Prop),
  AOk A n → Inv C ρ H s.heap → g.clss.lookup f = some c → C.cl[c]? = some Ca → VRs ρ vs xs → newF P n c vs H = some (v, H') → Post C ρ s H' v Q → wpAny (model C.prog C.w) A (call (.ref Ca) xs) Q E s

section
variable {C : Con} {g : Gt} {P : Pg} {A : Around} {E : Value → Shared → Prop} {s : Shared} {ρ ρ' : List Addr} {H H' : Hp} {cx : Cx} {env : Env} {l : Lc} {n : Nat}

noncomputable abbrev PostL (C : Con) (ρ : List Addr) (s : Shared) (H' : Hp) (vs : List V) (Q : List Value → Shared → Prop) : Prop :=
  ∀ h' tk ρ' vs', Ext C ρ s.heap ρ' h' → Inv C ρ' H' h' → VRs ρ' vs vs' → Q vs' { s with heap := h', toks := tk }

theorem mapO_cons {α β : Type} {f : α → Option β} {a : α} {r : List α} {ys : List β} (h : mapO f (a :: r) = some ys) : ∃ b bs, f a = some b ∧ mapO f r = some bs ∧ ys = b :: bs := by
  exact bsK h fun b h1 hn => bsK hn fun bs h2 h3 => ⟨b, bs, h1, h2, (so h3).symm⟩
theorem mapO_nil {α β : Type} {f : α → Option β} {ys : List β} (h : mapO f [] = some ys) : ys = [] := (so h).symm
theorem mapO_length {α β : Type} {f : α → Option β} : ∀ {xs : List α} {ys : List β}, mapO f xs = some ys → xs.length = ys.length
  | [], _, h => by cases h; rfl
  | _ :: _, _, h => by obtain ⟨b, bs, _, h2, rfl⟩ := mapO_cons h; exact congrArg (· + 1) (mapO_length h2)

theorem starEach_plain {m : Nat} {e : Expr} {x : X} {rest : List Expr} (h : trE g m cx e = some x) : starEach (e :: rest) env = (false, eval e env) :: starEach rest env := by
  cases m with
  | zero => cases h
  | succ m => cases e <;> first | rfl | cases h

theorem not_marked {m : Nat} {e : Expr} {x : X} {op : CmpOp} (h : trE g m cx e = some x) : behindInMarks op e = false := by
  cases m with
  | zero => cases h
  | succ m => cases e <;> first | rfl | cases h

theorem starEach_all {m : Nat} : ∀ {es : List Expr} {xs : List X}, mapO (trE g m cx) es = some xs → starEach es env = es.map fun e => (false, eval e env)
  | [], _, _ => rfl
  | e :: r, _, h => by
    obtain ⟨b, bs, h1, h2, _⟩ := mapO_cons h
    rw [starEach_plain h1, starEach_all h2, List.map_cons]

theorem backTo_all {pos : Pos} : ∀ {es : List Expr}, backTo pos (es.map fun e => (false, eval e env)) = es.map fun e => (false, eval e env)
  | [] => rfl
  | e :: r => by
    have := backTo_all (pos := pos) (es := r)
    unfold backTo at *
    rw [List.map_cons, List.map_cons, this]
    rfl

theorem any_all : ∀ {es : List Expr}, (es.map fun e => (false, eval e env)).any (·.1) = false
  | [] => rfl
  | e :: r => by rw [List.map_cons, List.any_cons, any_all]; rfl

/-- the arguments, one after the other -/
theorem evs_ok (hE : SE C g P n) {m : Nat} (O : EnvOk cx env) (hA : AOk A n) : ∀ {es : List Expr} {xs : List X} {s : Shared} {ρ : List Addr} {H H' : Hp} {vs : List V} {Q : List Value → Shared → Prop},
    Inv C ρ H s.heap → FR cx env l ρ s.heap → mapO (trE g m cx) es = some xs → evs (fun e h => ev P n e l h) xs H = some (vs, H') → PostL C ρ s H' vs Q →
    wpAny (model C.prog C.w) A (spliced (es.map fun e => (false, eval e env))) Q E s
  | [], xs, s, ρ, H, H', vs, Q, I, F, ht, hv, h => by
    cases mapO_nil ht
    cases hv
    exact Calls.spliced_nil (h _ s.toks _ [] (.refl ..) I trivial)
  | e :: r, xs, s, ρ, H, H', vs, Q, I, F, ht, hv, h => by
    obtain ⟨x, xs', h1, h2, rfl⟩ := mapO_cons ht
    refine bsP hv fun v H1 hv1 hvn => ?_
    clear hv
    refine bsP hvn fun vs' H2 hv2 hv3 => ?_
    clear hvn
    cases hv3
    rw [List.map_cons]
    refine Calls.spliced_cons (hE m e x cx env A s ρ l H v H1 _ E O hA I F h1 hv1 fun h' tk ρ' v' X' I' r' => ?_)
    refine evs_ok hE O hA I' (F.ext X') h2 hv2 fun h'' tk' ρ'' vs'' X'' I'' r'' => ?_
    exact h h'' tk' ρ'' _ (X'.trans I.len0 X'') I'' ⟨r'.ext X'', r''⟩

theorem boolL_ok (hE : SE C g P n) {m : Nat} (O : EnvOk cx env) (hA : AOk A n) {pos : Pos} {op : BoolOp} : ∀ {es : List Expr} {xs : List X} {s : Shared} {ρ : List Addr} {H H' : Hp} {v : V} {Q : Value → Shared → Prop},
    Inv C ρ H s.heap → FR cx env l ρ s.heap → mapO (trE g m cx) es = some xs → boolL (fun e h => ev P n e l h) op xs H = some (v, H') → Post C ρ s H' v Q →
    wpAny (model C.prog C.w) A (boolOp pos op (evalEach es env)) Q E s
  | [], xs, s, ρ, H, H', v, Q, I, F, ht, hv, h => by
    cases mapO_nil ht; cases hv
  | [e], xs, s, ρ, H, H', v, Q, I, F, ht, hv, h => by
    obtain ⟨x, xs', h1, h2, rfl⟩ := mapO_cons ht
    cases mapO_nil h2
    exact hE m e x cx env A s ρ l H v H' _ E O hA I F h1 hv h
  | e :: e2 :: r, xs, s, ρ, H, H', v, Q, I, F, ht, hv, h => by
    obtain ⟨x, xs', h1, h2, rfl⟩ := mapO_cons ht
    obtain ⟨x2, xs'', h3, h4, rfl⟩ := mapO_cons h2
    refine bsP hv fun v1 H1 hv1 hvn => ?_
    clear hv
    refine bsK hvn fun t ht1 hv2 => ?_
    clear hvn
    show wpAny _ A (eval e env >>= fun v => standAt pos >>= fun _ => holding [v] (truthy v) >>= fun t => match op, t with
      | .And, false | .Or, true => pure v
      | _, _ => boolOp pos op (evalEach (e2 :: r) env)) Q E s
    refine wpAny_bind (hE m e x cx env A s ρ l H v1 H1 _ E O hA I F h1 hv1 fun h' tk ρ' v' X' I' r' => ?_)
    refine wpAny_bind (wpAny_standAt (wpAny_bind (wpAny_holding (truth_ok I' r' ht1 fun tk' => ?_))))
    have rest : boolL (fun e h => ev P n e l h) op (x2 :: xs'') H1 = some (v, H') → wpAny (model C.prog C.w) A (boolOp pos op (evalEach (e2 :: r) env)) Q E { s with heap := h', toks := tk' } := fun hr =>
      boolL_ok hE O hA (s := { s with heap := h', toks := tk' }) I' (F.ext X') h2 hr fun h'' tk'' ρ'' v'' X'' I'' r'' => h h'' tk'' ρ'' v'' (X'.trans I.len0 X'') I'' r''
    cases op <;> cases t
    · cases hv2; exact wpAny_pure (h h' tk' ρ' v' X' I' r')
    · exact rest hv2
    · exact rest hv2
    · cases hv2; exact wpAny_pure (h h' tk' ρ' v' X' I' r')

theorem marked_last {op : CmpOp} {m : Nat} {e : Expr} {x : X} {t : Sem Value} (h : trE g m cx e = some x) : markedEach [op] [e] [t] = [t] := by
  show [markedBehindIn op e t] = [t]
  rw [markedBehindIn_of_false (not_marked h)]

theorem release_ok {M : Model} {vs keep : List Value} {Q : Unit → Shared → Prop} (h : Q () s) : wpAny M A (release vs keep) Q E s := fun Γ p _ => by rw [Sem.wp_release]; exact h

theorem chain_ok (hE : SE C g P n) {m : Nat} (O : EnvOk cx env) (hA : AOk A n) {pos : Pos} : ∀ {ops : List CmpOp} {es : List Expr} {xs : List X} {s : Shared} {ρ : List Addr} {H H' : Hp} {a v : V} {a' : Value} {Q : Value → Shared → Prop},
    Inv C ρ H s.heap → FR cx env l ρ s.heap → VR ρ a a' → mapO (trE g m cx) es = some xs → chain (fun e h => ev P n e l h) a ops xs H = some (v, H') → Post C ρ s H' v Q →
    wpAny (model C.prog C.w) A (compareChain pos a' ops (markedEach ops es (evalEach es env))) Q E s
  | [], es, xs, s, ρ, H, H', a, v, a', Q, I, F, ra, ht, hv, h => by exact no hv
  | [op], [], xs, s, ρ, H, H', a, v, a', Q, I, F, ra, ht, hv, h => by cases mapO_nil ht; exact no hv
  | [op], [e], xs, s, ρ, H, H', a, v, a', Q, I, F, ra, ht, hv, h => by
    obtain ⟨x, xs', h1, h2, rfl⟩ := mapO_cons ht
    cases mapO_nil h2
    refine bsP hv fun w H1 hv1 hvn => ?_
    clear hv
    refine bsK hvn fun b hb hv2 => ?_
    clear hvn
    cases hv2
    show wpAny _ A (compareChain pos a' [op] (markedEach [op] [e] [eval e env])) Q E s
    rw [marked_last h1]
    show wpAny _ A (holding [a'] (eval e env) >>= fun rv => standAt pos >>= fun _ => operate [a', rv] (compareOp op a' rv)) Q E s
    refine wpAny_bind (wpAny_holding (hE m e x cx env A s ρ l H w _ _ E O hA I F h1 hv1 fun h' tk ρ' w' X' I' r' => ?_))
    refine wpAny_bind (wpAny_standAt (wpAny_operating (cmpV_ok I' hA (ra.ext X') r' hb ?_)))
    exact h h' tk ρ' _ X' I' (.bool b)
  | [op], e :: e2 :: r, xs, s, ρ, H, H', a, v, a', Q, I, F, ra, ht, hv, h => by
    obtain ⟨x, xs', h1, h2, rfl⟩ := mapO_cons ht
    obtain ⟨x2, xs'', h3, h4, rfl⟩ := mapO_cons h2
    exact no hv
  | op :: op2 :: ops, [], xs, s, ρ, H, H', a, v, a', Q, I, F, ra, ht, hv, h => by cases mapO_nil ht; exact no hv
  | op :: op2 :: ops, e :: r, xs, s, ρ, H, H', a, v, a', Q, I, F, ra, ht, hv, h => by
    obtain ⟨x, xs', h1, h2, rfl⟩ := mapO_cons ht
    have hv' : (ev P n x l H).bind (fun (v, h) => (cmpV h op a v).bind fun b => if b then chain (fun e h => ev P n e l h) v (op2 :: ops) xs' h else some (.bool false, h)) = some (v, H') := by
      cases xs' <;> exact hv
    refine bsP hv' fun w H1 hv1 hv'n => ?_
    clear hv'
    refine bsK hv'n fun b hb hv2 => ?_
    clear hv'n
    show wpAny _ A (compareChain pos a' (op :: op2 :: ops) (markedEach (op :: op2 :: ops) (e :: r) (eval e env :: evalEach r env))) Q E s
    rw [show markedEach (op :: op2 :: ops) (e :: r) (eval e env :: evalEach r env) = eval e env :: markedEach (op2 :: ops) r (evalEach r env) from by cases r <;> rfl]
    rw [show compareChain pos a' (op :: op2 :: ops) (eval e env :: markedEach (op2 :: ops) r (evalEach r env)) = (holding [a'] (eval e env) >>= fun rv => standAt pos >>= fun _ => holding [a', rv] (compareOp op a' rv) >>= fun c =>
      release [a', rv] [c] >>= fun _ => holding [c, rv] (truthy c) >>= fun t => if t then compareChain pos rv (op2 :: ops) (markedEach (op2 :: ops) r (evalEach r env)) else pure c) from by
        cases hz : markedEach (op2 :: ops) r (evalEach r env) <;> rfl]
    refine wpAny_bind (wpAny_holding (hE m e x cx env A s ρ l H w H1 _ E O hA I F h1 hv1 fun h' tk ρ' w' X' I' r' => ?_))
    refine wpAny_bind (wpAny_standAt (wpAny_bind (wpAny_holding (cmpV_ok I' hA (ra.ext X') r' hb ?_))))
    refine wpAny_bind (release_ok ?_)
    refine wpAny_bind (wpAny_holding (wpAny_truthy_bool ?_))
    cases b with
    | true =>
      exact chain_ok hE O hA (s := { s with heap := h', toks := tk }) I' (F.ext X') r' h2 hv2 fun h'' tk'' ρ'' v'' X'' I'' r'' => h h'' tk'' ρ'' v'' (X'.trans I.len0 X'') I'' r''
    | false =>
      cases hv2
      exact wpAny_pure (h h' tk ρ' _ X' I' (.bool false))
end
end Mine
end
section
open PySem PySem.W PyProof.Rows
namespace Mine
section
variable {C : Con} {g : Gt} {P : Pg} {A : Around} {E : Value → Shared → Prop} {s : Shared} {ρ ρ' : List Addr} {H H' : Hp} {cx : Cx} {env : Env} {l : Lc} {n : Nat}

theorem ev_succ {x : X} {v : V} (h : ev P n x l H = some (v, H')) : ∃ k, n = k + 1 := by
  cases n with
  | zero => exact no h
  | succ k => exact ⟨k, rfl⟩

theorem testChain_ok (hE : SE C g P n) {m : Nat} (O : EnvOk cx env) (hA : AOk A n) {pos : Pos} : ∀ {ops : List CmpOp} {es : List Expr} {xs : List X} {s : Shared} {ρ : List Addr} {H H' : Hp} {a : V} {b : Bool} {a' : Value} {Q : Bool → Shared → Prop},
    Inv C ρ H s.heap → FR cx env l ρ s.heap → VR ρ a a' → mapO (trE g m cx) es = some xs → chain (fun e h => ev P n e l h) a ops xs H = some (.bool b, H') → PostU C ρ s H' (Q b) →
    wpAny (model C.prog C.w) A (testChain pos a' ops (markedEach ops es (evalEach es env))) Q E s
  | [], es, xs, s, ρ, H, H', a, v, a', Q, I, F, ra, ht, hv, h => by exact no hv
  | [op], [], xs, s, ρ, H, H', a, v, a', Q, I, F, ra, ht, hv, h => by cases mapO_nil ht; exact no hv
  | [op], [e], xs, s, ρ, H, H', a, v, a', Q, I, F, ra, ht, hv, h => by
    obtain ⟨x, xs', h1, h2, rfl⟩ := mapO_cons ht
    cases mapO_nil h2
    refine bsP hv fun w H1 hv1 hvn => ?_
    clear hv
    refine bsK hvn fun b hb hv2 => ?_
    clear hvn
    cases hv2
    show wpAny _ A (testChain pos a' [op] (markedEach [op] [e] [eval e env])) Q E s
    rw [marked_last h1]
    show wpAny _ A (holding [a'] (eval e env) >>= fun rv => standAt pos >>= fun _ => operate [a', rv] (compareOp op a' rv) >>= fun c => holding [c] (truthy c)) Q E s
    refine wpAny_bind (wpAny_holding (hE m e x cx env A s ρ l H w _ _ E O hA I F h1 hv1 fun h' tk ρ' w' X' I' r' => ?_))
    refine wpAny_bind (wpAny_standAt (wpAny_bind (wpAny_operating (cmpV_ok I' hA (ra.ext X') r' hb ?_))))
    exact wpAny_holding (wpAny_truthy_bool (h h' tk ρ' X' I'))
  | [op], e :: e2 :: r, xs, s, ρ, H, H', a, v, a', Q, I, F, ra, ht, hv, h => by
    obtain ⟨x, xs', h1, h2, rfl⟩ := mapO_cons ht
    obtain ⟨x2, xs'', h3, h4, rfl⟩ := mapO_cons h2
    exact no hv
  | op :: op2 :: ops, [], xs, s, ρ, H, H', a, v, a', Q, I, F, ra, ht, hv, h => by cases mapO_nil ht; exact no hv
  | op :: op2 :: ops, e :: r, xs, s, ρ, H, H', a, v, a', Q, I, F, ra, ht, hv, h => by
    obtain ⟨x, xs', h1, h2, rfl⟩ := mapO_cons ht
    have hv' : (ev P n x l H).bind (fun (v, h) => (cmpV h op a v).bind fun b => if b then chain (fun e h => ev P n e l h) v (op2 :: ops) xs' h else some (.bool false, h)) = some (.bool v, H') := by
      cases xs' <;> exact hv
    refine bsP hv' fun w H1 hv1 hv'n => ?_
    clear hv'
    refine bsK hv'n fun b hb hv2 => ?_
    clear hv'n
    show wpAny _ A (testChain pos a' (op :: op2 :: ops) (markedEach (op :: op2 :: ops) (e :: r) (eval e env :: evalEach r env))) Q E s
    rw [show markedEach (op :: op2 :: ops) (e :: r) (eval e env :: evalEach r env) = eval e env :: markedEach (op2 :: ops) r (evalEach r env) from by cases r <;> rfl]
    rw [show testChain pos a' (op :: op2 :: ops) (eval e env :: markedEach (op2 :: ops) r (evalEach r env)) = (holding [a'] (eval e env) >>= fun rv => standAt pos >>= fun _ => holding [a', rv] (compareOp op a' rv) >>= fun c =>
      release [a', rv] [c] >>= fun _ => holding [c, rv] (truthy c) >>= fun t => if t then testChain pos rv (op2 :: ops) (markedEach (op2 :: ops) r (evalEach r env)) else pure false) from by
        cases hz : markedEach (op2 :: ops) r (evalEach r env) <;> rfl]
    refine wpAny_bind (wpAny_holding (hE m e x cx env A s ρ l H w H1 _ E O hA I F h1 hv1 fun h' tk ρ' w' X' I' r' => ?_))
    refine wpAny_bind (wpAny_standAt (wpAny_bind (wpAny_holding (cmpV_ok I' hA (ra.ext X') r' hb ?_))))
    refine wpAny_bind (release_ok ?_)
    refine wpAny_bind (wpAny_holding (wpAny_truthy_bool ?_))
    cases b with
    | true =>
      exact testChain_ok hE O hA (s := { s with heap := h', toks := tk }) I' (F.ext X') r' h2 hv2 fun h'' tk'' ρ'' X'' I'' => h h'' tk'' ρ'' (X'.trans I.len0 X'') I''
    | false =>
      cases hv2
      exact wpAny_pure (h h' tk ρ' X' I')

theorem chain_bool : ∀ {ops : List CmpOp} {xs : List X} {H H' : Hp} {a v : V} {f : X → Hp → Option (V × Hp)}, chain f a ops xs H = some (v, H') → ∃ b, v = .bool b
  | [], xs, H, H', a, v, f, h => by exact no h
  | [op], [], H, H', a, v, f, h => by exact no h
  | [op], [x], H, H', a, v, f, h => by
    exact bsP h fun w H1 _ h1 => bsK h1 fun b _ h2 => ⟨b, (congrArg Prod.fst (so h2)).symm⟩
  | [op], _ :: _ :: _, H, H', a, v, f, h => by exact no h
  | op :: op2 :: ops, [], H, H', a, v, f, h => by exact no h
  | op :: op2 :: ops, x :: r, H, H', a, v, f, h => by
    have h' : (f x H).bind (fun (v, h) => (cmpV h op a v).bind fun b => if b then chain f v (op2 :: ops) r h else some (.bool false, h)) = some (v, H') := by cases r <;> exact h
    refine bsP h' fun w H1 _ h'n => ?_
    clear h'
    refine bsK h'n fun b _ h'nn => ?_
    clear h'n
    cases b with
    | true => exact chain_bool h'nn
    | false => cases h'nn; exact ⟨false, rfl⟩

theorem allTrue_cons (op : BoolOp) (e : Expr) (r : List Expr) : allTrue op (e :: r) env = (isTrue e env (eval e env) >>= fun t => match op, t with
      | .And, false => pure false
      | .Or, true => pure true
      | _, _ => allTrue op r env) := rfl

theorem allTrue_ok (hT : ST C g P n) {m : Nat} (O : EnvOk cx env) (hA : AOk A n) {op : BoolOp} : ∀ {es : List Expr} {xs : List X} {s : Shared} {ρ : List Addr} {H H' : Hp} {v : V} {b : Bool} {Q : Bool → Shared → Prop},
    Inv C ρ H s.heap → FR cx env l ρ s.heap → mapO (trE g m cx) es = some xs → boolL (fun e h => ev P n e l h) op xs H = some (v, H') → truth H' v = some b → PostU C ρ s H' (Q b) →
    wpAny (model C.prog C.w) A (allTrue op es env) Q E s
  | [], xs, s, ρ, H, H', v, b, Q, I, F, ht, hv, hb, h => by cases mapO_nil ht; cases hv
  | [e], xs, s, ρ, H, H', v, b, Q, I, F, ht, hv, hb, h => by
    obtain ⟨x, xs', h1, h2, rfl⟩ := mapO_cons ht
    cases mapO_nil h2
    have hv : ev P n x l H = some (v, H') := hv
    rw [allTrue_cons]
    refine wpAny_bind (hT m e x cx env A s ρ l H b H' _ E O hA I F h1 (testV_of hv hb) fun h' tk ρ' X' I' => ?_)
    cases op <;> cases b <;> exact wpAny_pure (h h' tk ρ' X' I')
  | e :: e2 :: r, xs, s, ρ, H, H', v, b, Q, I, F, ht, hv, hb, h => by
    obtain ⟨x, xs', h1, h2, rfl⟩ := mapO_cons ht
    obtain ⟨x2, xs'', h3, h4, rfl⟩ := mapO_cons h2
    refine bsP hv fun v1 H1 hv1 hvn => ?_
    clear hv
    refine bsK hvn fun t ht1 hv2 => ?_
    clear hvn
    rw [allTrue_cons]
    refine wpAny_bind (hT m e x cx env A s ρ l H t H1 _ E O hA I F h1 (testV_of hv1 ht1) fun h' tk ρ' X' I' => ?_)
    have rest : boolL (fun e h => ev P n e l h) op (x2 :: xs'') H1 = some (v, H') → wpAny (model C.prog C.w) A (allTrue op (e2 :: r) env) Q E { s with heap := h', toks := tk } := fun hr =>
      allTrue_ok hT O hA (s := { s with heap := h', toks := tk }) I' (F.ext X') h2 hr hb fun h'' tk'' ρ'' X'' I'' => h h'' tk'' ρ'' (X'.trans I.len0 X'') I''
    cases op <;> cases t
    · cases hv2; rw [ht1] at hb; cases hb; exact wpAny_pure (h h' tk ρ' X' I')
    · exact rest hv2
    · exact rest hv2
    · cases hv2; rw [ht1] at hb; cases hb; exact wpAny_pure (h h' tk ρ' X' I')

noncomputable def special : Expr → Bool
  | .UnaryOp .Not _ _ => true
  | .BoolOp .. => true
  | .IfExp .. => true
  | .Compare .. => true
  | _ => false
theorem isTrue_else {e : Expr} (h : special e = false) (whole : Sem Value) : isTrue e env whole = (whole >>= fun v => standAt e.pos >>= fun _ => holding [v] (truthy v)) := by
  cases e <;> first | rfl | cases h | skip
  rename_i op a p
  cases op <;> first | rfl | cases h

theorem testV_some {f : X → Hp → Option (V × Hp)} {x : X} {b : Bool} (h : testV f x H = some (b, H')) : ∃ v, f x H = some (v, H') ∧ truth H' v = some b := by
  refine bsP h fun v H1 h1 hn => ?_
  clear h
  refine bsK hn fun c h2 h3 => ?_
  clear hn
  cases h3
  exact ⟨v, h1, h2⟩

theorem st_of : ∀ n, (∀ k, k ≤ n → SE C g P k) → ST C g P n := by
  intro n
  induction n with
  | zero =>
    intro _ m e x cx env A s ρ l H b H' Q E O hA I F ht hv h
    obtain ⟨v, hv, hb⟩ := testV_some hv
    exact no hv
  | succ n ih =>
    intro hE m e x cx env A s ρ l H b H' Q E O hA I F ht hv h
    have ihT : ST C g P n := ih fun k hk => hE k (Nat.le_succ_of_le hk)
    have hE1 : SE C g P n := hE n (Nat.le_succ n)
    have hA1 : AOk A n := hA.mono (Nat.le_succ n)
    obtain ⟨v, hv, hb⟩ := testV_some hv
    cases hs : special e with
    | false =>
      rw [isTrue_else hs]
      refine wpAny_bind (hE (n + 1) (Nat.le_refl _) m e x cx env A s ρ l H v H' _ E O hA I F ht hv fun h' tk ρ' v' X' I' r' => ?_)
      exact wpAny_bind (wpAny_standAt (wpAny_holding (truth_ok I' r' hb fun tk' => h h' tk' ρ' X' I')))
    | true =>
      cases m with
      | zero => cases ht
      | succ m =>
        cases e <;> first | exact absurd hs Bool.false_ne_true | skip
        case BoolOp op es pos =>
          refine bsK ht fun xs h1 h2 => ?_
          clear ht
          cases h2
          show wpAny _ A (allTrue op es env) Q E s
          exact allTrue_ok ihT O hA1 I F h1 hv hb h
        case UnaryOp op a pos =>
          cases op <;> first | exact absurd hs Bool.false_ne_true | skip
          refine bsK ht fun x' h1 h2 => ?_
          clear ht
          cases h2
          refine bsP hv fun w H1 hv1 hvn => ?_
          clear hv
          refine bsK hvn fun u hu hv2 => ?_
          clear hvn
          cases hv2
          refine mapK hu fun c hc hx => ?_
          subst hx
          cases hb
          show wpAny _ A (isTrue a env (eval a env) >>= fun t => pure !t) Q E s
          refine wpAny_bind (ihT m a x' cx env A s ρ l H c _ _ E O hA1 I F h1 (testV_of hv1 hc) fun h' tk ρ' X' I' => ?_)
          exact wpAny_pure (h h' tk ρ' X' I')
        case IfExp t a b' pos =>
          refine bsK ht fun t' h1 htn => ?_
          clear ht
          refine bsK htn fun a' h2 htnn => ?_
          clear htn
          refine bsK htnn fun c' h3 h4 => ?_
          clear htnn
          cases h4
          refine bsP hv fun c H1 hv1 hv2 => ?_
          clear hv
          show wpAny _ A (isTrue t env (eval t env) >>= fun z => if z then isTrue a env (eval a env) else isTrue b' env (eval b' env)) Q E s
          refine wpAny_bind (ihT m t t' cx env A s ρ l H c H1 _ E O hA1 I F h1 hv1 fun h' tk ρ' X' I' => ?_)
          cases c with
          | true =>
            exact ihT m a a' cx env A { s with heap := h', toks := tk } ρ' l H1 b H' _ E O hA1 I' (F.ext X') h2 (testV_of hv2 hb) fun h'' tk'' ρ'' X'' I'' => h h'' tk'' ρ'' (X'.trans I.len0 X'') I''
          | false =>
            exact ihT m b' c' cx env A { s with heap := h', toks := tk } ρ' l H1 b H' _ E O hA1 I' (F.ext X') h3 (testV_of hv2 hb) fun h'' tk'' ρ'' X'' I'' => h h'' tk'' ρ'' (X'.trans I.len0 X'') I''
        case Compare a ops rs pos =>
          refine bsK ht fun a' h1 htn => ?_
          clear ht
          refine bsK htn fun xs h2 h3 => ?_
          clear htn
          cases h3
          refine bsP hv fun w H1 hv1 hv2 => ?_
          clear hv
          obtain ⟨b2, rfl⟩ := chain_bool hv2
          cases hb
          show wpAny _ A (eval a env >>= fun lv => testChain pos lv ops (markedEach ops rs (evalEach rs env))) Q E s
          refine wpAny_bind (hE1 m a a' cx env A s ρ l H w H1 _ E O hA1 I F h1 hv1 fun h' tk ρ' w' X' I' r' => ?_)
          exact testChain_ok hE1 O hA1 (s := { s with heap := h', toks := tk }) I' (F.ext X') r' h2 hv2 fun h'' tk'' ρ'' X'' I'' => h h'' tk'' ρ'' (X'.trans I.len0 X'') I''
end
end Mine
end
section
open PySem PySem.W PyProof.Rows
namespace Mine
theorem loopS_L {α : Type} (hp : α → Hp) (f : V → α → Option (R × α)) (ys : List V) : ∀ (xs : List V) (i : Nat) (a : α) (r : R × α), (∀ j, xs[j]? = ys[i + j]?) → loopS f xs a = some r → ∃ m, loopL hp f (.items ys) m i a = some r
  | [], i, a, r, hx, h => by
    have := hx 0
    simp only [List.getElem?_nil, Nat.add_zero] at this
    refine ⟨1, ?_⟩
    show (some ys[i]? : Option (Option V)).bind _ = _
    rw [← this]
    exact h
  | v :: q, i, a, r, hx, h => by
    have h0 := hx 0
    simp only [List.getElem?_cons_zero, Nat.add_zero] at h0
    refine bsP h fun x a' h1 h2 => ?_
    clear h
    cases x with
    | next =>
      obtain ⟨m, hm⟩ := loopS_L hp f ys q (i + 1) a' r (fun j => by have := hx (j + 1); rw [List.getElem?_cons_succ] at this; rw [this, Nat.add_assoc, Nat.add_comm 1 j]) h2
      refine ⟨m + 1, ?_⟩
      show (some ys[i]? : Option (Option V)).bind _ = _
      rw [← h0]
      show (f v a).bind _ = _
      rw [h1]
      exact hm
    | ret w =>
      refine ⟨1, ?_⟩
      show (some ys[i]? : Option (Option V)).bind _ = _
      rw [← h0]
      show (f v a).bind _ = _
      rw [h1]
      exact h2

theorem loopOn_L {α : Type} {hp : α → Hp} {f : V → α → Option (R × α)} {src : Src} {a : α} {r : R × α} (h : loopOn hp f src a = some r) : ∃ m, loopL hp f src m 0 a = some r := by
  cases src with
  | items xs => exact loopS_L hp f xs xs 0 a r (fun j => by rw [Nat.zero_add]) h
  | list k => exact ⟨_, h⟩
  | tup k => exact ⟨_, h⟩

/-- the iterator at place i -/
noncomputable def ItR (ρ : List Addr) (src : Src) (i : Nat) (I : Addr) (h : Heap) : Prop :=
  match src with
  | .items xs => ∃ (a c : Int) (n : Nat), xs = (List.range n).map (fun (j : Nat) => V.int (a + j * c)) ∧ i ≤ n ∧ IsRangeIter h I (a + (i : Nat) * c) ((n : Int) - (i : Nat)) c
  | .list k => ∃ l, ρ[k]? = some l ∧ h.IsListIter I l i
  | .tup k => ∃ l, ρ[k]? = some l ∧ h.IsTupleIter I l i

section
variable {C : Con} {A : Around} {E : Value → Shared → Prop} {s : Shared} {ρ ρ' : List Addr} {H H' : Hp} {src : Src} {i : Nat} {I : Addr}

theorem ItR.mono {h h' : Heap} {t : List Addr} (r : ItR ρ src i I h) (hk : ∀ o, h.get? I = some o → h'.get? I = some o) : ItR (ρ ++ t) src i I h' := by
  cases src with
  | items xs =>
    obtain ⟨a, c, n, e, hi, hit⟩ := r
    exact ⟨a, c, n, e, hi, hk _ hit⟩
  | list k =>
    obtain ⟨l, h1, o, h2, h3⟩ := r
    have := List.getElem?_eq_some_iff.mp h1
    exact ⟨l, by rw [List.getElem?_append_left this.1]; exact h1, o, hk _ h2, h3⟩
  | tup k =>
    obtain ⟨l, h1, o, h2, h3⟩ := r
    have := List.getElem?_eq_some_iff.mp h1
    exact ⟨l, by rw [List.getElem?_append_left this.1]; exact h1, o, hk _ h2, h3⟩
theorem ItR.here {h : Heap} (r : ItR ρ src i I h) : (h.get? I).isSome = true := by
  cases src with
  | items xs => obtain ⟨a, c, n, e, hi, hit⟩ := r; rw [hit]; rfl
  | list k => obtain ⟨l, h1, o, h2, h3⟩ := r; rw [h2]; rfl
  | tup k => obtain ⟨l, h1, o, h2, h3⟩ := r; rw [h2]; rfl

theorem rangeSize_nonneg (a b c : Int) (hc : c ≠ 0) : 0 ≤ Builtin.Range.rangeSize a b c := by
  unfold Builtin.Range.rangeSize
  split <;> split <;> first | omega | (have := Int.ediv_nonneg (a := b - a - 1) (b := c) (by omega) (by omega); omega) | (have := Int.ediv_nonneg (a := a - b - 1) (b := -c) (by omega) (by omega); omega)

theorem rangeSize_le (a b c : Int) (hc : c ≠ 0) (ha : a.natAbs ≤ 1000) (hb : b.natAbs ≤ 1000) : Builtin.Range.rangeSize a b c ≤ 3000 := by
  unfold Builtin.Range.rangeSize
  have key : ∀ x d : Int, 0 ≤ x → 1 ≤ d → x / d ≤ x := fun x d hx hd => Int.ediv_le_self d hx
  split <;> split <;> first | omega | (have := key (b - a - 1) c (by omega) (by omega); omega) | (have := key (a - b - 1) (-c) (by omega) (by omega); omega)

theorem small_ok {a b c : Int} (h : rngOk a b c = true) : Builtin.Range.small a b c = true := by
  unfold rngOk at h
  simp only [Bool.and_eq_true, decide_eq_true_eq] at h
  obtain ⟨⟨⟨ha, hb⟩, hc⟩, h0⟩ := h
  have h1 := rangeSize_nonneg a b c h0
  have h2 := rangeSize_le a b c h0 ha hb
  have fit : ∀ x : Int, -100000 ≤ x → x ≤ 100000 → Builtin.Range.rangeFitsLong x = true := fun x hx hx' => by
    unfold Builtin.Range.rangeFitsLong; simp; omega
  unfold Builtin.Range.small
  rw [fit a (by omega) (by omega), fit b (by omega) (by omega), fit c (by omega) (by omega), fit _ (by omega) (by omega)]
  simp only [Bool.true_and, Bool.or_eq_true]
  by_cases hz : Builtin.Range.rangeSize a b c == 0
  · simp [hz]
  · right
    split
    · exact fit _ (by omega) (by omega)
    · exact fit _ (by omega) (by omega)

theorem pyIter_ok {v : V} {x : Value} {Q : Value → Shared → Prop} (Iv : Inv C ρ H s.heap) (hv : VR ρ v x) (e : srcOf H v = some src)
    (h : ∀ I h', s.heap.get? I = none → (∀ b o, s.heap.get? b = some o → h'.get? b = some o) → ItR ρ src 0 I h' → Q (.ref I) { s with heap := h' }) :
    wpAny (model C.prog C.w) A (pyIter x) Q E s := by
  cases hv with
  | @ref k l hl =>
    delta srcOf at e
    dsimp only at e
    cases hx : H[k]? with
    | none => rw [hx] at e; exact no e
    | some ob =>
    rw [hx] at e
    cases ob with
    | rng a b c =>
      refine ifK e fun hok e => ?_
      · cases so e
        obtain ⟨o, ho, t, u, w, rfl⟩ := Iv.objs _ _ _ hx hl
        have hc : c ≠ 0 := by unfold rngOk at hok; simp only [Bool.and_eq_true, decide_eq_true_eq] at hok; exact hok.2
        refine wpAny_pyIter_range ho (small_ok hok) (h _ _ (get?_none_size _) (fun _ _ e => Heap.get?_push_of_some _ e) ?_)
        refine ⟨a, c, (Builtin.Range.rangeSize a b c).toNat, rfl, Nat.zero_le _, ?_⟩
        have hz : ((Builtin.Range.rangeSize a b c).toNat : Int) = Builtin.Range.rangeSize a b c := Int.toNat_of_nonneg (rangeSize_nonneg a b c hc)
        rw [hz]
        have := Heap.get?_push_size s.heap (o := { cls := .type "range_iterator", data := .fields #[rawInt a, rawInt (Builtin.Range.rangeSize a b c), rawInt c] }) rfl
        simpa [IsRangeIter] using this
    | list xs =>
      cases so e
      obtain ⟨o, ho, vs, ep, rfl, hv⟩ := Iv.objs _ _ _ hx hl
      exact wpAny_pyIter_list (items := vs.toArray) ⟨_, ho, rfl, _, rfl⟩ (h _ _ (get?_none_size _) (fun _ _ e => Heap.get?_push_of_some _ e) ⟨l, hl, _, Heap.get?_push_size _ rfl, rfl, rfl⟩)
    | tup xs =>
      cases so e
      obtain ⟨o, ho, vs, ep, rfl, hv⟩ := Iv.objs _ _ _ hx hl
      exact wpAny_pyIter_tuple (items := vs.toArray) ⟨_, ho, rfl, _, rfl⟩ (h _ _ (get?_none_size _) (fun _ _ e => Heap.get?_push_of_some _ e) ⟨l, hl, _, Heap.get?_push_size _ rfl, rfl, rfl⟩)
    | _ => exact no e
  | _ => exact no e

theorem iterSelf_ok {Q : Value → Shared → Prop} (r : ItR ρ src i I s.heap) (h : Q (.ref I) s) : wpAny (model C.prog C.w) A (pyIter (.ref I)) Q E s := by
  cases src with
  | items xs => obtain ⟨a, c, n, e, hi, hit⟩ := r; exact wpAny_pyIter_rangeiter hit h
  | list k => obtain ⟨l, h1, h2⟩ := r; exact wpAny_pyIter_listiter h2 h
  | tup k => obtain ⟨l, h1, h2⟩ := r; exact wpAny_pyIter_tupleiter h2 h

theorem next_ok {x : Option V} {n : Nat} {Q : Option Value → Shared → Prop} (hA : AOk A n) (Iv : Inv C ρ H s.heap) (r : ItR ρ src i I s.heap) (e : liveAt H src i = some x)
    (hend : x = none → ∀ h', Heap.ExtBut I s.heap h' → Q none { s with heap := h' })
    (hitem : ∀ v, x = some v → ∀ v' h' tk, VR ρ v v' → ItR ρ src (i + 1) I h' → Heap.SameBut I s.heap h' → Q (some v') { s with heap := h', toks := tk }) :
    wpAny (model C.prog C.w) A (pyNext (.ref I)) Q E s := by
  cases src with
  | items xs =>
    obtain ⟨a, c, n, rfl, hi, hit⟩ := r
    cases so e
    by_cases hlt : i < n
    · refine wpAny_pyNext_range_item hit (by omega) fun h' hit' hs => ?_
      refine hitem (V.int (a + i * c)) (by simp [hlt]) _ h' _ (.int ..) ⟨a, c, n, rfl, hlt, ?_⟩ hs
      have e1 : a + ((i + 1 : Nat) : Int) * c = a + (i : Int) * c + c := by push_cast; rw [Int.add_mul, Int.one_mul, Int.add_assoc]
      have e2 : (n : Int) - ((i + 1 : Nat) : Int) = (n : Int) - (i : Int) - 1 := by push_cast; omega
      rw [e1, e2]
      exact hit'
    · refine wpAny_pyNext_range_end hA.handled hit (by omega) fun h' hs => hend (by simp [hlt]) h' hs
  | list k =>
    obtain ⟨l, hl, hit⟩ := r
    delta liveAt at e
    dsimp only at e
    cases hx : H[k]? with
    | none => rw [hx] at e; exact no e
    | some ob =>
    rw [hx] at e
    cases ob with
    | list xs =>
      cases so e
      obtain ⟨o, ho, vs, ep, rfl, hv⟩ := Iv.objs _ _ _ hx hl
      have hli : s.heap.IsList l vs.toArray := ⟨_, ho, rfl, _, rfl⟩
      cases hxi : xs[i]? with
      | none => exact wpAny_pyNext_list_end hA.handled hit hli (by simpa using hv.get_none hxi) fun h' hs => hend hxi h' hs
      | some v =>
        obtain ⟨v', h1, h2⟩ := hv.get hxi
        exact wpAny_pyNext_list_item hit hli (x := v') (by simpa using h1) fun h' hit' hs => hitem v hxi v' h' _ h2 ⟨l, hl, hit'⟩ hs
    | _ => exact no e
  | tup k =>
    obtain ⟨l, hl, hit⟩ := r
    delta liveAt at e
    dsimp only at e
    cases hx : H[k]? with
    | none => rw [hx] at e; exact no e
    | some ob =>
    rw [hx] at e
    cases ob with
    | tup xs =>
      cases so e
      obtain ⟨o, ho, vs, ep, rfl, hv⟩ := Iv.objs _ _ _ hx hl
      have hli : s.heap.IsTuple l vs.toArray := ⟨_, ho, rfl, _, rfl⟩
      cases hxi : xs[i]? with
      | none => exact wpAny_pyNext_tuple_end hA.handled hit hli (by simpa using hv.get_none hxi) fun h' hs => hend hxi h' hs
      | some v =>
        obtain ⟨v', h1, h2⟩ := hv.get hxi
        exact wpAny_pyNext_tuple_item hit hli (x := v') (by simpa using h1) fun h' hit' hs => hitem v hxi v' h' _ h2 ⟨l, hl, hit'⟩ hs
    | _ => exact no e
end
end Mine
end
section
open PySem PySem.W PyProof.Rows
namespace Mine
section
variable {env : Env}

theorem lookup_map {α β : Type} (f : Str → α → β) (x : Str) : ∀ l : List (Str × α), (l.map fun p => (p.1, f p.1 p.2)).lookup x = (l.lookup x).map (f x)
  | [] => rfl
  | (n, k) :: r => by
    rw [List.map_cons, List.lookup_cons, List.lookup_cons]
    dsimp only
    cases h : x == n with
    | true => have : x = n := by simpa using h
              subst this; rfl
    | false => exact lookup_map f x r

noncomputable def relF (env : Env) (n : Str) (k : NameKind) : NameKind := if (k == .free && env.scope.kind == .function && env.kindOf n == some .cell) then .cell else k
theorem relabel_names (scope : Scope) (env : Env) : (relabel scope env).names = scope.names.map fun p => (p.1, relF env p.1 p.2) := by
  unfold relabel relF
  dsimp only
  apply List.map_congr_left
  rintro ⟨n, k⟩ _
  dsimp only
  split <;> rfl

theorem relabel_lookup (scope : Scope) (env : Env) (x : Str) : (relabel scope env).names.lookup x = (scope.names.lookup x).map (relF env x) := by
  rw [relabel_names, lookup_map]

noncomputable def closAcc (env : Env) : List (Str × NameKind) → List (Str × Addr) → List (Str × Addr)
  | [], acc => acc
  | (n, k) :: r, acc => if k == .free then (match env.cells.lookup n with | some c => closAcc env r ((n, c) :: acc) | none => closAcc env r acc) else closAcc env r acc

theorem clos_loop (f : Str × NameKind → List (Str × Addr) → Sem (ForInStep (List (Str × Addr))))
    (hf : ∀ n k cs, f (n, k) cs = if (k == NameKind.free) = true then (cellOf env n >>= fun r => pure (ForInStep.yield ((n, r) :: cs))) else pure (ForInStep.yield cs)) :
    ∀ (names : List (Str × NameKind)) (acc : List (Str × Addr)), (∀ y ∈ freesOf names, (env.cells.lookup y).isSome = true) → forIn names acc f = pure (closAcc env names acc)
  | [], acc, _ => rfl
  | (n, k) :: r, acc, h => by
    rw [List.forIn_cons, hf]
    unfold closAcc
    cases hk : (k == NameKind.free) with
    | true =>
      have hn : (env.cells.lookup n).isSome = true := h n (by unfold freesOf; rw [hk]; exact List.mem_cons_self)
      obtain ⟨c, hc⟩ := Option.isSome_iff_exists.mp hn
      have := clos_loop f hf r ((n, c) :: acc) (fun y hy => h y (by unfold freesOf; rw [hk]; exact List.mem_cons_of_mem _ hy))
      rw [if_pos rfl, if_pos rfl, hc, show cellOf env n = pure c from by unfold cellOf; rw [hc]]
      exact this
    | false =>
      have := clos_loop f hf r acc (fun y hy => h y (by unfold freesOf; rw [hk]; exact hy))
      rw [if_neg Bool.false_ne_true, if_neg Bool.false_ne_true]
      exact this

theorem closureFor_eq {scope : Scope} (h : ∀ y ∈ freesOf scope.names, (env.cells.lookup y).isSome = true) : closureFor scope env = pure (closAcc env scope.names []) := by
  simp only [closureFor]
  rw [clos_loop _ (fun _ _ _ => rfl) scope.names [] h]
  rfl

theorem closAcc_lookup (env : Env) : ∀ (names : List (Str × NameKind)) (acc : List (Str × Addr)) (y : Str) (c : Addr), env.cells.lookup y = some c → (∀ c', acc.lookup y = some c' → c' = c) →
    (y ∈ freesOf names ∨ acc.lookup y = some c) → (closAcc env names acc).lookup y = some c
  | [], acc, y, c, hy, ha, h => by
    rcases h with h | h
    · cases h
    · exact h
  | (n, k) :: r, acc, y, c, hy, ha, h => by
    unfold closAcc
    cases hk : (k == NameKind.free) with
    | true =>
      simp only [if_true]
      cases hn : env.cells.lookup n with
      | none =>
        refine closAcc_lookup env r acc y c hy ha ?_
        rcases h with h | h
        · unfold freesOf at h
          rw [hk] at h
          rcases List.mem_cons.mp h with rfl | h
          · rw [hy] at hn; cases hn
          · exact .inl h
        · exact .inr h
      | some d =>
        dsimp only
        by_cases hyn : y = n
        · subst hyn
          rw [hy] at hn; cases hn
          exact closAcc_lookup env r _ y c hy (fun c' h' => by simp at h'; exact h'.symm) (.inr (by simp))
        · have hb : (y == n) = false := beq_false_of_ne hyn
          refine closAcc_lookup env r _ y c hy (fun c' h' => ha c' (by simpa [List.lookup_cons, hb] using h')) ?_
          rcases h with h | h
          · unfold freesOf at h
            rw [hk] at h
            rcases List.mem_cons.mp h with h | h
            · exact absurd h hyn
            · exact .inl h
          · exact .inr (by simpa [List.lookup_cons, hb] using h)
    | false =>
      simp only [Bool.false_eq_true, if_false]
      refine closAcc_lookup env r acc y c hy ha ?_
      rcases h with h | h
      · unfold freesOf at h
        rw [hk] at h
        exact .inl h
      · exact .inr h

theorem closAcc_sub (env : Env) : ∀ (names : List (Str × NameKind)) (acc : List (Str × Addr)) (y : Str) (c : Addr), (y, c) ∈ closAcc env names acc → (y, c) ∈ acc ∨ (y, c) ∈ env.cells
  | [], acc, y, c, h => .inl h
  | (n, k) :: r, acc, y, c, h => by
    unfold closAcc at h
    split at h
    · split at h
      · rename_i d hd
        rcases closAcc_sub env r _ y c h with h | h
        · rcases List.mem_cons.mp h with h | h
          · cases h; exact .inr (mem_of_lookup hd)
          · exact .inl h
        · exact .inr h
      · exact closAcc_sub env r acc y c h
    · exact closAcc_sub env r acc y c h
end
end Mine
end
section
open PySem PySem.W PyProof.Rows
namespace Mine
theorem idx_get : ∀ {vars : List Str} {x : Str} {i : Nat}, idx vars x = some i → vars[i]? = some x
  | [], _, _, h => by cases h
  | y :: r, x, i, h => by
    unfold idx at h
    split at h
    · rename_i hh
      cases h
      have : x = y := by simpa using hh
      simp [this]
    · obtain ⟨j, hj, rfl⟩ := Option.map_eq_some_iff.mp h
      simpa using idx_get hj

theorem mapO_get {α β : Type} {f : α → Option β} : ∀ {xs : List α} {ys : List β}, mapO f xs = some ys → ∀ {i : Nat} {x : α}, xs[i]? = some x → ∃ y, ys[i]? = some y ∧ f x = some y
  | [], _, h, i, x, e => by simp at e
  | a :: r, _, h, 0, x, e => by
    obtain ⟨b, bs, h1, h2, rfl⟩ := mapO_cons h
    simp at e; subst e
    exact ⟨b, rfl, h1⟩
  | a :: r, _, h, i + 1, x, e => by
    obtain ⟨b, bs, h1, h2, rfl⟩ := mapO_cons h
    simpa using mapO_get h2 (i := i) (by simpa using e)

section
variable {C : Con} {g : Gt} {P : Pg} {A : Around} {E : Value → Shared → Prop} {s : Shared} {ρ ρ' : List Addr} {H H' : Hp} {cx : Cx} {env : Env} {l : Lc} {n : Nat} {src : Src} {i : Nat} {I : Addr}

theorem Ext.newAt {h₀ h h' : Heap} {a : Addr} (x : Ext C ρ h₀ ρ' h) (hs : Heap.ExtBut a h h') (ha : h₀.get? a = none) : Ext C ρ h₀ ρ' h' :=
  ⟨x.pre, fun b o hb e => hs b o (by rintro rfl; rw [ha] at e; cases e) (x.keep b o hb e), fun b e => by
    obtain ⟨o, ho⟩ := Option.isSome_iff_exists.mp (x.alive b e)
    rw [hs b o (by rintro rfl; rw [ha] at e; cases e) ho]; rfl⟩

theorem Inv.but {h h' : Heap} {a : Addr} (Iv : Inv C ρ H h) (ha : a ∉ ρ) (hb : C.base.get? a = none) (hs : Heap.ExtBut a h h') : Inv C ρ H h' :=
  ⟨Iv.len, Iv.pre, Iv.nodup, fun k O b e1 e2 => by
    obtain ⟨o, h1, h2⟩ := Iv.objs k O b e1 e2
    exact ⟨o, hs _ _ (fun hba => ha (hba ▸ List.mem_of_getElem? e2)) h1, h2⟩, Iv.cons, fun b o e =>
    hs _ _ (fun hba => by subst hba; rw [hb] at e; cases e) (Iv.base b o e), Iv.low⟩

theorem FR.but {h h' : Heap} {a : Addr} (F : FR cx env l ρ h) (hs : Heap.ExtBut a h h') (hl : env.locals ≠ a) (hc : ∀ x c, (x, c) ∈ env.cells → c ≠ a) : FR cx env l ρ h' := by
  obtain ⟨m, hm, hv⟩ := F.ns
  refine ⟨F.len, ⟨m, hm.extBut hs hl, hv⟩, fun i y hy => ?_, F.locNot, F.cellNot, fun y c hyc => ?_⟩
  · rcases F.var i y hy with h1 | ⟨h1, c, cv, h2, h3, h4⟩
    · exact .inl h1
    · exact .inr ⟨h1, c, cv, h2, cell_at h3 (fun o => hs c o (hc y c (mem_of_lookup h2))), h4⟩
  · obtain ⟨cv, hcv⟩ := F.cellHere y c hyc
    exact ⟨cv, cell_at hcv (fun o => hs c o (hc y c hyc))⟩

theorem FR.off {h : Heap} {a : Addr} (F : FR cx env l ρ h) (ha : h.get? a = none) : env.locals ≠ a ∧ ∀ x c, (x, c) ∈ env.cells → c ≠ a := by
  obtain ⟨m, ⟨o, _, _, ho, _⟩, _⟩ := F.ns
  refine ⟨(by rintro rfl; rw [ha] at ho; cases ho), fun x c hc => ?_⟩
  obtain ⟨cv, o, ho, _⟩ := F.cellHere x c hc
  rintro rfl; rw [ha] at ho; cases ho

theorem scope_facts {scope : Scope} {x : Str} (h : scopeOk scope cx x = true) : scope.kind = .function ∧ (∀ y ∈ scope.names, y.2 ≠ .cell) ∧ scope.names.lookup x = some .local ∧
    (∀ y ∈ scope.names, y.2 = .local → scope.names.lookup y.1 = some .local) ∧ (∀ y ∈ freesOf scope.names, cx.names.lookup y = some .cell ∧ scope.names.lookup y = some .free) := by
  unfold scopeOk at h
  simp only [Bool.and_eq_true, List.all_eq_true, beq_iff_eq, bne_iff_ne, ne_eq, Bool.or_eq_true] at h
  obtain ⟨⟨⟨⟨h1, h2⟩, h3⟩, h4⟩, h5⟩ := h
  exact ⟨h1, h2, h3, fun y hy hl => (h4 y hy).resolve_left (fun h => h hl), h5⟩

noncomputable abbrev cEnv (scope : Scope) (env : Env) (Ca : Addr) : Env := compEnvC scope (closAcc env scope.names []) Ca env

theorem cEnv_ok {scope : Scope} {x : Str} {Ca : Addr} (O : EnvOk cx env) (h : scopeOk scope cx x = true) : EnvOk ⟨scope.names, freesOf scope.names ++ [x]⟩ (cEnv scope env Ca) := by
  obtain ⟨h1, h2, h3, h4, h5⟩ := scope_facts h
  refine ⟨h1, O.globals, O.builtins, fun y hy => ?_, fun y hy => ?_⟩
  · show (relabel scope env).names.lookup y = _
    have hy' : scope.names.lookup y = some .globalImplicit := hy
    rw [relabel_lookup, hy']; rfl
  · have hm := mem_of_lookup (show scope.names.lookup y = some .cell from hy)
    exact absurd rfl (h2 _ hm)

theorem cFR {scope : Scope} {x : Str} {Ca : Addr} {caps : List Nat} {h : Heap} {m : Str → Option Value} {v : V} {v' : Value} (O : EnvOk cx env) (hs : scopeOk scope cx x = true) (hcaps : mapO (idx cx.vars) (freesOf scope.names) = some caps)
    (F : FR cx env l ρ h) (hCa : Ca ∉ ρ) (hm : h.Ns Ca m) (hmx : m x = some v') (hv : VR ρ v v') :
    FR ⟨scope.names, freesOf scope.names ++ [x]⟩ (cEnv scope env Ca) (caps.map (fun i => (l[i]?).join) ++ [some v]) ρ h := by
  obtain ⟨h1, h2, h3, h4, h5⟩ := scope_facts hs
  have hlen := mapO_length hcaps
  have hkx : (cEnv scope env Ca).kindOf x = some .local := by
    show (relabel scope env).names.lookup x = _
    rw [relabel_lookup, h3]; rfl
  have hky : ∀ y ∈ freesOf scope.names, (cEnv scope env Ca).kindOf y = some .cell := fun y hy => by
    show (relabel scope env).names.lookup y = _
    obtain ⟨a, b⟩ := h5 y hy
    rw [relabel_lookup, b]
    have hc := O.cellk y a
    show some (relF env y .free) = _
    unfold relF
    rw [O.kind, hc]; rfl
  have split : ∀ {i : Nat} {y : Str}, (freesOf scope.names ++ [x])[i]? = some y → (i < (freesOf scope.names).length ∧ (freesOf scope.names)[i]? = some y) ∨ (i = (freesOf scope.names).length ∧ y = x) := by
    intro i y hy
    by_cases hi : i < (freesOf scope.names).length
    · rw [List.getElem?_append_left hi] at hy; exact .inl ⟨hi, hy⟩
    · rw [List.getElem?_append_right (by omega)] at hy
      by_cases hi' : i = (freesOf scope.names).length
      · subst hi'; simp at hy; exact .inr ⟨rfl, hy.symm⟩
      · rw [List.getElem?_eq_none (by simp; omega)] at hy; cases hy
  have last : (caps.map (fun i => (l[i]?).join) ++ [some v])[(freesOf scope.names).length]? = some (some v) := by
    rw [hlen]; rw [List.getElem?_append_right (by simp)]; simp
  refine ⟨by simp [hlen], ⟨m, hm, fun i y hy hk w hw => ?_⟩, fun i y hy => ?_, hCa, fun y c hc => ?_, fun y c hc => ?_⟩
  · rcases split hy with ⟨hi, hy⟩ | ⟨rfl, rfl⟩
    · rw [hky y (List.mem_of_getElem? hy)] at hk; cases hk
    · rw [last] at hw; cases hw
      exact ⟨v', hmx, hv⟩
  · rcases split hy with ⟨hi, hy⟩ | ⟨rfl, rfl⟩
    · have hyf := List.mem_of_getElem? hy
      obtain ⟨k, hk, hidx⟩ := mapO_get hcaps hy
      have hvar := idx_get hidx
      obtain ⟨hc1, hc2⟩ := h5 y hyf
      have hkc := O.cellk y hc1
      rcases F.var k y hvar with hl | ⟨_, c, cv, e1, e2, e3⟩
      · rw [hkc] at hl; cases hl
      · refine .inr ⟨hky y hyf, c, cv, ?_, e2, fun w hw => ?_⟩
        · exact closAcc_lookup env scope.names [] y c e1 (by simp) (.inl hyf)
        · rw [List.getElem?_append_left (by simp; omega), List.getElem?_map, hk] at hw
          simp only [Option.map_some, Option.some.injEq] at hw
          exact e3 w (Option.join_eq_some_iff.mp hw)
    · exact .inl hkx
  · rcases closAcc_sub env scope.names [] y c hc with hc | hc
    · cases hc
    · exact F.cellNot y c hc
  · rcases closAcc_sub env scope.names [] y c hc with hc | hc
    · cases hc
    · exact F.cellHere y c hc

theorem comp_block (hE : SE C g P n) (hT : ST C g P n) (hA : AOk A n) {h₀ : Heap} {elt iter : Expr} {ifs : List Expr} {scope : Scope} {x : Str} {px pos : Pos} {m : Nat} {elt' : X} {ifs' : List X} {caps : List Nat} {j : Nat} {rr : R} {RR : Value → Addr → Result → Shared → Prop}
    (X0 : Ext C ρ h₀ ρ s.heap) (hI0 : h₀.get? I = none) (Iv : Inv C ρ H s.heap) (Iv0 : Inv C ρ H h₀) (O : EnvOk cx env) (F : FR cx env l ρ s.heap) (F0 : FR cx env l ρ h₀) (r : ItR ρ src 0 I s.heap)
    (hs : scopeOk scope cx x = true) (hcaps : mapO (idx cx.vars) (freesOf scope.names) = some caps)
    (helt : trE g m ⟨scope.names, freesOf scope.names ++ [x]⟩ elt = some elt') (hifs : mapO (trE g m ⟨scope.names, freesOf scope.names ++ [x]⟩) ifs = some ifs') (hlen : ifs'.length ≤ 1)
    (hloop : loopL (fun (a : Hp) => a) (fun v a =>
        (condsV (fun e h => ev P n e (caps.map (fun i => (l[i]?).join) ++ [some v]) h) ifs' a).bind fun (b, a) =>
          if b then (ev P n elt' (caps.map (fun i => (l[i]?).join) ++ [some v]) a).bind fun (y, a) => (appV a (.ref H.length) y).bind fun a => some (R.next, a)
          else some (R.next, a)) src j 0 (H ++ [.list []]) = some (rr, H'))
    (hRR : ∀ D Ca h' tk ρ' m, Ext C ρ h₀ ρ' h' → Inv C ρ' H' h' → FR cx env l ρ' h' → ρ'[H.length]? = some D → h'.Ns Ca m → Ca ∉ ρ' → h₀.get? Ca = none → RR (.ref D) Ca (.ok .next) { s with heap := h', toks := tk }) :
    wpAny (model C.prog C.w) A (newList []) (fun acc s₃ => wpAny (model C.prog C.w) A (newFunctionEnv scope env.globals (closAcc env scope.names []) [] env.qual none .none (some env)) (fun cenv s₄ =>
      codeAny (model C.prog C.w) A (.compStart (.ListComp elt [⟨.Name x px, iter, ifs, 0⟩] scope pos) 0 (.ref I) acc { cenv with scope := relabel scope env }) (RR acc cenv.locals) s₄) E s₃) E s := by
  obtain ⟨hkind, hcell, hx, hnames, hfree⟩ := scope_facts hs
  refine wpAny_newObj_type (wpAny_newFunctionEnv hcell (by intro y hy; simp at hy) (fun h₁ hns₁ hsb₁ => ?_) hkind)
  dsimp only at hns₁ hsb₁ ⊢
  have hD0 : h₀.get? s.heap.objs.size = none := by
    cases e : h₀.get? s.heap.objs.size with
    | none => rfl
    | some o =>
      have := X0.alive s.heap.objs.size (by rw [e]; rfl)
      rw [get?_none_size] at this; cases this
  obtain ⟨IvD, XD⟩ := Iv.push (O := .list []) (o := { cls := .type "list", dict := none, data := .seq ([] : List Value).toArray }) rfl ⟨[], 0, rfl, trivial⟩
  generalize hH2 : s.heap.push { cls := .type "list", dict := none, data := .seq ([] : List Value).toArray } = H2 at hns₁ hsb₁ IvD XD ⊢
  have hsz2 : H2.objs.size = s.heap.objs.size + 1 := by rw [← hH2, Heap.size_push]
  have hC0 : h₀.get? H2.objs.size = none := by
    cases e : h₀.get? H2.objs.size with
    | none => rfl
    | some o =>
      have := X0.alive H2.objs.size (by rw [e]; rfl)
      obtain ⟨o', ho'⟩ := Option.isSome_iff_exists.mp this
      have : (H2.objs.size : Nat) < s.heap.objs.size := Heap.lt_size ho'
      omega
  have hgrow : ∀ b o, H2.get? b = some o → h₁.get? b = some o := fun b o e => hsb₁.extBut b o (Nat.ne_of_lt (Heap.lt_size e)) (Heap.get?_push_of_some _ e)
  obtain ⟨Iv1, X1⟩ := IvD.grow hgrow
  have hCnone : H2.get? H2.objs.size = none := get?_none_size _
  have XX : Ext C ρ h₀ (ρ ++ [s.heap.objs.size]) h₁ := (X0.trans Iv.len0 XD).trans Iv.len0 X1
  have hIs : (s.heap.get? I).isSome = true := r.here
  have hIne : I ≠ s.heap.objs.size := by rintro rfl; rw [get?_none_size] at hIs; cases hIs
  have hIρ : I ∉ ρ := fun hm => by obtain ⟨o, ho⟩ := Iv0.mem_get hm; rw [hI0] at ho; cases ho
  have hIC : I ≠ H2.objs.size := by
    rintro rfl
    obtain ⟨o', ho'⟩ := Option.isSome_iff_exists.mp hIs
    have : (H2.objs.size : Nat) < s.heap.objs.size := Heap.lt_size ho'
    omega
  have hr1 : ItR (ρ ++ [s.heap.objs.size]) src 0 I h₁ := r.mono fun o e => hgrow I o (by rw [← hH2]; exact Heap.get?_push_of_some _ e)
  have hbI : C.base.get? I = none := by
    cases e : C.base.get? I with
    | none => rfl
    | some o => rw [Iv0.base _ _ e] at hI0; cases hI0
  have hbC : C.base.get? H2.objs.size = none := by
    cases e : C.base.get? H2.objs.size with
    | none => rfl
    | some o => rw [Iv0.base _ _ e] at hC0; cases hC0
  obtain ⟨fI1, fI2⟩ := F0.off hI0
  obtain ⟨fC1, fC2⟩ := F0.off hC0
  obtain ⟨FF, hFF⟩ : ∃ FF : V → Hp → Option (R × Hp), FF = (fun v a =>
        (condsV (fun e h => ev P n e (caps.map (fun i => (l[i]?).join) ++ [some v]) h) ifs' a).bind fun (b, a) =>
          if b then (ev P n elt' (caps.map (fun i => (l[i]?).join) ++ [some v]) a).bind fun (y, a) => (appV a (.ref H.length) y).bind fun a => some (R.next, a)
          else some (R.next, a)) := ⟨_, rfl⟩
  rw [← hFF] at hloop
  obtain ⟨PP, hPP⟩ : ∃ PP : Nat → Shared → Prop, PP = (fun k s' => ∃ h' tk ρ' i a mm, s' = { s with heap := h', toks := tk } ∧ Ext C ρ h₀ ρ' h' ∧ Inv C ρ' a h' ∧ FR cx env l ρ' h' ∧ ρ'[H.length]? = some s.heap.objs.size ∧ h'.Ns H2.objs.size mm ∧ H2.objs.size ∉ ρ' ∧ I ∉ ρ' ∧ ItR ρ' src i I h' ∧
        loopL (fun (a : Hp) => a) FF src k i a = some (rr, H')) := ⟨_, rfl⟩
  have loop : ∀ s₃ : Shared, s₃ = { s with heap := h₁, toks := s.toks + ([] : List (Str × Value)).length } →
      codeAny (model C.prog C.w) A (.compLoop (.ListComp elt [⟨.Name x px, iter, ifs, 0⟩] scope pos) 0 (.ref I) (.ref s.heap.objs.size) (cEnv scope env H2.objs.size))
        (RR (.ref s.heap.objs.size) H2.objs.size) s₃ := by
    rintro s₃ rfl
    refine codeAny_compLoop_tests PP ?_ j (by rw [hPP]; exact
      ⟨h₁, _, _, 0, _, _, rfl, XX, Iv1, (F.ext XD).ext X1, last_get Iv.len, hns₁, by
          intro hm
          rcases List.mem_append.mp hm with hm | hm
          · obtain ⟨o, ho⟩ := Iv0.mem_get hm
            rw [hC0] at ho; cases ho
          · simp at hm; omega, by
          intro hm
          rcases List.mem_append.mp hm with hm | hm
          · exact hIρ hm
          · simp at hm; exact hIne hm, hr1, hloop⟩)
    intro k s' hs'
    rw [hPP] at hs'
    obtain ⟨h', tk, ρ', i, a, mm, rfl, Xh, Ih, Fh, hDh, hnh, hCρ, hIρ', rh, hl⟩ := hs'
    cases k with
    | zero => exact no hl
    | succ k =>
      refine bsK hl fun xo hxo hln => ?_
      clear hl
      refine next_ok hA Ih rh hxo (fun hnone h'' hb => ?_) (fun v hsome v' h'' tk' rv r'' hb => ?_)
      · subst hnone
        cases so2 hln
        exact hRR _ _ h'' tk ρ' mm (Xh.newAt hb hI0) (Ih.but hIρ' hbI hb) (Fh.but hb fI1 fI2) hDh (hnh.extBut hb (Ne.symm hIC)) hCρ hC0
      · subst hsome
        refine bsP hln fun q a1 hstep hlnn => ?_
        clear hln
        rw [hFF] at hstep
        refine bsP hstep fun bt a2 hcond hst2 => ?_
        clear hstep
        have X2 := Xh.newAt hb.extBut hI0
        have I2 := Ih.but hIρ' hbI hb.extBut
        have F2 := Fh.but hb.extBut fI1 fI2
        have n2 := hnh.extBut hb.extBut (Ne.symm hIC)
        refine wpAny_assign_Name (wpAny_storeName_local (env := cEnv scope env H2.objs.size) (by show (relabel scope env).names.lookup x = _; rw [relabel_lookup, hx]; rfl) n2 (fun h3 hn3 hs3 => ?_) (by show (scope.kind == .class || (scope.kind == .module && _)) = false; rw [hkind]; rfl))
        have X3 := X2.newAt hs3.extBut hC0
        have I3 := I2.but hCρ hbC hs3.extBut
        have F3 := F2.but hs3.extBut fC1 fC2
        have r3 : ItR ρ' src (i + 1) I h3 := by
          have := r''.mono (t := []) (fun o e => hs3.extBut I o hIC e)
          simpa using this
        have Fc := cFR (v := v) O hs hcaps F3 hCρ hn3 (v' := v') (by simp) rv
        have Oc : EnvOk ⟨scope.names, freesOf scope.names ++ [x]⟩ (cEnv scope env H2.objs.size) := cEnv_ok O hs
        -- behind the tests
        have after : ∀ h4 tk4 ρ4, Ext C ρ' h3 ρ4 h4 → Inv C ρ4 a2 h4 →
            (if bt = true then wpAny (model C.prog C.w) A (eval elt (cEnv scope env H2.objs.size)) (fun y s₄ =>
              wpAny (model C.prog C.w) A (call (.builtin "list.append") [.ref s.heap.objs.size, y]) (fun _ s₅ => ∃ m', m' < k + 1 ∧ PP m' s₅)
                (notedBy (model C.prog C.w) A (cEnv scope env H2.objs.size) fun e s' => RR (.ref s.heap.objs.size) H2.objs.size (.error e) s') s₄)
              (notedBy (model C.prog C.w) A (cEnv scope env H2.objs.size) fun e s' => RR (.ref s.heap.objs.size) H2.objs.size (.error e) s') { s with heap := h4, toks := tk4 }
            else ∃ m', m' < k + 1 ∧ PP m' { s with heap := h4, toks := tk4 }) := by
          intro h4 tk4 ρ4 X4 I4
          have hD4 : ρ4[H.length]? = some s.heap.objs.size := by
            obtain ⟨t, rfl, _⟩ := X4.pre
            have := List.getElem?_eq_some_iff.mp hDh
            rw [List.getElem?_append_left this.1]; exact hDh
          have hC4 := X4.not_mem hCρ (ns_some hn3)
          have hI4 := X4.not_mem hIρ' r3.here
          have n4 := hn3.at' (X4.keeps_at hCρ)
          have r4 : ItR ρ4 src (i + 1) I h4 := by
            obtain ⟨t, rfl, _⟩ := X4.pre
            exact r3.mono (X4.keeps_at hIρ')
          have X04 := X3.trans Iv.len0 X4
          have F4 := F3.ext X4
          cases bt with
          | false =>
            cases so2 hst2
            exact ⟨k, Nat.lt_succ_self k, by rw [hPP]; exact ⟨h4, tk4, ρ4, i + 1, _, _, rfl, X04, I4, F4, hD4, n4, hC4, hI4, r4, hlnn⟩⟩
          | true =>
            refine bsP hst2 fun y a3 hy hst3 => ?_
            refine bsK hst3 fun a4 happ hst => ?_
            clear hst2 hst3
            cases so2 hst
            refine hE m elt elt' _ _ A { s with heap := h4, toks := tk4 } ρ4 _ _ y a3 _ _ Oc hA I4 (Fc.ext X4) helt hy fun h5 tk5 ρ5 y' X5 I5 r5 => ?_
            have hD5 : ρ5[H.length]? = some s.heap.objs.size := by
              obtain ⟨t, rfl, _⟩ := X5.pre
              have := List.getElem?_eq_some_iff.mp hD4
              rw [List.getElem?_append_left this.1]; exact hD4
            refine appV_ok (s := { s with heap := h5, toks := tk5 }) I5 (.ref hD5) r5 happ fun h6 tk6 ρ6 X6 I6 => ?_
            have X46 := X5.trans I4.len0 X6
            have hD6 : ρ6[H.length]? = some s.heap.objs.size := by
              obtain ⟨t, rfl, _⟩ := X6.pre
              have := List.getElem?_eq_some_iff.mp hD5
              rw [List.getElem?_append_left this.1]; exact hD5
            have r6 : ItR ρ6 src (i + 1) I h6 := by
              obtain ⟨t, rfl, _⟩ := X46.pre
              exact r4.mono (X46.keeps_at hI4)
            exact ⟨k, Nat.lt_succ_self k, by rw [hPP]; exact ⟨h6, tk6, ρ6, i + 1, _, _, rfl, X04.trans Iv.len0 X46, I6, F4.ext X46, hD6, n4.at' (X46.keeps_at hC4), X46.not_mem hC4 (ns_some n4), X46.not_mem hI4 r4.here, r6, hlnn⟩⟩
        cases ifs with
        | nil =>
          cases mapO_nil hifs
          cases so hcond
          exact wpAny_tests_nil (after h3 _ ρ' (.refl ..) I3)
        | cons c cs =>
          obtain ⟨c', cs', h1, h2, rfl⟩ := mapO_cons hifs
          cases cs with
          | nil =>
            cases mapO_nil h2
            exact wpAny_tests_one (hT m c c' _ _ A _ ρ' _ _ bt a2 _ _ Oc hA I3 Fc h1 hcond fun h4 tk4 ρ4 X4 I4 => after h4 tk4 ρ4 X4 I4)
          | cons _ _ =>
            have h5 : cs'.length + 1 ≤ 1 := hlen
            have h6 := mapO_length h2
            rw [← h6] at h5
            exact absurd h5 (by rw [List.length_cons]; omega)
  exact codeAny_compStart_list (loop _ rfl) (iterSelf_ok hr1 (loop _ rfl))
end
end Mine
end
section
open PySem PySem.W PyProof.Rows
namespace Mine
section
variable {C : Con} {g : Gt} {P : Pg} {A : Around} {E : Value → Shared → Prop} {s : Shared} {ρ ρ' : List Addr} {H H' : Hp} {cx : Cx} {env : Env} {l : Lc} {n : Nat}

theorem not_set {m : Nat} {e : Expr} {x : X} (h : trE g m cx e = some x) : ∀ v, foldedSetIterable e env v = pure v := by
  cases m with
  | zero => cases h
  | succ m => intro v; cases e <;> first | rfl | cases h

theorem comp_ok (hE : SE C g P n) (hT : ST C g P n) (hA : AOk A n) {elt iter : Expr} {ifs : List Expr} {scope : Scope} {x : Str} {px pos pos' : Pos} {m : Nat} {iter' elt' : X} {ifs' : List X} {caps : List Nat} {rr : R} {use : Option (Value → Sem Unit)} {Q : Value → Shared → Prop}
    {it : V} {H1 : Hp} {src : Src}
    (Iv : Inv C ρ H s.heap) (O : EnvOk cx env) (F : FR cx env l ρ s.heap)
    (hs : scopeOk scope cx x = true) (hcaps : mapO (idx cx.vars) (freesOf scope.names) = some caps) (hiter : trE g m cx iter = some iter')
    (helt : trE g m ⟨scope.names, freesOf scope.names ++ [x]⟩ elt = some elt') (hifs : mapO (trE g m ⟨scope.names, freesOf scope.names ++ [x]⟩) ifs = some ifs') (hlen : ifs'.length ≤ 1)
    (hv : ev P n iter' l H = some (it, H1)) (hsrc : srcOf H1 it = some src)
    (hloop : loopOn (fun (a : Hp) => a) (fun v a =>
        (condsV (fun e h => ev P n e (caps.map (fun i => (l[i]?).join) ++ [some v]) h) ifs' a).bind fun (b, a) =>
          if b then (ev P n elt' (caps.map (fun i => (l[i]?).join) ++ [some v]) a).bind fun (y, a) => (appV a (.ref H1.length) y).bind fun a => some (R.next, a)
          else some (R.next, a)) src (H1 ++ [.list []]) = some (rr, H'))
    (hpost : ∀ D h' tk ρ', Ext C ρ s.heap ρ' h' → Inv C ρ' H' h' → FR cx env l ρ' h' → ρ'[H1.length]? = some D → ∀ Ca m, h'.Ns Ca m → Ca ∉ ρ' → s.heap.get? Ca = none →
      compPost (model C.prog C.w) A E use Q (.ref D) Ca (.ok .next) { s with heap := h', toks := tk }) :
    wpAny (model C.prog C.w) A (comprehension (.ListComp elt [⟨.Name x px, iter, ifs, 0⟩] scope pos) scope env pos' (newList []) false (eval iter env) use) Q E s := by
  obtain ⟨hkind, hcell, hx, hnames, hfree⟩ := scope_facts hs
  have hclos : closureFor scope env = pure (closAcc env scope.names []) := closureFor_eq fun y hy => by
    obtain ⟨i, hi⟩ := List.mem_iff_getElem?.mp hy
    obtain ⟨k, hk, hidx⟩ := mapO_get hcaps hi
    have hvar := idx_get hidx
    obtain ⟨h1, _⟩ := hfree y hy
    rcases F.var k y hvar with hl | ⟨_, c, cv, e1, _⟩
    · rw [O.cellk y h1] at hl; cases hl
    · rw [e1]; rfl
  obtain ⟨j, hL⟩ := loopOn_L hloop
  refine wpAny_comprehension_free (use := use) rfl (not_set hiter) hclos hkind hnames (hE m iter iter' cx env A s ρ l H it H1 _ E O hA Iv F hiter hv fun h1 tk1 ρ1 it' X1 I1 r1 => ?_)
  refine pyIter_ok (s := { s with heap := h1, toks := tk1 }) I1 r1 hsrc fun I h2 hI hgrow hit => ?_
  obtain ⟨I2, X2⟩ := I1.grow hgrow
  have F1 := F.ext X1
  refine comp_block (s := { s with heap := h2, toks := tk1 }) (h₀ := h1) (RR := fun acc Ca => compPost (model C.prog C.w) A E use Q acc Ca) hE hT hA X2 hI I2 I1 O (F1.ext X2) F1 hit hs hcaps helt hifs hlen hL ?_
  intro D Ca h' tk ρ' mm X3 I3 F3 hD hn hCρ hC0
  refine hpost D h' tk ρ' (X1.trans Iv.len0 X3) I3 F3 hD Ca mm hn hCρ ?_
  cases e : s.heap.get? Ca with
  | none => rfl
  | some o =>
    have := X1.alive Ca (by rw [e]; rfl)
    rw [hC0] at this; cases this

theorem seq_type {o i v : V} {o' : Value} (Iv : Inv C ρ H s.heap) (ho : VR ρ o o') (e : getV H o i = some v) : s.TypeIs o' "list" ∨ s.TypeIs o' "tuple" := by
  cases ho with
  | @ref k l hl =>
    cases i with
    | int i =>
      refine ifK e fun _ e2 => ?_
      clear e
      cases hx : H[k]? with
      | none => rw [hx] at e2; exact no e2
      | some ob =>
      rw [hx] at e2
      cases ob with
      | list xs =>
        obtain ⟨ob, hob, vs, ep, rfl, hv⟩ := Iv.objs _ _ _ hx hl
        exact .inl ⟨_, hob, rfl⟩
      | tup xs =>
        obtain ⟨ob, hob, vs, ep, rfl, hv⟩ := Iv.objs _ _ _ hx hl
        exact .inr ⟨_, hob, rfl⟩
      | _ => exact no e2
    | _ => exact no e
  | _ => exact no e

theorem inPython_ok {o' : Value} {Q : Bool → Shared → Prop} {M : Model} (hT : s.TypeIs o' "list" ∨ s.TypeIs o' "tuple") (h : Q false s) : wpAny M A (getitemInPython o') Q E s := by
  rcases hT with hT | hT
  · rw [getitemInPython_of_ne hT.not_modules]
    refine wpAny_bind (wpAny_specialOf hT slot_list_getitem.lookup ?_)
    exact wpAny_pure h
  · rw [getitemInPython_of_ne hT.not_modules]
    refine wpAny_bind (wpAny_specialOf hT F.slot_tuple_getitem.lookup ?_)
    exact wpAny_pure h

theorem subscripted_eq {m : Nat} {i : Expr} {x : X} (h : trE g m cx i = some x) (o' i' : Value) : subscripted i false o' i' = operate [o', i'] (getItem o' i') := by
  cases m with
  | zero => cases h
  | succ m => cases i <;> first | rfl | cases h

theorem not_slice {m : Nat} {a b c : Option Expr} {p : Pos} {x : X} (h : trE g m cx (.Slice a b c p) = some x) : False := by
  cases m <;> cases h

theorem sub_ok (hE : SE C g P n) (hA : AOk A n) (O : EnvOk cx env) {m : Nat} {oe ie : Expr} {ox ix : X} {pos : Pos} {ov iv v : V} {H1 : Hp} {Q : Value → Shared → Prop} (Iv : Inv C ρ H s.heap) (F : FR cx env l ρ s.heap)
    (ho : trE g m cx oe = some ox) (hi : trE g m cx ie = some ix) (h1 : ev P n ox l H = some (ov, H1)) (h2 : ev P n ix l H1 = some (iv, H')) (h3 : getV H' ov iv = some v) (h : Post C ρ s H' v Q) :
    wpAny (model C.prog C.w) A (eval (.Subscript oe ie pos) env) Q E s := by
  rw [eval_Subscript]
  refine wpAny_bind (hE m oe ox cx env A s ρ l H ov H1 _ E O hA Iv F ho h1 fun h' tk ρ' o' X1 I1 r1 => ?_)
  refine wpAny_bind (wpAny_holding (hE m ie ix cx env A _ ρ' l H1 iv H' _ E O hA I1 (F.ext X1) hi h2 fun h'' tk' ρ'' i' X2 I2 r2 => ?_))
  have r1' := r1.ext X2
  refine wpAny_bind (wpAny_standAt (wpAny_bind (inPython_ok (seq_type (s := { s with heap := h'', toks := tk' }) I2 r1' h3) ?_)))
  rw [subscripted_eq hi]
  refine wpAny_bind (wpAny_operating (getV_ok (s := { s with heap := h'', toks := tk' }) I2 r1' r2 h3 fun v' rv => ?_))
  exact wpAny_bind (wpAny_letTemporaryGo (wpAny_pure (h h'' tk' ρ'' v' (X1.trans Iv.len0 X2) I2 rv)))

theorem slice_lists (xs : List Value) (a : Nat) : (slicePick xs.toArray (some (a : Int)) none none) = (xs.drop a).toArray := by
  rw [slicePick_from']
theorem slice_upto (xs : List Value) (a : Nat) : (slicePick xs.toArray none (some (a : Int)) none) = (xs.take a).toArray := by
  rw [slicePick_upto']

theorem slice_ok (hE : SE C g P n) (hA : AOk A n) (O : EnvOk cx env) {m : Nat} {oe ue : Expr} {ox ux : X} {pos p : Pos} {ov uv v : V} {H1 H2 : Hp} {Q : Value → Shared → Prop} (Iv : Inv C ρ H s.heap) (F : FR cx env l ρ s.heap)
    (ho : trE g m cx oe = some ox) (hu : trE g m cx ue = some ux) (h1 : ev P n ox l H = some (ov, H1)) (h2 : ev P n ux l H1 = some (uv, H2)) (h : Post C ρ s H' v Q) :
    (takeV H2 ov uv = some (v, H') → wpAny (model C.prog C.w) A (eval (.Subscript oe (.Slice none (some ue) none p) pos) env) Q E s) ∧
    (dropV H2 ov uv = some (v, H') → wpAny (model C.prog C.w) A (eval (.Subscript oe (.Slice (some ue) none none p) pos) env) Q E s) := by
  constructor
  · intro h3
    rw [eval_Subscript]
    refine wpAny_bind (hE m oe ox cx env A s ρ l H ov H1 _ E O hA Iv F ho h1 fun h' tk ρ' o' X1 I1 r1 => ?_)
    refine wpAny_bind (wpAny_holding (wpAny_Slice ?_))
    rw [evalPart_none]
    refine wpAny_pure ?_
    rw [evalPart_some]
    refine hE m ue ux cx env A _ ρ' l H1 uv H2 _ E O hA I1 (F.ext X1) hu h2 fun h'' tk' ρ'' u' X2 I2 r2 => ?_
    refine wpAny_pure ?_
    have r1' := r1.ext X2
    have X12 := X1.trans Iv.len0 X2
    cases r1' with
    | @ref k lx hl =>
      cases r2 with
      | int u t =>
        delta takeV at h3
        dsimp only at h3
        cases hx : seqOf H2 k with
        | none => rw [hx] at h3; exact no h3
        | some xs =>
          rw [hx] at h3
          refine ifK h3 fun hh h4 => ?_
          clear h3
          · skip
            simp only [Bool.and_eq_true, decide_eq_true_eq] at hh
            cases so h4
            obtain ⟨vs, hvs, hr⟩ := seqOf_ok I2 hl hx
            have hn := hr.length
            have hsl := hvs.push { cls := .type "slice", data := .fields #[.none, .int u t, .none] }
            refine wpAny_bind (wpAny_standAt (wpAny_bind (inPython_ok (.inl hsl.typeIs) ?_)))
            show wpAny _ A (operate _ (getItem (.ref lx) (.ref h''.objs.size)) >>= _) _ _ _
            obtain ⟨a, rfl⟩ := Int.eq_ofNat_of_zero_le hh.1
            refine wpAny_bind (wpAny_operating (wpAny_getItem_list_slice (lo := none) (hi := some (a : Int)) (st := none) hsl (Heap.IsSliceOf.new ..) .none (.int _ _) .none (by simp) ?_ (by have := lineBig; simp; omega)))
            refine wpAny_bind (wpAny_letTemporaryGo (wpAny_pure ?_))
            rw [slice_upto]
            obtain ⟨Ig, Xg⟩ := I2.grow (h' := h''.push { cls := .type "slice", data := .fields #[.none, .int (a : Int) t, .none] }) (fun _ _ e => Heap.get?_push_of_some _ e)
            obtain ⟨I', X'⟩ := Ig.push (O := .list (xs.take a)) (o := { cls := .type "list", data := .seq (vs.take a).toArray }) rfl ⟨_, _, rfl, (hr.take a).mono⟩
            exact h _ tk' _ _ (X12.trans Iv.len0 (Xg.trans I2.len0 X')) (by simpa using I') (.ref (last_get Ig.len))
      | _ => exact no h3
    | _ => exact no h3
  · intro h3
    rw [eval_Subscript]
    refine wpAny_bind (hE m oe ox cx env A s ρ l H ov H1 _ E O hA Iv F ho h1 fun h' tk ρ' o' X1 I1 r1 => ?_)
    refine wpAny_bind (wpAny_holding (wpAny_Slice ?_))
    rw [evalPart_some]
    refine hE m ue ux cx env A _ ρ' l H1 uv H2 _ E O hA I1 (F.ext X1) hu h2 fun h'' tk' ρ'' u' X2 I2 r2 => ?_
    rw [evalPart_none]
    refine wpAny_pure (wpAny_pure ?_)
    have r1' := r1.ext X2
    have X12 := X1.trans Iv.len0 X2
    cases r1' with
    | @ref k lx hl =>
      cases r2 with
      | int u t =>
        delta dropV at h3
        dsimp only at h3
        cases hx : seqOf H2 k with
        | none => rw [hx] at h3; exact no h3
        | some xs =>
          rw [hx] at h3
          refine ifK h3 fun hh h4 => ?_
          clear h3
          · skip
            simp only [Bool.and_eq_true, decide_eq_true_eq] at hh
            cases so h4
            obtain ⟨vs, hvs, hr⟩ := seqOf_ok I2 hl hx
            have hn := hr.length
            have hsl := hvs.push { cls := .type "slice", data := .fields #[.int u t, .none, .none] }
            refine wpAny_bind (wpAny_standAt (wpAny_bind (inPython_ok (.inl hsl.typeIs) ?_)))
            show wpAny _ A (operate _ (getItem (.ref lx) (.ref h''.objs.size)) >>= _) _ _ _
            obtain ⟨a, rfl⟩ := Int.eq_ofNat_of_zero_le hh.1
            refine wpAny_bind (wpAny_operating (wpAny_getItem_list_slice (lo := some (a : Int)) (hi := none) (st := none) hsl (Heap.IsSliceOf.new ..) (.int _ _) .none .none (by simp) ?_ (by have := lineBig; simp; omega)))
            refine wpAny_bind (wpAny_letTemporaryGo (wpAny_pure ?_))
            rw [slice_lists]
            obtain ⟨Ig, Xg⟩ := I2.grow (h' := h''.push { cls := .type "slice", data := .fields #[.int (a : Int) t, .none, .none] }) (fun _ _ e => Heap.get?_push_of_some _ e)
            obtain ⟨I', X'⟩ := Ig.push (O := .list (xs.drop a)) (o := { cls := .type "list", data := .seq (vs.drop a).toArray }) rfl ⟨_, _, rfl, (hr.drop a).mono⟩
            exact h _ tk' _ _ (X12.trans Iv.len0 (Xg.trans I2.len0 X')) (by simpa using I') (.ref (last_get Ig.len))
      | _ => exact no h3
    | _ => exact no h3
end
end Mine
end
section
open PySem PySem.W PyProof.Rows
namespace Mine
section
variable {C : Con} {g : Gt} {P : Pg} {A : Around} {E : Value → Shared → Prop} {s : Shared} {ρ ρ' : List Addr} {H H' : Hp} {cx : Cx} {env : Env} {l : Lc} {n : Nat}

theorem evalArgs_all {M : Model} {f : Value} {es : List Expr} {Q : Args → Shared → Prop} (h : wpAny M A (spliced (es.map fun e => (false, eval e env))) (fun vs s' => Q ⟨vs, []⟩ s') E s) :
    wpAny M A (evalArgs f true (es.map fun e => (false, eval e env)) []) Q E s := by
  cases es with
  | nil =>
    unfold evalArgs
    show wpAny M A (spliced [] >>= _) Q E s
    refine wpAny_bind (wpAny_mono h (fun vs s' h' => ?_) fun _ _ x => x)
    refine wpAny_bind (wpAny_pure (wpAny_holding ?_))
    exact wpAny_bind (wpAny_pure (wpAny_bind (wpAny_pure (wpAny_pure h'))))
  | cons e r => exact Calls.evalArgs_plain h

theorem callWith_ok {f : Value} {first : List Value} {pos pos' : Pos} {es : List Expr} {Q : Value → Shared → Prop} (hk : ∀ h, C.K.In h → ∃ k, (k = Keeper.frame ∨ k = Keeper.machine ∨ k = Keeper.boundFrame) ∧ Looks (model C.prog C.w) h (keeperOf f) k)
    (h : wpAny (model C.prog C.w) A (spliced (es.map fun e => (false, eval e env))) (fun vs s₁ => C.K.In s₁.heap ∧ wpAny (model C.prog C.w) A (call f (first ++ vs)) Q E s₁) E s) :
    wpAny (model C.prog C.w) A (callWith pos f first (es.map fun e => (false, eval e env)) (backToKw pos' (keywordEach [] env))) Q E s :=
  callWith_of (P := fun h => C.K.In h) (by rw [any_all]; rfl) hk (evalArgs_all h)

theorem keeps_machine {f : Value} (h : keeperOf f = pure Keeper.machine) (hp : Heap) (_ : C.K.In hp) : ∃ k, (k = Keeper.frame ∨ k = Keeper.machine ∨ k = Keeper.boundFrame) ∧ Looks (model C.prog C.w) hp (keeperOf f) k :=
  ⟨_, .inr (.inl rfl), Looks.of_pure h⟩

theorem attributeBase_eq {o : Expr} {a : Str} {whole : Sem Value} (h : notCall o = true) : attributeBase o a env whole = whole := by
  cases o <;> first | rfl | cases h

theorem append_ok (hE : SE C g P n) (hA : AOk A n) (T : Tabs C g P) (O : EnvOk cx env) {m : Nat} {o y : Expr} {a : Str} {ap p : Pos} {ox yx : X} {ov v : V} {H1 H2 H3 : Hp} {Q : Value → Shared → Prop} (Iv : Inv C ρ H s.heap) (F : FR cx env l ρ s.heap)
    (ha : a = "append") (hno : notCall o = true) (hp : (ap.endLine == p.line) = true) (ho : trE g m cx o = some ox) (hy : trE g m cx y = some yx)
    (h1 : ev P n ox l H = some (ov, H1)) (hL : isL H1 ov = true) (h2 : ev P n yx l H1 = some (v, H2)) (h3 : appV H2 ov v = some H3) (h : Post C ρ s H3 .none Q) :
    wpAny (model C.prog C.w) A (eval (.Call (.Attribute o a ap) [y] [] p) env) Q E s := by
  subst ha
  show wpAny _ A (attributeBase o "append" env (eval o env) >>= fun ov => standAt ap.atName >>= fun _ => methodCall o "append" ap p env ov _ (backTo p (starEach [y] env)) (backToKw p (keywordEach [] env))) Q E s
  rw [attributeBase_eq hno]
  refine wpAny_bind (hE m o ox cx env A s ρ l H ov H1 _ E O hA Iv F ho h1 fun h' tk ρ' o' X1 I1 r1 => wpAny_bind (wpAny_standAt ?_))
  cases r1 with
  | @ref k lx hl =>
    simp only [isL] at hL
    split at hL
    case h_2 => cases hL
    rename_i xs hx
    obtain ⟨ob, hob, vs, ep, rfl, hv⟩ := I1.objs _ _ _ hx hl
    have hst : starEach [y] env = [(false, eval y env)] := starEach_plain hy
    rw [hst]
    show wpAny _ A (methodCall o "append" ap p env (.ref lx) _ [(false, eval y env)] []) Q E _
    unfold methodCall
    refine wpAny_bind (wpAny_holding ?_)
    show wpAny _ A (getMethod (.ref lx) "append" _) _ _ _
    refine Calls.getMethod_list_append (s := { s with heap := h', toks := tk }) hob rfl rfl ?_
    dsimp only
    refine wpAny_bind (m := methodCallPos _ o env ap p) ?_
    unfold methodCallPos
    have hpp : (!methodCallForm ([y].length + ([] : List Keyword).length) [(false, eval y env)] [] || ap.endLine == p.line) = true := by rw [hp, Bool.or_true]
    rw [if_pos hpp]
    refine wpAny_pure ?_
    refine callWith_ok (pos' := p) (es := [y]) (first := [.ref lx]) (keeps_machine rfl) ?_
    refine Calls.spliced_cons (hE m y yx cx env A _ ρ' l H1 v H2 _ E O hA I1 (F.ext X1) hy h2 fun h'' tk' ρ'' v' X2 I2 r2 => ?_)
    refine Calls.spliced_nil ⟨I2.K T.toGood, ?_⟩
    refine appV_ok (s := { s with heap := h'', toks := tk' }) I2 (VR.ext X2 (.ref hl)) r2 h3 fun h3' tk3 ρ3 X3 I3 => ?_
    exact h h3' tk3 ρ3 .none (X1.trans Iv.len0 (X2.trans I1.len0 X3)) I3 .none
  | _ => simp [isL] at hL

theorem call_ok (hE : SE C g P n) (hC : SC C g P n) (hN : SN C g P n) (hA : AOk A n) (T : Tabs C g P) (O : EnvOk cx env) {m : Nat} {f : Str} {fp p : Pos} {args : List Expr} {xs : List X} {Q : Value → Shared → Prop} (Iv : Inv C ρ H s.heap) (F : FR cx env l ρ s.heap)
    (hg : globalIn cx f = true) (ht : mapO (trE g m cx) args = some xs) {vs : List V} {H1 : Hp} (hv : evs (fun e h => ev P n e l h) xs H = some (vs, H1)) {v : V} (h : Post C ρ s H' v Q) :
    (∀ i, g.fns.lookup f = some i → callF P n i vs H1 = some (v, H') → wpAny (model C.prog C.w) A (eval (.Call (.Name f fp) args [] p) env) Q E s) ∧
    (∀ i, g.clss.lookup f = some i → newF P n i vs H1 = some (v, H') → wpAny (model C.prog C.w) A (eval (.Call (.Name f fp) args [] p) env) Q E s) ∧
    (∀ b, biOf f = some b → biV H1 b vs = some (v, H') → wpAny (model C.prog C.w) A (eval (.Call (.Name f fp) args [] p) env) Q E s) := by
  have go : ∀ fv, (∀ Q, Q fv s → wpAny (model C.prog C.w) A (eval (.Name f fp) env) Q E s) →
      (∀ h, C.K.In h → ∃ k, (k = Keeper.frame ∨ k = Keeper.machine ∨ k = Keeper.boundFrame) ∧ Looks (model C.prog C.w) h (keeperOf fv) k) →
      (∀ h' tk ρ' vs', Ext C ρ s.heap ρ' h' → Inv C ρ' H1 h' → VRs ρ' vs vs' → wpAny (model C.prog C.w) A (call fv vs') Q E { s with heap := h', toks := tk }) →
      wpAny (model C.prog C.w) A (eval (.Call (.Name f fp) args [] p) env) Q E s := by
    intro fv hname hkeep hcall
    show wpAny _ A (eval (.Name f fp) env >>= fun fv => callWith p fv [] (backTo p (starEach args env)) (backToKw p (keywordEach [] env))) Q E s
    refine wpAny_bind (hname _ ?_)
    rw [starEach_all ht, backTo_all]
    refine callWith_ok hkeep ?_
    refine evs_ok hE O hA Iv F ht hv fun h' tk ρ' vs' X1 I1 r1 => ⟨I1.K T.toGood, ?_⟩
    exact hcall h' tk ρ' vs' X1 I1 r1
  refine ⟨fun i hi hc => ?_, fun i hi hc => ?_, fun b hb hc => ?_⟩
  · obtain ⟨a, d, h1, h2, h3⟩ := T.fns f i hi
    obtain ⟨_, _, _, _, _, _, _, _, _, _, _, _, _, _, _, _, _, _, _, _, hkeep⟩ := h3.ex
    refine go (.ref a) (fun Q hQ => glob_ok T Iv O hg h1 hQ) (keeps_K hkeep) fun h' tk ρ' vs' X1 I1 r1 => ?_
    refine wpAny_call (hC i d a A _ ρ' H1 vs vs' v H' _ hA I1 h2 h3 r1 hc fun h'' tk' ρ'' v' X2 I2 r2 => ?_)
    exact h h'' tk' ρ'' v' (X1.trans Iv.len0 X2) I2 r2
  · obtain ⟨Ca, j, d, fa, h1, h2, h3, h4, _⟩ := T.clss f i hi
    refine go (.ref Ca) (fun Q hQ => glob_ok T Iv O hg h1 hQ) (keeps_K h4) fun h' tk ρ' vs' X1 I1 r1 => ?_
    exact hN f i Ca A _ ρ' H1 vs vs' v H' _ E hA I1 hi h2 r1 hc fun h'' tk' ρ'' v' X2 I2 r2 => h h'' tk' ρ'' v' (X1.trans Iv.len0 X2) I2 r2
  · refine go (biVal b) (fun Q hQ => bi_ok T Iv O hg hb hQ) (keeps_machine (by cases b <;> rfl)) fun h' tk ρ' vs' X1 I1 r1 => ?_
    exact biV_ok hA I1 r1 hc fun h'' tk' ρ'' v' X2 I2 r2 => h h'' tk' ρ'' v' (X1.trans Iv.len0 X2) I2 r2

theorem newSeq_ok {vs : List V} {xs : List Value} {Q : Value → Shared → Prop} (Iv : Inv C ρ H s.heap) (hr : VRs ρ vs xs) (hlen : vs.length ≤ 1000) :
    (Post C ρ s (H ++ [.list vs]) (.ref H.length) Q → wpAny (model C.prog C.w) A (newList xs) Q E s) ∧
    (Post C ρ s (H ++ [.tup vs]) (.ref H.length) Q → wpAny (model C.prog C.w) A (newTuple xs) Q E s) := by
  have hl := hr.length
  constructor
  · intro h
    obtain ⟨I', X'⟩ := Iv.push (O := .list vs) (o := { cls := .type "list", data := .seq xs.toArray }) rfl ⟨_, _, rfl, hr.mono⟩
    exact wpAny_newObj_type (h _ s.toks _ _ X' I' (.ref (last_get Iv.len))) (by have := lineBig; show xs.toArray.size ≤ sizeLine; simp; omega)
  · intro h
    obtain ⟨I', X'⟩ := Iv.push (O := .tup vs) (o := { cls := .type "tuple", data := .seq xs.toArray }) rfl ⟨_, _, rfl, hr.mono⟩
    exact wpAny_newObj_type (h _ s.toks _ _ X' I' (.ref (last_get Iv.len))) (by have := lineBig; show xs.toArray.size ≤ sizeLine; simp; omega)

theorem comp_none {m : Nat} {elt tg iter : Expr} {ifs : List Expr} {ia : Int} {r : List Comprehension} {sc : Scope} {p : Pos} (hn : isName tg = false) : trE g (m + 1) cx (.ListComp elt (⟨tg, iter, ifs, ia⟩ :: r) sc p) = none := by
  cases tg <;> first | rfl | exact nomatch hn
theorem name_or {e : Expr} {G : Prop} (k1 : ∀ x p, e = .Name x p → G) (k2 : isName e = false → G) : G := by
  cases e <;> first | exact k1 _ _ rfl | exact k2 rfl
theorem trE_comp_K {m : Nat} {elt : Expr} {gens : List Comprehension} {sc : Scope} {p : Pos} {x : X} {G : Prop} (h : trE g (m + 1) cx (.ListComp elt gens sc p) = some x)
    (k : ∀ y py iter ifs iter' caps elt' ifs', gens = [⟨.Name y py, iter, ifs, 0⟩] → scopeOk sc cx y = true → trE g m cx iter = some iter' → mapO (idx cx.vars) (freesOf sc.names) = some caps →
      trE g m ⟨sc.names, freesOf sc.names ++ [y]⟩ elt = some elt' → mapO (trE g m ⟨sc.names, freesOf sc.names ++ [y]⟩) ifs = some ifs' → ifs'.length ≤ 1 → x = .comp elt' iter' ifs' caps → G) : G := by
  cases gens with
  | nil => exact no h
  | cons c r =>
    cases c with
    | mk tg iter ifs ia =>
      refine name_or (e := tg) (fun y py e => ?_) fun e => ?_
      · subst e
        cases r with
        | cons _ _ => cases ia with
          | negSucc _ => exact no h
          | ofNat j => cases j <;> exact no h
        | nil =>
          cases ia with
          | negSucc _ => exact no h
          | ofNat j =>
            cases j with
            | succ _ => exact no h
            | zero =>
            refine ifK h fun hc h => ?_
            refine bsK h fun iter' h1 h => ?_
            refine bsK h fun caps h2 h => ?_
            refine bsK h fun elt' h3 h => ?_
            refine bsK h fun ifs' h4 h => ?_
            refine ifK h fun hlen h => ?_
            exact k y py iter ifs iter' caps elt' ifs' rfl (Bool.and_eq_true_iff.mp hc).1 h1 h2 h3 h4 hlen (so h).symm
      · rw [comp_none e] at h
        exact no h

theorem soE {P : Pg} {n : Nat} {l : Lc} {H : Hp} {r} {a x : X} (e : some a = some x) (hv : ev P n x l H = r) : ev P n a l H = r := by cases e; exact hv
theorem soV {C ρ s Q} {v v' : V} {H H' : Hp} (e : some (v, H) = some (v', H')) (h : Post C ρ s H' v' Q) : Post C ρ s H v Q := by cases so2 e; exact h
theorem se_succ (T : Tabs C g P) (hE : SE C g P n) (hT : ST C g P n) (hC : SC C g P n) (hN : SN C g P n) : SE C g P (n + 1) := by
  intro m e x cx env A s ρ l H v H' Q E O hA1 Iv F ht hv h
  have hA : AOk A n := hA1.mono (Nat.le_succ n)
  cases m with
  | zero => cases ht
  | succ m =>
    cases e
    case Constant c ck cp =>
      cases c
      case none =>
        cases so ht; cases so hv
        exact wpAny_pure (a := Value.none) (h _ s.toks _ _ (.refl ..) Iv .none)
      case bool =>
        cases so ht; cases so hv
        exact wpAny_pure (a := Value.bool _) (h _ s.toks _ _ (.refl ..) Iv (.bool _))
      case int =>
        cases so ht; cases so hv
        exact wpAny_Constant_int (h _ _ _ _ (.refl ..) Iv (.int ..))
      all_goals exact no ht
    case Name y p =>
      refine ifN ht fun hd ha => ?_
      clear ht
      have hd' : (y == ("__debug__" : Str)) = false := Bool.eq_false_iff.mpr hd
      cases hi : idx cx.vars y with
      | some i =>
        rw [hi] at ha
        cases so ha
        have hv : (match l[i]? with
          | some (some v) => some (v, H)
          | _ => none) = some (v, H') := hv
        cases hw : l[i]? with
        | none => rw [hw] at hv; exact no hv
        | some q =>
        rw [hw] at hv
        cases q with
        | none => exact no hv
        | some w =>
        cases so hv
        exact wpAny_Name (var_ok (C := C) O F (idx_get hi) hw fun v' rv => h _ s.toks _ _ (.refl ..) Iv rv) hd'
      | none =>
        rw [hi] at ha
        refine ifK ha fun hg hc => ?_
        clear ha
        refine mapK hc fun w hw hx => ?_
        clear hc
        subst hx
        cases so hv
        obtain ⟨v', h1, h2⟩ := T.consts y _ hw
        refine glob_ok T Iv O hg h1 (h _ s.toks _ _ (.refl ..) Iv ?_)
        obtain ⟨t, rfl⟩ := Iv.pre
        exact h2.mono
    -- BinOp
    case BinOp a op b p =>
      refine bsK ht fun a' h1 htn => ?_
      clear ht
      refine bsK htn fun b' h2 h3 => ?_
      clear htn
      replace hv := soE h3 hv
      refine bsP hv fun u H1 hv1 hvn => ?_
      clear hv
      refine bsP hvn fun w H2 hv2 hv3 => ?_
      clear hvn
      refine wpAny_BinOp (hE m a a' cx env A s ρ l H u H1 _ E O hA Iv F h1 hv1 fun h' tk ρ' u' X1 I1 r1 => ?_)
      refine hE m b b' cx env A _ ρ' l H1 w H2 _ E O hA I1 (F.ext X1) h2 hv2 fun h'' tk' ρ'' w' X2 I2 r2 => ?_
      exact binV_ok (s := { s with heap := h'', toks := tk' }) I2 (r1.ext X2) r2 hv3 fun h3' tk3 ρ3 v' X3 I3 r3 => h h3' tk3 ρ3 v' (X1.trans Iv.len0 (X2.trans I1.len0 X3)) I3 r3
    -- UnaryOp
    case UnaryOp op a p =>
      refine bsK ht fun a' h1 h3 => ?_
      clear ht
      replace hv := soE h3 hv
      refine bsP hv fun u H1 hv1 hvn => ?_
      clear hv
      refine bsK hvn fun w hv2 hv3 => ?_
      clear hvn
      replace h := soV hv3 h
      show wpAny _ A (eval a env >>= fun v => standAt p >>= fun _ => holding [v] (unaryOp op v)) Q E s
      refine wpAny_bind (hE m a a' cx env A s ρ l H u _ _ E O hA Iv F h1 hv1 fun h' tk ρ' u' X1 I1 r1 => ?_)
      refine wpAny_bind (wpAny_standAt (wpAny_holding ?_))
      exact unV_ok (s := { s with heap := h', toks := tk }) I1 r1 hv2 fun h3' tk3 ρ3 v' X3 I3 r3 => h h3' tk3 ρ3 v' (X1.trans Iv.len0 X3) I3 r3
    -- BoolOp
    case BoolOp op es p =>
      refine bsK ht fun xs h1 h3 => ?_
      clear ht
      replace hv := soE h3 hv
      exact boolL_ok hE O hA Iv F h1 hv h
    -- Compare
    case Compare a ops rs p =>
      refine bsK ht fun a' h1 htn => ?_
      clear ht
      refine bsK htn fun xs h2 h3 => ?_
      clear htn
      replace hv := soE h3 hv
      refine bsP hv fun u H1 hv1 hv2 => ?_
      clear hv
      show wpAny _ A (eval a env >>= fun lv => compareChain p lv ops (markedEach ops rs (evalEach rs env))) Q E s
      refine wpAny_bind (hE m a a' cx env A s ρ l H u H1 _ E O hA Iv F h1 hv1 fun h' tk ρ' u' X1 I1 r1 => ?_)
      exact chain_ok hE O hA (s := { s with heap := h', toks := tk }) I1 (F.ext X1) r1 h2 hv2 fun h3' tk3 ρ3 v' X3 I3 r3 => h h3' tk3 ρ3 v' (X1.trans Iv.len0 X3) I3 r3
    -- IfExp
    case IfExp t a b p =>
      refine bsK ht fun t' h1 htn => ?_
      clear ht
      refine bsK htn fun a' h2 htnn => ?_
      clear htn
      refine bsK htnn fun b' h3 h4 => ?_
      clear htnn
      replace hv := soE h4 hv
      refine bsP hv fun c H1 hv1 hv2 => ?_
      clear hv
      show wpAny _ A (isTrue t env (eval t env) >>= fun z => if z then eval a env else eval b env) Q E s
      refine wpAny_bind (hT m t t' cx env A s ρ l H c H1 _ E O hA Iv F h1 hv1 fun h' tk ρ' X1 I1 => ?_)
      cases c with
      | true =>
        simp only [if_true] at hv2 ⊢
        exact hE m a a' cx env A { s with heap := h', toks := tk } ρ' l H1 v H' _ E O hA I1 (F.ext X1) h2 hv2 fun h3' tk3 ρ3 v' X3 I3 r3 => h h3' tk3 ρ3 v' (X1.trans Iv.len0 X3) I3 r3
      | false =>
        simp only [Bool.false_eq_true, if_false] at hv2 ⊢
        exact hE m b b' cx env A { s with heap := h', toks := tk } ρ' l H1 v H' _ E O hA I1 (F.ext X1) h3 hv2 fun h3' tk3 ρ3 v' X3 I3 r3 => h h3' tk3 ρ3 v' (X1.trans Iv.len0 X3) I3 r3
    case Call f args kws p =>
      cases f
      case Attribute o a ap =>
        cases args with
        | nil => exact no ht
        | cons y r =>
        cases r with
        | cons _ _ => exact no ht
        | nil =>
        cases kws with
        | cons _ _ => exact no ht
        | nil =>
        refine ifK ht fun hc htn => ?_
        clear ht
        simp only [Bool.and_eq_true, beq_iff_eq] at hc
        refine bsK htn fun o' h1 htnn => ?_
        clear htn
        refine bsK htnn fun y' h2 h3 => ?_
        clear htnn
        replace hv := soE h3 hv
        refine bsP hv fun u H1 hv1 hv2 => ?_
        clear hv
        refine ifK hv2 fun hL hv => ?_
        clear hv2
        refine bsP hv fun w H2 hv3 hv4 => ?_
        clear hv
        refine bsK hv4 fun H3 hv hv5 => ?_
        clear hv4
        replace h := soV hv5 h
        exact append_ok hE hA T O Iv F hc.1.1 hc.1.2 (beq_iff_eq.mpr hc.2) h1 h2 hv1 hL hv3 hv h
      case Name f fp =>
        cases kws with
        | cons _ _ => exact no ht
        | nil =>
        refine ifK ht fun hc htn => ?_
        clear ht
        have hc := (Bool.and_eq_true_iff.mp hc).1
        refine bsK htn fun xs h1 h2 => ?_
        clear htn
        cases hi : g.fns.lookup f with
        | some i =>
          rw [hi] at h2
          replace hv := soE h2 hv
          refine bsP hv fun vs H1 hv1 hv2 => ?_
          exact (call_ok hE hC hN hA T O Iv F hc h1 hv1 h).1 i hi hv2
        | none =>
          rw [hi] at h2
          cases hi2 : g.clss.lookup f with
          | some i =>
            have h2 : (match g.clss.lookup f with
              | some i => some (.new i xs)
              | none => (biOf f).map fun b => .bi b xs) = some x := h2
            rw [hi2] at h2
            replace hv := soE h2 hv
            refine bsP hv fun vs H1 hv1 hv2 => ?_
            exact (call_ok hE hC hN hA T O Iv F hc h1 hv1 h).2.1 i hi2 hv2
          | none =>
            have h2 : (match g.clss.lookup f with
              | some i => some (.new i xs)
              | none => (biOf f).map fun b => .bi b xs) = some x := h2
            rw [hi2] at h2
            refine mapK h2 fun b hb hx => ?_
            clear h2
            subst hx
            refine bsP hv fun vs H1 hv1 hv2 => ?_
            exact (call_ok hE hC hN hA T O Iv F hc h1 hv1 h).2.2 b hb hv2
      all_goals exact no ht
    case Attribute o a p =>
      refine ifK ht fun hc htn => ?_
      clear ht
      refine bsK htn fun o' h1 htnn => ?_
      clear htn
      refine bsK htnn fun i h2 h3 => ?_
      clear htnn
      replace hv := soE h3 hv
      refine bsP hv fun u H1 hv1 hvn => ?_
      clear hv
      refine bsK hvn fun w hv2 hv3 => ?_
      clear hvn
      replace h := soV hv3 h
      show wpAny _ A (attributeBase o a env (eval o env) >>= fun ov => standAt p.atName >>= fun _ => holding [ov] (getAttr ov a true) >>= fun r => letTemporaryGo o ov r >>= fun _ => pure r) Q E s
      rw [attributeBase_eq hc]
      refine wpAny_bind (hE m o o' cx env A s ρ l H u _ _ E O hA Iv F h1 hv1 fun h' tk ρ' u' X1 I1 r1 => ?_)
      refine wpAny_bind (wpAny_standAt (wpAny_bind (wpAny_holding ?_)))
      refine getA_ok (s := { s with heap := h', toks := tk }) T.toGood I1 r1 (T.attrs ▸ idx_get h2) hv2 fun v' tk' rv => ?_
      exact wpAny_bind (wpAny_letTemporaryGo (wpAny_pure (h h' tk' ρ' v' X1 I1 rv)))
    case Subscript o i p =>
      have item : ((trE g m cx o).bind fun o => (trE g m cx i).bind fun i => some (.sub o i)) = some x → wpAny (model C.prog C.w) A (eval (.Subscript o i p) env) Q E s := fun ht' => by
        clear ht
        refine bsK ht' fun o' h1 ht => ?_
        clear ht'
        refine bsK ht fun i' h2 h3 => ?_
        clear ht
        replace hv := soE h3 hv
        refine bsP hv fun a H1 hv1 hvn => ?_
        clear hv
        refine bsP hvn fun b H2 hv2 hvnn => ?_
        clear hvn
        refine bsK hvnn fun w hv3 hv4 => ?_
        clear hvnn
        replace h := soV hv4 h
        exact sub_ok hE hA O Iv F h1 h2 hv1 hv2 hv3 h
      cases i
      case Slice lo hi st sp =>
        cases st with
        | some _ => cases lo <;> cases hi <;> exact item ht
        | none =>
        cases lo with
        | none =>
          cases hi with
          | none => exact item ht
          | some u =>
          clear item
          refine bsK ht fun o' h1 htn => ?_
          clear ht
          refine bsK htn fun u' h2 h3 => ?_
          clear htn
          replace hv := soE h3 hv
          refine bsP hv fun a H1 hv1 hvn => ?_
          clear hv
          refine bsP hvn fun b H2 hv2 hv3 => ?_
          exact (slice_ok hE hA O Iv F h1 h2 hv1 hv2 h).1 hv3
        | some u =>
          cases hi with
          | some _ => exact item ht
          | none =>
          clear item
          refine bsK ht fun o' h1 htn => ?_
          clear ht
          refine bsK htn fun u' h2 h3 => ?_
          clear htn
          replace hv := soE h3 hv
          refine bsP hv fun a H1 hv1 hvn => ?_
          clear hv
          refine bsP hvn fun b H2 hv2 hv3 => ?_
          exact (slice_ok hE hA O Iv F h1 h2 hv1 hv2 h).2 hv3
      all_goals exact item ht
    -- displays
    case List es p =>
      refine bsK ht fun xs h1 h3 => ?_
      clear ht
      replace hv := soE h3 hv
      refine bsP hv fun vs H1 hv1 hvn => ?_
      clear hv
      refine ifK hvn fun hlen hv2 => ?_
      clear hvn
      replace h := soV hv2 h
      refine PyProof.Rows.List_ ?_
      rw [starEach_all h1, backTo_all]
      refine evs_ok hE O hA Iv F h1 hv1 fun h' tk ρ' vs' X1 I1 r1 => ?_
      exact (newSeq_ok (s := { s with heap := h', toks := tk }) I1 r1 hlen).1 fun h3' tk3 ρ3 v' X3 I3 r3 => h h3' tk3 ρ3 v' (X1.trans Iv.len0 X3) I3 r3
    case Tuple es k p =>
      refine bsK ht fun xs h1 h3 => ?_
      clear ht
      replace hv := soE h3 hv
      refine bsP hv fun vs H1 hv1 hvn => ?_
      clear hv
      refine ifK hvn fun hlen hv2 => ?_
      clear hvn
      replace h := soV hv2 h
      refine PyProof.Rows.Tuple_ ?_
      rw [starEach_all h1, backTo_all]
      refine evs_ok hE O hA Iv F h1 hv1 fun h' tk ρ' vs' X1 I1 r1 => ?_
      exact (newSeq_ok (s := { s with heap := h', toks := tk }) I1 r1 hlen).2 fun h3' tk3 ρ3 v' X3 I3 r3 => h h3' tk3 ρ3 v' (X1.trans Iv.len0 X3) I3 r3
    case ListComp elt gens sc p =>
      refine trE_comp_K ht fun y py iter ifs iter' caps elt' ifs' hg h0 h1 h2 h3 h4 hlen hx => ?_
      clear ht
      subst hg hx
      refine bsP hv fun it H1 hv1 hvn => ?_
      clear hv
      refine bsK hvn fun src hv2 hvnn => ?_
      clear hvn
      refine bsP hvnn fun rr H2 hv3 hv4 => ?_
      clear hvnn
      replace h := soV hv4 h
      rw [eval_ListComp]
      refine comp_ok (use := none) hE hT hA Iv O F h0 h2 h1 h3 h4 hlen hv1 hv2 hv3 fun D h' tk ρ' X1 I1 F1 hD Ca mm hn hCρ hC0 => ?_
      refine ⟨mm, hn, fun h'' hs => ?_⟩
      have hbC : C.base.get? Ca = none := by
        cases e : C.base.get? Ca with
        | none => rfl
        | some o => rw [Iv.base _ _ e] at hC0; cases hC0
      exact h h'' tk ρ' _ (X1.newAt hs.extBut hC0) (I1.but hCρ hbC hs.extBut) (.ref hD)
    all_goals exact no ht
end
end Mine
end
section
open PySem PySem.W PyProof.Rows
namespace Mine
inductive RF (ρ : List Addr) : R → Flow → Prop
  | next : RF ρ .next .next
  | ret {v : V} {v' : Value} : VR ρ v v' → RF ρ (.ret v) (.ret v')

noncomputable abbrev PostS (C : Con) (cx : Cx) (env : Env) (ρ : List Addr) (s : Shared) (r : R) (l' : Lc) (H' : Hp) (Q : Flow → Shared → Prop) : Prop :=
  ∀ h' tk ρ' fl, XF C (own env) ρ s.heap ρ' h' → Inv C ρ' H' h' → FR cx env l' ρ' h' → RF ρ' r fl → Q fl { s with heap := h', toks := tk }
noncomputable abbrev PostU' (C : Con) (cx : Cx) (env : Env) (ρ : List Addr) (s : Shared) (l' : Lc) (H' : Hp) (Q : Shared → Prop) : Prop :=
  ∀ h' tk ρ', XF C (own env) ρ s.heap ρ' h' → Inv C ρ' H' h' → FR cx env l' ρ' h' → Q { s with heap := h', toks := tk }

noncomputable def SS (C : Con) (g : Gt) (P : Pg) (n : Nat) : Prop := ∀ (m : Nat) (st : Stmt) (st' : S) (cx : Cx) (env : Env) (A : Around) (s : Shared) (ρ : List Addr) (l : Lc) (H : Hp) (r : R) (l' : Lc) (H' : Hp) (Q : Flow → Shared → Prop) (E : Value → Shared → Prop),
  EnvW C cx env → AOk A n → Inv C ρ H s.heap → FR cx env l ρ s.heap → trS g m cx st = some st' → exec P n st' l H = some (r, l', H') → PostS C cx env ρ s r l' H' Q → wpAny (model C.prog C.w) A (PySem.exec st env) Q E s

noncomputable def SSs (C : Con) (g : Gt) (P : Pg) (n : Nat) : Prop := ∀ (m : Nat) (sts : List Stmt) (sts' : List S) (cx : Cx) (env : Env) (A : Around) (s : Shared) (ρ : List Addr) (l : Lc) (H : Hp) (r : R) (l' : Lc) (H' : Hp) (Q : Flow → Shared → Prop) (E : Value → Shared → Prop),
  EnvW C cx env → AOk A n → Inv C ρ H s.heap → FR cx env l ρ s.heap → mapO (trS g m cx) sts = some sts' → execs P n sts' l H = some (r, l', H') → PostS C cx env ρ s r l' H' Q → wpAny (model C.prog C.w) A (PySem.execs sts env) Q E s

section
variable {C : Con} {g : Gt} {P : Pg} {A : Around} {E : Value → Shared → Prop} {s : Shared} {ρ ρ' : List Addr} {H H' : Hp} {cx : Cx} {env : Env} {l l' : Lc} {n : Nat}

theorem XF.newAt {ow : List Addr} {h₀ h h' : Heap} {a : Addr} (x : XF C ow ρ h₀ ρ' h) (hs : Heap.ExtBut a h h') (ha : h₀.get? a = none) : XF C ow ρ h₀ ρ' h' :=
  ⟨x.pre, fun b o hb hw e => hs b o (by rintro rfl; rw [ha] at e; cases e) (x.keep b o hb hw e), fun b e => by
    obtain ⟨o, ho⟩ := Option.isSome_iff_exists.mp (x.alive b e)
    rw [hs b o (by rintro rfl; rw [ha] at e; cases e) ho]; rfl⟩

theorem RF.xf {ow : List Addr} {h h' : Heap} (x : XF C ow ρ h ρ' h') {r : R} {f : Flow} (hr : RF ρ r f) : RF ρ' r f := by
  cases hr with
  | next => exact .next
  | ret h => exact .ret (h.xf x)

theorem base_none {h : Heap} {a : Addr} (Iv : Inv C ρ H h) (ha : h.get? a = none) : C.base.get? a = none := by
  cases e : C.base.get? a with
  | none => rfl
  | some o => rw [Iv.base _ _ e] at ha; cases ha

noncomputable def isComp : Expr → Bool
  | .ListComp .. => true
  | _ => false

theorem swaps_name {m : Nat} {e : Expr} {x : X} {y : Str} {p : Pos} {line : Nat} {G : Prop} (h : trE g m cx e = some x) (k : ∀ b, swapsWith e (some (.Name y p)) line env = pure b → (b = true → isComp e = true) → G) : G := by
  cases m with
  | zero => exact no h
  | succ m =>
    cases e <;> first | exact k false rfl (fun h => nomatch h) | exact k _ rfl (fun _ => rfl) | exact no h

theorem swaps_comp {el t : Expr} {gs : List Comprehension} {sc : Scope} {p : Pos} {line : Nat} (ht : isName t = false) : swapsWith (.ListComp el gs sc p) (some t) line env = pure false := by
  cases t <;> first | rfl | exact nomatch ht
theorem swaps_other {m : Nat} {e t : Expr} {x : X} {line : Nat} (h : trE g m cx e = some x) (ht : isName t = false) : swapsWith e (some t) line env = pure false := by
  cases m with
  | zero => exact no h
  | succ m => cases e <;> first | rfl | exact swaps_comp ht | exact no h

theorem assignName_ok {i : Nat} {x : Str} {v : V} {v' : Value} {p : Pos} {Q : Unit → Shared → Prop} (W : EnvW C cx env) (Iv : Inv C ρ H s.heap) (F : FR cx env l ρ s.heap) (hx : cx.vars[i]? = some x) (hv : VR ρ v v')
    (h : ∀ h' tk, XF C (own env) ρ s.heap ρ h' → Inv C ρ H h' → FR cx env (l.set i (some v)) ρ h' → Q () { s with heap := h', toks := tk }) :
    wpAny (model C.prog C.w) A (assign (.Name x p) env v') Q E s := wpAny_assign_Name (store_ok W Iv F hx hv h)

theorem compPost_use {i : Nat} {x : Str} {p : Pos} {k : Nat} {D Ca : Addr} {mm : Str → Option Value} {h' : Heap} {tk : Nat} {Q : Value → Shared → Prop} (W : EnvW C cx env) (Iv0 : Inv C ρ H s.heap) (F0 : FR cx env l ρ s.heap)
    (X1 : Ext C ρ s.heap ρ' h') (I1 : Inv C ρ' H' h') (F1 : FR cx env l ρ' h') (hD : ρ'[k]? = some D) (hn : h'.Ns Ca mm) (hCρ : Ca ∉ ρ') (hC0 : s.heap.get? Ca = none) (hx : cx.vars[i]? = some x)
    (h : ∀ h'' tk', XF C (own env) ρ s.heap ρ' h'' → Inv C ρ' H' h'' → FR cx env (l.set i (some (.ref k))) ρ' h'' → Q .none { s with heap := h'', toks := tk' }) :
    compPost (model C.prog C.w) A E (some (assign (.Name x p) env)) Q (.ref D) Ca (.ok .next) { s with heap := h', toks := tk } := by
  have hoff := F0.off hC0
  have hb := base_none Iv0 hC0
  show wpAny _ A (assign (.Name x p) env (.ref D)) _ E _
  refine assignName_ok (s := { s with heap := h', toks := tk }) W I1 F1 hx (.ref hD) fun h2 tk2 X2 I2 F2 => ?_
  have hCown : Ca ∉ own env := by
    intro hm
    rcases List.mem_cons.mp hm with hm | hm
    · exact hoff.1 hm.symm
    · obtain ⟨⟨y, c⟩, hy, rfl⟩ := List.mem_map.mp hm
      exact hoff.2 y c hy rfl
  have hn2 : h2.Ns Ca mm := hn.at' fun o e => X2.keep Ca o (fun hm => hCρ (List.mem_of_mem_drop hm)) hCown e
  refine ⟨mm, hn2, fun h3 hs => ?_⟩
  exact h h3 tk2 (((X1.xf _).trans Iv0.len0 X2).newAt hs.extBut hC0) (I2.but hCρ hb hs.extBut) (F2.but hs.extBut hoff.1 hoff.2)

theorem namesOf_none {t : Expr} {r : List Expr} (h : isName t = false) : namesOf (t :: r) = none := by
  cases t <;> first | rfl | exact nomatch h
theorem putVars_ok (W : EnvW C cx env) : ∀ {ts : List Expr} {xs : List Str} {is : List Nat} {vs : List V} {ws : List Value} {s : Shared} {l l' : Lc} {Q : Unit → Shared → Prop}, namesOf ts = some xs → mapO (idx cx.vars) xs = some is → VRs ρ vs ws →
    Inv C ρ H s.heap → FR cx env l ρ s.heap → putVars is vs l = some l' → (∀ h' tk, XF C (own env) ρ s.heap ρ h' → Inv C ρ H h' → FR cx env l' ρ h' → Q () { s with heap := h', toks := tk }) →
    wpAny (model C.prog C.w) A (assignInOrder ((assignEach ts env).map (·.2)) ws) Q E s
  | [], xs, is, vs, ws, s, l, l', Q, hn, hi, hv, Iv, F, hp, h => by
    cases hn
    cases mapO_nil hi
    cases vs with
    | nil => cases so hp; exact wpAny_pure (h _ s.toks (.refl ..) Iv F)
    | cons _ _ => exact no hp
  | t :: ts, xs, is, vs, ws, s, l, l', Q, hn, hi, hv, Iv, F, hp, h => by
    refine name_or (e := t) (fun y py e => ?_) fun e => ?_
    rotate_left
    · rw [namesOf_none e] at hn; exact no hn
    subst e
    refine mapK hn fun ys hn' hx => ?_
    subst hx
    obtain ⟨i, js, hi1, hi2, rfl⟩ := mapO_cons hi
    cases vs with
    | nil => exact no hp
    | cons v vs =>
    cases ws with
    | nil => exact hv.elim
    | cons w ws =>
      refine ifK hp fun _ hq => ?_
      clear hp
      · show wpAny _ A (assignInOrder ((fun v => assign (.Name y py) env v) :: (assignEach ts env).map (·.2)) (w :: ws)) Q E s
        refine wpAny_bind (wpAny_holding (assignName_ok W Iv F (idx_get hi1) hv.1 fun h' tk X1 I1 F1 => ?_))
        exact putVars_ok W (s := { s with heap := h', toks := tk }) hn' hi2 hv.2 I1 F1 hq fun h'' tk' X2 I2 F2 => h h'' tk' (X1.trans Iv.len0 X2) I2 F2

theorem namesOf_star : ∀ {ts : List Expr} {xs : List Str}, namesOf ts = some xs → (assignEach ts env).length = xs.length ∧ (assignEach ts env).findIdx? (·.1) = none ∧ ts.length = xs.length
  | [], xs, h => by cases h; exact ⟨rfl, rfl, rfl⟩
  | t :: ts, xs, h => by
    refine name_or (e := t) (fun y py e => ?_) fun e => ?_
    rotate_left
    · rw [namesOf_none e] at h; exact no h
    subst e
    refine mapK h fun ys hn hx => ?_
    subst hx
    obtain ⟨h1, h2, h3⟩ := namesOf_star hn
    refine ⟨congrArg (· + 1) h1, ?_, congrArg (· + 1) h3⟩
    show ((false, fun v => assign (.Name y py) env v) :: assignEach ts env).findIdx? (·.1) = none
    rw [List.findIdx?_cons, h2]
    rfl

theorem stores_tuple {ts vs : List Expr} {k k' : Nat} {tp p : Pos} (h : 4 ≤ ts.length) : swappedStores [.Tuple ts k tp] (.Tuple vs k' p) env = pure none := by
  have h2 : (ts.length == 2) = false := beq_false_of_ne (by omega)
  have h3 : (ts.length == 3) = false := beq_false_of_ne (by omega)
  refine if_pos ?_
  rw [h2, h3]
  rfl
theorem stores_attr {o e : Expr} {a : Str} {ap : Pos} : swappedStores [.Attribute o a ap] e env = pure none := by
  cases e <;> rfl
theorem stores_none {ts : List Expr} {k : Nat} {tp : Pos} {e : Expr} (ht : isTuple e = false) : swappedStores [.Tuple ts k tp] e env = pure none := by
  cases e <;> first | rfl | exact nomatch ht

theorem exec_Assign_eq {t e : Expr} {pos : Pos} (h : swapsWith e (some t) pos.line env = pure false) : PySem.exec (.Assign [t] e pos) env = (do
    standAt pos
    let v ← eval e env
    assignStores env v (← swappedStores [t] e env) ((assignEach [t] env).map (·.2))) := by
  have e0 : PySem.exec (.Assign [t] e pos) env = (do
    standAt pos
    if ← swapsWith e (some t) pos.line env then do
      evalThenUse e env fun v => assignAll v ((assignEach [t] env).map (·.2))
      pure .next
    else do
      let v ← eval e env
      assignStores env v (← swappedStores [t] e env) ((assignEach [t] env).map (·.2))) := rfl
  rw [e0, h]; rfl
end
end Mine
end
section
open PySem PySem.W PyProof.Rows
namespace Mine
section
variable {C : Con} {g : Gt} {P : Pg} {A : Around} {E : Value → Shared → Prop} {s : Shared} {ρ ρ' : List Addr} {H H' : Hp} {cx : Cx} {env : Env} {l l' : Lc} {n : Nat}

theorem comp_or {e : Expr} {G : Prop} (k1 : ∀ a b c d, e = .ListComp a b c d → G) (k2 : isComp e = false → G) : G := by
  cases e <;> first | exact k1 _ _ _ _ rfl | exact k2 rfl
theorem tup_or {e : Expr} {G : Prop} (k1 : ∀ a b c, e = .Tuple a b c → G) (k2 : isTuple e = false → G) : G := by
  cases e <;> first | exact k1 _ _ _ rfl | exact k2 rfl
theorem execs_nil_ok {R' : Result → Shared → Prop} (h : R' (.ok .next) s) {E' : Value → Shared → Prop} : wpAny (model C.prog C.w) A (PySem.execs [] env) (fun f s₃ => R' (.ok f) s₃) E' s := wpAny_execs_nil h

theorem for_ok (hSs : SSs C g P n) (hA : AOk A n) (W : EnvW C cx env) {m : Nat} {x : Str} {px : Pos} {i₀ : Nat} {body : List Stmt} {body' : List S} {src : Src} {I : Addr} {h₀ : Heap} {j : Nat} {r : R} {R' : Result → Shared → Prop}
    (Iv0 : Inv C ρ H h₀) (F0 : FR cx env l ρ h₀) (Iv : Inv C ρ H s.heap) (F : FR cx env l ρ s.heap) (X0 : XF C (own env) ρ h₀ ρ s.heap) (hI0 : h₀.get? I = none) (hit : ItR ρ src 0 I s.heap)
    (hx : cx.vars[i₀]? = some x) (hb : mapO (trS g m cx) body = some body')
    (hloop : loopL (fun (a : Lc × Hp) => a.2) (fun v a => Mine.execs P n body' (a.1.set i₀ (some v)) a.2) src j 0 (l, H) = some (r, (l', H')))
    (hR : ∀ h' tk ρ' fl, XF C (own env) ρ h₀ ρ' h' → Inv C ρ' H' h' → FR cx env l' ρ' h' → RF ρ' r fl → R' (.ok fl) { s with heap := h', toks := tk }) :
    codeAny (model C.prog C.w) A (.forLoop (.Name x px) (.ref I) body [] env) R' s := by
  have hbI := base_none Iv0 hI0
  obtain ⟨f1, f2⟩ := F0.off hI0
  have hIown : I ∉ own env := by
    intro hm
    rcases List.mem_cons.mp hm with hm | hm
    · exact f1 hm.symm
    · obtain ⟨⟨y, c⟩, hy, rfl⟩ := List.mem_map.mp hm
      exact f2 y c hy rfl
  obtain ⟨FF, hFF⟩ : ∃ FF : V → Lc × Hp → Option (R × Lc × Hp), FF = (fun v a => Mine.execs P n body' (a.1.set i₀ (some v)) a.2) := ⟨_, rfl⟩
  rw [← hFF] at hloop
  obtain ⟨PP, hPP⟩ : ∃ PP : Nat → Shared → Prop, PP = (fun k s' => ∃ h' tk ρ' i l₁ H₁, s' = { s with heap := h', toks := tk } ∧ XF C (own env) ρ h₀ ρ' h' ∧ Inv C ρ' H₁ h' ∧ FR cx env l₁ ρ' h' ∧ I ∉ ρ' ∧ ItR ρ' src i I h' ∧
      loopL (fun (a : Lc × Hp) => a.2) FF src k i (l₁, H₁) = some (r, (l', H'))) := ⟨_, rfl⟩
  refine codeAny_forLoop PP ?_ j (by rw [hPP]; exact ⟨s.heap, s.toks, ρ, 0, l, H, rfl, X0, Iv, F, Iv0.fresh_not_mem hI0, hit, hloop⟩)
  intro k s' hs'
  rw [hPP] at hs'
  obtain ⟨h', tk, ρ', i, l₁, H₁, rfl, X1, I1, F1, hIρ, rit, hl⟩ := hs'
  cases k with
  | zero => exact no hl
  | succ k =>
    refine bsK hl fun xo hxo hl2 => ?_
    clear hl
    refine next_ok hA I1 rit hxo (fun hnone h2 hb2 => ?_) (fun v hsome v' h2 tk2 rv rit2 hb2 => ?_)
    · subst hnone
      cases so2 hl2
      exact wpAny_execs_nil (hR h2 tk ρ' .next (X1.newAt hb2 hI0) (I1.but hIρ hbI hb2) (F1.but hb2 f1 f2) .next)
    · subst hsome
      refine bsT hl2 fun q l2 H2 hstep hl => ?_
      clear hl2
      rw [hFF] at hstep
      have X2 := X1.newAt hb2.extBut hI0
      have I2 := I1.but hIρ hbI hb2.extBut
      have F2 := F1.but hb2.extBut f1 f2
      refine assignName_ok (s := { s with heap := h2, toks := tk2 }) W I2 F2 hx rv fun h3 tk3 X3 I3 F3 => ?_
      have rit3 : ItR ρ' src (i + 1) I h3 := by
        have := rit2.mono (t := []) (h' := h3) (fun o e => X3.keep I o (fun hm => hIρ (List.mem_of_mem_drop hm)) hIown e)
        rw [List.append_nil] at this
        exact this
      have X03 := X2.trans Iv0.len0 X3
      refine hSs m body body' cx env A _ ρ' _ H₁ q l2 H2 _ _ W hA I3 F3 hb hstep fun h4 tk4 ρ4 fl X4 I4 F4 hfl => ?_
      have X04 := X03.trans Iv0.len0 X4
      have c1 : I ∉ ρ4 := by
        intro hm
        obtain ⟨t, rfl, ht⟩ := X4.pre
        rcases List.mem_append.mp hm with hm | hm
        · exact hIρ hm
        · have h2 := rit3.here
          rw [ht I hm] at h2; exact nomatch h2
      have c2 : ItR ρ4 src (i + 1) I h4 := by
        obtain ⟨t, rfl, _⟩ := X4.pre
        exact rit3.mono fun o e => X4.keep I o (fun hm => hIρ (List.mem_of_mem_drop hm)) hIown e
      cases hfl with
      | next => exact ⟨k, Nat.lt_succ_self k, by rw [hPP]; exact ⟨h4, tk4, ρ4, i + 1, l2, H2, rfl, X04, I4, F4, c1, c2, hl⟩⟩
      | ret hw =>
        cases so2 hl
        exact hR h4 tk4 ρ4 (.ret _) X04 I4 F4 (.ret hw)

theorem while_ok (hT : ST C g P n) (hSs : SSs C g P n) (hA : AOk A n) (W : EnvW C cx env) {m : Nat} {t : Expr} {t' : X} {body : List Stmt} {body' : List S} {j : Nat} {r : R} {R' : Result → Shared → Prop}
    (Iv : Inv C ρ H s.heap) (F : FR cx env l ρ s.heap) (ht : trE g m cx t = some t') (hb : mapO (trS g m cx) body = some body')
    (hloop : loopW (fun (a : Lc × Hp) => (testV (fun e h => ev P n e a.1 h) t' a.2).bind fun (c, h) => some (c, (a.1, h))) (fun a => Mine.execs P n body' a.1 a.2) j (l, H) = some (r, (l', H')))
    (hR : ∀ h' tk ρ' fl, XF C (own env) ρ s.heap ρ' h' → Inv C ρ' H' h' → FR cx env l' ρ' h' → RF ρ' r fl → R' (.ok fl) { s with heap := h', toks := tk }) :
    codeAny (model C.prog C.w) A (.whileLoop t body [] env) R' s := by
  obtain ⟨TT, hTT⟩ : ∃ TT : Lc × Hp → Option (Bool × Lc × Hp), TT = (fun (a : Lc × Hp) => (testV (fun e h => ev P n e a.1 h) t' a.2).bind fun (c, h) => some (c, (a.1, h))) := ⟨_, rfl⟩
  rw [← hTT] at hloop
  obtain ⟨FF, hFF⟩ : ∃ FF : Lc × Hp → Option (R × Lc × Hp), FF = (fun a => Mine.execs P n body' a.1 a.2) := ⟨_, rfl⟩
  rw [← hFF] at hloop
  obtain ⟨PP, hPP⟩ : ∃ PP : Nat → Shared → Prop, PP = (fun k s' => ∃ h' tk ρ' l₁ H₁, s' = { s with heap := h', toks := tk } ∧ XF C (own env) ρ s.heap ρ' h' ∧ Inv C ρ' H₁ h' ∧ FR cx env l₁ ρ' h' ∧
      loopW TT FF k (l₁, H₁) = some (r, (l', H'))) := ⟨_, rfl⟩
  refine codeAny_whileLoop PP ?_ j (by rw [hPP]; exact ⟨s.heap, s.toks, ρ, l, H, rfl, .refl .., Iv, F, hloop⟩)
  intro k s' hs'
  rw [hPP] at hs'
  obtain ⟨h', tk, ρ', l₁, H₁, rfl, X1, I1, F1, hl⟩ := hs'
  cases k with
  | zero => exact no hl
  | succ k =>
    refine bsT hl fun b l2 H2 hc hl2 => ?_
    clear hl
    rw [hTT] at hc
    refine bsP hc fun b' H2' hc hc' => ?_
    cases so2 hc'
    refine hT m t t' cx env A _ ρ' l₁ H₁ _ _ _ _ W.toEnvOk hA I1 F1 ht hc fun h2 tk2 ρ2 X2 I2 => ?_
    have X02 := X1.trans Iv.len0 (X2.xf _)
    have F2 := F1.ext X2
    cases b with
    | false =>
      cases so2 hl2
      exact wpAny_execs_nil (hR h2 tk2 ρ2 .next X02 I2 F2 .next)
    | true =>
      have hl3 : (FF (l₁, H2)).bind _ = some (r, l', H') := hl2
      refine bsT hl3 fun q l3 H3 hstep hl => ?_
      clear hl3
      clear hl2
      rw [hFF] at hstep
      refine hSs m body body' cx env A _ ρ2 _ _ q l3 H3 _ _ W hA I2 F2 hb hstep fun h4 tk4 ρ4 fl X4 I4 F4 hfl => ?_
      have X04 := X02.trans Iv.len0 X4
      cases hfl with
      | next => exact ⟨k, Nat.lt_succ_self k, by rw [hPP]; exact ⟨h4, tk4, ρ4, l3, H3, rfl, X04, I4, F4, hl⟩⟩
      | ret hw =>
        cases so2 hl
        exact hR h4 tk4 ρ4 (.ret _) X04 I4 F4 (.ret hw)

theorem assignName_stmt (hEall : ∀ k, k ≤ n → SE C g P k) (hA : AOk A n) (W : EnvW C cx env) {m : Nat} {y : Str} {py pos : Pos} {e : Expr} {e' : X} {i : Nat} {v : V} {H1 : Hp} {Q : Flow → Shared → Prop}
    (Iv : Inv C ρ H s.heap) (F : FR cx env l ρ s.heap) (hy : cx.vars[i]? = some y) (he : trE g m cx e = some e') (hv : ev P n e' l H = some (v, H1))
    (h : PostU' C cx env ρ s (l.set i (some v)) H1 (Q .next)) : wpAny (model C.prog C.w) A (PySem.exec (.Assign [.Name y py] e pos) env) Q E s := by
  refine swaps_name (env := env) (y := y) (p := py) (line := pos.line) he fun b hb hbc => ?_
  cases b with
  | false =>
    refine wpAny_Assign_Name ?_ hb
    refine hEall n (Nat.le_refl n) m e e' cx env A s ρ l H v H1 _ E W.toEnvOk hA Iv F he hv fun h' tk ρ' v' X1 I1 r1 => ?_
    exact store_ok (s := { s with heap := h', toks := tk }) W I1 (F.ext X1) hy r1 fun h'' tk' X2 I2 F2 => h h'' tk' ρ' ((X1.xf _).trans Iv.len0 X2) I2 F2
  | true =>
    have hc := hbc rfl
    rw [exec_Assign_Name_used y py e pos hb]
    refine comp_or (e := e) (fun elt gens sc p ee => ?_) fun ee => ?_
    rotate_left
    · rw [ee] at hc; exact nomatch hc
    clear hc hb hbc
    subst ee
    cases m with
    | zero => exact no he
    | succ m =>
      refine trE_comp_K he fun z pz iter ifs iter' caps elt' ifs' hg h0 h1 h2 h3 h4 h5 hx => ?_
      clear he
      subst hg hx
      obtain ⟨k, rfl⟩ := ev_succ hv
      refine bsP hv fun it H0 hv1 hvn => ?_
      clear hv
      refine bsK hvn fun src hv2 hvnn => ?_
      clear hvn
      refine bsP hvnn fun rr H2 hv3 hv4 => ?_
      clear hvnn
      cases so2 hv4
      have hk : k ≤ k + 1 := Nat.le_succ k
      have hE : SE C g P k := hEall k hk
      have hT : ST C g P k := st_of k fun j hj => hEall j (Nat.le_trans hj hk)
      refine wpAny_bind (wpAny_standAt (wpAny_bind ?_))
      show wpAny _ A (do let _ ← comprehension (.ListComp elt [⟨.Name z pz, iter, ifs, 0⟩] sc p) sc env _ (newList []) false (eval iter env) (some (assign (.Name y py) env))) _ _ s
      refine wpAny_bind (wpAny_mono (comp_ok (Q := fun _ s' => Q .next s') (use := some (assign (.Name y py) env)) hE hT (hA.mono hk) Iv W.toEnvOk F h0 h2 h1 h3 h4 h5 hv1 hv2 hv3 fun D h' tk ρ' X1 I1 F1 hD Ca mm hn hCρ hC0 => ?_) (fun _ s' hq => wpAny_pure (wpAny_pure hq)) fun _ _ e => e)
      exact compPost_use W Iv F X1 I1 F1 hD hn hCρ hC0 hy fun h'' tk' X2 I2 F2 => h h'' tk' ρ' X2 I2 F2

noncomputable def isStar : Expr → Bool
  | .Starred .. => true
  | _ => false
theorem swap_K0 {ts : List Expr} {e : Expr} {G : Prop} (hs : swapOk cx ts e = true)
    (k : ∀ x p y q e1 e2 k1 p1, ts = [.Name x p, .Name y q] → e = .Tuple [e1, e2] k1 p1 → (cx.names.lookup x == some .local && cx.names.lookup y == some .local && p.line == q.line && x != y && !([e1, e2].all (foldedForSure 8)) && !([e1, e2].all (constantsAlone 8))) = true → G) : G := by
  have no2 : ∀ {e : Expr} {t : Expr} {r : List Expr}, isName t = false → swapOk cx (t :: r) e = false := fun {e t r} ht => by
    clear k
    cases t <;> first | rfl | exact nomatch ht
  have no3 : ∀ {e : Expr} {x : Str} {p : Pos} {t : Expr} {r : List Expr}, isName t = false → swapOk cx (.Name x p :: t :: r) e = false := fun {e x p t r} ht => by
    clear k
    cases t <;> first | rfl | exact nomatch ht
  have no4 : ∀ {e : Expr} {x y : Str} {p q : Pos}, isTuple e = false → swapOk cx [.Name x p, .Name y q] e = false := fun {e x y p q} ht => by
    clear k
    cases e <;> first | rfl | exact nomatch ht
  cases ts with
  | nil => exact nomatch hs
  | cons t r =>
  refine name_or (e := t) (fun x p et => ?_) fun et => ?_
  rotate_left
  · rw [no2 et] at hs; exact nomatch hs
  subst et
  cases r with
  | nil => exact nomatch hs
  | cons t r =>
  refine name_or (e := t) (fun y q et => ?_) fun et => ?_
  rotate_left
  · rw [no3 et] at hs; exact nomatch hs
  subst et
  cases r with
  | cons _ _ => exact nomatch hs
  | nil =>
  cases hte : isTuple e with
  | false => rw [no4 hte] at hs; exact nomatch hs
  | true =>
  refine tup_or (e := e) (fun es k1 p1 ee => ?_) fun ee => ?_
  rotate_left
  · rw [hte] at ee; exact nomatch ee
  subst ee
  cases es with
  | nil => exact nomatch hs
  | cons e1 es =>
  cases es with
  | nil => exact nomatch hs
  | cons e2 es =>
  cases es with
  | cons _ _ => exact nomatch hs
  | nil => exact k x p y q e1 e2 k1 p1 rfl rfl hs
theorem sw_fin {ts vs : List Expr} {f : Expr → Option Str} {x y : Str} {M : Sem (Option (List Str))} (hl : ts.length = 2) (hf : ts.filterMap f = [x, y]) (hxy : (y == x) = false) (h2 : vs.all (foldedForSure 8) = false) (h3 : vs.all (constantsAlone 8) = false) :
    (if ((ts.filterMap f).length != ts.length || (ts.filterMap f).eraseDups.length != (ts.filterMap f).length) = true then pure none else if vs.all (foldedForSure 8) = true then pure none else if vs.all (constantsAlone 8) = true then M else pure (some (ts.filterMap f)) : Sem (Option (List Str))) = pure (some [x, y]) := by
  rw [hf, hl, h2, h3]
  have : ([x, y] : List Str).eraseDups = [x, y] := by simp [List.eraseDups, List.eraseDupsBy, List.eraseDupsBy.loop, hxy]
  rw [this]
  rfl
theorem not_star {m : Nat} {e : Expr} {x : X} (he : trE g m cx e = some x) : isStar e = false := by
  cases m with
  | zero => exact no he
  | succ m => cases e <;> first | rfl | exact no he
theorem swap_inv (W : EnvW C cx env) {m : Nat} {ts : List Expr} {e : Expr} {x : X} {tk : Nat} {tp : Pos} {G : Prop} (hs : swapOk cx ts e = true) (h3 : trE g m cx e = some x)
    (k : ∀ x0 px0 y0 py0 e1 e2 k1 p1, ts = [.Name x0 px0, .Name y0 py0] → e = .Tuple [e1, e2] k1 p1 → swappedStores [.Tuple ts tk tp] e env = pure (some [x0, y0]) → G) : G := by
  refine swap_K0 hs fun x0 px0 y0 py0 e1 e2 k1 p1 ets ee hs2 => ?_
  clear hs
  refine k x0 px0 y0 py0 e1 e2 k1 p1 ets ee ?_
  clear k
  subst ets ee
  simp only [Bool.and_eq_true, beq_iff_eq, bne_iff_ne, ne_eq, Bool.not_eq_true'] at hs2
  obtain ⟨⟨⟨⟨⟨hcx, hcy⟩, hline⟩, hxy⟩, hfold⟩, hconst⟩ := hs2
  have k1' : env.kindOf x0 = some .local := (W.kinds x0).symm.trans hcx
  have k2' : env.kindOf y0 = some .local := (W.kinds y0).symm.trans hcy
  have hstar : isStar e1 = false ∧ isStar e2 = false := by
    cases m with
    | zero => exact no h3
    | succ m =>
      refine bsK h3 fun zs hz _ => ?_
      obtain ⟨z1, zr, hz1, hz2, _⟩ := mapO_cons hz
      obtain ⟨z2, zr2, hz3, _, _⟩ := mapO_cons hz2
      exact ⟨not_star hz1, not_star hz3⟩
  refine (if_neg ?_).trans ?_
  · show ¬ ((false || env.blockKind != .function) = true)
    unfold Env.blockKind; rw [W.kind]; decide
  refine (if_neg ?_).trans ?_
  · show ¬ ((isStar e1 || (isStar e2 || false)) = true)
    rw [hstar.1, hstar.2]; decide
  refine sw_fin rfl ?_ (beq_false_of_ne (Ne.symm hxy)) hfold hconst
  have hx : (env.kindOf x0 == some .local && px0.line == px0.line) = true := by rw [k1', beq_self_eq_true px0.line]; rfl
  have hy : (env.kindOf y0 == some .local && py0.line == px0.line) = true := by rw [k2', hline, beq_self_eq_true py0.line]; rfl
  have key : ∀ f : Expr → Option Str, f (.Name x0 px0) = some x0 → f (.Name y0 py0) = some y0 → [Expr.Name x0 px0, Expr.Name y0 py0].filterMap f = [x0, y0] := fun f a b => by
    rw [List.filterMap_cons_some a, List.filterMap_cons_some b]; rfl
  exact key _ (if_pos hx) (if_pos hy)

theorem vars_K {f : X → Hp → Option (V × Hp)} {is : List Nat} {v : V} {l l1 : Lc} {h H2 : Hp} {G : Prop} (e : assignT f (.vars is) v l h = some (l1, H2)) (k : ∀ j xs, v = .ref j → h[j]? = some (.tup xs) → putVars is xs l = some l1 → H2 = h → G) : G := by
  cases v with
  | ref j =>
    have e : (match h[j]? with
      | some (.tup xs) => (putVars is xs l).bind fun l => some (l, h)
      | _ => none) = some (l1, H2) := e
    cases hw : h[j]? with
    | none => rw [hw] at e; exact no e
    | some o =>
      rw [hw] at e
      cases o with
      | tup xs =>
        refine bsK e fun l2 hp hq => ?_
        have hq := so hq
        exact k j xs rfl hw (hp.trans (congrArg (fun p => some p.1) hq)) (congrArg Prod.snd hq).symm
      | _ => exact no e
  | _ => exact no e
theorem swap_K {f : X → Hp → Option (V × Hp)} {i j : Nat} {v : V} {l l1 : Lc} {h H2 : Hp} {G : Prop} (e : assignT f (.swap i j) v l h = some (l1, H2))
    (k : ∀ a x y, v = .ref a → h[a]? = some (.tup [x, y]) → l1 = (l.set j (some y)).set i (some x) → H2 = h → G) : G := by
  cases v with
  | ref a =>
    have e : (match h[a]? with
      | some (.tup [x, y]) => if decide (i < l.length) && decide (j < l.length) then some ((l.set j (some y)).set i (some x), h) else none
      | _ => none) = some (l1, H2) := e
    cases hw : h[a]? with
    | none => rw [hw] at e; exact no e
    | some o =>
      rw [hw] at e
      cases o with
      | tup xs =>
        cases xs with
        | nil => exact no e
        | cons x r =>
        cases r with
        | nil => exact no e
        | cons y r =>
        cases r with
        | cons _ _ => exact no e
        | nil =>
        refine ifK e fun _ hq => ?_
        have hq := so hq
        exact k a x y rfl hw (congrArg Prod.fst hq).symm (congrArg Prod.snd hq).symm
      | _ => exact no e
  | _ => exact no e
theorem putVars_len : ∀ {is : List Nat} {ws : List V} {l l' : Lc}, putVars is ws l = some l' → is.length = ws.length := by
  intro is
  induction is with
  | nil => intro ws l l' hp; cases ws with
    | nil => rfl
    | cons _ _ => exact no hp
  | cons a r ih =>
    intro ws l l' hp
    cases ws with
    | nil => exact no hp
    | cons b q => exact ifK hp fun _ hp => congrArg (· + 1) (ih hp)
theorem tup_stmt (hE : SE C g P n) (hA : AOk A n) (W : EnvW C cx env) {m : Nat} {ts : List Expr} {tk : Nat} {tp pos : Pos} {e : Expr} {e' : X} {xs : List Str} {is : List Nat} {v : V} {H1 : Hp} {Q : Flow → Shared → Prop}
    (Iv : Inv C ρ H s.heap) (F : FR cx env l ρ s.heap) (h1 : namesOf ts = some xs) (h2 : mapO (idx cx.vars) xs = some is) (h3 : trE g m cx e = some e') (hcond : (!isTuple e || decide (4 ≤ is.length)) = true)
    (hv1 : ev P n e' l H = some (v, H1)) (hv2 : assignT (fun e h => ev P n e l h) (.vars is) v l H1 = some (l', H'))
    (h : PostU' C cx env ρ s l' H' (Q .next)) : wpAny (model C.prog C.w) A (PySem.exec (.Assign [.Tuple ts tk tp] e pos) env) Q E s := by
  obtain ⟨q1, q2, q3⟩ := namesOf_star (env := env) h1
  have hlen2 := mapO_length h2
  have hst : swappedStores [.Tuple ts tk tp] e env = pure none := by
    rcases Bool.or_eq_true_iff.mp hcond with hc | hc
    · exact stores_none ((Bool.not_eq_true' _).mp hc)
    · cases hte : isTuple e with
      | false => exact stores_none hte
      | true =>
        have h4 : 4 ≤ ts.length := by rw [q3, hlen2]; exact of_decide_eq_true hc
        refine tup_or (e := e) (fun es k1 p1 ee => ?_) fun ee => ?_
        · rw [ee]; exact stores_tuple h4
        · rw [hte] at ee; exact nomatch ee
  rw [exec_Assign_eq (swaps_other h3 rfl)]
  refine wpAny_bind (wpAny_standAt (wpAny_bind (hE m e e' cx env A s ρ l H v H1 _ E W.toEnvOk hA Iv F h3 hv1 fun h' tk' ρ' v' X1 I1 r1 => ?_)))
  rw [hst]
  refine wpAny_bind (wpAny_pure ?_)
  show wpAny _ A (assign (.Tuple ts tk tp) env v' >>= fun _ => pure Flow.next) _ _ _
  refine wpAny_bind ?_
  refine vars_K hv2 fun k ws hvk hw hp hHH => ?_
  clear hv2
  subst hvk hHH
  cases r1 with
  | ref hl =>
    obtain ⟨ob, hob, vs, ep, rfl, hvs⟩ := I1.objs _ _ _ hw hl
    have hvl : (assignEach ts env).length = vs.length := by rw [q1, hlen2, putVars_len hp, hvs.length]
    refine wpAny_assign_Tuple (s := { s with heap := h', toks := tk' }) hA.handled (items := vs.toArray) ⟨_, hob, rfl, _, rfl⟩ hvl q2 fun h2' hb2 => ?_
    have hfresh : h'.get? h'.objs.size = none := get?_none_size _
    have F1 := F.ext X1
    obtain ⟨g1, g2⟩ := F1.off hfresh
    have I2 := I1.but (I1.fresh_not_mem hfresh) (base_none I1 hfresh) hb2
    have F2 := F1.but hb2 g1 g2
    have X02 : XF C (own env) ρ' h' ρ' h2' := (XF.refl C (own env) ρ' h').newAt hb2 hfresh
    refine putVars_ok W (s := { s with heap := h2', toks := tk' }) h1 h2 (by rw [List.toList_toArray]; exact hvs) I2 F2 hp fun h3' tk3 X3 I3 F3 => wpAny_pure ?_
    exact h h3' tk3 ρ' (((X1.xf _).trans Iv.len0 X02).trans Iv.len0 X3) I3 F3
theorem swap_stmt (hE : SE C g P n) (hA : AOk A n) (W : EnvW C cx env) {m : Nat} {ts : List Expr} {tk : Nat} {tp pos : Pos} {e : Expr} {e' : X} {xs : List Str} {i j : Nat} {v : V} {H1 : Hp} {Q : Flow → Shared → Prop}
    (Iv : Inv C ρ H s.heap) (F : FR cx env l ρ s.heap) (h1 : namesOf ts = some xs) (h2 : mapO (idx cx.vars) xs = some [i, j]) (h3 : trE g m cx e = some e') (hcond : swapOk cx ts e = true)
    (hv1 : ev P n e' l H = some (v, H1)) (hv2 : assignT (fun e h => ev P n e l h) (.swap i j) v l H1 = some (l', H'))
    (h : PostU' C cx env ρ s l' H' (Q .next)) : wpAny (model C.prog C.w) A (PySem.exec (.Assign [.Tuple ts tk tp] e pos) env) Q E s := by
  refine swap_inv (tk := tk) (tp := tp) W hcond h3 fun x0 px0 y0 py0 e1 e2 k1 p1 ets ee hst => ?_
  subst ets ee
  have h1 := so h1
  subst h1
  obtain ⟨b1, bs, hi1, hi2, heq⟩ := mapO_cons h2
  obtain ⟨b2, bs2, hi3, hi4, heq2⟩ := mapO_cons hi2
  cases mapO_nil hi4
  subst heq2
  cases heq
  clear hi2 hi4 h2 hcond
  rw [exec_Assign_eq (swaps_other h3 rfl)]
  refine wpAny_bind (wpAny_standAt (wpAny_bind (hE m _ e' cx env A s ρ l H v H1 _ E W.toEnvOk hA Iv F h3 hv1 fun h' tk' ρ' v' X1 I1 r1 => ?_)))
  rw [hst]
  refine wpAny_bind (wpAny_pure ?_)
  refine swap_K hv2 fun k wx wy hvk hw hl1 hHH => ?_
  clear hv2
  subst hvk hHH
  subst hl1
  cases r1 with
  | ref hl =>
    obtain ⟨ob, hob, vs, ep, rfl, hvs⟩ := I1.objs _ _ _ hw hl
    cases vs with
    | nil => exact hvs.elim
    | cons a1 r =>
    cases r with
    | nil => exact hvs.2.elim
    | cons a2 r =>
    cases r with
    | cons _ _ => exact hvs.2.2.elim
    | nil =>
      have hfresh : h'.get? h'.objs.size = none := get?_none_size _
      have F1 := F.ext X1
      obtain ⟨g1, g2⟩ := F1.off hfresh
      refine wpAny_bind (wpAny_rule (wpAny_bind (wpAny_unpackItems_tuple (s := { s with heap := h', toks := tk' }) hA.handled (items := #[a1, a2]) ⟨_, hob, rfl, _, rfl⟩ fun h2' hb2 => ?_)))
      have I2 := I1.but (I1.fresh_not_mem hfresh) (base_none I1 hfresh) hb2
      have F2 := F1.but hb2 g1 g2
      have X02 : XF C (own env) ρ' h' ρ' h2' := (XF.refl C (own env) ρ' h').newAt hb2 hfresh
      show wpAny _ A (assignInOrder [fun n => bindName env y0 n, fun n => bindName env x0 n] [a2, a1] >>= fun _ => pure Flow.next) _ _ _
      refine wpAny_bind ?_
      refine wpAny_bind (wpAny_holding (wpAny_bindName (store_ok (s := { s with heap := h2', toks := tk' }) W I2 F2 (idx_get hi3) hvs.2.1 fun h3' tk3 X3 I3 F3 => ?_)))
      refine wpAny_bind (wpAny_holding (wpAny_bindName (store_ok (s := { s with heap := h3', toks := tk3 }) W I3 F3 (idx_get hi1) hvs.1 fun h4' tk4 X4 I4 F4 => ?_)))
      refine wpAny_pure (wpAny_pure ?_)
      exact h h4' tk4 ρ' ((((X1.xf _).trans Iv.len0 X02).trans Iv.len0 X3).trans Iv.len0 X4) I4 F4

theorem soX {P : Pg} {n : Nat} {l : Lc} {H : Hp} {r} {a x : S} (e : some a = some x) (hv : exec P n x l H = r) : exec P n a l H = r := by cases e; exact hv
theorem soT {C cx env ρ s Q} {r r' : R} {l l' : Lc} {h h' : Hp} (e : some (r, l, h) = some (r', l', h')) (H : PostS C cx env ρ s r' l' h' Q) : PostS C cx env ρ s r l h Q := by cases so2 e; exact H
set_option maxHeartbeats 2000000 in
theorem ss_succ (T : Tabs C g P) (hEall : ∀ k, k ≤ n → SE C g P k) (hSs : SSs C g P n) : SS C g P (n + 1) := by
  intro m st st' cx env A s ρ l H r l' H' Q E W hA1 Iv F ht hv h
  have hA : AOk A n := hA1.mono (Nat.le_succ n)
  have hE : SE C g P n := hEall n (Nat.le_refl n)
  have hT : ST C g P n := st_of n hEall
  have O := W.toEnvOk
  cases m with
  | zero => exact no ht
  | succ m =>
    cases st
    case Expr e pos =>
      refine ifK ht fun hc hta => ?_
      clear ht
      refine bsK hta fun e' h1 h2 => ?_
      clear hta
      replace hv := soX h2 hv
      refine bsP hv fun v H1 hv1 hv2 => ?_
      clear hv
      have hi : interactive env = false := by unfold interactive; rw [W.kind]; rfl
      have hs : swapsWith e none pos.line env = pure false := by
        clear hv2 hv1 h1 h
        cases e <;> first | rfl | exact nomatch hc
      refine wpAny_Expr (hE m e e' cx env A s ρ l H v H1 _ E O hA Iv F h1 hv1 fun h' tk ρ' v' X1 I1 r1 => ?_) hi hs
      have fin : some (R.next, l, H1) = some (r, l', H') → Q .next { s with heap := h', toks := tk } := fun hq => by
        exact soT hq h h' tk ρ' .next (X1.xf _) I1 (F.ext X1) .next
      cases r1 with
      | ref _ => exact no hv2
      | none => exact fin hv2
      | bool _ => exact fin hv2
      | int _ _ => exact fin hv2
    case Return eo pos =>
      cases eo with
      | none => exact no ht
      | some e =>
      refine bsK ht fun e' h1 h2 => ?_
      clear ht
      replace hv := soX h2 hv
      refine bsP hv fun v H1 hv1 hv2 => ?_
      clear hv
      exact wpAny_Return_some (hE m e e' cx env A s ρ l H v _ _ E O hA Iv F h1 hv1 fun h' tk ρ' v' X1 I1 r1 => soT hv2 h h' tk ρ' (.ret v') (X1.xf _) I1 (F.ext X1) (.ret r1))
    case Assign ts e pos =>
      cases ts with
      | nil => exact no ht
      | cons t rest =>
      cases t
      case Name y py =>
        cases rest with
        | cons _ _ => exact no ht
        | nil =>
        refine bsK ht fun i h1 hta => ?_
        clear ht
        refine bsK hta fun e' h2 h3 => ?_
        clear hta
        replace hv := soX h3 hv
        refine bsP hv fun v H1 hv1 hva => ?_
        clear hv
        refine bsP hva fun l1 H2 hv2 hv3 => ?_
        clear hva
        refine ifK hv2 fun _ hv => ?_
        clear hv2
        cases so2 hv
        exact assignName_stmt hEall hA W Iv F (idx_get h1) h2 hv1 fun h' tk ρ' X1 I1 F1 => soT hv3 h h' tk ρ' .next X1 I1 F1 .next
      case Attribute o a ap =>
        cases rest with
        | cons _ _ => exact no ht
        | nil =>
        refine bsK ht fun o' h1 hta => ?_
        clear ht
        refine bsK hta fun i h2 htb => ?_
        clear hta
        refine bsK htb fun e' h3 h4 => ?_
        clear htb
        replace hv := soX h4 hv
        refine bsP hv fun v H1 hv1 hva => ?_
        clear hv
        refine bsP hva fun l1 H2 hv2 hv3 => ?_
        clear hva
        refine bsP hv2 fun ov H3 hv4 hvb => ?_
        clear hv2
        refine bsK hvb fun H4 hv5 hv6 => ?_
        clear hvb
        cases so2 hv6
        rw [exec_Assign_eq (swaps_other h3 rfl)]
        refine wpAny_bind (wpAny_standAt (wpAny_bind (hE m e e' cx env A s ρ l H v _ _ E O hA Iv F h3 hv1 fun h' tk ρ' v' X1 I1 r1 => ?_)))
        rw [stores_attr]
        refine wpAny_bind (wpAny_pure ?_)
        show wpAny _ A (assign (.Attribute o a ap) env v' >>= fun _ => pure Flow.next) _ _ _
        refine wpAny_bind ?_
        show wpAny _ A (holding [v'] (eval o env) >>= fun ov => standAt ap.atName >>= fun _ => holding [v', ov] (setAttr ov a v') >>= fun _ => release [v', ov] []) _ _ _
        refine wpAny_bind (wpAny_holding (hE m o o' cx env A _ ρ' l _ ov _ _ E O hA I1 (F.ext X1) h1 hv4 fun h2' tk2 ρ2 ov' X2 I2 r2 => ?_))
        refine wpAny_bind (wpAny_standAt (wpAny_bind (wpAny_holding (setA_ok (s := { s with heap := h2', toks := tk2 }) T.toGood I2 r2 (r1.ext X2) (T.attrs ▸ idx_get h2) hv5 fun h3' tk3 ρ3 X3 I3 => ?_))))
        refine release_ok (wpAny_pure ?_)
        have X12 := X1.trans Iv.len0 (X2.trans I1.len0 X3)
        exact soT hv3 h h3' tk3 ρ3 .next (X12.xf _) I3 (F.ext X12) .next
      case Subscript o i ip =>
        cases rest with
        | cons _ _ => exact no ht
        | nil =>
        refine bsK ht fun o' h1 hta => ?_
        clear ht
        refine bsK hta fun i' h2 htb => ?_
        clear hta
        refine bsK htb fun e' h3 h4 => ?_
        clear htb
        replace hv := soX h4 hv
        refine bsP hv fun v H1 hv1 hva => ?_
        clear hv
        refine bsP hva fun l1 H2 hv2 hv3 => ?_
        clear hva
        refine bsP hv2 fun ov H3 hv4 hvb => ?_
        clear hv2
        refine bsP hvb fun iv H4 hv5 hvc => ?_
        clear hvb
        refine bsK hvc fun H5 hv6 hv7 => ?_
        clear hvc
        cases so2 hv7
        refine wpAny_Assign_Subscript (hE m e e' cx env A s ρ l H v _ _ E O hA Iv F h3 hv1 fun h' tk ρ' v' X1 I1 r1 => ?_) (swaps_other h3 rfl)
        refine hE m o o' cx env A _ ρ' l _ ov _ _ E O hA I1 (F.ext X1) h1 hv4 fun h2' tk2 ρ2 ov' X2 I2 r2 => ?_
        refine hE m i i' cx env A _ ρ2 l _ iv _ _ E O hA I2 ((F.ext X1).ext X2) h2 hv5 fun h3' tk3 ρ3 iv' X3 I3 r3 => ?_
        refine setV_ok (s := { s with heap := h3', toks := tk3 }) I3 (r2.ext X3) r3 ((r1.ext X2).ext X3) hv6 fun h4' tk4 ρ4 X4 I4 => ?_
        have X12 := X1.trans Iv.len0 (X2.trans I1.len0 (X3.trans I2.len0 X4))
        exact soT hv3 h h4' tk4 ρ4 .next (X12.xf _) I4 (F.ext X12) .next
      case Tuple ts tk tp =>
        cases rest with
        | cons _ _ => exact no ht
        | nil =>
        refine bsK ht fun xs h1 hta => ?_
        clear ht
        refine bsK hta fun is h2 htb => ?_
        clear hta
        refine bsK htb fun e' h3 h4 => ?_
        clear htb
        by_cases hcond : (!isTuple e || decide (4 ≤ is.length)) = true
        · have h4 := (if_pos hcond).symm.trans h4
          replace hv := soX h4 hv
          refine bsP hv fun v H1 hv1 hva => ?_
          clear hv
          refine bsP hva fun l1 H2 hv2 hv3 => ?_
          clear hva
          exact tup_stmt hE hA W Iv F h1 h2 h3 hcond hv1 hv2 fun h' tk ρ' X1 I1 F1 => soT hv3 h h' tk ρ' .next X1 I1 F1 .next
        · have h4 := (if_neg hcond).symm.trans h4
          clear hcond
          cases is with
          | nil => exact no h4
          | cons i r =>
          cases r with
          | nil => exact no h4
          | cons j r =>
          cases r with
          | cons _ _ => exact no h4
          | nil =>
          refine ifK h4 fun hcond h5 => ?_
          clear h4
          replace hv := soX h5 hv
          refine bsP hv fun v H1 hv1 hva => ?_
          clear hv
          refine bsP hva fun l1 H2 hv2 hv3 => ?_
          clear hva
          exact swap_stmt hE hA W Iv F h1 h2 h3 hcond hv1 hv2 fun h' tk ρ' X1 I1 F1 => soT hv3 h h' tk ρ' .next X1 I1 F1 .next
      all_goals exact no ht
    case AugAssign t op e pos =>
      cases t
      case Name y py =>
        refine bsK ht fun i h1 hta => ?_
        clear ht
        refine bsK hta fun e' h2 h3 => ?_
        clear hta
        replace hv := soX h3 hv
        cases hxo : l[i]? with
        | none =>
          have hv : (match l[i]? with
            | some (some x) => (ev P n e' l H).bind fun (y, h) => (match x, y with
              | .int x, .int y => (binI op x y).bind fun z => some (R.next, l.set i (some (.int z)), h)
              | _, _ => none)
            | _ => none) = some (r, l', H') := hv
          rw [hxo] at hv
          exact no hv
        | some xo =>
        have hv : (match l[i]? with
          | some (some x) => (ev P n e' l H).bind fun (y, h) => (match x, y with
            | .int x, .int y => (binI op x y).bind fun z => some (R.next, l.set i (some (.int z)), h)
            | _, _ => none)
          | _ => none) = some (r, l', H') := hv
        rw [hxo] at hv
        cases xo with
        | none => exact no hv
        | some xv =>
        refine bsP hv fun yv H1 hv1 hv2 => ?_
        clear hv
        refine wpAny_AugAssign_Name (var_ok (C := C) O F (idx_get h1) hxo fun a' ra => ?_)
        refine hE m e e' cx env A s ρ l H _ _ _ E O hA Iv F h2 hv1 fun h' tk ρ' b' X1 I1 r1 => ?_
        cases ra with
        | int a t =>
          cases r1 with
          | int b u =>
            refine bsK hv2 fun z hz hq => ?_
            clear hv2
            refine iopI_ok (s := { s with heap := h', toks := tk }) hz ?_
            refine store_ok (s := { s with heap := h', toks := tk + 1 }) W I1 (F.ext X1) (idx_get h1) (.int z _) fun h'' tk' X2 I2 F2 => ?_
            exact soT hq h h'' tk' ρ' .next ((X1.xf _).trans Iv.len0 X2) I2 F2 .next
          | _ => exact no hv2
        | _ => exact no hv2
      case Attribute o a ap =>
        refine bsK ht fun o' h1 hta => ?_
        clear ht
        refine bsK hta fun i h2 htb => ?_
        clear hta
        refine bsK htb fun e' h3 h4 => ?_
        clear htb
        replace hv := soX h4 hv
        refine bsP hv fun ov H1 hv1 hva => ?_
        clear hv
        refine bsK hva fun xv hxv hvb => ?_
        clear hva
        refine bsP hvb fun yv H2 hv2 hv3 => ?_
        clear hvb
        have han : C.an[i]? = some a := T.attrs ▸ idx_get h2
        refine wpAny_AugAssign_AttributeAny (hE m o o' cx env A s ρ l H ov H1 _ E O hA Iv F h1 hv1 fun h' tk ρ' ov' X1 I1 r1 => ?_)
        refine getA_ok (s := { s with heap := h', toks := tk }) T.toGood I1 r1 han hxv fun a' tk' ra => ?_
        refine hE m e e' cx env A { s with heap := h', toks := tk' } ρ' l H1 _ H2 _ E O hA I1 (F.ext X1) h3 hv2 fun h2' tk2 ρ2 b' X2 I2 r2 => ?_
        cases ra with
        | int a t =>
          cases r2 with
          | int b u =>
            refine bsK hv3 fun z hz hvc => ?_
            clear hv3
            refine bsK hvc fun H3 hs3 hq => ?_
            clear hvc
            refine iopI_ok (s := { s with heap := h2', toks := tk2 }) hz ?_
            refine setA_ok (s := { s with heap := h2', toks := tk2 + 1 }) T.toGood I2 (r1.ext X2) (.int z _) han hs3 fun h3' tk3 ρ3 X3 I3 => ?_
            have X12 := X1.trans Iv.len0 (X2.trans I1.len0 X3)
            exact soT hq h h3' tk3 ρ3 .next (X12.xf _) I3 (F.ext X12) .next
          | _ => exact no hv3
        | _ => exact no hv3
      case Subscript o i ip =>
        refine bsK ht fun o' h1 hta => ?_
        clear ht
        refine bsK hta fun i' h2 htb => ?_
        clear hta
        refine bsK htb fun e' h3 h4 => ?_
        clear htb
        replace hv := soX h4 hv
        refine bsP hv fun ov H1 hv1 hva => ?_
        clear hv
        refine bsP hva fun iv H2 hv2 hvb => ?_
        clear hva
        refine bsK hvb fun xv hxv hvc => ?_
        clear hvb
        refine bsP hvc fun yv H3 hv3 hv4 => ?_
        clear hvc
        have hi : ∀ ov iv new, augStore i ov iv new = (do holding [new, ov, iv] (setItem ov iv new); release [new, ov, iv] []; pure .next) := by
          intro ov iv new
          clear hv4 hv3 hv2 hv1 h h3 h1
          cases m with
          | zero => exact no h2
          | succ m => cases i <;> first | rfl | exact no h2
        refine wpAny_AugAssign_SubscriptAny (hE m o o' cx env A s ρ l H ov H1 _ E O hA Iv F h1 hv1 fun h' tk ρ' ov' X1 I1 r1 => ?_) hi
        refine hE m i i' cx env A _ ρ' l H1 iv H2 _ E O hA I1 (F.ext X1) h2 hv2 fun h2' tk2 ρ2 iv' X2 I2 r2 => ?_
        refine getV_ok (s := { s with heap := h2', toks := tk2 }) I2 (r1.ext X2) r2 hxv fun a' ra => ?_
        have X12 := X1.trans Iv.len0 X2
        refine hE m e e' cx env A _ ρ2 l H2 _ H3 _ E O hA I2 (F.ext X12) h3 hv3 fun h3' tk3 ρ3 b' X3 I3 r3 => ?_
        cases ra with
        | int a t =>
          cases r3 with
          | int b u =>
            refine bsK hv4 fun z hz hvd => ?_
            clear hv4
            refine bsK hvd fun H4 hs4 hq => ?_
            clear hvd
            refine iopI_ok (s := { s with heap := h3', toks := tk3 }) hz ?_
            refine setV_ok (s := { s with heap := h3', toks := tk3 + 1 }) I3 ((r1.ext X2).ext X3) (r2.ext X3) (.int z _) hs4 fun h4' tk4 ρ4 X4 I4 => ?_
            have X14 := X12.trans Iv.len0 (X3.trans I2.len0 X4)
            exact soT hq h h4' tk4 ρ4 .next (X14.xf _) I4 (F.ext X14) .next
          | _ => exact no hv4
        | _ => exact no hv4
      all_goals exact no ht
    case If t b o pos =>
      refine bsK ht fun t' h1 hta => ?_
      clear ht
      refine bsK hta fun b' h2 htb => ?_
      clear hta
      refine bsK htb fun o' h3 h4 => ?_
      clear htb
      replace hv := soX h4 hv
      refine bsP hv fun c H1 hv1 hv2 => ?_
      clear hv
      refine wpAny_If (hT m t t' cx env A s ρ l H c H1 _ E O hA Iv F h1 hv1 fun h' tk ρ' X1 I1 => ?_)
      cases c with
      | true => exact hSs m b b' cx env A _ ρ' l H1 r l' H' _ E W hA I1 (F.ext X1) h2 hv2 fun h'' tk'' ρ'' fl X2 I2 F2 hfl => h h'' tk'' ρ'' fl ((X1.xf _).trans Iv.len0 X2) I2 F2 hfl
      | false => exact hSs m o o' cx env A _ ρ' l H1 r l' H' _ E W hA I1 (F.ext X1) h3 hv2 fun h'' tk'' ρ'' fl X2 I2 F2 hfl => h h'' tk'' ρ'' fl ((X1.xf _).trans Iv.len0 X2) I2 F2 hfl
    case While t b orelse pos =>
      cases orelse with
      | cons _ _ => exact no ht
      | nil =>
      refine bsK ht fun t' h1 hta => ?_
      clear ht
      refine bsK hta fun b' h2 h3 => ?_
      clear hta
      replace hv := soX h3 hv
      exact wpAny_While (while_ok hT hSs hA W Iv F h1 h2 hv fun h' tk ρ' fl X1 I1 F1 hfl => h h' tk ρ' fl X1 I1 F1 hfl)
    case For tg it b orelse pos =>
      cases tg
      case Name y py =>
        cases orelse with
        | cons _ _ => exact no ht
        | nil =>
        refine bsK ht fun i h1 hta => ?_
        clear ht
        refine bsK hta fun it' h2 htb => ?_
        clear hta
        refine bsK htb fun b' h3 h4 => ?_
        clear htb
        replace hv := soX h4 hv
        refine bsP hv fun v H1 hv1 hva => ?_
        clear hv
        refine bsK hva fun src hsrc hvb => ?_
        clear hva
        refine ifK hvb fun _ hv2 => ?_
        clear hvb
        obtain ⟨j, hL⟩ := loopOn_L hv2
        refine wpAny_For (hE m it it' cx env A s ρ l H v H1 _ E O hA Iv F h2 hv1 fun h' tk ρ' v' X1 I1 r1 => ?_) (not_set h2)
        refine pyIter_ok (s := { s with heap := h', toks := tk }) I1 r1 hsrc fun I h2' hI hgrow hit => ?_
        obtain ⟨I2, X2⟩ := I1.grow hgrow
        have F1 := F.ext X1
        refine for_ok (s := { s with heap := h2', toks := tk }) (h₀ := h') hSs hA W I1 F1 I2 (F1.ext X2) (X2.xf _) hI hit (idx_get h1) h3 hL fun h3' tk3 ρ3 fl X3 I3 F3 hfl => ?_
        exact h h3' tk3 ρ3 fl ((X1.xf _).trans Iv.len0 X3) I3 F3 hfl
      all_goals exact no ht
    case Raise =>
      cases so ht
      exact no hv
    all_goals exact no ht

theorem sss_succ (hS : SS C g P n) (hSs : SSs C g P n) : SSs C g P (n + 1) := by
  intro m sts sts' cx env A s ρ l H r l' H' Q E W hA1 Iv F ht hv h
  have hA : AOk A n := hA1.mono (Nat.le_succ n)
  cases sts with
  | nil =>
    cases mapO_nil ht
    cases so2 hv
    exact wpAny_execs_nil (h s.heap s.toks ρ .next (.refl ..) Iv F .next)
  | cons st rest =>
    obtain ⟨st', rest', h1, h2, rfl⟩ := mapO_cons ht
    refine bsT hv fun q l1 H1 hv1 hv2 => ?_
    clear hv
    refine wpAny_execs_cons (hS m st st' cx env A s ρ l H q l1 H1 _ E W hA Iv F h1 hv1 fun h' tk ρ' fl X1 I1 F1 hfl => ?_)
    cases hfl with
    | next => exact hSs m rest rest' cx env A _ ρ' l1 H1 r l' H' _ E W hA I1 F1 h2 hv2 fun h'' tk'' ρ'' fl X2 I2 F2 hfl => h h'' tk'' ρ'' fl (X1.trans Iv.len0 X2) I2 F2 hfl
    | ret hr =>
      cases so2 hv2
      exact h h' tk ρ' _ X1 I1 F1 (.ret hr)
end
end Mine
end
section
open PySem PySem.W PyProof.Rows
namespace Mine
theorem varsOf_sub : ∀ (names : List (Str × NameKind)), (varsOf names).Sublist (names.map (·.1))
  | [] => .slnil
  | (n, k) :: r => by
    unfold varsOf
    rw [List.filterMap_cons, List.map_cons]
    have ih := varsOf_sub r
    unfold varsOf at ih
    split
    · exact .cons _ ih
    · rename_i b hb
      dsimp only at hb
      split at hb
      · cases hb; exact .cons_cons _ ih
      · cases hb

theorem lookup_of_mem {α : Type} : ∀ {l : List (Str × α)} {x : Str} {a : α}, (l.map (·.1)).Nodup → (x, a) ∈ l → l.lookup x = some a
  | (n, k) :: r, x, a, hn, hm => by
    rw [List.map_cons, List.nodup_cons] at hn
    rcases List.mem_cons.mp hm with e | hm2
    · cases e; simp
    · have : x ≠ n := fun hxn => hn.1 (List.mem_map.mpr ⟨(x, a), hm2, hxn⟩)
      rw [List.lookup_cons, beq_false_of_ne this]
      exact lookup_of_mem hn.2 hm2

theorem varsOf_kind {names : List (Str × NameKind)} (hn : (names.map (·.1)).Nodup) {x : Str} (hx : x ∈ varsOf names) : names.lookup x = some .local ∨ names.lookup x = some .cell := by
  unfold varsOf at hx
  obtain ⟨⟨n, k⟩, hm, hk⟩ := List.mem_filterMap.mp hx
  dsimp only at hk
  split at hk
  · rename_i hc
    cases hk
    have := lookup_of_mem hn hm
    simp only [Bool.or_eq_true, beq_iff_eq] at hc
    rcases hc with rfl | rfl
    · exact .inl this
    · exact .inr this
  · cases hk

theorem cf_cons (n : Nat) (x : Str) (k : NameKind) (r acc) : cellsFrom n ((x, k) :: r) acc = if k == .cell then cellsFrom (n + 1) r ((x, n) :: acc) else cellsFrom n r acc := rfl
theorem cellsFrom_keys : ∀ (names : List (Str × NameKind)) (n : Nat) (acc : List (Str × Addr)), ((names.map (·.1)) ++ acc.map (·.1)).Nodup → ((cellsFrom n names acc).map (·.1)).Nodup
  | [], n, acc, h => h
  | (x, k) :: r, n, acc, h => by
    rw [List.map_cons, List.cons_append, List.nodup_cons] at h
    rw [cf_cons]
    split
    · refine cellsFrom_keys r (n + 1) _ ?_
      rw [List.map_cons]
      rw [List.nodup_append] at h ⊢
      obtain ⟨h1, h2, h3, h4⟩ := h
      rw [List.mem_append, not_or] at h1
      refine ⟨h2, List.nodup_cons.mpr ⟨h1.2, h3⟩, fun a ha b hb => ?_⟩
      rcases List.mem_cons.mp hb with rfl | hb
      · rintro rfl; exact h1.1 ha
      · exact h4 a ha b hb
    · exact cellsFrom_keys r n acc h.2

theorem cellsFrom_has : ∀ (names : List (Str × NameKind)) (n : Nat) (acc : List (Str × Addr)) (x : Str), ((x, NameKind.cell) ∈ names ∨ (acc.lookup x).isSome = true) → ((cellsFrom n names acc).lookup x).isSome = true
  | [], n, acc, x, h => by rcases h with h | h; cases h; exact h
  | (y, k) :: r, n, acc, x, h => by
    rw [cf_cons]
    split
    · rename_i hk
      refine cellsFrom_has r (n + 1) _ x ?_
      rcases h with h | h
      · rcases List.mem_cons.mp h with e | h
        · cases e; exact .inr (by simp)
        · exact .inl h
      · refine .inr ?_
        rw [List.lookup_cons]
        split
        · rfl
        · exact h
    · rename_i hk
      refine cellsFrom_has r n acc x ?_
      rcases h with h | h
      · rcases List.mem_cons.mp h with e | h
        · cases e; exact absurd rfl hk
        · exact .inl h
      · exact .inr h

theorem bindL_not (kf : Str → Option NameKind) : ∀ (binds : List (Str × Value)) (m : Str → Option Value) (y : Str), y ∉ binds.map (·.1) → bindL kf binds m y = m y
  | [], _, _, _ => rfl
  | (n, v) :: r, m, y, h => by
    rw [List.map_cons, List.mem_cons, not_or] at h
    unfold bindL
    rw [bindL_not kf r _ y h.2]
    split
    · simp [h.1]
    · rfl
theorem bindL_at (kf : Str → Option NameKind) : ∀ (binds : List (Str × Value)) (m : Str → Option Value) (y : Str) (v : Value), (binds.map (·.1)).Nodup → (y, v) ∈ binds → kf y = some .local → bindL kf binds m y = some v
  | [], _, _, _, _, hm, _ => absurd hm List.not_mem_nil
  | b :: r, m, y, v, hn, hm, hk => by
    obtain ⟨n, w⟩ := b
    rw [List.map_cons, List.nodup_cons] at hn
    unfold bindL
    rcases List.mem_cons.mp hm with e | hm
    · cases e
      rw [bindL_not kf r _ _ hn.1, if_pos hk]; simp
    · exact bindL_at kf r _ y v hn.2 hm hk
theorem bindC_not (kf : Str → Option NameKind) : ∀ (binds : List (Str × Value)) (m : Str → Option Value) (y : Str), y ∉ binds.map (·.1) → bindC kf binds m y = m y
  | [], _, _, _ => rfl
  | (n, v) :: r, m, y, h => by
    rw [List.map_cons, List.mem_cons, not_or] at h
    unfold bindC
    rw [bindC_not kf r _ y h.2]
    split
    · rfl
    · simp [h.1]
theorem bindC_at (kf : Str → Option NameKind) : ∀ (binds : List (Str × Value)) (m : Str → Option Value) (y : Str) (v : Value), (binds.map (·.1)).Nodup → (y, v) ∈ binds → kf y ≠ some .local → bindC kf binds m y = some v
  | [], _, _, _, _, hm, _ => absurd hm List.not_mem_nil
  | b :: r, m, y, v, hn, hm, hk => by
    obtain ⟨n, w⟩ := b
    rw [List.map_cons, List.nodup_cons] at hn
    unfold bindC
    rcases List.mem_cons.mp hm with e | hm
    · cases e
      rw [bindC_not kf r _ _ hn.1, if_neg hk]; simp
    · exact bindC_at kf r _ y v hn.2 hm hk

theorem zip_keys : ∀ (xs : List Str) (vs : List Value), ((xs.zip vs).map (·.1)).Sublist xs
  | [], _ => by simp
  | x :: xs, [] => by simp
  | x :: xs, v :: vs => by rw [List.zip_cons_cons, List.map_cons]; exact .cons_cons _ (zip_keys xs vs)

theorem zip_mem {xs : List Str} {vs : List Value} {i : Nat} {x : Str} {v : Value} (h1 : xs[i]? = some x) (h2 : vs[i]? = some v) : (x, v) ∈ xs.zip vs := by
  refine List.mem_of_getElem? (i := i) ?_
  rw [List.getElem?_zip_eq_some]
  exact ⟨h1, h2⟩

section
variable {C : Con} {g : Gt} {P : Pg} {n : Nat}

theorem sc_succ (T : Tabs C g P) (hSs : SSs C g P n) : SC C g P (n + 1) := by
  intro f d a A s ρ H vs xs v H' R' hA Iv hf hfn hr hv h
  obtain ⟨o, fd, body, cd, ho, hdata, hclo, hbody, hgl, hbu, hkind, hgen, hco, hcode, hrec, hbind, htr, hvl, hnp, hnod, hkeep⟩ := hfn.ex
  refine bsK hv fun d' hd' hv0 => ?_
  clear hv
  have hdd : d = d' := so (hf.symm.trans hd')

  subst hdd
  refine ifK hv0 fun hlen hv3 => ?_
  clear hv0
  refine bsT hv3 fun x lf H1 hv1 hv2 => ?_
  clear hv3
  have hxs : xs.length = d.np := by rw [← hr.length]; exact hlen
  have hnv : (varsOf fd.scope.names).Nodup := (varsOf_sub _).nodup hnod
  have hbs := hbind xs hxs
  have hLnone : s.heap.get? s.heap.objs.size = none := get?_none_size _
  have hkeys : ((((varsOf fd.scope.names).take d.np).zip xs).map (·.1)).Nodup := (zip_keys _ _).nodup ((List.take_sublist _ _).nodup hnv)
  refine codeAny_call_cells (fd := fd) (binds := ((varsOf fd.scope.names).take d.np).zip xs) (by have := hA.depth; unfold recursionLimit; (first | lia | omega)) (Iv.base _ _ ho) hdata (T.nolimit.keeps Iv.base) (by rw [hcode]; exact hrec.keeps Iv.base) hbody hbs hclo (fun y hy => ?_) (fun s₁ hin => ?_) hco hgen hkind
  · have hy1 : y.1 ∈ varsOf fd.scope.names := List.mem_of_mem_take ((zip_keys _ _).subset (List.mem_map_of_mem (f := fun z : Str × Value => z.1) hy))
    rcases varsOf_kind hnod hy1 with hk | hk
    · exact .inl hk
    · exact .inr ⟨hk, cellsFrom_has _ _ _ _ (.inl (mem_of_lookup hk))⟩
  · obtain ⟨h₁, tk₁, rfl⟩ := hin.toInCall.same
    have hgrow : ∀ b ob, s.heap.get? b = some ob → h₁.get? b = some ob := hin.toInCall.keep
    obtain ⟨I1, X1⟩ := Iv.grow hgrow
    have hcnew : ∀ y c, (y, c) ∈ (callEnvC fd s.heap.objs.size a).cells → s.heap.get? c = none := fun y c hc => by
      have hlt : (s.heap.objs.size : Nat) < c := hin.above y c hc
      cases e : s.heap.get? c with
      | none => rfl
      | some ob => exact absurd (Heap.lt_size e) (Nat.lt_asymm hlt)
    have hownnew : ∀ b ∈ own (callEnvC fd s.heap.objs.size a), s.heap.get? b = none := fun b hb => by
      rcases List.mem_cons.mp hb with rfl | hb
      · exact hLnone
      · obtain ⟨⟨y, c⟩, hy, rfl⟩ := List.mem_map.mp hb
        exact hcnew y c hy
    have hcellkeys : ((callEnvC fd s.heap.objs.size a).cells.map (·.1)).Nodup := cellsFrom_keys _ _ _ (by simpa using hnod)
    have W : EnvW C ⟨fd.scope.names, varsOf fd.scope.names⟩ (callEnvC fd s.heap.objs.size a) :=
      { kind := hkind, globals := hgl, builtins := hbu, glob := fun y hy => hy, cellk := fun y hy => hy, apart := hin.apart,
        locs := fun y c hc => Nat.ne_of_gt (hin.above y c hc), new := fun b hb => base_none Iv (hownnew b hb), kinds := fun _ => rfl, nodup := hnv }
    -- what the parameters hold
    have hval : ∀ {i : Nat} {y : Str} {w : V}, (varsOf fd.scope.names)[i]? = some y → (vs.map some ++ List.replicate (d.nl - d.np) none)[i]? = some (some w) → ∃ w', (y, w') ∈ ((varsOf fd.scope.names).take d.np).zip xs ∧ VR ρ w w' := by
      intro i y w hy hw
      by_cases hi : i < d.np
      · rw [List.getElem?_append_left (by simp; (first | lia | omega)), List.getElem?_map] at hw
        obtain ⟨w0, hw0, hw1⟩ := Option.map_eq_some_iff.mp hw
        cases hw1
        obtain ⟨w', h1, h2⟩ := hr.get hw0
        exact ⟨w', zip_mem (i := i) (by rw [List.getElem?_take, if_pos hi]; exact hy) h1, h2⟩
      · rw [List.getElem?_append_right (by simp; (first | lia | omega))] at hw
        simp only [List.getElem?_replicate] at hw
        split at hw <;> cases hw
    have F1 : FR ⟨fd.scope.names, varsOf fd.scope.names⟩ (callEnvC fd s.heap.objs.size a) (vs.map some ++ List.replicate (d.nl - d.np) none) ρ h₁ := by
      refine ⟨by simp; (first | lia | omega), ⟨_, hin.toInCall.ns, fun i y hy hk w hw => ?_⟩, fun i y hy => ?_, Iv.fresh_not_mem hLnone, fun y c hc => Iv.fresh_not_mem (hcnew y c hc), fun y c hc => ?_⟩
      · obtain ⟨w', h1, h2⟩ := hval hy hw
        exact ⟨w', bindL_at _ _ _ _ _ hkeys h1 hk, h2⟩
      · have hy1 : y ∈ varsOf fd.scope.names := List.mem_of_getElem? hy
        rcases varsOf_kind hnod hy1 with hk | hk
        · exact .inl hk
        · refine .inr ⟨hk, ?_⟩
          obtain ⟨c, hc⟩ := Option.isSome_iff_exists.mp (cellsFrom_has fd.scope.names (s.heap.objs.size + 1) [] y (.inl (mem_of_lookup hk)))
          refine ⟨c, _, hc, hin.cell y c hc, fun w hw => ?_⟩
          obtain ⟨w', h1, h2⟩ := hval hy hw
          refine ⟨w', bindC_at _ _ _ _ _ hkeys h1 ?_, h2⟩
          have hk' : (callEnvC fd s.heap.objs.size a).kindOf y = some .cell := hk
          rw [hk']; decide
      · exact ⟨_, hin.cell y c (lookup_of_mem hcellkeys hc)⟩
    have hA1 : AOk (A.deeper (callEnvC fd s.heap.objs.size a)) n := ⟨hA.handled, by have := hA.depth; show A.depth + 1 + n ≤ 900; (first | lia | omega), by have := hA.units; show A.units + 3 + 8 * n ≤ 9000; (first | lia | omega)⟩
    refine hSs 60 body d.body _ _ _ { s with heap := h₁, toks := tk₁ } ρ _ H x lf H1 _ _ W hA1 I1 F1 htr hv1 fun h' tk ρ' fl X2 I2 F2 hfl => ?_
    have X3 : Ext C ρ s.heap ρ' h' := by
      obtain ⟨t, rfl, ht⟩ := X2.pre
      refine ⟨⟨t, rfl, fun b hb => ?_⟩, fun b ob hb e => X2.keep b ob hb (fun hm => by rw [hownnew b hm] at e; cases e) (hgrow b ob e), fun b e => ?_⟩
      · cases e : s.heap.get? b with
        | none => rfl
        | some ob => rw [show ({ s with heap := h₁, toks := tk₁ } : Shared).heap = h₁ from rfl] at ht; have := ht b hb; rw [hgrow b ob e] at this; cases this
      · obtain ⟨ob, hob⟩ := Option.isSome_iff_exists.mp e
        exact X2.alive b (by rw [show ({ s with heap := h₁, toks := tk₁ } : Shared).heap = h₁ from rfl, hgrow b ob hob]; rfl)
    cases hfl with
    | next =>
      cases so2 hv2
      exact h h' tk ρ' .none X3 I2 .none
    | ret hr' =>
      cases so2 hv2
      exact h h' tk ρ' _ X3 I2 hr'

theorem sn_succ (T : Tabs C g P) (hC : SC C g P n) : SN C g P (n + 1) := by
  intro f c Ca A s ρ H vs xs v H' Q E hA Iv hg hcl hr hv h
  obtain ⟨Ca', j, d, fa, h1, h2, h3, h4, h5, h6, h7, h8, h9⟩ := T.clss f c hg
  rw [hcl] at h2; cases h2
  refine bsK hv fun f' hf' hv0 => ?_
  clear hv
  have hff : j = f' := so (h5.symm.trans hf')

  subst hff
  refine bsP hv0 fun w H1 hv1 hv2 => ?_
  clear hv0
  cases w with
  | bool _ => exact no hv2
  | int _ => exact no hv2
  | ref _ => exact no hv2
  | none =>
  cases so2 hv2
  have X := Iv.K T.toGood
  obtain ⟨hh, gg, dd, tt, os⟩ := s
  refine wpAny_call (make_core (makes_of X h3) (looks_findIn X h7) (fun self => bind_fn X self h8) (.inl rfl) ?_)
  obtain ⟨I1, X1⟩ := Iv.push (O := .attrs []) (o := emptyDict) rfl ⟨#[], 0, rfl, fun e he => (nomatch he), Nat.zero_le _, fun i x v _ h => (nomatch h)⟩
  obtain ⟨I2, X2⟩ := I1.push (O := .inst c H.length) (o := instObj Ca hh.objs.size) rfl ⟨Ca, hh.objs.size, hcl, by
    have : (ρ ++ [hh.objs.size])[H.length]? = some hh.objs.size := last_get Iv.len
    rw [List.getElem?_append_left (by rw [List.length_append, Iv.len]; simp)]; exact this, rfl⟩
  rw [Heap.size_push] at I2 X2
  have X12 := X1.trans Iv.len0 X2
  have hA' : AOk (A.under (.builtin "type.__call__" ⟨.ref Ca :: xs, []⟩)) n := by
    have hw : (Code.builtin "type.__call__" ⟨.ref Ca :: xs, []⟩).weight ≤ 1 := by
      have : (Code.builtin "type.__call__" ⟨.ref Ca :: xs, []⟩).weight = 1 := by
        unfold Code.weight
        rfl
      (first | lia | omega)
    have hu : (Code.builtin "type.__call__" ⟨.ref Ca :: xs, []⟩).cUnits ≤ 4 := by
      have : (Code.builtin "type.__call__" ⟨.ref Ca :: xs, []⟩).cUnits = 1 := by rfl
      (first | lia | omega)
    refine ⟨hA.handled, ?_, ?_⟩
    · show A.depth + _ + n ≤ 900
      have := hA.depth; (first | lia | omega)
    · show A.units + _ + 8 * n ≤ 9000
      have := hA.units; (first | lia | omega)
  have hself : VR (ρ ++ [hh.objs.size] ++ [hh.objs.size + 1]) (.ref (H.length + 1)) (.ref (hh.objs.size + 1)) := .ref (last_get (by rw [List.length_append, Iv.len]; rfl))
  rw [show H ++ [O.attrs [], O.inst c H.length] = H ++ [O.attrs []] ++ [O.inst c H.length] from by simp] at hv1
  refine hC j d fa _ ⟨_, gg, dd, tt, os⟩ _ (H ++ [.attrs []] ++ [.inst c H.length]) (.ref (H.length + 1) :: vs) _ .none _ _ hA' I2 h6 h9 ⟨hself, hr.ext X12⟩ hv1 fun h' tk ρ' v' X3 I3 r3 => ?_
  cases r3
  exact ⟨rfl, h h' tk ρ' _ (X12.trans Iv.len0 X3) I3 (hself.ext X3)⟩

structure AllOk (C : Con) (g : Gt) (P : Pg) (n : Nat) : Prop where
  se : SE C g P n
  ss : SS C g P n
  sss : SSs C g P n
  sc : SC C g P n
  sn : SN C g P n

theorem all_ok (T : Tabs C g P) : ∀ n, (∀ k, k ≤ n → AllOk C g P k) := by
  intro n
  induction n with
  | zero =>
    intro k hk
    have : k = 0 := by (first | lia | omega)
    subst this
    refine ⟨?_, ?_, ?_, ?_, ?_⟩
    · intro m e x cx env A s ρ l H v H' Q E _ _ _ _ _ hv; exact no hv
    · intro m e x cx env A s ρ l H v l' H' Q E _ _ _ _ _ hv; exact no hv
    · intro m e x cx env A s ρ l H v l' H' Q E _ _ _ _ _ hv; exact no hv
    · intro f d a A s ρ H vs xs v H' R' _ _ _ _ _ hv; exact no hv
    · intro f c Ca A s ρ H vs xs v H' Q E _ _ _ _ _ hv; exact no hv
  | succ n ih =>
    intro k hk
    by_cases hkn : k ≤ n
    · exact ih k hkn
    · have : k = n + 1 := by (first | lia | omega)
      subst this
      obtain ⟨se, ss, sss, sc, sn⟩ := ih n (Nat.le_refl n)
      have hE : ∀ k, k ≤ n → SE C g P k := fun k hk => (ih k hk).se
      have hT := st_of n hE
      exact ⟨se_succ T se hT sc sn, ss_succ T hE sss, sss_succ ss sss, sc_succ T sss, sn_succ T sc⟩
end
end Mine
end
section
open PySem
namespace Mine
/-- 0 -/
noncomputable def f_side_of : FD := ⟨1, 1, [
  (.ret (.bin .RShift (.var 0) (.cst (.int 3))))]⟩
/-- 1 -/
noncomputable def f_kind_of : FD := ⟨1, 1, [
  (.ret (.bin .BitAnd (.var 0) (.cst (.int 7))))]⟩
/-- 2 -/
noncomputable def f_more_than_one : FD := ⟨1, 1, [
  (.ret (.cmp (.bin .BitAnd (.var 0) (.bin .Sub (.var 0) (.cst (.int 1)))) [.NotEq] [(.cst (.int 0))]))]⟩
/-- 3 -/
noncomputable def f_highest : FD := ⟨1, 3, [
  (.iff (.cmp (.var 0) [.Eq] [(.cst (.int 0))]) [(.ret (.un .USub (.cst (.int 1))))] []),
  (.assign (.var 1) (.cst (.int 1))),
  (.whl (.bin .RShift (.var 0) (.var 1)) [(.augV 1 .Mult (.cst (.int 2)))]),
  (.assign (.var 2) (.cst (.int 0))),
  (.whl (.cmp (.var 1) [.Gt] [(.cst (.int 1))]) [(.augV 1 .FloorDiv (.cst (.int 2))), (.iff (.bin .RShift (.var 0) (.var 1)) [(.augV 0 .RShift (.var 1)), (.augV 2 .Add (.var 1))] [])]),
  (.ret (.var 2))]⟩
/-- 4 -/
noncomputable def f_lowest : FD := ⟨1, 1, [
  (.ret (.call 3 [(.bin .BitAnd (.var 0) (.un .USub (.var 0)))]))]⟩
/-- 5 -/
noncomputable def f_squares_of : FD := ⟨1, 3, [
  (.assign (.var 1) (.listE [])),
  (.assign (.var 2) (.cst (.int 0))),
  (.whl (.var 0) [(.whl (.un .Not (.bin .BitAnd (.var 0) (.cst (.int 15)))) [(.augV 0 .RShift (.cst (.int 4))), (.augV 2 .Add (.cst (.int 4)))]), (.iff (.bin .BitAnd (.var 0) (.cst (.int 1))) [(.expr (.append (.var 1) (.var 2)))] []), (.augV 0 .RShift (.cst (.int 1))), (.augV 2 .Add (.cst (.int 1)))]),
  (.ret (.var 1))]⟩
/-- 6 -/
noncomputable def f_direction : FD := ⟨3, 4, [
  (.for 3 (.bi .range [(.cst (.int 8))]) [(.iff (.bin .BitAnd (.bin .RShift (.sub (.sub (.attr (.var 0) 8) (.var 3)) (.var 1)) (.var 2)) (.cst (.int 1))) [(.ret (.var 3))] [])]),
  (.ret (.un .USub (.cst (.int 1))))]⟩
/-- 7 -/
noncomputable def f_between : FD := ⟨3, 4, [
  (.assign (.var 3) (.call 6 [(.var 0), (.var 1), (.var 2)])),
  (.iff (.cmp (.var 3) [.Lt] [(.cst (.int 0))]) [(.ret (.cst (.int 0)))] []),
  (.ret (.bin .BitAnd (.sub (.sub (.attr (.var 0) 8) (.var 3)) (.var 1)) (.sub (.sub (.attr (.var 0) 8) (.bin .BitXor (.var 3) (.cst (.int 2)))) (.var 2))))]⟩
/-- 8 -/
noncomputable def f_is_growing : FD := ⟨1, 1, [
  (.ret (.boolE .Or [(.cmp (.sub (.cst (.ref 1)) (.var 0)) [.Gt] [(.cst (.int 0))]), (.cmp (.var 0) [.Eq] [(.cst (.int 1))])]))]⟩
/-- 9 -/
noncomputable def f_add_masks : FD := ⟨1, 5, [
  (.assign (.var 1) (.bin .Sub (.bin .LShift (.cst (.int 1)) (.attr (.var 0) 0)) (.cst (.int 1)))),
  (.assign (.var 2) (.cst (.int 0))),
  (.for 3 (.bi .range [(.attr (.var 0) 1)]) [(.expr (.append (.attr (.var 0) 7) (.bin .LShift (.var 1) (.bin .Mult (.var 3) (.attr (.var 0) 0))))), (.augV 2 .BitOr (.bin .LShift (.cst (.int 1)) (.bin .Mult (.var 3) (.attr (.var 0) 0))))]),
  (.for 4 (.bi .range [(.attr (.var 0) 0)]) [(.expr (.append (.attr (.var 0) 6) (.bin .LShift (.var 2) (.var 4))))])]⟩
/-- 10 -/
noncomputable def f_inner_squares : FD := ⟨2, 3, [
  (.assign (.var 2) (.cst (.int 0))),
  (.iff (.cmp (.sub (.cst (.ref 0)) (.var 1)) [.Gt] [(.cst (.int 0))]) [(.augV 2 .BitOr (.sub (.attr (.var 0) 6) (.bin .Sub (.attr (.var 0) 0) (.cst (.int 1)))))] []),
  (.iff (.cmp (.sub (.cst (.ref 0)) (.var 1)) [.Lt] [(.cst (.int 0))]) [(.augV 2 .BitOr (.sub (.attr (.var 0) 6) (.cst (.int 0))))] []),
  (.iff (.cmp (.sub (.cst (.ref 1)) (.var 1)) [.Gt] [(.cst (.int 0))]) [(.augV 2 .BitOr (.sub (.attr (.var 0) 7) (.bin .Sub (.attr (.var 0) 1) (.cst (.int 1)))))] []),
  (.iff (.cmp (.sub (.cst (.ref 1)) (.var 1)) [.Lt] [(.cst (.int 0))]) [(.augV 2 .BitOr (.sub (.attr (.var 0) 7) (.cst (.int 0))))] []),
  (.ret (.bin .BitAnd (.attr (.var 0) 3) (.un .Invert (.var 2))))]⟩
/-- 11 -/
noncomputable def f_add_rays : FD := ⟨1, 8, [
  (.assign (.attr (.var 0) 9) (.bin .Mult (.listE [(.cst (.int 0))]) (.attr (.var 0) 2))),
  (.for 1 (.bi .range [(.cst (.int 8))]) [(.assign (.var 2) (.call 10 [(.var 0), (.var 1)])), (.assign (.var 3) (.bin .Add (.bin .Mult (.sub (.cst (.ref 1)) (.var 1)) (.attr (.var 0) 0)) (.sub (.cst (.ref 0)) (.var 1)))), (.assign (.var 4) (.bin .Mult (.listE [(.cst (.int 0))]) (.attr (.var 0) 2))), (.assign (.var 5) (.bi .range [(.attr (.var 0) 2)])), (.iff (.call 8 [(.var 1)]) [(.assign (.var 5) (.bi .range [(.bin .Sub (.attr (.var 0) 2) (.cst (.int 1))), (.un .USub (.cst (.int 1))), (.un .USub (.cst (.int 1)))]))] []), (.for 6 (.var 5) [(.iff (.bin .BitAnd (.bin .RShift (.var 2) (.var 6)) (.cst (.int 1))) [(.assign (.var 7) (.bin .Add (.var 6) (.var 3))), (.assign (.sub (.var 4) (.var 6)) (.bin .BitOr (.sub (.var 4) (.var 7)) (.bin .LShift (.cst (.int 1)) (.var 7)))), (.augS (.attr (.var 0) 9) (.var 6) .BitOr (.bin .LShift (.cst (.int 1)) (.var 7)))] [])]), (.expr (.append (.attr (.var 0) 8) (.var 4)))])]⟩
/-- 12 -/
noncomputable def f_add_pawns : FD := ⟨1, 2, [
  (.for 1 (.bi .range [(.attr (.var 0) 2)]) [(.expr (.append (.sub (.attr (.var 0) 11) (.cst (.int 0))) (.bin .BitAnd (.sub (.attr (.var 0) 9) (.var 1)) (.bin .BitOr (.sub (.sub (.attr (.var 0) 8) (.cst (.int 4))) (.var 1)) (.sub (.sub (.attr (.var 0) 8) (.cst (.int 7))) (.var 1)))))), (.expr (.append (.sub (.attr (.var 0) 11) (.cst (.int 1))) (.bin .BitAnd (.sub (.attr (.var 0) 9) (.var 1)) (.bin .BitOr (.sub (.sub (.attr (.var 0) 8) (.cst (.int 5))) (.var 1)) (.sub (.sub (.attr (.var 0) 8) (.cst (.int 6))) (.var 1))))))])]⟩
/-- 13 -/
noncomputable def f_add_knights : FD := ⟨1, 11, [
  (.assign (.var 1) (.attr (.var 0) 0)),
  (.assign (.var 2) (.bin .BitAnd (.attr (.var 0) 3) (.un .Invert (.sub (.attr (.var 0) 6) (.cst (.int 0)))))),
  (.assign (.var 3) (.bin .BitAnd (.attr (.var 0) 3) (.un .Invert (.sub (.attr (.var 0) 6) (.bin .Sub (.var 1) (.cst (.int 1))))))),
  (.assign (.var 4) (.bin .BitAnd (.var 2) (.un .Invert (.sub (.attr (.var 0) 6) (.cst (.int 1)))))),
  (.assign (.var 5) (.bin .BitAnd (.var 3) (.un .Invert (.sub (.attr (.var 0) 6) (.bin .Sub (.var 1) (.cst (.int 2))))))),
  (.for 6 (.bi .range [(.attr (.var 0) 2)]) [(.assign (.var 7) (.bin .LShift (.cst (.int 1)) (.var 6))), (.assign (.var 8) (.bin .BitOr (.bin .BitAnd (.bin .LShift (.var 7) (.cst (.int 1))) (.var 2)) (.bin .BitAnd (.bin .RShift (.var 7) (.cst (.int 1))) (.var 3)))), (.assign (.var 9) (.bin .BitOr (.bin .BitAnd (.bin .LShift (.var 7) (.cst (.int 2))) (.var 4)) (.bin .BitAnd (.bin .RShift (.var 7) (.cst (.int 2))) (.var 5)))), (.assign (.var 10) (.bin .BitOr (.bin .BitOr (.bin .BitOr (.bin .LShift (.var 8) (.bin .Mult (.cst (.int 2)) (.var 1))) (.bin .RShift (.var 8) (.bin .Mult (.cst (.int 2)) (.var 1)))) (.bin .LShift (.var 9) (.var 1))) (.bin .RShift (.var 9) (.var 1)))), (.expr (.append (.attr (.var 0) 10) (.bin .BitAnd (.var 10) (.attr (.var 0) 3))))])]⟩
/-- 14 -/
noncomputable def f_add_castles : FD := ⟨1, 7, [
  (.assign (.attr (.var 0) 13) (.bin .Mult (.listE [(.cst (.int 0))]) (.attr (.var 0) 2))),
  (.assign (.var 1) (.bin .FloorDiv (.attr (.var 0) 0) (.cst (.int 2)))),
  (.for 2 (.bi .range [(.cst (.int 4))]) [(.assign (.var 3) (.bin .Mult (.bin .Mult (.bin .RShift (.var 2) (.cst (.int 1))) (.bin .Sub (.attr (.var 0) 1) (.cst (.int 1)))) (.attr (.var 0) 0))), (.assign (.var 4) (.bin .Sub (.attr (.var 0) 0) (.cst (.int 1)))), (.assign (.var 5) (.cst (.int 1))), (.iff (.bin .BitAnd (.var 2) (.cst (.int 1))) [(.assign (.var 4) (.cst (.int 0))), (.assign (.var 5) (.un .USub (.cst (.int 1))))] []), (.assign (.var 6) (.bin .Add (.var 1) (.bin .Mult (.cst (.int 2)) (.var 5)))), (.iff (.boolE .And [(.attr (.var 0) 5), (.cmp (.bin .Mult (.bin .Sub (.var 4) (.var 6)) (.var 5)) [.Gt] [(.cst (.int 0))])]) [(.expr (.append (.attr (.var 0) 12) (.tupE [(.bin .Add (.var 3) (.var 1)), (.bin .Add (.var 3) (.var 6)), (.bin .Add (.var 3) (.var 4)), (.bin .Sub (.bin .Add (.var 3) (.var 6)) (.var 5))]))), (.augS (.attr (.var 0) 13) (.bin .Add (.var 3) (.var 1)) .BitOr (.bin .LShift (.cst (.int 1)) (.var 2))), (.augS (.attr (.var 0) 13) (.bin .Add (.var 3) (.var 4)) .BitOr (.bin .LShift (.cst (.int 1)) (.var 2)))] [(.expr (.append (.attr (.var 0) 12) (.cst .none)))])])]⟩
/-- 15 -/
noncomputable def f_make_geometry : FD := ⟨4, 5, [
  (.iff (.boolE .Or [(.cmp (.var 0) [.Lt] [(.cst (.int 2))]), (.cmp (.var 0) [.Gt] [(.cst (.int 8))]), (.cmp (.var 1) [.Lt] [(.cst (.int 3))]), (.cmp (.var 1) [.Gt] [(.cst (.int 8))])]) [.bad] []),
  (.assign (.var 4) (.new 0 [(.var 0), (.var 1), (.var 2), (.var 3)])),
  (.expr (.call 9 [(.var 4)])),
  (.expr (.call 11 [(.var 4)])),
  (.expr (.call 12 [(.var 4)])),
  (.expr (.call 13 [(.var 4)])),
  (.expr (.call 14 [(.var 4)])),
  (.ret (.var 4))]⟩
/-- 16 -/
noncomputable def f_ray_attacks : FD := ⟨4, 7, [
  (.assign (.var 4) (.sub (.sub (.attr (.var 0) 8) (.var 1)) (.var 2))),
  (.assign (.var 5) (.bin .BitAnd (.var 4) (.var 3))),
  (.iff (.cmp (.var 5) [.Eq] [(.cst (.int 0))]) [(.ret (.var 4))] []),
  (.iff (.call 8 [(.var 1)]) [(.ret (.bin .BitAnd (.var 4) (.bin .BitXor (.var 5) (.bin .Sub (.var 5) (.cst (.int 1))))))] []),
  (.assign (.var 6) (.bin .RShift (.var 5) (.cst (.int 1)))),
  (.augV 6 .BitOr (.bin .RShift (.var 6) (.cst (.int 1)))),
  (.augV 6 .BitOr (.bin .RShift (.var 6) (.cst (.int 2)))),
  (.augV 6 .BitOr (.bin .RShift (.var 6) (.cst (.int 4)))),
  (.augV 6 .BitOr (.bin .RShift (.var 6) (.cst (.int 8)))),
  (.augV 6 .BitOr (.bin .RShift (.var 6) (.cst (.int 16)))),
  (.augV 6 .BitOr (.bin .RShift (.var 6) (.cst (.int 32)))),
  (.ret (.bin .BitAnd (.var 4) (.un .Invert (.var 6))))]⟩
/-- 17 -/
noncomputable def f_rook_attacks : FD := ⟨3, 5, [
  (.assign (.var 3) (.cst (.int 0))),
  (.for 4 (.bi .range [(.cst (.int 4))]) [(.augV 3 .BitOr (.call 16 [(.var 0), (.var 4), (.var 1), (.var 2)]))]),
  (.ret (.var 3))]⟩
/-- 18 -/
noncomputable def f_bishop_attacks : FD := ⟨3, 5, [
  (.assign (.var 3) (.cst (.int 0))),
  (.for 4 (.bi .range [(.cst (.int 4)), (.cst (.int 8))]) [(.augV 3 .BitOr (.call 16 [(.var 0), (.var 4), (.var 1), (.var 2)]))]),
  (.ret (.var 3))]⟩
/-- 19 -/
noncomputable def f_queen_attacks : FD := ⟨3, 3, [
  (.ret (.bin .BitOr (.call 17 [(.var 0), (.var 1), (.var 2)]) (.call 18 [(.var 0), (.var 1), (.var 2)])))]⟩
/-- 20 -/
noncomputable def f_slider_attacks : FD := ⟨4, 4, [
  (.iff (.cmp (.var 1) [.Eq] [(.cst (.int 3))]) [(.ret (.call 18 [(.var 0), (.var 2), (.var 3)]))] []),
  (.iff (.cmp (.var 1) [.Eq] [(.cst (.int 4))]) [(.ret (.call 17 [(.var 0), (.var 2), (.var 3)]))] []),
  (.iff (.cmp (.var 1) [.Eq] [(.cst (.int 5))]) [(.ret (.call 19 [(.var 0), (.var 2), (.var 3)]))] []),
  (.ret (.cst (.int 0)))]⟩
/-- 21 -/
noncomputable def f_piece_attacks : FD := ⟨5, 5, [
  (.iff (.cmp (.var 2) [.Eq] [(.cst (.int 1))]) [(.ret (.sub (.sub (.attr (.var 0) 11) (.var 1)) (.var 3)))] []),
  (.iff (.cmp (.var 2) [.Eq] [(.cst (.int 2))]) [(.ret (.sub (.attr (.var 0) 10) (.var 3)))] []),
  (.iff (.cmp (.var 2) [.Eq] [(.cst (.int 6))]) [(.ret (.sub (.attr (.var 0) 9) (.var 3)))] []),
  (.ret (.call 20 [(.var 0), (.var 2), (.var 3), (.var 4)]))]⟩
/-- 22 -/
noncomputable def f_put_piece : FD := ⟨3, 4, [
  (.assign (.var 3) (.bin .LShift (.cst (.int 1)) (.var 2))),
  (.assign (.sub (.attr (.var 0) 16) (.var 2)) (.var 1)),
  (.augS (.attr (.var 0) 17) (.call 1 [(.var 1)]) .BitOr (.var 3)),
  (.augS (.attr (.var 0) 18) (.call 0 [(.var 1)]) .BitOr (.var 3)),
  (.augA (.var 0) 23 .BitXor (.sub (.sub (.attr (.attr (.var 0) 15) 25) (.var 1)) (.var 2)))]⟩
/-- 23 -/
noncomputable def f_king_square : FD := ⟨2, 2, [
  (.ret (.call 4 [(.bin .BitAnd (.sub (.attr (.var 0) 18) (.var 1)) (.sub (.attr (.var 0) 17) (.cst (.int 6))))]))]⟩
/-- 24 -/
noncomputable def f_straight_sliders : FD := ⟨1, 1, [
  (.ret (.bin .BitOr (.sub (.attr (.var 0) 17) (.cst (.int 4))) (.sub (.attr (.var 0) 17) (.cst (.int 5)))))]⟩
/-- 25 -/
noncomputable def f_slanting_sliders : FD := ⟨1, 1, [
  (.ret (.bin .BitOr (.sub (.attr (.var 0) 17) (.cst (.int 3))) (.sub (.attr (.var 0) 17) (.cst (.int 5)))))]⟩
/-- 26 -/
noncomputable def f_pawn_attackers : FD := ⟨3, 3, [
  (.ret (.bin .BitAnd (.bin .BitAnd (.sub (.sub (.attr (.attr (.var 0) 14) 11) (.bin .Sub (.cst (.int 1)) (.var 2))) (.var 1)) (.sub (.attr (.var 0) 17) (.cst (.int 1)))) (.sub (.attr (.var 0) 18) (.var 2))))]⟩
/-- 27 -/
noncomputable def f_step_attackers : FD := ⟨3, 5, [
  (.assign (.var 3) (.attr (.var 0) 14)),
  (.assign (.var 4) (.bin .BitAnd (.sub (.attr (.var 3) 10) (.var 1)) (.sub (.attr (.var 0) 17) (.cst (.int 2))))),
  (.augV 4 .BitOr (.bin .BitAnd (.sub (.attr (.var 3) 9) (.var 1)) (.sub (.attr (.var 0) 17) (.cst (.int 6))))),
  (.ret (.bin .BitOr (.call 26 [(.var 0), (.var 1), (.var 2)]) (.bin .BitAnd (.var 4) (.sub (.attr (.var 0) 18) (.var 2)))))]⟩
/-- 28 -/
noncomputable def f_line_attackers : FD := ⟨3, 6, [
  (.assign (.var 3) (.cst (.int 0))),
  (.assign (.var 4) (.call 24 [(.var 0)])),
  (.iff (.var 4) [(.augV 3 .BitOr (.bin .BitAnd (.call 17 [(.attr (.var 0) 14), (.var 1), (.var 2)]) (.var 4)))] []),
  (.assign (.var 5) (.call 25 [(.var 0)])),
  (.iff (.var 5) [(.augV 3 .BitOr (.bin .BitAnd (.call 18 [(.attr (.var 0) 14), (.var 1), (.var 2)]) (.var 5)))] []),
  (.ret (.var 3))]⟩
/-- 29 -/
noncomputable def f_attackers_to : FD := ⟨3, 4, [
  (.assign (.var 3) (.bin .BitOr (.call 27 [(.var 0), (.var 1), (.cst (.int 0))]) (.call 27 [(.var 0), (.var 1), (.cst (.int 1))]))),
  (.ret (.bin .BitOr (.var 3) (.call 28 [(.var 0), (.var 1), (.var 2)])))]⟩
/-- 30 -/
noncomputable def f_is_attacked : FD := ⟨4, 8, [
  (.iff (.call 27 [(.var 0), (.var 1), (.var 2)]) [(.ret (.cst (.bool true)))] []),
  (.assign (.var 4) (.attr (.var 0) 14)),
  (.assign (.var 5) (.sub (.attr (.var 0) 18) (.var 2))),
  (.assign (.var 6) (.bin .BitAnd (.call 24 [(.var 0)]) (.var 5))),
  (.iff (.boolE .And [(.var 6), (.bin .BitAnd (.call 17 [(.var 4), (.var 1), (.var 3)]) (.var 6))]) [(.ret (.cst (.bool true)))] []),
  (.assign (.var 7) (.bin .BitAnd (.call 25 [(.var 0)]) (.var 5))),
  (.ret (.boolE .And [(.cmp (.var 7) [.NotEq] [(.cst (.int 0))]), (.cmp (.bin .BitAnd (.call 18 [(.var 4), (.var 1), (.var 3)]) (.var 7)) [.NotEq] [(.cst (.int 0))])]))]⟩
/-- 31 -/
noncomputable def f_checkers_of : FD := ⟨2, 3, [
  (.assign (.var 2) (.bin .BitOr (.sub (.attr (.var 0) 18) (.cst (.int 0))) (.sub (.attr (.var 0) 18) (.cst (.int 1))))),
  (.ret (.bin .BitAnd (.call 29 [(.var 0), (.call 23 [(.var 0), (.var 1)]), (.var 2)]) (.sub (.attr (.var 0) 18) (.bin .Sub (.cst (.int 1)) (.var 1)))))]⟩
/-- 32 -/
noncomputable def f_checkers : FD := ⟨1, 1, [
  (.ret (.call 31 [(.var 0), (.attr (.var 0) 19)]))]⟩
/-- 33 -/
noncomputable def f_in_check_of : FD := ⟨2, 3, [
  (.assign (.var 2) (.bin .BitOr (.sub (.attr (.var 0) 18) (.cst (.int 0))) (.sub (.attr (.var 0) 18) (.cst (.int 1))))),
  (.ret (.call 30 [(.var 0), (.call 23 [(.var 0), (.var 1)]), (.bin .Sub (.cst (.int 1)) (.var 1)), (.var 2)]))]⟩
/-- 34 -/
noncomputable def f_in_check : FD := ⟨1, 1, [
  (.ret (.call 33 [(.var 0), (.attr (.var 0) 19)]))]⟩
/-- 35 -/
noncomputable def f_check_quiet : FD := ⟨1, 1, [
  (.ret (.un .Not (.call 33 [(.var 0), (.bin .Sub (.cst (.int 1)) (.attr (.var 0) 19))])))]⟩
/-- 36 -/
noncomputable def f_snipers_of : FD := ⟨2, 4, [
  (.assign (.var 2) (.call 23 [(.var 0), (.var 1)])),
  (.assign (.var 3) (.bin .BitAnd (.call 17 [(.attr (.var 0) 14), (.var 2), (.cst (.int 0))]) (.call 24 [(.var 0)]))),
  (.augV 3 .BitOr (.bin .BitAnd (.call 18 [(.attr (.var 0) 14), (.var 2), (.cst (.int 0))]) (.call 25 [(.var 0)]))),
  (.ret (.bin .BitAnd (.var 3) (.sub (.attr (.var 0) 18) (.bin .Sub (.cst (.int 1)) (.var 1)))))]⟩
/-- 37 -/
noncomputable def f_blockers : FD := ⟨2, 9, [
  (.assign (.var 2) (.call 23 [(.var 0), (.var 1)])),
  (.assign (.var 3) (.call 36 [(.var 0), (.var 1)])),
  (.assign (.var 4) (.bin .BitXor (.bin .BitOr (.sub (.attr (.var 0) 18) (.cst (.int 0))) (.sub (.attr (.var 0) 18) (.cst (.int 1)))) (.var 3))),
  (.assign (.var 5) (.cst (.int 0))),
  (.assign (.var 6) (.cst (.int 0))),
  (.for 7 (.call 5 [(.var 3)]) [(.assign (.var 8) (.bin .BitAnd (.call 7 [(.attr (.var 0) 14), (.var 2), (.var 7)]) (.var 4))), (.iff (.boolE .And [(.var 8), (.un .Not (.call 2 [(.var 8)]))]) [(.augV 5 .BitOr (.var 8)), (.iff (.bin .BitAnd (.var 8) (.sub (.attr (.var 0) 18) (.var 1))) [(.augV 6 .BitOr (.bin .LShift (.cst (.int 1)) (.var 7)))] [])] [])]),
  (.ret (.tupE [(.var 5), (.var 6)]))]⟩
/-- 38 -/
noncomputable def f_pinned_pieces : FD := ⟨2, 2, [
  (.ret (.bin .BitAnd (.sub (.call 37 [(.var 0), (.var 1)]) (.cst (.int 0))) (.sub (.attr (.var 0) 18) (.var 1))))]⟩
/-- 39 -/
noncomputable def f_covered_by : FD := ⟨3, 6, [
  (.assign (.var 3) (.cst (.int 0))),
  (.for 4 (.tupE [(.cst (.int 1)), (.cst (.int 2)), (.cst (.int 3)), (.cst (.int 4)), (.cst (.int 5)), (.cst (.int 6))]) [(.for 5 (.call 5 [(.bin .BitAnd (.sub (.attr (.var 0) 17) (.var 4)) (.sub (.attr (.var 0) 18) (.var 1)))]) [(.augV 3 .BitOr (.call 21 [(.attr (.var 0) 14), (.var 1), (.var 4), (.var 5), (.var 2)]))])]),
  (.ret (.var 3))]⟩
/-- 40 -/
noncomputable def f_attacked_by : FD := ⟨2, 2, [
  (.ret (.call 39 [(.var 0), (.var 1), (.bin .BitOr (.sub (.attr (.var 0) 18) (.cst (.int 0))) (.sub (.attr (.var 0) 18) (.cst (.int 1))))]))]⟩
/-- 41 -/
noncomputable def f_forbidden_to_king : FD := ⟨2, 3, [
  (.assign (.var 2) (.bin .BitOr (.sub (.attr (.var 0) 18) (.cst (.int 0))) (.sub (.attr (.var 0) 18) (.cst (.int 1))))),
  (.ret (.call 39 [(.var 0), (.bin .Sub (.cst (.int 1)) (.var 1)), (.bin .BitXor (.var 2) (.bin .LShift (.cst (.int 1)) (.call 23 [(.var 0), (.var 1)])))]))]⟩
/-- 42 -/
noncomputable def f_law_rest : FD := ⟨0, 0, [
  (.ret (.listE [(.cst (.int 3)), (.cst (.int 1)), (.cst (.int 16)), (.cst (.int 8)), (.cst (.int 32)), (.cst (.int 0)), (.cst (.int 11)), (.cst (.int 8)), (.cst (.int 11)), (.cst (.int 0)), (.cst (.int 11)), (.cst (.int 9))]))]⟩
/-- 43 -/
noncomputable def f_law_hits : FD := ⟨5, 10, [
  (.assign (.var 5) (.bin .Sub (.bin .Mod (.var 3) (.var 0)) (.bin .Mod (.var 2) (.var 0)))),
  (.assign (.var 6) (.bin .Sub (.bin .FloorDiv (.var 3) (.var 0)) (.bin .FloorDiv (.var 2) (.var 0)))),
  (.assign (.var 7) (.bi .max [(.bi .abs [(.var 5)]), (.bi .abs [(.var 6)])])),
  (.assign (.var 8) (.bin .Mod (.var 1) (.cst (.int 8)))),
  (.iff (.cmp (.var 8) [.Eq] [(.cst (.int 1))]) [(.ret (.boolE .And [(.cmp (.bi .abs [(.var 5)]) [.Eq] [(.cst (.int 1))]), (.cmp (.var 6) [.Eq] [(.ife (.cmp (.var 1) [.Lt] [(.cst (.int 8))]) (.cst (.int 1)) (.un .USub (.cst (.int 1))))])]))] []),
  (.iff (.cmp (.var 8) [.Eq] [(.cst (.int 2))]) [(.ret (.cmp (.bi .abs [(.bin .Mult (.var 5) (.var 6))]) [.Eq] [(.cst (.int 2))]))] []),
  (.iff (.cmp (.var 8) [.Eq] [(.cst (.int 6))]) [(.ret (.cmp (.var 7) [.Eq] [(.cst (.int 1))]))] []),
  (.iff (.boolE .Or [(.cmp (.var 7) [.Eq] [(.cst (.int 0))]), (.cmp (.bi .abs [(.var 5)]) [.NotIn] [(.tupE [(.cst (.int 0)), (.var 7)])]), (.cmp (.bi .abs [(.var 6)]) [.NotIn] [(.tupE [(.cst (.int 0)), (.var 7)])])]) [(.ret (.cst (.bool false)))] []),
  (.iff (.boolE .Or [(.boolE .And [(.cmp (.var 8) [.Eq] [(.cst (.int 3))]), (.cmp (.bin .Mult (.var 5) (.var 6)) [.Eq] [(.cst (.int 0))])]), (.boolE .And [(.cmp (.var 8) [.Eq] [(.cst (.int 4))]), (.cmp (.bin .Mult (.var 5) (.var 6)) [.NotEq] [(.cst (.int 0))])])]) [(.ret (.cst (.bool false)))] []),
  (.for 9 (.bi .range [(.cst (.int 1)), (.var 7)]) [(.iff (.sub (.var 4) (.bin .Add (.var 2) (.bin .Mult (.var 9) (.bin .Add (.bin .FloorDiv (.var 5) (.var 7)) (.bin .Mult (.bin .FloorDiv (.var 6) (.var 7)) (.var 0)))))) [(.ret (.cst (.bool false)))] [])]),
  (.ret (.cst (.bool true)))]⟩
/-- 44 -/
noncomputable def f_law_hitters : FD := ⟨5, 5, [
  (.ret (.comp (.var 5) (.bi .range [(.bi .len [(.var 1)])]) [(.boolE .And [(.sub (.var 0) (.var 5)), (.cmp (.bin .FloorDiv (.sub (.var 0) (.var 5)) (.cst (.int 8))) [.Eq] [(.var 4)]), (.call 43 [(.var 1), (.sub (.var 0) (.var 5)), (.var 5), (.var 2), (.var 3)])])] [1, 0, 2, 3, 4]))]⟩
/-- 45 -/
noncomputable def f_law_bits : FD := ⟨1, 3, [
  (.assign (.var 1) (.cst (.int 0))),
  (.for 2 (.var 0) [(.augV 1 .Add (.bin .LShift (.cst (.int 1)) (.var 2)))]),
  (.ret (.var 1))]⟩
/-- 46 -/
noncomputable def f_law_within : FD := ⟨4, 10, [
  (.assign (.vars [4, 5, 6, 7]) (.tupE [(.bin .Mod (.var 1) (.var 0)), (.bin .FloorDiv (.var 1) (.var 0)), (.bin .Mod (.var 2) (.var 0)), (.bin .FloorDiv (.var 2) (.var 0))])),
  (.assign (.swap 8 9) (.tupE [(.bin .Mod (.var 3) (.var 0)), (.bin .FloorDiv (.var 3) (.var 0))])),
  (.iff (.boolE .Or [(.cmp (.var 3) [.Eq] [(.var 1)]), (.cmp (.var 3) [.Eq] [(.var 2)]), (.cmp (.bin .Mult (.bin .Sub (.var 8) (.var 4)) (.bin .Sub (.var 7) (.var 5))) [.NotEq] [(.bin .Mult (.bin .Sub (.var 9) (.var 5)) (.bin .Sub (.var 6) (.var 4)))])]) [(.ret (.cst (.bool false)))] []),
  (.ret (.boolE .And [(.cmp (.bi .min [(.var 4), (.var 6)]) [.LtE, .LtE] [(.var 8), (.bi .max [(.var 4), (.var 6)])]), (.cmp (.bi .min [(.var 5), (.var 7)]) [.LtE, .LtE] [(.var 9), (.bi .max [(.var 5), (.var 7)])])]))]⟩
/-- 47 -/
noncomputable def f_law_held : FD := ⟨4, 10, [
  (.assign (.var 4) (.bin .Mult (.listE [(.cst (.int 0))]) (.bi .len [(.var 1)]))),
  (.assign (.var 6) (.comp (.var 1) (.call 44 [(.var 0), (.var 1), (.var 2), (.var 4), (.bin .Sub (.cst (.int 1)) (.var 3))]) [(.cmp (.bin .Mod (.sub (.var 0) (.var 1)) (.cst (.int 8))) [.In] [(.tupE [(.cst (.int 3)), (.cst (.int 4)), (.cst (.int 5))])])] [1])),
  (.assign (.var 7) (.listE [])),
  (.assign (.var 8) (.listE [])),
  (.for 5 (.var 6) [(.assign (.var 9) (.comp (.var 5) (.bi .range [(.bi .len [(.var 1)])]) [(.boolE .And [(.sub (.var 0) (.var 5)), (.cmp (.var 5) [.NotIn] [(.var 3)]), (.call 46 [(.var 1), (.var 2), (.var 4), (.var 5)])])] [1, 0, 2, 6, 5])), (.iff (.cmp (.bi .len [(.var 9)]) [.Eq] [(.cst (.int 1))]) [(.iff (.cmp (.sub (.var 9) (.cst (.int 0))) [.NotIn] [(.var 7)]) [(.expr (.append (.var 7) (.sub (.var 9) (.cst (.int 0)))))] []), (.iff (.cmp (.bin .FloorDiv (.sub (.var 1) (.sub (.var 9) (.cst (.int 0)))) (.cst (.int 8))) [.Eq] [(.var 3)]) [(.expr (.append (.var 8) (.var 5)))] [])] [])]),
  (.ret (.tupE [(.var 7), (.var 8)]))]⟩
/-- 48 -/
noncomputable def f_law : FD := ⟨1, 24, [
  (.assign (.var 1) (.sliceTo (.var 0) (.cst (.int 20)))),
  (.assign (.var 1) (.bin .Add (.var 1) (.sliceFrom (.call 42 []) (.bi .len [(.var 1)])))),
  (.assign (.vars [2, 3]) (.sub (.cst (.ref 2)) (.bin .Mod (.sub (.var 1) (.cst (.int 0))) (.cst (.int 4))))),
  (.assign (.var 4) (.bin .Mult (.var 2) (.var 3))),
  (.assign (.var 5) (.bin .Mult (.listE [(.cst (.int 0))]) (.var 4))),
  (.assign (.var 6) (.listE [(.bin .Mod (.sub (.var 1) (.cst (.int 1))) (.var 4)), (.bin .Mod (.bin .Add (.bin .Add (.bin .Mod (.sub (.var 1) (.cst (.int 1))) (.var 4)) (.cst (.int 1))) (.bin .Mod (.sub (.var 1) (.cst (.int 2))) (.bin .Sub (.var 4) (.cst (.int 1))))) (.var 4))])),
  (.assign (.sub (.var 5) (.sub (.var 6) (.cst (.int 0)))) (.cst (.int 6))),
  (.assign (.sub (.var 5) (.sub (.var 6) (.cst (.int 1)))) (.cst (.int 14))),
  (.assign (.var 7) (.sub (.var 6) (.cst (.int 0)))),
  (.for 8 (.bi .range [(.cst (.int 6)), (.bin .Sub (.bi .len [(.var 1)]) (.cst (.int 1))), (.cst (.int 2))]) [(.assign (.var 7) (.bin .Mod (.bin .Add (.bin .Add (.var 7) (.cst (.int 1))) (.sub (.var 1) (.var 8))) (.var 4))), (.assign (.var 9) (.bin .Add (.cst (.int 1)) (.bin .Mod (.sub (.var 1) (.bin .Add (.var 8) (.cst (.int 1)))) (.cst (.int 5))))), (.iff (.boolE .And [(.cmp (.sub (.var 5) (.var 7)) [.Eq] [(.cst (.int 0))]), (.boolE .Or [(.cmp (.var 9) [.Gt] [(.cst (.int 1))]), (.cmp (.cst (.int 0)) [.Lt, .Lt] [(.bin .FloorDiv (.var 7) (.var 2)), (.bin .Sub (.var 3) (.cst (.int 1)))])])]) [(.assign (.sub (.var 5) (.var 7)) (.bin .Add (.var 9) (.bin .Mult (.cst (.int 8)) (.bin .Mod (.bin .FloorDiv (.sub (.var 1) (.bin .Add (.var 8) (.cst (.int 1)))) (.cst (.int 5))) (.cst (.int 2))))))] [])]),
  (.assign (.var 10) (.new 1 [(.call 15 [(.var 2), (.var 3), (.cst (.bool false)), (.cst (.bool false))]), (.new 2 [(.bin .Mult (.listE [(.bin .Mult (.listE [(.cst (.int 0))]) (.var 4))]) (.cst (.int 15))), (.bin .Mult (.listE [(.cst (.int 0))]) (.var 2)), (.bin .Mult (.listE [(.cst (.int 0))]) (.cst (.int 16))), (.cst (.int 0))])])),
  (.for 11 (.bi .range [(.var 4)]) [(.iff (.sub (.var 5) (.var 11)) [(.expr (.call 22 [(.var 10), (.sub (.var 5) (.var 11)), (.var 11)]))] [])]),
  (.assign (.attr (.var 10) 19) (.bin .Mod (.sub (.var 1) (.cst (.int 5))) (.cst (.int 2)))),
  (.assign (.var 12) (.bin .Mod (.sub (.var 1) (.cst (.int 3))) (.var 4))),
  (.assign (.var 13) (.bin .Mod (.sub (.var 1) (.cst (.int 4))) (.bin .LShift (.cst (.int 1)) (.var 4)))),
  (.assign (.var 14) (.comp (.bin .BitXor (.ife (.sub (.var 0) (.var 2)) (.cst (.int 1)) (.cst (.int 0))) (.bin .BitAnd (.bin .RShift (.var 1) (.var 2)) (.cst (.int 1)))) (.bi .range [(.var 4)]) [] [5, 13])),
  (.assign (.var 15) (.call 45 [(.comp (.var 1) (.bi .range [(.var 4)]) [(.sub (.var 0) (.var 1))] [14])])),
  (.assign (.var 17) (.comp (.call 44 [(.var 1), (.var 0), (.var 3), (.var 2), (.var 4)]) (.tupE [(.cst (.int 0)), (.cst (.int 1))]) [] [5, 2, 14, 12])),
  (.iff (.cmp (.call 29 [(.var 10), (.var 12), (.var 15)]) [.NotEq] [(.call 45 [(.bin .Add (.sub (.var 17) (.cst (.int 0))) (.sub (.var 17) (.cst (.int 1))))])]) [(.ret (.cst (.bool false)))] []),
  (.for 16 (.tupE [(.cst (.int 0)), (.cst (.int 1))]) [(.iff (.cmp (.call 30 [(.var 10), (.var 12), (.var 16), (.var 15)]) [.NotEq] [(.cmp (.sub (.var 17) (.var 16)) [.NotEq] [(.listE [])])]) [(.ret (.cst (.bool false)))] []), (.assign (.vars [18, 19]) (.call 47 [(.var 2), (.var 5), (.sub (.var 6) (.var 16)), (.var 16)])), (.iff (.cmp (.call 37 [(.var 10), (.var 16)]) [.NotEq] [(.tupE [(.call 45 [(.var 18)]), (.call 45 [(.var 19)])])]) [(.ret (.cst (.bool false)))] []), (.iff (.cmp (.call 38 [(.var 10), (.var 16)]) [.NotEq] [(.call 45 [(.comp (.var 2) (.var 18) [(.cmp (.bin .FloorDiv (.sub (.var 0) (.var 2)) (.cst (.int 8))) [.Eq] [(.var 1)])] [5, 16])])]) [(.ret (.cst (.bool false)))] []), (.assign (.var 20) (.call 44 [(.var 2), (.var 5), (.sub (.var 6) (.var 16)), (.var 5), (.bin .Sub (.cst (.int 1)) (.var 16))])), (.iff (.cmp (.call 33 [(.var 10), (.var 16)]) [.NotEq] [(.cmp (.var 20) [.NotEq] [(.listE [])])]) [(.ret (.cst (.bool false)))] []), (.iff (.boolE .And [(.cmp (.var 16) [.NotEq] [(.attr (.var 10) 19)]), (.cmp (.call 35 [(.var 10)]) [.NotEq] [(.cmp (.var 20) [.Eq] [(.listE [])])])]) [(.ret (.cst (.bool false)))] []), (.iff (.boolE .And [(.cmp (.var 16) [.Eq] [(.attr (.var 10) 19)]), (.boolE .Or [(.cmp (.call 32 [(.var 10)]) [.NotEq] [(.call 45 [(.var 20)])]), (.cmp (.call 34 [(.var 10)]) [.NotEq] [(.cmp (.var 20) [.NotEq] [(.listE [])])])])]) [(.ret (.cst (.bool false)))] [])]),
  (.assign (.var 16) (.attr (.var 10) 19)),
  (.assign (.var 21) (.comp (.ife (.cmp (.var 3) [.Eq] [(.sub (.var 1) (.var 2))]) (.cst (.int 0)) (.sub (.var 0) (.var 3))) (.bi .range [(.var 4)]) [] [5, 6, 16])),
  (.assign (.var 22) (.call 45 [(.comp (.var 3) (.bi .range [(.var 4)]) [(.call 44 [(.var 1), (.var 0), (.var 3), (.var 0), (.var 2)])] [5, 2, 16])])),
  (.assign (.var 23) (.call 45 [(.comp (.var 4) (.bi .range [(.var 4)]) [(.call 44 [(.var 1), (.var 0), (.var 4), (.var 2), (.bin .Sub (.cst (.int 1)) (.var 3))])] [5, 2, 21, 16])])),
  (.ret (.boolE .And [(.cmp (.call 40 [(.var 10), (.var 16)]) [.Eq] [(.var 22)]), (.cmp (.call 41 [(.var 10), (.var 16)]) [.Eq] [(.var 23)])]))]⟩
/-- 49 -/
noncomputable def i_Geometry : FD := ⟨5, 5, [
  (.assign (.attr (.var 0) 0) (.var 1)),
  (.assign (.attr (.var 0) 1) (.var 2)),
  (.assign (.attr (.var 0) 2) (.bin .Mult (.var 1) (.var 2))),
  (.assign (.attr (.var 0) 3) (.bin .Sub (.bin .LShift (.cst (.int 1)) (.bin .Mult (.var 1) (.var 2))) (.cst (.int 1)))),
  (.assign (.attr (.var 0) 4) (.boolE .And [(.var 3), (.cmp (.var 2) [.GtE] [(.cst (.int 5))])])),
  (.assign (.attr (.var 0) 5) (.var 4)),
  (.assign (.attr (.var 0) 6) (.listE [])),
  (.assign (.attr (.var 0) 7) (.listE [])),
  (.assign (.attr (.var 0) 8) (.listE [])),
  (.assign (.attr (.var 0) 9) (.listE [])),
  (.assign (.attr (.var 0) 10) (.listE [])),
  (.assign (.attr (.var 0) 11) (.listE [(.listE []), (.listE [])])),
  (.assign (.attr (.var 0) 12) (.listE [])),
  (.assign (.attr (.var 0) 13) (.listE []))]⟩
/-- 50 -/
noncomputable def i_Position : FD := ⟨3, 3, [
  (.assign (.attr (.var 0) 14) (.var 1)),
  (.assign (.attr (.var 0) 15) (.var 2)),
  (.assign (.attr (.var 0) 16) (.bin .Mult (.listE [(.cst (.int 0))]) (.attr (.var 1) 2))),
  (.assign (.attr (.var 0) 17) (.bin .Mult (.listE [(.cst (.int 0))]) (.cst (.int 7)))),
  (.assign (.attr (.var 0) 18) (.listE [(.cst (.int 0)), (.cst (.int 0))])),
  (.assign (.attr (.var 0) 19) (.cst (.int 0))),
  (.assign (.attr (.var 0) 20) (.cst (.int 0))),
  (.assign (.attr (.var 0) 21) (.un .USub (.cst (.int 1)))),
  (.assign (.attr (.var 0) 22) (.cst (.int 0))),
  (.assign (.attr (.var 0) 3) (.cst (.int 1))),
  (.assign (.attr (.var 0) 23) (.cst (.int 0))),
  (.assign (.attr (.var 0) 24) (.listE []))]⟩
/-- 51 -/
noncomputable def i_Zobrist : FD := ⟨5, 5, [
  (.assign (.attr (.var 0) 25) (.var 1)),
  (.assign (.attr (.var 0) 21) (.var 2)),
  (.assign (.attr (.var 0) 20) (.var 3)),
  (.assign (.attr (.var 0) 19) (.var 4))]⟩
noncomputable def progP : Pg := ⟨[f_side_of, f_kind_of, f_more_than_one, f_highest, f_lowest, f_squares_of, f_direction, f_between, f_is_growing, f_add_masks, f_inner_squares, f_add_rays, f_add_pawns, f_add_knights, f_add_castles, f_make_geometry, f_ray_attacks, f_rook_attacks, f_bishop_attacks, f_queen_attacks, f_slider_attacks, f_piece_attacks, f_put_piece, f_king_square, f_straight_sliders, f_slanting_sliders, f_pawn_attackers, f_step_attackers, f_line_attackers, f_attackers_to, f_is_attacked, f_checkers_of, f_checkers, f_in_check_of, f_in_check, f_check_quiet, f_snipers_of, f_blockers, f_pinned_pieces, f_covered_by, f_attacked_by, f_forbidden_to_king, f_law_rest, f_law_hits, f_law_hitters, f_law_bits, f_law_within, f_law_held, f_law, i_Geometry, i_Position, i_Zobrist], [49, 50, 51]⟩
end Mine
end
section
open PySem
namespace Mine
section
variable (P : Pg) (n : Nat) (l : Lc) (h : Hp)
theorem ev_cst (v) : ev P (n+1) (.cst v) l h = some (v, h) := rfl
theorem ev_var (i) : ev P (n+1) (.var i) l h = match l[i]? with | some (some v) => some (v, h) | _ => none := rfl
theorem ev_bin (op a b) : ev P (n+1) (.bin op a b) l h = (ev P n a l h).bind fun (x, h) => (ev P n b l h).bind fun (y, h) => binV op h x y := rfl
theorem ev_un (op a) : ev P (n+1) (.un op a) l h = (ev P n a l h).bind fun (x, h) => (unV h op x).bind fun v => some (v, h) := rfl
theorem ev_boolE (op es) : ev P (n+1) (.boolE op es) l h = boolL (fun e h => ev P n e l h) op es h := rfl
theorem ev_cmp (a ops rs) : ev P (n+1) (.cmp a ops rs) l h = (ev P n a l h).bind fun (x, h) => chain (fun e h => ev P n e l h) x ops rs h := rfl
theorem ev_ife (t a b) : ev P (n+1) (.ife t a b) l h = (testV (fun e h => ev P n e l h) t h).bind fun (c, h) => if c then ev P n a l h else ev P n b l h := rfl
theorem ev_call (f es) : ev P (n+1) (.call f es) l h = (evs (fun e h => ev P n e l h) es h).bind fun (vs, h) => callF P n f vs h := rfl
theorem ev_new (f es) : ev P (n+1) (.new f es) l h = (evs (fun e h => ev P n e l h) es h).bind fun (vs, h) => newF P n f vs h := rfl
theorem ev_bi (f es) : ev P (n+1) (.bi f es) l h = (evs (fun e h => ev P n e l h) es h).bind fun (vs, h) => biV h f vs := rfl
theorem ev_append (o x) : ev P (n+1) (.append o x) l h = (ev P n o l h).bind fun (ov, h) => if isL h ov then (ev P n x l h).bind fun (v, h) => (appV h ov v).bind fun h => some (.none, h) else none := rfl
theorem ev_attr (o a) : ev P (n+1) (.attr o a) l h = (ev P n o l h).bind fun (ov, h) => (getA h ov a).bind fun v => some (v, h) := rfl
theorem ev_sub (o i) : ev P (n+1) (.sub o i) l h = (ev P n o l h).bind fun (ov, h) => (ev P n i l h).bind fun (iv, h) => (getV h ov iv).bind fun v => some (v, h) := rfl
theorem ev_sliceTo (o u) : ev P (n+1) (.sliceTo o u) l h = (ev P n o l h).bind fun (ov, h) => (ev P n u l h).bind fun (uv, h) => takeV h ov uv := rfl
theorem ev_sliceFrom (o u) : ev P (n+1) (.sliceFrom o u) l h = (ev P n o l h).bind fun (ov, h) => (ev P n u l h).bind fun (uv, h) => dropV h ov uv := rfl
theorem ev_listE (es) : ev P (n+1) (.listE es) l h = (evs (fun e h => ev P n e l h) es h).bind fun (vs, h) => if vs.length ≤ 1000 then some (.ref h.length, h ++ [.list vs]) else none := rfl
theorem ev_tupE (es) : ev P (n+1) (.tupE es) l h = (evs (fun e h => ev P n e l h) es h).bind fun (vs, h) => if vs.length ≤ 1000 then some (.ref h.length, h ++ [.tup vs]) else none := rfl
theorem ev_comp (elt iter conds caps) : ev P (n+1) (.comp elt iter conds caps) l h = (ev P n iter l h).bind fun (it, h) => (srcOf h it).bind fun src =>
      (loopOn (fun (a : Hp) => a) (fun v a =>
        (condsV (fun e h => ev P n e (caps.map (fun i => (l[i]?).join) ++ [some v]) h) conds a).bind fun (b, a) =>
          if b then (ev P n elt (caps.map (fun i => (l[i]?).join) ++ [some v]) a).bind fun (y, a) => (appV a (.ref h.length) y).bind fun a => some (R.next, a)
          else some (R.next, a)) src (h ++ [.list []])).bind fun (_, a) => some (.ref h.length, a) := rfl

theorem ex_expr (e) : exec P (n+1) (.expr e) l h = (ev P n e l h).bind fun (v, h) => match v with | .ref _ => none | _ => some (.next, l, h) := rfl
theorem ex_ret (e) : exec P (n+1) (.ret e) l h = (ev P n e l h).bind fun (v, h) => some (.ret v, l, h) := rfl
theorem ex_assign (t e) : exec P (n+1) (.assign t e) l h = (ev P n e l h).bind fun (v, h) => (assignT (fun e h => ev P n e l h) t v l h).bind fun (l, h) => some (.next, l, h) := rfl
theorem ex_augV (i op e) : exec P (n+1) (.augV i op e) l h = (match l[i]? with
      | some (some x) => (ev P n e l h).bind fun (y, h) => (match x, y with
        | .int x, .int y => (binI op x y).bind fun z => some (.next, l.set i (some (.int z)), h)
        | _, _ => none)
      | _ => none) := rfl
theorem ex_augA (o a op e) : exec P (n+1) (.augA o a op e) l h = (ev P n o l h).bind fun (ov, h) => (getA h ov a).bind fun x => (ev P n e l h).bind fun (y, h) => (match x, y with
      | .int x, .int y => (binI op x y).bind fun z => (setA h ov a (.int z)).bind fun h => some (.next, l, h)
      | _, _ => none) := rfl
theorem ex_augS (o i op e) : exec P (n+1) (.augS o i op e) l h = (ev P n o l h).bind fun (ov, h) => (ev P n i l h).bind fun (iv, h) => (getV h ov iv).bind fun x => (ev P n e l h).bind fun (y, h) => (match x, y with
      | .int x, .int y => (binI op x y).bind fun z => (setV h ov iv (.int z)).bind fun h => some (.next, l, h)
      | _, _ => none) := rfl
theorem ex_iff (t b o) : exec P (n+1) (.iff t b o) l h = (testV (fun e h => ev P n e l h) t h).bind fun (c, h) => if c then execs P n b l h else execs P n o l h := rfl
theorem ex_whl (t b) : exec P (n+1) (.whl t b) l h = loopW (fun (a : Lc × Hp) => (testV (fun e h => ev P n e a.1 h) t a.2).bind fun (c, h) => some (c, (a.1, h)))
        (fun a => execs P n b a.1 a.2) 1000 (l, h) := rfl
theorem ex_for (i it b) : exec P (n+1) (.for i it b) l h = (ev P n it l h).bind fun (v, h) => (srcOf h v).bind fun src =>
      if i < l.length then loopOn (fun (a : Lc × Hp) => a.2) (fun v a => execs P n b (a.1.set i (some v)) a.2) src (l, h) else none := rfl
theorem exs_nil : execs P (n+1) [] l h = some (.next, l, h) := rfl
theorem exs_cons (st r) : execs P (n+1) (st :: r) l h = (exec P n st l h).bind fun (x, l, h) => match x with
      | .next => execs P n r l h
      | .ret v => some (.ret v, l, h) := rfl
end
section
variable {α β : Type}
/-- the result is there, and Q holds of it -/
noncomputable def wp (o : Option α) (Q : α → Prop) : Prop := match o with | some a => Q a | none => False
theorem wp_bind (o : Option α) (f : α → Option β) (Q : β → Prop) : wp (o.bind f) Q = wp o (fun a => wp (f a) Q) := by cases o <;> rfl
theorem wp_some (a : α) (Q : α → Prop) : wp (some a) Q = Q a := rfl
theorem wp_map (o : Option α) (f : α → β) (Q : β → Prop) : wp (o.map f) Q = wp o (fun a => Q (f a)) := by cases o <;> rfl
theorem wp_mono {o : Option α} {Q Q' : α → Prop} (h : wp o Q) (hq : ∀ a, Q a → Q' a) : wp o Q' := by cases o; exact h; exact hq _ h
theorem wp_bm {o : Option α} {f : α → Option β} {Q' : α → Prop} {Q : β → Prop} (h : wp o Q') (hq : ∀ a, Q' a → wp (f a) Q) : wp (o.bind f) Q := by cases o; exact h.elim; exact hq _ h
theorem wp_elim {o : Option α} {Q : α → Prop} (h : wp o Q) : ∃ a, o = some a ∧ Q a := by cases o; exact h.elim; exact ⟨_, rfl, h⟩
theorem wp_intro {o : Option α} {Q : α → Prop} {a} (h : o = some a) (hq : Q a) : wp o Q := by subst h; exact hq
theorem wp_ite (c : Prop) [Decidable c] (a b : Option α) (Q : α → Prop) : wp (if c then a else b) Q = if c then wp a Q else wp b Q := by split <;> rfl
end
theorem wp_callF {n f : Nat} {vs h} {d : FD} {Q : V × Hp → Prop} (hd : progP.fns[f]? = some d) (hl : vs.length = d.np)
    (hb : wp (execs progP n d.body (vs.map some ++ List.replicate (d.nl - d.np) none) h) (fun r => Q (match r.1 with | .next => .none | .ret v => v, r.2.2))) :
    wp (callF progP (n+1) f vs h) Q := by
  have e : callF progP (n+1) f vs h = (progP.fns[f]?).bind fun d =>
    if vs.length = d.np then
      (execs progP n d.body (vs.map some ++ List.replicate (d.nl - d.np) none) h).bind fun (x, _, h) =>
        match x with
        | .next => some (.none, h)
        | .ret v => some (v, h)
    else none := rfl
  rw [e, hd]
  show wp (if vs.length = d.np then _ else none) Q
  rw [if_pos hl, wp_bind]
  refine wp_mono hb ?_
  intro r hr
  obtain ⟨x, l, h⟩ := r
  cases x <;> exact hr
/-- a heap that the other opens -/
theorem get_app {h h' : Hp} {k : Nat} {o : O} (p : h <+: h') (e : h[k]? = some o) : h'[k]? = some o := by
  obtain ⟨g, rfl⟩ := p
  rw [List.getElem?_append_left]; exact e
  exact (List.getElem?_eq_some_iff.mp e).1
theorem getA_app {h h' : Hp} {o : V} {a : Nat} {v : V} (p : h <+: h') (e : getA h o a = some v) : getA h' o a = some v := by
  cases o with
  | ref k =>
    delta getA at e ⊢
    dsimp only at e ⊢
    cases hk : h[k]? with
    | none => rw [hk] at e; exact no e
    | some x =>
      rw [get_app p hk]
      rw [hk] at e
      cases x with
      | inst c d =>
        dsimp only at e ⊢
        cases hd : h[d]? with
        | none => rw [hd] at e; exact no e
        | some y => rw [get_app p hd]; rw [hd] at e; exact e
      | _ => exact no e
  | _ => exact no e
theorem getV_app {h h' : Hp} {o i : V} {v : V} (p : h <+: h') (e : getV h o i = some v) : getV h' o i = some v := by
  cases o with
  | ref k =>
    cases i with
    | int i =>
      refine ifK e fun c e => ?_
      refine (if_pos c).trans ?_
      cases hk : h[k]? with
      | none => rw [hk] at e; exact no e
      | some x => rw [get_app p hk]; rw [hk] at e; exact e
    | _ => exact no e
  | _ => exact no e
end Mine
end
section
open PySem
set_option maxRecDepth 100000
namespace Mine
noncomputable def retV : R → V | .next => .none | .ret v => v
theorem wp_callF' {n f : Nat} {vs h} {d : FD} {Q : V × Hp → Prop} {b : List S} {l : Lc} (hd : progP.fns[f]? = some d) (hl : vs.length = d.np) (hb : d.body = b)
    (hv : vs.map some ++ List.replicate (d.nl - d.np) none = l) :
    wp (callF progP (n+1) f vs h) Q = wp (execs progP n b l h) (fun r => Q (retV r.1, r.2.2)) := by
  have e : callF progP (n+1) f vs h = (progP.fns[f]?).bind fun d =>
    if vs.length = d.np then
      (execs progP n d.body (vs.map some ++ List.replicate (d.nl - d.np) none) h).bind fun (x, _, h) =>
        match x with
        | .next => some (.none, h)
        | .ret v => some (v, h)
    else none := rfl
  rw [e, hd]
  show wp (if vs.length = d.np then _ else none) Q = _
  rw [if_pos hl, wp_bind, hv, hb]
  congr 1
  funext r
  obtain ⟨x, l, h⟩ := r
  cases x <;> rfl
theorem fn0 : progP.fns[0]? = some f_side_of := rfl
theorem call0 (n : Nat) (a0 : V) (h : Hp) (Q : V × Hp → Prop) : wp (callF progP (n+1) 0 [a0] h) Q = wp (execs progP n f_side_of.body [some a0] h) (fun r => Q (retV r.1, r.2.2)) := wp_callF' fn0 rfl rfl rfl
theorem fn1 : progP.fns[1]? = some f_kind_of := rfl
theorem call1 (n : Nat) (a0 : V) (h : Hp) (Q : V × Hp → Prop) : wp (callF progP (n+1) 1 [a0] h) Q = wp (execs progP n f_kind_of.body [some a0] h) (fun r => Q (retV r.1, r.2.2)) := wp_callF' fn1 rfl rfl rfl
theorem fn2 : progP.fns[2]? = some f_more_than_one := rfl
theorem call2 (n : Nat) (a0 : V) (h : Hp) (Q : V × Hp → Prop) : wp (callF progP (n+1) 2 [a0] h) Q = wp (execs progP n f_more_than_one.body [some a0] h) (fun r => Q (retV r.1, r.2.2)) := wp_callF' fn2 rfl rfl rfl
theorem fn3 : progP.fns[3]? = some f_highest := rfl
theorem call3 (n : Nat) (a0 : V) (h : Hp) (Q : V × Hp → Prop) : wp (callF progP (n+1) 3 [a0] h) Q = wp (execs progP n f_highest.body [some a0, none, none] h) (fun r => Q (retV r.1, r.2.2)) := wp_callF' fn3 rfl rfl rfl
theorem fn4 : progP.fns[4]? = some f_lowest := rfl
theorem call4 (n : Nat) (a0 : V) (h : Hp) (Q : V × Hp → Prop) : wp (callF progP (n+1) 4 [a0] h) Q = wp (execs progP n f_lowest.body [some a0] h) (fun r => Q (retV r.1, r.2.2)) := wp_callF' fn4 rfl rfl rfl
theorem fn5 : progP.fns[5]? = some f_squares_of := rfl
theorem call5 (n : Nat) (a0 : V) (h : Hp) (Q : V × Hp → Prop) : wp (callF progP (n+1) 5 [a0] h) Q = wp (execs progP n f_squares_of.body [some a0, none, none] h) (fun r => Q (retV r.1, r.2.2)) := wp_callF' fn5 rfl rfl rfl
theorem fn6 : progP.fns[6]? = some f_direction := rfl
theorem call6 (n : Nat) (a0 a1 a2 : V) (h : Hp) (Q : V × Hp → Prop) : wp (callF progP (n+1) 6 [a0, a1, a2] h) Q = wp (execs progP n f_direction.body [some a0, some a1, some a2, none] h) (fun r => Q (retV r.1, r.2.2)) := wp_callF' fn6 rfl rfl rfl
theorem fn7 : progP.fns[7]? = some f_between := rfl
theorem call7 (n : Nat) (a0 a1 a2 : V) (h : Hp) (Q : V × Hp → Prop) : wp (callF progP (n+1) 7 [a0, a1, a2] h) Q = wp (execs progP n f_between.body [some a0, some a1, some a2, none] h) (fun r => Q (retV r.1, r.2.2)) := wp_callF' fn7 rfl rfl rfl
theorem fn8 : progP.fns[8]? = some f_is_growing := rfl
theorem call8 (n : Nat) (a0 : V) (h : Hp) (Q : V × Hp → Prop) : wp (callF progP (n+1) 8 [a0] h) Q = wp (execs progP n f_is_growing.body [some a0] h) (fun r => Q (retV r.1, r.2.2)) := wp_callF' fn8 rfl rfl rfl
theorem fn9 : progP.fns[9]? = some f_add_masks := rfl
theorem call9 (n : Nat) (a0 : V) (h : Hp) (Q : V × Hp → Prop) : wp (callF progP (n+1) 9 [a0] h) Q = wp (execs progP n f_add_masks.body [some a0, none, none, none, none] h) (fun r => Q (retV r.1, r.2.2)) := wp_callF' fn9 rfl rfl rfl
theorem fn10 : progP.fns[10]? = some f_inner_squares := rfl
theorem call10 (n : Nat) (a0 a1 : V) (h : Hp) (Q : V × Hp → Prop) : wp (callF progP (n+1) 10 [a0, a1] h) Q = wp (execs progP n f_inner_squares.body [some a0, some a1, none] h) (fun r => Q (retV r.1, r.2.2)) := wp_callF' fn10 rfl rfl rfl
theorem fn11 : progP.fns[11]? = some f_add_rays := rfl
theorem call11 (n : Nat) (a0 : V) (h : Hp) (Q : V × Hp → Prop) : wp (callF progP (n+1) 11 [a0] h) Q = wp (execs progP n f_add_rays.body [some a0, none, none, none, none, none, none, none] h) (fun r => Q (retV r.1, r.2.2)) := wp_callF' fn11 rfl rfl rfl
theorem fn12 : progP.fns[12]? = some f_add_pawns := rfl
theorem call12 (n : Nat) (a0 : V) (h : Hp) (Q : V × Hp → Prop) : wp (callF progP (n+1) 12 [a0] h) Q = wp (execs progP n f_add_pawns.body [some a0, none] h) (fun r => Q (retV r.1, r.2.2)) := wp_callF' fn12 rfl rfl rfl
theorem fn13 : progP.fns[13]? = some f_add_knights := rfl
theorem call13 (n : Nat) (a0 : V) (h : Hp) (Q : V × Hp → Prop) : wp (callF progP (n+1) 13 [a0] h) Q = wp (execs progP n f_add_knights.body [some a0, none, none, none, none, none, none, none, none, none, none] h) (fun r => Q (retV r.1, r.2.2)) := wp_callF' fn13 rfl rfl rfl
theorem fn14 : progP.fns[14]? = some f_add_castles := rfl
theorem call14 (n : Nat) (a0 : V) (h : Hp) (Q : V × Hp → Prop) : wp (callF progP (n+1) 14 [a0] h) Q = wp (execs progP n f_add_castles.body [some a0, none, none, none, none, none, none] h) (fun r => Q (retV r.1, r.2.2)) := wp_callF' fn14 rfl rfl rfl
theorem fn15 : progP.fns[15]? = some f_make_geometry := rfl
theorem call15 (n : Nat) (a0 a1 a2 a3 : V) (h : Hp) (Q : V × Hp → Prop) : wp (callF progP (n+1) 15 [a0, a1, a2, a3] h) Q = wp (execs progP n f_make_geometry.body [some a0, some a1, some a2, some a3, none] h) (fun r => Q (retV r.1, r.2.2)) := wp_callF' fn15 rfl rfl rfl
theorem fn16 : progP.fns[16]? = some f_ray_attacks := rfl
theorem call16 (n : Nat) (a0 a1 a2 a3 : V) (h : Hp) (Q : V × Hp → Prop) : wp (callF progP (n+1) 16 [a0, a1, a2, a3] h) Q = wp (execs progP n f_ray_attacks.body [some a0, some a1, some a2, some a3, none, none, none] h) (fun r => Q (retV r.1, r.2.2)) := wp_callF' fn16 rfl rfl rfl
theorem fn17 : progP.fns[17]? = some f_rook_attacks := rfl
theorem call17 (n : Nat) (a0 a1 a2 : V) (h : Hp) (Q : V × Hp → Prop) : wp (callF progP (n+1) 17 [a0, a1, a2] h) Q = wp (execs progP n f_rook_attacks.body [some a0, some a1, some a2, none, none] h) (fun r => Q (retV r.1, r.2.2)) := wp_callF' fn17 rfl rfl rfl
theorem fn18 : progP.fns[18]? = some f_bishop_attacks := rfl
theorem call18 (n : Nat) (a0 a1 a2 : V) (h : Hp) (Q : V × Hp → Prop) : wp (callF progP (n+1) 18 [a0, a1, a2] h) Q = wp (execs progP n f_bishop_attacks.body [some a0, some a1, some a2, none, none] h) (fun r => Q (retV r.1, r.2.2)) := wp_callF' fn18 rfl rfl rfl
theorem fn19 : progP.fns[19]? = some f_queen_attacks := rfl
theorem call19 (n : Nat) (a0 a1 a2 : V) (h : Hp) (Q : V × Hp → Prop) : wp (callF progP (n+1) 19 [a0, a1, a2] h) Q = wp (execs progP n f_queen_attacks.body [some a0, some a1, some a2] h) (fun r => Q (retV r.1, r.2.2)) := wp_callF' fn19 rfl rfl rfl
theorem fn20 : progP.fns[20]? = some f_slider_attacks := rfl
theorem call20 (n : Nat) (a0 a1 a2 a3 : V) (h : Hp) (Q : V × Hp → Prop) : wp (callF progP (n+1) 20 [a0, a1, a2, a3] h) Q = wp (execs progP n f_slider_attacks.body [some a0, some a1, some a2, some a3] h) (fun r => Q (retV r.1, r.2.2)) := wp_callF' fn20 rfl rfl rfl
theorem fn21 : progP.fns[21]? = some f_piece_attacks := rfl
theorem call21 (n : Nat) (a0 a1 a2 a3 a4 : V) (h : Hp) (Q : V × Hp → Prop) : wp (callF progP (n+1) 21 [a0, a1, a2, a3, a4] h) Q = wp (execs progP n f_piece_attacks.body [some a0, some a1, some a2, some a3, some a4] h) (fun r => Q (retV r.1, r.2.2)) := wp_callF' fn21 rfl rfl rfl
theorem fn22 : progP.fns[22]? = some f_put_piece := rfl
theorem call22 (n : Nat) (a0 a1 a2 : V) (h : Hp) (Q : V × Hp → Prop) : wp (callF progP (n+1) 22 [a0, a1, a2] h) Q = wp (execs progP n f_put_piece.body [some a0, some a1, some a2, none] h) (fun r => Q (retV r.1, r.2.2)) := wp_callF' fn22 rfl rfl rfl
theorem fn23 : progP.fns[23]? = some f_king_square := rfl
theorem call23 (n : Nat) (a0 a1 : V) (h : Hp) (Q : V × Hp → Prop) : wp (callF progP (n+1) 23 [a0, a1] h) Q = wp (execs progP n f_king_square.body [some a0, some a1] h) (fun r => Q (retV r.1, r.2.2)) := wp_callF' fn23 rfl rfl rfl
theorem fn24 : progP.fns[24]? = some f_straight_sliders := rfl
theorem call24 (n : Nat) (a0 : V) (h : Hp) (Q : V × Hp → Prop) : wp (callF progP (n+1) 24 [a0] h) Q = wp (execs progP n f_straight_sliders.body [some a0] h) (fun r => Q (retV r.1, r.2.2)) := wp_callF' fn24 rfl rfl rfl
theorem fn25 : progP.fns[25]? = some f_slanting_sliders := rfl
theorem call25 (n : Nat) (a0 : V) (h : Hp) (Q : V × Hp → Prop) : wp (callF progP (n+1) 25 [a0] h) Q = wp (execs progP n f_slanting_sliders.body [some a0] h) (fun r => Q (retV r.1, r.2.2)) := wp_callF' fn25 rfl rfl rfl
theorem fn26 : progP.fns[26]? = some f_pawn_attackers := rfl
theorem call26 (n : Nat) (a0 a1 a2 : V) (h : Hp) (Q : V × Hp → Prop) : wp (callF progP (n+1) 26 [a0, a1, a2] h) Q = wp (execs progP n f_pawn_attackers.body [some a0, some a1, some a2] h) (fun r => Q (retV r.1, r.2.2)) := wp_callF' fn26 rfl rfl rfl
theorem fn27 : progP.fns[27]? = some f_step_attackers := rfl
theorem call27 (n : Nat) (a0 a1 a2 : V) (h : Hp) (Q : V × Hp → Prop) : wp (callF progP (n+1) 27 [a0, a1, a2] h) Q = wp (execs progP n f_step_attackers.body [some a0, some a1, some a2, none, none] h) (fun r => Q (retV r.1, r.2.2)) := wp_callF' fn27 rfl rfl rfl
theorem fn28 : progP.fns[28]? = some f_line_attackers := rfl
theorem call28 (n : Nat) (a0 a1 a2 : V) (h : Hp) (Q : V × Hp → Prop) : wp (callF progP (n+1) 28 [a0, a1, a2] h) Q = wp (execs progP n f_line_attackers.body [some a0, some a1, some a2, none, none, none] h) (fun r => Q (retV r.1, r.2.2)) := wp_callF' fn28 rfl rfl rfl
theorem fn29 : progP.fns[29]? = some f_attackers_to := rfl
theorem call29 (n : Nat) (a0 a1 a2 : V) (h : Hp) (Q : V × Hp → Prop) : wp (callF progP (n+1) 29 [a0, a1, a2] h) Q = wp (execs progP n f_attackers_to.body [some a0, some a1, some a2, none] h) (fun r => Q (retV r.1, r.2.2)) := wp_callF' fn29 rfl rfl rfl
theorem fn30 : progP.fns[30]? = some f_is_attacked := rfl
theorem call30 (n : Nat) (a0 a1 a2 a3 : V) (h : Hp) (Q : V × Hp → Prop) : wp (callF progP (n+1) 30 [a0, a1, a2, a3] h) Q = wp (execs progP n f_is_attacked.body [some a0, some a1, some a2, some a3, none, none, none, none] h) (fun r => Q (retV r.1, r.2.2)) := wp_callF' fn30 rfl rfl rfl
theorem fn31 : progP.fns[31]? = some f_checkers_of := rfl
theorem call31 (n : Nat) (a0 a1 : V) (h : Hp) (Q : V × Hp → Prop) : wp (callF progP (n+1) 31 [a0, a1] h) Q = wp (execs progP n f_checkers_of.body [some a0, some a1, none] h) (fun r => Q (retV r.1, r.2.2)) := wp_callF' fn31 rfl rfl rfl
theorem fn32 : progP.fns[32]? = some f_checkers := rfl
theorem call32 (n : Nat) (a0 : V) (h : Hp) (Q : V × Hp → Prop) : wp (callF progP (n+1) 32 [a0] h) Q = wp (execs progP n f_checkers.body [some a0] h) (fun r => Q (retV r.1, r.2.2)) := wp_callF' fn32 rfl rfl rfl
theorem fn33 : progP.fns[33]? = some f_in_check_of := rfl
theorem call33 (n : Nat) (a0 a1 : V) (h : Hp) (Q : V × Hp → Prop) : wp (callF progP (n+1) 33 [a0, a1] h) Q = wp (execs progP n f_in_check_of.body [some a0, some a1, none] h) (fun r => Q (retV r.1, r.2.2)) := wp_callF' fn33 rfl rfl rfl
theorem fn34 : progP.fns[34]? = some f_in_check := rfl
theorem call34 (n : Nat) (a0 : V) (h : Hp) (Q : V × Hp → Prop) : wp (callF progP (n+1) 34 [a0] h) Q = wp (execs progP n f_in_check.body [some a0] h) (fun r => Q (retV r.1, r.2.2)) := wp_callF' fn34 rfl rfl rfl
theorem fn35 : progP.fns[35]? = some f_check_quiet := rfl
theorem call35 (n : Nat) (a0 : V) (h : Hp) (Q : V × Hp → Prop) : wp (callF progP (n+1) 35 [a0] h) Q = wp (execs progP n f_check_quiet.body [some a0] h) (fun r => Q (retV r.1, r.2.2)) := wp_callF' fn35 rfl rfl rfl
theorem fn36 : progP.fns[36]? = some f_snipers_of := rfl
theorem call36 (n : Nat) (a0 a1 : V) (h : Hp) (Q : V × Hp → Prop) : wp (callF progP (n+1) 36 [a0, a1] h) Q = wp (execs progP n f_snipers_of.body [some a0, some a1, none, none] h) (fun r => Q (retV r.1, r.2.2)) := wp_callF' fn36 rfl rfl rfl
theorem fn37 : progP.fns[37]? = some f_blockers := rfl
theorem call37 (n : Nat) (a0 a1 : V) (h : Hp) (Q : V × Hp → Prop) : wp (callF progP (n+1) 37 [a0, a1] h) Q = wp (execs progP n f_blockers.body [some a0, some a1, none, none, none, none, none, none, none] h) (fun r => Q (retV r.1, r.2.2)) := wp_callF' fn37 rfl rfl rfl
theorem fn38 : progP.fns[38]? = some f_pinned_pieces := rfl
theorem call38 (n : Nat) (a0 a1 : V) (h : Hp) (Q : V × Hp → Prop) : wp (callF progP (n+1) 38 [a0, a1] h) Q = wp (execs progP n f_pinned_pieces.body [some a0, some a1] h) (fun r => Q (retV r.1, r.2.2)) := wp_callF' fn38 rfl rfl rfl
theorem fn39 : progP.fns[39]? = some f_covered_by := rfl
theorem call39 (n : Nat) (a0 a1 a2 : V) (h : Hp) (Q : V × Hp → Prop) : wp (callF progP (n+1) 39 [a0, a1, a2] h) Q = wp (execs progP n f_covered_by.body [some a0, some a1, some a2, none, none, none] h) (fun r => Q (retV r.1, r.2.2)) := wp_callF' fn39 rfl rfl rfl
theorem fn40 : progP.fns[40]? = some f_attacked_by := rfl
theorem call40 (n : Nat) (a0 a1 : V) (h : Hp) (Q : V × Hp → Prop) : wp (callF progP (n+1) 40 [a0, a1] h) Q = wp (execs progP n f_attacked_by.body [some a0, some a1] h) (fun r => Q (retV r.1, r.2.2)) := wp_callF' fn40 rfl rfl rfl
theorem fn41 : progP.fns[41]? = some f_forbidden_to_king := rfl
theorem call41 (n : Nat) (a0 a1 : V) (h : Hp) (Q : V × Hp → Prop) : wp (callF progP (n+1) 41 [a0, a1] h) Q = wp (execs progP n f_forbidden_to_king.body [some a0, some a1, none] h) (fun r => Q (retV r.1, r.2.2)) := wp_callF' fn41 rfl rfl rfl
theorem fn42 : progP.fns[42]? = some f_law_rest := rfl
theorem call42 (n : Nat) (h : Hp) (Q : V × Hp → Prop) : wp (callF progP (n+1) 42 [] h) Q = wp (execs progP n f_law_rest.body [] h) (fun r => Q (retV r.1, r.2.2)) := wp_callF' fn42 rfl rfl rfl
theorem fn43 : progP.fns[43]? = some f_law_hits := rfl
theorem call43 (n : Nat) (a0 a1 a2 a3 a4 : V) (h : Hp) (Q : V × Hp → Prop) : wp (callF progP (n+1) 43 [a0, a1, a2, a3, a4] h) Q = wp (execs progP n f_law_hits.body [some a0, some a1, some a2, some a3, some a4, none, none, none, none, none] h) (fun r => Q (retV r.1, r.2.2)) := wp_callF' fn43 rfl rfl rfl
theorem fn44 : progP.fns[44]? = some f_law_hitters := rfl
theorem call44 (n : Nat) (a0 a1 a2 a3 a4 : V) (h : Hp) (Q : V × Hp → Prop) : wp (callF progP (n+1) 44 [a0, a1, a2, a3, a4] h) Q = wp (execs progP n f_law_hitters.body [some a0, some a1, some a2, some a3, some a4] h) (fun r => Q (retV r.1, r.2.2)) := wp_callF' fn44 rfl rfl rfl
theorem fn45 : progP.fns[45]? = some f_law_bits := rfl
theorem call45 (n : Nat) (a0 : V) (h : Hp) (Q : V × Hp → Prop) : wp (callF progP (n+1) 45 [a0] h) Q = wp (execs progP n f_law_bits.body [some a0, none, none] h) (fun r => Q (retV r.1, r.2.2)) := wp_callF' fn45 rfl rfl rfl
theorem fn46 : progP.fns[46]? = some f_law_within := rfl
theorem call46 (n : Nat) (a0 a1 a2 a3 : V) (h : Hp) (Q : V × Hp → Prop) : wp (callF progP (n+1) 46 [a0, a1, a2, a3] h) Q = wp (execs progP n f_law_within.body [some a0, some a1, some a2, some a3, none, none, none, none, none, none] h) (fun r => Q (retV r.1, r.2.2)) := wp_callF' fn46 rfl rfl rfl
theorem fn47 : progP.fns[47]? = some f_law_held := rfl
theorem call47 (n : Nat) (a0 a1 a2 a3 : V) (h : Hp) (Q : V × Hp → Prop) : wp (callF progP (n+1) 47 [a0, a1, a2, a3] h) Q = wp (execs progP n f_law_held.body [some a0, some a1, some a2, some a3, none, none, none, none, none, none] h) (fun r => Q (retV r.1, r.2.2)) := wp_callF' fn47 rfl rfl rfl
theorem fn48 : progP.fns[48]? = some f_law := rfl
theorem call48 (n : Nat) (a0 : V) (h : Hp) (Q : V × Hp → Prop) : wp (callF progP (n+1) 48 [a0] h) Q = wp (execs progP n f_law.body [some a0, none, none, none, none, none, none, none, none, none, none, none, none, none, none, none, none, none, none, none, none, none, none, none] h) (fun r => Q (retV r.1, r.2.2)) := wp_callF' fn48 rfl rfl rfl
theorem fn49 : progP.fns[49]? = some i_Geometry := rfl
theorem call49 (n : Nat) (a0 a1 a2 a3 a4 : V) (h : Hp) (Q : V × Hp → Prop) : wp (callF progP (n+1) 49 [a0, a1, a2, a3, a4] h) Q = wp (execs progP n i_Geometry.body [some a0, some a1, some a2, some a3, some a4] h) (fun r => Q (retV r.1, r.2.2)) := wp_callF' fn49 rfl rfl rfl
theorem fn50 : progP.fns[50]? = some i_Position := rfl
theorem call50 (n : Nat) (a0 a1 a2 : V) (h : Hp) (Q : V × Hp → Prop) : wp (callF progP (n+1) 50 [a0, a1, a2] h) Q = wp (execs progP n i_Position.body [some a0, some a1, some a2] h) (fun r => Q (retV r.1, r.2.2)) := wp_callF' fn50 rfl rfl rfl
theorem fn51 : progP.fns[51]? = some i_Zobrist := rfl
theorem call51 (n : Nat) (a0 a1 a2 a3 a4 : V) (h : Hp) (Q : V × Hp → Prop) : wp (callF progP (n+1) 51 [a0, a1, a2, a3, a4] h) Q = wp (execs progP n i_Zobrist.body [some a0, some a1, some a2, some a3, some a4] h) (fun r => Q (retV r.1, r.2.2)) := wp_callF' fn51 rfl rfl rfl
end Mine
end
section
open PySem
set_option maxRecDepth 100000
set_option linter.unusedSimpArgs false
set_option linter.unusedVariables false
namespace Mine
noncomputable abbrev VQ := V → Hp → Prop
noncomputable abbrev RQ := R → Lc → Hp → Prop
@[irreducible] noncomputable def wE (n : Nat) (e : X) (l : Lc) (h : Hp) (Q : VQ) : Prop := wp (ev progP n e l h) (fun r => Q r.1 r.2)
theorem wE_def (n : Nat) (e : X) (l : Lc) (h : Hp) (Q : VQ) : wE n e l h Q = wp (ev progP n e l h) (fun r => Q r.1 r.2) := by unfold wE; rfl
@[irreducible] noncomputable def wEs (n : Nat) (es : List X) (l : Lc) (h : Hp) (Q : List V → Hp → Prop) : Prop := wp (evs (fun e h => ev progP n e l h) es h) (fun r => Q r.1 r.2)
theorem wEs_def (n : Nat) (es : List X) (l : Lc) (h : Hp) (Q : List V → Hp → Prop) : wEs n es l h Q = wp (evs (fun e h => ev progP n e l h) es h) (fun r => Q r.1 r.2) := by unfold wEs; rfl
@[irreducible] noncomputable def wF (n : Nat) (f : Nat) (vs : List V) (h : Hp) (Q : VQ) : Prop := wp (callF progP n f vs h) (fun r => Q r.1 r.2)
theorem wF_def (n : Nat) (f : Nat) (vs : List V) (h : Hp) (Q : VQ) : wF n f vs h Q = wp (callF progP n f vs h) (fun r => Q r.1 r.2) := by unfold wF; rfl
@[irreducible] noncomputable def wN (n : Nat) (f : Nat) (vs : List V) (h : Hp) (Q : VQ) : Prop := wp (newF progP n f vs h) (fun r => Q r.1 r.2)
theorem wN_def (n : Nat) (f : Nat) (vs : List V) (h : Hp) (Q : VQ) : wN n f vs h Q = wp (newF progP n f vs h) (fun r => Q r.1 r.2) := by unfold wN; rfl
@[irreducible] noncomputable def wX (n : Nat) (s : S) (l : Lc) (h : Hp) (Q : RQ) : Prop := wp (exec progP n s l h) (fun r => Q r.1 r.2.1 r.2.2)
theorem wX_def (n : Nat) (s : S) (l : Lc) (h : Hp) (Q : RQ) : wX n s l h Q = wp (exec progP n s l h) (fun r => Q r.1 r.2.1 r.2.2) := by unfold wX; rfl
@[irreducible] noncomputable def wXs (n : Nat) (s : List S) (l : Lc) (h : Hp) (Q : RQ) : Prop := wp (execs progP n s l h) (fun r => Q r.1 r.2.1 r.2.2)
theorem wXs_def (n : Nat) (s : List S) (l : Lc) (h : Hp) (Q : RQ) : wXs n s l h Q = wp (execs progP n s l h) (fun r => Q r.1 r.2.1 r.2.2) := by unfold wXs; rfl
@[irreducible] noncomputable def wB (op : Operator) (h : Hp) (a b : V) (Q : VQ) : Prop := wp (binV op h a b) (fun r => Q r.1 r.2)
theorem wB_def (op : Operator) (h : Hp) (a b : V) (Q : VQ) : wB op h a b Q = wp (binV op h a b) (fun r => Q r.1 r.2) := by unfold wB; rfl
@[irreducible] noncomputable def wU (op : UnaryOp) (h : Hp) (a : V) (Q : V → Prop) : Prop := wp (unV h op a) Q
theorem wU_def (op : UnaryOp) (h : Hp) (a : V) (Q : V → Prop) : wU op h a Q = wp (unV h op a) Q := by unfold wU; rfl
@[irreducible] noncomputable def wC (op : CmpOp) (h : Hp) (a b : V) (Q : Bool → Prop) : Prop := wp (cmpV h op a b) Q
theorem wC_def (op : CmpOp) (h : Hp) (a b : V) (Q : Bool → Prop) : wC op h a b Q = wp (cmpV h op a b) Q := by unfold wC; rfl
@[irreducible] noncomputable def wT (h : Hp) (v : V) (Q : Bool → Prop) : Prop := wp (truth h v) Q
theorem wT_def (h : Hp) (v : V) (Q : Bool → Prop) : wT h v Q = wp (truth h v) Q := by unfold wT; rfl
@[irreducible] noncomputable def wI (b : Bi) (h : Hp) (vs : List V) (Q : VQ) : Prop := wp (biV h b vs) (fun r => Q r.1 r.2)
theorem wI_def (b : Bi) (h : Hp) (vs : List V) (Q : VQ) : wI b h vs Q = wp (biV h b vs) (fun r => Q r.1 r.2) := by unfold wI; rfl
@[irreducible] noncomputable def wLs (n : Nat) (op : BoolOp) (es : List X) (l : Lc) (h : Hp) (Q : VQ) : Prop := wp (boolL (fun e h => ev progP n e l h) op es h) (fun r => Q r.1 r.2)
theorem wLs_def (n : Nat) (op : BoolOp) (es : List X) (l : Lc) (h : Hp) (Q : VQ) : wLs n op es l h Q = wp (boolL (fun e h => ev progP n e l h) op es h) (fun r => Q r.1 r.2) := by unfold wLs; rfl
@[irreducible] noncomputable def wCh (n : Nat) (x : V) (ops : List CmpOp) (es : List X) (l : Lc) (h : Hp) (Q : VQ) : Prop := wp (chain (fun e h => ev progP n e l h) x ops es h) (fun r => Q r.1 r.2)
theorem wCh_def (n : Nat) (x : V) (ops : List CmpOp) (es : List X) (l : Lc) (h : Hp) (Q : VQ) : wCh n x ops es l h Q = wp (chain (fun e h => ev progP n e l h) x ops es h) (fun r => Q r.1 r.2) := by unfold wCh; rfl
@[irreducible] noncomputable def wTe (n : Nat) (e : X) (l : Lc) (h : Hp) (Q : Bool → Hp → Prop) : Prop := wp (testV (fun e h => ev progP n e l h) e h) (fun r => Q r.1 r.2)
theorem wTe_def (n : Nat) (e : X) (l : Lc) (h : Hp) (Q : Bool → Hp → Prop) : wTe n e l h Q = wp (testV (fun e h => ev progP n e l h) e h) (fun r => Q r.1 r.2) := by unfold wTe; rfl
@[irreducible] noncomputable def wR (r : R) (A : Prop) (B : V → Prop) : Prop := match r with | .next => A | .ret v => B v
theorem wR_def (r : R) (A : Prop) (B : V → Prop) : wR r A B = match r with | .next => A | .ret v => B v := by unfold wR; rfl
theorem wp_bs {α β : Type} {o : Option α} {f : α → Option β} {a : α} {Q : β → Prop} (e : o = some a) (H : wp (f a) Q) : wp (o.bind f) Q := by subst e; exact H
theorem wp_bb {α β γ : Type} {o : Option α} {f : α → Option β} {k : β → Option γ} {Q : γ → Prop} (H : wp (o.bind fun a => (f a).bind k) Q) : wp ((o.bind f).bind k) Q := by cases o <;> exact H
theorem wp_bb' {α β : Type} {c : Prop} [Decidable c] {a b : Option α} {k : α → Option β} {Q : β → Prop} (H : wp (if c then a.bind k else b.bind k) Q) : wp ((if c then a else b).bind k) Q := by by_cases e : c <;> simp only [e, ite_true, ite_false] at * <;> exact H
theorem wp_mb {o : Option Int} {h : Hp} {β : Type} {f : Int → Option β} {Q' : V × Hp → Prop} {Q : β → Prop} (H : wp (o.map fun c => (V.int c, h)) Q') (k : ∀ z, Q' (.int z, h) → wp (f z) Q) : wp (o.bind f) Q := by
  cases o with
  | none => exact H.elim
  | some z => exact k z H
theorem wp_mp {o : Option Int} {h : Hp} {c : Int} {Q : V × Hp → Prop} (e : o = some c) (H : Q (.int c, h)) : wp (o.map fun c => (V.int c, h)) Q := by subst e; exact H
theorem wp_mm {α β : Type} {o : Option α} {f : α → β} {Q : β → Prop} (H : wp o (fun a => Q (f a))) : wp (o.map f) Q := by cases o <;> exact H
theorem wp_if {α : Type} {c : Prop} [Decidable c] {a b : Option α} {Q : α → Prop} (e : c) (H : wp a Q) : wp (if c then a else b) Q := by rw [if_pos e]; exact H
section
variable {n : Nat} {l : Lc} {h : Hp}
theorem wR_next {A B} (H : A) : wR .next A B := by rw [wR_def]; exact H
theorem wR_ret {A B v} (H : B v) : wR (.ret v) A B := by rw [wR_def]; exact H
theorem wR_mono {r A B A' B'} (H : wR r A B) (a : A → A') (b : ∀ v, B v → B' v) : wR r A' B' := by rw [wR_def] at *; cases r; exact a H; exact b _ H
theorem wE_mono {e} {Q Q' : VQ} (H : wE n e l h Q) (hq : ∀ v h, Q v h → Q' v h) : wE n e l h Q' := by delta wE wEs wF wN wX wXs wB wU wC wT wI wLs wCh wTe wR at *; exact wp_mono H (fun _ => hq _ _)
theorem wF_mono {f vs} {Q Q' : VQ} (H : wF n f vs h Q) (hq : ∀ v h, Q v h → Q' v h) : wF n f vs h Q' := by delta wE wEs wF wN wX wXs wB wU wC wT wI wLs wCh wTe wR at *; exact wp_mono H (fun _ => hq _ _)
theorem wXs_mono {s} {Q Q' : RQ} (H : wXs n s l h Q) (hq : ∀ r l h, Q r l h → Q' r l h) : wXs n s l h Q' := by delta wE wEs wF wN wX wXs wB wU wC wT wI wLs wCh wTe wR at *; exact wp_mono H (fun _ => hq _ _ _)
theorem wX_mono {s} {Q Q' : RQ} (H : wX n s l h Q) (hq : ∀ r l h, Q r l h → Q' r l h) : wX n s l h Q' := by delta wE wEs wF wN wX wXs wB wU wC wT wI wLs wCh wTe wR at *; exact wp_mono H (fun _ => hq _ _ _)
theorem wE_cst {v Q} (H : Q v h) : wE (n+1) (.cst v) l h Q := by delta wE wEs wF wN wX wXs wB wU wC wT wI wLs wCh wTe wR at *; exact H
theorem wE_var {i v} {Q : VQ} (e : l[i]? = some (some v)) (H : Q v h) : wE (n+1) (.var i) l h Q := by
  delta wE wEs wF wN wX wXs wB wU wC wT wI wLs wCh wTe wR at *
  rw [ev_var, e]; exact H
theorem wE_bin {op a b Q} (H : wE n a l h (fun x h => wE n b l h (fun y h => wB op h x y Q))) : wE (n+1) (.bin op a b) l h Q := by
  delta wE wEs wF wN wX wXs wB wU wC wT wI wLs wCh wTe wR at *
  refine wp_bm H ?_; rintro ⟨x, h⟩ H; exact wp_bm H fun _ H => H
theorem wB_int {op a b c} {Q : VQ} (e : binI op a b = some c) (H : Q (.int c) h) : wB op h (.int a) (.int b) Q := by
  delta wE wEs wF wN wX wXs wB wU wC wT wI wLs wCh wTe wR at *
  exact wp_mp e H
theorem wB_mul {a b} {Q : VQ} (ea : a.natAbs < 2^64) (eb : b.natAbs < 2^64) (H : Q (.int (a * b)) h) : wB .Mult h (.int a) (.int b) Q :=
  wB_int (if_pos (by rw [show fits a = true from decide_eq_true ea, show fits b = true from decide_eq_true eb]; rfl)) H
theorem wB_fdiv {a b} {Q : VQ} (eb : b ≠ 0) (ec : b.natAbs < 1073741824) (H : Q (.int (a.fdiv b)) h) : wB .FloorDiv h (.int a) (.int b) Q :=
  wB_int (if_pos (by rw [decide_eq_true eb, decide_eq_true ec]; rfl)) H
theorem wB_mod {a b} {Q : VQ} (eb : b ≠ 0) (H : Q (.int (a.fmod b)) h) : wB .Mod h (.int a) (.int b) Q :=
  wB_int (if_pos (by rw [decide_eq_true eb])) H
theorem wB_shl {a b} {Q : VQ} (e0 : 0 ≤ b) (e1 : b ≤ 1000) (ea : a.natAbs < 2^64) (H : Q (.int (a * 2 ^ b.toNat)) h) : wB .LShift h (.int a) (.int b) Q :=
  wB_int (if_pos (by rw [decide_eq_true e0, decide_eq_true e1, show fits a = true from decide_eq_true ea]; rfl)) H
theorem wB_shr {a b} {Q : VQ} (e0 : 0 ≤ b) (H : Q (.int (a.fdiv (2 ^ b.toNat))) h) : wB .RShift h (.int a) (.int b) Q :=
  wB_int (if_pos (by rw [decide_eq_true e0])) H
theorem wB_add {a b} {Q : VQ} (H : Q (.int (a + b)) h) : wB .Add h (.int a) (.int b) Q := wB_int rfl H
theorem wB_sub {a b} {Q : VQ} (H : Q (.int (a - b)) h) : wB .Sub h (.int a) (.int b) Q := wB_int rfl H
theorem wB_or {a b} {Q : VQ} (H : Q (.int (Builtin.bitOr a b)) h) : wB .BitOr h (.int a) (.int b) Q := wB_int rfl H
theorem wB_and {a b} {Q : VQ} (H : Q (.int (Builtin.bitAnd a b)) h) : wB .BitAnd h (.int a) (.int b) Q := wB_int rfl H
theorem wB_xor {a b} {Q : VQ} (H : Q (.int (Builtin.bitXor a b)) h) : wB .BitXor h (.int a) (.int b) Q := wB_int rfl H
theorem wB_val {op} {a b : V} {v h'} {Q : VQ} (e : binV op h a b = some (v, h')) (H : Q v h') : wB op h a b Q := by delta wE wEs wF wN wX wXs wB wU wC wT wI wLs wCh wTe wR at *; exact wp_intro e H
theorem wE_un {op a} {Q : VQ} (H : wE n a l h (fun x h => wU op h x (fun v => Q v h))) : wE (n+1) (.un op a) l h Q := by
  delta wE wEs wF wN wX wXs wB wU wC wT wI wLs wCh wTe wR at *
  refine wp_bm H ?_; rintro ⟨x, h⟩ H; exact wp_bm H fun _ H => H
theorem wU_neg {i} {Q : V → Prop} (H : Q (.int (-i))) : wU .USub h (.int i) Q := by delta wE wEs wF wN wX wXs wB wU wC wT wI wLs wCh wTe wR at *; exact H
theorem wU_inv {i} {Q : V → Prop} (H : Q (.int (Builtin.bitNot i))) : wU .Invert h (.int i) Q := by delta wE wEs wF wN wX wXs wB wU wC wT wI wLs wCh wTe wR at *; exact H
theorem wU_not {v} {Q : V → Prop} (H : wT h v (fun b => Q (.bool (!b)))) : wU .Not h v Q := by
  delta wE wEs wF wN wX wXs wB wU wC wT wI wLs wCh wTe wR at *
  cases v <;> exact wp_mm H
theorem wT_int {i} {Q : Bool → Prop} (H : Q (i != 0)) : wT h (.int i) Q := by delta wE wEs wF wN wX wXs wB wU wC wT wI wLs wCh wTe wR at *; exact H
theorem wT_bool {b} {Q : Bool → Prop} (H : Q b) : wT h (.bool b) Q := by delta wE wEs wF wN wX wXs wB wU wC wT wI wLs wCh wTe wR at *; exact H
theorem wT_none {Q : Bool → Prop} (H : Q false) : wT h .none Q := by delta wE wEs wF wN wX wXs wB wU wC wT wI wLs wCh wTe wR at *; exact H
theorem wT_list {k xs} {Q : Bool → Prop} (e : h[k]? = some (.list xs)) (el : xs.length ≤ 1000) (H : Q (!xs.isEmpty)) : wT h (.ref k) Q := by
  delta wE wEs wF wN wX wXs wB wU wC wT wI wLs wCh wTe wR at *
  delta truth; dsimp only; rw [e]; exact wp_if el H
theorem wC_val {op a b c} {Q : Bool → Prop} (e : cmpV h op a b = some c) (H : Q c) : wC op h a b Q := by delta wE wEs wF wN wX wXs wB wU wC wT wI wLs wCh wTe wR at *; exact wp_intro e H
theorem wC_eq {a b} {Q : Bool → Prop} (H : Q (a == b)) : wC .Eq h (.int a) (.int b) Q := wC_val rfl H
theorem wC_ne {a b} {Q : Bool → Prop} (H : Q (!(a == b))) : wC .NotEq h (.int a) (.int b) Q := wC_val rfl H
theorem wC_eqb {a b} {Q : Bool → Prop} (H : Q (a == b)) : wC .Eq h (.bool a) (.bool b) Q := wC_val rfl H
theorem wC_neb {a b} {Q : Bool → Prop} (H : Q (!(a == b))) : wC .NotEq h (.bool a) (.bool b) Q := wC_val rfl H
theorem wC_lt {a b} {Q : Bool → Prop} (H : Q (decide (a < b))) : wC .Lt h (.int a) (.int b) Q := wC_val rfl H
theorem wC_le {a b} {Q : Bool → Prop} (H : Q (decide (a ≤ b))) : wC .LtE h (.int a) (.int b) Q := wC_val rfl H
theorem wC_gt {a b} {Q : Bool → Prop} (H : Q (decide (b < a))) : wC .Gt h (.int a) (.int b) Q := wC_val rfl H
theorem wC_ge {a b} {Q : Bool → Prop} (H : Q (decide (b ≤ a))) : wC .GtE h (.int a) (.int b) Q := wC_val rfl H
theorem wE_boolE {op es Q} (H : wLs n op es l h Q) : wE (n+1) (.boolE op es) l h Q := by delta wE wEs wF wN wX wXs wB wU wC wT wI wLs wCh wTe wR at *; exact H
theorem wLs_one {op e Q} (H : wE n e l h Q) : wLs n op [e] l h Q := by delta wE wEs wF wN wX wXs wB wU wC wT wI wLs wCh wTe wR at *; exact H
theorem wLs_and {e e2 r} {Q : VQ} (H : wE n e l h (fun v h => wT h v (fun t => (t = false → Q v h) ∧ (t = true → wLs n .And (e2 :: r) l h Q)))) : wLs n .And (e :: e2 :: r) l h Q := by
  delta wE wEs wF wN wX wXs wB wU wC wT wI wLs wCh wTe wR at *
  refine wp_bm H ?_; rintro ⟨x, h⟩ H
  refine wp_bm H ?_
  intro t ⟨H1, H2⟩
  cases t
  · exact H1 rfl
  · exact H2 rfl
theorem wLs_or {e e2 r} {Q : VQ} (H : wE n e l h (fun v h => wT h v (fun t => (t = true → Q v h) ∧ (t = false → wLs n .Or (e2 :: r) l h Q)))) : wLs n .Or (e :: e2 :: r) l h Q := by
  delta wE wEs wF wN wX wXs wB wU wC wT wI wLs wCh wTe wR at *
  refine wp_bm H ?_; rintro ⟨x, h⟩ H
  refine wp_bm H ?_
  intro t ⟨H1, H2⟩
  cases t
  · exact H2 rfl
  · exact H1 rfl
theorem wE_cmp {a ops rs Q} (H : wE n a l h (fun x h => wCh n x ops rs l h Q)) : wE (n+1) (.cmp a ops rs) l h Q := by
  delta wE wEs wF wN wX wXs wB wU wC wT wI wLs wCh wTe wR at *
  refine wp_bm H ?_; rintro ⟨x, h⟩ H; exact H
theorem wCh_one {x op r} {Q : VQ} (H : wE n r l h (fun y h => wC op h x y (fun b => Q (.bool b) h))) : wCh n x [op] [r] l h Q := by
  delta wE wEs wF wN wX wXs wB wU wC wT wI wLs wCh wTe wR at *
  refine wp_bm H ?_; rintro ⟨y, h⟩ H
  exact wp_bm H fun _ H => H
theorem wCh_two {x op op2 r r2 ops rs} {Q : VQ} (H : wE n r l h (fun y h => wC op h x y (fun b => (b = true → wCh n y (op2 :: ops) (r2 :: rs) l h Q) ∧ (b = false → Q (.bool false) h)))) :
    wCh n x (op :: op2 :: ops) (r :: r2 :: rs) l h Q := by
  delta wE wEs wF wN wX wXs wB wU wC wT wI wLs wCh wTe wR at *
  refine wp_bm H ?_; rintro ⟨y, h⟩ H
  refine wp_bm H ?_
  intro b ⟨H1, H2⟩
  cases b
  · exact H2 rfl
  · exact H1 rfl
theorem wTe_in {e} {Q : Bool → Hp → Prop} (H : wE n e l h (fun v h => wT h v (fun b => Q b h))) : wTe n e l h Q := by
  delta wE wEs wF wN wX wXs wB wU wC wT wI wLs wCh wTe wR at *
  unfold testV; rw [wp_bind]; refine wp_mono H ?_; rintro ⟨y, h⟩ H
  exact wp_bm H fun _ H => H
theorem wE_ife {t a b} {Q : VQ} (H : wTe n t l h (fun c h => (c = true → wE n a l h Q) ∧ (c = false → wE n b l h Q))) : wE (n+1) (.ife t a b) l h Q := by
  delta wE wEs wF wN wX wXs wB wU wC wT wI wLs wCh wTe wR at *
  refine wp_bm H ?_; rintro ⟨c, h⟩ ⟨H1, H2⟩
  cases c
  · exact H2 rfl
  · exact H1 rfl
theorem wEs_nil {Q : List V → Hp → Prop} (H : Q [] h) : wEs n [] l h Q := by delta wE wEs wF wN wX wXs wB wU wC wT wI wLs wCh wTe wR at *; exact H
theorem wEs_cons {e es} {Q : List V → Hp → Prop} (H : wE n e l h (fun v h => wEs n es l h (fun vs h => Q (v :: vs) h))) : wEs n (e :: es) l h Q := by
  delta wE wEs wF wN wX wXs wB wU wC wT wI wLs wCh wTe wR at *
  refine wp_bm H ?_; rintro ⟨y, h⟩ H
  exact wp_bm H fun _ H => H
theorem wE_call {f es Q} (H : wEs n es l h (fun vs h => wF n f vs h Q)) : wE (n+1) (.call f es) l h Q := by
  delta wE wEs wF wN wX wXs wB wU wC wT wI wLs wCh wTe wR at *
  exact wp_bm H fun _ H => H
theorem wE_new {f es Q} (H : wEs n es l h (fun vs h => wN n f vs h Q)) : wE (n+1) (.new f es) l h Q := by
  delta wE wEs wF wN wX wXs wB wU wC wT wI wLs wCh wTe wR at *
  exact wp_bm H fun _ H => H
theorem wE_bi {f es Q} (H : wEs n es l h (fun vs h => wI f h vs Q)) : wE (n+1) (.bi f es) l h Q := by
  delta wE wEs wF wN wX wXs wB wU wC wT wI wLs wCh wTe wR at *
  exact wp_bm H fun _ H => H
theorem wI_val {b vs v h'} {Q : VQ} (e : biV h b vs = some (v, h')) (H : Q v h') : wI b h vs Q := by delta wE wEs wF wN wX wXs wB wU wC wT wI wLs wCh wTe wR at *; exact wp_intro e H
theorem wI_range1 {b : Int} {Q : VQ} (e : rngOk 0 b 1 = true) (H : Q (.ref h.length) (h ++ [.rng 0 b 1])) : wI .range h [.int b] Q :=
  wI_val (if_pos e) H
theorem wI_range2 {a b : Int} {Q : VQ} (e : rngOk a b 1 = true) (H : Q (.ref h.length) (h ++ [.rng a b 1])) : wI .range h [.int a, .int b] Q :=
  wI_val (if_pos e) H
theorem wI_range3 {a b c : Int} {Q : VQ} (e : rngOk a b c = true) (H : Q (.ref h.length) (h ++ [.rng a b c])) : wI .range h [.int a, .int b, .int c] Q :=
  wI_val (if_pos e) H
theorem wI_len {k xs} {Q : VQ} (e : h[k]? = some (.list xs)) (el : xs.length ≤ 1000) (H : Q (.int xs.length) h) : wI .len h [.ref k] Q :=
  wI_val (by delta biV; dsimp only; rw [show seqOf h k = some xs from by delta seqOf; rw [e]]; exact if_pos el) H
theorem wI_abs {a : Int} {Q : VQ} (H : Q (.int (if a < 0 then -a else a)) h) : wI .abs h [.int a] Q := by delta wE wEs wF wN wX wXs wB wU wC wT wI wLs wCh wTe wR at *; exact H
theorem wI_max {a b : Int} {Q : VQ} (H : Q (.int (if b > a then b else a)) h) : wI .max h [.int a, .int b] Q := by delta wE wEs wF wN wX wXs wB wU wC wT wI wLs wCh wTe wR at *; exact H
theorem wI_min {a b : Int} {Q : VQ} (H : Q (.int (if b < a then b else a)) h) : wI .min h [.int a, .int b] Q := by delta wE wEs wF wN wX wXs wB wU wC wT wI wLs wCh wTe wR at *; exact H
theorem wE_append {o x} {Q : VQ} (H : wE n o l h (fun ov h => isL h ov = true ∧ wE n x l h (fun v h => ∃ h', appV h ov v = some h' ∧ Q .none h'))) : wE (n+1) (.append o x) l h Q := by
  delta wE wEs wF wN wX wXs wB wU wC wT wI wLs wCh wTe wR at *
  refine wp_bm H ?_; rintro ⟨y, h⟩ ⟨H1, H⟩
  show wp (if _ then _ else _) _
  rw [if_pos H1, wp_bind]; refine wp_mono H ?_; rintro ⟨y, h⟩ ⟨h', e, H⟩
  exact wp_bs e H
theorem wE_attr {o a} {Q : VQ} (H : wE n o l h (fun ov h => ∃ v, getA h ov a = some v ∧ Q v h)) : wE (n+1) (.attr o a) l h Q := by
  delta wE wEs wF wN wX wXs wB wU wC wT wI wLs wCh wTe wR at *
  refine wp_bm H ?_; rintro ⟨y, h⟩ ⟨v, e, H⟩
  exact wp_bs e H
theorem wE_sub {o i} {Q : VQ} (H : wE n o l h (fun ov h => wE n i l h (fun iv h => ∃ v, getV h ov iv = some v ∧ Q v h))) : wE (n+1) (.sub o i) l h Q := by
  delta wE wEs wF wN wX wXs wB wU wC wT wI wLs wCh wTe wR at *
  refine wp_bm H ?_; rintro ⟨y, h⟩ H
  refine wp_bm H ?_; rintro ⟨y, h⟩ ⟨v, e, H⟩
  exact wp_bs e H
theorem wE_sliceTo {o i} {Q : VQ} (H : wE n o l h (fun ov h => wE n i l h (fun iv h => ∃ v h', takeV h ov iv = some (v, h') ∧ Q v h'))) : wE (n+1) (.sliceTo o i) l h Q := by
  delta wE wEs wF wN wX wXs wB wU wC wT wI wLs wCh wTe wR at *
  refine wp_bm H ?_; rintro ⟨y, h⟩ H
  refine wp_bm H ?_; rintro ⟨y, h⟩ ⟨v, h', e, H⟩
  exact wp_intro e H
theorem wE_sliceFrom {o i} {Q : VQ} (H : wE n o l h (fun ov h => wE n i l h (fun iv h => ∃ v h', dropV h ov iv = some (v, h') ∧ Q v h'))) : wE (n+1) (.sliceFrom o i) l h Q := by
  delta wE wEs wF wN wX wXs wB wU wC wT wI wLs wCh wTe wR at *
  refine wp_bm H ?_; rintro ⟨y, h⟩ H
  refine wp_bm H ?_; rintro ⟨y, h⟩ ⟨v, h', e, H⟩
  exact wp_intro e H
theorem wE_listE {es} {Q : VQ} (H : wEs n es l h (fun vs h => decide (vs.length ≤ 1000) = true ∧ Q (.ref h.length) (h ++ [.list vs]))) : wE (n+1) (.listE es) l h Q := by
  delta wE wEs wF wN wX wXs wB wU wC wT wI wLs wCh wTe wR at *
  refine wp_bm H ?_; rintro ⟨y, h⟩ ⟨H1, H⟩
  show wp (if _ then _ else _) _
  rw [if_pos (of_decide_eq_true H1)]; exact H
theorem wE_tupE {es} {Q : VQ} (H : wEs n es l h (fun vs h => decide (vs.length ≤ 1000) = true ∧ Q (.ref h.length) (h ++ [.tup vs]))) : wE (n+1) (.tupE es) l h Q := by
  delta wE wEs wF wN wX wXs wB wU wC wT wI wLs wCh wTe wR at *
  refine wp_bm H ?_; rintro ⟨y, h⟩ ⟨H1, H⟩
  show wp (if _ then _ else _) _
  rw [if_pos (of_decide_eq_true H1)]; exact H

theorem wX_expr {e} {Q : RQ} (H : wE n e l h (fun v h => (∀ k, v ≠ .ref k) ∧ Q .next l h)) : wX (n+1) (.expr e) l h Q := by
  delta wE wEs wF wN wX wXs wB wU wC wT wI wLs wCh wTe wR at *
  refine wp_bm H ?_; rintro ⟨y, h⟩ ⟨H1, H⟩
  cases y <;> first | exact H | exact absurd rfl (H1 _)
theorem wX_ret {e} {Q : RQ} (H : wE n e l h (fun v h => Q (.ret v) l h)) : wX (n+1) (.ret e) l h Q := by
  delta wE wEs wF wN wX wXs wB wU wC wT wI wLs wCh wTe wR at *
  exact wp_bm H fun _ H => H
theorem wX_assV {i e} {Q : RQ} (hi : decide (i < l.length) = true) (H : wE n e l h (fun v h => Q .next (l.set i (some v)) h)) : wX (n+1) (.assign (.var i) e) l h Q := by
  delta wE wEs wF wN wX wXs wB wU wC wT wI wLs wCh wTe wR at *
  refine wp_bm H ?_; rintro ⟨y, h⟩ H
  show wp (Option.bind (if _ then _ else _) _) _
  rw [if_pos (of_decide_eq_true hi)]; exact H
theorem wX_assA {o a e} {Q : RQ} (H : wE n e l h (fun v h => wE n o l h (fun ov h => ∃ h', setA h ov a v = some h' ∧ Q .next l h'))) : wX (n+1) (.assign (.attr o a) e) l h Q := by
  delta wE wEs wF wN wX wXs wB wU wC wT wI wLs wCh wTe wR at *
  refine wp_bm H ?_; rintro ⟨y, h⟩ H
  refine wp_bb (wp_bm H ?_); rintro ⟨y, h⟩ ⟨h', e, H⟩
  exact wp_bb (wp_bs e H)
theorem wX_assS {o i e} {Q : RQ} (H : wE n e l h (fun v h => wE n o l h (fun ov h => wE n i l h (fun iv h => ∃ h', setV h ov iv v = some h' ∧ Q .next l h')))) : wX (n+1) (.assign (.sub o i) e) l h Q := by
  delta wE wEs wF wN wX wXs wB wU wC wT wI wLs wCh wTe wR at *
  refine wp_bm H ?_; rintro ⟨y, h⟩ H
  refine wp_bb (wp_bm H ?_); rintro ⟨y, h⟩ H
  refine wp_bb (wp_bm H ?_); rintro ⟨y, h⟩ ⟨h', e, H⟩
  exact wp_bb (wp_bs e H)
theorem wX_assVs {is e} {Q : RQ} (H : wE n e l h (fun v h => ∃ k xs l', v = .ref k ∧ h[k]? = some (.tup xs) ∧ putVars is xs l = some l' ∧ Q .next l' h)) : wX (n+1) (.assign (.vars is) e) l h Q := by
  delta wE wEs wF wN wX wXs wB wU wC wT wI wLs wCh wTe wR at *
  refine wp_bm H ?_; rintro ⟨y, h⟩ ⟨k, xs, l', e0, e, e2, H⟩
  dsimp only at e0
  subst e0
  delta assignT
  dsimp only
  rw [e]
  exact wp_bb (wp_bs e2 H)
theorem wX_assSw {i j e} {Q : RQ} (H : wE n e l h (fun v h => ∃ k x y, v = .ref k ∧ h[k]? = some (.tup [x, y]) ∧ i < l.length ∧ j < l.length ∧ Q .next ((l.set j (some y)).set i (some x)) h)) : wX (n+1) (.assign (.swap i j) e) l h Q := by
  delta wE wEs wF wN wX wXs wB wU wC wT wI wLs wCh wTe wR at *
  refine wp_bm H ?_; rintro ⟨y, h⟩ ⟨k, x, y, e0, e, e1, e2, H⟩
  dsimp only at e0
  subst e0
  delta assignT
  dsimp only
  rw [e]
  exact wp_bb' (wp_if (by rw [decide_eq_true e1, decide_eq_true e2]; rfl) H)
theorem wX_augV {i op e x} {Q : RQ} (hx : l[i]? = some (some (.int x))) (H : wE n e l h (fun v h => ∃ y, v = .int y ∧ wB op h (.int x) (.int y) (fun z h => Q .next (l.set i (some z)) h))) : wX (n+1) (.augV i op e) l h Q := by
  delta wE wEs wF wN wX wXs wB wU wC wT wI wLs wCh wTe wR at *
  rw [ex_augV, hx]
  refine wp_bm H ?_; rintro ⟨y, h⟩ ⟨y, e, H⟩
  dsimp only at e
  subst e
  exact wp_mb H fun _ H => H
theorem wX_augA {o a op e} {Q : RQ} (H : wE n o l h (fun ov h => ∃ x, getA h ov a = some (.int x) ∧ wE n e l h (fun v h => ∃ y, v = .int y ∧ wB op h (.int x) (.int y) (fun z h => ∃ h', setA h ov a z = some h' ∧ Q .next l h')))) : wX (n+1) (.augA o a op e) l h Q := by
  delta wE wEs wF wN wX wXs wB wU wC wT wI wLs wCh wTe wR at *
  refine wp_bm H ?_; rintro ⟨y, h⟩ ⟨x, e, H⟩
  refine wp_bs e ?_
  refine wp_bm H ?_; rintro ⟨y, h⟩ ⟨y, e, H⟩
  dsimp only at e
  subst e
  refine wp_mb H ?_
  rintro z ⟨h', e, H⟩
  exact wp_bs e H
theorem wX_augS {o i op e} {Q : RQ} (H : wE n o l h (fun ov h => wE n i l h (fun iv h => ∃ x, getV h ov iv = some (.int x) ∧ wE n e l h (fun v h => ∃ y, v = .int y ∧ wB op h (.int x) (.int y) (fun z h => ∃ h', setV h ov iv z = some h' ∧ Q .next l h'))))) : wX (n+1) (.augS o i op e) l h Q := by
  delta wE wEs wF wN wX wXs wB wU wC wT wI wLs wCh wTe wR at *
  refine wp_bm H ?_; rintro ⟨y, h⟩ H
  refine wp_bm H ?_; rintro ⟨y, h⟩ ⟨x, e, H⟩
  refine wp_bs e ?_
  refine wp_bm H ?_; rintro ⟨y, h⟩ ⟨y, e, H⟩
  dsimp only at e
  subst e
  refine wp_mb H ?_
  rintro z ⟨h', e, H⟩
  exact wp_bs e H
theorem wX_iff {t b o} {Q : RQ} (H : wTe n t l h (fun c h => (c = true → wXs n b l h Q) ∧ (c = false → wXs n o l h Q))) : wX (n+1) (.iff t b o) l h Q := by
  delta wE wEs wF wN wX wXs wB wU wC wT wI wLs wCh wTe wR at *
  refine wp_bm H ?_; rintro ⟨c, h⟩ ⟨H1, H2⟩
  cases c
  · exact H2 rfl
  · exact H1 rfl
theorem wXs_nil {Q : RQ} (H : Q .next l h) : wXs (n+1) [] l h Q := by delta wE wEs wF wN wX wXs wB wU wC wT wI wLs wCh wTe wR at *; exact H
theorem wXs_cons {s r} {Q : RQ} (H : wX n s l h (fun x l h => wR x (wXs n r l h Q) (fun v => Q (.ret v) l h))) : wXs (n+1) (s :: r) l h Q := by
  delta wE wEs wF wN wX wXs wB wU wC wT wI wLs wCh wTe wR at *
  refine wp_bm H ?_; rintro ⟨c, l, h⟩ H
  cases c <;> exact H
/-- a loop over written items -/
@[irreducible] noncomputable def wLo (n : Nat) (i : Nat) (b : List S) (xs : List V) (l : Lc) (h : Hp) (Q : RQ) : Prop := wp (loopS (fun v (a : Lc × Hp) => execs progP n b (a.1.set i (some v)) a.2) xs (l, h)) (fun r => Q r.1 r.2.1 r.2.2)
theorem wLo_def (n : Nat) (i : Nat) (b : List S) (xs : List V) (l : Lc) (h : Hp) (Q : RQ) : wLo n i b xs l h Q = wp (loopS (fun v (a : Lc × Hp) => execs progP n b (a.1.set i (some v)) a.2) xs (l, h)) (fun r => Q r.1 r.2.1 r.2.2) := by unfold wLo; rfl
theorem wLo_nil {i b} {Q : RQ} (H : Q .next l h) : wLo n i b [] l h Q := by delta wE wEs wF wN wX wXs wB wU wC wT wI wLs wCh wTe wR wLo at *; exact H
theorem wLo_cons {i b x xs} {Q : RQ} (H : wXs n b (l.set i (some x)) h (fun r l h => wR r (wLo n i b xs l h Q) (fun v => Q (.ret v) l h))) : wLo n i b (x :: xs) l h Q := by
  delta wE wEs wF wN wX wXs wB wU wC wT wI wLs wCh wTe wR wLo at *
  refine wp_bm H ?_; rintro ⟨c, l, h⟩ H
  cases c <;> exact H
theorem wLo_inv {i b} {Q : RQ} (I : Nat → Lc → Hp → Prop) : ∀ (xs : List V) (j0 : Nat) (l : Lc) (h : Hp), I j0 l h →
    (∀ j l h, (hj : j < xs.length) → I (j0 + j) l h → wXs n b (l.set i (some xs[j])) h (fun r l h => wR r (I (j0 + j + 1) l h) (fun v => Q (.ret v) l h))) →
    (∀ l h, I (j0 + xs.length) l h → Q .next l h) → wLo n i b xs l h Q
  | [], _, l, h, h0, _, he => wLo_nil (he l h h0)
  | x :: xs, j0, l, h, h0, hs, he => by
    refine wLo_cons (wXs_mono (hs 0 l h (by simp) h0) ?_)
    intro r l h H
    refine wR_mono H (fun H => ?_) (fun v H => H)
    refine wLo_inv I xs (j0 + 1) l h (by simpa using H) ?_ ?_
    · intro j l h hj Hj
      have := hs (j + 1) l h (by simpa using hj) (by simpa [Nat.add_assoc, Nat.add_comm 1 j] using Hj)
      simpa [Nat.add_assoc, Nat.add_comm 1 j] using this
    · intro l h Hj
      exact he l h (by simpa [Nat.add_assoc, Nat.add_comm 1 xs.length] using Hj)
theorem wX_forI {i it b} {Q : RQ} (H : wE n it l h (fun v h => ∃ xs, srcOf h v = some (.items xs) ∧ decide (i < l.length) = true ∧ wLo n i b xs l h Q)) : wX (n+1) (.for i it b) l h Q := by
  delta wE wEs wF wN wX wXs wB wU wC wT wI wLs wCh wTe wR wLo at *
  refine wp_bm H ?_; rintro ⟨v, h⟩ ⟨xs, e, e2, H⟩
  refine wp_bs e ?_
  exact wp_if (of_decide_eq_true e2) H
end
theorem get_last (h : Hp) (o : O) : (h ++ [o])[h.length]? = some o := by simp
theorem src_rng {h : Hp} {k : Nat} {a b c : Int} (e : h[k]? = some (.rng a b c)) (e2 : rngOk a b c = true) : srcOf h (.ref k) = some (.items (rngItems a b c)) := by
  delta srcOf; dsimp only; rw [e]; exact if_pos e2
theorem pre_app (h g : Hp) : h <+: h ++ g := List.prefix_append h g
theorem exA {α : Type} {p q : α → Prop} {a : α} (h1 : p a) (h2 : q a) : ∃ a, p a ∧ q a := ⟨a, h1, h2⟩
theorem cl1 {x : Bool} {p : Prop} (a : x = true) (b : x = false) : p := by rw [a] at b; exact absurd b (by decide)
theorem wC_notin {h : Hp} {a : Int} {k xs p} {Q : Bool → Prop} (e : h[k]? = some (.tup xs)) (e2 : intsOf xs = some p) (H : Q (!p.contains a)) : wC .NotIn h (.int a) (.ref k) Q := by
  refine wC_val (c := !p.contains a) ?_ H
  delta cmpV inV; dsimp only; rw [e]; dsimp only; rw [e2]; rfl
theorem le9 {n : Nat} (h : n ≤ 20) : n ≤ 900 := Nat.le_trans h (by decide)
theorem ml9 {α : Type} {n : Nat} (f : Nat → α) (h : n ≤ 20) : ((List.range n).map f).length ≤ 1000 := by rw [List.length_map, List.length_range]; exact Nat.le_trans h (by decide)
theorem rl9 {α : Type} {L : List α} {n : Nat} {f : Nat → α} (e : L = (List.range n).map f) (h : n ≤ 20) : L.length ≤ 900 := by rw [e, List.length_map, List.length_range]; exact le9 h
theorem fl9 {n : Nat} (p : Nat → Bool) (h : n ≤ 20) : ((List.range n).filter p).length ≤ 900 := Nat.le_trans (List.length_filter_le _ _) (by rw [List.length_range]; exact le9 h)
end Mine
end
section
open PySem
set_option maxRecDepth 100000
namespace Mine
noncomputable def b0 : List S := [ (.ret (.bin .RShift (.var 0) (.cst (.int 3))))]
theorem wF0 (n : Nat) (a0 : V) (h : Hp) (Q : VQ) : wF (n+1) 0 [a0] h Q = wXs n b0 [some a0] h (fun r _ h => Q (retV r) h) := by rw [wF_def, wXs_def]; exact call0 ..
noncomputable def b1 : List S := [ (.ret (.bin .BitAnd (.var 0) (.cst (.int 7))))]
theorem wF1 (n : Nat) (a0 : V) (h : Hp) (Q : VQ) : wF (n+1) 1 [a0] h Q = wXs n b1 [some a0] h (fun r _ h => Q (retV r) h) := by rw [wF_def, wXs_def]; exact call1 ..
noncomputable def b2 : List S := [ (.ret (.cmp (.bin .BitAnd (.var 0) (.bin .Sub (.var 0) (.cst (.int 1)))) [.NotEq] [(.cst (.int 0))]))]
theorem wF2 (n : Nat) (a0 : V) (h : Hp) (Q : VQ) : wF (n+1) 2 [a0] h Q = wXs n b2 [some a0] h (fun r _ h => Q (retV r) h) := by rw [wF_def, wXs_def]; exact call2 ..
noncomputable def b3 : List S := [ (.iff (.cmp (.var 0) [.Eq] [(.cst (.int 0))]) [(.ret (.un .USub (.cst (.int 1))))] []), (.assign (.var 1) (.cst (.int 1))), (.whl (.bin .RShift (.var 0) (.var 1)) [(.augV 1 .Mult (.cst (.int 2)))]), (.assign (.var 2) (.cst (.int 0))), (.whl (.cmp (.var 1) [.Gt] [(.cst (.int 1))]) [(.augV 1 .FloorDiv (.cst (.int 2))), (.iff (.bin .RShift (.var 0) (.var 1)) [(.augV 0 .RShift (.var 1)), (.augV 2 .Add (.var 1))] [])]), (.ret (.var 2))]
theorem wF3 (n : Nat) (a0 : V) (h : Hp) (Q : VQ) : wF (n+1) 3 [a0] h Q = wXs n b3 [some a0, none, none] h (fun r _ h => Q (retV r) h) := by rw [wF_def, wXs_def]; exact call3 ..
noncomputable def b4 : List S := [ (.ret (.call 3 [(.bin .BitAnd (.var 0) (.un .USub (.var 0)))]))]
theorem wF4 (n : Nat) (a0 : V) (h : Hp) (Q : VQ) : wF (n+1) 4 [a0] h Q = wXs n b4 [some a0] h (fun r _ h => Q (retV r) h) := by rw [wF_def, wXs_def]; exact call4 ..
noncomputable def b5 : List S := [ (.assign (.var 1) (.listE [])), (.assign (.var 2) (.cst (.int 0))), (.whl (.var 0) [(.whl (.un .Not (.bin .BitAnd (.var 0) (.cst (.int 15)))) [(.augV 0 .RShift (.cst (.int 4))), (.augV 2 .Add (.cst (.int 4)))]), (.iff (.bin .BitAnd (.var 0) (.cst (.int 1))) [(.expr (.append (.var 1) (.var 2)))] []), (.augV 0 .RShift (.cst (.int 1))), (.augV 2 .Add (.cst (.int 1)))]), (.ret (.var 1))]
theorem wF5 (n : Nat) (a0 : V) (h : Hp) (Q : VQ) : wF (n+1) 5 [a0] h Q = wXs n b5 [some a0, none, none] h (fun r _ h => Q (retV r) h) := by rw [wF_def, wXs_def]; exact call5 ..
noncomputable def b6 : List S := [ (.for 3 (.bi .range [(.cst (.int 8))]) [(.iff (.bin .BitAnd (.bin .RShift (.sub (.sub (.attr (.var 0) 8) (.var 3)) (.var 1)) (.var 2)) (.cst (.int 1))) [(.ret (.var 3))] [])]), (.ret (.un .USub (.cst (.int 1))))]
theorem wF6 (n : Nat) (a0 a1 a2 : V) (h : Hp) (Q : VQ) : wF (n+1) 6 [a0, a1, a2] h Q = wXs n b6 [some a0, some a1, some a2, none] h (fun r _ h => Q (retV r) h) := by rw [wF_def, wXs_def]; exact call6 ..
noncomputable def b7 : List S := [ (.assign (.var 3) (.call 6 [(.var 0), (.var 1), (.var 2)])), (.iff (.cmp (.var 3) [.Lt] [(.cst (.int 0))]) [(.ret (.cst (.int 0)))] []), (.ret (.bin .BitAnd (.sub (.sub (.attr (.var 0) 8) (.var 3)) (.var 1)) (.sub (.sub (.attr (.var 0) 8) (.bin .BitXor (.var 3) (.cst (.int 2)))) (.var 2))))]
theorem wF7 (n : Nat) (a0 a1 a2 : V) (h : Hp) (Q : VQ) : wF (n+1) 7 [a0, a1, a2] h Q = wXs n b7 [some a0, some a1, some a2, none] h (fun r _ h => Q (retV r) h) := by rw [wF_def, wXs_def]; exact call7 ..
noncomputable def b8 : List S := [ (.ret (.boolE .Or [(.cmp (.sub (.cst (.ref 1)) (.var 0)) [.Gt] [(.cst (.int 0))]), (.cmp (.var 0) [.Eq] [(.cst (.int 1))])]))]
theorem wF8 (n : Nat) (a0 : V) (h : Hp) (Q : VQ) : wF (n+1) 8 [a0] h Q = wXs n b8 [some a0] h (fun r _ h => Q (retV r) h) := by rw [wF_def, wXs_def]; exact call8 ..
noncomputable def b9 : List S := [ (.assign (.var 1) (.bin .Sub (.bin .LShift (.cst (.int 1)) (.attr (.var 0) 0)) (.cst (.int 1)))), (.assign (.var 2) (.cst (.int 0))), (.for 3 (.bi .range [(.attr (.var 0) 1)]) [(.expr (.append (.attr (.var 0) 7) (.bin .LShift (.var 1) (.bin .Mult (.var 3) (.attr (.var 0) 0))))), (.augV 2 .BitOr (.bin .LShift (.cst (.int 1)) (.bin .Mult (.var 3) (.attr (.var 0) 0))))]), (.for 4 (.bi .range [(.attr (.var 0) 0)]) [(.expr (.append (.attr (.var 0) 6) (.bin .LShift (.var 2) (.var 4))))])]
theorem wF9 (n : Nat) (a0 : V) (h : Hp) (Q : VQ) : wF (n+1) 9 [a0] h Q = wXs n b9 [some a0, none, none, none, none] h (fun r _ h => Q (retV r) h) := by rw [wF_def, wXs_def]; exact call9 ..
noncomputable def b10 : List S := [ (.assign (.var 2) (.cst (.int 0))), (.iff (.cmp (.sub (.cst (.ref 0)) (.var 1)) [.Gt] [(.cst (.int 0))]) [(.augV 2 .BitOr (.sub (.attr (.var 0) 6) (.bin .Sub (.attr (.var 0) 0) (.cst (.int 1)))))] []), (.iff (.cmp (.sub (.cst (.ref 0)) (.var 1)) [.Lt] [(.cst (.int 0))]) [(.augV 2 .BitOr (.sub (.attr (.var 0) 6) (.cst (.int 0))))] []), (.iff (.cmp (.sub (.cst (.ref 1)) (.var 1)) [.Gt] [(.cst (.int 0))]) [(.augV 2 .BitOr (.sub (.attr (.var 0) 7) (.bin .Sub (.attr (.var 0) 1) (.cst (.int 1)))))] []), (.iff (.cmp (.sub (.cst (.ref 1)) (.var 1)) [.Lt] [(.cst (.int 0))]) [(.augV 2 .BitOr (.sub (.attr (.var 0) 7) (.cst (.int 0))))] []), (.ret (.bin .BitAnd (.attr (.var 0) 3) (.un .Invert (.var 2))))]
theorem wF10 (n : Nat) (a0 a1 : V) (h : Hp) (Q : VQ) : wF (n+1) 10 [a0, a1] h Q = wXs n b10 [some a0, some a1, none] h (fun r _ h => Q (retV r) h) := by rw [wF_def, wXs_def]; exact call10 ..
noncomputable def b11 : List S := [ (.assign (.attr (.var 0) 9) (.bin .Mult (.listE [(.cst (.int 0))]) (.attr (.var 0) 2))), (.for 1 (.bi .range [(.cst (.int 8))]) [(.assign (.var 2) (.call 10 [(.var 0), (.var 1)])), (.assign (.var 3) (.bin .Add (.bin .Mult (.sub (.cst (.ref 1)) (.var 1)) (.attr (.var 0) 0)) (.sub (.cst (.ref 0)) (.var 1)))), (.assign (.var 4) (.bin .Mult (.listE [(.cst (.int 0))]) (.attr (.var 0) 2))), (.assign (.var 5) (.bi .range [(.attr (.var 0) 2)])), (.iff (.call 8 [(.var 1)]) [(.assign (.var 5) (.bi .range [(.bin .Sub (.attr (.var 0) 2) (.cst (.int 1))), (.un .USub (.cst (.int 1))), (.un .USub (.cst (.int 1)))]))] []), (.for 6 (.var 5) [(.iff (.bin .BitAnd (.bin .RShift (.var 2) (.var 6)) (.cst (.int 1))) [(.assign (.var 7) (.bin .Add (.var 6) (.var 3))), (.assign (.sub (.var 4) (.var 6)) (.bin .BitOr (.sub (.var 4) (.var 7)) (.bin .LShift (.cst (.int 1)) (.var 7)))), (.augS (.attr (.var 0) 9) (.var 6) .BitOr (.bin .LShift (.cst (.int 1)) (.var 7)))] [])]), (.expr (.append (.attr (.var 0) 8) (.var 4)))])]
theorem wF11 (n : Nat) (a0 : V) (h : Hp) (Q : VQ) : wF (n+1) 11 [a0] h Q = wXs n b11 [some a0, none, none, none, none, none, none, none] h (fun r _ h => Q (retV r) h) := by rw [wF_def, wXs_def]; exact call11 ..
noncomputable def b12 : List S := [ (.for 1 (.bi .range [(.attr (.var 0) 2)]) [(.expr (.append (.sub (.attr (.var 0) 11) (.cst (.int 0))) (.bin .BitAnd (.sub (.attr (.var 0) 9) (.var 1)) (.bin .BitOr (.sub (.sub (.attr (.var 0) 8) (.cst (.int 4))) (.var 1)) (.sub (.sub (.attr (.var 0) 8) (.cst (.int 7))) (.var 1)))))), (.expr (.append (.sub (.attr (.var 0) 11) (.cst (.int 1))) (.bin .BitAnd (.sub (.attr (.var 0) 9) (.var 1)) (.bin .BitOr (.sub (.sub (.attr (.var 0) 8) (.cst (.int 5))) (.var 1)) (.sub (.sub (.attr (.var 0) 8) (.cst (.int 6))) (.var 1))))))])]
theorem wF12 (n : Nat) (a0 : V) (h : Hp) (Q : VQ) : wF (n+1) 12 [a0] h Q = wXs n b12 [some a0, none] h (fun r _ h => Q (retV r) h) := by rw [wF_def, wXs_def]; exact call12 ..
noncomputable def b13 : List S := [ (.assign (.var 1) (.attr (.var 0) 0)), (.assign (.var 2) (.bin .BitAnd (.attr (.var 0) 3) (.un .Invert (.sub (.attr (.var 0) 6) (.cst (.int 0)))))), (.assign (.var 3) (.bin .BitAnd (.attr (.var 0) 3) (.un .Invert (.sub (.attr (.var 0) 6) (.bin .Sub (.var 1) (.cst (.int 1))))))), (.assign (.var 4) (.bin .BitAnd (.var 2) (.un .Invert (.sub (.attr (.var 0) 6) (.cst (.int 1)))))), (.assign (.var 5) (.bin .BitAnd (.var 3) (.un .Invert (.sub (.attr (.var 0) 6) (.bin .Sub (.var 1) (.cst (.int 2))))))), (.for 6 (.bi .range [(.attr (.var 0) 2)]) [(.assign (.var 7) (.bin .LShift (.cst (.int 1)) (.var 6))), (.assign (.var 8) (.bin .BitOr (.bin .BitAnd (.bin .LShift (.var 7) (.cst (.int 1))) (.var 2)) (.bin .BitAnd (.bin .RShift (.var 7) (.cst (.int 1))) (.var 3)))), (.assign (.var 9) (.bin .BitOr (.bin .BitAnd (.bin .LShift (.var 7) (.cst (.int 2))) (.var 4)) (.bin .BitAnd (.bin .RShift (.var 7) (.cst (.int 2))) (.var 5)))), (.assign (.var 10) (.bin .BitOr (.bin .BitOr (.bin .BitOr (.bin .LShift (.var 8) (.bin .Mult (.cst (.int 2)) (.var 1))) (.bin .RShift (.var 8) (.bin .Mult (.cst (.int 2)) (.var 1)))) (.bin .LShift (.var 9) (.var 1))) (.bin .RShift (.var 9) (.var 1)))), (.expr (.append (.attr (.var 0) 10) (.bin .BitAnd (.var 10) (.attr (.var 0) 3))))])]
theorem wF13 (n : Nat) (a0 : V) (h : Hp) (Q : VQ) : wF (n+1) 13 [a0] h Q = wXs n b13 [some a0, none, none, none, none, none, none, none, none, none, none] h (fun r _ h => Q (retV r) h) := by rw [wF_def, wXs_def]; exact call13 ..
noncomputable def b14 : List S := [ (.assign (.attr (.var 0) 13) (.bin .Mult (.listE [(.cst (.int 0))]) (.attr (.var 0) 2))), (.assign (.var 1) (.bin .FloorDiv (.attr (.var 0) 0) (.cst (.int 2)))), (.for 2 (.bi .range [(.cst (.int 4))]) [(.assign (.var 3) (.bin .Mult (.bin .Mult (.bin .RShift (.var 2) (.cst (.int 1))) (.bin .Sub (.attr (.var 0) 1) (.cst (.int 1)))) (.attr (.var 0) 0))), (.assign (.var 4) (.bin .Sub (.attr (.var 0) 0) (.cst (.int 1)))), (.assign (.var 5) (.cst (.int 1))), (.iff (.bin .BitAnd (.var 2) (.cst (.int 1))) [(.assign (.var 4) (.cst (.int 0))), (.assign (.var 5) (.un .USub (.cst (.int 1))))] []), (.assign (.var 6) (.bin .Add (.var 1) (.bin .Mult (.cst (.int 2)) (.var 5)))), (.iff (.boolE .And [(.attr (.var 0) 5), (.cmp (.bin .Mult (.bin .Sub (.var 4) (.var 6)) (.var 5)) [.Gt] [(.cst (.int 0))])]) [(.expr (.append (.attr (.var 0) 12) (.tupE [(.bin .Add (.var 3) (.var 1)), (.bin .Add (.var 3) (.var 6)), (.bin .Add (.var 3) (.var 4)), (.bin .Sub (.bin .Add (.var 3) (.var 6)) (.var 5))]))), (.augS (.attr (.var 0) 13) (.bin .Add (.var 3) (.var 1)) .BitOr (.bin .LShift (.cst (.int 1)) (.var 2))), (.augS (.attr (.var 0) 13) (.bin .Add (.var 3) (.var 4)) .BitOr (.bin .LShift (.cst (.int 1)) (.var 2)))] [(.expr (.append (.attr (.var 0) 12) (.cst .none)))])])]
theorem wF14 (n : Nat) (a0 : V) (h : Hp) (Q : VQ) : wF (n+1) 14 [a0] h Q = wXs n b14 [some a0, none, none, none, none, none, none] h (fun r _ h => Q (retV r) h) := by rw [wF_def, wXs_def]; exact call14 ..
noncomputable def b15 : List S := [ (.iff (.boolE .Or [(.cmp (.var 0) [.Lt] [(.cst (.int 2))]), (.cmp (.var 0) [.Gt] [(.cst (.int 8))]), (.cmp (.var 1) [.Lt] [(.cst (.int 3))]), (.cmp (.var 1) [.Gt] [(.cst (.int 8))])]) [.bad] []), (.assign (.var 4) (.new 0 [(.var 0), (.var 1), (.var 2), (.var 3)])), (.expr (.call 9 [(.var 4)])), (.expr (.call 11 [(.var 4)])), (.expr (.call 12 [(.var 4)])), (.expr (.call 13 [(.var 4)])), (.expr (.call 14 [(.var 4)])), (.ret (.var 4))]
theorem wF15 (n : Nat) (a0 a1 a2 a3 : V) (h : Hp) (Q : VQ) : wF (n+1) 15 [a0, a1, a2, a3] h Q = wXs n b15 [some a0, some a1, some a2, some a3, none] h (fun r _ h => Q (retV r) h) := by rw [wF_def, wXs_def]; exact call15 ..
noncomputable def b16 : List S := [ (.assign (.var 4) (.sub (.sub (.attr (.var 0) 8) (.var 1)) (.var 2))), (.assign (.var 5) (.bin .BitAnd (.var 4) (.var 3))), (.iff (.cmp (.var 5) [.Eq] [(.cst (.int 0))]) [(.ret (.var 4))] []), (.iff (.call 8 [(.var 1)]) [(.ret (.bin .BitAnd (.var 4) (.bin .BitXor (.var 5) (.bin .Sub (.var 5) (.cst (.int 1))))))] []), (.assign (.var 6) (.bin .RShift (.var 5) (.cst (.int 1)))), (.augV 6 .BitOr (.bin .RShift (.var 6) (.cst (.int 1)))), (.augV 6 .BitOr (.bin .RShift (.var 6) (.cst (.int 2)))), (.augV 6 .BitOr (.bin .RShift (.var 6) (.cst (.int 4)))), (.augV 6 .BitOr (.bin .RShift (.var 6) (.cst (.int 8)))), (.augV 6 .BitOr (.bin .RShift (.var 6) (.cst (.int 16)))), (.augV 6 .BitOr (.bin .RShift (.var 6) (.cst (.int 32)))), (.ret (.bin .BitAnd (.var 4) (.un .Invert (.var 6))))]
theorem wF16 (n : Nat) (a0 a1 a2 a3 : V) (h : Hp) (Q : VQ) : wF (n+1) 16 [a0, a1, a2, a3] h Q = wXs n b16 [some a0, some a1, some a2, some a3, none, none, none] h (fun r _ h => Q (retV r) h) := by rw [wF_def, wXs_def]; exact call16 ..
noncomputable def b17 : List S := [ (.assign (.var 3) (.cst (.int 0))), (.for 4 (.bi .range [(.cst (.int 4))]) [(.augV 3 .BitOr (.call 16 [(.var 0), (.var 4), (.var 1), (.var 2)]))]), (.ret (.var 3))]
theorem wF17 (n : Nat) (a0 a1 a2 : V) (h : Hp) (Q : VQ) : wF (n+1) 17 [a0, a1, a2] h Q = wXs n b17 [some a0, some a1, some a2, none, none] h (fun r _ h => Q (retV r) h) := by rw [wF_def, wXs_def]; exact call17 ..
noncomputable def b18 : List S := [ (.assign (.var 3) (.cst (.int 0))), (.for 4 (.bi .range [(.cst (.int 4)), (.cst (.int 8))]) [(.augV 3 .BitOr (.call 16 [(.var 0), (.var 4), (.var 1), (.var 2)]))]), (.ret (.var 3))]
theorem wF18 (n : Nat) (a0 a1 a2 : V) (h : Hp) (Q : VQ) : wF (n+1) 18 [a0, a1, a2] h Q = wXs n b18 [some a0, some a1, some a2, none, none] h (fun r _ h => Q (retV r) h) := by rw [wF_def, wXs_def]; exact call18 ..
noncomputable def b19 : List S := [ (.ret (.bin .BitOr (.call 17 [(.var 0), (.var 1), (.var 2)]) (.call 18 [(.var 0), (.var 1), (.var 2)])))]
theorem wF19 (n : Nat) (a0 a1 a2 : V) (h : Hp) (Q : VQ) : wF (n+1) 19 [a0, a1, a2] h Q = wXs n b19 [some a0, some a1, some a2] h (fun r _ h => Q (retV r) h) := by rw [wF_def, wXs_def]; exact call19 ..
noncomputable def b20 : List S := [ (.iff (.cmp (.var 1) [.Eq] [(.cst (.int 3))]) [(.ret (.call 18 [(.var 0), (.var 2), (.var 3)]))] []), (.iff (.cmp (.var 1) [.Eq] [(.cst (.int 4))]) [(.ret (.call 17 [(.var 0), (.var 2), (.var 3)]))] []), (.iff (.cmp (.var 1) [.Eq] [(.cst (.int 5))]) [(.ret (.call 19 [(.var 0), (.var 2), (.var 3)]))] []), (.ret (.cst (.int 0)))]
theorem wF20 (n : Nat) (a0 a1 a2 a3 : V) (h : Hp) (Q : VQ) : wF (n+1) 20 [a0, a1, a2, a3] h Q = wXs n b20 [some a0, some a1, some a2, some a3] h (fun r _ h => Q (retV r) h) := by rw [wF_def, wXs_def]; exact call20 ..
noncomputable def b21 : List S := [ (.iff (.cmp (.var 2) [.Eq] [(.cst (.int 1))]) [(.ret (.sub (.sub (.attr (.var 0) 11) (.var 1)) (.var 3)))] []), (.iff (.cmp (.var 2) [.Eq] [(.cst (.int 2))]) [(.ret (.sub (.attr (.var 0) 10) (.var 3)))] []), (.iff (.cmp (.var 2) [.Eq] [(.cst (.int 6))]) [(.ret (.sub (.attr (.var 0) 9) (.var 3)))] []), (.ret (.call 20 [(.var 0), (.var 2), (.var 3), (.var 4)]))]
theorem wF21 (n : Nat) (a0 a1 a2 a3 a4 : V) (h : Hp) (Q : VQ) : wF (n+1) 21 [a0, a1, a2, a3, a4] h Q = wXs n b21 [some a0, some a1, some a2, some a3, some a4] h (fun r _ h => Q (retV r) h) := by rw [wF_def, wXs_def]; exact call21 ..
noncomputable def b22 : List S := [ (.assign (.var 3) (.bin .LShift (.cst (.int 1)) (.var 2))), (.assign (.sub (.attr (.var 0) 16) (.var 2)) (.var 1)), (.augS (.attr (.var 0) 17) (.call 1 [(.var 1)]) .BitOr (.var 3)), (.augS (.attr (.var 0) 18) (.call 0 [(.var 1)]) .BitOr (.var 3)), (.augA (.var 0) 23 .BitXor (.sub (.sub (.attr (.attr (.var 0) 15) 25) (.var 1)) (.var 2)))]
theorem wF22 (n : Nat) (a0 a1 a2 : V) (h : Hp) (Q : VQ) : wF (n+1) 22 [a0, a1, a2] h Q = wXs n b22 [some a0, some a1, some a2, none] h (fun r _ h => Q (retV r) h) := by rw [wF_def, wXs_def]; exact call22 ..
noncomputable def b23 : List S := [ (.ret (.call 4 [(.bin .BitAnd (.sub (.attr (.var 0) 18) (.var 1)) (.sub (.attr (.var 0) 17) (.cst (.int 6))))]))]
theorem wF23 (n : Nat) (a0 a1 : V) (h : Hp) (Q : VQ) : wF (n+1) 23 [a0, a1] h Q = wXs n b23 [some a0, some a1] h (fun r _ h => Q (retV r) h) := by rw [wF_def, wXs_def]; exact call23 ..
noncomputable def b24 : List S := [ (.ret (.bin .BitOr (.sub (.attr (.var 0) 17) (.cst (.int 4))) (.sub (.attr (.var 0) 17) (.cst (.int 5)))))]
theorem wF24 (n : Nat) (a0 : V) (h : Hp) (Q : VQ) : wF (n+1) 24 [a0] h Q = wXs n b24 [some a0] h (fun r _ h => Q (retV r) h) := by rw [wF_def, wXs_def]; exact call24 ..
noncomputable def b25 : List S := [ (.ret (.bin .BitOr (.sub (.attr (.var 0) 17) (.cst (.int 3))) (.sub (.attr (.var 0) 17) (.cst (.int 5)))))]
theorem wF25 (n : Nat) (a0 : V) (h : Hp) (Q : VQ) : wF (n+1) 25 [a0] h Q = wXs n b25 [some a0] h (fun r _ h => Q (retV r) h) := by rw [wF_def, wXs_def]; exact call25 ..
noncomputable def b26 : List S := [ (.ret (.bin .BitAnd (.bin .BitAnd (.sub (.sub (.attr (.attr (.var 0) 14) 11) (.bin .Sub (.cst (.int 1)) (.var 2))) (.var 1)) (.sub (.attr (.var 0) 17) (.cst (.int 1)))) (.sub (.attr (.var 0) 18) (.var 2))))]
theorem wF26 (n : Nat) (a0 a1 a2 : V) (h : Hp) (Q : VQ) : wF (n+1) 26 [a0, a1, a2] h Q = wXs n b26 [some a0, some a1, some a2] h (fun r _ h => Q (retV r) h) := by rw [wF_def, wXs_def]; exact call26 ..
noncomputable def b27 : List S := [ (.assign (.var 3) (.attr (.var 0) 14)), (.assign (.var 4) (.bin .BitAnd (.sub (.attr (.var 3) 10) (.var 1)) (.sub (.attr (.var 0) 17) (.cst (.int 2))))), (.augV 4 .BitOr (.bin .BitAnd (.sub (.attr (.var 3) 9) (.var 1)) (.sub (.attr (.var 0) 17) (.cst (.int 6))))), (.ret (.bin .BitOr (.call 26 [(.var 0), (.var 1), (.var 2)]) (.bin .BitAnd (.var 4) (.sub (.attr (.var 0) 18) (.var 2)))))]
theorem wF27 (n : Nat) (a0 a1 a2 : V) (h : Hp) (Q : VQ) : wF (n+1) 27 [a0, a1, a2] h Q = wXs n b27 [some a0, some a1, some a2, none, none] h (fun r _ h => Q (retV r) h) := by rw [wF_def, wXs_def]; exact call27 ..
noncomputable def b28 : List S := [ (.assign (.var 3) (.cst (.int 0))), (.assign (.var 4) (.call 24 [(.var 0)])), (.iff (.var 4) [(.augV 3 .BitOr (.bin .BitAnd (.call 17 [(.attr (.var 0) 14), (.var 1), (.var 2)]) (.var 4)))] []), (.assign (.var 5) (.call 25 [(.var 0)])), (.iff (.var 5) [(.augV 3 .BitOr (.bin .BitAnd (.call 18 [(.attr (.var 0) 14), (.var 1), (.var 2)]) (.var 5)))] []), (.ret (.var 3))]
theorem wF28 (n : Nat) (a0 a1 a2 : V) (h : Hp) (Q : VQ) : wF (n+1) 28 [a0, a1, a2] h Q = wXs n b28 [some a0, some a1, some a2, none, none, none] h (fun r _ h => Q (retV r) h) := by rw [wF_def, wXs_def]; exact call28 ..
noncomputable def b29 : List S := [ (.assign (.var 3) (.bin .BitOr (.call 27 [(.var 0), (.var 1), (.cst (.int 0))]) (.call 27 [(.var 0), (.var 1), (.cst (.int 1))]))), (.ret (.bin .BitOr (.var 3) (.call 28 [(.var 0), (.var 1), (.var 2)])))]
theorem wF29 (n : Nat) (a0 a1 a2 : V) (h : Hp) (Q : VQ) : wF (n+1) 29 [a0, a1, a2] h Q = wXs n b29 [some a0, some a1, some a2, none] h (fun r _ h => Q (retV r) h) := by rw [wF_def, wXs_def]; exact call29 ..
noncomputable def b30 : List S := [ (.iff (.call 27 [(.var 0), (.var 1), (.var 2)]) [(.ret (.cst (.bool true)))] []), (.assign (.var 4) (.attr (.var 0) 14)), (.assign (.var 5) (.sub (.attr (.var 0) 18) (.var 2))), (.assign (.var 6) (.bin .BitAnd (.call 24 [(.var 0)]) (.var 5))), (.iff (.boolE .And [(.var 6), (.bin .BitAnd (.call 17 [(.var 4), (.var 1), (.var 3)]) (.var 6))]) [(.ret (.cst (.bool true)))] []), (.assign (.var 7) (.bin .BitAnd (.call 25 [(.var 0)]) (.var 5))), (.ret (.boolE .And [(.cmp (.var 7) [.NotEq] [(.cst (.int 0))]), (.cmp (.bin .BitAnd (.call 18 [(.var 4), (.var 1), (.var 3)]) (.var 7)) [.NotEq] [(.cst (.int 0))])]))]
theorem wF30 (n : Nat) (a0 a1 a2 a3 : V) (h : Hp) (Q : VQ) : wF (n+1) 30 [a0, a1, a2, a3] h Q = wXs n b30 [some a0, some a1, some a2, some a3, none, none, none, none] h (fun r _ h => Q (retV r) h) := by rw [wF_def, wXs_def]; exact call30 ..
noncomputable def b31 : List S := [ (.assign (.var 2) (.bin .BitOr (.sub (.attr (.var 0) 18) (.cst (.int 0))) (.sub (.attr (.var 0) 18) (.cst (.int 1))))), (.ret (.bin .BitAnd (.call 29 [(.var 0), (.call 23 [(.var 0), (.var 1)]), (.var 2)]) (.sub (.attr (.var 0) 18) (.bin .Sub (.cst (.int 1)) (.var 1)))))]
theorem wF31 (n : Nat) (a0 a1 : V) (h : Hp) (Q : VQ) : wF (n+1) 31 [a0, a1] h Q = wXs n b31 [some a0, some a1, none] h (fun r _ h => Q (retV r) h) := by rw [wF_def, wXs_def]; exact call31 ..
noncomputable def b32 : List S := [ (.ret (.call 31 [(.var 0), (.attr (.var 0) 19)]))]
theorem wF32 (n : Nat) (a0 : V) (h : Hp) (Q : VQ) : wF (n+1) 32 [a0] h Q = wXs n b32 [some a0] h (fun r _ h => Q (retV r) h) := by rw [wF_def, wXs_def]; exact call32 ..
noncomputable def b33 : List S := [ (.assign (.var 2) (.bin .BitOr (.sub (.attr (.var 0) 18) (.cst (.int 0))) (.sub (.attr (.var 0) 18) (.cst (.int 1))))), (.ret (.call 30 [(.var 0), (.call 23 [(.var 0), (.var 1)]), (.bin .Sub (.cst (.int 1)) (.var 1)), (.var 2)]))]
theorem wF33 (n : Nat) (a0 a1 : V) (h : Hp) (Q : VQ) : wF (n+1) 33 [a0, a1] h Q = wXs n b33 [some a0, some a1, none] h (fun r _ h => Q (retV r) h) := by rw [wF_def, wXs_def]; exact call33 ..
noncomputable def b34 : List S := [ (.ret (.call 33 [(.var 0), (.attr (.var 0) 19)]))]
theorem wF34 (n : Nat) (a0 : V) (h : Hp) (Q : VQ) : wF (n+1) 34 [a0] h Q = wXs n b34 [some a0] h (fun r _ h => Q (retV r) h) := by rw [wF_def, wXs_def]; exact call34 ..
noncomputable def b35 : List S := [ (.ret (.un .Not (.call 33 [(.var 0), (.bin .Sub (.cst (.int 1)) (.attr (.var 0) 19))])))]
theorem wF35 (n : Nat) (a0 : V) (h : Hp) (Q : VQ) : wF (n+1) 35 [a0] h Q = wXs n b35 [some a0] h (fun r _ h => Q (retV r) h) := by rw [wF_def, wXs_def]; exact call35 ..
noncomputable def b36 : List S := [ (.assign (.var 2) (.call 23 [(.var 0), (.var 1)])), (.assign (.var 3) (.bin .BitAnd (.call 17 [(.attr (.var 0) 14), (.var 2), (.cst (.int 0))]) (.call 24 [(.var 0)]))), (.augV 3 .BitOr (.bin .BitAnd (.call 18 [(.attr (.var 0) 14), (.var 2), (.cst (.int 0))]) (.call 25 [(.var 0)]))), (.ret (.bin .BitAnd (.var 3) (.sub (.attr (.var 0) 18) (.bin .Sub (.cst (.int 1)) (.var 1)))))]
theorem wF36 (n : Nat) (a0 a1 : V) (h : Hp) (Q : VQ) : wF (n+1) 36 [a0, a1] h Q = wXs n b36 [some a0, some a1, none, none] h (fun r _ h => Q (retV r) h) := by rw [wF_def, wXs_def]; exact call36 ..
noncomputable def b37 : List S := [ (.assign (.var 2) (.call 23 [(.var 0), (.var 1)])), (.assign (.var 3) (.call 36 [(.var 0), (.var 1)])), (.assign (.var 4) (.bin .BitXor (.bin .BitOr (.sub (.attr (.var 0) 18) (.cst (.int 0))) (.sub (.attr (.var 0) 18) (.cst (.int 1)))) (.var 3))), (.assign (.var 5) (.cst (.int 0))), (.assign (.var 6) (.cst (.int 0))), (.for 7 (.call 5 [(.var 3)]) [(.assign (.var 8) (.bin .BitAnd (.call 7 [(.attr (.var 0) 14), (.var 2), (.var 7)]) (.var 4))), (.iff (.boolE .And [(.var 8), (.un .Not (.call 2 [(.var 8)]))]) [(.augV 5 .BitOr (.var 8)), (.iff (.bin .BitAnd (.var 8) (.sub (.attr (.var 0) 18) (.var 1))) [(.augV 6 .BitOr (.bin .LShift (.cst (.int 1)) (.var 7)))] [])] [])]), (.ret (.tupE [(.var 5), (.var 6)]))]
theorem wF37 (n : Nat) (a0 a1 : V) (h : Hp) (Q : VQ) : wF (n+1) 37 [a0, a1] h Q = wXs n b37 [some a0, some a1, none, none, none, none, none, none, none] h (fun r _ h => Q (retV r) h) := by rw [wF_def, wXs_def]; exact call37 ..
noncomputable def b38 : List S := [ (.ret (.bin .BitAnd (.sub (.call 37 [(.var 0), (.var 1)]) (.cst (.int 0))) (.sub (.attr (.var 0) 18) (.var 1))))]
theorem wF38 (n : Nat) (a0 a1 : V) (h : Hp) (Q : VQ) : wF (n+1) 38 [a0, a1] h Q = wXs n b38 [some a0, some a1] h (fun r _ h => Q (retV r) h) := by rw [wF_def, wXs_def]; exact call38 ..
noncomputable def b39 : List S := [ (.assign (.var 3) (.cst (.int 0))), (.for 4 (.tupE [(.cst (.int 1)), (.cst (.int 2)), (.cst (.int 3)), (.cst (.int 4)), (.cst (.int 5)), (.cst (.int 6))]) [(.for 5 (.call 5 [(.bin .BitAnd (.sub (.attr (.var 0) 17) (.var 4)) (.sub (.attr (.var 0) 18) (.var 1)))]) [(.augV 3 .BitOr (.call 21 [(.attr (.var 0) 14), (.var 1), (.var 4), (.var 5), (.var 2)]))])]), (.ret (.var 3))]
theorem wF39 (n : Nat) (a0 a1 a2 : V) (h : Hp) (Q : VQ) : wF (n+1) 39 [a0, a1, a2] h Q = wXs n b39 [some a0, some a1, some a2, none, none, none] h (fun r _ h => Q (retV r) h) := by rw [wF_def, wXs_def]; exact call39 ..
noncomputable def b40 : List S := [ (.ret (.call 39 [(.var 0), (.var 1), (.bin .BitOr (.sub (.attr (.var 0) 18) (.cst (.int 0))) (.sub (.attr (.var 0) 18) (.cst (.int 1))))]))]
theorem wF40 (n : Nat) (a0 a1 : V) (h : Hp) (Q : VQ) : wF (n+1) 40 [a0, a1] h Q = wXs n b40 [some a0, some a1] h (fun r _ h => Q (retV r) h) := by rw [wF_def, wXs_def]; exact call40 ..
noncomputable def b41 : List S := [ (.assign (.var 2) (.bin .BitOr (.sub (.attr (.var 0) 18) (.cst (.int 0))) (.sub (.attr (.var 0) 18) (.cst (.int 1))))), (.ret (.call 39 [(.var 0), (.bin .Sub (.cst (.int 1)) (.var 1)), (.bin .BitXor (.var 2) (.bin .LShift (.cst (.int 1)) (.call 23 [(.var 0), (.var 1)])))]))]
theorem wF41 (n : Nat) (a0 a1 : V) (h : Hp) (Q : VQ) : wF (n+1) 41 [a0, a1] h Q = wXs n b41 [some a0, some a1, none] h (fun r _ h => Q (retV r) h) := by rw [wF_def, wXs_def]; exact call41 ..
noncomputable def b42 : List S := [ (.ret (.listE [(.cst (.int 3)), (.cst (.int 1)), (.cst (.int 16)), (.cst (.int 8)), (.cst (.int 32)), (.cst (.int 0)), (.cst (.int 11)), (.cst (.int 8)), (.cst (.int 11)), (.cst (.int 0)), (.cst (.int 11)), (.cst (.int 9))]))]
theorem wF42 (n : Nat) (h : Hp) (Q : VQ) : wF (n+1) 42 [] h Q = wXs n b42 [] h (fun r _ h => Q (retV r) h) := by rw [wF_def, wXs_def]; exact call42 ..
noncomputable def b43 : List S := [ (.assign (.var 5) (.bin .Sub (.bin .Mod (.var 3) (.var 0)) (.bin .Mod (.var 2) (.var 0)))), (.assign (.var 6) (.bin .Sub (.bin .FloorDiv (.var 3) (.var 0)) (.bin .FloorDiv (.var 2) (.var 0)))), (.assign (.var 7) (.bi .max [(.bi .abs [(.var 5)]), (.bi .abs [(.var 6)])])), (.assign (.var 8) (.bin .Mod (.var 1) (.cst (.int 8)))), (.iff (.cmp (.var 8) [.Eq] [(.cst (.int 1))]) [(.ret (.boolE .And [(.cmp (.bi .abs [(.var 5)]) [.Eq] [(.cst (.int 1))]), (.cmp (.var 6) [.Eq] [(.ife (.cmp (.var 1) [.Lt] [(.cst (.int 8))]) (.cst (.int 1)) (.un .USub (.cst (.int 1))))])]))] []), (.iff (.cmp (.var 8) [.Eq] [(.cst (.int 2))]) [(.ret (.cmp (.bi .abs [(.bin .Mult (.var 5) (.var 6))]) [.Eq] [(.cst (.int 2))]))] []), (.iff (.cmp (.var 8) [.Eq] [(.cst (.int 6))]) [(.ret (.cmp (.var 7) [.Eq] [(.cst (.int 1))]))] []), (.iff (.boolE .Or [(.cmp (.var 7) [.Eq] [(.cst (.int 0))]), (.cmp (.bi .abs [(.var 5)]) [.NotIn] [(.tupE [(.cst (.int 0)), (.var 7)])]), (.cmp (.bi .abs [(.var 6)]) [.NotIn] [(.tupE [(.cst (.int 0)), (.var 7)])])]) [(.ret (.cst (.bool false)))] []), (.iff (.boolE .Or [(.boolE .And [(.cmp (.var 8) [.Eq] [(.cst (.int 3))]), (.cmp (.bin .Mult (.var 5) (.var 6)) [.Eq] [(.cst (.int 0))])]), (.boolE .And [(.cmp (.var 8) [.Eq] [(.cst (.int 4))]), (.cmp (.bin .Mult (.var 5) (.var 6)) [.NotEq] [(.cst (.int 0))])])]) [(.ret (.cst (.bool false)))] []), (.for 9 (.bi .range [(.cst (.int 1)), (.var 7)]) [(.iff (.sub (.var 4) (.bin .Add (.var 2) (.bin .Mult (.var 9) (.bin .Add (.bin .FloorDiv (.var 5) (.var 7)) (.bin .Mult (.bin .FloorDiv (.var 6) (.var 7)) (.var 0)))))) [(.ret (.cst (.bool false)))] [])]), (.ret (.cst (.bool true)))]
theorem wF43 (n : Nat) (a0 a1 a2 a3 a4 : V) (h : Hp) (Q : VQ) : wF (n+1) 43 [a0, a1, a2, a3, a4] h Q = wXs n b43 [some a0, some a1, some a2, some a3, some a4, none, none, none, none, none] h (fun r _ h => Q (retV r) h) := by rw [wF_def, wXs_def]; exact call43 ..
noncomputable def b44 : List S := [ (.ret (.comp (.var 5) (.bi .range [(.bi .len [(.var 1)])]) [(.boolE .And [(.sub (.var 0) (.var 5)), (.cmp (.bin .FloorDiv (.sub (.var 0) (.var 5)) (.cst (.int 8))) [.Eq] [(.var 4)]), (.call 43 [(.var 1), (.sub (.var 0) (.var 5)), (.var 5), (.var 2), (.var 3)])])] [1, 0, 2, 3, 4]))]
theorem wF44 (n : Nat) (a0 a1 a2 a3 a4 : V) (h : Hp) (Q : VQ) : wF (n+1) 44 [a0, a1, a2, a3, a4] h Q = wXs n b44 [some a0, some a1, some a2, some a3, some a4] h (fun r _ h => Q (retV r) h) := by rw [wF_def, wXs_def]; exact call44 ..
noncomputable def b45 : List S := [ (.assign (.var 1) (.cst (.int 0))), (.for 2 (.var 0) [(.augV 1 .Add (.bin .LShift (.cst (.int 1)) (.var 2)))]), (.ret (.var 1))]
theorem wF45 (n : Nat) (a0 : V) (h : Hp) (Q : VQ) : wF (n+1) 45 [a0] h Q = wXs n b45 [some a0, none, none] h (fun r _ h => Q (retV r) h) := by rw [wF_def, wXs_def]; exact call45 ..
noncomputable def b46 : List S := [ (.assign (.vars [4, 5, 6, 7]) (.tupE [(.bin .Mod (.var 1) (.var 0)), (.bin .FloorDiv (.var 1) (.var 0)), (.bin .Mod (.var 2) (.var 0)), (.bin .FloorDiv (.var 2) (.var 0))])), (.assign (.swap 8 9) (.tupE [(.bin .Mod (.var 3) (.var 0)), (.bin .FloorDiv (.var 3) (.var 0))])), (.iff (.boolE .Or [(.cmp (.var 3) [.Eq] [(.var 1)]), (.cmp (.var 3) [.Eq] [(.var 2)]), (.cmp (.bin .Mult (.bin .Sub (.var 8) (.var 4)) (.bin .Sub (.var 7) (.var 5))) [.NotEq] [(.bin .Mult (.bin .Sub (.var 9) (.var 5)) (.bin .Sub (.var 6) (.var 4)))])]) [(.ret (.cst (.bool false)))] []), (.ret (.boolE .And [(.cmp (.bi .min [(.var 4), (.var 6)]) [.LtE, .LtE] [(.var 8), (.bi .max [(.var 4), (.var 6)])]), (.cmp (.bi .min [(.var 5), (.var 7)]) [.LtE, .LtE] [(.var 9), (.bi .max [(.var 5), (.var 7)])])]))]
theorem wF46 (n : Nat) (a0 a1 a2 a3 : V) (h : Hp) (Q : VQ) : wF (n+1) 46 [a0, a1, a2, a3] h Q = wXs n b46 [some a0, some a1, some a2, some a3, none, none, none, none, none, none] h (fun r _ h => Q (retV r) h) := by rw [wF_def, wXs_def]; exact call46 ..
noncomputable def b47 : List S := [ (.assign (.var 4) (.bin .Mult (.listE [(.cst (.int 0))]) (.bi .len [(.var 1)]))), (.assign (.var 6) (.comp (.var 1) (.call 44 [(.var 0), (.var 1), (.var 2), (.var 4), (.bin .Sub (.cst (.int 1)) (.var 3))]) [(.cmp (.bin .Mod (.sub (.var 0) (.var 1)) (.cst (.int 8))) [.In] [(.tupE [(.cst (.int 3)), (.cst (.int 4)), (.cst (.int 5))])])] [1])), (.assign (.var 7) (.listE [])), (.assign (.var 8) (.listE [])), (.for 5 (.var 6) [(.assign (.var 9) (.comp (.var 5) (.bi .range [(.bi .len [(.var 1)])]) [(.boolE .And [(.sub (.var 0) (.var 5)), (.cmp (.var 5) [.NotIn] [(.var 3)]), (.call 46 [(.var 1), (.var 2), (.var 4), (.var 5)])])] [1, 0, 2, 6, 5])), (.iff (.cmp (.bi .len [(.var 9)]) [.Eq] [(.cst (.int 1))]) [(.iff (.cmp (.sub (.var 9) (.cst (.int 0))) [.NotIn] [(.var 7)]) [(.expr (.append (.var 7) (.sub (.var 9) (.cst (.int 0)))))] []), (.iff (.cmp (.bin .FloorDiv (.sub (.var 1) (.sub (.var 9) (.cst (.int 0)))) (.cst (.int 8))) [.Eq] [(.var 3)]) [(.expr (.append (.var 8) (.var 5)))] [])] [])]), (.ret (.tupE [(.var 7), (.var 8)]))]
theorem wF47 (n : Nat) (a0 a1 a2 a3 : V) (h : Hp) (Q : VQ) : wF (n+1) 47 [a0, a1, a2, a3] h Q = wXs n b47 [some a0, some a1, some a2, some a3, none, none, none, none, none, none] h (fun r _ h => Q (retV r) h) := by rw [wF_def, wXs_def]; exact call47 ..
noncomputable def b48 : List S := [ (.assign (.var 1) (.sliceTo (.var 0) (.cst (.int 20)))), (.assign (.var 1) (.bin .Add (.var 1) (.sliceFrom (.call 42 []) (.bi .len [(.var 1)])))), (.assign (.vars [2, 3]) (.sub (.cst (.ref 2)) (.bin .Mod (.sub (.var 1) (.cst (.int 0))) (.cst (.int 4))))), (.assign (.var 4) (.bin .Mult (.var 2) (.var 3))), (.assign (.var 5) (.bin .Mult (.listE [(.cst (.int 0))]) (.var 4))), (.assign (.var 6) (.listE [(.bin .Mod (.sub (.var 1) (.cst (.int 1))) (.var 4)), (.bin .Mod (.bin .Add (.bin .Add (.bin .Mod (.sub (.var 1) (.cst (.int 1))) (.var 4)) (.cst (.int 1))) (.bin .Mod (.sub (.var 1) (.cst (.int 2))) (.bin .Sub (.var 4) (.cst (.int 1))))) (.var 4))])), (.assign (.sub (.var 5) (.sub (.var 6) (.cst (.int 0)))) (.cst (.int 6))), (.assign (.sub (.var 5) (.sub (.var 6) (.cst (.int 1)))) (.cst (.int 14))), (.assign (.var 7) (.sub (.var 6) (.cst (.int 0)))), (.for 8 (.bi .range [(.cst (.int 6)), (.bin .Sub (.bi .len [(.var 1)]) (.cst (.int 1))), (.cst (.int 2))]) [(.assign (.var 7) (.bin .Mod (.bin .Add (.bin .Add (.var 7) (.cst (.int 1))) (.sub (.var 1) (.var 8))) (.var 4))), (.assign (.var 9) (.bin .Add (.cst (.int 1)) (.bin .Mod (.sub (.var 1) (.bin .Add (.var 8) (.cst (.int 1)))) (.cst (.int 5))))), (.iff (.boolE .And [(.cmp (.sub (.var 5) (.var 7)) [.Eq] [(.cst (.int 0))]), (.boolE .Or [(.cmp (.var 9) [.Gt] [(.cst (.int 1))]), (.cmp (.cst (.int 0)) [.Lt, .Lt] [(.bin .FloorDiv (.var 7) (.var 2)), (.bin .Sub (.var 3) (.cst (.int 1)))])])]) [(.assign (.sub (.var 5) (.var 7)) (.bin .Add (.var 9) (.bin .Mult (.cst (.int 8)) (.bin .Mod (.bin .FloorDiv (.sub (.var 1) (.bin .Add (.var 8) (.cst (.int 1)))) (.cst (.int 5))) (.cst (.int 2))))))] [])]), (.assign (.var 10) (.new 1 [(.call 15 [(.var 2), (.var 3), (.cst (.bool false)), (.cst (.bool false))]), (.new 2 [(.bin .Mult (.listE [(.bin .Mult (.listE [(.cst (.int 0))]) (.var 4))]) (.cst (.int 15))), (.bin .Mult (.listE [(.cst (.int 0))]) (.var 2)), (.bin .Mult (.listE [(.cst (.int 0))]) (.cst (.int 16))), (.cst (.int 0))])])), (.for 11 (.bi .range [(.var 4)]) [(.iff (.sub (.var 5) (.var 11)) [(.expr (.call 22 [(.var 10), (.sub (.var 5) (.var 11)), (.var 11)]))] [])]), (.assign (.attr (.var 10) 19) (.bin .Mod (.sub (.var 1) (.cst (.int 5))) (.cst (.int 2)))), (.assign (.var 12) (.bin .Mod (.sub (.var 1) (.cst (.int 3))) (.var 4))), (.assign (.var 13) (.bin .Mod (.sub (.var 1) (.cst (.int 4))) (.bin .LShift (.cst (.int 1)) (.var 4)))), (.assign (.var 14) (.comp (.bin .BitXor (.ife (.sub (.var 0) (.var 2)) (.cst (.int 1)) (.cst (.int 0))) (.bin .BitAnd (.bin .RShift (.var 1) (.var 2)) (.cst (.int 1)))) (.bi .range [(.var 4)]) [] [5, 13])), (.assign (.var 15) (.call 45 [(.comp (.var 1) (.bi .range [(.var 4)]) [(.sub (.var 0) (.var 1))] [14])])), (.assign (.var 17) (.comp (.call 44 [(.var 1), (.var 0), (.var 3), (.var 2), (.var 4)]) (.tupE [(.cst (.int 0)), (.cst (.int 1))]) [] [5, 2, 14, 12])), (.iff (.cmp (.call 29 [(.var 10), (.var 12), (.var 15)]) [.NotEq] [(.call 45 [(.bin .Add (.sub (.var 17) (.cst (.int 0))) (.sub (.var 17) (.cst (.int 1))))])]) [(.ret (.cst (.bool false)))] []), (.for 16 (.tupE [(.cst (.int 0)), (.cst (.int 1))]) [(.iff (.cmp (.call 30 [(.var 10), (.var 12), (.var 16), (.var 15)]) [.NotEq] [(.cmp (.sub (.var 17) (.var 16)) [.NotEq] [(.listE [])])]) [(.ret (.cst (.bool false)))] []), (.assign (.vars [18, 19]) (.call 47 [(.var 2), (.var 5), (.sub (.var 6) (.var 16)), (.var 16)])), (.iff (.cmp (.call 37 [(.var 10), (.var 16)]) [.NotEq] [(.tupE [(.call 45 [(.var 18)]), (.call 45 [(.var 19)])])]) [(.ret (.cst (.bool false)))] []), (.iff (.cmp (.call 38 [(.var 10), (.var 16)]) [.NotEq] [(.call 45 [(.comp (.var 2) (.var 18) [(.cmp (.bin .FloorDiv (.sub (.var 0) (.var 2)) (.cst (.int 8))) [.Eq] [(.var 1)])] [5, 16])])]) [(.ret (.cst (.bool false)))] []), (.assign (.var 20) (.call 44 [(.var 2), (.var 5), (.sub (.var 6) (.var 16)), (.var 5), (.bin .Sub (.cst (.int 1)) (.var 16))])), (.iff (.cmp (.call 33 [(.var 10), (.var 16)]) [.NotEq] [(.cmp (.var 20) [.NotEq] [(.listE [])])]) [(.ret (.cst (.bool false)))] []), (.iff (.boolE .And [(.cmp (.var 16) [.NotEq] [(.attr (.var 10) 19)]), (.cmp (.call 35 [(.var 10)]) [.NotEq] [(.cmp (.var 20) [.Eq] [(.listE [])])])]) [(.ret (.cst (.bool false)))] []), (.iff (.boolE .And [(.cmp (.var 16) [.Eq] [(.attr (.var 10) 19)]), (.boolE .Or [(.cmp (.call 32 [(.var 10)]) [.NotEq] [(.call 45 [(.var 20)])]), (.cmp (.call 34 [(.var 10)]) [.NotEq] [(.cmp (.var 20) [.NotEq] [(.listE [])])])])]) [(.ret (.cst (.bool false)))] [])]), (.assign (.var 16) (.attr (.var 10) 19)), (.assign (.var 21) (.comp (.ife (.cmp (.var 3) [.Eq] [(.sub (.var 1) (.var 2))]) (.cst (.int 0)) (.sub (.var 0) (.var 3))) (.bi .range [(.var 4)]) [] [5, 6, 16])), (.assign (.var 22) (.call 45 [(.comp (.var 3) (.bi .range [(.var 4)]) [(.call 44 [(.var 1), (.var 0), (.var 3), (.var 0), (.var 2)])] [5, 2, 16])])), (.assign (.var 23) (.call 45 [(.comp (.var 4) (.bi .range [(.var 4)]) [(.call 44 [(.var 1), (.var 0), (.var 4), (.var 2), (.bin .Sub (.cst (.int 1)) (.var 3))])] [5, 2, 21, 16])])), (.ret (.boolE .And [(.cmp (.call 40 [(.var 10), (.var 16)]) [.Eq] [(.var 22)]), (.cmp (.call 41 [(.var 10), (.var 16)]) [.Eq] [(.var 23)])]))]
theorem wF48 (n : Nat) (a0 : V) (h : Hp) (Q : VQ) : wF (n+1) 48 [a0] h Q = wXs n b48 [some a0, none, none, none, none, none, none, none, none, none, none, none, none, none, none, none, none, none, none, none, none, none, none, none] h (fun r _ h => Q (retV r) h) := by rw [wF_def, wXs_def]; exact call48 ..
noncomputable def b49 : List S := [ (.assign (.attr (.var 0) 0) (.var 1)), (.assign (.attr (.var 0) 1) (.var 2)), (.assign (.attr (.var 0) 2) (.bin .Mult (.var 1) (.var 2))), (.assign (.attr (.var 0) 3) (.bin .Sub (.bin .LShift (.cst (.int 1)) (.bin .Mult (.var 1) (.var 2))) (.cst (.int 1)))), (.assign (.attr (.var 0) 4) (.boolE .And [(.var 3), (.cmp (.var 2) [.GtE] [(.cst (.int 5))])])), (.assign (.attr (.var 0) 5) (.var 4)), (.assign (.attr (.var 0) 6) (.listE [])), (.assign (.attr (.var 0) 7) (.listE [])), (.assign (.attr (.var 0) 8) (.listE [])), (.assign (.attr (.var 0) 9) (.listE [])), (.assign (.attr (.var 0) 10) (.listE [])), (.assign (.attr (.var 0) 11) (.listE [(.listE []), (.listE [])])), (.assign (.attr (.var 0) 12) (.listE [])), (.assign (.attr (.var 0) 13) (.listE []))]
theorem wF49 (n : Nat) (a0 a1 a2 a3 a4 : V) (h : Hp) (Q : VQ) : wF (n+1) 49 [a0, a1, a2, a3, a4] h Q = wXs n b49 [some a0, some a1, some a2, some a3, some a4] h (fun r _ h => Q (retV r) h) := by rw [wF_def, wXs_def]; exact call49 ..
noncomputable def b50 : List S := [ (.assign (.attr (.var 0) 14) (.var 1)), (.assign (.attr (.var 0) 15) (.var 2)), (.assign (.attr (.var 0) 16) (.bin .Mult (.listE [(.cst (.int 0))]) (.attr (.var 1) 2))), (.assign (.attr (.var 0) 17) (.bin .Mult (.listE [(.cst (.int 0))]) (.cst (.int 7)))), (.assign (.attr (.var 0) 18) (.listE [(.cst (.int 0)), (.cst (.int 0))])), (.assign (.attr (.var 0) 19) (.cst (.int 0))), (.assign (.attr (.var 0) 20) (.cst (.int 0))), (.assign (.attr (.var 0) 21) (.un .USub (.cst (.int 1)))), (.assign (.attr (.var 0) 22) (.cst (.int 0))), (.assign (.attr (.var 0) 3) (.cst (.int 1))), (.assign (.attr (.var 0) 23) (.cst (.int 0))), (.assign (.attr (.var 0) 24) (.listE []))]
theorem wF50 (n : Nat) (a0 a1 a2 : V) (h : Hp) (Q : VQ) : wF (n+1) 50 [a0, a1, a2] h Q = wXs n b50 [some a0, some a1, some a2] h (fun r _ h => Q (retV r) h) := by rw [wF_def, wXs_def]; exact call50 ..
noncomputable def b51 : List S := [ (.assign (.attr (.var 0) 25) (.var 1)), (.assign (.attr (.var 0) 21) (.var 2)), (.assign (.attr (.var 0) 20) (.var 3)), (.assign (.attr (.var 0) 19) (.var 4))]
theorem wF51 (n : Nat) (a0 a1 a2 a3 a4 : V) (h : Hp) (Q : VQ) : wF (n+1) 51 [a0, a1, a2, a3, a4] h Q = wXs n b51 [some a0, some a1, some a2, some a3, some a4] h (fun r _ h => Q (retV r) h) := by rw [wF_def, wXs_def]; exact call51 ..
end Mine
end
section
open PySem
namespace Mine
local macro_rules | `(tactic| walk_at "e") => `(tactic| first
  | refine wE_var rfl ?_ | refine wE_cst ?_ | refine wE_bin ?_
  | refine wB_add ?_ | refine wB_sub ?_ | refine wB_or ?_ | refine wB_and ?_ | refine wB_xor ?_
  | refine wB_shr (by decide) ?_ | refine wB_mod (by first | decide | assumption) ?_ | refine wB_fdiv (by first | decide | assumption) (by first | decide | assumption) ?_
  | refine wE_un ?_ | refine wU_neg ?_ | refine wU_inv ?_ | refine wU_not ?_
  | refine wT_int ?_ | refine wT_bool ?_ | refine wT_none ?_ | refine wB_mul (by assumption) (by assumption) ?_ | refine wC_notin (get_last _ _) rfl ?_
  | refine wC_eq ?_ | refine wC_ne ?_ | refine wC_lt ?_ | refine wC_gt ?_ | refine wC_le ?_ | refine wC_ge ?_ | refine wC_eqb ?_ | refine wC_neb ?_
  | refine wE_boolE ?_ | refine wLs_one ?_ | refine wLs_and ?_ | refine wLs_or ?_
  | refine wE_cmp ?_ | refine wCh_one ?_
  | refine wE_call ?_ | refine wE_bi ?_ | refine wEs_nil ?_ | refine wEs_cons ?_
  | refine wE_attr ?_ | refine wE_sub ?_
  | refine wTe_in ?_ | refine wE_ife ?_ | refine wI_range1 rfl ?_ | refine wI_range2 rfl ?_ | refine wI_range3 rfl ?_
  | refine wI_abs ?_ | refine wI_max ?_ | refine wI_min ?_ | refine wE_listE ?_ | refine wE_tupE ?_ | refine wCh_two ?_
  | refine wX_assV rfl ?_ | refine wX_ret ?_ | refine wX_expr ?_ | refine wX_augV rfl ?_ | refine wX_iff ?_ | refine wX_augA ?_ | refine wX_augS ?_
  | refine wR_next ?_ | refine wR_ret ?_
  | refine wLo_cons ?_ | refine wLo_nil ?_
  | refine wXs_cons ?_ | refine wXs_nil ?_
  | refine Exists.intro _ (And.intro rfl ?_)
  | apply exA; focus (with_reducible (first | assumption | (apply getA_app; assumption; assumption) | (apply getV_app; assumption; assumption)))
  | refine And.intro rfl ?_
  | refine And.intro (fun hc => ?_) (fun hc => ?_) <;> (first | (exact absurd hc (by decide)) | (exact cl1 hc (by assumption)) | (exact cl1 (by assumption) hc) | skip)
  | fail)
local macro_rules | `(tactic| walk_at "es") => `(tactic| repeat' walk_at "e")
section
set_option maxRecDepth 100000
noncomputable def sfT : List Int := [0, 1, 0, -1, 1, 1, -1, -1]
noncomputable def srT : List Int := [1, 0, -1, 0, 1, -1, -1, 1]
noncomputable def rayGo (F R : Nat) (df dr : Int) : Nat → Int → Int → List Nat
  | 0, _, _ => []
  | n + 1, f, r =>
    let f' := f + df
    let r' := r + dr
    if decide (0 ≤ f') && decide (f' < F) && decide (0 ≤ r') && decide (r' < R) then (r' * F + f').toNat :: rayGo F R df dr n f' r' else []
/-- the squares from s on in the direction d, near ones first -/
noncomputable def rayL (F R d s : Nat) : List Nat := rayGo F R (sfT.getD d 0) (srT.getD d 0) 5 (s % F : Nat) (s / F : Nat)
noncomputable def mask : List Nat → Nat
  | [] => 0
  | a :: r => 2 ^ a ||| mask r
noncomputable def ray (F R d s : Nat) : Nat := mask (rayL F R d s)
noncomputable def nearT (F R : Nat) (l : List (Int × Int)) (s : Nat) : Nat := mask ((List.range (F * R)).filter fun t => l.contains (((t % F : Nat) : Int) - ((s % F : Nat) : Int), ((t / F : Nat) : Int) - ((s / F : Nat) : Int)))
noncomputable def kingT (F R s : Nat) : Nat := nearT F R [(0, 1), (1, 0), (0, -1), (-1, 0), (1, 1), (1, -1), (-1, -1), (-1, 1)] s
noncomputable def knightT (F R s : Nat) : Nat := nearT F R [(1, 2), (2, 1), (1, -2), (2, -1), (-1, 2), (-2, 1), (-1, -2), (-2, -1)] s
noncomputable def pawnT (F R v s : Nat) : Nat := nearT F R (if v = 0 then [(1, 1), (-1, 1)] else [(1, -1), (-1, -1)]) s

structure GeoOK (h : Hp) (g F R : Nat) : Prop where
  rays : ∃ k, getA h (.ref g) 8 = some (.ref k) ∧ ∀ d : Nat, d < 8 → ∃ j, getV h (.ref k) (.int d) = some (.ref j) ∧ ∀ s : Nat, s < F * R → getV h (.ref j) (.int s) = some (.int (ray F R d s))
  king : ∃ k, getA h (.ref g) 9 = some (.ref k) ∧ ∀ s : Nat, s < F * R → getV h (.ref k) (.int s) = some (.int (kingT F R s))
  knight : ∃ k, getA h (.ref g) 10 = some (.ref k) ∧ ∀ s : Nat, s < F * R → getV h (.ref k) (.int s) = some (.int (knightT F R s))
  pawn : ∃ k, getA h (.ref g) 11 = some (.ref k) ∧ ∀ v : Nat, v < 2 → ∃ j, getV h (.ref k) (.int v) = some (.ref j) ∧ ∀ s : Nat, s < F * R → getV h (.ref j) (.int s) = some (.int (pawnT F R v s))
  steps : h[1]? = some (.tup (srT.map .int))

theorem GeoOK.app {h h' : Hp} {g F R : Nat} (G : GeoOK h g F R) (p : h <+: h') : GeoOK h' g F R := by
  refine ⟨?_, ?_, ?_, ?_, get_app p G.steps⟩
  · obtain ⟨k, e, H⟩ := G.rays
    refine ⟨k, getA_app p e, fun d hd => ?_⟩
    obtain ⟨j, e, H⟩ := H d hd
    exact ⟨j, getV_app p e, fun s hs => getV_app p (H s hs)⟩
  · obtain ⟨k, e, H⟩ := G.king
    exact ⟨k, getA_app p e, fun s hs => getV_app p (H s hs)⟩
  · obtain ⟨k, e, H⟩ := G.knight
    exact ⟨k, getA_app p e, fun s hs => getV_app p (H s hs)⟩
  · obtain ⟨k, e, H⟩ := G.pawn
    refine ⟨k, getA_app p e, fun d hd => ?_⟩
    obtain ⟨j, e, H⟩ := H d hd
    exact ⟨j, getV_app p e, fun s hs => getV_app p (H s hs)⟩

noncomputable def growing (d : Nat) : Bool := decide (0 < srT.getD d 0) || decide (d = 1)

@[elab_as_elim] theorem lt8 {P : Nat → Prop} (h0 : P 0) (h1 : P 1) (h2 : P 2) (h3 : P 3) (h4 : P 4) (h5 : P 5) (h6 : P 6) (h7 : P 7) : ∀ d, d < 8 → P d
  | 0, _ => h0 | 1, _ => h1 | 2, _ => h2 | 3, _ => h3 | 4, _ => h4 | 5, _ => h5 | 6, _ => h6 | 7, _ => h7
  | n + 8, h => absurd h (Nat.not_lt.mpr (Nat.le_add_left 8 n))
theorem get_steps {h : Hp} (hs : h[1]? = some (.tup (srT.map .int))) {d : Nat} (hd : d < 8) : getV h (.ref 1) (.int d) = some (.int (srT.getD d 0)) := by
  delta getV
  dsimp only
  rw [hs]
  refine (if_pos (by rw [decide_eq_true (Int.natCast_nonneg d), decide_eq_true (show (d : Int) < 1000 by omega)]; rfl)).trans ?_
  exact lt8 rfl rfl rfl rfl rfl rfl rfl rfl d hd


theorem is_growing_c (n : Nat) {h : Hp} (hs : h[1]? = some (.tup (srT.map .int))) {d : Nat} (hd : d < 8) {Q : VQ}
    (hq : Q (.bool (growing d)) h) : wF (n + 10) 8 [.int d] h Q := by
  rw [wF8]; unfold b8
  walk_at "es"
  refine ⟨_, get_steps hs hd, ?_⟩
  walk_at "es"
  · rename_i hc
    have e : growing d = decide (0 < srT.getD d 0) := by unfold growing; rw [hc]; rfl
    rw [e] at hq; exact hq
  · rename_i hc
    have e : growing d = ((d : Int) == 1) := by
      unfold growing; rw [hc]
      clear hq hc; exact lt8 rfl rfl rfl rfl rfl rfl rfl rfl d hd
    rw [e] at hq; exact hq

noncomputable def smear (stop : Int) : Int :=
  let b := stop.fdiv 2
  let b := Builtin.bitOr b (b.fdiv 2)
  let b := Builtin.bitOr b (b.fdiv 4)
  let b := Builtin.bitOr b (b.fdiv 16)
  let b := Builtin.bitOr b (b.fdiv 256)
  let b := Builtin.bitOr b (b.fdiv 65536)
  Builtin.bitOr b (b.fdiv 4294967296)
noncomputable def rayI (g : Bool) (ray occ : Int) : Int :=
  if Builtin.bitAnd ray occ = 0 then ray
  else if g then Builtin.bitAnd ray (Builtin.bitXor (Builtin.bitAnd ray occ) (Builtin.bitAnd ray occ - 1))
  else Builtin.bitAnd ray (Builtin.bitNot (smear (Builtin.bitAnd ray occ)))

theorem ray_attacks_c (n : Nat) {h : Hp} {g F R : Nat} (G : GeoOK h g F R) {d s : Nat} (hd : d < 8) (hs : s < F * R) (occ : Int) {Q : VQ}
    (hq : Q (.int (rayI (growing d) (ray F R d s) occ)) h) : wF (n + 30) 16 [.ref g, .int d, .int s, .int occ] h Q := by
  obtain ⟨k, e1, H⟩ := G.rays
  obtain ⟨j, e2, H⟩ := H d hd
  have e3 := H s hs
  rw [wF16]; unfold b16
  walk_at "es"
  · rename_i hc
    have e : rayI (growing d) (ray F R d s) occ = (ray F R d s : Int) := by unfold rayI; rw [if_pos (by simpa using hc)]
    rw [e] at hq; exact hq
  · rename_i hc
    have hc : ¬ Builtin.bitAnd (ray F R d s) occ = 0 := by simpa using hc
    refine is_growing_c (n + 13) G.steps hd ?_
    walk_at "es"
    · rename_i hg
      have e : rayI (growing d) (ray F R d s) occ = Builtin.bitAnd (ray F R d s) (Builtin.bitXor (Builtin.bitAnd (ray F R d s) occ) (Builtin.bitAnd (ray F R d s) occ - 1)) := by
        unfold rayI; rw [if_neg hc, if_pos hg]
      rw [e] at hq; exact hq
    · rename_i hg
      have e : rayI (growing d) (ray F R d s) occ = Builtin.bitAnd (ray F R d s) (Builtin.bitNot (smear (Builtin.bitAnd (ray F R d s) occ))) := by
        unfold rayI; rw [if_neg hc, if_neg (by rw [hg]; decide)]
      rw [e] at hq; exact hq
end
section
set_option maxRecDepth 100000
set_option linter.unusedSimpArgs false
set_option linter.unusedVariables false
theorem band_n (a b : Nat) : Builtin.bitAnd (a : Int) (b : Int) = ((a &&& b : Nat) : Int) := by
  unfold Builtin.bitAnd
  rw [decide_eq_true (Int.natCast_nonneg a), decide_eq_true (Int.natCast_nonneg b)]
  rfl
theorem bnot_neg (a : Nat) : ¬ (0 ≤ Builtin.bitNot (a : Int)) := by unfold Builtin.bitNot; (first | lia | omega)
theorem bnot_bnot (a : Int) : Builtin.bitNot (Builtin.bitNot a) = a := by unfold Builtin.bitNot; (first | lia | omega)
theorem bor_n (a b : Nat) : Builtin.bitOr (a : Int) (b : Int) = ((a ||| b : Nat) : Int) := by
  unfold Builtin.bitOr Builtin.bitAnd
  rw [decide_eq_false (bnot_neg a), decide_eq_false (bnot_neg b)]
  simp only [bnot_bnot]
  rfl
theorem bor_z (b : Nat) : Builtin.bitOr 0 (b : Int) = (b : Int) := by
  have := bor_n 0 b
  rw [Nat.zero_or] at this
  exact this
theorem or_sub_and (a b : Nat) : (a ||| b) = (a ^^^ b) + (a &&& b) := by
  induction a using Nat.strongRecOn generalizing b with
  | _ a ih =>
    by_cases h0 : a = 0
    · subst h0; simp
    · have h1 := ih (a / 2) (by (first | lia | omega)) (b / 2)
      have e1 : (a ||| b) / 2 = a / 2 ||| b / 2 := Nat.or_div_two
      have e2 : (a ^^^ b) / 2 = a / 2 ^^^ b / 2 := Nat.xor_div_two
      have e3 : (a &&& b) / 2 = a / 2 &&& b / 2 := Nat.and_div_two
      have f1 := Nat.testBit_or a b 0
      have f2 := Nat.testBit_xor a b 0
      have f3 := Nat.testBit_and a b 0
      simp only [Nat.testBit_zero] at f1 f2 f3
      rcases Nat.mod_two_eq_zero_or_one a with ha | ha <;> rcases Nat.mod_two_eq_zero_or_one b with hb | hb <;>
        simp only [ha, hb, Nat.zero_ne_one, decide_false, decide_true, Bool.or_false, Bool.or_true, Bool.and_false, Bool.and_true, Bool.xor_false, Bool.false_xor, Bool.xor_true, Bool.not_true, Bool.not_false, Bool.or_self, Bool.and_self, Bool.xor_self, decide_eq_true_eq, decide_eq_false_iff_not] at f1 f2 f3 <;> (first | lia | omega)
theorem bxor_n (a b : Nat) : Builtin.bitXor (a : Int) (b : Int) = ((a ^^^ b : Nat) : Int) := by
  unfold Builtin.bitXor
  rw [bor_n, band_n]
  have := or_sub_and a b
  (first | lia | omega)

theorem testBit_mask (l : List Nat) (t : Nat) : (mask l).testBit t = decide (t ∈ l) := by
  induction l with
  | nil => simp [mask]
  | cons a r ih =>
    simp only [mask, Nat.testBit_or, ih, Nat.testBit_two_pow, List.mem_cons]
    by_cases h1 : a = t
    · simp [h1]
    · simp [h1]
      intro h; exact absurd h.symm h1
/-- up to the first that stands, that one too -/
noncomputable def attL (p : Nat → Bool) : List Nat → List Nat
  | [] => []
  | a :: r => if p a then [a] else a :: attL p r
noncomputable def subs : List Nat → List (List Nat)
  | [] => [[]]
  | a :: r => subs r ++ (subs r).map (a :: ·)
theorem filter_subs (p : Nat → Bool) (l : List Nat) : l.filter p ∈ subs l := by
  induction l with
  | nil => simp [subs]
  | cons a r ih =>
    simp only [subs, List.filter_cons]
    split
    · exact List.mem_append_right _ (List.mem_map_of_mem ih)
    · exact List.mem_append_left _ ih
theorem mask_and (l : List Nat) (occ : Nat) : mask l &&& occ = mask (l.filter occ.testBit) := by
  apply Nat.eq_of_testBit_eq
  intro i
  simp only [Nat.testBit_and, testBit_mask]
  rw [Bool.eq_iff_iff]
  simp
theorem attL_congr {p q : Nat → Bool} {l : List Nat} (h : ∀ a ∈ l, p a = q a) : attL p l = attL q l := by
  induction l with
  | nil => rfl
  | cons a r ih =>
    simp only [attL]
    rw [h a (by simp), ih (fun a ha => h a (by simp [ha]))]
noncomputable def shapes : List (Nat × Nat) := [(4, 4), (3, 5), (5, 4), (4, 5)]
theorem ray_check : ∀ S ∈ shapes, ∀ d, d < 8 → ∀ s, s < S.1 * S.2 → ∀ u ∈ subs (rayL S.1 S.2 d s),
    rayI (growing d) (mask (rayL S.1 S.2 d s)) (mask u) = mask (attL (fun x => u.contains x) (rayL S.1 S.2 d s)) := by decide +kernel
noncomputable def attN (F R d s occ : Nat) : Nat := mask (attL occ.testBit (rayL F R d s))
theorem rayI_and (g : Bool) (r o : Nat) : rayI g r o = rayI g r (r &&& o : Nat) := by
  unfold rayI
  have e : Builtin.bitAnd (r : Int) (o : Int) = Builtin.bitAnd (r : Int) ((r &&& o : Nat) : Int) := by
    rw [band_n, band_n, ← Nat.and_assoc, Nat.and_self]
  rw [e]
theorem rayI_eq {F R : Nat} (hS : (F, R) ∈ shapes) {d s : Nat} (hd : d < 8) (hs : s < F * R) (occ : Nat) :
    rayI (growing d) (ray F R d s) occ = attN F R d s occ := by
  unfold ray
  rw [rayI_and, mask_and]
  have := ray_check (F, R) hS d hd s hs _ (filter_subs occ.testBit _)
  simp only at this
  rw [this]
  unfold attN
  congr 2
  apply attL_congr
  intro a ha
  rw [Bool.eq_iff_iff]
  simp [ha]
end
section
set_option maxRecDepth 100000
set_option linter.unusedSimpArgs false
set_option linter.unusedVariables false
theorem fin_int {Q : VQ} {x y : Int} {h : Hp} (e : x = y) (H : Q (.int y) h) : Q (.int x) h := by subst e; exact H
theorem fin_bool {Q : VQ} {x y : Bool} {h : Hp} (e : x = y) (H : Q (.bool y) h) : Q (.bool x) h := by subst e; exact H
theorem ray_c (n : Nat) {h : Hp} {g F R : Nat} (G : GeoOK h g F R) (hS : (F, R) ∈ shapes) {d s : Nat} (hd : d < 8) (hs : s < F * R) (occ : Nat) {Q : VQ}
    (hq : Q (.int (attN F R d s occ)) h) : wF (n + 30) 16 [.ref g, .int d, .int s, .int occ] h Q := by
  refine ray_attacks_c n G hd hs occ ?_
  rw [rayI_eq hS hd hs occ]
  exact hq
noncomputable def rookN (F R s occ : Nat) : Nat := attN F R 0 s occ ||| attN F R 1 s occ ||| attN F R 2 s occ ||| attN F R 3 s occ
noncomputable def bishN (F R s occ : Nat) : Nat := attN F R 4 s occ ||| attN F R 5 s occ ||| attN F R 6 s occ ||| attN F R 7 s occ
theorem items04 : rngItems 0 4 1 = [.int (0 : Nat), .int (1 : Nat), .int (2 : Nat), .int (3 : Nat)] := rfl
theorem items48 : rngItems 4 8 1 = [.int (4 : Nat), .int (5 : Nat), .int (6 : Nat), .int (7 : Nat)] := rfl
theorem rook_c (n : Nat) {h : Hp} {g F R : Nat} (G : GeoOK h g F R) (hS : (F, R) ∈ shapes) {s : Nat} (hs : s < F * R) (occ : Nat) {Q : VQ}
    (hq : ∀ h', h <+: h' → Q (.int (rookN F R s occ)) h') : wF (n + 60) 17 [.ref g, .int s, .int occ] h Q := by
  rw [wF17]; unfold b17
  walk_at "es"
  refine wX_forI ?_
  walk_at "es"
  refine ⟨_, src_rng (get_last _ _) rfl, rfl, ?_⟩
  rw [items04]
  have G2 := G.app (pre_app h [.rng 0 4 1])
  walk_at "es"
  refine ray_c (d := 0) _ G2 hS (by decide) hs occ ?_
  walk_at "es"
  refine ray_c (d := 1) _ G2 hS (by decide) hs occ ?_
  walk_at "es"
  refine ray_c (d := 2) _ G2 hS (by decide) hs occ ?_
  walk_at "es"
  refine ray_c (d := 3) _ G2 hS (by decide) hs occ ?_
  walk_at "es"
  refine fin_int ?_ (hq _ (pre_app _ _))
  simp only [bor_z, bor_n, rookN]
theorem bish_c (n : Nat) {h : Hp} {g F R : Nat} (G : GeoOK h g F R) (hS : (F, R) ∈ shapes) {s : Nat} (hs : s < F * R) (occ : Nat) {Q : VQ}
    (hq : ∀ h', h <+: h' → Q (.int (bishN F R s occ)) h') : wF (n + 60) 18 [.ref g, .int s, .int occ] h Q := by
  rw [wF18]; unfold b18
  walk_at "es"
  refine wX_forI ?_
  walk_at "es"
  refine ⟨_, src_rng (get_last _ _) rfl, rfl, ?_⟩
  rw [items48]
  have G2 := G.app (pre_app h [.rng 4 8 1])
  walk_at "es"
  refine ray_c (d := 4) _ G2 hS (by decide) hs occ ?_
  walk_at "es"
  refine ray_c (d := 5) _ G2 hS (by decide) hs occ ?_
  walk_at "es"
  refine ray_c (d := 6) _ G2 hS (by decide) hs occ ?_
  walk_at "es"
  refine ray_c (d := 7) _ G2 hS (by decide) hs occ ?_
  walk_at "es"
  refine fin_int ?_ (hq _ (pre_app _ _))
  simp only [bor_z, bor_n, bishN]
end
section
set_option maxRecDepth 100000
set_option linter.unusedSimpArgs false
set_option linter.unusedVariables false
set_option genSizeOf false
set_option genInjectivity false
noncomputable def queenN (F R s occ : Nat) : Nat := rookN F R s occ ||| bishN F R s occ
theorem queen_c (n : Nat) {h : Hp} {g F R : Nat} (G : GeoOK h g F R) (hS : (F, R) ∈ shapes) {s : Nat} (hs : s < F * R) (occ : Nat) {Q : VQ}
    (hq : ∀ h', h <+: h' → Q (.int (queenN F R s occ)) h') : wF (n + 80) 19 [.ref g, .int s, .int occ] h Q := by
  rw [wF19]; unfold b19
  walk_at "es"
  refine rook_c _ G hS hs occ fun h1 p1 => ?_
  walk_at "es"
  refine bish_c _ (G.app p1) hS hs occ fun h2 p2 => ?_
  walk_at "es"
  refine fin_int ?_ (hq _ (p1.trans p2))
  simp only [bor_n, queenN]
noncomputable def slidN (F R kind s occ : Nat) : Nat := if kind = 3 then bishN F R s occ else if kind = 4 then rookN F R s occ else if kind = 5 then queenN F R s occ else 0
theorem slider_c (n : Nat) {h : Hp} {g F R : Nat} (G : GeoOK h g F R) (hS : (F, R) ∈ shapes) (kind : Nat) {s : Nat} (hs : s < F * R) (occ : Nat) {Q : VQ}
    (hq : ∀ h', h <+: h' → Q (.int (slidN F R kind s occ)) h') : wF (n + 100) 20 [.ref g, .int kind, .int s, .int occ] h Q := by
  rw [wF20]; unfold b20
  walk_at "es"
  · rename_i hc
    refine bish_c _ G hS hs occ fun h1 p1 => ?_
    walk_at "es"
    refine fin_int ?_ (hq _ p1)
    have : kind = 3 := by have := of_decide_eq_true hc; (first | lia | omega)
    simp only [slidN, this]; rfl
  · rename_i h3 hc
    refine rook_c _ G hS hs occ fun h1 p1 => ?_
    walk_at "es"
    refine fin_int ?_ (hq _ p1)
    have : kind = 4 := by have := of_decide_eq_true hc; (first | lia | omega)
    simp only [slidN, this]; rfl
  · rename_i h3 h4 hc
    refine queen_c _ G hS hs occ fun h1 p1 => ?_
    walk_at "es"
    refine fin_int ?_ (hq _ p1)
    have : kind = 5 := by have := of_decide_eq_true hc; (first | lia | omega)
    simp only [slidN, this]; rfl
  · rename_i h3 h4 h5
    refine fin_int ?_ (hq _ (List.prefix_refl _))
    have h3 := of_decide_eq_false h3
    have h4 := of_decide_eq_false h4
    have h5 := of_decide_eq_false h5
    simp only [slidN]
    rw [if_neg (by (first | lia | omega)), if_neg (by (first | lia | omega)), if_neg (by (first | lia | omega))]; rfl
noncomputable def pieceN (F R v kind s occ : Nat) : Nat := if kind = 1 then pawnT F R v s else if kind = 2 then knightT F R s else if kind = 6 then kingT F R s else slidN F R kind s occ
set_option maxHeartbeats 1000000 in
theorem piece_c (n : Nat) {h : Hp} {g F R : Nat} (G : GeoOK h g F R) (hS : (F, R) ∈ shapes) {v : Nat} (hv : v < 2) (kind : Nat) {s : Nat} (hs : s < F * R) (occ : Nat) {Q : VQ}
    (hq : ∀ h', h <+: h' → Q (.int (pieceN F R v kind s occ)) h') : wF (n + 120) 21 [.ref g, .int v, .int kind, .int s, .int occ] h Q := by
  obtain ⟨kn, en, Hn⟩ := G.knight
  obtain ⟨kk, ek, Hk⟩ := G.king
  obtain ⟨kp, ep, Hp⟩ := G.pawn
  obtain ⟨kv, ev, Hv⟩ := Hp v hv
  have e1 := Hn s hs
  have e2 := Hk s hs
  have e3 := Hv s hs
  rw [wF21]; unfold b21
  walk_at "es"
  · rename_i hc
    refine fin_int ?_ (hq _ (List.prefix_refl _))
    have : kind = 1 := by have := of_decide_eq_true hc; (first | lia | omega)
    simp only [pieceN, this]; rfl
  · rename_i h3 hc
    refine fin_int ?_ (hq _ (List.prefix_refl _))
    have : kind = 2 := by have := of_decide_eq_true hc; (first | lia | omega)
    simp only [pieceN, this]; rfl
  · rename_i h3 h4 hc
    refine fin_int ?_ (hq _ (List.prefix_refl _))
    have : kind = 6 := by have := of_decide_eq_true hc; (first | lia | omega)
    simp only [pieceN, this]; rfl
  · rename_i h3 h4 h5
    refine slider_c _ G hS kind hs occ fun h1 p1 => ?_
    walk_at "es"
    refine fin_int ?_ (hq _ p1)
    have h3 := of_decide_eq_false h3
    have h4 := of_decide_eq_false h4
    have h5 := of_decide_eq_false h5
    simp only [pieceN]
    rw [if_neg (by (first | lia | omega)), if_neg (by (first | lia | omega)), if_neg (by (first | lia | omega))]

/-- what the walk knows of the position -/
structure Wo where
  p : Nat
  g : Nat
  kk : Nat
  ss : Nat
  F : Nat
  R : Nat
  kd : Nat → Nat
  sd : Nat → Nat
  side : Nat
  kq : Nat → Nat
structure Wd (w : Wo) (h : Hp) : Prop where
  geo : GeoOK h w.g w.F w.R
  hS : (w.F, w.R) ∈ shapes
  pg : getA h (.ref w.p) 14 = some (.ref w.g)
  pk : getA h (.ref w.p) 17 = some (.ref w.kk)
  ps : getA h (.ref w.p) 18 = some (.ref w.ss)
  pd : getA h (.ref w.p) 19 = some (.int w.side)
  k : ∀ i : Nat, i < 7 → getV h (.ref w.kk) (.int i) = some (.int (w.kd i))
  s : ∀ v : Nat, v < 2 → getV h (.ref w.ss) (.int v) = some (.int (w.sd v))
  hk : ∀ v : Nat, v < 2 → w.sd v &&& w.kd 6 = 2 ^ w.kq v ∧ w.kq v < w.F * w.R
  hv : w.side < 2
  hb : ∀ v : Nat, v < 2 → w.sd v < 2 ^ (w.F * w.R)
theorem Wd.app {w : Wo} {h h' : Hp} (W : Wd w h) (p : h <+: h') : Wd w h' :=
  ⟨W.geo.app p, W.hS, getA_app p W.pg, getA_app p W.pk, getA_app p W.ps, getA_app p W.pd, fun i hi => getV_app p (W.k i hi), fun i hi => getV_app p (W.s i hi), W.hk, W.hv, W.hb⟩
noncomputable def stN (w : Wo) : Nat := w.kd 4 ||| w.kd 5
noncomputable def slN (w : Wo) : Nat := w.kd 3 ||| w.kd 5
theorem straight_c (n : Nat) {w : Wo} {h : Hp} (W : Wd w h) {Q : VQ} (hq : Q (.int (stN w)) h) : wF (n + 20) 24 [.ref w.p] h Q := by
  have e1 := W.pk
  have e2 : getV h (.ref w.kk) (.int 4) = some (.int (w.kd 4)) := W.k 4 (by decide)
  have e3 : getV h (.ref w.kk) (.int 5) = some (.int (w.kd 5)) := W.k 5 (by decide)
  rw [wF24]; unfold b24
  walk_at "es"
  refine fin_int ?_ hq
  simp only [bor_n, stN]
theorem slanting_c (n : Nat) {w : Wo} {h : Hp} (W : Wd w h) {Q : VQ} (hq : Q (.int (slN w)) h) : wF (n + 20) 25 [.ref w.p] h Q := by
  have e1 := W.pk
  have e2 : getV h (.ref w.kk) (.int 3) = some (.int (w.kd 3)) := W.k 3 (by decide)
  have e3 : getV h (.ref w.kk) (.int 5) = some (.int (w.kd 5)) := W.k 5 (by decide)
  rw [wF25]; unfold b25
  walk_at "es"
  refine fin_int ?_ hq
  simp only [bor_n, slN]
theorem one_sub {v : Nat} (hv : v < 2) : (1 : Int) - (v : Int) = ((1 - v : Nat) : Int) := by (first | lia | omega)
noncomputable def pawnAN (w : Wo) (s v : Nat) : Nat := pawnT w.F w.R (1 - v) s &&& w.kd 1 &&& w.sd v
theorem pawnA_c (n : Nat) {w : Wo} {h : Hp} (W : Wd w h) {s v : Nat} (hs : s < w.F * w.R) (hv : v < 2) {Q : VQ} (hq : Q (.int (pawnAN w s v)) h) : wF (n + 20) 26 [.ref w.p, .int s, .int v] h Q := by
  have e1 := W.pk
  have e2 := W.ps
  have e3 := W.pg
  have e4 : getV h (.ref w.kk) (.int 1) = some (.int (w.kd 1)) := W.k 1 (by decide)
  have e5 := W.s v hv
  obtain ⟨kp, ep, Hp⟩ := W.geo.pawn
  obtain ⟨kv, ev, Hv⟩ := Hp (1 - v) (by (first | lia | omega))
  have e6 := Hv s hs
  rw [wF26]; unfold b26
  walk_at "es"
  rw [one_sub hv]
  walk_at "es"
  refine fin_int ?_ hq
  simp only [band_n, pawnAN]
noncomputable def stepN (w : Wo) (s v : Nat) : Nat := pawnAN w s v ||| (((knightT w.F w.R s &&& w.kd 2) ||| (kingT w.F w.R s &&& w.kd 6)) &&& w.sd v)
theorem step_c (n : Nat) {w : Wo} {h : Hp} (W : Wd w h) {s v : Nat} (hs : s < w.F * w.R) (hv : v < 2) {Q : VQ} (hq : Q (.int (stepN w s v)) h) : wF (n + 40) 27 [.ref w.p, .int s, .int v] h Q := by
  have e1 := W.pk
  have e2 := W.ps
  have e3 := W.pg
  have e4 : getV h (.ref w.kk) (.int 2) = some (.int (w.kd 2)) := W.k 2 (by decide)
  have e5 := W.s v hv
  have e6 : getV h (.ref w.kk) (.int 6) = some (.int (w.kd 6)) := W.k 6 (by decide)
  obtain ⟨kn, en, Hn⟩ := W.geo.knight
  obtain ⟨kk, ek, Hk⟩ := W.geo.king
  have e7 := Hn s hs
  have e8 := Hk s hs
  rw [wF27]; unfold b27
  walk_at "es"
  refine pawnA_c _ W hs hv ?_
  walk_at "es"
  refine fin_int ?_ hq
  simp only [band_n, bor_n, stepN]
noncomputable def lineN (w : Wo) (s occ : Nat) : Nat := (rookN w.F w.R s occ &&& stN w) ||| (bishN w.F w.R s occ &&& slN w)
theorem ne0 {x : Nat} (h : ((x : Int) != 0) = true) : x ≠ 0 := by intro e; subst e; exact absurd h (by decide)
theorem nez (x : Nat) : (!((x : Int) == 0)) = decide (x ≠ 0) := by
  by_cases e : x = 0
  · subst e; rfl
  · rw [decide_eq_true e]
    have : ((x : Int) == 0) = false := by simp only [beq_eq_false_iff_ne, ne_eq]; (first | lia | omega)
    rw [this]; rfl
theorem eq0 {x : Nat} (h : ((x : Int) != 0) = false) : x = 0 := by
  by_cases e : x = 0
  · exact e
  · exfalso
    have : ((x : Int) != 0) = true := by simp only [bne_iff_ne]; (first | lia | omega)
    rw [this] at h; exact absurd h (by decide)
theorem line_c (n : Nat) {w : Wo} {h : Hp} (W : Wd w h) {s : Nat} (hs : s < w.F * w.R) (occ : Nat) {Q : VQ} (hq : ∀ h', h <+: h' → Q (.int (lineN w s occ)) h') : wF (n + 90) 28 [.ref w.p, .int s, .int occ] h Q := by
  have e3 := W.pg
  rw [wF28]; unfold b28
  walk_at "es"
  refine straight_c _ W ?_
  walk_at "es"
  · rename_i hc
    have hc := ne0 hc
    refine rook_c _ W.geo W.hS hs occ fun h1 p1 => ?_
    walk_at "es"
    refine slanting_c _ (W.app p1) ?_
    walk_at "es"
    · refine bish_c _ (W.geo.app p1) W.hS hs occ fun h2 p2 => ?_
      walk_at "es"
      refine fin_int ?_ (hq _ (p1.trans p2))
      simp only [band_n, bor_n, bor_z, lineN]
    · rename_i hd
      have hd := eq0 hd
      refine fin_int ?_ (hq _ p1)
      simp only [band_n, bor_n, bor_z, lineN, hd, Nat.and_zero, Nat.or_zero]
  · rename_i hc
    have hc := eq0 hc
    refine slanting_c _ W ?_
    walk_at "es"
    · refine bish_c _ W.geo W.hS hs occ fun h2 p2 => ?_
      walk_at "es"
      refine fin_int ?_ (hq _ p2)
      simp only [band_n, bor_n, bor_z, lineN, hc, Nat.and_zero, Nat.zero_or]
    · rename_i hd
      have hd := eq0 hd
      refine fin_int ?_ (hq _ (List.prefix_refl _))
      simp only [band_n, bor_n, bor_z, lineN, hc, hd, Nat.and_zero, Nat.or_zero]; rfl
noncomputable def attackersN (w : Wo) (s occ : Nat) : Nat := stepN w s 0 ||| stepN w s 1 ||| lineN w s occ
theorem attackers_c (n : Nat) {w : Wo} {h : Hp} (W : Wd w h) {s : Nat} (hs : s < w.F * w.R) (occ : Nat) {Q : VQ} (hq : ∀ h', h <+: h' → Q (.int (attackersN w s occ)) h') : wF (n + 110) 29 [.ref w.p, .int s, .int occ] h Q := by
  rw [wF29]; unfold b29
  walk_at "es"
  refine step_c (v := 0) _ W hs (by decide) ?_
  walk_at "es"
  refine step_c (v := 1) _ W hs (by decide) ?_
  walk_at "es"
  refine line_c _ W hs occ fun h1 p1 => ?_
  walk_at "es"
  refine fin_int ?_ (hq _ p1)
  simp only [band_n, bor_n, bor_z, attackersN]
noncomputable def attackedB (w : Wo) (s v occ : Nat) : Bool := decide (stepN w s v ≠ 0) || decide (rookN w.F w.R s occ &&& (stN w &&& w.sd v) ≠ 0) || decide (bishN w.F w.R s occ &&& (slN w &&& w.sd v) ≠ 0)
theorem attacked_c (n : Nat) {w : Wo} {h : Hp} (W : Wd w h) {s v : Nat} (hs : s < w.F * w.R) (hv : v < 2) (occ : Nat) {Q : VQ} (hq : ∀ h', h <+: h' → Q (.bool (attackedB w s v occ)) h') : wF (n + 110) 30 [.ref w.p, .int s, .int v, .int occ] h Q := by
  have e1 := W.pg
  have e2 := W.ps
  have e3 := W.s v hv
  rw [wF30]; unfold b30
  walk_at "es"
  refine step_c _ W hs hv ?_
  walk_at "es"
  · rename_i hc
    have hc := ne0 hc
    refine fin_bool ?_ (hq _ (List.prefix_refl _))
    simp only [attackedB, decide_eq_true hc, Bool.true_or]
  · rename_i hc
    have hc := eq0 hc
    refine straight_c _ W ?_
    walk_at "es"
    · rename_i h1 h2
      rw [band_n] at h2
      have h2 := eq0 h2
      refine slanting_c _ W ?_
      walk_at "es"
      · rename_i h3
        refine fin_bool ?_ (hq _ (List.prefix_refl _))
        rw [band_n] at *
        have h3 := eq0 (by simpa only [bne] using h3)
        simp only [attackedB, hc, h2, h3, Nat.and_zero]; rfl
      · rename_i h3
        refine bish_c _ W.geo W.hS hs occ fun h5 p2 => ?_
        walk_at "es"
        refine fin_bool ?_ (hq _ p2)
        simp only [attackedB, hc, h2, Nat.and_zero, band_n, nez]; rfl
    · rename_i h3
      refine rook_c _ W.geo W.hS hs occ fun h1 p1 => ?_
      walk_at "es"
      · rename_i h4
        refine fin_bool ?_ (hq _ p1)
        simp only [band_n] at h4
        have h4 := ne0 h4
        simp only [attackedB, hc, decide_eq_true h4, Bool.true_or, Bool.or_true]
      · rename_i h4
        simp only [band_n] at h4
        have h4 := eq0 h4
        refine slanting_c _ (W.app p1) ?_
        walk_at "es"
        · rename_i h3
          refine fin_bool ?_ (hq _ p1)
          rw [band_n] at *
          have h3 := eq0 (by simpa only [bne] using h3)
          simp only [attackedB, hc, h4, h3, Nat.and_zero]; rfl
        · rename_i h3
          refine bish_c _ (W.geo.app p1) W.hS hs occ fun h2 p2 => ?_
          walk_at "es"
          refine fin_bool ?_ (hq _ (p1.trans p2))
          simp only [attackedB, hc, h4, Nat.and_zero, band_n, nez]; rfl
end
section
set_option maxRecDepth 100000
set_option linter.unusedSimpArgs false
set_option linter.unusedVariables false
/-- a while loop with m turns left -/
@[irreducible] noncomputable def wWh (n : Nat) (t : X) (b : List S) (m : Nat) (l : Lc) (h : Hp) (Q : RQ) : Prop :=
  wp (loopW (fun (a : Lc × Hp) => (testV (fun e h => ev progP n e a.1 h) t a.2).bind fun (c, h) => some (c, (a.1, h))) (fun a => execs progP n b a.1 a.2) m (l, h)) (fun r => Q r.1 r.2.1 r.2.2)
theorem wX_whl {n t b l h} {Q : RQ} (H : wWh n t b 1000 l h Q) : wX (n+1) (.whl t b) l h Q := by
  delta wX; delta wWh at H
  exact H
theorem wWh_in {n t b m l h} {Q : RQ} (H : wTe n t l h (fun c h => (c = true → wXs n b l h (fun r l h => wR r (wWh n t b m l h Q) (fun v => Q (.ret v) l h))) ∧ (c = false → Q .next l h))) :
    wWh n t b (m+1) l h Q := by
  delta wWh wTe wXs wR at *
  obtain ⟨⟨c, h'⟩, e, H1, H2⟩ := wp_elim H
  refine wp_bs (a := (c, l, h')) (by dsimp only; rw [e]; rfl) ?_
  cases c
  · exact H2 rfl
  · refine wp_bm (H1 rfl) ?_
    rintro ⟨r, l, h⟩ H
    cases r <;> exact H
/-- a loop over a list or a tuple, from the item j on -/
@[irreducible] noncomputable def wLv (n : Nat) (i : Nat) (b : List S) (src : Src) (m j : Nat) (l : Lc) (h : Hp) (Q : RQ) : Prop :=
  wp (loopL (fun (a : Lc × Hp) => a.2) (fun v (a : Lc × Hp) => execs progP n b (a.1.set i (some v)) a.2) src m j (l, h)) (fun r => Q r.1 r.2.1 r.2.2)
theorem wLv_done {n i b src m j l h} {Q : RQ} (e : liveAt h src j = some none) (H : Q .next l h) : wLv n i b src (m+1) j l h Q := by
  delta wLv
  exact wp_bs e H
theorem wLv_more {n i b src m j l h v} {Q : RQ} (e : liveAt h src j = some (some v))
    (H : wXs n b (l.set i (some v)) h (fun r l h => wR r (wLv n i b src m (j+1) l h Q) (fun v => Q (.ret v) l h))) : wLv n i b src (m+1) j l h Q := by
  delta wLv wXs wR at *
  refine wp_bs e (wp_bm H ?_)
  rintro ⟨r, l, h⟩ H
  cases r <;> exact H
theorem wX_forL {n i it b l h} {Q : RQ} (H : wE n it l h (fun v h => ∃ k xs, v = .ref k ∧ h[k]? = some (.list xs) ∧ decide (i < l.length) = true ∧ wLv n i b (.list k) 1000 0 l h Q)) : wX (n+1) (.for i it b) l h Q := by
  delta wX wE wLv at *
  refine wp_bm H ?_; rintro ⟨v, h⟩ ⟨k, xs, e, e2, e3, H⟩
  dsimp only at e; subst e
  refine wp_bs (a := Src.list k) ?_ (wp_if (of_decide_eq_true e3) H)
  delta srcOf; dsimp only; rw [e2]
theorem wX_forT {n i it b l h} {Q : RQ} (H : wE n it l h (fun v h => ∃ k xs, v = .ref k ∧ h[k]? = some (.tup xs) ∧ decide (i < l.length) = true ∧ wLv n i b (.tup k) 1000 0 l h Q)) : wX (n+1) (.for i it b) l h Q := by
  delta wX wE wLv at *
  refine wp_bm H ?_; rintro ⟨v, h⟩ ⟨k, xs, e, e2, e3, H⟩
  dsimp only at e; subst e
  refine wp_bs (a := Src.tup k) ?_ (wp_if (of_decide_eq_true e3) H)
  delta srcOf; dsimp only; rw [e2]
theorem wLv_inv {n i b src} {Q : RQ} (xs : List V) (I : Nat → Lc → Hp → Prop) (hl : ∀ j l h, I j l h → liveAt h src j = some xs[j]?)
    (hs : ∀ j l h, (hj : j < xs.length) → I j l h → wXs n b (l.set i (some xs[j])) h (fun r l h => wR r (I (j+1) l h) (fun v => Q (.ret v) l h)))
    (he : ∀ l h, I xs.length l h → Q .next l h) : ∀ (c j m : Nat) l h, j + c = xs.length → c < m → I j l h → wLv n i b src m j l h Q := by
  intro c
  induction c with
  | zero =>
    intro j m l h e hm Hj
    obtain ⟨m, rfl⟩ : ∃ m', m = m' + 1 := ⟨m - 1, by (first | lia | omega)⟩
    have e : j = xs.length := by (first | lia | omega)
    subst e
    refine wLv_done ?_ (he _ _ Hj)
    rw [hl _ _ _ Hj, List.getElem?_eq_none (Nat.le_refl _)]
  | succ c ih =>
    intro j m l h e hm Hj
    obtain ⟨m, rfl⟩ : ∃ m', m = m' + 1 := ⟨m - 1, by (first | lia | omega)⟩
    have hj : j < xs.length := by (first | lia | omega)
    refine wLv_more (v := xs[j]) ?_ (wXs_mono (hs j l h hj Hj) ?_)
    · rw [hl _ _ _ Hj, List.getElem?_eq_getElem hj]
    · intro r l h H
      exact wR_mono H (fun H => ih (j+1) m l h (by (first | lia | omega)) (by (first | lia | omega)) H) (fun v H => H)
theorem live_list {h : Hp} {k : Nat} {xs : List V} (e : h[k]? = some (.list xs)) (j : Nat) : liveAt h (.list k) j = some xs[j]? := by
  delta liveAt; dsimp only; rw [e]
theorem live_tup {h : Hp} {k : Nat} {xs : List V} (e : h[k]? = some (.tup xs)) (j : Nat) : liveAt h (.tup k) j = some xs[j]? := by
  delta liveAt; dsimp only; rw [e]
theorem shr_bit (x b : Nat) : Builtin.bitAnd ((x : Int).fdiv (2 ^ (b : Int).toNat)) 1 = if x.testBit b then 1 else 0 := by
  have e : (x : Int).fdiv (2 ^ (b : Int).toNat) = ((x / 2 ^ b : Nat) : Int) := by
    rw [Int.toNat_natCast, Int.fdiv_eq_ediv_of_nonneg _ (by exact Int.pow_nonneg (by decide))]
    rw [Int.natCast_ediv, Int.natCast_pow]; rfl
  rw [e]
  have e2 := band_n (x / 2 ^ b) 1
  rw [Nat.and_one_is_mod] at e2
  refine Eq.trans e2 ?_
  rw [Nat.testBit_eq_decide_div_mod_eq]
  rcases Nat.mod_two_eq_zero_or_one (x / 2 ^ b) with h | h <;> rw [h] <;> rfl
end
section
set_option maxRecDepth 100000
set_option linter.unusedSimpArgs false
set_option linter.unusedVariables false
theorem size_le {F R : Nat} (hS : (F, R) ∈ shapes) : F * R ≤ 20 ∧ 0 < F * R := by
  simp only [shapes, List.mem_cons, Prod.mk.injEq, List.not_mem_nil, or_false] at hS
  rcases hS with ⟨rfl, rfl⟩ | ⟨rfl, rfl⟩ | ⟨rfl, rfl⟩ | ⟨rfl, rfl⟩ <;> decide
theorem lowest_e (n : Nat) (h : Hp) : ∀ k : Nat, k < 20 → callF progP (n + 60) 4 [.int ((2 ^ k : Nat) : Int)] h = some (.int k, h) := by
  intro k hk
  match k, hk with
  | 0, _ => kernel_rfl
  | 1, _ => kernel_rfl
  | 2, _ => kernel_rfl
  | 3, _ => kernel_rfl
  | 4, _ => kernel_rfl
  | 5, _ => kernel_rfl
  | 6, _ => kernel_rfl
  | 7, _ => kernel_rfl
  | 8, _ => kernel_rfl
  | 9, _ => kernel_rfl
  | 10, _ => kernel_rfl
  | 11, _ => kernel_rfl
  | 12, _ => kernel_rfl
  | 13, _ => kernel_rfl
  | 14, _ => kernel_rfl
  | 15, _ => kernel_rfl
  | 16, _ => kernel_rfl
  | 17, _ => kernel_rfl
  | 18, _ => kernel_rfl
  | 19, _ => kernel_rfl
  | k + 20, hk => exact absurd hk (by omega)
theorem lowest_c (n : Nat) {h : Hp} {k : Nat} (hk : k < 20) {Q : VQ} (hq : Q (.int k) h) : wF (n + 60) 4 [.int ((2 ^ k : Nat) : Int)] h Q := by
  rw [wF_def]
  exact wp_intro (lowest_e n h k hk) hq
theorem king_c (n : Nat) {w : Wo} {h : Hp} (W : Wd w h) {v : Nat} (hv : v < 2) {Q : VQ} (hq : Q (.int (w.kq v)) h) : wF (n + 80) 23 [.ref w.p, .int v] h Q := by
  have e1 := W.pk
  have e2 := W.ps
  have e3 := W.s v hv
  have e4 : getV h (.ref w.kk) (.int 6) = some (.int (w.kd 6)) := W.k 6 (by decide)
  have h1 := W.hk v hv
  have h2 := size_le W.hS
  rw [wF23]; unfold b23
  walk_at "es"
  rw [band_n, h1.1]
  refine lowest_c _ (by omega) ?_
  walk_at "es"
  exact hq
noncomputable def occN (w : Wo) : Nat := w.sd 0 ||| w.sd 1
noncomputable def checkersN (w : Wo) (v : Nat) : Nat := attackersN w (w.kq v) (occN w) &&& w.sd (1 - v)
theorem checkers_of_c (n : Nat) {w : Wo} {h : Hp} (W : Wd w h) {v : Nat} (hv : v < 2) {Q : VQ} (hq : ∀ h', h <+: h' → Q (.int (checkersN w v)) h') : wF (n + 130) 31 [.ref w.p, .int v] h Q := by
  have e2 := W.ps
  have e3 : getV h (.ref w.ss) (.int 0) = some (.int (w.sd 0)) := W.s 0 (by decide)
  have e4 : getV h (.ref w.ss) (.int 1) = some (.int (w.sd 1)) := W.s 1 (by decide)
  have e5 := W.s (1 - v) (by omega)
  rw [wF31]; unfold b31
  walk_at "es"
  refine king_c _ W hv ?_
  walk_at "es"
  rw [bor_n]
  refine attackers_c _ W (W.hk v hv).2 _ fun h1 p1 => ?_
  walk_at "es"
  rw [one_sub hv]
  walk_at "es"
  refine fin_int ?_ (hq _ p1)
  rw [band_n]; rfl
theorem checkers_c (n : Nat) {w : Wo} {h : Hp} (W : Wd w h) {Q : VQ} (hq : ∀ h', h <+: h' → Q (.int (checkersN w w.side)) h') : wF (n + 150) 32 [.ref w.p] h Q := by
  have e2 := W.pd
  rw [wF32]; unfold b32
  walk_at "es"
  refine checkers_of_c _ W W.hv fun h1 p1 => ?_
  walk_at "es"
  exact hq _ p1
noncomputable def inCheckB (w : Wo) (v : Nat) : Bool := attackedB w (w.kq v) (1 - v) (occN w)
theorem in_check_of_c (n : Nat) {w : Wo} {h : Hp} (W : Wd w h) {v : Nat} (hv : v < 2) {Q : VQ} (hq : ∀ h', h <+: h' → Q (.bool (inCheckB w v)) h') : wF (n + 130) 33 [.ref w.p, .int v] h Q := by
  have e2 := W.ps
  have e3 : getV h (.ref w.ss) (.int 0) = some (.int (w.sd 0)) := W.s 0 (by decide)
  have e4 : getV h (.ref w.ss) (.int 1) = some (.int (w.sd 1)) := W.s 1 (by decide)
  rw [wF33]; unfold b33
  walk_at "es"
  refine king_c _ W hv ?_
  walk_at "es"
  rw [bor_n, one_sub hv]
  refine attacked_c _ W (W.hk v hv).2 (by omega) _ fun h1 p1 => ?_
  walk_at "es"
  exact hq _ p1
theorem in_check_c (n : Nat) {w : Wo} {h : Hp} (W : Wd w h) {Q : VQ} (hq : ∀ h', h <+: h' → Q (.bool (inCheckB w w.side)) h') : wF (n + 150) 34 [.ref w.p] h Q := by
  have e2 := W.pd
  rw [wF34]; unfold b34
  walk_at "es"
  refine in_check_of_c _ W W.hv fun h1 p1 => ?_
  walk_at "es"
  exact hq _ p1
theorem quiet_c (n : Nat) {w : Wo} {h : Hp} (W : Wd w h) {Q : VQ} (hq : ∀ h', h <+: h' → Q (.bool (!inCheckB w (1 - w.side))) h') : wF (n + 150) 35 [.ref w.p] h Q := by
  have e2 := W.pd
  have hv := W.hv
  rw [wF35]; unfold b35
  walk_at "es"
  rw [one_sub hv]
  refine in_check_of_c _ W (by omega) fun h1 p1 => ?_
  walk_at "es"
  exact hq _ p1
noncomputable def snipN (w : Wo) (v : Nat) : Nat := ((rookN w.F w.R (w.kq v) 0 &&& stN w) ||| (bishN w.F w.R (w.kq v) 0 &&& slN w)) &&& w.sd (1 - v)
theorem snipers_c (n : Nat) {w : Wo} {h : Hp} (W : Wd w h) {v : Nat} (hv : v < 2) {Q : VQ} (hq : ∀ h', h <+: h' → Q (.int (snipN w v)) h') : wF (n + 130) 36 [.ref w.p, .int v] h Q := by
  have e1 := W.pg
  have e2 := W.ps
  have e5 := W.s (1 - v) (by omega)
  rw [wF36]; unfold b36
  walk_at "es"
  refine king_c _ W hv ?_
  walk_at "es"
  refine rook_c _ W.geo W.hS (W.hk v hv).2 0 fun h1 p1 => ?_
  walk_at "es"
  refine straight_c _ (W.app p1) ?_
  walk_at "es"
  refine bish_c _ (W.geo.app p1) W.hS (W.hk v hv).2 0 fun h2 p2 => ?_
  have p2 := p1.trans p2
  clear p1
  walk_at "es"
  refine slanting_c _ (W.app p2) ?_
  walk_at "es"
  rw [one_sub hv]
  walk_at "es"
  refine fin_int ?_ (hq _ p2)
  simp only [band_n, bor_n, snipN]
/-- the first direction in which a sees b -/
noncomputable def dirO (F R a b : Nat) : List Nat → Option Nat
  | [] => none
  | d :: r => if (ray F R d a).testBit b then some d else dirO F R a b r
noncomputable def dirI (F R a b : Nat) : Int := match dirO F R a b (List.range 8) with | some d => d | none => -1
theorem items08 : rngItems 0 8 1 = (List.range 8).map (fun (d : Nat) => V.int (d : Int)) := rfl
theorem dir_loop (n : Nat) {h : Hp} {g F R : Nat} (G : GeoOK h g F R) {a b : Nat} (ha : a < F * R) {Q : RQ} : ∀ (ds : List Nat) (x : Option V), (∀ d ∈ ds, d < 8) →
    (∀ l, wR (match dirO F R a b ds with | some d => .ret (.int d) | none => .next) (Q .next l h) (fun v => Q (.ret v) l h)) →
    wLo (n + 20) 3 [(.iff (.bin .BitAnd (.bin .RShift (.sub (.sub (.attr (.var 0) 8) (.var 3)) (.var 1)) (.var 2)) (.cst (.int 1))) [(.ret (.var 3))] [])] (ds.map fun (d : Nat) => V.int (d : Int)) [some (.ref g), some (.int a), some (.int b), x] h Q := by
  intro ds
  induction ds with
  | nil =>
    intro x _ hq
    have := hq [some (.ref g), some (.int a), some (.int b), x]
    rw [wR_def] at this
    exact wLo_nil this
  | cons d r ih =>
    intro x hd hq
    obtain ⟨k, e1, H⟩ := G.rays
    obtain ⟨j, e2, H⟩ := H d (hd d (by simp))
    have e3 := H a ha
    simp only [List.map_cons]
    refine wLo_cons ?_
    walk_at "es"
    refine wB_shr (by omega) ?_
    walk_at "es"
    · rename_i hc
      rw [shr_bit] at hc
      have := hq [some (.ref g), some (.int a), some (.int b), some (.int d)]
      simp only [dirO] at this
      rw [wR_def] at this
      rw [if_pos (by cases hb : (ray F R d a).testBit b <;> simp [hb] at hc ⊢)] at this
      exact this
    · rename_i hc
      rw [shr_bit] at hc
      refine ih _ (fun d h => hd d (by simp [h])) fun l => ?_
      have := hq l
      simp only [dirO] at this
      rw [if_neg (by cases hb : (ray F R d a).testBit b <;> simp [hb] at hc ⊢)] at this
      exact this
theorem dir_c (n : Nat) {h : Hp} {g F R : Nat} (G : GeoOK h g F R) {a b : Nat} (ha : a < F * R) {Q : VQ}
    (hq : ∀ h', h <+: h' → Q (.int (dirI F R a b)) h') : wF (n + 40) 6 [.ref g, .int a, .int b] h Q := by
  rw [wF6]; unfold b6
  walk_at "es"
  refine wX_forI ?_
  walk_at "es"
  refine ⟨_, src_rng (get_last _ _) rfl, rfl, ?_⟩
  rw [items08]
  refine dir_loop _ (G.app (pre_app _ _)) ha _ _ (by decide) fun l => ?_
  have := hq _ (pre_app h [.rng 0 8 1])
  unfold dirI at this
  cases hd : dirO F R a b (List.range 8) with
  | none =>
    rw [hd] at this
    walk_at "es"
    exact this
  | some d =>
    rw [hd] at this
    walk_at "es"
    exact this
end
section
set_option maxRecDepth 100000
set_option linter.unusedSimpArgs false
set_option linter.unusedVariables false
theorem dirO_lt {F R a b : Nat} : ∀ {ds : List Nat} {d}, dirO F R a b ds = some d → d ∈ ds
  | [], d, h => by simp [dirO] at h
  | e :: r, d, h => by
    simp only [dirO] at h
    split at h
    · simp only [Option.some.injEq] at h; subst h; simp
    · exact List.mem_cons_of_mem _ (dirO_lt h)
noncomputable def betwN (F R a b : Nat) : Nat := match dirO F R a b (List.range 8) with | some d => ray F R d a &&& ray F R (d ^^^ 2) b | none => 0
theorem between_c (n : Nat) {h : Hp} {g F R : Nat} (G : GeoOK h g F R) {a b : Nat} (ha : a < F * R) (hb : b < F * R) {Q : VQ}
    (hq : ∀ h', h <+: h' → Q (.int (betwN F R a b)) h') : wF (n + 60) 7 [.ref g, .int a, .int b] h Q := by
  rw [wF7]; unfold b7
  walk_at "es"
  refine dir_c _ G ha fun h1 p1 => ?_
  have hq := hq _ p1
  cases hd : dirO F R a b (List.range 8) with
  | none =>
    have e : dirI F R a b = -1 := by unfold dirI; rw [hd]
    have e2 : betwN F R a b = 0 := by unfold betwN; rw [hd]
    rw [e]; rw [e2] at hq
    walk_at "es"
    exact hq
  | some d =>
    have e : dirI F R a b = (d : Int) := by unfold dirI; rw [hd]
    have e2 : betwN F R a b = ray F R d a &&& ray F R (d ^^^ 2) b := by unfold betwN; rw [hd]
    rw [e]; rw [e2] at hq
    have hl : d < 8 := by simpa using dirO_lt hd
    have hx : ∀ d, d < 8 → d ^^^ 2 < 8 := by decide
    have hx := hx d hl
    obtain ⟨k, e1, H⟩ := (G.app p1).rays
    obtain ⟨j, e2, H1⟩ := H d hl
    have e3 := H1 a ha
    obtain ⟨j2, e4, H2⟩ := H (d ^^^ 2) hx
    have e5 := H2 b hb
    have e6 : Builtin.bitXor (d : Int) 2 = ((d ^^^ 2 : Nat) : Int) := bxor_n d 2
    walk_at "es"
    · rename_i hc
      have := of_decide_eq_true hc
      (first | lia | omega)
    · rw [e6]
      walk_at "es"
      refine fin_int ?_ hq
      rw [band_n]

/-- the squares of a set, small ones first -/
noncomputable def sqF (j b s : Nat) : List Nat := ((List.range j).filter b.testBit).map (· + s)
theorem sqF_succ (j b s : Nat) : sqF (j + 1) b s = (if b % 2 = 1 then [s] else []) ++ sqF j (b / 2) (s + 1) := by
  unfold sqF
  rw [List.range_succ_eq_map]
  have e : ∀ i, (b / 2).testBit i = b.testBit (i + 1) := fun i => by rw [Nat.testBit_succ]
  rw [List.filter_cons]
  have e0 : b.testBit 0 = decide (b % 2 = 1) := Nat.testBit_zero b
  rw [e0]
  have e1 : ((List.map Nat.succ (List.range j)).filter b.testBit).map (· + s) = ((List.range j).filter (b / 2).testBit).map (· + (s + 1)) := by
    rw [List.filter_map, List.map_map]
    congr 1
    · funext i; simp only [Function.comp]; (first | lia | omega)
    · congr 1; funext i; simp only [Function.comp]; rw [e]
  by_cases hb : b % 2 = 1
  · rw [if_pos (decide_eq_true hb), if_pos hb, List.map_cons, e1]
    simp
  · rw [if_neg (by simp [hb]), if_neg hb, e1]
    simp
theorem sqF_four (j b s : Nat) (h : b % 16 = 0) : sqF (j + 4) b s = sqF j (b / 16) (s + 4) := by
  rw [sqF_succ, if_neg (by (first | lia | omega)), sqF_succ, if_neg (by (first | lia | omega)), sqF_succ, if_neg (by (first | lia | omega)), sqF_succ, if_neg (by (first | lia | omega))]
  have : b / 2 / 2 / 2 / 2 = b / 16 := by (first | lia | omega)
  simp only [List.nil_append, this]
noncomputable def bIn : List S := [(.augV 0 .RShift (.cst (.int 4))), (.augV 2 .Add (.cst (.int 4)))]
noncomputable def tIn : X := (.un .Not (.bin .BitAnd (.var 0) (.cst (.int 15))))
noncomputable def bOut : List S := [(.whl tIn bIn), (.iff (.bin .BitAnd (.var 0) (.cst (.int 1))) [(.expr (.append (.var 1) (.var 2)))] []), (.augV 0 .RShift (.cst (.int 1))), (.augV 2 .Add (.cst (.int 1)))]
theorem fdiv16 (b : Nat) : (b : Int).fdiv (2 ^ (4 : Int).toNat) = ((b / 16 : Nat) : Int) := by
  rw [Int.fdiv_eq_ediv_of_nonneg _ (by decide)]; rfl
theorem fdiv2 (b : Nat) : (b : Int).fdiv (2 ^ (1 : Int).toNat) = ((b / 2 : Nat) : Int) := by
  rw [Int.fdiv_eq_ediv_of_nonneg _ (by decide)]; rfl
theorem and15 (b : Nat) : Builtin.bitAnd (b : Int) 15 = ((b % 16 : Nat) : Int) := by
  have := band_n b 15
  rw [show (15 : Nat) = 2 ^ 4 - 1 from rfl, Nat.and_two_pow_sub_one_eq_mod] at this
  exact this
theorem and1 (b : Nat) : Builtin.bitAnd (b : Int) 1 = ((b % 2 : Nat) : Int) := by
  have := band_n b 1
  rw [Nat.and_one_is_mod] at this
  exact this
theorem inner_c (n : Nat) {h : Hp} {k : Nat} {Q : RQ} : ∀ (M j b s : Nat), b ≠ 0 → b < 2 ^ j → j < M →
    (∀ b' s' j', b' ≠ 0 → b' < 2 ^ j' → j' ≤ j → sqF j' b' s' = sqF j b s → Q .next [some (.int (b' : Nat)), some (.ref k), some (.int (s' : Nat))] h) →
    wWh (n + 20) tIn bIn M [some (.int b), some (.ref k), some (.int s)] h Q := by
  intro M
  induction M with
  | zero => intro j b s _ _ h; (first | lia | omega)
  | succ M ih =>
    intro j b s hb hj hM hq
    refine wWh_in ?_
    unfold tIn bIn
    walk_at "es"
    · rename_i hc
      rw [and15] at hc
      have hc : b % 16 = 0 := by
        cases hx : (((b % 16 : Nat) : Int) != 0) with
        | true => rw [hx] at hc; exact absurd hc (by decide)
        | false => exact eq0 hx
      rw [fdiv16]
      have h16 : 5 ≤ j := by
        by_cases h : j ≤ 4
        · have : 2 ^ j ≤ 2 ^ 4 := Nat.pow_le_pow_right (by decide) h
          (first | lia | omega)
        · (first | lia | omega)
      obtain ⟨j, rfl⟩ : ∃ j', j = j' + 4 := ⟨j - 4, by (first | lia | omega)⟩
      have e : ((s : Int) + 4) = ((s + 4 : Nat) : Int) := by (first | lia | omega)
      rw [e]
      refine ih j (b / 16) (s + 4) (by (first | lia | omega)) ?_ (by (first | lia | omega)) ?_
      · rw [Nat.pow_add] at hj; (first | lia | omega)
      · intro b' s' j' h1 h2 h3 h4
        refine hq b' s' j' h1 h2 (by (first | lia | omega)) ?_
        rw [h4, sqF_four _ _ _ hc]
    · rename_i hc
      exact hq b s j hb hj (Nat.le_refl _) rfl
theorem set_last (h : Hp) (a b : O) : (h ++ [a]).set h.length b = h ++ [b] := by
  rw [List.set_append_right _ _ (Nat.le_refl _), Nat.sub_self]; rfl
theorem app_last {h : Hp} {xs : List V} {v : V} (e : xs.length < 1000) : appV (h ++ [.list xs]) (.ref h.length) v = some (h ++ [.list (xs ++ [v])]) := by
  unfold appV
  simp only [get_last]
  rw [if_pos e, set_last]
theorem outer_c (n : Nat) {h : Hp} {Q : RQ} : ∀ (M j b s : Nat) (acc : List V), b < 2 ^ j → j < M → j < 900 → acc.length + j < 900 →
    (∀ b' s' : V, Q .next [some b', some (.ref h.length), some s'] (h ++ [.list (acc ++ (sqF j b s).map fun t : Nat => V.int (t : Int))])) →
    wWh (n + 40) (.var 0) bOut M [some (.int b), some (.ref h.length), some (.int s)] (h ++ [.list acc]) Q := by
  intro M
  induction M with
  | zero => intro j b s _ _ h; (first | lia | omega)
  | succ M ih =>
    intro j b s acc hj hM hj2 hacc hq
    refine wWh_in ?_
    walk_at "es"
    · rename_i hc
      have hb := ne0 hc
      unfold bOut
      walk_at "es"
      refine wX_whl ?_
      refine inner_c _ 1000 j b s hb hj (by (first | lia | omega)) ?_
      intro b' s' j' hb' hj' hl he
      rw [← he] at hq
      obtain ⟨j', rfl⟩ : ∃ j'', j' = j'' + 1 := by
        cases j' with
        | zero => simp at hj'; (first | lia | omega)
        | succ j' => exact ⟨j', rfl⟩
      rw [sqF_succ] at hq
      have e : ((s' : Int) + 1) = ((s' + 1 : Nat) : Int) := by (first | lia | omega)
      walk_at "es"
      · rename_i hd
        rw [and1] at hd
        have hd : b' % 2 = 1 := by have := ne0 hd; (first | lia | omega)
        rw [if_pos hd] at hq
        refine wE_append ?_
        walk_at "es"
        refine ⟨by simp only [isL, get_last], ?_⟩
        walk_at "es"
        refine ⟨_, app_last (by (first | lia | omega)), fun k => by simp, ?_⟩
        walk_at "es"
        rw [fdiv2]
        rw [e]
        refine ih j' (b' / 2) (s' + 1) _ (by rw [Nat.pow_succ] at hj'; (first | lia | omega)) (by (first | lia | omega)) (by (first | lia | omega)) (by simp; (first | lia | omega)) ?_
        intro x y
        have := hq x y
        simpa using this
      · rename_i hd
        rw [and1] at hd
        have hd : b' % 2 = 0 := eq0 hd
        rw [if_neg (by (first | lia | omega))] at hq
        walk_at "es"
        rw [fdiv2]
        rw [e]
        refine ih j' (b' / 2) (s' + 1) _ (by rw [Nat.pow_succ] at hj'; (first | lia | omega)) (by (first | lia | omega)) (by (first | lia | omega)) (by (first | lia | omega)) ?_
        intro x y
        have := hq x y
        simpa using this
    · rename_i hc
      have hb := eq0 hc
      subst hb
      have e : sqF j 0 s = [] := by simp [sqF]
      have := hq (.int 0) (.int s)
      rw [e] at this
      simpa using this
noncomputable def bitsL (b : Nat) : List Nat := (List.range 20).filter b.testBit
theorem squares_c (n : Nat) {h : Hp} {b : Nat} (hb : b < 2 ^ 20) {Q : VQ}
    (hq : Q (.ref h.length) (h ++ [.list ((bitsL b).map fun t : Nat => V.int (t : Int))])) : wF (n + 60) 5 [.int b] h Q := by
  rw [wF5]; unfold b5
  walk_at "es"
  refine wX_whl ?_
  refine outer_c _ 1000 20 b 0 [] hb (by (first | lia | omega)) (by (first | lia | omega)) (by simp) ?_
  intro b' s'
  walk_at "es"
  have e : sqF 20 b 0 = bitsL b := by unfold sqF bitsL; simp
  rw [e]
  exact hq
end
section
set_option maxRecDepth 100000
set_option linter.unusedSimpArgs false
set_option linter.unusedVariables false
theorem bitsL_lt {b m t : Nat} (hb : b < 2 ^ m) (ht : t ∈ bitsL b) : t < m := by
  unfold bitsL at ht
  rw [List.mem_filter] at ht
  by_cases h : t < m
  · exact h
  · have : b < 2 ^ t := Nat.lt_of_lt_of_le hb (Nat.pow_le_pow_right (by decide) (by (first | lia | omega)))
    rw [Nat.testBit_lt_two_pow this] at ht
    exact absurd ht.2 (by decide)
theorem bitsL_len (b : Nat) : (bitsL b).length ≤ 20 := by
  unfold bitsL
  have := List.length_filter_le b.testBit (List.range 20)
  simpa using this
theorem and_lt {a b m : Nat} (h : b < 2 ^ m) : a &&& b < 2 ^ m := Nat.lt_of_le_of_lt Nat.and_le_right h
theorem lt20 {F R b : Nat} (hS : (F, R) ∈ shapes) (hb : b < 2 ^ (F * R)) : b < 2 ^ 20 :=
  Nat.lt_of_lt_of_le hb (Nat.pow_le_pow_right (by decide) (size_le hS).1)
theorem more_c (n : Nat) {h : Hp} {b : Nat} (hb : b ≠ 0) {Q : VQ} (hq : Q (.bool (decide (b &&& (b - 1) ≠ 0))) h) : wF (n + 20) 2 [.int b] h Q := by
  rw [wF2]; unfold b2
  walk_at "es"
  have e : (b : Int) - 1 = ((b - 1 : Nat) : Int) := by (first | lia | omega)
  rw [e, band_n, nez]
  exact hq
noncomputable def blockStep (w : Wo) (v t : Nat) (x : Nat × Nat) : Nat × Nat :=
  let ins := betwN w.F w.R (w.kq v) t &&& (occN w ^^^ snipN w v)
  if ins ≠ 0 ∧ ins &&& (ins - 1) = 0 then (x.1 ||| ins, if ins &&& w.sd v ≠ 0 then x.2 ||| 2 ^ t else x.2) else x
noncomputable def blockN (w : Wo) (v : Nat) : Nat × Nat := (bitsL (snipN w v)).foldl (fun x t => blockStep w v t x) (0, 0)
theorem shl1 (t : Nat) : (1 : Int) * 2 ^ (t : Int).toNat = ((2 ^ t : Nat) : Int) := by
  rw [Int.toNat_natCast, Int.one_mul, Int.natCast_pow]; rfl
theorem foldl_take {α β : Type} (f : β → α → β) (b : β) (xs : List α) (j : Nat) (hj : j < xs.length) :
    (xs.take (j + 1)).foldl f b = f ((xs.take j).foldl f b) xs[j] := by
  rw [List.take_succ_eq_append_getElem hj, List.foldl_append]; rfl
theorem blockers_c (n : Nat) {w : Wo} {h : Hp} (W : Wd w h) {v : Nat} (hv : v < 2) {Q : VQ}
    (hq : ∀ h' k, h <+: h' → h'[k]? = some (.tup [.int (blockN w v).1, .int (blockN w v).2]) → Q (.ref k) h') : wF (n + 150) 37 [.ref w.p, .int v] h Q := by
  have e2 := W.ps
  have e3 : getV h (.ref w.ss) (.int 0) = some (.int (w.sd 0)) := W.s 0 (by decide)
  have e4 : getV h (.ref w.ss) (.int 1) = some (.int (w.sd 1)) := W.s 1 (by decide)
  have e5 := W.s v hv
  have e6 := W.pg
  have hsz := size_le W.hS
  have hsn : snipN w v < 2 ^ (w.F * w.R) := and_lt (W.hb (1 - v) (by (first | lia | omega)))
  rw [wF37]; unfold b37
  walk_at "es"
  refine king_c _ W hv ?_
  walk_at "es"
  refine snipers_c _ W hv fun h1 p1 => ?_
  walk_at "es"
  rw [bor_n, bxor_n]
  walk_at "es"
  refine wX_forL ?_
  walk_at "es"
  refine squares_c _ (lt20 W.hS hsn) ?_
  refine ⟨_, _, rfl, get_last _ _, rfl, ?_⟩
  refine wLv_inv ((bitsL (snipN w v)).map fun t : Nat => V.int (t : Int))
    (fun j l h2 => (h1 ++ [.list ((bitsL (snipN w v)).map fun t : Nat => V.int (t : Int))]) <+: h2 ∧ ∃ x y,
      l = [some (.ref w.p), some (.int v), some (.int (w.kq v)), some (.int (snipN w v)), some (.int (occN w ^^^ snipN w v : Nat)),
        some (.int (((bitsL (snipN w v)).take j).foldl (fun x t => blockStep w v t x) (0, 0)).1), some (.int (((bitsL (snipN w v)).take j).foldl (fun x t => blockStep w v t x) (0, 0)).2), x, y])
    ?_ ?_ ?_ (bitsL (snipN w v)).length 0 1000 _ _ (by simp) (by have := bitsL_len (snipN w v); (first | lia | omega)) ⟨List.prefix_refl _, _, _, rfl⟩
  · rintro j l h2 ⟨p2, _⟩
    exact live_list (get_app p2 (get_last _ _)) j
  · rintro j l h2 hj ⟨p2, x, y, rfl⟩
    have hj : j < (bitsL (snipN w v)).length := by simpa using hj
    have p3 : h <+: h2 := p1.trans ((pre_app _ _).trans p2)
    rw [foldl_take _ _ _ _ hj]
    generalize hX : ((bitsL (snipN w v)).take j).foldl (fun x t => blockStep w v t x) (0, 0) = X
    have ht : (bitsL (snipN w v))[j] < w.F * w.R := bitsL_lt hsn (List.getElem_mem hj)
    rw [List.getElem_map]
    generalize hT : (bitsL (snipN w v))[j] = t at ht
    walk_at "es"
    refine between_c _ (W.geo.app p3) (W.hk v hv).2 ht fun h4 p4 => ?_
    walk_at "e"
    walk_at "e"
    rw [band_n]
    have p5 := p3.trans p4
    have p6 := p2.trans p4
    have f2 := (W.app p5).ps
    have f5 := (W.app p5).s v hv
    generalize hI : betwN w.F w.R (w.kq v) t &&& (occN w ^^^ snipN w v) = ins
    walk_at "es"
    · rename_i hc
      have hc := eq0 hc
      refine ⟨p6, some (.int t), some (.int ins), ?_⟩
      have : blockStep w v t X = X := by
        unfold blockStep; simp only [hI]; rw [if_neg (by intro h; exact h.1 hc)]
      rw [this]; rfl
    · rename_i hc
      have hc := ne0 hc
      refine more_c _ hc ?_
      walk_at "es"
      · rename_i hd he
        have hd : ins &&& (ins - 1) = 0 := by simpa using hd
        rw [band_n] at he
        have he := ne0 he
        refine wB_shl (by (first | lia | omega)) (by (first | lia | omega)) (by decide) ?_
        rw [shl1]
        walk_at "es"
        rw [bor_n, bor_n]
        refine ⟨p6, some (.int t), some (.int ins), ?_⟩
        have : blockStep w v t X = (X.1 ||| ins, X.2 ||| 2 ^ t) := by
          unfold blockStep; simp only [hI]; rw [if_pos ⟨hc, hd⟩, if_pos he]
        rw [this]; rfl
      · rename_i hd he
        have hd : ins &&& (ins - 1) = 0 := by simpa using hd
        rw [band_n] at he
        have he := eq0 he
        rw [bor_n]
        refine ⟨p6, some (.int t), some (.int ins), ?_⟩
        have : blockStep w v t X = (X.1 ||| ins, X.2) := by
          unfold blockStep; simp only [hI]; rw [if_pos ⟨hc, hd⟩, if_neg (by (first | lia | omega))]
        rw [this]; rfl
      · rename_i hd
        have hd : ¬ ins &&& (ins - 1) = 0 := by simpa using hd
        refine ⟨p6, some (.int t), some (.int ins), ?_⟩
        have : blockStep w v t X = X := by
          unfold blockStep; simp only [hI]; rw [if_neg (by intro h; exact hd h.2)]
        rw [this]; rfl
  · rintro l h2 ⟨p2, x, y, rfl⟩
    have p3 : h <+: h2 := p1.trans ((pre_app _ _).trans p2)
    rw [List.length_map, List.take_length]
    walk_at "es"
    refine hq _ _ (p3.trans (pre_app _ _)) (get_last _ _)
theorem pinned_c (n : Nat) {w : Wo} {h : Hp} (W : Wd w h) {v : Nat} (hv : v < 2) {Q : VQ}
    (hq : ∀ h', h <+: h' → Q (.int ((blockN w v).1 &&& w.sd v : Nat)) h') : wF (n + 170) 38 [.ref w.p, .int v] h Q := by
  have e2 := W.ps
  have e5 := W.s v hv
  rw [wF38]; unfold b38
  walk_at "es"
  refine blockers_c _ W hv fun h1 k p1 hk => ?_
  walk_at "es"
  refine ⟨_, (by unfold getV; simp only [hk]; rfl), ?_⟩
  walk_at "es"
  rw [band_n]
  exact hq _ p1
end
section
set_option maxRecDepth 100000
set_option linter.unusedSimpArgs false
set_option linter.unusedVariables false
noncomputable def covS (w : Wo) (v occ kind acc : Nat) : Nat := (bitsL (w.kd kind &&& w.sd v)).foldl (fun acc s => acc ||| pieceN w.F w.R v kind s occ) acc
noncomputable def covN (w : Wo) (v occ : Nat) : Nat := [1, 2, 3, 4, 5, 6].foldl (fun acc kind => covS w v occ kind acc) 0
noncomputable def sCov : S := (.for 5 (.call 5 [(.bin .BitAnd (.sub (.attr (.var 0) 17) (.var 4)) (.sub (.attr (.var 0) 18) (.var 1)))]) [(.augV 3 .BitOr (.call 21 [(.attr (.var 0) 14), (.var 1), (.var 4), (.var 5), (.var 2)]))])
theorem cov_inner (n : Nat) {w : Wo} {h : Hp} (W : Wd w h) {v : Nat} (hv : v < 2) (occ kind acc : Nat) (hk : kind < 7) (x : Option V) {Q : RQ}
    (hq : ∀ h' y, h <+: h' → Q .next [some (.ref w.p), some (.int v), some (.int occ), some (.int (covS w v occ kind acc)), some (.int kind), y] h') :
    wX (n + 140) sCov [some (.ref w.p), some (.int v), some (.int occ), some (.int acc), some (.int kind), x] h Q := by
  have e2 := W.ps
  have e3 := W.pk
  have e4 := W.k kind hk
  have e5 := W.s v hv
  have hsn : w.kd kind &&& w.sd v < 2 ^ (w.F * w.R) := and_lt (W.hb v hv)
  unfold sCov
  refine wX_forL ?_
  walk_at "es"
  rw [band_n]
  refine squares_c _ (lt20 W.hS hsn) ?_
  refine ⟨_, _, rfl, get_last _ _, rfl, ?_⟩
  refine wLv_inv ((bitsL (w.kd kind &&& w.sd v)).map fun t : Nat => V.int (t : Int))
    (fun j l h2 => (h ++ [.list ((bitsL (w.kd kind &&& w.sd v)).map fun t : Nat => V.int (t : Int))]) <+: h2 ∧ ∃ y,
      l = [some (.ref w.p), some (.int v), some (.int occ), some (.int (((bitsL (w.kd kind &&& w.sd v)).take j).foldl (fun acc s => acc ||| pieceN w.F w.R v kind s occ) acc : Nat)), some (.int kind), y])
    ?_ ?_ ?_ (bitsL (w.kd kind &&& w.sd v)).length 0 1000 _ _ (by simp) (by have := bitsL_len (w.kd kind &&& w.sd v); omega) ⟨List.prefix_refl _, _, rfl⟩
  · rintro j l h2 ⟨p2, _⟩
    exact live_list (get_app p2 (get_last _ _)) j
  · rintro j l h2 hj ⟨p2, y, rfl⟩
    have hj : j < (bitsL (w.kd kind &&& w.sd v)).length := by simpa using hj
    have p3 : h <+: h2 := (pre_app _ _).trans p2
    rw [foldl_take _ _ _ _ hj]
    generalize hX : ((bitsL (w.kd kind &&& w.sd v)).take j).foldl (fun acc s => acc ||| pieceN w.F w.R v kind s occ) acc = X
    have ht : (bitsL (w.kd kind &&& w.sd v))[j] < w.F * w.R := bitsL_lt hsn (List.getElem_mem hj)
    rw [List.getElem_map]
    generalize hT : (bitsL (w.kd kind &&& w.sd v))[j] = t at ht
    have f1 := (W.app p3).pg
    walk_at "es"
    refine piece_c _ (W.geo.app p3) W.hS hv kind ht occ fun h4 p4 => ?_
    walk_at "es"
    rw [bor_n]
    exact ⟨p2.trans p4, some (.int t), rfl⟩
  · rintro l h2 ⟨p2, y, rfl⟩
    rw [List.length_map, List.take_length]
    exact hq _ _ ((pre_app _ _).trans p2)
theorem cov_c (n : Nat) {w : Wo} {h : Hp} (W : Wd w h) {v : Nat} (hv : v < 2) (occ : Nat) {Q : VQ}
    (hq : ∀ h', h <+: h' → Q (.int (covN w v occ)) h') : wF (n + 170) 39 [.ref w.p, .int v, .int occ] h Q := by
  rw [wF39]; unfold b39
  walk_at "es"
  refine wX_forT ?_
  walk_at "es"
  refine ⟨_, _, rfl, get_last _ _, rfl, ?_⟩
  refine wLv_inv ([1, 2, 3, 4, 5, 6].map fun t : Nat => V.int (t : Int))
    (fun j l h2 => (h ++ [.tup [.int 1, .int 2, .int 3, .int 4, .int 5, .int 6]]) <+: h2 ∧ ∃ x y,
      l = [some (.ref w.p), some (.int v), some (.int occ), some (.int (([1, 2, 3, 4, 5, 6].take j).foldl (fun acc kind => covS w v occ kind acc) 0 : Nat)), x, y])
    ?_ ?_ ?_ 6 0 1000 _ _ rfl (by omega) ⟨List.prefix_refl _, _, _, rfl⟩
  · rintro j l h2 ⟨p2, _⟩
    exact live_tup (get_app p2 (get_last _ _)) j
  · rintro j l h2 hj ⟨p2, x, y, rfl⟩
    have hj : j < [1, 2, 3, 4, 5, 6].length := by simpa using hj
    have p3 : h <+: h2 := (pre_app _ _).trans p2
    rw [foldl_take _ _ _ _ hj]
    generalize hX : ([1, 2, 3, 4, 5, 6].take j).foldl (fun acc kind => covS w v occ kind acc) 0 = X
    have ht : ∀ t ∈ [1, 2, 3, 4, 5, 6], t < 7 := by decide
    have ht := ht _ (List.getElem_mem hj)
    rw [List.getElem_map]
    generalize hT : [1, 2, 3, 4, 5, 6][j] = t at ht
    refine wXs_cons ?_
    refine cov_inner _ (W.app p3) hv occ t X ht _ fun h4 y p4 => ?_
    walk_at "es"
    exact ⟨p2.trans p4, some (.int t), y, rfl⟩
  · rintro l h2 ⟨p2, x, y, rfl⟩
    walk_at "es"
    exact hq _ ((pre_app _ _).trans p2)
theorem attacked_by_c (n : Nat) {w : Wo} {h : Hp} (W : Wd w h) {v : Nat} (hv : v < 2) {Q : VQ}
    (hq : ∀ h', h <+: h' → Q (.int (covN w v (occN w))) h') : wF (n + 190) 40 [.ref w.p, .int v] h Q := by
  have e2 := W.ps
  have e3 : getV h (.ref w.ss) (.int 0) = some (.int (w.sd 0)) := W.s 0 (by decide)
  have e4 : getV h (.ref w.ss) (.int 1) = some (.int (w.sd 1)) := W.s 1 (by decide)
  rw [wF40]; unfold b40
  walk_at "es"
  rw [bor_n]
  refine cov_c _ W hv _ fun h1 p1 => ?_
  walk_at "es"
  exact hq _ p1
theorem forbidden_c (n : Nat) {w : Wo} {h : Hp} (W : Wd w h) {v : Nat} (hv : v < 2) {Q : VQ}
    (hq : ∀ h', h <+: h' → Q (.int (covN w (1 - v) (occN w ^^^ 2 ^ w.kq v))) h') : wF (n + 190) 41 [.ref w.p, .int v] h Q := by
  have e2 := W.ps
  have e3 : getV h (.ref w.ss) (.int 0) = some (.int (w.sd 0)) := W.s 0 (by decide)
  have e4 : getV h (.ref w.ss) (.int 1) = some (.int (w.sd 1)) := W.s 1 (by decide)
  have h2 := size_le W.hS
  have h3 := (W.hk v hv).2
  rw [wF41]; unfold b41
  walk_at "es"
  refine king_c _ W hv ?_
  refine wB_shl (by omega) (by omega) (by decide) ?_
  rw [shl1]
  walk_at "es"
  rw [bor_n, bxor_n, one_sub hv]
  refine cov_c _ W (by omega) _ fun h1 p1 => ?_
  walk_at "es"
  exact hq _ p1
end
section
set_option maxRecDepth 100000
set_option linter.unusedSimpArgs false
set_option linter.unusedVariables false
/-- one turn of a comprehension -/
noncomputable def wIt (n : Nat) (elt : X) (conds : List X) (l : Lc) (h : Hp) (Q : Option V → Hp → Prop) : Prop :=
  wp (condsV (fun e h => ev progP n e l h) conds h) (fun r => if r.1 then wE n elt l r.2 (fun y h => Q (some y) h) else Q none r.2)
theorem wIt_nil {n elt l h} {Q : Option V → Hp → Prop} (H : wE n elt l h (fun y h => Q (some y) h)) : wIt n elt [] l h Q := by
  unfold wIt condsV; rw [wp_some]; exact H
theorem wIt_one {n elt c l h} {Q : Option V → Hp → Prop} (H : wTe n c l h (fun b h => (b = true → wE n elt l h (fun y h => Q (some y) h)) ∧ (b = false → Q none h))) : wIt n elt [c] l h Q := by
  unfold wIt condsV
  rw [wTe_def] at H
  refine wp_mono H ?_
  rintro ⟨b, h⟩ ⟨H1, H2⟩
  cases b
  · exact H2 rfl
  · exact H1 rfl
noncomputable def srcHas (h : Hp) (src : Src) (xs : List V) : Prop := match src with | .items ys => ys = xs | .list k => h[k]? = some (.list xs) | .tup k => h[k]? = some (.tup xs)
theorem pre_set {h a : Hp} (o : O) (p : h <+: a) {k : Nat} (hk : h.length ≤ k) : h <+: a.set k o := by
  obtain ⟨t, rfl⟩ := p
  rw [List.set_append_right _ _ hk]
  exact pre_app _ _
theorem app_at {a : Hp} {k : Nat} {xs : List V} {v : V} (e : a[k]? = some (.list xs)) (hl : xs.length < 1000) : appV a (.ref k) v = some (a.set k (.list (xs ++ [v]))) := by
  unfold appV; simp only [e]; rw [if_pos hl]
noncomputable def turn (n : Nat) (elt : X) (conds : List X) (caps : Lc) (k : Nat) : V → Hp → Option (R × Hp) := fun v a =>
  (condsV (fun e h => ev progP n e (caps ++ [some v]) h) conds a).bind fun (b, a) =>
    if b then (ev progP n elt (caps ++ [some v]) a).bind fun (y, a) => (appV a (.ref k) y).bind fun a => some (R.next, a)
    else some (R.next, a)
theorem turn_c {n elt conds caps} {h1 : Hp} {f : V → Option V} {x : V} {a : Hp} {acc : List V} (p : h1 <+: a) (e : a[h1.length]? = some (.list acc)) (hl : acc.length < 1000)
    (H : wIt n elt conds (caps ++ [some x]) a (fun r a' => a <+: a' ∧ r = f x)) :
    wp (turn n elt conds caps h1.length x a) (fun r => r.1 = .next ∧ h1 <+: r.2 ∧ r.2[h1.length]? = some (.list (acc ++ (f x).toList))) := by
  unfold turn
  unfold wIt at H
  rw [wp_bind]
  refine wp_mono H ?_
  rintro ⟨b, a2⟩ H
  cases b with
  | false =>
    obtain ⟨p2, hf⟩ := H
    show wp (some _) _
    rw [wp_some]
    refine ⟨rfl, p.trans p2, ?_⟩
    rw [← hf]
    simpa using get_app p2 e
  | true =>
    simp only [↓reduceIte] at H
    rw [wE_def] at H
    simp only [↓reduceIte]
    rw [wp_bind]
    refine wp_mono H ?_
    rintro ⟨y, a3⟩ ⟨p3, hf⟩
    have e3 := get_app p3 e
    simp only
    rw [app_at e3 hl]
    show wp (some _) _
    rw [wp_some]
    refine ⟨rfl, pre_set _ (p.trans p3) (Nat.le_refl _), ?_⟩
    rw [← hf]
    have := (List.getElem?_eq_some_iff.mp e3).1
    simp [this]
theorem turns_s {n elt conds caps} {h1 : Hp} {f : V → Option V} : ∀ (ys acc : List V) (a : Hp), h1 <+: a → a[h1.length]? = some (.list acc) → acc.length + ys.length < 1000 →
    (∀ x ∈ ys, ∀ a, h1 <+: a → wIt n elt conds (caps ++ [some x]) a (fun r a' => a <+: a' ∧ r = f x)) →
    wp (loopS (turn n elt conds caps h1.length) ys a) (fun r => h1 <+: r.2 ∧ r.2[h1.length]? = some (.list (acc ++ ys.filterMap f)))
  | [], acc, a, p, e, _, _ => by
    unfold loopS; rw [wp_some]
    exact ⟨p, by simpa using e⟩
  | x :: ys, acc, a, p, e, hl, H => by
    unfold loopS; rw [wp_bind]
    refine wp_mono (turn_c p e (by simp at hl; (first | lia | omega)) (H x (by simp) a p)) ?_
    rintro ⟨r, a2⟩ ⟨hr, p2, e2⟩
    simp only at hr; subst hr
    have hle : (f x).toList.length ≤ 1 := by cases f x <;> simp
    refine wp_mono (turns_s ys _ a2 p2 e2 (by simp at hl ⊢; (first | lia | omega)) (fun y hy => H y (by simp [hy]))) ?_
    rintro ⟨r, a3⟩ ⟨p3, e3⟩
    refine ⟨p3, ?_⟩
    rw [e3]
    congr 2
    rw [List.filterMap_cons]
    cases f x <;> simp
theorem turns_l {n elt conds caps} {h1 : Hp} {f : V → Option V} {src : Src} {xs : List V} (hs : ∀ a, h1 <+: a → ∀ j, liveAt a src j = some xs[j]?)
    (H : ∀ x ∈ xs, ∀ a, h1 <+: a → wIt n elt conds (caps ++ [some x]) a (fun r a' => a <+: a' ∧ r = f x)) :
    ∀ (c j m : Nat) (acc : List V) (a : Hp), j + c = xs.length → c < m → h1 <+: a → a[h1.length]? = some (.list acc) → acc.length + c < 1000 →
    wp (loopL (fun (a : Hp) => a) (turn n elt conds caps h1.length) src m j a) (fun r => h1 <+: r.2 ∧ r.2[h1.length]? = some (.list (acc ++ (xs.drop j).filterMap f)))
  | 0, j, m, acc, a, hj, hm, p, e, _ => by
    obtain ⟨m, rfl⟩ : ∃ m', m = m' + 1 := ⟨m - 1, by (first | lia | omega)⟩
    unfold loopL
    have : xs[j]? = none := List.getElem?_eq_none (by (first | lia | omega))
    rw [hs a p, this]
    show wp (some _) _
    rw [wp_some]
    refine ⟨p, ?_⟩
    rw [List.drop_eq_nil_of_le (by (first | lia | omega))]
    simpa using e
  | c + 1, j, m, acc, a, hj, hm, p, e, hl => by
    obtain ⟨m, rfl⟩ : ∃ m', m = m' + 1 := ⟨m - 1, by (first | lia | omega)⟩
    have hj' : j < xs.length := by (first | lia | omega)
    unfold loopL
    rw [hs a p, List.getElem?_eq_getElem hj']
    simp only [Option.bind_some]
    rw [wp_bind]
    refine wp_mono (turn_c p e (by (first | lia | omega)) (H _ (List.getElem_mem hj') a p)) ?_
    rintro ⟨r, a2⟩ ⟨hr, p2, e2⟩
    simp only at hr; subst hr
    have hle : (f xs[j]).toList.length ≤ 1 := by cases f xs[j] <;> simp
    refine wp_mono (turns_l hs H c (j+1) m _ a2 (by (first | lia | omega)) (by (first | lia | omega)) p2 e2 (by simp at hl ⊢; (first | lia | omega))) ?_
    rintro ⟨r, a3⟩ ⟨p3, e3⟩
    refine ⟨p3, ?_⟩
    rw [e3]
    congr 2
    rw [List.drop_eq_getElem_cons hj', List.filterMap_cons]
    cases f xs[j] <;> simp
theorem wE_compK {n elt iter conds caps l h} {Q : VQ} (f : V → Option V)
    (H : wE n iter l h (fun it h1 => ∃ src xs, srcOf h1 it = some src ∧ srcHas h1 src xs ∧ xs.length ≤ 900 ∧
      (∀ x ∈ xs, ∀ a, h1 <+: a → wIt n elt conds (caps.map (fun i => (l[i]?).join) ++ [some x]) a (fun r a' => a <+: a' ∧ r = f x)) ∧
      (∀ a k, h1.length ≤ k → h1 <+: a → a[k]? = some (.list (xs.filterMap f)) → Q (.ref k) a))) : wE (n+1) (.comp elt iter conds caps) l h Q := by
  rw [wE_def, ev_comp, wp_bind]
  rw [wE_def] at H
  refine wp_mono H ?_
  rintro ⟨it, h1⟩ ⟨src, xs, hs, hh, hl, hi, hq⟩
  simp only at hs
  simp only [hs, Option.bind_some]
  rw [wp_bind]
  have p0 : h1 <+: h1 ++ [O.list []] := pre_app _ _
  have e0 := get_last h1 (O.list [])
  have key : wp (loopOn (fun (a : Hp) => a) (turn n elt conds (caps.map (fun i => (l[i]?).join)) h1.length) src (h1 ++ [O.list []]))
      (fun r => h1 <+: r.2 ∧ r.2[h1.length]? = some (.list (xs.filterMap f))) := by
    cases src with
    | items ys =>
      have : ys = xs := hh
      subst this
      exact turns_s ys [] _ p0 e0 (by simp; (first | lia | omega)) hi
    | list k =>
      have := turns_l (src := .list k) (fun a p j => live_list (get_app p hh) j) hi xs.length 0 1000 [] _ (by (first | lia | omega)) (by (first | lia | omega)) p0 e0 (by simp; (first | lia | omega))
      unfold loopOn
      simpa using this
    | tup k =>
      have := turns_l (src := .tup k) (fun a p j => live_tup (get_app p hh) j) hi xs.length 0 1000 [] _ (by (first | lia | omega)) (by (first | lia | omega)) p0 e0 (by simp; (first | lia | omega))
      unfold loopOn
      simpa using this
  refine wp_mono key ?_
  rintro ⟨r, a⟩ ⟨p, e⟩
  exact hq _ _ (Nat.le_refl _) p e
theorem wE_comp {n elt iter conds caps l h} {Q : VQ} (f : V → Option V)
  (H : wE n iter l h (fun it h1 => ∃ src xs, srcOf h1 it = some src ∧ srcHas h1 src xs ∧ xs.length ≤ 900 ∧
      (∀ x ∈ xs, ∀ a, h1 <+: a → wIt n elt conds (caps.map (fun i => (l[i]?).join) ++ [some x]) a (fun r a' => a <+: a' ∧ r = f x)) ∧
      (∀ a k, h1 <+: a → a[k]? = some (.list (xs.filterMap f)) → Q (.ref k) a))) : wE (n+1) (.comp elt iter conds caps) l h Q := by
  refine wE_compK f (wE_mono H ?_)
  rintro it h1 ⟨src, xs, a1, a2, a3, a4, a5⟩
  exact ⟨src, xs, a1, a2, a3, a4, fun a k _ p e => a5 a k p e⟩
theorem src_list {h : Hp} {k : Nat} {xs : List V} (e : h[k]? = some (.list xs)) : srcOf h (.ref k) = some (.list k) := by unfold srcOf; simp only [e]
theorem src_tup {h : Hp} {k : Nat} {xs : List V} (e : h[k]? = some (.tup xs)) : srcOf h (.ref k) = some (.tup k) := by unfold srcOf; simp only [e]
/-- a list of naturals given as a map -/
noncomputable def arr (N : Nat) (y : Nat → Nat) : O := .list ((List.range N).map fun s => V.int ((y s : Nat) : Int))
noncomputable def nats (L : List Nat) : O := .list (L.map fun s => V.int ((s : Nat) : Int))
theorem arr_get {h : Hp} {k N : Nat} {y : Nat → Nat} (e : h[k]? = some (arr N y)) (hN : N ≤ 900) {s : Nat} (hs : s < N) : getV h (.ref k) (.int s) = some (.int (y s)) := by
  unfold getV arr at *
  simp only [e]
  rw [if_pos (by simp; (first | lia | omega))]
  simp [hs]
theorem fmod_n (a b : Nat) : (a : Int).fmod b = ((a % b : Nat) : Int) := by
  rw [Int.fmod_eq_emod_of_nonneg _ (by (first | lia | omega))]; rfl
theorem fdiv_n (a b : Nat) : (a : Int).fdiv b = ((a / b : Nat) : Int) := by
  rw [Int.fdiv_eq_ediv_of_nonneg _ (by (first | lia | omega))]; rfl
end
section
set_option maxRecDepth 100000
set_option linter.unusedSimpArgs false
set_option linter.unusedVariables false
noncomputable def absI (x : Int) : Int := if x < 0 then -x else x
noncomputable def lineV (df dr far kI : Int) : Bool :=
  !(far == 0 || !([0, far].contains (absI df)) || !([0, far].contains (absI dr))) && !((kI == 3 && df * dr == 0) || (kI == 4 && !(df * dr == 0)))
noncomputable def geoV (df dr far kI man : Int) : Bool :=
  if kI == 1 then absI df == 1 && dr == (if man < 8 then 1 else -1)
  else if kI == 2 then absI (df * dr) == 2
  else if kI == 6 then far == 1
  else lineV df dr far kI
noncomputable def pathV (F a df dr far : Int) (k : Nat) : Int := a + (1 + (k : Int) * 1) * (df.fdiv far + dr.fdiv far * F)
noncomputable def hitV (F a df dr far kI man : Int) (y : Nat → Nat) : Bool :=
  geoV df dr far kI man && (kI == 1 || kI == 2 || kI == 6 || (List.range (far - 1).toNat).all fun k => y (pathV F a df dr far k).toNat == 0)
theorem rng1 (b : Int) (h0 : 0 ≤ b) (h5 : b ≤ 5) : rngOk 1 b 1 = true ∧ rngItems 1 b 1 = (List.range (b - 1).toNat).map fun (i : Nat) => V.int (1 + i * 1) := by
  have : b = 0 ∨ b = 1 ∨ b = 2 ∨ b = 3 ∨ b = 4 ∨ b = 5 := by omega
  rcases this with rfl | rfl | rfl | rfl | rfl | rfl <;> exact ⟨rfl, rfl⟩
theorem mul_small {a b : Int} (ha : a.natAbs ≤ 5) (hb : b.natAbs ≤ 5) : a.natAbs < 2 ^ 64 ∧ b.natAbs < 2 ^ 64 := by omega


theorem fin_rb {Q : RQ} {x y : Bool} {l h} (e : x = y) (H : Q (.ret (.bool y)) l h) : Q (.ret (.bool x)) l h := by subst e; exact H
theorem fdiv5 {a b : Int} (ha : a.natAbs ≤ 5) (hb : 1 ≤ b ∧ b ≤ 5) : (a.fdiv b).natAbs ≤ 5 := by
  rw [Int.fdiv_eq_ediv_of_nonneg _ (by omega)]
  have : b = 1 ∨ b = 2 ∨ b = 3 ∨ b = 4 ∨ b = 5 := by omega
  rcases this with rfl | rfl | rfl | rfl | rfl <;> omega
theorem mul5 {a b : Int} (ha : a.natAbs ≤ 5) (hb : b.natAbs ≤ 5) : (a * b).natAbs ≤ 25 := by
  rw [Int.natAbs_mul]; exact Nat.mul_le_mul ha hb
noncomputable def sFor43 : S := (.for 9 (.bi .range [(.cst (.int 1)), (.var 7)]) [(.iff (.sub (.var 4) (.bin .Add (.var 2) (.bin .Mult (.var 9) (.bin .Add (.bin .FloorDiv (.var 5) (.var 7)) (.bin .Mult (.bin .FloorDiv (.var 6) (.var 7)) (.var 0)))))) [(.ret (.cst (.bool false)))] [])])
noncomputable def clearV (F a df dr far : Int) (y : Nat → Nat) : Bool := (List.range (far - 1).toNat).all fun k => y (pathV F a df dr far k).toNat == 0
theorem loop43 (n : Nat) {h : Hp} {N F a ly : Nat} (hN : N ≤ 20) {df dr far : Int} {mv kv gv : V} {y : Nat → Nat} (hly : h[ly]? = some (arr N y)) (b1 : df.natAbs ≤ 5) (b2 : dr.natAbs ≤ 5) (b3 : 0 ≤ far ∧ far ≤ 5) (bF : F ≤ 5)
    (h0 : far ≠ 0) (hp : ∀ k : Nat, k < (far - 1).toNat → 0 ≤ pathV F a df dr far k ∧ pathV F a df dr far k < N) {Q : RQ}
    (hq : ∀ h' l, h <+: h' → (clearV F a df dr far y = true → Q .next l h') ∧ (clearV F a df dr far y = false → Q (.ret (.bool false)) l h')) :
    wX (n + 40) sFor43 [some (.int F), some mv, some (.int a), some gv, some (.ref ly), some (.int df), some (.int dr), some (.int far), some kv, none] h Q := by
  obtain ⟨r1, r2⟩ := rng1 far b3.1 b3.2
  have c1 : far.natAbs < 1073741824 := by omega
  have d1 := fdiv5 b1 (b := far) (by omega)
  have d2 := fdiv5 b2 (b := far) (by omega)
  have d3 : (F : Int).natAbs ≤ 5 := by omega
  have d4 := mul5 d2 d3
  have m1 : (dr.fdiv far).natAbs < 2 ^ 64 := by omega
  have m2 : (F : Int).natAbs < 2 ^ 64 := by omega
  have m3 : (df.fdiv far + dr.fdiv far * F).natAbs < 2 ^ 64 := by omega
  unfold sFor43
  refine wX_forI ?_
  walk_at "es"
  refine wI_range2 r1 ?_
  refine ⟨_, src_rng (get_last _ _) r1, rfl, ?_⟩
  rw [r2]
  refine wLo_inv (fun j l h2 => h2 = h ++ [.rng 1 far 1] ∧ (∃ x, l = [some (.int F), some mv, some (.int a), some gv, some (.ref ly), some (.int df), some (.int dr), some (.int far), some kv, x]) ∧ ∀ i : Nat, i < j → y (pathV F a df dr far i).toNat = 0) _ 0 _ _ ⟨rfl, ⟨_, rfl⟩, fun i hi => absurd hi (Nat.not_lt_zero _)⟩ ?_ ?_
  · rintro j l h2 hj ⟨rfl, ⟨x, rfl⟩, hc⟩
    have hj : j < (far - 1).toNat := by simpa using hj
    rw [List.getElem_map, List.getElem_range, Nat.zero_add]
    rw [Nat.zero_add] at hc
    obtain ⟨p1, p2⟩ := hp j hj
    have m4 : (1 + (j : Int) * 1).natAbs < 2 ^ 64 := by omega
    have hg := arr_get (get_app (pre_app h [.rng 1 far 1]) hly) (by omega) (s := (pathV F a df dr far j).toNat) (by omega)
    rw [Int.toNat_of_nonneg p1] at hg
    walk_at "es"
    refine ⟨_, hg, ?_⟩
    walk_at "es"
    · rename_i hz
      have hz := ne0 hz
      refine (hq _ _ (pre_app _ _)).2 ?_
      unfold clearV
      rw [List.all_eq_false]
      refine ⟨j, by simpa using hj, ?_⟩
      simpa using hz
    · rename_i hz
      have hz := eq0 hz
      refine ⟨⟨_, rfl⟩, ?_⟩
      intro i hi
      by_cases hij : i = j
      · subst hij; exact hz
      · exact hc i (by omega)
  · rintro l h2 ⟨rfl, _, hc⟩
    refine (hq _ _ (pre_app _ _)).1 ?_
    unfold clearV
    rw [List.all_eq_true]
    intro k hk
    have := hc k (by simpa using hk)
    simpa using this
@[irreducible] noncomputable def tail43 : List S := b43.drop 4
theorem line5 {df dr far kI : Int} (h : lineV df dr far kI = true) : lineV df dr far 5 = true := by
  unfold lineV at *
  rw [Bool.and_eq_true] at h
  rw [h.1]; rfl
theorem geo_line {df dr far kI man : Int} (h1 : (kI == 1) = false) (h2 : (kI == 2) = false) (h6 : (kI == 6) = false) : geoV df dr far kI man = lineV df dr far kI := by
  simp [geoV, h1, h2, h6]
theorem hits_tail (n : Nat) {h : Hp} {N F a ly : Nat} (hN : N ≤ 20) {df dr far kI man : Int} {gv : V} {y : Nat → Nat} (hly : h[ly]? = some (arr N y)) (b1 : df.natAbs ≤ 5) (b2 : dr.natAbs ≤ 5) (b3 : 0 ≤ far ∧ far ≤ 5) (bF : F ≤ 5)
    (hp : lineV df dr far 5 = true → far ≠ 0 ∧ ∀ k, k < (far - 1).toNat → 0 ≤ pathV F a df dr far k ∧ pathV F a df dr far k < N) {Q : RQ}
    (hq : ∀ h' l, h <+: h' → Q (.ret (.bool (hitV F a df dr far kI man y))) l h') :
    wXs (n + 50) tail43 [some (.int F), some (.int man), some (.int a), some gv, some (.ref ly), some (.int df), some (.int dr), some (.int far), some (.int kI), none] h Q := by
  obtain ⟨m1, m2⟩ := mul_small b1 b2
  unfold tail43 b43
  simp only [List.drop]
  walk_at "es"
  all_goals first
    | (refine fin_rb ?_ (hq _ _ (by first | exact List.prefix_refl _ | exact pre_app _ _ | exact (pre_app _ _).trans (pre_app _ _)))
       simp only [hitV, geoV, lineV, absI, *, Bool.true_and, Bool.and_true, Bool.false_and, Bool.and_false, Bool.true_or, Bool.or_true, Bool.or_false, Bool.false_or, ↓reduceIte, Bool.not_true, Bool.not_false, Bool.false_eq_true]; done)
    | (refine fin_rb ?_ (hq _ _ (List.prefix_refl _))
       rename_i hc
       have hc := of_decide_eq_true hc
       simp only [hitV, geoV, lineV, absI, *, Bool.true_and, Bool.and_true, Bool.true_or, ↓reduceIte]; done)
    | (refine fin_rb ?_ (hq _ _ (List.prefix_refl _))
       rename_i hc
       have hc := of_decide_eq_false hc
       simp only [hitV, geoV, lineV, absI, *, Bool.true_and, Bool.and_true, Bool.true_or, ↓reduceIte]; done)
    | (have hl : lineV df dr far kI = true := by
         simp only [lineV, absI, *, Bool.false_or, Bool.or_false, Bool.and_false, Bool.false_and, Bool.not_false, Bool.and_self]
       obtain ⟨z1, z2⟩ := hp (line5 hl)
       refine loop43 _ hN (get_app (by first | exact List.prefix_refl _ | exact pre_app _ _ | exact (pre_app _ _).trans (pre_app _ _)) hly) b1 b2 b3 bF z1 z2 fun h' l p => ⟨fun hcl => ?_, fun hcl => ?_⟩
       · walk_at "es"
         refine fin_rb ?_ (hq _ _ ((List.IsPrefix.trans (by first | exact List.prefix_refl _ | exact pre_app _ _ | exact (pre_app _ _).trans (pre_app _ _)) p)))
         unfold clearV at hcl
         unfold hitV
         rw [geo_line (by assumption) (by assumption) (by assumption), hl, hcl]
         simp only [Bool.or_true, Bool.and_true]
       · walk_at "es"
         refine fin_rb ?_ (hq _ _ ((List.IsPrefix.trans (by first | exact List.prefix_refl _ | exact pre_app _ _ | exact (pre_app _ _).trans (pre_app _ _)) p)))
         unfold clearV at hcl
         unfold hitV
         rw [geo_line (by assumption) (by assumption) (by assumption), hl, hcl]
         simp only [*, Bool.or_false, Bool.and_false])
    | (exfalso; simp only [beq_iff_eq] at *; omega)
noncomputable def dfI (F a g : Nat) : Int := ((g % F : Nat) : Int) - ((a % F : Nat) : Int)
noncomputable def drI (F a g : Nat) : Int := ((g / F : Nat) : Int) - ((a / F : Nat) : Int)
noncomputable def farI (F a g : Nat) : Int := if absI (drI F a g) > absI (dfI F a g) then absI (drI F a g) else absI (dfI F a g)
noncomputable def hitB (F man a g : Nat) (y : Nat → Nat) : Bool := hitV F a (dfI F a g) (drI F a g) (farI F a g) ((man % 8 : Nat) : Int) man y
noncomputable def farOk (F R a g : Nat) : Bool := decide (0 ≤ farI F a g) && decide (farI F a g ≤ 5) && decide ((dfI F a g).natAbs ≤ 5) && decide ((drI F a g).natAbs ≤ 5) &&
  (!lineV (dfI F a g) (drI F a g) (farI F a g) 5 || (decide (farI F a g ≠ 0) && (List.range (farI F a g - 1).toNat).all fun k => decide (0 ≤ pathV F a (dfI F a g) (drI F a g) (farI F a g) k) && decide (pathV F a (dfI F a g) (drI F a g) (farI F a g) k < ((F * R : Nat) : Int))))
theorem far_check : ∀ S ∈ shapes, ∀ a, a < S.1 * S.2 → ∀ g, g < S.1 * S.2 → farOk S.1 S.2 a g = true := by decide +kernel
theorem F_ok {F R : Nat} (hS : (F, R) ∈ shapes) : 3 ≤ F ∧ F ≤ 5 ∧ 4 ≤ R ∧ R ≤ 5 := by
  simp only [shapes, List.mem_cons, Prod.mk.injEq, List.not_mem_nil, or_false] at hS
  rcases hS with ⟨rfl, rfl⟩ | ⟨rfl, rfl⟩ | ⟨rfl, rfl⟩ | ⟨rfl, rfl⟩ <;> decide
end
section
set_option maxRecDepth 100000
set_option linter.unusedSimpArgs false
set_option linter.unusedVariables false
theorem fmod8 (a : Nat) : (a : Int).fmod 8 = ((a % 8 : Nat) : Int) := fmod_n a 8
theorem hits_c (n : Nat) {h : Hp} {F R : Nat} (hS : (F, R) ∈ shapes) {man a g ly : Nat} {y : Nat → Nat} (ha : a < F * R) (hg : g < F * R) (hly : h[ly]? = some (arr (F * R) y)) {Q : VQ}
    (hq : ∀ h', h <+: h' → Q (.bool (hitB F man a g y)) h') : wF (n + 60) 43 [.int F, .int man, .int a, .int g, .ref ly] h Q := by
  have hF := F_ok hS
  have f1 : (F : Int) ≠ 0 := by omega
  have f2 : (F : Int).natAbs < 1073741824 := by omega
  have ck := far_check (F, R) hS a ha g hg
  unfold farOk at ck
  simp only [Bool.and_eq_true, decide_eq_true_eq] at ck
  obtain ⟨⟨⟨⟨c1, c2⟩, c3⟩, c4⟩, c5⟩ := ck
  have hsz := size_le hS
  rw [wF43]
  have eb : b43 = b43.take 4 ++ tail43 := by unfold tail43; rfl
  rw [eb]
  unfold b43
  simp only [List.take, List.cons_append, List.nil_append]
  walk_at "es"
  have e1 : (g : Int).fmod F - (a : Int).fmod F = dfI F a g := by rw [fmod_n, fmod_n]; rfl
  have e2 : (g : Int).fdiv F - (a : Int).fdiv F = drI F a g := by rw [fdiv_n, fdiv_n]; rfl
  rw [e1, e2, fmod8]
  refine hits_tail (n + 5) (N := F * R) hsz.1 hly c3 c4 ⟨c1, c2⟩ hF.2.1 ?_ fun h' l p => hq _ p
  intro hl
  rw [hl] at c5
  simp only [Bool.not_true, Bool.false_or, Bool.and_eq_true, decide_eq_true_eq] at c5
  refine ⟨c5.1, fun k hk => ?_⟩
  have := List.all_eq_true.mp c5.2 k (by simpa using hk)
  simp only [Bool.and_eq_true, decide_eq_true_eq] at this
  exact this
/-- the hitters of a goal -/
noncomputable def hitL (F N : Nat) (c : Nat → Nat) (g : Nat) (y : Nat → Nat) (v : Nat) : List Nat := (List.range N).filter fun t => c t != 0 && c t / 8 == v && hitB F (c t) t g y
theorem fdiv8 (a : Nat) : (a : Int).fdiv 8 = ((a / 8 : Nat) : Int) := fdiv_n a 8
theorem rngN {N : Nat} (hN : N ≤ 20) : rngOk 0 N 1 = true ∧ rngItems 0 N 1 = (List.range N).map fun t : Nat => V.int (t : Int) := by
  refine ⟨?_, ?_⟩
  · unfold rngOk
    rw [decide_eq_true (by decide), decide_eq_true (by omega), decide_eq_true (by decide), decide_eq_true (by decide)]; rfl
  · have : ∀ N : Nat, N ≤ 20 → (Builtin.Range.rangeSize 0 (N : Int) 1).toNat = N := by decide
    unfold rngItems
    rw [this N hN]
    exact List.map_congr_left fun i _ => congrArg V.int (by rw [Int.mul_one, Int.zero_add])
theorem len_arr (N : Nat) (y : Nat → Nat) : ((List.range N).map fun s => V.int ((y s : Nat) : Int)).length = N := by simp
noncomputable def nV : V → Nat | .int i => i.toNat | _ => 0
theorem beqN (a b : Nat) : ((a : Int) == (b : Int)) = (a == b) := by
  rw [Bool.eq_iff_iff]; simp only [beq_iff_eq]; omega
theorem nV_n (t : Nat) : nV (V.int (t : Int)) = t := by simp [nV]
theorem filterMap_nats (L : List Nat) (p : Nat → Bool) : (L.map fun t : Nat => V.int (t : Int)).filterMap (fun x => if p (nV x) then some x else none) = (L.filter p).map fun t : Nat => V.int (t : Int) := by
  induction L with
  | nil => rfl
  | cons a r ih =>
    simp only [List.map_cons, List.filterMap_cons, nV_n, List.filter_cons]
    cases p a
    · simpa using ih
    · simp [ih]
theorem hitters_c (n : Nat) {h : Hp} {F R : Nat} (hS : (F, R) ∈ shapes) {ck ly g v : Nat} {c y : Nat → Nat} (hg : g < F * R) (hc : h[ck]? = some (arr (F * R) c)) (hly : h[ly]? = some (arr (F * R) y)) {Q : VQ}
    (hq : ∀ h' k, h.length ≤ k → h <+: h' → h'[k]? = some (nats (hitL F (F * R) c g y v)) → Q (.ref k) h') : wF (n + 80) 44 [.int F, .ref ck, .int g, .ref ly, .int v] h Q := by
  have hsz := size_le hS
  obtain ⟨r1, r2⟩ := rngN hsz.1
  rw [wF44]; unfold b44
  walk_at "es"
  refine wE_compK (fun x => if c (nV x) != 0 && c (nV x) / 8 == v && hitB F (c (nV x)) (nV x) g y then some x else none) ?_
  walk_at "es"
  refine wI_len (xs := (List.range (F * R)).map fun s => V.int ((c s : Nat) : Int)) hc (ml9 _ hsz.1) ?_
  rw [len_arr]
  walk_at "es"
  refine wI_range1 r1 ?_
  refine ⟨_, _, src_rng (get_last _ _) r1, rfl, rl9 r2 hsz.1, ?_, ?_⟩
  · rw [r2]
    intro x hx a pa
    rw [List.mem_map] at hx
    obtain ⟨t, ht, rfl⟩ := hx
    have ht : t < F * R := by simpa using ht
    have pa2 : h <+: a := (pre_app _ _).trans pa
    have hct := arr_get (get_app pa2 hc) (le9 hsz.1) ht
    refine wIt_one ?_
    walk_at "es"
    · rename_i hz
      have hz := eq0 hz
      refine ⟨List.prefix_refl _, ?_⟩
      simp [nV_n, hz]
    · rename_i hz
      rw [fdiv8, beqN] at hz
      refine ⟨List.prefix_refl _, ?_⟩
      simp only [nV_n, hz, Bool.and_false, Bool.false_and]; rfl
    · rename_i h1 h2
      have h1 : (c t != 0) = true := by simpa using ne0 h1
      rw [fdiv8, beqN] at h2
      refine hits_c _ hS ht hg (get_app pa2 hly) fun h3 p3 => ?_
      walk_at "es"
      · rename_i hh
        refine ⟨p3, ?_⟩
        simp only [nV_n, h1, h2, hh, Bool.and_self, ↓reduceIte]
      · rename_i hh
        refine ⟨p3, ?_⟩
        simp only [nV_n, h1, h2, hh, Bool.and_false]; rfl
  · intro a k hk pa ha
    walk_at "es"
    refine hq a k (by simp at hk; omega) ((pre_app _ _).trans pa) ?_
    rw [ha, r2]
    unfold nats hitL
    rw [filterMap_nats (List.range (F * R)) (fun t => c t != 0 && c t / 8 == v && hitB F (c t) t g y)]
noncomputable def sumB (L : List Nat) : Nat := L.foldl (fun a t => a + 2 ^ t) 0
theorem bits_c (n : Nat) {h : Hp} {k : Nat} {L : List Nat} (hk : h[k]? = some (nats L)) (hl : L.length ≤ 900) (hb : ∀ t ∈ L, t ≤ 900) {Q : VQ}
    (hq : Q (.int (sumB L)) h) : wF (n + 30) 45 [.ref k] h Q := by
  rw [wF45]; unfold b45
  walk_at "es"
  refine wX_forL ?_
  walk_at "es"
  refine ⟨_, _, rfl, hk, rfl, ?_⟩
  refine wLv_inv (L.map fun t : Nat => V.int (t : Int))
    (fun j l h2 => h2 = h ∧ ∃ x, l = [some (.ref k), some (.int ((L.take j).foldl (fun a t => a + 2 ^ t) 0 : Nat)), x])
    ?_ ?_ ?_ L.length 0 1000 _ _ (by simp) (by omega) ⟨rfl, _, rfl⟩
  · rintro j l h2 ⟨rfl, _⟩
    exact live_list hk j
  · rintro j l h2 hj ⟨rfl, x, rfl⟩
    have hj : j < L.length := by simpa using hj
    rw [foldl_take _ _ _ _ hj]
    generalize hX : (L.take j).foldl (fun a t => a + 2 ^ t) 0 = X
    have ht := hb _ (List.getElem_mem hj)
    rw [List.getElem_map]
    generalize hT : L[j] = t at ht
    walk_at "es"
    refine wB_shl (by omega) (by omega) (by decide) ?_
    rw [shl1]
    walk_at "es"
    refine ⟨some (.int t), ?_⟩
    rfl
  · rintro l h2 ⟨rfl, x, rfl⟩
    rw [List.length_map, List.take_length]
    walk_at "es"
    exact hq
end
section
set_option maxRecDepth 100000
set_option linter.unusedSimpArgs false
set_option linter.unusedVariables false
noncomputable def withB (F a b q : Nat) : Bool :=
  if q == a || q == b || !((((q % F : Nat) : Int) - ((a % F : Nat) : Int)) * (((b / F : Nat) : Int) - ((a / F : Nat) : Int)) == (((q / F : Nat) : Int) - ((a / F : Nat) : Int)) * (((b % F : Nat) : Int) - ((a % F : Nat) : Int))) then false
  else (decide ((if ((b % F : Nat) : Int) < ((a % F : Nat) : Int) then ((b % F : Nat) : Int) else ((a % F : Nat) : Int)) ≤ ((q % F : Nat) : Int)) && decide (((q % F : Nat) : Int) ≤ (if ((b % F : Nat) : Int) > ((a % F : Nat) : Int) then ((b % F : Nat) : Int) else ((a % F : Nat) : Int)))) &&
    (decide ((if ((b / F : Nat) : Int) < ((a / F : Nat) : Int) then ((b / F : Nat) : Int) else ((a / F : Nat) : Int)) ≤ ((q / F : Nat) : Int)) && decide (((q / F : Nat) : Int) ≤ (if ((b / F : Nat) : Int) > ((a / F : Nat) : Int) then ((b / F : Nat) : Int) else ((a / F : Nat) : Int))))
theorem fin_rv {Q : VQ} {x y : Bool} {h} (e : x = y) (H : Q (.bool y) h) : Q (retV (R.ret (.bool x))) h := by subst e; exact H
theorem smallS (x y : Nat) (hx : x < 8) (hy : y < 8) : ((x : Int) - (y : Int)).natAbs < 2 ^ 64 := by (first | lia | omega)
theorem within_c (n : Nat) {h : Hp} {F R : Nat} (hS : (F, R) ∈ shapes) {a b q : Nat} (ha : a < F * R) (hb : b < F * R) (hq' : q < F * R) {Q : VQ}
    (hq : ∀ h', h <+: h' → Q (.bool (withB F a b q)) h') : wF (n + 60) 46 [.int F, .int a, .int b, .int q] h Q := by
  have hF := F_ok hS
  have f1 : (F : Int) ≠ 0 := by (first | lia | omega)
  have f2 : (F : Int).natAbs < 1073741824 := by (first | lia | omega)
  have qa : a / F < R := Nat.div_lt_of_lt_mul ha
  have qb : b / F < R := Nat.div_lt_of_lt_mul hb
  have qq : q / F < R := Nat.div_lt_of_lt_mul hq'
  have ra : a % F < F := Nat.mod_lt _ (by (first | lia | omega))
  have rb : b % F < F := Nat.mod_lt _ (by (first | lia | omega))
  have rq : q % F < F := Nat.mod_lt _ (by (first | lia | omega))
  have m1 : (((q % F : Nat) : Int) - ((a % F : Nat) : Int)).natAbs < 2 ^ 64 := smallS _ _ (by (first | lia | omega)) (by (first | lia | omega))
  have m2 : (((b / F : Nat) : Int) - ((a / F : Nat) : Int)).natAbs < 2 ^ 64 := smallS _ _ (by (first | lia | omega)) (by (first | lia | omega))
  have m3 : (((q / F : Nat) : Int) - ((a / F : Nat) : Int)).natAbs < 2 ^ 64 := smallS _ _ (by (first | lia | omega)) (by (first | lia | omega))
  have m4 : (((b % F : Nat) : Int) - ((a % F : Nat) : Int)).natAbs < 2 ^ 64 := smallS _ _ (by (first | lia | omega)) (by (first | lia | omega))
  rw [wF46]; unfold b46
  refine wXs_cons ?_
  refine wX_assVs ?_
  walk_at "es"
  simp only [fmod_n, fdiv_n]
  refine ⟨_, _, _, rfl, get_last _ _, rfl, ?_⟩
  refine wR_next ?_
  refine wXs_cons ?_
  refine wX_assSw ?_
  walk_at "es"
  simp only [fmod_n, fdiv_n]
  refine ⟨_, _, _, rfl, get_last _ _, by simp, by simp, ?_⟩
  refine wR_next ?_
  refine wXs_cons ?_
  walk_at "es"
  all_goals
    simp only [beqN] at *
    refine fin_rv ?_ (hq _ ((pre_app _ _).trans (pre_app _ _)))
    simp only [withB, *, Bool.true_or, Bool.or_true, Bool.false_or, Bool.or_false, Bool.not_true, Bool.not_false, Bool.false_eq_true, ↓reduceIte, Bool.true_and, Bool.and_true, Bool.false_and, Bool.and_false]
theorem wC_in {h : Hp} {a : Int} {k xs p} {Q : Bool → Prop} (e : h[k]? = some (.tup xs)) (e2 : intsOf xs = some p) (H : Q (p.contains a)) : wC .In h (.int a) (.ref k) Q := by
  refine wC_val (c := p.contains a) ?_ H
  simp only [cmpV, inV, e, e2]; rfl
theorem intsOf_nats (L : List Nat) : intsOf (L.map fun s : Nat => V.int (s : Int)) = some (L.map fun s : Nat => (s : Int)) := by
  induction L with
  | nil => rfl
  | cons a r ih => simp [intsOf, ih]
theorem contains_nats (L : List Nat) (a : Nat) : (L.map fun s : Nat => (s : Int)).contains (a : Int) = L.contains a := by
  rw [Bool.eq_iff_iff]; simp
  constructor
  · rintro ⟨x, h1, h2⟩
    have : x = a := by (first | lia | omega)
    exact this ▸ h1
  · intro h; exact ⟨a, h, rfl⟩
theorem wC_notinL {h : Hp} {a k : Nat} {L : List Nat} {Q : Bool → Prop} (e : h[k]? = some (nats L)) (H : Q (!L.contains a)) : wC .NotIn h (.int a) (.ref k) Q := by
  refine wC_val (c := !L.contains a) ?_ H
  simp only [cmpV, inV, e, nats, intsOf_nats, Option.map_some]
  rw [contains_nats]
theorem rep_nats (n : Nat) : (List.replicate n [V.int 0]).flatten = (List.range n).map fun s => V.int (((fun _ => 0 : Nat → Nat) s : Nat) : Int) := by
  induction n with
  | zero => rfl
  | succ n ih =>
    rw [List.replicate_succ, List.flatten_cons, ih, List.range_succ_eq_map]
    simp
theorem wB_rep {h : Hp} {k n : Nat} {Q : VQ} (e : h[k]? = some (.list [.int 0])) (hn : n ≤ 900) (H : Q (.ref h.length) (h ++ [arr n (fun _ => 0)])) : wB .Mult h (.ref k) (.int n) Q := by
  refine wB_val (v := .ref h.length) (h' := h ++ [arr n (fun _ => 0)]) ?_ H
  unfold binV
  simp only [e]
  rw [if_pos (by simp; (first | lia | omega))]
  unfold arr
  rw [Int.toNat_natCast, rep_nats]
noncomputable def metL (F N : Nat) (c : Nat → Nat) (king : Nat) (sn : List Nat) (t : Nat) : List Nat := (List.range N).filter fun q => c q != 0 && !sn.contains q && withB F king t q
noncomputable def heldM (c : Nat → Nat) (v : Nat) (x : List Nat × List Nat) (t : Nat) : List Nat → List Nat × List Nat
  | [q] => (if x.1.contains q then x.1 else x.1 ++ [q], if c q / 8 == v then x.2 ++ [t] else x.2)
  | _ => x
theorem heldM_ne {c v x t} : ∀ {M : List Nat}, M.length ≠ 1 → heldM c v x t M = x
  | [], _ => rfl
  | [_], h => absurd rfl h
  | _ :: _ :: _, _ => rfl
noncomputable def heldS (F N : Nat) (c : Nat → Nat) (king v : Nat) (sn : List Nat) (x : List Nat × List Nat) (t : Nat) : List Nat × List Nat := heldM c v x t (metL F N c king sn t)
noncomputable def snipL (F N : Nat) (c : Nat → Nat) (king v : Nat) : List Nat := (hitL F N c king (fun _ => 0) (1 - v)).filter fun t => [3, 4, 5].contains (c t % 8)
noncomputable def heldP (F N : Nat) (c : Nat → Nat) (king v : Nat) : List Nat × List Nat := (snipL F N c king v).foldl (heldS F N c king v (snipL F N c king v)) ([], [])
theorem heldS_len {F N c king v sn x t} : (heldS F N c king v sn x t).1.length ≤ x.1.length + 1 ∧ (heldS F N c king v sn x t).2.length ≤ x.2.length + 1 := by
  unfold heldS heldM
  split
  · constructor
    · simp only; split <;> simp
    · simp only; split <;> simp
  · exact ⟨by (first | lia | omega), by (first | lia | omega)⟩
theorem hitL_lt {F N c g y v t} (h : t ∈ hitL F N c g y v) : t < N := by
  unfold hitL at h
  rw [List.mem_filter] at h
  simpa using h.1
theorem hitL_len {F N c g y v} : (hitL F N c g y v).length ≤ N := by
  unfold hitL
  refine Nat.le_trans (List.length_filter_le _ _) ?_
  simp
theorem nats_get {h : Hp} {k : Nat} {L : List Nat} (e : h[k]? = some (nats L)) {i : Nat} {t : Nat} (hi : i < 900) (ht : L[i]? = some t) : getV h (.ref k) (.int i) = some (.int t) := by
  unfold getV nats at *
  simp only [e]
  rw [if_pos (by simp; (first | lia | omega))]
  simp [ht]
theorem set_eq {h : Hp} {k : Nat} (o : O) (hk : k < h.length) : (h.set k o)[k]? = some o := by simp [hk]
end
section
set_option maxRecDepth 100000
set_option linter.unusedSimpArgs false
set_option linter.unusedVariables false
noncomputable def befL (g : Nat) : List Nat → Option (List Nat)
  | [] => none
  | a :: r => if a == g then some [] else (befL g r).map (a :: ·)
theorem att_bef (p : Nat → Bool) (g : Nat) : ∀ l : List Nat, (attL p l).contains g = (befL g l).any (fun b => b.all fun x => !p x)
  | [] => rfl
  | a :: r => by
    have ih := att_bef p g r
    by_cases hag : a = g
    · subst hag
      simp only [attL, befL, beq_self_eq_true, ↓reduceIte, Option.any_some, List.all_nil]
      split <;> simp
    · have hga : (g == a) = false := by simp; exact fun h => hag h.symm
      simp only [attL, befL, beq_iff_eq, hag, ↓reduceIte]
      by_cases hp : p a = true
      · rw [if_pos hp]
        cases befL g r <;> simp [hp, hga] <;> exact fun h => hag h.symm
      · rw [if_neg hp, List.contains_cons, hga, ih]
        cases befL g r <;> simp [hp]
theorem attN_bit (F R d s occ g : Nat) : (attN F R d s occ).testBit g = (befL g (rayL F R d s)).any (fun b => b.all fun x => !occ.testBit x) := by
  unfold attN
  rw [testBit_mask, ← att_bef]
  simp
theorem fm_any {α β : Type} (f : α → Option β) (q : β → Bool) : ∀ l : List α, (l.filterMap f).any q = l.any fun a => (f a).any q
  | [] => rfl
  | a :: r => by
    rw [List.filterMap_cons, List.any_cons, ← fm_any f q r]
    cases f a <;> simp
theorem rookN_bit (F R s occ g : Nat) : (rookN F R s occ).testBit g = ([0, 1, 2, 3].filterMap fun d => befL g (rayL F R d s)).any (fun b => b.all fun x => !occ.testBit x) := by
  rw [fm_any]
  unfold rookN
  simp only [Nat.testBit_or, attN_bit, List.any_cons, List.any_nil, Bool.or_false, Bool.or_assoc]
theorem bishN_bit (F R s occ g : Nat) : (bishN F R s occ).testBit g = ([4, 5, 6, 7].filterMap fun d => befL g (rayL F R d s)).any (fun b => b.all fun x => !occ.testBit x) := by
  rw [fm_any]
  unfold bishN
  simp only [Nat.testBit_or, attN_bit, List.any_cons, List.any_nil, Bool.or_false, Bool.or_assoc]
noncomputable def pathN (F t g : Nat) : List Nat := (List.range (farI F t g - 1).toNat).map fun k => (pathV F t (dfI F t g) (drI F t g) (farI F t g) k).toNat
noncomputable def lineB (F t g : Nat) (k : Int) : Bool := lineV (dfI F t g) (drI F t g) (farI F t g) k
noncomputable def slChk (F R t g : Nat) : Bool :=
  ([0, 1, 2, 3].filterMap (fun d => befL g (rayL F R d t)) == if lineB F t g 4 then [pathN F t g] else []) &&
  ([0, 1, 2, 3].filterMap (fun d => befL t (rayL F R d g)) == if lineB F t g 4 then [(pathN F t g).reverse] else []) &&
  ([4, 5, 6, 7].filterMap (fun d => befL g (rayL F R d t)) == if lineB F t g 3 then [pathN F t g] else []) &&
  ([4, 5, 6, 7].filterMap (fun d => befL t (rayL F R d g)) == if lineB F t g 3 then [(pathN F t g).reverse] else [])
theorem sl_check : ∀ S ∈ shapes, ∀ t, t < S.1 * S.2 → ∀ g, g < S.1 * S.2 → slChk S.1 S.2 t g = true := by decide +kernel
noncomputable def nearB (F t g : Nat) (k man : Int) : Bool := geoV (dfI F t g) (drI F t g) (farI F t g) k man
noncomputable def fwd (F R t : Nat) (k man : Int) : Nat := mask ((List.range (F * R)).filter fun g => nearB F t g k man)
noncomputable def bwd (F R g : Nat) (k man : Int) : Nat := mask ((List.range (F * R)).filter fun t => nearB F t g k man)
noncomputable def stChk (F R s : Nat) : Bool :=
  pawnT F R 0 s == fwd F R s 1 1 && pawnT F R 1 s == bwd F R s 1 1 && pawnT F R 1 s == fwd F R s 1 9 && pawnT F R 0 s == bwd F R s 1 9 &&
  knightT F R s == fwd F R s 2 2 && knightT F R s == bwd F R s 2 2 && kingT F R s == fwd F R s 6 6 && kingT F R s == bwd F R s 6 6
theorem st_check : ∀ S ∈ shapes, ∀ s, s < S.1 * S.2 → stChk S.1 S.2 s = true := by decide +kernel
noncomputable def btChk (F R a b : Nat) : Bool := !lineB F b a 5 || betwN F R a b == mask ((List.range (F * R)).filter (withB F a b))
theorem bt_check : ∀ S ∈ shapes, ∀ a, a < S.1 * S.2 → ∀ b, b < S.1 * S.2 → btChk S.1 S.2 a b = true := by decide +kernel

theorem ray_lt_check : ∀ S ∈ shapes, ∀ d, d < 8 → ∀ s, s < S.1 * S.2 → ((rayL S.1 S.2 d s).all fun x => decide (x < S.1 * S.2)) = true := by decide +kernel
end
section
set_option maxRecDepth 100000
set_option linter.unusedSimpArgs false
set_option linter.unusedVariables false
noncomputable def bHeld : List S := [(.assign (.var 9) (.comp (.var 5) (.bi .range [(.bi .len [(.var 1)])]) [(.boolE .And [(.sub (.var 0) (.var 5)), (.cmp (.var 5) [.NotIn] [(.var 3)]), (.call 46 [(.var 1), (.var 2), (.var 4), (.var 5)])])] [1, 0, 2, 6, 5])), (.iff (.cmp (.bi .len [(.var 9)]) [.Eq] [(.cst (.int 1))]) [(.iff (.cmp (.sub (.var 9) (.cst (.int 0))) [.NotIn] [(.var 7)]) [(.expr (.append (.var 7) (.sub (.var 9) (.cst (.int 0)))))] []), (.iff (.cmp (.bin .FloorDiv (.sub (.var 1) (.sub (.var 9) (.cst (.int 0)))) (.cst (.int 8))) [.Eq] [(.var 3)]) [(.expr (.append (.var 8) (.var 5)))] [])] [])]
theorem nats_app (L : List Nat) (q : Nat) : O.list ((L.map fun s : Nat => V.int (s : Int)) ++ [V.int (q : Int)]) = nats (L ++ [q]) := by
  unfold nats; rw [List.map_append]; rfl
theorem app_nats {a : Hp} {k : Nat} {L : List Nat} {q : Nat} (e : a[k]? = some (nats L)) (hl : L.length ≤ 900) : appV a (.ref k) (.int q) = some (a.set k (nats (L ++ [q]))) := by
  unfold nats at e
  rw [app_at e (by simp; (first | lia | omega)), nats_app]
theorem isL_nats {a : Hp} {k : Nat} {L : List Nat} (e : a[k]? = some (nats L)) : isL a (.ref k) = true := by
  unfold nats at e
  simp only [isL, e]
theorem lt_of_get {a : Hp} {k : Nat} {o : O} (e : a[k]? = some o) : k < a.length := (List.getElem?_eq_some_iff.mp e).1
theorem get_set_ne {a : Hp} {k j : Nat} {o x : O} (hne : j ≠ k) (e : a[k]? = some o) : (a.set j x)[k]? = some o := by rw [List.getElem?_set_ne hne]; exact e
noncomputable def sHeld2 : S := (.iff (.cmp (.bin .FloorDiv (.sub (.var 1) (.sub (.var 9) (.cst (.int 0)))) (.cst (.int 8))) [.Eq] [(.var 3)]) [(.expr (.append (.var 8) (.var 5)))] [])
theorem held_2 (n : Nat) {h1 b : Hp} {N : Nat} (hN : N ≤ 20) {ck v t q k kh kp : Nat} {c : Nat → Nat} {Y X2 : List Nat} {fv bv kv sv : V}
    (hq0 : q < N) (hc : h1[ck]? = some (arr N c)) (p : h1 <+: b) (e1 : b[kh]? = some (nats Y)) (e2 : b[kp]? = some (nats X2)) (e3 : b[k]? = some (nats [q]))
    (k2 : h1.length ≤ kp) (k3 : kh ≠ kp) (l2 : X2.length ≤ 900) {Q : RQ}
    (hq : ∀ h3, h1 <+: h3 → h3[kh]? = some (nats Y) → h3[kp]? = some (nats (if c q / 8 == v then X2 ++ [t] else X2)) →
      Q .next [some fv, some (.ref ck), some kv, some (.int v), some bv, some (.int t), some sv, some (.ref kh), some (.ref kp), some (.ref k)] h3) :
    wX (n + 90) sHeld2 [some fv, some (.ref ck), some kv, some (.int v), some bv, some (.int t), some sv, some (.ref kh), some (.ref kp), some (.ref k)] b Q := by
  have g0 : getV b (.ref k) (.int 0) = some (.int q) := nats_get (L := [q]) e3 (i := 0) (by decide) rfl
  have g2 := arr_get (get_app p hc) (le9 hN) hq0
  unfold sHeld2
  walk_at "es"
  · rename_i hz
    rw [fdiv8, beqN] at hz
    rw [hz] at hq
    refine wE_append ?_
    walk_at "es"
    refine ⟨isL_nats e2, ?_⟩
    walk_at "es"
    refine ⟨_, app_nats e2 l2, fun k => by simp, ?_⟩
    walk_at "es"
    exact hq _ (pre_set _ p k2) (get_set_ne (Ne.symm k3) e1) (set_eq _ (lt_of_get e2))
  · rename_i hz
    rw [fdiv8, beqN] at hz
    rw [hz] at hq
    exact hq _ p e1 e2
theorem held_body (n : Nat) {h1 h2 : Hp} {F R : Nat} (hS : (F, R) ∈ shapes) {ck king v t ks kh kp : Nat} {c : Nat → Nat} {sn : List Nat} {X : List Nat × List Nat} {bv : V} {y : Option V}
    (hkg : king < F * R) (ht : t < F * R) (hc : h1[ck]? = some (arr (F * R) c)) (hs : h1[ks]? = some (nats sn)) (p : h1 <+: h2) (e1 : h2[kh]? = some (nats X.1)) (e2 : h2[kp]? = some (nats X.2))
    (k1 : h1.length ≤ kh) (k2 : h1.length ≤ kp) (k3 : kh ≠ kp) (l1 : X.1.length ≤ 900) (l2 : X.2.length ≤ 900) {Q : RQ}
    (hq : ∀ h3 y', h1 <+: h3 → h3[kh]? = some (nats (heldS F (F * R) c king v sn X t).1) → h3[kp]? = some (nats (heldS F (F * R) c king v sn X t).2) →
      Q .next [some (.int F), some (.ref ck), some (.int king), some (.int v), some bv, some (.int t), some (.ref ks), some (.ref kh), some (.ref kp), some y'] h3) :
    wXs (n + 100) bHeld [some (.int F), some (.ref ck), some (.int king), some (.int v), some bv, some (.int t), some (.ref ks), some (.ref kh), some (.ref kp), y] h2 Q := by
  have hsz := size_le hS
  obtain ⟨r1, r2⟩ := rngN hsz.1
  have hc2 := get_app p hc
  unfold bHeld
  walk_at "es"
  refine wE_compK (fun x => if c (nV x) != 0 && !sn.contains (nV x) && withB F king t (nV x) then some x else none) ?_
  walk_at "es"
  refine wI_len (xs := (List.range (F * R)).map fun s => V.int ((c s : Nat) : Int)) hc2 (ml9 _ hsz.1) ?_
  rw [len_arr]
  walk_at "es"
  refine wI_range1 r1 ?_
  refine ⟨_, _, src_rng (get_last _ _) r1, rfl, rl9 r2 hsz.1, ?_, ?_⟩
  · rw [r2]
    intro x hx a pa
    rw [List.mem_map] at hx
    obtain ⟨q, hq', rfl⟩ := hx
    have hq' : q < F * R := by simpa using hq'
    have pa2 : h2 <+: a := (pre_app _ _).trans pa
    have hct := arr_get (get_app pa2 hc2) (le9 hsz.1) hq'
    refine wIt_one ?_
    walk_at "es"
    · rename_i hz
      have hz := eq0 hz
      refine ⟨List.prefix_refl _, ?_⟩
      simp [nV_n, hz]
    · rename_i hz
      have hz : (c q != 0) = true := by simpa using ne0 hz
      refine wC_notinL (get_app (p.trans pa2) hs) ?_
      walk_at "es"
      · rename_i hz2
        refine ⟨List.prefix_refl _, ?_⟩
        simp only [nV_n, hz2, Bool.and_false, Bool.false_and]; rfl
      · rename_i hz2
        refine within_c _ hS hkg ht hq' fun h3 p3 => ?_
        walk_at "es"
        · rename_i hh
          refine ⟨p3, ?_⟩
          simp only [nV_n, hz, hz2, hh, Bool.and_self, ↓reduceIte]
        · rename_i hh
          refine ⟨p3, ?_⟩
          simp only [nV_n, hz, hz2, hh, Bool.and_false]; rfl
  · intro a k hk pa ha
    rw [r2, filterMap_nats (List.range (F * R)) (fun q => c q != 0 && !sn.contains q && withB F king t q)] at ha
    have hm : (List.range (F * R)).filter (fun q => c q != 0 && !sn.contains q && withB F king t q) = metL F (F * R) c king sn t := rfl
    rw [hm] at ha
    have hml : (metL F (F * R) c king sn t).length ≤ 20 := by
      unfold metL
      refine Nat.le_trans (List.length_filter_le _ _) ?_
      simpa using hsz.1
    have hmt : ∀ q ∈ metL F (F * R) c king sn t, q < F * R := by
      intro q hq
      unfold metL at hq
      rw [List.mem_filter] at hq
      simpa using hq.1
    have hS' : heldS F (F * R) c king v sn X t = heldM c v X t (metL F (F * R) c king sn t) := rfl
    rw [hS'] at hq
    generalize metL F (F * R) c king sn t = M at ha hml hmt hq
    have pa2 : h2 <+: a := (pre_app _ _).trans pa
    have pa1 := p.trans pa2
    have hkne1 : kh ≠ k := by have := lt_of_get e1; simp at hk; (first | lia | omega)
    have hkne2 : kp ≠ k := by have := lt_of_get e2; simp at hk; (first | lia | omega)
    have f1 := get_app pa2 e1
    have f2 := get_app pa2 e2
    walk_at "es"
    refine wI_len (xs := M.map fun s : Nat => V.int (s : Int)) ha (by simp; (first | lia | omega)) ?_
    walk_at "es"
    · rename_i hone
      obtain ⟨q, rfl⟩ : ∃ q, M = [q] := by
        have : M.length = 1 := by simp at hone; (first | lia | omega)
        exact List.length_eq_one_iff.mp this
      simp only [heldM] at hq
      have hqN := hmt q (by simp)
      have g0 : getV a (.ref k) (.int 0) = some (.int q) := nats_get (L := [q]) ha (i := 0) (by decide) rfl
      refine ⟨_, g0, ?_⟩
      walk_at "es"
      refine wC_notinL f1 ?_
      refine wT_bool ?_
      refine ⟨fun hni => ?_, fun hni => ?_⟩
      · have hni : X.1.contains q = false := by simpa using hni
        rw [hni] at hq
        refine wXs_cons ?_
        refine wX_expr ?_
        refine wE_append ?_
        walk_at "es"
        refine ⟨isL_nats f1, ?_⟩
        walk_at "es"
        refine ⟨_, app_nats f1 l1, fun k => by simp, ?_⟩
        refine wR_next ?_
        refine wXs_nil ?_
        refine wR_next ?_
        refine wXs_cons ?_
        refine held_2 _ (N := F * R) hsz.1 hqN hc (pre_set _ pa1 k1) (set_eq _ (lt_of_get f1)) (get_set_ne k3 f2) (get_set_ne hkne1 ha) k2 k3 l2 ?_
        intro h3 q1 q2 q3
        walk_at "es"
        exact hq _ _ q1 q2 q3
      · have hni : X.1.contains q = true := by simpa using hni
        rw [hni] at hq
        refine wXs_nil ?_
        refine wR_next ?_
        refine wXs_cons ?_
        refine held_2 _ (N := F * R) hsz.1 hqN hc pa1 f1 f2 ha k2 k3 l2 ?_
        intro h3 q1 q2 q3
        walk_at "es"
        exact hq _ _ q1 q2 q3
    · rename_i hone
      have hone : M.length ≠ 1 := by
        intro e; simp [e] at hone
      rw [heldM_ne hone] at hq
      walk_at "es"
      exact hq _ _ pa1 f1 f2
theorem held_c (n : Nat) {h : Hp} {F R : Nat} (hS : (F, R) ∈ shapes) {ck king v : Nat} {c : Nat → Nat} (hkg : king < F * R) (hv : v < 2) (hc : h[ck]? = some (arr (F * R) c)) {Q : VQ}
    (hq : ∀ h' k ka kb, h <+: h' → h'[k]? = some (.tup [.ref ka, .ref kb]) → h'[ka]? = some (nats (heldP F (F * R) c king v).1) → h'[kb]? = some (nats (heldP F (F * R) c king v).2) → Q (.ref k) h') :
    wF (n + 130) 47 [.int F, .ref ck, .int king, .int v] h Q := by
  have hsz := size_le hS
  obtain ⟨r1, r2⟩ := rngN hsz.1
  rw [wF47]; unfold b47
  walk_at "es"
  refine wI_len (xs := (List.range (F * R)).map fun s => V.int ((c s : Nat) : Int)) (get_app (pre_app _ _) hc) (ml9 _ hsz.1) ?_
  rw [len_arr]
  refine wB_rep (get_last _ _) (le9 hsz.1) ?_
  walk_at "es"
  have p0 : h <+: h ++ [O.list [V.int 0]] ++ [arr (F * R) fun x => 0] := (pre_app _ _).trans (pre_app _ _)
  refine wE_comp (fun x => if [3, 4, 5].contains (c (nV x) % 8) then some x else none) ?_
  walk_at "es"
  rw [one_sub hv]
  refine hitters_c _ hS hkg (get_app p0 hc) (get_last _ _) fun h1 k1 _ p1 e1 => ?_
  refine ⟨_, _, src_list e1, e1, by have := hitL_len (F := F) (N := F * R) (c := c) (g := king) (y := fun _ => 0) (v := 1 - v); simp; (first | lia | omega), ?_, ?_⟩
  · intro x hx a pa
    rw [List.mem_map] at hx
    obtain ⟨t, ht, rfl⟩ := hx
    have ht := hitL_lt ht
    have hct := arr_get (get_app ((p0.trans p1).trans pa) hc) (le9 hsz.1) ht
    refine wIt_one ?_
    walk_at "es"
    rw [fmod8]
    walk_at "es"
    refine wC_in (get_last _ _) rfl ?_
    have hcn : ([3, 4, 5] : List Int).contains ((c t % 8 : Nat) : Int) = [3, 4, 5].contains (c t % 8) := contains_nats [3, 4, 5] (c t % 8)
    refine wT_bool ?_
    refine ⟨fun hz => ?_, fun hz => ?_⟩
    · walk_at "es"
      refine ⟨pre_app _ _, ?_⟩
      simp only [nV_n]
      rw [if_pos (by rw [← hcn]; exact hz)]
    · refine ⟨pre_app _ _, ?_⟩
      simp only [nV_n]
      rw [if_neg (by rw [← hcn]; intro e; exact absurd (e.symm.trans hz) (by decide))]
  · intro a ks pa ha
    rw [filterMap_nats _ (fun t => [3, 4, 5].contains (c t % 8))] at ha
    have ha : a[ks]? = some (nats (snipL F (F * R) c king v)) := ha
    have pa2 : h <+: a := (p0.trans p1).trans pa
    have hca := get_app pa2 hc
    have hsl : (snipL F (F * R) c king v).length ≤ F * R := by
      unfold snipL
      exact Nat.le_trans (List.length_filter_le _ _) hitL_len
    have hst : ∀ t ∈ snipL F (F * R) c king v, t < F * R := by
      intro t ht
      unfold snipL at ht
      rw [List.mem_filter] at ht
      exact hitL_lt ht.1
    have hP : heldP F (F * R) c king v = (snipL F (F * R) c king v).foldl (heldS F (F * R) c king v (snipL F (F * R) c king v)) ([], []) := rfl
    rw [hP] at hq
    generalize snipL F (F * R) c king v = sn at ha hsl hst hq
    walk_at "es"
    refine wX_forL ?_
    walk_at "es"
    have pb : a <+: a ++ [O.list []] ++ [O.list []] := (pre_app _ _).trans (pre_app _ _)
    refine ⟨_, _, rfl, get_app pb ha, rfl, ?_⟩
    refine wLv_inv (sn.map fun t : Nat => V.int (t : Int))
      (fun j l h2 => a <+: h2 ∧ h2[a.length]? = some (nats ((sn.take j).foldl (heldS F (F * R) c king v sn) ([], [])).1) ∧ h2[(a ++ [O.list []]).length]? = some (nats ((sn.take j).foldl (heldS F (F * R) c king v sn) ([], [])).2) ∧
        ((sn.take j).foldl (heldS F (F * R) c king v sn) ([], [])).1.length ≤ j ∧ ((sn.take j).foldl (heldS F (F * R) c king v sn) ([], [])).2.length ≤ j ∧
        ∃ x y, l = [some (.int F), some (.ref ck), some (.int king), some (.int v), some (.ref (h ++ [O.list [V.int 0]]).length), x, some (.ref ks), some (.ref a.length), some (.ref (a ++ [O.list []]).length), y])
      ?_ ?_ ?_ sn.length 0 1000 _ _ (by simp) (by (first | lia | omega)) ?_
    · rintro j l h2 ⟨p2, _⟩
      exact live_list (get_app p2 ha) j
    · rintro j l h2 hj ⟨p2, i1, i2, i3, i4, x, y, rfl⟩
      have hj : j < sn.length := by simpa using hj
      rw [foldl_take _ _ _ _ hj]
      generalize (sn.take j).foldl (heldS F (F * R) c king v sn) ([], []) = X at i1 i2 i3 i4
      have ht := hst _ (List.getElem_mem hj)
      rw [List.getElem_map]
      generalize sn[j] = t at ht
      refine held_body _ hS hkg ht hca ha p2 i1 i2 (Nat.le_refl _) (by simp) (by simp) (by (first | lia | omega)) (by (first | lia | omega)) ?_
      intro h3 y' q1 q2 q3
      refine wR_next ⟨q1, q2, q3, ?_, ?_, some (.int t), some y', rfl⟩
      · have := (heldS_len (F := F) (N := F * R) (c := c) (king := king) (v := v) (sn := sn) (x := X) (t := t)).1; (first | lia | omega)
      · have := (heldS_len (F := F) (N := F * R) (c := c) (king := king) (v := v) (sn := sn) (x := X) (t := t)).2; (first | lia | omega)
    · rintro l h2 ⟨p2, i1, i2, i3, i4, x, y, rfl⟩
      rw [List.length_map, List.take_length] at i1 i2
      walk_at "es"
      refine hq _ _ _ _ (pa2.trans (p2.trans (pre_app _ _))) (get_last _ _) (get_app (pre_app _ _) i1) (get_app (pre_app _ _) i2)
    · refine ⟨pb, ?_, get_last _ _, Nat.le_refl _, Nat.le_refl _, none, none, rfl⟩
      rw [List.append_assoc, List.getElem?_append_right (Nat.le_refl _), Nat.sub_self]; rfl
end
section
set_option maxRecDepth 100000
noncomputable def G44 : List O := [
.attrs [(0, .int 4), (1, .int 4), (2, .int 16), (3, .int 65535), (4, .bool false), (5, .bool false), (6, .ref 18), (7, .ref 19), (8, .ref 20), (9, .ref 31), (10, .ref 22), (11, .ref 25), (12, .ref 26), (13, .ref 64)],
.inst 0 16,
.list [.int 4369, .int 8738, .int 17476, .int 34952],
.list [.int 15, .int 240, .int 3840, .int 61440],
.list [.ref 34, .ref 38, .ref 42, .ref 45, .ref 48, .ref 52, .ref 55, .ref 58],
.list [],
.list [.int 576, .int 1408, .int 2576, .int 1056, .int 9220, .int 22536, .int 41217, .int 16898, .int 16450, .int 32901, .int 4122, .int 8228, .int 1056, .int 2128, .int 416, .int 576],
.list [.int 32, .int 80, .int 160, .int 64, .int 512, .int 1280, .int 2560, .int 1024, .int 8192, .int 20480, .int 40960, .int 16384, .int 0, .int 0, .int 0, .int 0],
.list [.int 0, .int 0, .int 0, .int 0, .int 2, .int 5, .int 10, .int 4, .int 32, .int 80, .int 160, .int 64, .int 512, .int 1280, .int 2560, .int 1024],
.list [.ref 23, .ref 24],
.list [.none, .none, .none, .none],
.list [],
.rng (0) (4) (1),
.rng (0) (4) (1),
.list [.int 0],
.list [.int 50, .int 117, .int 234, .int 196, .int 803, .int 1879, .int 3758, .int 3148, .int 12848, .int 30064, .int 60128, .int 50368, .int 8960, .int 22272, .int 44544, .int 19456],
.rng (0) (8) (1),
.list [.int 0],
.list [.int 4368, .int 8736, .int 17472, .int 34944, .int 4352, .int 8704, .int 17408, .int 34816, .int 4096, .int 8192, .int 16384, .int 32768, .int 0, .int 0, .int 0, .int 0],
.rng (0) (16) (1),
.rng (15) (-1) (-1),
.list [.int 0],
.list [.int 14, .int 12, .int 8, .int 0, .int 224, .int 192, .int 128, .int 0, .int 3584, .int 3072, .int 2048, .int 0, .int 57344, .int 49152, .int 32768, .int 0],
.rng (0) (16) (1),
.rng (15) (-1) (-1),
.list [.int 0],
.list [.int 0, .int 0, .int 0, .int 0, .int 1, .int 2, .int 4, .int 8, .int 17, .int 34, .int 68, .int 136, .int 273, .int 546, .int 1092, .int 2184],
.rng (0) (16) (1),
.list [.int 0],
.list [.int 0, .int 1, .int 3, .int 7, .int 0, .int 16, .int 48, .int 112, .int 0, .int 256, .int 768, .int 1792, .int 0, .int 4096, .int 12288, .int 28672],
.rng (0) (16) (1),
.list [.int 0],
.list [.int 33824, .int 2112, .int 128, .int 0, .int 16896, .int 33792, .int 2048, .int 0, .int 8192, .int 16384, .int 32768, .int 0, .int 0, .int 0, .int 0, .int 0],
.rng (0) (16) (1),
.rng (15) (-1) (-1),
.list [.int 0],
.list [.int 0, .int 0, .int 0, .int 0, .int 2, .int 4, .int 8, .int 0, .int 36, .int 72, .int 128, .int 0, .int 584, .int 1152, .int 2048, .int 0],
.rng (0) (16) (1),
.list [.int 0],
.list [.int 0, .int 0, .int 0, .int 0, .int 0, .int 1, .int 2, .int 4, .int 0, .int 16, .int 33, .int 66, .int 0, .int 256, .int 528, .int 1057],
.rng (0) (16) (1),
.list [.int 0],
.list [.int 0, .int 16, .int 288, .int 4672, .int 0, .int 256, .int 4608, .int 9216, .int 0, .int 4096, .int 8192, .int 16384, .int 0, .int 0, .int 0, .int 0],
.rng (0) (16) (1),
.rng (15) (-1) (-1),
.rng (0) (16) (1),
.rng (0) (16) (1),
.list [.int 0],
.list [.int 0, .int 0, .int 0, .int 0, .int 0, .int 0, .int 0, .int 0, .int 0, .int 0, .int 0, .int 0, .int 0, .int 0, .int 0, .int 0],
.rng (0) (4) (1),
.list [.int 0],
.list [.int 0, .int 0, .int 0, .int 0, .int 0, .int 0, .int 0, .int 0, .int 0, .int 0, .int 0, .int 0, .int 0, .int 0, .int 0, .int 0],
.list [.ref 67],
.list [.ref 67, .ref 67, .ref 67, .ref 67, .ref 67, .ref 67, .ref 67, .ref 67, .ref 67, .ref 67, .ref 67, .ref 67, .ref 67, .ref 67, .ref 67],
.list [.int 0],
.list [.int 0, .int 0, .int 0, .int 0],
.list [.int 0],
.list [.int 0, .int 0, .int 0, .int 0, .int 0, .int 0, .int 0, .int 0, .int 0, .int 0, .int 0, .int 0, .int 0, .int 0, .int 0, .int 0],
.attrs [(25, .ref 69), (21, .ref 71), (20, .ref 73), (19, .int 0)],
.inst 2 74,
.attrs [(14, .ref 17), (15, .ref 75), (16, .ref 79), (17, .ref 81), (18, .ref 82), (19, .int 0), (20, .int 0), (21, .int (-1)), (22, .int 0), (3, .int 1), (23, .int 0), (24, .ref 83)],
.inst 1 76,
.list [.int 0],
.list [.int 0, .int 0, .int 0, .int 0, .int 0, .int 0, .int 0, .int 0, .int 0, .int 0, .int 0, .int 0, .int 0, .int 0, .int 0, .int 0],
.list [.int 0],
.list [.int 0, .int 0, .int 0, .int 0, .int 0, .int 0, .int 0],
.list [.int 0, .int 0],
.list []
]
noncomputable def G35 : List O := [
.attrs [(0, .int 3), (1, .int 5), (2, .int 15), (3, .int 32767), (4, .bool false), (5, .bool false), (6, .ref 18), (7, .ref 19), (8, .ref 20), (9, .ref 31), (10, .ref 22), (11, .ref 25), (12, .ref 26), (13, .ref 64)],
.inst 0 16,
.list [.int 4681, .int 9362, .int 18724],
.list [.int 7, .int 56, .int 448, .int 3584, .int 28672],
.list [.ref 34, .ref 38, .ref 42, .ref 45, .ref 48, .ref 52, .ref 55, .ref 58],
.list [],
.list [.int 160, .int 320, .int 136, .int 1284, .int 2560, .int 1089, .int 10274, .int 20485, .int 8714, .int 16656, .int 40, .int 4176, .int 2176, .int 320, .int 640],
.list [.int 16, .int 40, .int 16, .int 128, .int 320, .int 128, .int 1024, .int 2560, .int 1024, .int 8192, .int 20480, .int 8192, .int 0, .int 0, .int 0],
.list [.int 0, .int 0, .int 0, .int 2, .int 5, .int 2, .int 16, .int 40, .int 16, .int 128, .int 320, .int 128, .int 1024, .int 2560, .int 1024],
.list [.ref 23, .ref 24],
.list [.none, .none, .none, .none],
.list [],
.rng (0) (5) (1),
.rng (0) (3) (1),
.list [.int 0],
.list [.int 26, .int 61, .int 50, .int 211, .int 495, .int 406, .int 1688, .int 3960, .int 3248, .int 13504, .int 31680, .int 25984, .int 9728, .int 24064, .int 11264],
.rng (0) (8) (1),
.list [.int 0],
.list [.int 4680, .int 9360, .int 18720, .int 4672, .int 9344, .int 18688, .int 4608, .int 9216, .int 18432, .int 4096, .int 8192, .int 16384, .int 0, .int 0, .int 0],
.rng (0) (15) (1),
.rng (14) (-1) (-1),
.list [.int 0],
.list [.int 6, .int 4, .int 0, .int 48, .int 32, .int 0, .int 384, .int 256, .int 0, .int 3072, .int 2048, .int 0, .int 24576, .int 16384, .int 0],
.rng (0) (15) (1),
.rng (14) (-1) (-1),
.list [.int 0],
.list [.int 0, .int 0, .int 0, .int 1, .int 2, .int 4, .int 9, .int 18, .int 36, .int 73, .int 146, .int 292, .int 585, .int 1170, .int 2340],
.rng (0) (15) (1),
.list [.int 0],
.list [.int 0, .int 1, .int 3, .int 0, .int 8, .int 24, .int 0, .int 64, .int 192, .int 0, .int 512, .int 1536, .int 0, .int 4096, .int 12288],
.rng (0) (15) (1),
.list [.int 0],
.list [.int 272, .int 32, .int 0, .int 2176, .int 256, .int 0, .int 17408, .int 2048, .int 0, .int 8192, .int 16384, .int 0, .int 0, .int 0, .int 0],
.rng (0) (15) (1),
.rng (14) (-1) (-1),
.list [.int 0],
.list [.int 0, .int 0, .int 0, .int 2, .int 4, .int 0, .int 20, .int 32, .int 0, .int 160, .int 256, .int 0, .int 1280, .int 2048, .int 0],
.rng (0) (15) (1),
.list [.int 0],
.list [.int 0, .int 0, .int 0, .int 0, .int 1, .int 2, .int 0, .int 8, .int 17, .int 0, .int 64, .int 136, .int 0, .int 512, .int 1088],
.rng (0) (15) (1),
.list [.int 0],
.list [.int 0, .int 8, .int 80, .int 0, .int 64, .int 640, .int 0, .int 512, .int 5120, .int 0, .int 4096, .int 8192, .int 0, .int 0, .int 0],
.rng (0) (15) (1),
.rng (14) (-1) (-1),
.rng (0) (15) (1),
.rng (0) (15) (1),
.list [.int 0],
.list [.int 0, .int 0, .int 0, .int 0, .int 0, .int 0, .int 0, .int 0, .int 0, .int 0, .int 0, .int 0, .int 0, .int 0, .int 0],
.rng (0) (4) (1),
.list [.int 0],
.list [.int 0, .int 0, .int 0, .int 0, .int 0, .int 0, .int 0, .int 0, .int 0, .int 0, .int 0, .int 0, .int 0, .int 0, .int 0],
.list [.ref 67],
.list [.ref 67, .ref 67, .ref 67, .ref 67, .ref 67, .ref 67, .ref 67, .ref 67, .ref 67, .ref 67, .ref 67, .ref 67, .ref 67, .ref 67, .ref 67],
.list [.int 0],
.list [.int 0, .int 0, .int 0],
.list [.int 0],
.list [.int 0, .int 0, .int 0, .int 0, .int 0, .int 0, .int 0, .int 0, .int 0, .int 0, .int 0, .int 0, .int 0, .int 0, .int 0, .int 0],
.attrs [(25, .ref 69), (21, .ref 71), (20, .ref 73), (19, .int 0)],
.inst 2 74,
.attrs [(14, .ref 17), (15, .ref 75), (16, .ref 79), (17, .ref 81), (18, .ref 82), (19, .int 0), (20, .int 0), (21, .int (-1)), (22, .int 0), (3, .int 1), (23, .int 0), (24, .ref 83)],
.inst 1 76,
.list [.int 0],
.list [.int 0, .int 0, .int 0, .int 0, .int 0, .int 0, .int 0, .int 0, .int 0, .int 0, .int 0, .int 0, .int 0, .int 0, .int 0],
.list [.int 0],
.list [.int 0, .int 0, .int 0, .int 0, .int 0, .int 0, .int 0],
.list [.int 0, .int 0],
.list []
]
noncomputable def G54 : List O := [
.attrs [(0, .int 5), (1, .int 4), (2, .int 20), (3, .int 1048575), (4, .bool false), (5, .bool false), (6, .ref 18), (7, .ref 19), (8, .ref 20), (9, .ref 31), (10, .ref 22), (11, .ref 25), (12, .ref 26), (13, .ref 64)],
.inst 0 16,
.list [.int 33825, .int 67650, .int 135300, .int 270600, .int 541200],
.list [.int 31, .int 992, .int 31744, .int 1015808],
.list [.ref 34, .ref 38, .ref 42, .ref 45, .ref 48, .ref 52, .ref 55, .ref 58],
.list [],
.list [.int 2176, .int 5376, .int 10784, .int 20544, .int 8320, .int 69636, .int 172040, .int 345105, .int 657410, .int 266244, .int 131202, .int 262405, .int 557610, .int 65620, .int 131208, .int 4160, .int 8352, .int 17728, .int 2688, .int 4352],
.list [.int 64, .int 160, .int 320, .int 640, .int 256, .int 2048, .int 5120, .int 10240, .int 20480, .int 8192, .int 65536, .int 163840, .int 327680, .int 655360, .int 262144, .int 0, .int 0, .int 0, .int 0, .int 0],
.list [.int 0, .int 0, .int 0, .int 0, .int 0, .int 2, .int 5, .int 10, .int 20, .int 8, .int 64, .int 160, .int 320, .int 640, .int 256, .int 2048, .int 5120, .int 10240, .int 20480, .int 8192],
.list [.ref 23, .ref 24],
.list [.none, .none, .none, .none],
.list [],
.rng (0) (4) (1),
.rng (0) (5) (1),
.list [.int 0],
.list [.int 98, .int 229, .int 458, .int 916, .int 776, .int 3139, .int 7335, .int 14670, .int 29340, .int 24856, .int 100448, .int 234720, .int 469440, .int 938880, .int 795392, .int 68608, .int 171008, .int 342016, .int 684032, .int 286720],
.rng (0) (8) (1),
.list [.int 0],
.list [.int 33824, .int 67648, .int 135296, .int 270592, .int 541184, .int 33792, .int 67584, .int 135168, .int 270336, .int 540672, .int 32768, .int 65536, .int 131072, .int 262144, .int 524288, .int 0, .int 0, .int 0, .int 0, .int 0],
.rng (0) (20) (1),
.rng (19) (-1) (-1),
.list [.int 0],
.list [.int 30, .int 28, .int 24, .int 16, .int 0, .int 960, .int 896, .int 768, .int 512, .int 0, .int 30720, .int 28672, .int 24576, .int 16384, .int 0, .int 983040, .int 917504, .int 786432, .int 524288, .int 0],
.rng (0) (20) (1),
.rng (19) (-1) (-1),
.list [.int 0],
.list [.int 0, .int 0, .int 0, .int 0, .int 0, .int 1, .int 2, .int 4, .int 8, .int 16, .int 33, .int 66, .int 132, .int 264, .int 528, .int 1057, .int 2114, .int 4228, .int 8456, .int 16912],
.rng (0) (20) (1),
.list [.int 0],
.list [.int 0, .int 1, .int 3, .int 7, .int 15, .int 0, .int 32, .int 96, .int 224, .int 480, .int 0, .int 1024, .int 3072, .int 7168, .int 15360, .int 0, .int 32768, .int 98304, .int 229376, .int 491520],
.rng (0) (20) (1),
.list [.int 0],
.list [.int 266304, .int 532608, .int 16640, .int 512, .int 0, .int 133120, .int 266240, .int 532480, .int 16384, .int 0, .int 65536, .int 131072, .int 262144, .int 524288, .int 0, .int 0, .int 0, .int 0, .int 0, .int 0],
.rng (0) (20) (1),
.rng (19) (-1) (-1),
.list [.int 0],
.list [.int 0, .int 0, .int 0, .int 0, .int 0, .int 2, .int 4, .int 8, .int 16, .int 0, .int 68, .int 136, .int 272, .int 512, .int 0, .int 2184, .int 4368, .int 8704, .int 16384, .int 0],
.rng (0) (20) (1),
.list [.int 0],
.list [.int 0, .int 0, .int 0, .int 0, .int 0, .int 0, .int 1, .int 2, .int 4, .int 8, .int 0, .int 32, .int 65, .int 130, .int 260, .int 0, .int 1024, .int 2080, .int 4161, .int 8322],
.rng (0) (20) (1),
.list [.int 0],
.list [.int 0, .int 32, .int 1088, .int 34944, .int 69888, .int 0, .int 1024, .int 34816, .int 69632, .int 139264, .int 0, .int 32768, .int 65536, .int 131072, .int 262144, .int 0, .int 0, .int 0, .int 0, .int 0],
.rng (0) (20) (1),
.rng (19) (-1) (-1),
.rng (0) (20) (1),
.rng (0) (20) (1),
.list [.int 0],
.list [.int 0, .int 0, .int 0, .int 0, .int 0, .int 0, .int 0, .int 0, .int 0, .int 0, .int 0, .int 0, .int 0, .int 0, .int 0, .int 0, .int 0, .int 0, .int 0, .int 0],
.rng (0) (4) (1),
.list [.int 0],
.list [.int 0, .int 0, .int 0, .int 0, .int 0, .int 0, .int 0, .int 0, .int 0, .int 0, .int 0, .int 0, .int 0, .int 0, .int 0, .int 0, .int 0, .int 0, .int 0, .int 0],
.list [.ref 67],
.list [.ref 67, .ref 67, .ref 67, .ref 67, .ref 67, .ref 67, .ref 67, .ref 67, .ref 67, .ref 67, .ref 67, .ref 67, .ref 67, .ref 67, .ref 67],
.list [.int 0],
.list [.int 0, .int 0, .int 0, .int 0, .int 0],
.list [.int 0],
.list [.int 0, .int 0, .int 0, .int 0, .int 0, .int 0, .int 0, .int 0, .int 0, .int 0, .int 0, .int 0, .int 0, .int 0, .int 0, .int 0],
.attrs [(25, .ref 69), (21, .ref 71), (20, .ref 73), (19, .int 0)],
.inst 2 74,
.attrs [(14, .ref 17), (15, .ref 75), (16, .ref 79), (17, .ref 81), (18, .ref 82), (19, .int 0), (20, .int 0), (21, .int (-1)), (22, .int 0), (3, .int 1), (23, .int 0), (24, .ref 83)],
.inst 1 76,
.list [.int 0],
.list [.int 0, .int 0, .int 0, .int 0, .int 0, .int 0, .int 0, .int 0, .int 0, .int 0, .int 0, .int 0, .int 0, .int 0, .int 0, .int 0, .int 0, .int 0, .int 0, .int 0],
.list [.int 0],
.list [.int 0, .int 0, .int 0, .int 0, .int 0, .int 0, .int 0],
.list [.int 0, .int 0],
.list []
]
noncomputable def G45 : List O := [
.attrs [(0, .int 4), (1, .int 5), (2, .int 20), (3, .int 1048575), (4, .bool false), (5, .bool false), (6, .ref 18), (7, .ref 19), (8, .ref 20), (9, .ref 31), (10, .ref 22), (11, .ref 25), (12, .ref 26), (13, .ref 64)],
.inst 0 16,
.list [.int 69905, .int 139810, .int 279620, .int 559240],
.list [.int 15, .int 240, .int 3840, .int 61440, .int 983040],
.list [.ref 34, .ref 38, .ref 42, .ref 45, .ref 48, .ref 52, .ref 55, .ref 58],
.list [],
.list [.int 576, .int 1408, .int 2576, .int 1056, .int 9220, .int 22536, .int 41217, .int 16898, .int 147522, .int 360581, .int 659482, .int 270372, .int 263200, .int 526416, .int 65952, .int 131648, .int 16896, .int 34048, .int 6656, .int 9216],
.list [.int 32, .int 80, .int 160, .int 64, .int 512, .int 1280, .int 2560, .int 1024, .int 8192, .int 20480, .int 40960, .int 16384, .int 131072, .int 327680, .int 655360, .int 262144, .int 0, .int 0, .int 0, .int 0],
.list [.int 0, .int 0, .int 0, .int 0, .int 2, .int 5, .int 10, .int 4, .int 32, .int 80, .int 160, .int 64, .int 512, .int 1280, .int 2560, .int 1024, .int 8192, .int 20480, .int 40960, .int 16384],
.list [.ref 23, .ref 24],
.list [.none, .none, .none, .none],
.list [],
.rng (0) (5) (1),
.rng (0) (4) (1),
.list [.int 0],
.list [.int 50, .int 117, .int 234, .int 196, .int 803, .int 1879, .int 3758, .int 3148, .int 12848, .int 30064, .int 60128, .int 50368, .int 205568, .int 481024, .int 962048, .int 805888, .int 143360, .int 356352, .int 712704, .int 311296],
.rng (0) (8) (1),
.list [.int 0],
.list [.int 69904, .int 139808, .int 279616, .int 559232, .int 69888, .int 139776, .int 279552, .int 559104, .int 69632, .int 139264, .int 278528, .int 557056, .int 65536, .int 131072, .int 262144, .int 524288, .int 0, .int 0, .int 0, .int 0],
.rng (0) (20) (1),
.rng (19) (-1) (-1),
.list [.int 0],
.list [.int 14, .int 12, .int 8, .int 0, .int 224, .int 192, .int 128, .int 0, .int 3584, .int 3072, .int 2048, .int 0, .int 57344, .int 49152, .int 32768, .int 0, .int 917504, .int 786432, .int 524288, .int 0],
.rng (0) (20) (1),
.rng (19) (-1) (-1),
.list [.int 0],
.list [.int 0, .int 0, .int 0, .int 0, .int 1, .int 2, .int 4, .int 8, .int 17, .int 34, .int 68, .int 136, .int 273, .int 546, .int 1092, .int 2184, .int 4369, .int 8738, .int 17476, .int 34952],
.rng (0) (20) (1),
.list [.int 0],
.list [.int 0, .int 1, .int 3, .int 7, .int 0, .int 16, .int 48, .int 112, .int 0, .int 256, .int 768, .int 1792, .int 0, .int 4096, .int 12288, .int 28672, .int 0, .int 65536, .int 196608, .int 458752],
.rng (0) (20) (1),
.list [.int 0],
.list [.int 33824, .int 2112, .int 128, .int 0, .int 541184, .int 33792, .int 2048, .int 0, .int 270336, .int 540672, .int 32768, .int 0, .int 131072, .int 262144, .int 524288, .int 0, .int 0, .int 0, .int 0, .int 0],
.rng (0) (20) (1),
.rng (19) (-1) (-1),
.list [.int 0],
.list [.int 0, .int 0, .int 0, .int 0, .int 2, .int 4, .int 8, .int 0, .int 36, .int 72, .int 128, .int 0, .int 584, .int 1152, .int 2048, .int 0, .int 9344, .int 18432, .int 32768, .int 0],
.rng (0) (20) (1),
.list [.int 0],
.list [.int 0, .int 0, .int 0, .int 0, .int 0, .int 1, .int 2, .int 4, .int 0, .int 16, .int 33, .int 66, .int 0, .int 256, .int 528, .int 1057, .int 0, .int 4096, .int 8448, .int 16912],
.rng (0) (20) (1),
.list [.int 0],
.list [.int 0, .int 16, .int 288, .int 4672, .int 0, .int 256, .int 4608, .int 74752, .int 0, .int 4096, .int 73728, .int 147456, .int 0, .int 65536, .int 131072, .int 262144, .int 0, .int 0, .int 0, .int 0],
.rng (0) (20) (1),
.rng (19) (-1) (-1),
.rng (0) (20) (1),
.rng (0) (20) (1),
.list [.int 0],
.list [.int 0, .int 0, .int 0, .int 0, .int 0, .int 0, .int 0, .int 0, .int 0, .int 0, .int 0, .int 0, .int 0, .int 0, .int 0, .int 0, .int 0, .int 0, .int 0, .int 0],
.rng (0) (4) (1),
.list [.int 0],
.list [.int 0, .int 0, .int 0, .int 0, .int 0, .int 0, .int 0, .int 0, .int 0, .int 0, .int 0, .int 0, .int 0, .int 0, .int 0, .int 0, .int 0, .int 0, .int 0, .int 0],
.list [.ref 67],
.list [.ref 67, .ref 67, .ref 67, .ref 67, .ref 67, .ref 67, .ref 67, .ref 67, .ref 67, .ref 67, .ref 67, .ref 67, .ref 67, .ref 67, .ref 67],
.list [.int 0],
.list [.int 0, .int 0, .int 0, .int 0],
.list [.int 0],
.list [.int 0, .int 0, .int 0, .int 0, .int 0, .int 0, .int 0, .int 0, .int 0, .int 0, .int 0, .int 0, .int 0, .int 0, .int 0, .int 0],
.attrs [(25, .ref 69), (21, .ref 71), (20, .ref 73), (19, .int 0)],
.inst 2 74,
.attrs [(14, .ref 17), (15, .ref 75), (16, .ref 79), (17, .ref 81), (18, .ref 82), (19, .int 0), (20, .int 0), (21, .int (-1)), (22, .int 0), (3, .int 1), (23, .int 0), (24, .ref 83)],
.inst 1 76,
.list [.int 0],
.list [.int 0, .int 0, .int 0, .int 0, .int 0, .int 0, .int 0, .int 0, .int 0, .int 0, .int 0, .int 0, .int 0, .int 0, .int 0, .int 0, .int 0, .int 0, .int 0, .int 0],
.list [.int 0],
.list [.int 0, .int 0, .int 0, .int 0, .int 0, .int 0, .int 0],
.list [.int 0, .int 0],
.list []
]
noncomputable def base0 : List O := [.tup ([0, 1, 0, -1, 1, 1, -1, -1].map .int), .tup ([1, 0, -1, 0, 1, -1, -1, 1].map .int), .tup [.ref 3, .ref 4, .ref 5, .ref 6], .tup [.int 4, .int 4], .tup [.int 3, .int 5], .tup [.int 5, .int 4], .tup [.int 4, .int 5]]
end
section
set_option maxRecDepth 100000
set_option linter.unusedSimpArgs false
set_option linter.unusedVariables false
noncomputable def newX : X := (.new 1 [(.call 15 [(.var 2), (.var 3), (.cst (.bool false)), (.cst (.bool false))]), (.new 2 [(.bin .Mult (.listE [(.bin .Mult (.listE [(.cst (.int 0))]) (.var 4))]) (.cst (.int 15))), (.bin .Mult (.listE [(.cst (.int 0))]) (.var 2)), (.bin .Mult (.listE [(.cst (.int 0))]) (.cst (.int 16))), (.cst (.int 0))])])
noncomputable def h16 (a b c d e f g h i : O) : Hp := base0 ++ [a, b, c, d, e, f, g, h, i]
theorem new44 (n : Nat) (a b c d e f g h i : O) (x0 x1 x5 x6 x7 x8 x9 : Option V) (xs : Lc) : ev progP (n + 100) newX ([x0, x1, some (.int (4 : Nat)), some (.int (4 : Nat)), some (.int (4 * 4 : Nat)), x5, x6, x7, x8, x9] ++ xs) (h16 a b c d e f g h i) = some (.ref 77, h16 a b c d e f g h i ++ G44) := by kernel_rfl
theorem new35 (n : Nat) (a b c d e f g h i : O) (x0 x1 x5 x6 x7 x8 x9 : Option V) (xs : Lc) : ev progP (n + 100) newX ([x0, x1, some (.int (3 : Nat)), some (.int (5 : Nat)), some (.int (3 * 5 : Nat)), x5, x6, x7, x8, x9] ++ xs) (h16 a b c d e f g h i) = some (.ref 77, h16 a b c d e f g h i ++ G35) := by kernel_rfl
theorem new54 (n : Nat) (a b c d e f g h i : O) (x0 x1 x5 x6 x7 x8 x9 : Option V) (xs : Lc) : ev progP (n + 100) newX ([x0, x1, some (.int (5 : Nat)), some (.int (4 : Nat)), some (.int (5 * 4 : Nat)), x5, x6, x7, x8, x9] ++ xs) (h16 a b c d e f g h i) = some (.ref 77, h16 a b c d e f g h i ++ G54) := by kernel_rfl
theorem new45 (n : Nat) (a b c d e f g h i : O) (x0 x1 x5 x6 x7 x8 x9 : Option V) (xs : Lc) : ev progP (n + 100) newX ([x0, x1, some (.int (4 : Nat)), some (.int (5 : Nat)), some (.int (4 * 5 : Nat)), x5, x6, x7, x8, x9] ++ xs) (h16 a b c d e f g h i) = some (.ref 77, h16 a b c d e f g h i ++ G45) := by kernel_rfl
end
section
set_option maxRecDepth 100000
set_option linter.unusedSimpArgs false
set_option linter.unusedVariables false
noncomputable def isIntV (v : Option V) (x : Nat) : Bool := match v with | some (.int i) => i == (x : Int) | _ => false
theorem isIntV_ok {v : Option V} {x : Nat} (h : isIntV v x = true) : v = some (.int x) := by
  unfold isIntV at h
  split at h
  · rw [beq_iff_eq.mp h]
  · cases h
noncomputable def isRef (v : Option V) : Option Nat := match v with | some (.ref k) => some k | _ => none
theorem isRef_ok {v : Option V} {k : Nat} (h : isRef v = some k) : v = some (.ref k) := by
  unfold isRef at h
  split at h
  · cases h; rfl
  · cases h
noncomputable def tabB (h : Hp) (N k : Nat) (f : Nat → Nat) : Bool := (List.range N).all fun s => isIntV (getV h (.ref k) (.int (s : Int))) (f s)
theorem tabB_ok {h N k f} (e : tabB h N k f = true) : ∀ s : Nat, s < N → getV h (.ref k) (.int s) = some (.int (f s)) := fun s hs =>
  isIntV_ok (List.all_eq_true.mp e s (by simpa using hs))
noncomputable def tab2B (h : Hp) (M N k : Nat) (f : Nat → Nat → Nat) : Bool := (List.range M).all fun d => match isRef (getV h (.ref k) (.int (d : Int))) with | some j => tabB h N j (f d) | none => false
theorem tab2B_ok {h M N k f} (e : tab2B h M N k f = true) : ∀ d : Nat, d < M → ∃ j, getV h (.ref k) (.int d) = some (.ref j) ∧ ∀ s : Nat, s < N → getV h (.ref j) (.int s) = some (.int (f d s)) := by
  intro d hd
  have := List.all_eq_true.mp e d (by simpa using hd)
  split at this
  · rename_i j hj
    exact ⟨j, isRef_ok hj, tabB_ok this⟩
  · cases this
noncomputable def geoChk (h : Hp) (F R : Nat) : Bool :=
  tab2B h 8 (F * R) 20 (ray F R) && tabB h (F * R) 31 (kingT F R) && tabB h (F * R) 22 (knightT F R) && tab2B h 2 (F * R) 25 (pawnT F R) && tabB h (F * R) 67 (fun _ => 0) && (List.range 15).all fun p => isRef (getV h (.ref 69) (.int (p : Int))) == some 67
structure Pre0 (h0 : Hp) (F R : Nat) : Prop where
  len : h0.length = 76
  geo : GeoOK h0 17 F R
  z1 : getA h0 (.ref 75) 25 = some (.ref 69)
  z2 : ∀ p : Nat, p < 15 → getV h0 (.ref 69) (.int p) = some (.ref 67)
  z3 : ∀ s : Nat, s < F * R → getV h0 (.ref 67) (.int s) = some (.int (0 : Nat))
theorem pre0_of {h0 : Hp} {F R : Nat} (l : h0.length = 76) (c : geoChk h0 F R = true) (a1 : getA h0 (.ref 17) 8 = some (.ref 20)) (a2 : getA h0 (.ref 17) 9 = some (.ref 31)) (a3 : getA h0 (.ref 17) 10 = some (.ref 22)) (a4 : getA h0 (.ref 17) 11 = some (.ref 25))
    (a5 : h0[1]? = some (.tup (srT.map .int))) (a6 : getA h0 (.ref 75) 25 = some (.ref 69)) : Pre0 h0 F R := by
  unfold geoChk at c
  simp only [Bool.and_eq_true] at c
  obtain ⟨⟨⟨⟨⟨c1, c2⟩, c3⟩, c4⟩, c5⟩, c6⟩ := c
  refine ⟨l, ⟨⟨_, a1, tab2B_ok c1⟩, ⟨_, a2, tabB_ok c2⟩, ⟨_, a3, tabB_ok c3⟩, ⟨_, a4, tab2B_ok c4⟩, a5⟩, a6, ?_, tabB_ok c5⟩
  intro p hp
  have := List.all_eq_true.mp c6 p (by simpa using hp)
  exact isRef_ok (beq_iff_eq.mp this)
noncomputable def attO (key side : Nat) : O := .attrs [(14, .ref 17), (15, .ref 75), (16, .ref 79), (17, .ref 81), (18, .ref 82), (19, .int side), (20, .int 0), (21, .int (-1)), (22, .int 0), (3, .int 1), (23, .int key), (24, .ref 83)]
/-- the position's objects -/
structure PS (h0 h : Hp) (N : Nat) (bd kd sd : Nat → Nat) (side : Nat) : Prop where
  pre : h0 <+: h
  at_ : h[76]? = some (attO 0 side)
  inst : h[77]? = some (.inst 1 76)
  b : h[79]? = some (arr N bd)
  k : h[81]? = some (arr 7 kd)
  s : h[82]? = some (arr 2 sd)
theorem pre44 (a b c d e f g h i : O) : Pre0 (h16 a b c d e f g h i ++ G44.take 60) 4 4 := pre0_of (by kernel_rfl) (by kernel_rfl) (by kernel_rfl) (by kernel_rfl) (by kernel_rfl) (by kernel_rfl) (by kernel_rfl) (by kernel_rfl)
theorem ps44 (a b c d e f g h i : O) : PS (h16 a b c d e f g h i ++ G44.take 60) (h16 a b c d e f g h i ++ G44) (4 * 4) (fun _ => 0) (fun _ => 0) (fun _ => 0) 0 :=
  ⟨⟨G44.drop 60, by kernel_rfl⟩, by kernel_rfl, by kernel_rfl, by kernel_rfl, by kernel_rfl, by kernel_rfl⟩
theorem pre35 (a b c d e f g h i : O) : Pre0 (h16 a b c d e f g h i ++ G35.take 60) 3 5 := pre0_of (by kernel_rfl) (by kernel_rfl) (by kernel_rfl) (by kernel_rfl) (by kernel_rfl) (by kernel_rfl) (by kernel_rfl) (by kernel_rfl)
theorem ps35 (a b c d e f g h i : O) : PS (h16 a b c d e f g h i ++ G35.take 60) (h16 a b c d e f g h i ++ G35) (3 * 5) (fun _ => 0) (fun _ => 0) (fun _ => 0) 0 :=
  ⟨⟨G35.drop 60, by kernel_rfl⟩, by kernel_rfl, by kernel_rfl, by kernel_rfl, by kernel_rfl, by kernel_rfl⟩
theorem pre54 (a b c d e f g h i : O) : Pre0 (h16 a b c d e f g h i ++ G54.take 60) 5 4 := pre0_of (by kernel_rfl) (by kernel_rfl) (by kernel_rfl) (by kernel_rfl) (by kernel_rfl) (by kernel_rfl) (by kernel_rfl) (by kernel_rfl)
theorem ps54 (a b c d e f g h i : O) : PS (h16 a b c d e f g h i ++ G54.take 60) (h16 a b c d e f g h i ++ G54) (5 * 4) (fun _ => 0) (fun _ => 0) (fun _ => 0) 0 :=
  ⟨⟨G54.drop 60, by kernel_rfl⟩, by kernel_rfl, by kernel_rfl, by kernel_rfl, by kernel_rfl, by kernel_rfl⟩
theorem pre45 (a b c d e f g h i : O) : Pre0 (h16 a b c d e f g h i ++ G45.take 60) 4 5 := pre0_of (by kernel_rfl) (by kernel_rfl) (by kernel_rfl) (by kernel_rfl) (by kernel_rfl) (by kernel_rfl) (by kernel_rfl) (by kernel_rfl)
theorem ps45 (a b c d e f g h i : O) : PS (h16 a b c d e f g h i ++ G45.take 60) (h16 a b c d e f g h i ++ G45) (4 * 5) (fun _ => 0) (fun _ => 0) (fun _ => 0) 0 :=
  ⟨⟨G45.drop 60, by kernel_rfl⟩, by kernel_rfl, by kernel_rfl, by kernel_rfl, by kernel_rfl, by kernel_rfl⟩
set_option maxHeartbeats 2000000 in
theorem new_c (n : Nat) {F R : Nat} (hS : (F, R) ∈ shapes) (a b c d e f g h i : O) {l : Lc} {x0 x1 x5 x6 x7 x8 x9 : Option V} {xs : Lc}
    (hl : l = [x0, x1, some (.int F), some (.int R), some (.int (F * R : Nat)), x5, x6, x7, x8, x9] ++ xs) {Q : VQ}
    (hq : ∀ h0 h', Pre0 h0 F R → h16 a b c d e f g h i <+: h0 → PS h0 h' (F * R) (fun _ => 0) (fun _ => 0) (fun _ => 0) 0 → Q (.ref 77) h') : wE (n + 100) newX l (h16 a b c d e f g h i) Q := by
  subst hl
  rw [wE_def]
  simp only [shapes, List.mem_cons, Prod.mk.injEq, List.not_mem_nil, or_false] at hS
  rcases hS with ⟨rfl, rfl⟩ | ⟨rfl, rfl⟩ | ⟨rfl, rfl⟩ | ⟨rfl, rfl⟩
  · have ee := new44 n a b c d e f g h i x0 x1 x5 x6 x7 x8 x9 xs
    have q := hq _ _ (pre44 a b c d e f g h i) (pre_app _ _) (ps44 a b c d e f g h i)
    rw [ee]
    exact q
  · have ee := new35 n a b c d e f g h i x0 x1 x5 x6 x7 x8 x9 xs
    have q := hq _ _ (pre35 a b c d e f g h i) (pre_app _ _) (ps35 a b c d e f g h i)
    rw [ee]
    exact q
  · have ee := new54 n a b c d e f g h i x0 x1 x5 x6 x7 x8 x9 xs
    have q := hq _ _ (pre54 a b c d e f g h i) (pre_app _ _) (ps54 a b c d e f g h i)
    rw [ee]
    exact q
  · have ee := new45 n a b c d e f g h i x0 x1 x5 x6 x7 x8 x9 xs
    have q := hq _ _ (pre45 a b c d e f g h i) (pre_app _ _) (ps45 a b c d e f g h i)
    rw [ee]
    exact q
end
section
set_option maxRecDepth 100000
set_option linter.unusedSimpArgs false
set_option linter.unusedVariables false
noncomputable def upd (y : Nat → Nat) (t v : Nat) : Nat → Nat := fun s => if s = t then v else y s
theorem arr_set {h : Hp} {k N : Nat} {y : Nat → Nat} (e : h[k]? = some (arr N y)) (hN : N ≤ 900) {t v : Nat} (ht : t < N) : setV h (.ref k) (.int t) (.int v) = some (h.set k (arr N (upd y t v))) := by
  unfold setV arr at *
  simp only [e]
  rw [if_pos (by simp; (first | lia | omega))]
  congr 2
  rw [Int.toNat_natCast]
  congr 1
  apply List.ext_getElem?
  intro i
  by_cases hi : i < N
  · by_cases hit : t = i
    · subst hit
      rw [List.getElem?_set_self (by simpa using ht)]
      simp [ht, upd]
    · rw [List.getElem?_set_ne hit]
      simp [hi, upd]
      rw [if_neg (fun h => hit h.symm)]
  · rw [List.getElem?_eq_none (by simp; (first | lia | omega)), List.getElem?_eq_none (by simp; (first | lia | omega))]
section
variable {h0 h : Hp} {N : Nat} {bd kd sd : Nat → Nat} {side : Nat}
theorem PS.getA (P : PS h0 h N bd kd sd side) {a : Nat} {v : V} (e : [(14, V.ref 17), (15, V.ref 75), (16, V.ref 79), (17, V.ref 81), (18, V.ref 82), (19, V.int side), (20, V.int 0), (21, V.int (-1)), (22, V.int 0), (3, V.int 1), (23, V.int 0), (24, V.ref 83)].lookup a = some v) :
    Mine.getA h (.ref 77) a = some v := by
  unfold Mine.getA
  simp only [P.inst, P.at_, attO]
  exact e
theorem PS.setB (P : PS h0 h N bd kd sd side) (l : h0.length = 76) (bd' : Nat → Nat) : PS h0 (h.set 79 (arr N bd')) N bd' kd sd side :=
  ⟨pre_set _ P.pre (by (first | lia | omega)), get_set_ne (by decide) P.at_, get_set_ne (by decide) P.inst, set_eq _ (lt_of_get P.b), get_set_ne (by decide) P.k, get_set_ne (by decide) P.s⟩
theorem PS.setK (P : PS h0 h N bd kd sd side) (l : h0.length = 76) (kd' : Nat → Nat) : PS h0 (h.set 81 (arr 7 kd')) N bd kd' sd side :=
  ⟨pre_set _ P.pre (by (first | lia | omega)), get_set_ne (by decide) P.at_, get_set_ne (by decide) P.inst, get_set_ne (by decide) P.b, set_eq _ (lt_of_get P.k), get_set_ne (by decide) P.s⟩
theorem PS.setS (P : PS h0 h N bd kd sd side) (l : h0.length = 76) (sd' : Nat → Nat) : PS h0 (h.set 82 (arr 2 sd')) N bd kd sd' side :=
  ⟨pre_set _ P.pre (by (first | lia | omega)), get_set_ne (by decide) P.at_, get_set_ne (by decide) P.inst, get_set_ne (by decide) P.b, get_set_ne (by decide) P.k, set_eq _ (lt_of_get P.s)⟩
theorem PS.setA (P : PS h0 h N bd kd sd side) (l : h0.length = 76) (s' : Nat) : PS h0 (h.set 76 (attO 0 s')) N bd kd sd s' :=
  ⟨pre_set _ P.pre (by (first | lia | omega)), set_eq _ (lt_of_get P.at_), get_set_ne (by decide) P.inst, get_set_ne (by decide) P.b, get_set_ne (by decide) P.k, get_set_ne (by decide) P.s⟩
theorem PS.setKey (P : PS h0 h N bd kd sd side) : Mine.setA h (.ref 77) 23 (.int 0) = some (h.set 76 (attO 0 side)) := by
  unfold Mine.setA
  simp only [P.inst, P.at_, attO]
  rfl
theorem PS.setSide (P : PS h0 h N bd kd sd side) (s' : Nat) : Mine.setA h (.ref 77) 19 (.int s') = some (h.set 76 (attO 0 s')) := by
  unfold Mine.setA
  simp only [P.inst, P.at_, attO]
  rfl
end
theorem kind_c (n : Nat) {h : Hp} (c : Nat) {Q : VQ} (hq : Q (.int (c % 8 : Nat)) h) : wF (n + 10) 1 [.int c] h Q := by
  rw [wF1]; unfold b1
  walk_at "es"
  have := band_n c 7
  rw [show (7 : Nat) = 2 ^ 3 - 1 from rfl, Nat.and_two_pow_sub_one_eq_mod] at this
  have e : Builtin.bitAnd (c : Int) 7 = ((c % 8 : Nat) : Int) := this
  rw [e]
  exact hq
theorem side_c (n : Nat) {h : Hp} (c : Nat) {Q : VQ} (hq : Q (.int (c / 8 : Nat)) h) : wF (n + 10) 0 [.int c] h Q := by
  rw [wF0]; unfold b0
  walk_at "es"
  have e : (c : Int).fdiv (2 ^ (3 : Int).toNat) = ((c / 8 : Nat) : Int) := fdiv_n c 8
  rw [e]
  exact hq
theorem put_c (n : Nat) {h0 h : Hp} {F R : Nat} {bd kd sd : Nat → Nat} {side : Nat} (hS : (F, R) ∈ shapes) (Z : Pre0 h0 F R) (P : PS h0 h (F * R) bd kd sd side) {c t : Nat} (ht : t < F * R) (h1 : c % 8 < 7) (h2 : c < 15) {Q : VQ}
    (hq : ∀ h', PS h0 h' (F * R) (upd bd t c) (upd kd (c % 8) (kd (c % 8) ||| 2 ^ t)) (upd sd (c / 8) (sd (c / 8) ||| 2 ^ t)) side → Q .none h') : wF (n + 60) 22 [.ref 77, .int c, .int t] h Q := by
  have hsz := size_le hS
  have c1 := P.getA (a := 16) (v := .ref 79) rfl
  have q1 := P.setB Z.len (upd bd t c)
  have c2 := q1.getA (a := 17) (v := .ref 81) rfl
  have g2 := arr_get q1.k (by decide) h1
  have q2 := q1.setK Z.len (upd kd (c % 8) (kd (c % 8) ||| 2 ^ t))
  have c3 := q2.getA (a := 18) (v := .ref 82) rfl
  have h3 : c / 8 < 2 := by (first | lia | omega)
  have g3 := arr_get q2.s (by decide) h3
  have q3 := q2.setS Z.len (upd sd (c / 8) (sd (c / 8) ||| 2 ^ t))
  have c4 := q3.getA (a := 23) (v := .int 0) rfl
  have c5 := q3.getA (a := 15) (v := .ref 75) rfl
  have z1 := getA_app q3.pre Z.z1
  have z2 := getV_app q3.pre (Z.z2 c h2)
  have z3 := getV_app q3.pre (Z.z3 t ht)
  have q4 := q3.setA Z.len side
  rw [wF22]; unfold b22
  walk_at "es"
  refine wB_shl (by (first | lia | omega)) (by (first | lia | omega)) (by decide) ?_
  rw [shl1]
  walk_at "es"
  refine wX_assS ?_
  walk_at "es"
  refine ⟨_, arr_set P.b (le9 hsz.1) ht, ?_⟩
  walk_at "es"
  refine kind_c _ c ?_
  walk_at "es"
  rw [bor_n]
  refine ⟨_, arr_set q1.k (by decide) h1, ?_⟩
  walk_at "es"
  refine side_c _ c ?_
  walk_at "es"
  rw [bor_n]
  refine ⟨_, arr_set q2.s (by decide) h3, ?_⟩
  walk_at "es"
  have e : Builtin.bitXor (0 : Int) ((0 : Nat) : Int) = 0 := bxor_n 0 0
  rw [e]
  refine ⟨_, q3.setKey, ?_⟩
  walk_at "es"
  exact hq _ q4
noncomputable def kdJ (c : Nat → Nat) (j i : Nat) : Nat := mask ((List.range j).filter fun t => c t != 0 && c t % 8 == i)
noncomputable def sdJ (c : Nat → Nat) (j i : Nat) : Nat := mask ((List.range j).filter fun t => c t != 0 && c t / 8 == i)
theorem mask_snoc (l : List Nat) (a : Nat) : mask (l ++ [a]) = mask l ||| 2 ^ a := by
  induction l with
  | nil => simp [mask]
  | cons b r ih => simp only [List.cons_append, mask, ih, Nat.or_assoc]
theorem maskf_zero {c : Nat → Nat} {p : Nat → Nat → Bool} {j : Nat} (h : c j = 0) (i : Nat) : mask ((List.range (j + 1)).filter fun t => c t != 0 && p t i) = mask ((List.range j).filter fun t => c t != 0 && p t i) := by
  rw [List.range_succ, List.filter_append]
  simp [h]
theorem maskf_ne {c : Nat → Nat} {k : Nat → Nat} {j : Nat} (h : c j ≠ 0) : (fun i => mask ((List.range (j + 1)).filter fun t => c t != 0 && k t == i)) =
    upd (fun i => mask ((List.range j).filter fun t => c t != 0 && k t == i)) (k j) (mask ((List.range j).filter fun t => c t != 0 && k t == k j) ||| 2 ^ j) := by
  funext i
  unfold upd
  rw [List.range_succ, List.filter_append]
  by_cases hi : i = k j
  · subst hi
    rw [if_pos rfl, List.filter_cons_of_pos (by simp [h]), List.filter_nil, mask_snoc]
  · rw [if_neg hi, List.filter_cons_of_neg (by simp; intro _ e; exact hi e.symm), List.filter_nil, List.append_nil]
noncomputable def sPut : S := (.for 11 (.bi .range [(.var 4)]) [(.iff (.sub (.var 5) (.var 11)) [(.expr (.call 22 [(.var 10), (.sub (.var 5) (.var 11)), (.var 11)]))] [])])
theorem put_loop (n : Nat) {h0 h : Hp} {F R : Nat} (hS : (F, R) ∈ shapes) (Z : Pre0 h0 F R) (P : PS h0 h (F * R) (fun _ => 0) (fun _ => 0) (fun _ => 0) 0) {c : Nat → Nat} (hc : h0[13]? = some (arr (F * R) c)) (hcc : ∀ t, t < F * R → c t % 8 < 7 ∧ c t < 15)
    {x0 x1 x2 x3 x6 x7 x8 x9 x11 x12 x13 x14 x15 x16 x17 x18 x19 x20 x21 x22 x23 : Option V} {Q : RQ}
    (hq : ∀ h' bd y, PS h0 h' (F * R) bd (kdJ c (F * R)) (sdJ c (F * R)) 0 → Q .next [x0, x1, x2, x3, some (.int (F * R : Nat)), some (.ref 13), x6, x7, x8, x9, some (.ref 77), y, x12, x13, x14, x15, x16, x17, x18, x19, x20, x21, x22, x23] h') :
    wX (n + 90) sPut [x0, x1, x2, x3, some (.int (F * R : Nat)), some (.ref 13), x6, x7, x8, x9, some (.ref 77), x11, x12, x13, x14, x15, x16, x17, x18, x19, x20, x21, x22, x23] h Q := by
  have hsz := size_le hS
  obtain ⟨r1, r2⟩ := rngN hsz.1
  unfold sPut
  refine wX_forI ?_
  walk_at "es"
  refine wI_range1 r1 ?_
  refine ⟨_, src_rng (get_last _ _) r1, rfl, ?_⟩
  rw [r2]
  have P0 : PS h0 (h ++ [.rng 0 (F * R : Nat) 1]) (F * R) (fun _ => 0) (kdJ c 0) (sdJ c 0) 0 :=
    ⟨P.pre.trans (pre_app _ _), get_app (pre_app _ _) P.at_, get_app (pre_app _ _) P.inst, get_app (pre_app _ _) P.b, get_app (pre_app _ _) P.k, get_app (pre_app _ _) P.s⟩
  refine wLo_inv (fun j l h2 => ∃ bd y, PS h0 h2 (F * R) bd (kdJ c j) (sdJ c j) 0 ∧ l = [x0, x1, x2, x3, some (.int (F * R : Nat)), some (.ref 13), x6, x7, x8, x9, some (.ref 77), y, x12, x13, x14, x15, x16, x17, x18, x19, x20, x21, x22, x23]) _ 0 _ _ ⟨_, _, P0, rfl⟩ ?_ ?_
  · rintro j l h2 hj ⟨bd, y, P2, rfl⟩
    have hj : j < F * R := by simpa using hj
    rw [List.getElem_map, List.getElem_range]
    simp only [Nat.zero_add] at P2 ⊢
    have g := arr_get (get_app P2.pre hc) (le9 hsz.1) hj
    walk_at "es"
    · rename_i hz
      have hz := ne0 hz
      refine put_c _ hS Z P2 hj (hcc j hj).1 (hcc j hj).2 fun h' P3 => ?_
      walk_at "es"
      refine ⟨fun k => by simp, ?_⟩
      walk_at "es"
      refine ⟨upd bd j (c j), some (.int j), ?_, rfl⟩
      have e1 : kdJ c (j + 1) = upd (kdJ c j) (c j % 8) (kdJ c j (c j % 8) ||| 2 ^ j) := maskf_ne (k := fun t => c t % 8) hz
      have e2 : sdJ c (j + 1) = upd (sdJ c j) (c j / 8) (sdJ c j (c j / 8) ||| 2 ^ j) := maskf_ne (k := fun t => c t / 8) hz
      rw [e1, e2]
      exact P3
    · rename_i hz
      have hz := eq0 hz
      refine ⟨bd, some (.int j), ?_, rfl⟩
      have e1 : kdJ c (j + 1) = kdJ c j := funext fun i => maskf_zero (p := fun t i => c t % 8 == i) hz i
      have e2 : sdJ c (j + 1) = sdJ c j := funext fun i => maskf_zero (p := fun t i => c t / 8 == i) hz i
      rw [e1, e2]
      exact P2
  · rintro l h2 ⟨bd, y, P2, rfl⟩
    rw [List.length_map, List.length_range, Nat.zero_add] at P2
    exact hq _ bd y P2
end
section
set_option maxRecDepth 100000
set_option linter.unusedSimpArgs false
set_option linter.unusedVariables false
theorem fwd_bit {F R t g : Nat} {k man : Int} (hg : g < F * R) : (fwd F R t k man).testBit g = nearB F t g k man := by
  unfold fwd; rw [testBit_mask]; simp [hg]
theorem bwd_bit {F R t g : Nat} {k man : Int} (ht : t < F * R) : (bwd F R g k man).testBit t = nearB F t g k man := by
  unfold bwd; rw [testBit_mask]; simp [ht]
noncomputable def slB (F t g : Nat) (k : Int) (y : Nat → Nat) : Bool := lineB F t g k && (pathN F t g).all fun x => y x == 0
/-- occ and y tell the same squares -/
noncomputable def Oc (N occ : Nat) (y : Nat → Nat) : Prop := ∀ x, x < N → occ.testBit x = (y x != 0)
theorem path_lt {F R t g : Nat} (hS : (F, R) ∈ shapes) (ht : t < F * R) (hg : g < F * R) {k : Int} (h : lineB F t g k = true) : ∀ x ∈ pathN F t g, x < F * R := by
  have ck := far_check (F, R) hS t ht g hg
  unfold farOk at ck
  simp only [Bool.and_eq_true, decide_eq_true_eq] at ck
  obtain ⟨_, c5⟩ := ck
  have h5 : lineV (dfI F t g) (drI F t g) (farI F t g) 5 = true := line5 h
  rw [h5] at c5
  simp only [Bool.not_true, Bool.false_or, Bool.and_eq_true, decide_eq_true_eq] at c5
  intro x hx
  unfold pathN at hx
  rw [List.mem_map] at hx
  obtain ⟨k, hk, rfl⟩ := hx
  have := List.all_eq_true.mp c5.2 k hk
  simp only [Bool.and_eq_true, decide_eq_true_eq] at this
  (first | lia | omega)
theorem clear_eq {F R t g occ : Nat} {y : Nat → Nat} (hS : (F, R) ∈ shapes) (ht : t < F * R) (hg : g < F * R) (ho : Oc (F * R) occ y) {k : Int} (h : lineB F t g k = true) :
    ((pathN F t g).all fun x => !occ.testBit x) = (pathN F t g).all fun x => y x == 0 := by
  have hp := path_lt hS ht hg h
  rw [Bool.eq_iff_iff, List.all_eq_true, List.all_eq_true]
  constructor
  · intro H x hx
    have := H x hx
    rw [ho x (hp x hx)] at this
    simpa using this
  · intro H x hx
    have := H x hx
    rw [ho x (hp x hx)]
    simpa using this
section
variable {F R t g occ : Nat} {y : Nat → Nat} (hS : (F, R) ∈ shapes) (ht : t < F * R) (hg : g < F * R) (ho : Oc (F * R) occ y)
include hS ht hg ho
theorem sl4 : (rookN F R t occ).testBit g = slB F t g 4 y ∧ (rookN F R g occ).testBit t = slB F t g 4 y ∧ (bishN F R t occ).testBit g = slB F t g 3 y ∧ (bishN F R g occ).testBit t = slB F t g 3 y := by
  have ck := sl_check (F, R) hS t ht g hg
  unfold slChk at ck
  simp only [Bool.and_eq_true, beq_iff_eq] at ck
  obtain ⟨⟨⟨c1, c2⟩, c3⟩, c4⟩ := ck
  rw [rookN_bit, rookN_bit, bishN_bit, bishN_bit, c1, c2, c3, c4]
  unfold slB
  refine ⟨?_, ?_, ?_, ?_⟩
  · cases h : lineB F t g 4 with
    | false => rfl
    | true => simp only [↓reduceIte, List.any_cons, List.any_nil, Bool.or_false, Bool.true_and]; exact clear_eq hS ht hg ho h
  · cases h : lineB F t g 4 with
    | false => rfl
    | true => simp only [↓reduceIte, List.any_cons, List.any_nil, Bool.or_false, Bool.true_and, List.all_reverse]; exact clear_eq hS ht hg ho h
  · cases h : lineB F t g 3 with
    | false => rfl
    | true => simp only [↓reduceIte, List.any_cons, List.any_nil, Bool.or_false, Bool.true_and]; exact clear_eq hS ht hg ho h
  · cases h : lineB F t g 3 with
    | false => rfl
    | true => simp only [↓reduceIte, List.any_cons, List.any_nil, Bool.or_false, Bool.true_and, List.all_reverse]; exact clear_eq hS ht hg ho h
end
theorem slB5 (F t g : Nat) (y : Nat → Nat) : slB F t g 5 y = (slB F t g 3 y || slB F t g 4 y) := by
  have e : lineB F t g 5 = (lineB F t g 3 || lineB F t g 4) := by
    unfold lineB lineV
    simp only [show ((5 : Int) == 3) = false from rfl, show ((5 : Int) == 4) = false from rfl, show ((3 : Int) == 3) = true from rfl, show ((3 : Int) == 4) = false from rfl, show ((4 : Int) == 3) = false from rfl, show ((4 : Int) == 4) = true from rfl, Bool.false_and, Bool.true_and, Bool.or_false, Bool.false_or]
    cases (dfI F t g * drI F t g == 0) <;> simp
  unfold slB
  rw [e]
  cases lineB F t g 3 <;> cases lineB F t g 4 <;> cases ((pathN F t g).all fun x => y x == 0) <;> rfl
theorem hit_sl {F m t g : Nat} {y : Nat → Nat} (h : m % 8 = 3 ∨ m % 8 = 4 ∨ m % 8 = 5) : hitB F m t g y = slB F t g ((m % 8 : Nat) : Int) y := by
  have key : ∀ k : Int, (k == 1) = false → (k == 2) = false → (k == 6) = false → hitV F t (dfI F t g) (drI F t g) (farI F t g) k m y = slB F t g k y := by
    intro k h1 h2 h6
    unfold hitV slB lineB pathN
    rw [geo_line h1 h2 h6, h1, h2, h6, List.all_map]
    rfl
  unfold hitB
  refine key _ ?_ ?_ ?_ <;> rcases h with h | h | h <;> rw [h] <;> rfl
theorem hit_near {F m t g : Nat} {y : Nat → Nat} (h : m % 8 = 1 ∨ m % 8 = 2 ∨ m % 8 = 6) : hitB F m t g y = nearB F t g ((m % 8 : Nat) : Int) m := by
  unfold hitB hitV nearB
  rcases h with h | h | h <;> rw [h] <;> simp
theorem near2 (F t g : Nat) (m m' : Int) : nearB F t g 2 m = nearB F t g 2 m' := rfl
theorem near6 (F t g : Nat) (m m' : Int) : nearB F t g 6 m = nearB F t g 6 m' := rfl
theorem near_tab {F R t g : Nat} (hS : (F, R) ∈ shapes) (ht : t < F * R) (hg : g < F * R) :
    (pawnT F R 0 t).testBit g = nearB F t g 1 1 ∧ (pawnT F R 1 g).testBit t = nearB F t g 1 1 ∧ (pawnT F R 1 t).testBit g = nearB F t g 1 9 ∧ (pawnT F R 0 g).testBit t = nearB F t g 1 9 ∧
    (knightT F R t).testBit g = nearB F t g 2 2 ∧ (knightT F R g).testBit t = nearB F t g 2 2 ∧ (kingT F R t).testBit g = nearB F t g 6 6 ∧ (kingT F R g).testBit t = nearB F t g 6 6 := by
  have c1 := st_check (F, R) hS t ht
  have c2 := st_check (F, R) hS g hg
  unfold stChk at c1 c2
  simp only [Bool.and_eq_true, beq_iff_eq] at c1 c2
  obtain ⟨⟨⟨⟨⟨⟨⟨a1, a2⟩, a3⟩, a4⟩, a5⟩, a6⟩, a7⟩, a8⟩ := c1
  obtain ⟨⟨⟨⟨⟨⟨⟨b1, b2⟩, b3⟩, b4⟩, b5⟩, b6⟩, b7⟩, b8⟩ := c2
  refine ⟨?_, ?_, ?_, ?_, ?_, ?_, ?_, ?_⟩
  · rw [a1, fwd_bit hg]
  · rw [b2, bwd_bit ht]
  · rw [a3, fwd_bit hg]
  · rw [b4, bwd_bit ht]
  · rw [a5, fwd_bit hg]
  · rw [b6, bwd_bit ht]
  · rw [a7, fwd_bit hg]
  · rw [b8, bwd_bit ht]
/-- a man of the board -/
noncomputable def Man (m : Nat) : Prop := 1 ≤ m % 8 ∧ m % 8 ≤ 6 ∧ m < 16
theorem man12 {m : Nat} (h : Man m) : m = 1 ∨ m = 2 ∨ m = 3 ∨ m = 4 ∨ m = 5 ∨ m = 6 ∨ m = 9 ∨ m = 10 ∨ m = 11 ∨ m = 12 ∨ m = 13 ∨ m = 14 := by
  obtain ⟨h1, h2, h3⟩ := h
  (first | lia | omega)
theorem piece_bit {F R t g occ m : Nat} {y : Nat → Nat} (hS : (F, R) ∈ shapes) (ht : t < F * R) (hg : g < F * R) (ho : Oc (F * R) occ y) (hm : Man m) :
    (pieceN F R (m / 8) (m % 8) t occ).testBit g = hitB F m t g y := by
  obtain ⟨n1, n2, n3, n4, n5, n6, n7, n8⟩ := near_tab hS ht hg
  obtain ⟨s1, s2, s3, s4⟩ := sl4 hS ht hg ho
  rcases man12 hm with rfl | rfl | rfl | rfl | rfl | rfl | rfl | rfl | rfl | rfl | rfl | rfl
  · rw [hit_near (by decide)]; exact n1
  · rw [hit_near (by decide)]; exact n5
  · rw [hit_sl (by decide)]; exact s3
  · rw [hit_sl (by decide)]; exact s1
  · rw [hit_sl (by decide)]
    refine Eq.trans ?_ (slB5 F t g y).symm
    rw [← s3, ← s1, Bool.or_comm]
    exact Nat.testBit_or ..
  · rw [hit_near (by decide)]; exact n7
  · rw [hit_near (by decide)]; exact n3
  · rw [hit_near (by decide)]; exact n5
  · rw [hit_sl (by decide)]; exact s3
  · rw [hit_sl (by decide)]; exact s1
  · rw [hit_sl (by decide)]
    refine Eq.trans ?_ (slB5 F t g y).symm
    rw [← s3, ← s1, Bool.or_comm]
    exact Nat.testBit_or ..
  · rw [hit_near (by decide)]; exact n7
noncomputable def wo (F R : Nat) (c : Nat → Nat) (side k0 k1 : Nat) : Wo := { p := 77, g := 17, kk := 81, ss := 82, F := F, R := R, kd := kdJ c (F * R), sd := sdJ c (F * R), side := side, kq := fun v => if v = 0 then k0 else k1 }
noncomputable def WFc (N : Nat) (c : Nat → Nat) : Prop := ∀ t, t < N → c t = 0 ∨ Man (c t)
theorem kd_bit (c : Nat → Nat) (N i t : Nat) : (kdJ c N i).testBit t = (decide (t < N) && (c t != 0 && c t % 8 == i)) := by
  unfold kdJ; rw [testBit_mask]
  rw [Bool.eq_iff_iff]; simp
theorem sd_bit (c : Nat → Nat) (N i t : Nat) : (sdJ c N i).testBit t = (decide (t < N) && (c t != 0 && c t / 8 == i)) := by
  unfold sdJ; rw [testBit_mask]
  rw [Bool.eq_iff_iff]; simp
end
section
set_option maxRecDepth 100000
set_option linter.unusedSimpArgs false
set_option linter.unusedVariables false
section
variable {F R g occ : Nat} {c y : Nat → Nat} {side k0 k1 : Nat} (hS : (F, R) ∈ shapes) (hw : WFc (F * R) c) (hg : g < F * R) (ho : Oc (F * R) occ y)
include hS hw hg ho
theorem step_bit (t v : Nat) (hv : v < 2) : (stepN (wo F R c side k0 k1) g v).testBit t = (decide (t < F * R) && (c t != 0 && (c t / 8 == v && ((c t % 8 == 1 || c t % 8 == 2 || c t % 8 == 6) && hitB F (c t) t g y)))) := by
  unfold stepN pawnAN
  simp only [wo, Nat.testBit_or, Nat.testBit_and, kd_bit, sd_bit]
  by_cases ht : t < F * R
  · rw [decide_eq_true ht]
    rcases hw t ht with h0 | hm
    · rw [h0]; simp
    · have hne : (c t != 0) = true := by obtain ⟨h1, _, _⟩ := hm; simp; (first | lia | omega)
      rw [hne]
      obtain ⟨n1, n2, n3, n4, n5, n6, n7, n8⟩ := near_tab hS ht hg
      by_cases hvv : c t / 8 = v
      · subst hvv
        generalize c t = m at hm
        rcases man12 hm with rfl | rfl | rfl | rfl | rfl | rfl | rfl | rfl | rfl | rfl | rfl | rfl
        · rw [hit_near (by decide)]; simpa using n2
        · rw [hit_near (by decide)]; simpa using n6
        · simp
        · simp
        · simp
        · rw [hit_near (by decide)]; simpa using n8
        · rw [hit_near (by decide)]; simpa using n4
        · rw [hit_near (by decide)]; simp; exact n6
        · simp
        · simp
        · simp
        · rw [hit_near (by decide)]; simp; exact n8
      · have : (c t / 8 == v) = false := by simpa using hvv
        rw [this]; simp
  · rw [decide_eq_false ht]; simp
theorem rook_bit (t : Nat) : (rookN F R g occ &&& stN (wo F R c side k0 k1)).testBit t = (decide (t < F * R) && (c t != 0 && ((c t % 8 == 4 || c t % 8 == 5) && slB F t g 4 y))) := by
  unfold stN
  simp only [wo, Nat.testBit_or, Nat.testBit_and, kd_bit]
  by_cases ht : t < F * R
  · rw [decide_eq_true ht, (sl4 hS ht hg ho).2.1]
    cases c t != 0 <;> cases c t % 8 == 4 <;> cases c t % 8 == 5 <;> cases slB F t g 4 y <;> rfl
  · rw [decide_eq_false ht]; simp
theorem bish_bit (t : Nat) : (bishN F R g occ &&& slN (wo F R c side k0 k1)).testBit t = (decide (t < F * R) && (c t != 0 && ((c t % 8 == 3 || c t % 8 == 5) && slB F t g 3 y))) := by
  unfold slN
  simp only [wo, Nat.testBit_or, Nat.testBit_and, kd_bit]
  by_cases ht : t < F * R
  · rw [decide_eq_true ht, (sl4 hS ht hg ho).2.2.2]
    cases c t != 0 <;> cases c t % 8 == 3 <;> cases c t % 8 == 5 <;> cases slB F t g 3 y <;> rfl
  · rw [decide_eq_false ht]; simp
/-- the line hitters -/
theorem line_bit (t : Nat) : (lineN (wo F R c side k0 k1) g occ).testBit t = (decide (t < F * R) && (c t != 0 && ((c t % 8 == 3 || c t % 8 == 4 || c t % 8 == 5) && hitB F (c t) t g y))) := by
  have e1 := rook_bit (side := side) (k0 := k0) (k1 := k1) hS hw hg ho t
  have e2 := bish_bit (side := side) (k0 := k0) (k1 := k1) hS hw hg ho t
  unfold lineN
  simp only [wo] at e1 e2 ⊢
  rw [Nat.testBit_or, e1, e2]
  by_cases ht : t < F * R
  · rw [decide_eq_true ht]
    rcases hw t ht with h0 | hm
    · rw [h0]; simp
    · have hne : (c t != 0) = true := by obtain ⟨h1, _, _⟩ := hm; simp; (first | lia | omega)
      rw [hne]
      generalize c t = m at hm
      have h5 := slB5 F t g y
      rcases man12 hm with rfl | rfl | rfl | rfl | rfl | rfl | rfl | rfl | rfl | rfl | rfl | rfl
      · simp
      · simp
      · rw [hit_sl (by decide)]; simp
      · rw [hit_sl (by decide)]; simp
      · rw [hit_sl (by decide)]; simp [h5, Bool.or_comm]
      · simp
      · simp
      · simp
      · rw [hit_sl (by decide)]; simp
      · rw [hit_sl (by decide)]; simp
      · rw [hit_sl (by decide)]; simp [h5, Bool.or_comm]
      · simp
  · rw [decide_eq_false ht]; simp
theorem all_bit (t : Nat) : (attackersN (wo F R c side k0 k1) g occ).testBit t = (decide (t < F * R) && (c t != 0 && hitB F (c t) t g y)) := by
  have e0 := step_bit (side := side) (k0 := k0) (k1 := k1) hS hw hg ho t 0 (by decide)
  have e1 := step_bit (side := side) (k0 := k0) (k1 := k1) hS hw hg ho t 1 (by decide)
  have e2 := line_bit (side := side) (k0 := k0) (k1 := k1) hS hw hg ho t
  unfold attackersN
  rw [Nat.testBit_or, Nat.testBit_or, e0, e1, e2]
  by_cases ht : t < F * R
  · rw [decide_eq_true ht]
    rcases hw t ht with h0 | hm
    · rw [h0]; simp
    · have hne : (c t != 0) = true := by obtain ⟨h1, _, _⟩ := hm; simp; (first | lia | omega)
      rw [hne]
      generalize c t = m at hm
      rcases man12 hm with rfl | rfl | rfl | rfl | rfl | rfl | rfl | rfl | rfl | rfl | rfl | rfl <;> simp
  · rw [decide_eq_false ht]; simp
end
theorem hitL_mem {F N : Nat} {c : Nat → Nat} {g : Nat} {y : Nat → Nat} {v t : Nat} : t ∈ hitL F N c g y v ↔ t < N ∧ (c t != 0 && c t / 8 == v && hitB F (c t) t g y) = true := by
  unfold hitL; rw [List.mem_filter, List.mem_range]
theorem or_add (a b : Nat) : (a ||| b) + (a &&& b) = a + b := by
  induction a using Nat.strongRecOn generalizing b with
  | _ a ih =>
    by_cases h0 : a = 0
    · subst h0; simp
    · have h1 := ih (a / 2) (by (first | lia | omega)) (b / 2)
      have e1 : (a ||| b) / 2 = a / 2 ||| b / 2 := Nat.or_div_two
      have e3 : (a &&& b) / 2 = a / 2 &&& b / 2 := Nat.and_div_two
      have f1 := Nat.testBit_or a b 0
      have f3 := Nat.testBit_and a b 0
      simp only [Nat.testBit_zero] at f1 f3
      rcases Nat.mod_two_eq_zero_or_one a with ha | ha <;> rcases Nat.mod_two_eq_zero_or_one b with hb | hb <;>
        simp only [ha, hb, Nat.zero_ne_one, decide_false, decide_true, Bool.or_false, Bool.or_true, Bool.and_false, Bool.and_true, Bool.or_self, Bool.and_self, decide_eq_true_eq, decide_eq_false_iff_not] at f1 f3 <;> (first | lia | omega)
theorem sumB_go : ∀ (L : List Nat) (a : Nat), L.Nodup → (∀ t ∈ L, a.testBit t = false) → L.foldl (fun a t => a + 2 ^ t) a = a ||| mask L
  | [], a, _, _ => by simp [mask]
  | x :: L, a, hn, ha => by
    rw [List.nodup_cons] at hn
    have hx : a.testBit x = false := ha x (by simp)
    have e : a + 2 ^ x = a ||| 2 ^ x := by
      have := or_add a (2 ^ x)
      have h0 : a &&& 2 ^ x = 0 := by
        apply Nat.eq_of_testBit_eq
        intro i
        rw [Nat.testBit_and, Nat.testBit_two_pow, Nat.zero_testBit]
        by_cases hi : x = i
        · subst hi; rw [hx]; rfl
        · rw [decide_eq_false hi, Bool.and_false]
      (first | lia | omega)
    rw [List.foldl_cons, e, sumB_go L _ hn.2 ?_]
    · simp only [mask, Nat.or_assoc]
    · intro t ht
      rw [Nat.testBit_or, ha t (by simp [ht]), Nat.testBit_two_pow, decide_eq_false (by rintro rfl; exact hn.1 ht)]; rfl
theorem sumB_mask {L : List Nat} (h : L.Nodup) : sumB L = mask L := by
  unfold sumB
  rw [sumB_go L 0 h (by simp)]
  simp
theorem hitL_nodup (F N : Nat) (c : Nat → Nat) (g : Nat) (y : Nat → Nat) (v : Nat) : (hitL F N c g y v).Nodup := by
  unfold hitL; exact List.Pairwise.filter _ List.nodup_range
theorem hit2_nodup (F N : Nat) (c : Nat → Nat) (g : Nat) (y : Nat → Nat) : (hitL F N c g y 0 ++ hitL F N c g y 1).Nodup := by
  rw [List.nodup_append]
  refine ⟨hitL_nodup .., hitL_nodup .., ?_⟩
  intro a ha b hb e
  subst e
  rw [hitL_mem] at ha hb
  obtain ⟨_, h1⟩ := ha
  obtain ⟨_, h2⟩ := hb
  simp only [Bool.and_eq_true, beq_iff_eq] at h1 h2
  (first | lia | omega)
end
section
set_option maxRecDepth 100000
set_option linter.unusedSimpArgs false
set_option linter.unusedVariables false
set_option linter.unusedSectionVars false
theorem or3_ne (a b d : Nat) : (decide (a ≠ 0) || decide (b ≠ 0) || decide (d ≠ 0)) = decide (a ||| b ||| d ≠ 0) := by
  rw [Bool.eq_iff_iff]
  simp only [Bool.or_eq_true, decide_eq_true_eq, ne_eq, Nat.or_eq_zero_iff]
  (first | lia | omega)
theorem ne_zero_iff (x : Nat) : x ≠ 0 ↔ ∃ i, x.testBit i = true := by
  constructor
  · intro h
    apply Classical.byContradiction
    intro hn
    apply h
    apply Nat.eq_of_testBit_eq
    intro i
    rw [Nat.zero_testBit]
    cases e : x.testBit i with
    | false => rfl
    | true => exact absurd ⟨i, e⟩ hn
  · rintro ⟨i, hi⟩ rfl
    rw [Nat.zero_testBit] at hi; cases hi
section
variable {F R g occ : Nat} {c y : Nat → Nat} {side k0 k1 : Nat} (hS : (F, R) ∈ shapes) (hw : WFc (F * R) c) (hg : g < F * R) (ho : Oc (F * R) occ y)
include hS hw hg ho
theorem attackers_eq : attackersN (wo F R c side k0 k1) g occ = sumB (hitL F (F * R) c g y 0 ++ hitL F (F * R) c g y 1) := by
  rw [sumB_mask (hit2_nodup ..)]
  apply Nat.eq_of_testBit_eq
  intro t
  rw [all_bit hS hw hg ho, testBit_mask]
  rw [Bool.eq_iff_iff]
  simp only [Bool.and_eq_true, decide_eq_true_eq, List.mem_append, hitL_mem, beq_iff_eq]
  constructor
  · rintro ⟨ht, h1, h2⟩
    rcases hw t ht with h0 | hm
    · rw [h0] at h1; exact absurd h1 (by decide)
    · have : c t / 8 = 0 ∨ c t / 8 = 1 := by obtain ⟨_, _, h⟩ := hm; (first | lia | omega)
      rcases this with h | h
      · exact .inl ⟨ht, ⟨h1, h⟩, h2⟩
      · exact .inr ⟨ht, ⟨h1, h⟩, h2⟩
  · rintro (⟨ht, ⟨h1, _⟩, h2⟩ | ⟨ht, ⟨h1, _⟩, h2⟩) <;> exact ⟨ht, h1, h2⟩
theorem att_bit (v t : Nat) (hv : v < 2) : (stepN (wo F R c side k0 k1) g v ||| (rookN F R g occ &&& (stN (wo F R c side k0 k1) &&& sdJ c (F * R) v)) ||| (bishN F R g occ &&& (slN (wo F R c side k0 k1) &&& sdJ c (F * R) v))).testBit t = decide (t ∈ hitL F (F * R) c g y v) := by
  have e0 := step_bit (side := side) (k0 := k0) (k1 := k1) hS hw hg ho t v hv
  have e1 := rook_bit (side := side) (k0 := k0) (k1 := k1) hS hw hg ho t
  have e2 := bish_bit (side := side) (k0 := k0) (k1 := k1) hS hw hg ho t
  rw [← Nat.and_assoc, ← Nat.and_assoc, Nat.testBit_or, Nat.testBit_or, Nat.testBit_and _ (sdJ _ _ _), Nat.testBit_and _ (sdJ _ _ _), e0, e1, e2, sd_bit]
  by_cases ht : t < F * R
  · have hmem : decide (t ∈ hitL F (F * R) c g y v) = (c t != 0 && c t / 8 == v && hitB F (c t) t g y) := by
      rw [Bool.eq_iff_iff]; simp only [decide_eq_true_eq, hitL_mem]; exact ⟨fun h => h.2, fun h => ⟨ht, h⟩⟩
    rw [hmem, decide_eq_true ht]
    rcases hw t ht with h0 | hm
    · rw [h0]; simp
    · have hne : (c t != 0) = true := by obtain ⟨h1, _, _⟩ := hm; simp; (first | lia | omega)
      rw [hne]
      generalize c t = m at hm
      have h5 := slB5 F t g y
      cases hv' : (m / 8 == v) with
      | false => simp
      | true =>
        rcases man12 hm with rfl | rfl | rfl | rfl | rfl | rfl | rfl | rfl | rfl | rfl | rfl | rfl
        · simp
        · simp
        · rw [hit_sl (by decide)]; simp
        · rw [hit_sl (by decide)]; simp
        · rw [hit_sl (by decide)]; simp [h5, Bool.or_comm]
        · simp
        · simp
        · simp
        · rw [hit_sl (by decide)]; simp
        · rw [hit_sl (by decide)]; simp
        · rw [hit_sl (by decide)]; simp [h5, Bool.or_comm]
        · simp
  · rw [decide_eq_false ht, decide_eq_false (fun h => ht (hitL_mem.mp h).1)]; simp
theorem attacked_eq (v : Nat) (hv : v < 2) : attackedB (wo F R c side k0 k1) g v occ = !(hitL F (F * R) c g y v).isEmpty := by
  unfold attackedB
  have key := or3_ne (stepN (wo F R c side k0 k1) g v) (rookN F R g occ &&& (stN (wo F R c side k0 k1) &&& sdJ c (F * R) v)) (bishN F R g occ &&& (slN (wo F R c side k0 k1) &&& sdJ c (F * R) v))
  refine Eq.trans key ?_
  rw [Bool.eq_iff_iff, decide_eq_true_eq, ne_zero_iff]
  simp only [att_bit hS hw hg ho v _ hv, decide_eq_true_eq]
  cases hL : hitL F (F * R) c g y v with
  | nil => simp
  | cons a r => simp
end
theorem oc_occ {F R : Nat} {c : Nat → Nat} {side k0 k1 : Nat} (hw : WFc (F * R) c) : Oc (F * R) (occN (wo F R c side k0 k1)) c := by
  intro x hx
  unfold occN
  simp only [wo, Nat.testBit_or, sd_bit, decide_eq_true hx, Bool.true_and]
  rcases hw x hx with h0 | hm
  · rw [h0]; rfl
  · have : c x / 8 = 0 ∨ c x / 8 = 1 := by obtain ⟨_, _, h⟩ := hm; (first | lia | omega)
    rcases this with h | h <;> rw [h] <;> simp
theorem oc_bits {N : Nat} (hN : N ≤ 20) (y : Nat → Nat) : Oc N (sumB ((List.range N).filter fun t => y t != 0)) y := by
  intro x hx
  rw [sumB_mask (List.Pairwise.filter _ List.nodup_range), testBit_mask]
  rw [Bool.eq_iff_iff]; simp [hx]
theorem oc_zero {N : Nat} : Oc N 0 (fun _ => 0) := by intro x _; simp
section
variable {F R : Nat} {c : Nat → Nat} {side k0 k1 : Nat} (hS : (F, R) ∈ shapes) (hw : WFc (F * R) c)
include hS hw
theorem checkers_eq {v : Nat} (hv : v < 2) (hk : (wo F R c side k0 k1).kq v < F * R) : checkersN (wo F R c side k0 k1) v = sumB (hitL F (F * R) c ((wo F R c side k0 k1).kq v) c (1 - v)) := by
  rw [sumB_mask (hitL_nodup ..)]
  apply Nat.eq_of_testBit_eq
  intro t
  unfold checkersN
  have e := all_bit (side := side) (k0 := k0) (k1 := k1) hS hw hk (oc_occ (side := side) (k0 := k0) (k1 := k1) hw) t
  rw [Nat.testBit_and, e, testBit_mask]
  show (_ && (sdJ c (F * R) (1 - v)).testBit t) = _
  rw [sd_bit, Bool.eq_iff_iff]
  simp only [Bool.and_eq_true, decide_eq_true_eq, hitL_mem, beq_iff_eq]
  constructor
  · rintro ⟨⟨h1, h2, h3⟩, h4, h5, h6⟩; exact ⟨h1, ⟨h2, h6⟩, h3⟩
  · rintro ⟨h1, ⟨h2, h6⟩, h3⟩; exact ⟨⟨h1, h2, h3⟩, h1, h2, h6⟩
theorem in_check_eq {v : Nat} (hv : v < 2) (hk : (wo F R c side k0 k1).kq v < F * R) : inCheckB (wo F R c side k0 k1) v = !(hitL F (F * R) c ((wo F R c side k0 k1).kq v) c (1 - v)).isEmpty :=
  attacked_eq hS hw hk (oc_occ hw) (1 - v) (by (first | lia | omega))
end
theorem fold_or_bit {α : Type} (f : α → Nat) (g : Nat) : ∀ (L : List α) (a : Nat), (L.foldl (fun acc s => acc ||| f s) a).testBit g = (a.testBit g || L.any fun s => (f s).testBit g)
  | [], a => by simp
  | x :: L, a => by
    rw [List.foldl_cons, fold_or_bit f g L, List.any_cons, Nat.testBit_or, Bool.or_assoc]
theorem cov_fold (w : Wo) (v occ g : Nat) : ∀ (ks : List Nat) (a : Nat), (ks.foldl (fun acc kind => covS w v occ kind acc) a).testBit g = (a.testBit g || ks.any fun k => (bitsL (w.kd k &&& w.sd v)).any fun s => (pieceN w.F w.R v k s occ).testBit g)
  | [], a => by simp
  | k :: ks, a => by
    rw [List.foldl_cons, cov_fold w v occ g ks, List.any_cons]
    unfold covS
    rw [fold_or_bit, Bool.or_assoc]
theorem near_lt {F R : Nat} {l : List (Int × Int)} {s g : Nat} (h : ¬ g < F * R) : (nearT F R l s).testBit g = false := by
  unfold nearT
  rw [testBit_mask, decide_eq_false]
  rw [List.mem_filter, List.mem_range]
  exact fun x => h x.1
theorem attL_sub {p : Nat → Bool} {x : Nat} : ∀ {l : List Nat}, x ∈ attL p l → x ∈ l
  | [], h => by cases h
  | a :: r, h => by
    simp only [attL] at h
    split at h
    · simp at h; simp [h]
    · simp at h
      rcases h with h | h
      · simp [h]
      · simp [attL_sub h]
theorem attN_lt {F R d s occ g : Nat} (hS : (F, R) ∈ shapes) (hd : d < 8) (hs : s < F * R) (h : ¬ g < F * R) : (attN F R d s occ).testBit g = false := by
  unfold attN
  rw [testBit_mask, decide_eq_false]
  intro hm
  have := List.all_eq_true.mp (ray_lt_check (F, R) hS d hd s hs) g (attL_sub hm)
  exact h (of_decide_eq_true this)
theorem piece_lt {F R v k s occ g : Nat} (hS : (F, R) ∈ shapes) (hs : s < F * R) (h : ¬ g < F * R) : (pieceN F R v k s occ).testBit g = false := by
  have r : (rookN F R s occ).testBit g = false := by
    unfold rookN
    simp only [Nat.testBit_or, attN_lt hS (show 0 < 8 by decide) hs h, attN_lt hS (show 1 < 8 by decide) hs h, attN_lt hS (show 2 < 8 by decide) hs h, attN_lt hS (show 3 < 8 by decide) hs h]; rfl
  have b : (bishN F R s occ).testBit g = false := by
    unfold bishN
    simp only [Nat.testBit_or, attN_lt hS (show 4 < 8 by decide) hs h, attN_lt hS (show 5 < 8 by decide) hs h, attN_lt hS (show 6 < 8 by decide) hs h, attN_lt hS (show 7 < 8 by decide) hs h]; rfl
  unfold pieceN slidN queenN
  split
  · exact near_lt h
  split
  · exact near_lt h
  split
  · exact near_lt h
  split
  · exact b
  split
  · exact r
  split
  · rw [Nat.testBit_or, r, b]; rfl
  · exact Nat.zero_testBit _
theorem bitsL_mem {b t : Nat} : t ∈ bitsL b ↔ t < 20 ∧ b.testBit t = true := by
  unfold bitsL; rw [List.mem_filter, List.mem_range]
theorem cov_eq {F R occ : Nat} {c y : Nat → Nat} {side k0 k1 : Nat} (hS : (F, R) ∈ shapes) (hw : WFc (F * R) c) (ho : Oc (F * R) occ y) {v : Nat} (hv : v < 2) :
    covN (wo F R c side k0 k1) v occ = sumB ((List.range (F * R)).filter fun g => !(hitL F (F * R) c g y v).isEmpty) := by
  have hsz := size_le hS
  rw [sumB_mask (List.Pairwise.filter _ List.nodup_range)]
  apply Nat.eq_of_testBit_eq
  intro g
  unfold covN
  rw [cov_fold, testBit_mask, Nat.zero_testBit, Bool.false_or, Bool.eq_iff_iff]
  simp only [decide_eq_true_eq, List.mem_filter, List.mem_range, List.any_eq_true, bitsL_mem, Nat.testBit_and]
  constructor
  · rintro ⟨k, hk, s, ⟨hs, hb⟩, hp⟩
    have hb : ((kdJ c (F * R) k).testBit s && (sdJ c (F * R) v).testBit s) = true := hb
    rw [kd_bit, sd_bit] at hb
    simp only [Bool.and_eq_true, decide_eq_true_eq, beq_iff_eq] at hb
    obtain ⟨⟨h1, h2, h3⟩, _, _, h4⟩ := hb
    have hp : (pieceN F R v k s occ).testBit g = true := hp
    have hg : g < F * R := by
      apply Classical.byContradiction
      intro hn
      rw [piece_lt hS h1 hn] at hp; cases hp
    refine ⟨hg, ?_⟩
    have hm : Man (c s) := by
      rcases hw s h1 with h0 | hm
      · rw [h0] at h2; exact absurd h2 (by decide)
      · exact hm
    have := piece_bit hS h1 hg ho hm
    rw [h3, h4, hp] at this
    have hmem : s ∈ hitL F (F * R) c g y v := hitL_mem.mpr ⟨h1, by rw [h2, h4, ← this]; simp⟩
    cases hL : hitL F (F * R) c g y v with
    | nil => rw [hL] at hmem; cases hmem
    | cons a r => rfl
  · rintro ⟨hg, hne⟩
    cases hL : hitL F (F * R) c g y v with
    | nil => rw [hL] at hne; cases hne
    | cons s r =>
      have hmem : s ∈ hitL F (F * R) c g y v := by rw [hL]; exact .head _
      obtain ⟨h1, h2⟩ := hitL_mem.mp hmem
      simp only [Bool.and_eq_true, beq_iff_eq] at h2
      obtain ⟨⟨h3, h4⟩, h5⟩ := h2
      have hm : Man (c s) := by
        rcases hw s h1 with h0 | hm
        · rw [h0] at h3; exact absurd h3 (by decide)
        · exact hm
      have := piece_bit hS h1 hg ho hm
      rw [h4, h5] at this
      refine ⟨c s % 8, ?_, s, ⟨by (first | lia | omega), ?_⟩, this⟩
      · obtain ⟨a1, a2, _⟩ := hm
        have : c s % 8 = 1 ∨ c s % 8 = 2 ∨ c s % 8 = 3 ∨ c s % 8 = 4 ∨ c s % 8 = 5 ∨ c s % 8 = 6 := by (first | lia | omega)
        simp only [List.mem_cons, List.not_mem_nil, or_false]
        exact this
      · show ((kdJ c (F * R) (c s % 8)).testBit s && (sdJ c (F * R) v).testBit s) = true
        rw [kd_bit, sd_bit, decide_eq_true h1, h3, h4]; simp
end
section
set_option maxRecDepth 100000
set_option linter.unusedSimpArgs false
set_option linter.unusedVariables false
set_option linter.unusedSectionVars false
theorem pow_of : ∀ x : Nat, x ≠ 0 → x &&& (x - 1) = 0 → ∃ k, x = 2 ^ k := by
  intro x
  induction x using Nat.strongRecOn with
  | _ x ih =>
    intro h0 h
    have e3 : (x &&& (x - 1)) / 2 = x / 2 &&& (x - 1) / 2 := Nat.and_div_two
    rw [h] at e3
    rcases Nat.mod_two_eq_zero_or_one x with hx | hx
    · have hy : (x - 1) / 2 = x / 2 - 1 := by (first | lia | omega)
      rw [hy] at e3
      obtain ⟨k, hk⟩ := ih (x / 2) (by (first | lia | omega)) (by (first | lia | omega)) (by (first | lia | omega))
      exact ⟨k + 1, by rw [Nat.pow_succ]; (first | lia | omega)⟩
    · have hy : (x - 1) / 2 = x / 2 := by (first | lia | omega)
      rw [hy, Nat.and_self] at e3
      exact ⟨0, by (first | lia | omega)⟩
theorem pow_and (k : Nat) : 2 ^ k &&& (2 ^ k - 1) = 0 := by
  rw [Nat.and_two_pow_sub_one_eq_mod, Nat.mod_self]
theorem range_cut {N : Nat} (hN : N ≤ 20) (p : Nat → Bool) (h : ∀ t, ¬ t < N → p t = false) : (List.range 20).filter p = (List.range N).filter p := by
  obtain ⟨m, hm⟩ : ∃ m, 20 = N + m := ⟨20 - N, by (first | lia | omega)⟩
  rw [hm, List.range_add, List.filter_append]
  have : ((List.range m).map fun x => N + x).filter p = [] := by
    rw [List.filter_eq_nil_iff]
    intro a ha
    rw [List.mem_map] at ha
    obtain ⟨x, _, rfl⟩ := ha
    rw [h _ (by (first | lia | omega))]; simp
  rw [this, List.append_nil]
section
variable {F R : Nat} {c : Nat → Nat} {side k0 k1 : Nat} (hS : (F, R) ∈ shapes) (hw : WFc (F * R) c)
include hS hw
theorem snip_bit {v : Nat} (hv : v < 2) (hk : (wo F R c side k0 k1).kq v < F * R) (t : Nat) : (snipN (wo F R c side k0 k1) v).testBit t = decide (t ∈ snipL F (F * R) c ((wo F R c side k0 k1).kq v) v) := by
  have e := line_bit (side := side) (k0 := k0) (k1 := k1) hS hw hk (oc_zero (N := F * R)) t
  have e2 : snipN (wo F R c side k0 k1) v = lineN (wo F R c side k0 k1) ((wo F R c side k0 k1).kq v) 0 &&& sdJ c (F * R) (1 - v) := rfl
  rw [e2, Nat.testBit_and, e, sd_bit]
  rw [Bool.eq_iff_iff]
  unfold snipL
  simp only [Bool.and_eq_true, decide_eq_true_eq, List.mem_filter, hitL_mem, beq_iff_eq, Bool.or_eq_true, List.contains_cons, List.contains_nil, Bool.or_false]
  constructor
  · rintro ⟨⟨h1, h2, h3, h4⟩, _, _, h5⟩
    refine ⟨⟨h1, ⟨h2, h5⟩, h4⟩, ?_⟩
    (first | lia | omega)
  · rintro ⟨⟨h1, ⟨h2, h5⟩, h4⟩, h3⟩
    refine ⟨⟨h1, h2, ?_, h4⟩, h1, h2, h5⟩
    (first | lia | omega)
theorem snip_list {v : Nat} (hv : v < 2) (hk : (wo F R c side k0 k1).kq v < F * R) : bitsL (snipN (wo F R c side k0 k1) v) = snipL F (F * R) c ((wo F R c side k0 k1).kq v) v := by
  have hsz := size_le hS
  unfold bitsL
  rw [range_cut hsz.1]
  · have e : ∀ t ∈ List.range (F * R), (snipN (wo F R c side k0 k1) v).testBit t = (c t != 0 && c t / 8 == 1 - v && hitB F (c t) t ((wo F R c side k0 k1).kq v) (fun _ => 0) && [3, 4, 5].contains (c t % 8)) := by
      intro t ht
      have ht : t < F * R := by simpa using ht
      rw [snip_bit hS hw hv hk, Bool.eq_iff_iff]
      unfold snipL
      simp only [decide_eq_true_eq, List.mem_filter, hitL_mem, Bool.and_eq_true]
      exact ⟨fun h => ⟨h.1.2, h.2⟩, fun h => ⟨⟨ht, h.1⟩, h.2⟩⟩
    rw [List.filter_congr e]
    unfold snipL hitL
    rw [List.filter_filter]
    congr 1
    funext t
    rw [Bool.and_comm]
  · intro t ht
    rw [snip_bit hS hw hv hk, decide_eq_false]
    intro h
    unfold snipL at h
    rw [List.mem_filter] at h
    exact ht (hitL_lt h.1)
/-- what the walk along the snipers keeps -/
structure Kept (F R : Nat) (c : Nat → Nat) (X : List Nat × List Nat) (x : Nat × Nat) : Prop where
  n1 : X.1.Nodup
  n2 : X.2.Nodup
  m1 : ∀ q ∈ X.1, q < F * R ∧ c q ≠ 0
  e : x = (mask X.1, mask X.2)
theorem snip_line {v t : Nat} (h : t ∈ snipL F (F * R) c ((wo F R c side k0 k1).kq v) v) : t < F * R ∧ c t ≠ 0 ∧ lineB F t ((wo F R c side k0 k1).kq v) 5 = true := by
  unfold snipL at h
  rw [List.mem_filter, hitL_mem] at h
  simp only [Bool.and_eq_true, beq_iff_eq, bne_iff_ne] at h
  obtain ⟨⟨h1, ⟨h2, _⟩, h3⟩, h4⟩ := h
  refine ⟨h1, h2, ?_⟩
  have h4 : c t % 8 = 3 ∨ c t % 8 = 4 ∨ c t % 8 = 5 := by
    simp only [List.contains_cons, List.contains_nil, Bool.or_false, Bool.or_eq_true, beq_iff_eq] at h4
    exact h4
  rw [hit_sl h4] at h3
  unfold slB at h3
  rw [Bool.and_eq_true] at h3
  exact line5 h3.1
theorem ins_eq {v t : Nat} (hv : v < 2) (hk : (wo F R c side k0 k1).kq v < F * R) (h : t ∈ snipL F (F * R) c ((wo F R c side k0 k1).kq v) v) :
    betwN F R ((wo F R c side k0 k1).kq v) t &&& (occN (wo F R c side k0 k1) ^^^ snipN (wo F R c side k0 k1) v) = mask (metL F (F * R) c ((wo F R c side k0 k1).kq v) (snipL F (F * R) c ((wo F R c side k0 k1).kq v) v) t) := by
  obtain ⟨ht, _, hl⟩ := snip_line hS hw h
  have hb := bt_check (F, R) hS _ hk t ht
  unfold btChk at hb
  rw [hl] at hb
  simp only [Bool.not_true, Bool.false_or, beq_iff_eq] at hb
  rw [hb]
  apply Nat.eq_of_testBit_eq
  intro q
  rw [Nat.testBit_and, Nat.testBit_xor, testBit_mask, testBit_mask, snip_bit hS hw hv hk]
  unfold metL
  simp only [List.mem_filter, List.mem_range]
  by_cases hq : q < F * R
  · rw [oc_occ (side := side) (k0 := k0) (k1 := k1) hw q hq]
    rw [Bool.eq_iff_iff]
    simp only [hq, true_and, Bool.and_eq_true, decide_eq_true_eq, Bool.not_eq_true', List.contains_eq_mem, decide_eq_false_iff_not]
    by_cases hm : q ∈ snipL F (F * R) c ((wo F R c side k0 k1).kq v) v
    · have := (snip_line hS hw hm).2.1
      simp [hm, this]
    · simp [hm]; exact and_comm
  · simp [hq]
theorem block_step {v t : Nat} (hv : v < 2) (hk : (wo F R c side k0 k1).kq v < F * R) (h : t ∈ snipL F (F * R) c ((wo F R c side k0 k1).kq v) v) {X : List Nat × List Nat} {x : Nat × Nat} (K : Kept F R c X x) (ht : t ∉ X.2) :
    Kept F R c (heldS F (F * R) c ((wo F R c side k0 k1).kq v) v (snipL F (F * R) c ((wo F R c side k0 k1).kq v) v) X t) (blockStep (wo F R c side k0 k1) v t x) := by
  have hi := ins_eq hS hw hv hk h
  have hi : betwN (wo F R c side k0 k1).F (wo F R c side k0 k1).R ((wo F R c side k0 k1).kq v) t &&& (occN (wo F R c side k0 k1) ^^^ snipN (wo F R c side k0 k1) v) = mask (metL F (F * R) c ((wo F R c side k0 k1).kq v) (snipL F (F * R) c ((wo F R c side k0 k1).kq v) v) t) := hi
  unfold heldS blockStep
  simp only [hi]
  have hmem : ∀ q ∈ metL F (F * R) c ((wo F R c side k0 k1).kq v) (snipL F (F * R) c ((wo F R c side k0 k1).kq v) v) t, q < F * R ∧ c q ≠ 0 := by
    intro q hq
    unfold metL at hq
    rw [List.mem_filter, List.mem_range] at hq
    simp only [Bool.and_eq_true, bne_iff_ne] at hq
    exact ⟨hq.1, hq.2.1.1⟩
  have hnd : (metL F (F * R) c ((wo F R c side k0 k1).kq v) (snipL F (F * R) c ((wo F R c side k0 k1).kq v) v) t).Nodup := by
    unfold metL; exact List.Pairwise.filter _ List.nodup_range
  generalize metL F (F * R) c ((wo F R c side k0 k1).kq v) (snipL F (F * R) c ((wo F R c side k0 k1).kq v) v) t = M at hmem hnd
  match M, hmem, hnd with
  | [], _, _ =>
    rw [if_neg (by simp [mask])]
    exact K
  | a :: b :: r, _, hnd =>
    rw [if_neg]
    · exact K
    · rintro ⟨h0, h1⟩
      obtain ⟨k, hk⟩ := pow_of _ h0 h1
      have ta : (mask (a :: b :: r)).testBit a = true := by rw [testBit_mask]; simp
      have tb : (mask (a :: b :: r)).testBit b = true := by rw [testBit_mask]; simp
      rw [hk, Nat.testBit_two_pow] at ta tb
      have ta := of_decide_eq_true ta
      have tb := of_decide_eq_true tb
      rw [List.nodup_cons] at hnd
      exact hnd.1 (by rw [← ta, tb]; simp)
  | [q], hmem, _ =>
    have e1 : mask [q] = 2 ^ q := by simp [mask]
    rw [e1]
    rw [if_pos ⟨by have := Nat.two_pow_pos q; (first | lia | omega), pow_and q⟩]
    obtain ⟨hq1, hq2⟩ := hmem q (by simp)
    have hx := K.e
    subst hx
    have hsd : (2 ^ q &&& (wo F R c side k0 k1).sd v ≠ 0) ↔ (c q / 8 == v) = true := by
      rw [ne_zero_iff]
      constructor
      · rintro ⟨i, hi⟩
        rw [Nat.testBit_and, Nat.testBit_two_pow, Bool.and_eq_true, decide_eq_true_eq] at hi
        obtain ⟨rfl, hi⟩ := hi
        have hi : (sdJ c (F * R) v).testBit q = true := hi
        rw [sd_bit] at hi
        simp only [Bool.and_eq_true] at hi
        exact hi.2.2
      · intro hv
        refine ⟨q, ?_⟩
        rw [Nat.testBit_and, Nat.testBit_two_pow]
        have : (sdJ c (F * R) v).testBit q = true := by
          rw [sd_bit, decide_eq_true hq1, hv]; simpa using hq2
        show (_ && (sdJ c (F * R) v).testBit q) = true
        rw [this]; simp
    refine ⟨?_, ?_, ?_, ?_⟩
    · simp only [heldM]
      split
      · exact K.n1
      · rename_i hn
        rw [List.nodup_append]
        refine ⟨K.n1, by simp, ?_⟩
        intro a ha b hb e
        simp only [List.mem_singleton] at hb
        subst hb; subst e
        exact hn (by simpa using ha)
    · simp only [heldM]
      split
      · rw [List.nodup_append]
        refine ⟨K.n2, by simp, ?_⟩
        intro a ha b hb e
        simp only [List.mem_singleton] at hb
        subst hb; subst e
        exact ht ha
      · exact K.n2
    · simp only [heldM]
      intro a ha
      split at ha
      · exact K.m1 a ha
      · rw [List.mem_append, List.mem_singleton] at ha
        rcases ha with ha | rfl
        · exact K.m1 a ha
        · exact ⟨hq1, hq2⟩
    · simp only [heldM]
      have p1 : mask X.1 ||| 2 ^ q = mask (if X.1.contains q = true then X.1 else X.1 ++ [q]) := by
        split
        · rename_i hc
          apply Nat.eq_of_testBit_eq
          intro i
          rw [Nat.testBit_or, Nat.testBit_two_pow, testBit_mask]
          by_cases hi : q = i
          · subst hi
            have : q ∈ X.1 := by simpa using hc
            simp [this]
          · simp [hi]
        · rw [mask_snoc]
      have p2 : (if 2 ^ q &&& (wo F R c side k0 k1).sd v ≠ 0 then mask X.2 ||| 2 ^ t else mask X.2) = mask (if (c q / 8 == v) = true then X.2 ++ [t] else X.2) := by
        by_cases hc : (c q / 8 == v) = true
        · rw [if_pos (hsd.mpr hc), if_pos hc, mask_snoc]
        · rw [if_neg (fun h => hc (hsd.mp h)), if_neg hc]
      rw [p1, p2]
theorem heldM_sub {v t : Nat} {X : List Nat × List Nat} {M : List Nat} {a : Nat} (h : a ∈ (heldM c v X t M).2) : a ∈ X.2 ∨ a = t := by
  unfold heldM at h
  split at h
  · simp only at h
    split at h
    · rw [List.mem_append, List.mem_singleton] at h; exact h
    · exact .inl h
  · exact .inl h
theorem block_go {v : Nat} (hv : v < 2) (hk : (wo F R c side k0 k1).kq v < F * R) : ∀ (L : List Nat) (X : List Nat × List Nat) (x : Nat × Nat), (∀ t ∈ L, t ∈ snipL F (F * R) c ((wo F R c side k0 k1).kq v) v) → L.Nodup → (∀ t ∈ L, t ∉ X.2) → Kept F R c X x →
    Kept F R c (L.foldl (heldS F (F * R) c ((wo F R c side k0 k1).kq v) v (snipL F (F * R) c ((wo F R c side k0 k1).kq v) v)) X) (L.foldl (fun x t => blockStep (wo F R c side k0 k1) v t x) x)
  | [], X, x, _, _, _, K => K
  | t :: L, X, x, hm, hn, hx, K => by
    rw [List.nodup_cons] at hn
    rw [List.foldl_cons, List.foldl_cons]
    refine block_go hv hk L _ _ (fun a ha => hm a (by simp [ha])) hn.2 ?_ (block_step hS hw hv hk (hm t (by simp)) K (hx t (by simp)))
    intro a ha h2
    rcases heldM_sub hS hw h2 with h | h
    · exact hx a (by simp [ha]) h
    · subst h; exact hn.1 ha
theorem block_kept {v : Nat} (hv : v < 2) (hk : (wo F R c side k0 k1).kq v < F * R) : Kept F R c (heldP F (F * R) c ((wo F R c side k0 k1).kq v) v) (blockN (wo F R c side k0 k1) v) := by
  unfold heldP blockN
  rw [snip_list hS hw hv hk]
  refine block_go hS hw hv hk _ _ _ (fun t ht => ht) ?_ (fun t _ => by simp) ⟨by simp, by simp, by simp, rfl⟩
  unfold snipL
  exact List.Pairwise.filter _ (hitL_nodup ..)
theorem block_eq {v : Nat} (hv : v < 2) (hk : (wo F R c side k0 k1).kq v < F * R) : (blockN (wo F R c side k0 k1) v).1 = sumB (heldP F (F * R) c ((wo F R c side k0 k1).kq v) v).1 ∧ (blockN (wo F R c side k0 k1) v).2 = sumB (heldP F (F * R) c ((wo F R c side k0 k1).kq v) v).2 := by
  have K := block_kept (side := side) (k0 := k0) (k1 := k1) hS hw hv hk
  rw [K.e, sumB_mask K.n1, sumB_mask K.n2]
  exact ⟨rfl, rfl⟩
theorem pinned_eq {v : Nat} (hv : v < 2) (hk : (wo F R c side k0 k1).kq v < F * R) : (blockN (wo F R c side k0 k1) v).1 &&& sdJ c (F * R) v = sumB ((heldP F (F * R) c ((wo F R c side k0 k1).kq v) v).1.filter fun q => c q / 8 == v) := by
  have K := block_kept (side := side) (k0 := k0) (k1 := k1) hS hw hv hk
  rw [K.e, sumB_mask (List.Pairwise.filter _ K.n1)]
  apply Nat.eq_of_testBit_eq
  intro q
  rw [Nat.testBit_and, testBit_mask, testBit_mask, sd_bit, Bool.eq_iff_iff]
  simp only [Bool.and_eq_true, decide_eq_true_eq, List.mem_filter]
  constructor
  · rintro ⟨h1, _, _, h2⟩; exact ⟨h1, h2⟩
  · rintro ⟨h1, h2⟩
    obtain ⟨a1, a2⟩ := K.m1 q h1
    exact ⟨h1, a1, by simpa using a2, h2⟩
end
end
section
set_option maxRecDepth 100000
set_option linter.unusedSimpArgs false
set_option linter.unusedVariables false
noncomputable def restI : List Int := [3, 1, 16, 8, 32, 0, 11, 8, 11, 0, 11, 9]
noncomputable def intsO (L : List Int) : O := .list (L.map V.int)
theorem rest_c (n : Nat) {h : Hp} {Q : VQ} (hq : Q (.ref h.length) (h ++ [intsO restI])) : wF (n + 30) 42 [] h Q := by
  rw [wF42]; unfold b42
  walk_at "es"
  exact hq
@[irreducible] noncomputable def t3 : List S := b48.drop 3
theorem b48_3 : b48 = b48.take 3 ++ t3 := by unfold t3; rfl
theorem ints_get {h : Hp} {k : Nat} {L : List Int} (e : h[k]? = some (intsO L)) {i : Nat} {t : Int} (hi : i < 900) (ht : L[i]? = some t) : getV h (.ref k) (.int i) = some (.int t) := by
  unfold getV intsO at *
  simp only [e]
  rw [if_pos (by simp; omega)]
  simp [ht]
theorem fmod_ex (x : Int) {m : Nat} (hm : 0 < m) : ∃ r : Nat, r < m ∧ x.fmod m = r := by
  refine ⟨(x.fmod m).toNat, ?_, ?_⟩
  · have h1 := Int.fmod_nonneg_of_pos x (b := m) (by omega)
    have h2 := Int.fmod_lt_of_pos x (b := m) (by omega)
    omega
  · have h1 := Int.fmod_nonneg_of_pos x (b := m) (by omega)
    omega
noncomputable def nones : Nat → Lc → Lc | 0, r => r | n + 1, r => none :: nones n r
theorem take_e {h : Hp} {k : Nat} {xs : List Int} {u : Nat} (e : h[k]? = some (.clist (xs.map V.int))) (hl : xs.length ≤ 900) : takeV h (.ref k) (.int u) = some (.ref h.length, h ++ [intsO (xs.take u)]) := by
  unfold takeV seqOf intsO
  simp only [e]
  rw [if_pos (by simp; omega)]
  simp [List.map_take]
theorem drop_e {h : Hp} {k : Nat} {xs : List Int} {u : Nat} (e : h[k]? = some (intsO xs)) (hl : xs.length ≤ 900) : dropV h (.ref k) (.int u) = some (.ref h.length, h ++ [intsO (xs.drop u)]) := by
  unfold intsO at *
  unfold dropV seqOf
  simp only [e]
  rw [if_pos (by simp; omega)]
  simp [List.map_drop]
theorem add_e {h : Hp} {j k : Nat} {xs ys : List Int} (e1 : h[j]? = some (intsO xs)) (e2 : h[k]? = some (intsO ys)) (hl : xs.length + ys.length ≤ 900) : binV .Add h (.ref j) (.ref k) = some (.ref h.length, h ++ [intsO (xs ++ ys)]) := by
  unfold intsO at *
  unfold binV
  simp only [e1, e2]
  rw [if_pos (by simp; omega)]
  simp
theorem len_e {h : Hp} {k : Nat} {xs : List Int} {Q : VQ} (e : h[k]? = some (intsO xs)) (hl : xs.length ≤ 900) (H : Q (.int xs.length) h) : wI .len h [.ref k] Q := by
  unfold intsO at e
  refine wI_len e (by simp; omega) ?_
  rw [List.length_map]; exact H
noncomputable def loc1 (F R : Nat) (r : Lc) : Lc := some (.ref 7) :: some (.ref 11) :: some (.int F) :: some (.int R) :: r
theorem segA1 (n : Nat) {xs : List Int} (hx : xs.length ≤ 63) {Q : VQ}
    (hq : ∀ h S F R, base0 <+: h → h.length = 12 → h[11]? = some (intsO S) → 12 ≤ S.length → S.length ≤ 20 → (F, R) ∈ shapes →
      wXs (n + 300) t3 [some (.ref 7), some (.ref 11), some (.int (F : Nat)), some (.int (R : Nat)), none, none, none, none, none, none, none, none, none, none, none, none, none, none, none, none, none, none, none, none] h (fun r _ h => Q (retV r) h)) :
    wF (n + 304) 48 [.ref 7] (base0 ++ [.clist (xs.map V.int)]) Q := by
  rw [wF48, b48_3]; unfold b48
  simp only [List.take, List.cons_append, List.nil_append]
  generalize hh : base0 ++ [.clist (xs.map V.int)] = h
  have e7 : h[7]? = some (.clist (xs.map V.int)) := by subst hh; rfl
  have l7 : h.length = 8 := by subst hh; rfl
  have p7 : base0 <+: h := by subst hh; exact pre_app _ _
  refine wXs_cons ?_
  refine wX_assV rfl ?_
  refine wE_sliceTo ?_
  walk_at "es"
  refine ⟨_, _, take_e (u := 20) e7 (by omega), ?_⟩
  rw [l7]
  generalize hh2 : h ++ [intsO (xs.take 20)] = h2
  have e8 : h2[8]? = some (intsO (xs.take 20)) := by subst hh2; rw [← l7]; exact get_last _ _
  have l8 : h2.length = 9 := by subst hh2; simp [l7]
  have p8 : base0 <+: h2 := by subst hh2; exact p7.trans (pre_app _ _)
  refine wR_next ?_
  refine wXs_cons ?_
  refine wX_assV rfl ?_
  refine wE_bin ?_
  refine wE_var rfl ?_
  refine wE_sliceFrom ?_
  walk_at "es"
  refine rest_c _ ?_
  rw [l8]
  generalize hh3 : h2 ++ [intsO restI] = h3
  have e9 : h3[9]? = some (intsO restI) := by subst hh3; rw [← l8]; exact get_last _ _
  have e8' : h3[8]? = some (intsO (xs.take 20)) := by subst hh3; exact get_app (pre_app _ _) e8
  have l9 : h3.length = 10 := by subst hh3; simp [l8]
  have p9 : base0 <+: h3 := by subst hh3; exact p8.trans (pre_app _ _)
  walk_at "es"
  refine len_e e8' (by simp; omega) ?_
  refine ⟨_, _, drop_e (u := (xs.take 20).length) e9 (by decide), ?_⟩
  rw [l9]
  generalize hk : (xs.take 20).length = k at *
  generalize hh4 : h3 ++ [intsO (restI.drop k)] = h4
  have e10 : h4[10]? = some (intsO (restI.drop k)) := by subst hh4; rw [← l9]; exact get_last _ _
  have e8'' : h4[8]? = some (intsO (xs.take 20)) := by subst hh4; exact get_app (pre_app _ _) e8'
  have l10 : h4.length = 11 := by subst hh4; simp [l9]
  have p10 : base0 <+: h4 := by subst hh4; exact p9.trans (pre_app _ _)
  have hr : restI.length = 12 := rfl
  have hk2 : k ≤ 20 := by rw [← hk, List.length_take]; omega
  refine wB_val (add_e e8'' e10 (by rw [List.length_drop, hk, hr]; omega)) ?_
  rw [l10]
  generalize hS : xs.take 20 ++ restI.drop k = S
  have s1 : 12 ≤ S.length := by rw [← hS, List.length_append, List.length_drop, hk, hr]; omega
  have s2 : S.length ≤ 20 := by rw [← hS, List.length_append, List.length_drop, hk, hr]; omega
  generalize hh5 : h4 ++ [intsO S] = h5
  have e11 : h5[11]? = some (intsO S) := by subst hh5; rw [← l10]; exact get_last _ _
  have l11 : h5.length = 12 := by subst hh5; simp [l10]
  have p11 : base0 <+: h5 := by subst hh5; exact p10.trans (pre_app _ _)
  refine wR_next ?_
  refine wXs_cons ?_
  refine wX_assVs ?_
  have g0 : getV h5 (.ref 11) (.int 0) = some (.int S[0]) := ints_get (i := 0) e11 (by decide) (List.getElem?_eq_getElem _)
  obtain ⟨r, hr4, hre⟩ := fmod_ex S[0] (m := 4) (by decide)
  walk_at "es"
  have hre' : Int.fmod S[0] 4 = (r : Int) := hre
  rw [hre']
  have key : ∃ F R : Nat, (F, R) ∈ shapes ∧ getV h5 (.ref 2) (.int r) = some (.ref (3 + r)) ∧ h5[3 + r]? = some (.tup [.int F, .int R]) := by
    match r, hr4 with
    | 0, _ => exact ⟨4, 4, by decide, getV_app p11 rfl, get_app p11 rfl⟩
    | 1, _ => exact ⟨3, 5, by decide, getV_app p11 rfl, get_app p11 rfl⟩
    | 2, _ => exact ⟨5, 4, by decide, getV_app p11 rfl, get_app p11 rfl⟩
    | 3, _ => exact ⟨4, 5, by decide, getV_app p11 rfl, get_app p11 rfl⟩
  obtain ⟨F, R, hFR, g2, g3⟩ := key
  refine ⟨_, g2, ?_⟩
  refine ⟨_, _, _, rfl, g3, rfl, ?_⟩
  refine wR_next ?_
  exact hq h5 S F R p11 l11 e11 s1 s2 hFR
end
section
set_option maxRecDepth 100000
set_option linter.unusedSimpArgs false
set_option linter.unusedVariables false
@[irreducible] noncomputable def t9 : List S := b48.drop 9
@[irreducible] noncomputable def t10 : List S := b48.drop 10
theorem t3_9 : t3 = (b48.drop 3).take 6 ++ t9 := by unfold t9 t3; rfl
noncomputable def bFill : List S := [(.assign (.var 7) (.bin .Mod (.bin .Add (.bin .Add (.var 7) (.cst (.int 1))) (.sub (.var 1) (.var 8))) (.var 4))), (.assign (.var 9) (.bin .Add (.cst (.int 1)) (.bin .Mod (.sub (.var 1) (.bin .Add (.var 8) (.cst (.int 1)))) (.cst (.int 5))))), (.iff (.boolE .And [(.cmp (.sub (.var 5) (.var 7)) [.Eq] [(.cst (.int 0))]), (.boolE .Or [(.cmp (.var 9) [.Gt] [(.cst (.int 1))]), (.cmp (.cst (.int 0)) [.Lt, .Lt] [(.bin .FloorDiv (.var 7) (.var 2)), (.bin .Sub (.var 3) (.cst (.int 1)))])])]) [(.assign (.sub (.var 5) (.var 7)) (.bin .Add (.var 9) (.bin .Mult (.cst (.int 8)) (.bin .Mod (.bin .FloorDiv (.sub (.var 1) (.bin .Add (.var 8) (.cst (.int 1)))) (.cst (.int 5))) (.cst (.int 2))))))] [])]
theorem t9_10 : t9 = (.for 8 (.bi .range [(.cst (.int 6)), (.bin .Sub (.bi .len [(.var 1)]) (.cst (.int 1))), (.cst (.int 2))]) bFill) :: t10 := by unfold t9 t10; rfl
structure Cel (N : Nat) (c : Nat → Nat) (k0 k1 : Nat) : Prop where
  l0 : k0 < N
  l1 : k1 < N
  ne : k0 ≠ k1
  c0 : c k0 = 6
  c1 : c k1 = 14
  cs : ∀ t, t < N → t ≠ k0 → t ≠ k1 → c t = 0 ∨ (1 ≤ c t % 8 ∧ c t % 8 ≤ 5 ∧ c t < 16)
theorem Cel.upd {N c k0 k1} (C : Cel N c k0 k1) {a v : Nat} (ha : c a = 0) (h1 : 1 ≤ v % 8) (h2 : v % 8 ≤ 5) (h3 : v < 16) : Cel N (upd c a v) k0 k1 := by
  have e0 : k0 ≠ a := by rintro rfl; rw [C.c0] at ha; cases ha
  have e1 : k1 ≠ a := by rintro rfl; rw [C.c1] at ha; cases ha
  refine ⟨C.l0, C.l1, C.ne, ?_, ?_, ?_⟩
  · unfold Mine.upd; rw [if_neg e0]; exact C.c0
  · unfold Mine.upd; rw [if_neg e1]; exact C.c1
  · intro t ht t0 t1
    unfold Mine.upd
    split
    · exact .inr ⟨h1, h2, h3⟩
    · exact C.cs t ht t0 t1
noncomputable def jsL (L : Nat) : List Nat := (List.range ((L - 6) / 2)).map fun i => 6 + 2 * i
theorem rngS {L : Nat} (h1 : 12 ≤ L) (h2 : L ≤ 20) : rngOk 6 ((L : Int) - 1) 2 = true ∧ rngItems 6 ((L : Int) - 1) 2 = (jsL L).map (fun j : Nat => V.int (j : Int)) ∧ ∀ j ∈ jsL L, j + 1 < L := by
  have : L = 12 ∨ L = 13 ∨ L = 14 ∨ L = 15 ∨ L = 16 ∨ L = 17 ∨ L = 18 ∨ L = 19 ∨ L = 20 := by (first | lia | omega)
  rcases this with rfl | rfl | rfl | rfl | rfl | rfl | rfl | rfl | rfl <;> exact ⟨by decide, rfl, by decide⟩
structure FI (h : Hp) (S : List Int) (N : Nat) (c : Nat → Nat) (k0 k1 : Nat) : Prop where
  pre : base0 <+: h
  len : h.length = 16
  s : h[11]? = some (intsO S)
  cc : h[13]? = some (arr N c)
  k : h[14]? = some (nats [k0, k1])
  cel : Cel N c k0 k1
theorem FI.set {h S N} {c : Nat → Nat} {k0 k1 : Nat} (I : FI h S N c k0 k1) {c' : Nat → Nat} (C : Cel N c' k0 k1) : FI (h.set 13 (arr N c')) S N c' k0 k1 :=
  ⟨pre_set _ I.pre (by decide), by rw [List.length_set]; exact I.len, get_set_ne (by decide) I.s, set_eq _ (lt_of_get I.cc), get_set_ne (by decide) I.k, C⟩
noncomputable def sStore : S := (.assign (.sub (.var 5) (.var 7)) (.bin .Add (.var 9) (.bin .Mult (.cst (.int 8)) (.bin .Mod (.bin .FloorDiv (.sub (.var 1) (.bin .Add (.var 8) (.cst (.int 1)))) (.cst (.int 5))) (.cst (.int 2))))))
theorem fill_store (n : Nat) {h : Hp} {S : List Int} {F R : Nat} (hS : (F, R) ∈ shapes) {c : Nat → Nat} {k0 k1 r j : Nat} (I : FI h S (F * R) c k0 k1) (hr : r < F * R) (hj : j + 1 < S.length) (hl : S.length ≤ 20) (hz : c r = 0) {Q : RQ}
    (hq : ∀ h' c', FI h' S (F * R) c' k0 k1 → Q .next [some (.ref 7), some (.ref 11), some (.int (F : Nat)), some (.int (R : Nat)), some (.int (F * R : Nat)), some (.ref 13), some (.ref 14), some (.int (r : Nat)), some (.int (j : Nat)), some (.int (1 + S[j + 1].fmod 5)), none, none, none, none, none, none, none, none, none, none, none, none, none, none] h') :
    wX (n + 50) sStore [some (.ref 7), some (.ref 11), some (.int (F : Nat)), some (.int (R : Nat)), some (.int (F * R : Nat)), some (.ref 13), some (.ref 14), some (.int (r : Nat)), some (.int (j : Nat)), some (.int (1 + S[j + 1].fmod 5)), none, none, none, none, none, none, none, none, none, none, none, none, none, none] h Q := by
  have hsz := size_le hS
  have ej : ((j : Int) + 1) = ((j + 1 : Nat) : Int) := rfl
  have g2 : getV h (.ref 11) (.int (j + 1 : Nat)) = some (.int S[j + 1]) := ints_get I.s (by (first | lia | omega)) (List.getElem?_eq_getElem _)
  obtain ⟨r5, hr5, er5⟩ := fmod_ex S[j + 1] (m := 5) (by decide)
  obtain ⟨r2, hr2, er2⟩ := fmod_ex (S[j + 1].fdiv 5) (m := 2) (by decide)
  have er5' : S[j + 1].fmod 5 = (r5 : Int) := er5
  have er2' : (S[j + 1].fdiv 5).fmod 2 = (r2 : Int) := er2
  have m8 : (8 : Int).natAbs < 2 ^ 64 := by decide
  have mr : (r2 : Int).natAbs < 2 ^ 64 := by (first | lia | omega)
  unfold sStore
  refine wX_assS ?_
  walk_at "es"
  rw [ej]
  refine ⟨_, g2, ?_⟩
  walk_at "es"
  rw [er2']
  walk_at "es"
  have ev : (1 : Int) + S[j + 1].fmod 5 + 8 * (r2 : Int) = ((1 + r5 + 8 * r2 : Nat) : Int) := by rw [er5']; (first | lia | omega)
  rw [ev]
  refine ⟨_, arr_set I.cc (le9 hsz.1) hr, ?_⟩
  exact hq _ _ (I.set (I.cel.upd hz (v := 1 + r5 + 8 * r2) (by (first | lia | omega)) (by (first | lia | omega)) (by (first | lia | omega))))
theorem fill_body (n : Nat) {h : Hp} {S : List Int} {F R : Nat} (hS : (F, R) ∈ shapes) {c : Nat → Nat} {k0 k1 a j : Nat} {x9 : Option V} (I : FI h S (F * R) c k0 k1) (ha : a < F * R) (hj : j + 1 < S.length) (hl : S.length ≤ 20) {Q : RQ}
    (hq : ∀ h' c' a x9, FI h' S (F * R) c' k0 k1 → a < F * R → Q .next [some (.ref 7), some (.ref 11), some (.int (F : Nat)), some (.int (R : Nat)), some (.int (F * R : Nat)), some (.ref 13), some (.ref 14), some (.int (a : Nat)), some (.int (j : Nat)), x9, none, none, none, none, none, none, none, none, none, none, none, none, none, none] h') :
    wXs (n + 60) bFill [some (.ref 7), some (.ref 11), some (.int (F : Nat)), some (.int (R : Nat)), some (.int (F * R : Nat)), some (.ref 13), some (.ref 14), some (.int (a : Nat)), some (.int (j : Nat)), x9, none, none, none, none, none, none, none, none, none, none, none, none, none, none] h Q := by
  have hF := F_ok hS
  have hsz := size_le hS
  have f0 : ((F * R : Nat) : Int) ≠ 0 := by (first | lia | omega)
  have f1 : (F : Int) ≠ 0 := by (first | lia | omega)
  have f2 : (F : Int).natAbs < 1073741824 := by (first | lia | omega)
  have ej : ((j : Int) + 1) = ((j + 1 : Nat) : Int) := rfl
  have g1 : getV h (.ref 11) (.int j) = some (.int S[j]) := ints_get I.s (by (first | lia | omega)) (List.getElem?_eq_getElem _)
  have g2 : getV h (.ref 11) (.int (j + 1 : Nat)) = some (.int S[j + 1]) := ints_get I.s (by (first | lia | omega)) (List.getElem?_eq_getElem _)
  obtain ⟨r, hr, er⟩ := fmod_ex (((a : Int) + 1) + S[j]) (m := F * R) hsz.2
  obtain ⟨r5, hr5, er5⟩ := fmod_ex S[j + 1] (m := 5) (by decide)
  obtain ⟨r2, hr2, er2⟩ := fmod_ex (S[j + 1].fdiv 5) (m := 2) (by decide)
  have er5' : S[j + 1].fmod 5 = (r5 : Int) := er5
  have er2' : (S[j + 1].fdiv 5).fmod 2 = (r2 : Int) := er2
  have gc := arr_get I.cc (le9 hsz.1) hr
  unfold bFill
  refine wXs_cons ?_
  walk_at "es"
  rw [er, ej]
  refine ⟨_, g2, ?_⟩
  walk_at "es"
  all_goals first
    | exact hq h c r (some (.int _)) I hr
    | skip
  all_goals
    have hz : c r = 0 := by
      have : ((c r : Int) == 0) = true := by assumption
      simp at this; (first | lia | omega)
    refine fill_store _ hS I hr hj hl hz ?_
    intro h' c' I'
    walk_at "es"
    exact hq _ _ r (some (.int _)) I' hr
theorem fill_loop (n : Nat) {h : Hp} {S : List Int} {F R : Nat} (hS : (F, R) ∈ shapes) {c : Nat → Nat} {k0 k1 a : Nat} (I0 : base0 <+: h) (I1 : h.length = 15) (I2 : h[11]? = some (intsO S)) (I3 : h[13]? = some (arr (F * R) c)) (I4 : h[14]? = some (nats [k0, k1])) (I5 : Cel (F * R) c k0 k1)
    (ha : a < F * R) (hl0 : 12 ≤ S.length) (hl : S.length ≤ 20) {Q : RQ}
    (hq : ∀ h' c x7 x8 x9, FI h' S (F * R) c k0 k1 → wXs (n + 80) t10 [some (.ref 7), some (.ref 11), some (.int (F : Nat)), some (.int (R : Nat)), some (.int (F * R : Nat)), some (.ref 13), some (.ref 14), x7, x8, x9, none, none, none, none, none, none, none, none, none, none, none, none, none, none] h' Q) :
    wXs (n + 81) t9 [some (.ref 7), some (.ref 11), some (.int (F : Nat)), some (.int (R : Nat)), some (.int (F * R : Nat)), some (.ref 13), some (.ref 14), some (.int (a : Nat)), none, none, none, none, none, none, none, none, none, none, none, none, none, none, none, none] h Q := by
  obtain ⟨r1, r2, r3⟩ := rngS hl0 hl
  rw [t9_10]
  refine wXs_cons ?_
  refine wX_forI ?_
  walk_at "es"
  refine len_e I2 (by (first | lia | omega)) ?_
  walk_at "es"
  refine wI_range3 r1 ?_
  refine ⟨_, src_rng (get_last _ _) r1, rfl, ?_⟩
  rw [r2]
  have J : FI (h ++ [.rng 6 ((S.length : Int) - 1) 2]) S (F * R) c k0 k1 := ⟨I0.trans (pre_app _ _), by simp [I1], get_app (pre_app _ _) I2, get_app (pre_app _ _) I3, get_app (pre_app _ _) I4, I5⟩
  refine wLo_inv (fun j l h2 => ∃ (c : Nat → Nat) (a : Nat) (x8 x9 : Option V), FI h2 S (F * R) c k0 k1 ∧ a < F * R ∧ l = [some (.ref 7), some (.ref 11), some (.int (F : Nat)), some (.int (R : Nat)), some (.int (F * R : Nat)), some (.ref 13), some (.ref 14), some (.int (a : Nat)), x8, x9, none, none, none, none, none, none, none, none, none, none, none, none, none, none]) _ 0 _ _ ⟨c, a, none, none, J, ha, rfl⟩ ?_ ?_
  · rintro i l h2 hi ⟨c, a, x8, x9, J, ha, rfl⟩
    have hi : i < (jsL S.length).length := by simpa using hi
    rw [List.getElem_map]
    have hj := r3 _ (List.getElem_mem hi)
    generalize (jsL S.length)[i] = j at hj
    refine fill_body _ hS J ha hj hl ?_
    intro h' c' a' x9' J' ha'
    exact wR_next ⟨c', a', some (.int j), x9', J', ha', rfl⟩
  · rintro l h2 ⟨c, a, x8, x9, J, ha, rfl⟩
    refine wR_next ?_
    exact hq _ _ _ _ _ J
end
section
set_option maxRecDepth 100000
set_option linter.unusedSimpArgs false
set_option linter.unusedVariables false
theorem segA2 (n : Nat) {h : Hp} {S : List Int} {F R : Nat} (hS : (F, R) ∈ shapes) (I0 : base0 <+: h) (I1 : h.length = 12) (I2 : h[11]? = some (intsO S)) (hl0 : 12 ≤ S.length) (hl : S.length ≤ 20) {Q : RQ}
    (hq : ∀ h' c k0 k1 x7 x8 x9, FI h' S (F * R) c k0 k1 → wXs (n + 80) t10 [some (.ref 7), some (.ref 11), some (.int (F : Nat)), some (.int (R : Nat)), some (.int (F * R : Nat)), some (.ref 13), some (.ref 14), x7, x8, x9, none, none, none, none, none, none, none, none, none, none, none, none, none, none] h' Q) : wXs (n + 87) t3 [some (.ref 7), some (.ref 11), some (.int (F : Nat)), some (.int (R : Nat)), none, none, none, none, none, none, none, none, none, none, none, none, none, none, none, none, none, none, none, none] h Q := by
  have hF := F_ok hS
  have hsz := size_le hS
  have hN : 12 ≤ F * R := by
    simp only [shapes, List.mem_cons, Prod.mk.injEq, List.not_mem_nil, or_false] at hS
    rcases hS with ⟨rfl, rfl⟩ | ⟨rfl, rfl⟩ | ⟨rfl, rfl⟩ | ⟨rfl, rfl⟩ <;> decide
  have m1 : (F : Int).natAbs < 2 ^ 64 := by (first | lia | omega)
  have m2 : (R : Int).natAbs < 2 ^ 64 := by (first | lia | omega)
  have f0 : ((F * R : Nat) : Int) ≠ 0 := by (first | lia | omega)
  have f1 : ((F * R : Nat) : Int) - 1 ≠ 0 := by (first | lia | omega)
  rw [t3_9]; unfold b48
  simp only [List.take, List.drop, List.cons_append, List.nil_append]
  refine wXs_cons ?_
  walk_at "e"
  walk_at "es"
  have e0 : (F : Int) * (R : Int) = ((F * R : Nat) : Int) := by rw [Int.natCast_mul]
  rw [e0]
  walk_at "es"
  refine wB_rep (get_last _ _) (le9 hsz.1) ?_
  generalize hh : h ++ [O.list [V.int 0]] ++ [arr (F * R) fun _ => 0] = h2
  have e1 : (h ++ [O.list [V.int 0]]).length = 13 := by simp [I1]
  rw [e1]
  have a0 : base0 <+: h2 := by subst hh; exact I0.trans ((pre_app _ _).trans (pre_app _ _))
  have a1 : h2.length = 14 := by subst hh; simp [I1]
  have a2 : h2[11]? = some (intsO S) := by subst hh; exact get_app ((pre_app _ _).trans (pre_app _ _)) I2
  have a3 : h2[13]? = some (arr (F * R) fun _ => 0) := by subst hh; rw [← e1]; exact get_last _ _
  have g1 : getV h2 (.ref 11) (.int 1) = some (.int S[1]) := ints_get (i := 1) a2 (by decide) (List.getElem?_eq_getElem _)
  have g2 : getV h2 (.ref 11) (.int 2) = some (.int S[2]) := ints_get (i := 2) a2 (by decide) (List.getElem?_eq_getElem _)
  obtain ⟨k0, hk0, ek0⟩ := fmod_ex S[1] (m := F * R) hsz.2
  obtain ⟨r, hr, er⟩ := fmod_ex S[2] (m := F * R - 1) (by (first | lia | omega))
  have er' : S[2].fmod (((F * R : Nat) : Int) - 1) = (r : Int) := by
    rw [← er]; congr 1; (first | lia | omega)
  have f2 : (((F * R : Nat) : Int) - 1) ≠ 0 := f1
  walk_at "es"
  rw [ek0, er']
  have ek1 : ((k0 : Int) + 1 + (r : Int)).fmod ((F * R : Nat) : Int) = (((k0 + 1 + r) % (F * R) : Nat) : Int) := by
    have : (k0 : Int) + 1 + (r : Int) = ((k0 + 1 + r : Nat) : Int) := by (first | lia | omega)
    rw [this, fmod_n]
  rw [ek1]
  have hk1 : (k0 + 1 + r) % (F * R) < F * R := Nat.mod_lt _ hsz.2
  have hne : k0 ≠ (k0 + 1 + r) % (F * R) := by
    by_cases hlt : k0 + 1 + r < F * R
    · rw [Nat.mod_eq_of_lt hlt]; (first | lia | omega)
    · rw [Nat.mod_eq_sub_mod (by (first | lia | omega)), Nat.mod_eq_of_lt (by (first | lia | omega))]; (first | lia | omega)
  generalize (k0 + 1 + r) % (F * R) = k1 at hk1 hne
  rw [a1]
  generalize hh3 : h2 ++ [O.list [V.int k0, V.int k1]] = h3
  have b0 : base0 <+: h3 := by subst hh3; exact a0.trans (pre_app _ _)
  have b1 : h3.length = 15 := by subst hh3; simp [a1]
  have b2 : h3[11]? = some (intsO S) := by subst hh3; exact get_app (pre_app _ _) a2
  have b3 : h3[13]? = some (arr (F * R) fun _ => 0) := by subst hh3; exact get_app (pre_app _ _) a3
  have b4 : h3[14]? = some (nats [k0, k1]) := by subst hh3; rw [← a1]; exact get_last _ _
  have q0 : getV h3 (.ref 14) (.int 0) = some (.int k0) := nats_get b4 (i := 0) (by decide) rfl
  refine wX_assS ?_
  walk_at "es"
  refine ⟨_, arr_set (v := 6) b3 (by (first | lia | omega)) hk0, ?_⟩
  have c3 := set_eq (arr (F * R) (upd (fun _ => 0) k0 6)) (lt_of_get b3)
  have c4 := get_set_ne (x := arr (F * R) (upd (fun _ => 0) k0 6)) (j := 13) (by decide) b4
  have q1 : getV (h3.set 13 (arr (F * R) (upd (fun _ => 0) k0 6))) (.ref 14) (.int 1) = some (.int k1) := nats_get c4 (i := 1) (by decide) rfl
  refine wR_next ?_
  refine wXs_cons ?_
  refine wX_assS ?_
  walk_at "es"
  refine ⟨_, arr_set (v := 14) c3 (by (first | lia | omega)) hk1, ?_⟩
  have d4 := get_set_ne (x := arr (F * R) (upd (upd (fun _ => 0) k0 6) k1 14)) (j := 13) (by decide) c4
  have q2 : getV ((h3.set 13 (arr (F * R) (upd (fun _ => 0) k0 6))).set 13 (arr (F * R) (upd (upd (fun _ => 0) k0 6) k1 14))) (.ref 14) (.int 0) = some (.int k0) := nats_get d4 (i := 0) (by decide) rfl
  refine wR_next ?_
  refine wXs_cons ?_
  walk_at "es"
  refine fill_loop n hS (c := upd (upd (fun _ => 0) k0 6) k1 14) ?_ ?_ ?_ ?_ d4 ?_ hk0 hl0 hl fun h' c x7 x8 x9 J => hq _ _ _ _ _ _ _ J
  · exact pre_set _ (pre_set _ b0 (by decide)) (by decide)
  · rw [List.length_set, List.length_set]; exact b1
  · exact get_set_ne (by decide) (get_set_ne (by decide) b2)
  · exact set_eq _ (by rw [List.length_set]; (first | lia | omega))
  · refine ⟨hk0, hk1, hne, ?_, ?_, ?_⟩
    · unfold upd; rw [if_neg hne, if_pos rfl]
    · unfold upd; rw [if_pos rfl]
    · intro t ht t0 t1
      unfold upd; rw [if_neg t1, if_neg t0]; exact .inl rfl
end
section
set_option maxRecDepth 100000
set_option linter.unusedSimpArgs false
set_option linter.unusedVariables false
theorem mask_lt {L : List Nat} {N : Nat} (h : ∀ t ∈ L, t < N) : mask L < 2 ^ N := by
  induction L with
  | nil => exact Nat.two_pow_pos N
  | cons a r ih =>
    simp only [mask]
    exact Nat.or_lt_two_pow (Nat.pow_lt_pow_right (by decide) (h a (by simp))) (ih fun t ht => h t (by simp [ht]))
theorem Cel.wf {N : Nat} {c : Nat → Nat} {k0 k1 : Nat} (C : Cel N c k0 k1) : WFc N c := by
  intro t ht
  by_cases h0 : t = k0
  · subst h0; rw [C.c0]; exact .inr ⟨by decide, by decide, by decide⟩
  · by_cases h1 : t = k1
    · subst h1; rw [C.c1]; exact .inr ⟨by decide, by decide, by decide⟩
    · rcases C.cs t ht h0 h1 with h | ⟨a, b, d⟩
      · exact .inl h
      · exact .inr ⟨a, by (first | lia | omega), d⟩
theorem Cel.small {N : Nat} {c : Nat → Nat} {k0 k1 : Nat} (C : Cel N c k0 k1) : ∀ t, t < N → c t % 8 < 7 ∧ c t < 15 := by
  intro t ht
  by_cases h0 : t = k0
  · subst h0; rw [C.c0]; decide
  · by_cases h1 : t = k1
    · subst h1; rw [C.c1]; decide
    · rcases C.cs t ht h0 h1 with h | ⟨a, b, d⟩
      · rw [h]; decide
      · (first | lia | omega)
theorem Cel.king {N : Nat} {c : Nat → Nat} {k0 k1 : Nat} (C : Cel N c k0 k1) {v : Nat} (hv : v < 2) : sdJ c N v &&& kdJ c N 6 = 2 ^ (if v = 0 then k0 else k1) := by
  apply Nat.eq_of_testBit_eq
  intro t
  rw [Nat.testBit_and, sd_bit, kd_bit, Nat.testBit_two_pow, Bool.eq_iff_iff]
  simp only [Bool.and_eq_true, decide_eq_true_eq, beq_iff_eq, bne_iff_ne]
  constructor
  · rintro ⟨⟨ht, h1, h2⟩, _, _, h3⟩
    by_cases h0 : t = k0
    · subst h0
      rw [C.c0] at h2
      have : v = 0 := by (first | lia | omega)
      rw [if_pos this]
    · by_cases h1' : t = k1
      · subst h1'
        rw [C.c1] at h2
        have : v ≠ 0 := by (first | lia | omega)
        rw [if_neg this]
      · rcases C.cs t ht h0 h1' with h | ⟨a, b, d⟩
        · exact absurd h h1
        · (first | lia | omega)
  · intro h
    by_cases hv0 : v = 0
    · rw [if_pos hv0] at h
      subst h; subst hv0
      have := C.l0
      rw [C.c0]
      exact ⟨⟨this, by decide, by decide⟩, this, by decide, by decide⟩
    · rw [if_neg hv0] at h
      subst h
      have := C.l1
      rw [C.c1]
      exact ⟨⟨this, by decide, by (first | lia | omega)⟩, this, by decide, by decide⟩
theorem wd_of {h0 h : Hp} {F R : Nat} {c bd : Nat → Nat} {side k0 k1 : Nat} (hS : (F, R) ∈ shapes) (Z : Pre0 h0 F R) (P : PS h0 h (F * R) bd (kdJ c (F * R)) (sdJ c (F * R)) side) (C : Cel (F * R) c k0 k1) (hv : side < 2) :
    Wd (wo F R c side k0 k1) h where
  geo := Z.geo.app P.pre
  hS := hS
  pg := P.getA rfl
  pk := P.getA rfl
  ps := P.getA rfl
  pd := P.getA rfl
  k := fun i hi => arr_get P.k (by decide) hi
  s := fun i hi => arr_get P.s (by decide) hi
  hk := fun v hv => ⟨C.king hv, by show (if v = 0 then k0 else k1) < F * R; split; exact C.l0; exact C.l1⟩
  hv := hv
  hb := fun v hv => mask_lt fun t ht => by rw [List.mem_filter, List.mem_range] at ht; exact ht.1
theorem consK {α : Type} {l : List α} {n : Nat} {G : Prop} (h : l.length = n + 1) (k : ∀ a r, l = a :: r → r.length = n → G) : G := by
  cases l with
  | nil => exact absurd h.symm (Nat.succ_ne_zero n)
  | cons a r => exact k a r rfl (Nat.succ.inj h)
theorem h16_of {h : Hp} (p : base0 <+: h) (l : h.length = 16) : ∃ a b c d e f g i j, h = h16 a b c d e f g i j := by
  obtain ⟨t, rfl⟩ := p
  have : t.length = 9 := by
    rw [List.length_append] at l
    have : base0.length = 7 := rfl
    (first | lia | omega)
  refine consK this fun a r1 e1 this => ?_
  refine consK this fun b r2 e2 this => ?_
  refine consK this fun c r3 e3 this => ?_
  refine consK this fun d r4 e4 this => ?_
  refine consK this fun e r5 e5 this => ?_
  refine consK this fun f r6 e6 this => ?_
  refine consK this fun g r7 e7 this => ?_
  refine consK this fun i r8 e8 this => ?_
  refine consK this fun j r9 e9 this => ?_
  exact ⟨a, b, c, d, e, f, g, i, j, by rw [e1, e2, e3, e4, e5, e6, e7, e8, e9, List.length_eq_zero_iff.mp this]; rfl⟩
@[irreducible] noncomputable def t15 : List S := b48.drop 15
theorem t10_15 : t10 = [.assign (.var 10) newX, sPut, (.assign (.attr (.var 10) 19) (.bin .Mod (.sub (.var 1) (.cst (.int 5))) (.cst (.int 2)))), (.assign (.var 12) (.bin .Mod (.sub (.var 1) (.cst (.int 3))) (.var 4))), (.assign (.var 13) (.bin .Mod (.sub (.var 1) (.cst (.int 4))) (.bin .LShift (.cst (.int 1)) (.var 4))))] ++ t15 := by
  unfold t10 t15; rfl
theorem segD1 (n : Nat) {h : Hp} {S : List Int} {F R : Nat} (hS : (F, R) ∈ shapes) {c : Nat → Nat} {k0 k1 : Nat} {x7 x8 x9 : Option V} (I : FI h S (F * R) c k0 k1) (hl0 : 12 ≤ S.length) {Q : RQ}
    (hq : ∀ h' side tg tu y, Wd (wo F R c side k0 k1) h' → h'[13]? = some (arr (F * R) c) → h'[14]? = some (nats [k0, k1]) → tg < F * R → wXs (n + 200) t15 [some (.ref 7), some (.ref 11), some (.int (F : Nat)), some (.int (R : Nat)), some (.int (F * R : Nat)), some (.ref 13), some (.ref 14), x7, x8, x9, some (.ref 77), y, some (.int (tg : Nat)), some (.int (tu : Nat)), none, none, none, none, none, none, none, none, none, none] h' Q) :
    wXs (n + 205) t10 [some (.ref 7), some (.ref 11), some (.int (F : Nat)), some (.int (R : Nat)), some (.int (F * R : Nat)), some (.ref 13), some (.ref 14), x7, x8, x9, none, none, none, none, none, none, none, none, none, none, none, none, none, none] h Q := by
  have hsz := size_le hS
  have f0 : ((F * R : Nat) : Int) ≠ 0 := by (first | lia | omega)
  obtain ⟨a, b, d, e, f, g, i, j, k, hh⟩ := h16_of I.pre I.len
  subst hh
  rw [t10_15]
  simp only [List.cons_append, List.nil_append]
  refine wXs_cons ?_
  refine wX_assV rfl ?_
  refine new_c (n + 103) hS a b d e f g i j k rfl ?_
  intro h0 h1 Z p P
  have e11 := get_app p I.s
  have e13 := get_app p I.cc
  have e14 := get_app p I.k
  refine wR_next ?_
  refine wXs_cons ?_
  refine put_loop (n + 113) hS Z P e13 I.cel.small ?_
  intro h2 bd y P2
  refine wR_next ?_
  refine wXs_cons ?_
  refine wX_assA ?_
  have g5 : getV h2 (.ref 11) (.int 5) = some (.int S[5]) := ints_get (i := 5) (get_app P2.pre e11) (by decide) (List.getElem?_eq_getElem _)
  obtain ⟨side, hs2, es⟩ := fmod_ex S[5] (m := 2) (by decide)
  have es' : S[5].fmod 2 = (side : Int) := es
  walk_at "es"
  rw [es']
  refine ⟨_, P2.setSide side, ?_⟩
  have P3 := P2.setA Z.len side
  have W := wd_of hS Z P3 I.cel hs2
  generalize h2.set 76 (attO 0 side) = h3 at P3 W
  have e11' := get_app P3.pre e11
  have g3 : getV h3 (.ref 11) (.int 3) = some (.int S[3]) := ints_get (i := 3) e11' (by decide) (List.getElem?_eq_getElem _)
  have g4 : getV h3 (.ref 11) (.int 4) = some (.int S[4]) := ints_get (i := 4) e11' (by decide) (List.getElem?_eq_getElem _)
  obtain ⟨tg, ht, et⟩ := fmod_ex S[3] (m := F * R) hsz.2
  obtain ⟨tu, hu, eu⟩ := fmod_ex S[4] (m := 2 ^ (F * R)) (Nat.two_pow_pos _)
  have f1 : ((2 ^ (F * R) : Nat) : Int) ≠ 0 := by have := Nat.two_pow_pos (F * R); (first | lia | omega)
  refine wR_next ?_
  refine wXs_cons ?_
  walk_at "es"
  rw [et]
  walk_at "es"
  refine wB_shl (by (first | lia | omega)) (by (first | lia | omega)) (by decide) ?_
  rw [shl1]
  walk_at "es"
  rw [eu]
  exact hq h3 side tg tu y W (get_app P3.pre e13) (get_app P3.pre e14) ht
end
section
set_option maxRecDepth 100000
set_option linter.unusedSimpArgs false
set_option linter.unusedVariables false
noncomputable def lyN (c : Nat → Nat) (tu t : Nat) : Nat := (if c t ≠ 0 then 1 else 0) ^^^ (if tu.testBit t then 1 else 0)
theorem filterMap_some (N : Nat) (y : Nat → Nat) : ((List.range N).map fun t : Nat => V.int (t : Int)).filterMap (fun x => some (V.int ((y (nV x) : Nat) : Int))) = (List.range N).map fun s => V.int ((y s : Nat) : Int) := by
  rw [List.filterMap_map]
  induction (List.range N) with
  | nil => rfl
  | cons a r ih => simp [nV_n, ih]
theorem wE_comp2 {n elt iter caps l h} {Q : VQ} (H : wE n iter l h (fun it h1 => ∃ kt x0 x1, it = .ref kt ∧ h1[kt]? = some (.tup [x0, x1]) ∧
    wE n elt (caps.map (fun i => (l[i]?).join) ++ [some x0]) (h1 ++ [.list []]) (fun y0 a1 => (h1 ++ [.list []]) <+: a1 ∧
      wE n elt (caps.map (fun i => (l[i]?).join) ++ [some x1]) (a1.set h1.length (.list [y0])) (fun y1 a2 => (a1.set h1.length (.list [y0])) <+: a2 ∧ Q (.ref h1.length) (a2.set h1.length (.list [y0, y1])))))) :
    wE (n+1) (.comp elt iter [] caps) l h Q := by
  rw [wE_def, ev_comp, wp_bind]
  rw [wE_def] at H
  refine wp_mono H ?_
  rintro ⟨it, h1⟩ ⟨kt, x0, x1, e, et, H⟩
  simp only at e
  subst e
  rw [wE_def] at H
  simp only [src_tup et, Option.bind_some]
  rw [wp_bind]
  have p0 : h1 <+: h1 ++ [O.list []] := pre_app _ _
  have l0 := live_tup (get_app p0 et) 0
  have g0 := get_last h1 (O.list [])
  unfold loopOn
  simp only
  unfold loopL
  simp only [l0, List.getElem?_cons_zero, Option.bind_some]
  simp only [condsV, Option.bind_some, ↓reduceIte]
  rw [wp_bind, wp_bind]
  refine wp_mono H ?_
  rintro ⟨y0, a1⟩ ⟨p1, H⟩
  simp only at p1 H ⊢
  have g1 := get_app p1 g0
  have e1 : appV a1 (.ref h1.length) y0 = some (a1.set h1.length (.list ([] ++ [y0]))) := app_at g1 (by decide)
  rw [e1]
  simp only [Option.bind_some, wp_some, List.nil_append]
  have q1 : h1 <+: a1.set h1.length (.list [y0]) := pre_set _ (p0.trans p1) (Nat.le_refl _)
  have l1 := live_tup (get_app q1 et) 1
  unfold loopL
  simp only [l1, List.getElem?_cons_succ, List.getElem?_cons_zero, Option.bind_some]
  rw [wE_def] at H
  rw [wp_bind, wp_bind]
  refine wp_mono H ?_
  rintro ⟨y1, a2⟩ ⟨p2, H⟩
  simp only at p2 H ⊢
  have g2 := get_app p2 (set_eq (.list [y0]) (lt_of_get g1))
  have e2 : appV a2 (.ref h1.length) y1 = some (a2.set h1.length (.list ([y0] ++ [y1]))) := app_at g2 (by simp)
  rw [e2]
  simp only [Option.bind_some, wp_some, List.cons_append, List.nil_append]
  have q2 : h1 <+: a2.set h1.length (.list [y0, y1]) := pre_set _ (q1.trans p2) (Nat.le_refl _)
  have l2 := live_tup (get_app q2 et) 2
  unfold loopL
  simp only [l2, List.getElem?_cons_succ, List.getElem?_nil, Option.bind_some, wp_some]
  exact H
@[irreducible] noncomputable def t18 : List S := b48.drop 18
theorem t15_18 : t15 = (b48.drop 15).take 3 ++ t18 := by unfold t15 t18; rfl
theorem segE (n : Nat) {h : Hp} {F R : Nat} (hS : (F, R) ∈ shapes) {c : Nat → Nat} {k0 k1 side tg tu : Nat} {x7 x8 x9 y : Option V} (W : Wd (wo F R c side k0 k1) h) (hc : h[13]? = some (arr (F * R) c)) (hk : h[14]? = some (nats [k0, k1])) (ht : tg < F * R) {Q : RQ}
    (hq : ∀ h' kl kp j0 j1, Wd (wo F R c side k0 k1) h' → h'[13]? = some (arr (F * R) c) → h'[14]? = some (nats [k0, k1]) → h'[kp]? = some (.list [.ref j0, .ref j1]) →
      h'[j0]? = some (nats (hitL F (F * R) c tg (lyN c tu) 0)) → h'[j1]? = some (nats (hitL F (F * R) c tg (lyN c tu) 1)) → wXs (n + 150) t18 [some (.ref 7), some (.ref 11), some (.int (F : Nat)), some (.int (R : Nat)), some (.int (F * R : Nat)), some (.ref 13), some (.ref 14), x7, x8, x9, some (.ref 77), y, some (.int (tg : Nat)), some (.int (tu : Nat)), some (.ref kl), some (.int (sumB ((List.range (F * R)).filter fun t => lyN c tu t != 0) : Nat)), none, some (.ref kp), none, none, none, none, none, none] h' Q) :
    wXs (n + 153) t15 [some (.ref 7), some (.ref 11), some (.int (F : Nat)), some (.int (R : Nat)), some (.int (F * R : Nat)), some (.ref 13), some (.ref 14), x7, x8, x9, some (.ref 77), y, some (.int (tg : Nat)), some (.int (tu : Nat)), none, none, none, none, none, none, none, none, none, none] h Q := by
  have hsz := size_le hS
  obtain ⟨r1, r2⟩ := rngN hsz.1
  rw [t15_18]; unfold b48
  simp only [List.take, List.drop, List.cons_append, List.nil_append]
  refine wXs_cons ?_
  refine wX_assV rfl ?_
  refine wE_comp (fun x => some (.int ((lyN c tu (nV x) : Nat) : Int))) ?_
  walk_at "es"
  refine wI_range1 r1 ?_
  refine ⟨_, _, src_rng (get_last _ _) r1, rfl, rl9 r2 hsz.1, ?_, ?_⟩
  · rw [r2]
    intro x hx a pa
    rw [List.mem_map] at hx
    obtain ⟨t, ht, rfl⟩ := hx
    have ht : t < F * R := by simpa using ht
    have hct := arr_get (get_app ((pre_app _ _).trans pa) hc) (le9 hsz.1) ht
    refine wIt_nil ?_
    walk_at "es"
    · rename_i hz
      have hz := ne0 hz
      refine wB_shr (by (first | lia | omega)) ?_
      walk_at "es"
      rw [shr_bit]
      refine ⟨List.prefix_refl _, ?_⟩
      simp only [nV_n, lyN, if_pos hz]
      cases tu.testBit t <;> rfl
    · rename_i hz
      have hz := eq0 hz
      refine wB_shr (by (first | lia | omega)) ?_
      walk_at "es"
      rw [shr_bit]
      refine ⟨List.prefix_refl _, ?_⟩
      simp only [nV_n, lyN, hz]
      cases tu.testBit t <;> rfl
  · intro h2 kl p2 e2
    rw [r2, filterMap_some] at e2
    have e2 : h2[kl]? = some (arr (F * R) (lyN c tu)) := e2
    have p2 : h <+: h2 := (pre_app _ _).trans p2
    refine wR_next ?_
    refine wXs_cons ?_
    walk_at "es"
    refine wE_comp (fun x => if lyN c tu (nV x) != 0 then some x else none) ?_
    walk_at "es"
    refine wI_range1 r1 ?_
    refine ⟨_, _, src_rng (get_last _ _) r1, rfl, rl9 r2 hsz.1, ?_, ?_⟩
    · rw [r2]
      intro x hx a pa
      rw [List.mem_map] at hx
      obtain ⟨t, ht, rfl⟩ := hx
      have ht : t < F * R := by simpa using ht
      have hct := arr_get (get_app ((pre_app _ _).trans pa) e2) (le9 hsz.1) ht
      refine wIt_one ?_
      walk_at "es"
      · rename_i hz
        have hz := ne0 hz
        refine ⟨List.prefix_refl _, ?_⟩
        simp [nV_n, hz]
      · rename_i hz
        have hz := eq0 hz
        refine ⟨List.prefix_refl _, ?_⟩
        simp [nV_n, hz]
    · intro h3 k3 p3 e3
      rw [r2, filterMap_nats (List.range (F * R)) (fun t => lyN c tu t != 0)] at e3
      have p23 : h2 <+: h3 := (pre_app _ _).trans p3
      have p3 : h <+: h3 := p2.trans p23
      walk_at "es"
      refine bits_c _ (L := (List.range (F * R)).filter fun t => lyN c tu t != 0) e3 ?_ ?_ ?_
      · exact fl9 _ hsz.1
      · intro t ht
        rw [List.mem_filter, List.mem_range] at ht
        (first | lia | omega)
      have e2' := get_app p23 e2
      have hc3 := get_app p3 hc
      walk_at "es"
      refine wE_comp2 ?_
      walk_at "es"
      refine ⟨_, _, _, rfl, get_last _ _, ?_⟩
      have p4 : h3 <+: h3 ++ [O.tup [V.int 0, V.int 1]] := pre_app _ _
      generalize h3 ++ [O.tup [V.int 0, V.int 1]] = h4 at p4
      have p5 : h4 <+: h4 ++ [O.list []] := pre_app _ _
      walk_at "es"
      refine hitters_c (v := 0) _ hS ht (get_app (p4.trans p5) hc3) (get_app (p4.trans p5) e2') fun a1 j0 f1 pa1 ea1 => ?_
      refine ⟨pa1, ?_⟩
      have q1 : h4 <+: a1.set h4.length (.list [.ref j0]) := pre_set _ (p5.trans pa1) (Nat.le_refl _)
      have hj0 : h4.length ≠ j0 := by simp at f1; (first | lia | omega)
      have ea1' := get_set_ne (x := O.list [.ref j0]) hj0 ea1
      have hk1 : h4.length < a1.length := by have := (p5.trans pa1).length_le; have := pa1.length_le; simp at this; (first | lia | omega)
      generalize hb : a1.set h4.length (.list [.ref j0]) = b1 at q1 ea1'
      have hbl : h4.length < b1.length := by rw [← hb, List.length_set]; exact hk1
      walk_at "es"
      refine hitters_c (v := 1) _ hS ht (get_app (p4.trans q1) hc3) (get_app (p4.trans q1) e2') fun a2 j1 f2 pa2 ea2 => ?_
      refine ⟨pa2, ?_⟩
      have q2 : h4 <+: a2.set h4.length (.list [.ref j0, .ref j1]) := pre_set _ (q1.trans pa2) (Nat.le_refl _)
      have hj1 : h4.length ≠ j1 := by (first | lia | omega)
      have hk2 : h4.length < a2.length := by have := pa2.length_le; (first | lia | omega)
      have p6 := p4.trans q2
      walk_at "es"
      exact hq _ kl h4.length j0 j1 (W.app (p3.trans p6)) (get_app p6 hc3) (get_app (p3.trans p6) hk) (set_eq _ hk2) (get_set_ne hj0 (get_app pa2 ea1')) (get_set_ne hj1 ea2)
end
section
set_option maxRecDepth 100000
set_option linter.unusedSimpArgs false
set_option linter.unusedVariables false
structure EF (h : Hp) (F R : Nat) (c : Nat → Nat) (side k0 k1 tg tu kp : Nat) : Prop where
  W : Wd (wo F R c side k0 k1) h
  cc : h[13]? = some (arr (F * R) c)
  kv : ∀ v : Nat, v < 2 → getV h (.ref 14) (.int v) = some (.int ((wo F R c side k0 k1).kq v))
  pv : ∀ v : Nat, v < 2 → ∃ j, getV h (.ref kp) (.int v) = some (.ref j) ∧ h[j]? = some (nats (hitL F (F * R) c tg (lyN c tu) v))
theorem EF.app {h h' : Hp} {F R : Nat} {c : Nat → Nat} {side k0 k1 tg tu kp : Nat} (E : EF h F R c side k0 k1 tg tu kp) (p : h <+: h') : EF h' F R c side k0 k1 tg tu kp :=
  ⟨E.W.app p, get_app p E.cc, fun v hv => getV_app p (E.kv v hv), fun v hv => let ⟨j, a, b⟩ := E.pv v hv; ⟨j, getV_app p a, get_app p b⟩⟩
theorem wC_ne_eq {h : Hp} {a b : Int} {Q : Bool → Prop} (e : a = b) (H : Q false) : wC .NotEq h (.int a) (.int b) Q := by
  subst e; exact wC_val (c := false) (by simp [cmpV, eqV]) H
theorem wC_neb_eq {h : Hp} {a b : Bool} {Q : Bool → Prop} (e : a = b) (H : Q false) : wC .NotEq h (.bool a) (.bool b) Q := by
  subst e; exact wC_val (c := false) (by simp [cmpV, eqV]) H
theorem nil_beq (L : List Nat) : ((L.map fun s : Nat => (s : Int)) == []) = L.isEmpty := by cases L <;> rfl
theorem wC_neNil {h : Hp} {j k : Nat} {L : List Nat} {Q : Bool → Prop} (e : h[j]? = some (nats L)) (e2 : h[k]? = some (.list [])) (H : Q (!L.isEmpty)) : wC .NotEq h (.ref j) (.ref k) Q := by
  refine wC_val (c := !L.isEmpty) ?_ H
  simp only [cmpV, eqV, e, e2, nats, intsOf_nats, intsOf, Option.map_some]
  rw [nil_beq]
theorem wC_eqNil {h : Hp} {j k : Nat} {L : List Nat} {Q : Bool → Prop} (e : h[j]? = some (nats L)) (e2 : h[k]? = some (.list [])) (H : Q (L.isEmpty)) : wC .Eq h (.ref j) (.ref k) Q := by
  refine wC_val (c := L.isEmpty) ?_ H
  simp only [cmpV, eqV, e, e2, nats, intsOf_nats, intsOf]
  rw [nil_beq]
theorem wC_neTup {h : Hp} {j k : Nat} {a b c d : Int} {Q : Bool → Prop} (e : h[j]? = some (.tup [.int a, .int b])) (e2 : h[k]? = some (.tup [.int c, .int d])) (h1 : a = c) (h2 : b = d) (H : Q false) : wC .NotEq h (.ref j) (.ref k) Q := by
  subst h1; subst h2
  refine wC_val (c := false) ?_ H
  simp [cmpV, eqV, e, e2, intsOf]
theorem hitL_ok {F R c g y v} (hS : (F, R) ∈ shapes) : (hitL F (F * R) c g y v).length ≤ 900 ∧ ∀ t ∈ hitL F (F * R) c g y v, t ≤ 900 := by
  have hsz := size_le hS
  refine ⟨by have := hitL_len (F := F) (N := F * R) (c := c) (g := g) (y := y) (v := v); (first | lia | omega), fun t ht => ?_⟩
  have := hitL_lt ht
  (first | lia | omega)
noncomputable def sA : S := (.iff (.cmp (.call 30 [(.var 10), (.var 12), (.var 16), (.var 15)]) [.NotEq] [(.cmp (.sub (.var 17) (.var 16)) [.NotEq] [(.listE [])])]) [(.ret (.cst (.bool false)))] [])
theorem sA_c (n : Nat) {h : Hp} {F R : Nat} {c : Nat → Nat} {side k0 k1 tg tu kp kl occ v : Nat} {x7 x8 x9 y x18 x19 x20 : Option V} (hS : (F, R) ∈ shapes) (C : Cel (F * R) c k0 k1) (ho : Oc (F * R) occ (lyN c tu)) (ht : tg < F * R) (E : EF h F R c side k0 k1 tg tu kp) (hv : v < 2) {Q : RQ}
    (hq : ∀ h', h <+: h' → Q .next [some (.ref 7), some (.ref 11), some (.int (F : Nat)), some (.int (R : Nat)), some (.int (F * R : Nat)), some (.ref 13), some (.ref 14), x7, x8, x9, some (.ref 77), y, some (.int (tg : Nat)), some (.int (tu : Nat)), some (.ref kl), some (.int (occ : Nat)), some (.int (v : Nat)), some (.ref kp), x18, x19, x20, none, none, none] h') : wX (n + 150) sA [some (.ref 7), some (.ref 11), some (.int (F : Nat)), some (.int (R : Nat)), some (.int (F * R : Nat)), some (.ref 13), some (.ref 14), x7, x8, x9, some (.ref 77), y, some (.int (tg : Nat)), some (.int (tu : Nat)), some (.ref kl), some (.int (occ : Nat)), some (.int (v : Nat)), some (.ref kp), x18, x19, x20, none, none, none] h Q := by
  obtain ⟨j, g1, g2⟩ := E.pv v hv
  unfold sA
  walk_at "es"
  refine attacked_c _ E.W ht hv occ fun h1 p1 => ?_
  rw [attacked_eq hS C.wf ht ho v hv]
  have g1' := getV_app p1 g1
  walk_at "es"
  refine wC_neNil (get_app (p1.trans (pre_app _ _)) g2) (get_last _ _) ?_
  refine wC_neb_eq rfl ?_
  walk_at "es"
  exact hq _ (p1.trans (pre_app _ _))
noncomputable def sB : S := (.assign (.vars [18, 19]) (.call 47 [(.var 2), (.var 5), (.sub (.var 6) (.var 16)), (.var 16)]))
noncomputable def sC : S := (.iff (.cmp (.call 37 [(.var 10), (.var 16)]) [.NotEq] [(.tupE [(.call 45 [(.var 18)]), (.call 45 [(.var 19)])])]) [(.ret (.cst (.bool false)))] [])
theorem heldP_len {F R : Nat} {c : Nat → Nat} {k v : Nat} (hS : (F, R) ∈ shapes) : (heldP F (F * R) c k v).1.length ≤ 20 ∧ (heldP F (F * R) c k v).2.length ≤ 20 := by
  have hsz := size_le hS
  have key : ∀ (sn L : List Nat) (X : List Nat × List Nat), (L.foldl (heldS F (F * R) c k v sn) X).1.length ≤ X.1.length + L.length ∧ (L.foldl (heldS F (F * R) c k v sn) X).2.length ≤ X.2.length + L.length := by
    intro sn L
    induction L with
    | nil => intro X; exact ⟨Nat.le_refl _, Nat.le_refl _⟩
    | cons a r ih =>
      intro X
      obtain ⟨a1, a2⟩ := ih (heldS F (F * R) c k v sn X a)
      obtain ⟨b1, b2⟩ := heldS_len (F := F) (N := F * R) (c := c) (king := k) (v := v) (sn := sn) (x := X) (t := a)
      rw [List.foldl_cons, List.length_cons]
      (first | lia | omega)
  obtain ⟨a1, a2⟩ := key (snipL F (F * R) c k v) (snipL F (F * R) c k v) ([], [])
  have hl : (snipL F (F * R) c k v).length ≤ F * R := by
    unfold snipL
    exact Nat.le_trans (List.length_filter_le _ _) hitL_len
  unfold heldP
  simp only [List.length_nil] at a1 a2
  (first | lia | omega)
theorem heldP_lt {F R : Nat} {c : Nat → Nat} {k v : Nat} : (∀ q ∈ (heldP F (F * R) c k v).1, q < F * R) ∧ (∀ q ∈ (heldP F (F * R) c k v).2, q < F * R) := by
  have key : ∀ (sn L : List Nat) (X : List Nat × List Nat), (∀ t ∈ L, t < F * R) → (∀ q ∈ X.1, q < F * R) → (∀ q ∈ X.2, q < F * R) → (∀ q ∈ (L.foldl (heldS F (F * R) c k v sn) X).1, q < F * R) ∧ (∀ q ∈ (L.foldl (heldS F (F * R) c k v sn) X).2, q < F * R) := by
    intro sn L
    induction L with
    | nil => intro X _ h1 h2; exact ⟨h1, h2⟩
    | cons a r ih =>
      intro X hL h1 h2
      rw [List.foldl_cons]
      have hM : ∀ q ∈ metL F (F * R) c k sn a, q < F * R := by
        intro q hq
        unfold metL at hq
        rw [List.mem_filter, List.mem_range] at hq
        exact hq.1
      refine ih _ (fun t ht => hL t (by simp [ht])) ?_ ?_
      · intro q hq
        unfold heldS heldM at hq
        split at hq
        · rename_i q0 hm
          simp only at hq
          split at hq
          · exact h1 q hq
          · rw [List.mem_append, List.mem_singleton] at hq
            rcases hq with hq | rfl
            · exact h1 q hq
            · exact hM q (by rw [hm]; simp)
        · exact h1 q hq
      · intro q hq
        unfold heldS heldM at hq
        split at hq
        · simp only at hq
          split at hq
          · rw [List.mem_append, List.mem_singleton] at hq
            rcases hq with hq | rfl
            · exact h2 q hq
            · exact hL q (by simp)
          · exact h2 q hq
        · exact h2 q hq
  unfold heldP
  refine key _ _ _ ?_ (by simp) (by simp)
  intro t ht
  unfold snipL at ht
  rw [List.mem_filter] at ht
  exact hitL_lt ht.1
theorem sBC_c (n : Nat) {h : Hp} {F R : Nat} {c : Nat → Nat} {side k0 k1 tg tu kp kl occ v : Nat} {x7 x8 x9 y x18 x19 x20 : Option V} {r : List S} (hS : (F, R) ∈ shapes) (C : Cel (F * R) c k0 k1) (E : EF h F R c side k0 k1 tg tu kp) (hv : v < 2) {Q : RQ}
    (hq : ∀ h' ka kb, h <+: h' → h'[ka]? = some (nats (heldP F (F * R) c ((wo F R c side k0 k1).kq v) v).1) → wXs (n + 200) r [some (.ref 7), some (.ref 11), some (.int (F : Nat)), some (.int (R : Nat)), some (.int (F * R : Nat)), some (.ref 13), some (.ref 14), x7, x8, x9, some (.ref 77), y, some (.int (tg : Nat)), some (.int (tu : Nat)), some (.ref kl), some (.int (occ : Nat)), some (.int (v : Nat)), some (.ref kp), some (.ref ka), some (.ref kb), x20, none, none, none] h' Q) : wXs (n + 202) (sB :: sC :: r) [some (.ref 7), some (.ref 11), some (.int (F : Nat)), some (.int (R : Nat)), some (.int (F * R : Nat)), some (.ref 13), some (.ref 14), x7, x8, x9, some (.ref 77), y, some (.int (tg : Nat)), some (.int (tu : Nat)), some (.ref kl), some (.int (occ : Nat)), some (.int (v : Nat)), some (.ref kp), x18, x19, x20, none, none, none] h Q := by
  have hsz := size_le hS
  have hk := E.kv v hv
  have hkk := (E.W.hk v hv).2
  refine wXs_cons ?_
  unfold sB
  refine wX_assVs ?_
  walk_at "es"
  refine held_c _ hS hkk hv E.cc fun h1 k ka kb p1 e1 e2 e3 => ?_
  refine ⟨_, _, _, rfl, e1, rfl, ?_⟩
  refine wR_next ?_
  refine wXs_cons ?_
  unfold sC
  walk_at "es"
  refine blockers_c _ (E.W.app p1) hv fun h2 kt p2 et => ?_
  obtain ⟨l1, l2⟩ := heldP_len (F := F) (R := R) (c := c) (k := (wo F R c side k0 k1).kq v) (v := v) hS
  obtain ⟨b1, b2⟩ := heldP_lt (F := F) (R := R) (c := c) (k := (wo F R c side k0 k1).kq v) (v := v)
  obtain ⟨z1, z2⟩ := block_eq (side := side) (k0 := k0) (k1 := k1) hS C.wf hv hkk
  walk_at "es"
  refine bits_c _ (get_app p2 e2) (by (first | lia | omega)) (fun t ht => by have := b1 t ht; (first | lia | omega)) ?_
  walk_at "es"
  refine bits_c _ (get_app p2 e3) (by (first | lia | omega)) (fun t ht => by have := b2 t ht; (first | lia | omega)) ?_
  walk_at "es"
  refine wC_neTup (get_app (pre_app _ _) et) (get_last _ _) (by rw [z1]) (by rw [z2]) ?_
  walk_at "es"
  exact hq _ ka kb (p1.trans (p2.trans (pre_app _ _))) (get_app (p2.trans (pre_app _ _)) e2)
end
section
set_option maxRecDepth 100000
set_option linter.unusedSimpArgs false
set_option linter.unusedVariables false
noncomputable def sD : S := (.iff (.cmp (.call 38 [(.var 10), (.var 16)]) [.NotEq] [(.call 45 [(.comp (.var 2) (.var 18) [(.cmp (.bin .FloorDiv (.sub (.var 0) (.var 2)) (.cst (.int 8))) [.Eq] [(.var 1)])] [5, 16])])]) [(.ret (.cst (.bool false)))] [])
theorem sD_c (n : Nat) {h : Hp} {F R : Nat} {c : Nat → Nat} {side k0 k1 tg tu kp kl occ v ka kb : Nat} {x7 x8 x9 y x20 : Option V} (hS : (F, R) ∈ shapes) (C : Cel (F * R) c k0 k1) (E : EF h F R c side k0 k1 tg tu kp) (hv : v < 2)
    (ea : h[ka]? = some (nats (heldP F (F * R) c ((wo F R c side k0 k1).kq v) v).1)) {Q : RQ}
    (hq : ∀ h', h <+: h' → Q .next [some (.ref 7), some (.ref 11), some (.int (F : Nat)), some (.int (R : Nat)), some (.int (F * R : Nat)), some (.ref 13), some (.ref 14), x7, x8, x9, some (.ref 77), y, some (.int (tg : Nat)), some (.int (tu : Nat)), some (.ref kl), some (.int (occ : Nat)), some (.int (v : Nat)), some (.ref kp), some (.ref ka), some (.ref kb), x20, none, none, none] h') : wX (n + 190) sD [some (.ref 7), some (.ref 11), some (.int (F : Nat)), some (.int (R : Nat)), some (.int (F * R : Nat)), some (.ref 13), some (.ref 14), x7, x8, x9, some (.ref 77), y, some (.int (tg : Nat)), some (.int (tu : Nat)), some (.ref kl), some (.int (occ : Nat)), some (.int (v : Nat)), some (.ref kp), some (.ref ka), some (.ref kb), x20, none, none, none] h Q := by
  have hsz := size_le hS
  have hkk := (E.W.hk v hv).2
  obtain ⟨l1, _⟩ := heldP_len (F := F) (R := R) (c := c) (k := (wo F R c side k0 k1).kq v) (v := v) hS
  obtain ⟨b1, _⟩ := heldP_lt (F := F) (R := R) (c := c) (k := (wo F R c side k0 k1).kq v) (v := v)
  have z := pinned_eq (side := side) (k0 := k0) (k1 := k1) hS C.wf hv hkk
  unfold sD
  walk_at "es"
  refine pinned_c _ E.W hv fun h1 p1 => ?_
  walk_at "es"
  refine wE_comp (fun x => if c (nV x) / 8 == v then some x else none) ?_
  walk_at "es"
  refine ⟨_, _, src_list (get_app p1 ea), get_app p1 ea, by simp; omega, ?_, ?_⟩
  · intro x hx a pa
    rw [List.mem_map] at hx
    obtain ⟨t, ht, rfl⟩ := hx
    have ht := b1 t ht
    have hct := arr_get (get_app (p1.trans pa) E.cc) (le9 hsz.1) ht
    refine wIt_one ?_
    walk_at "es"
    · rename_i hz
      rw [fdiv8, beqN] at hz
      refine ⟨List.prefix_refl _, ?_⟩
      simp only [nV_n, hz, ↓reduceIte]
    · rename_i hz
      rw [fdiv8, beqN] at hz
      refine ⟨List.prefix_refl _, ?_⟩
      simp only [nV_n, hz]; rfl
  · intro h2 k2 p2 e2
    rw [filterMap_nats _ (fun t => c t / 8 == v)] at e2
    walk_at "es"
    refine bits_c _ (L := (heldP F (F * R) c ((wo F R c side k0 k1).kq v) v).1.filter fun t => c t / 8 == v) e2 ?_ ?_ ?_
    · exact Nat.le_trans (List.length_filter_le _ _) (by omega)
    · intro t ht
      rw [List.mem_filter] at ht
      have := b1 t ht.1; omega
    refine wC_ne_eq (by rw [← z]; rfl) ?_
    walk_at "es"
    exact hq _ (p1.trans p2)
noncomputable def sE : S := (.assign (.var 20) (.call 44 [(.var 2), (.var 5), (.sub (.var 6) (.var 16)), (.var 5), (.bin .Sub (.cst (.int 1)) (.var 16))]))
theorem sE_c (n : Nat) {h : Hp} {F R : Nat} {c : Nat → Nat} {side k0 k1 tg tu kp kl occ v : Nat} {x7 x8 x9 y x18 x19 x20 : Option V} (hS : (F, R) ∈ shapes) (E : EF h F R c side k0 k1 tg tu kp) (hv : v < 2) {Q : RQ}
    (hq : ∀ h' kg, h <+: h' → h'[kg]? = some (nats (hitL F (F * R) c ((wo F R c side k0 k1).kq v) c (1 - v))) → Q .next [some (.ref 7), some (.ref 11), some (.int (F : Nat)), some (.int (R : Nat)), some (.int (F * R : Nat)), some (.ref 13), some (.ref 14), x7, x8, x9, some (.ref 77), y, some (.int (tg : Nat)), some (.int (tu : Nat)), some (.ref kl), some (.int (occ : Nat)), some (.int (v : Nat)), some (.ref kp), x18, x19, some (.ref kg), none, none, none] h') : wX (n + 100) sE [some (.ref 7), some (.ref 11), some (.int (F : Nat)), some (.int (R : Nat)), some (.int (F * R : Nat)), some (.ref 13), some (.ref 14), x7, x8, x9, some (.ref 77), y, some (.int (tg : Nat)), some (.int (tu : Nat)), some (.ref kl), some (.int (occ : Nat)), some (.int (v : Nat)), some (.ref kp), x18, x19, x20, none, none, none] h Q := by
  have hk := E.kv v hv
  have hkk := (E.W.hk v hv).2
  unfold sE
  walk_at "es"
  rw [one_sub hv]
  refine hitters_c _ hS hkk E.cc E.cc fun h1 kg _ p1 e1 => ?_
  exact hq _ kg p1 e1
noncomputable def sF : S := (.iff (.cmp (.call 33 [(.var 10), (.var 16)]) [.NotEq] [(.cmp (.var 20) [.NotEq] [(.listE [])])]) [(.ret (.cst (.bool false)))] [])
noncomputable def sG : S := (.iff (.boolE .And [(.cmp (.var 16) [.NotEq] [(.attr (.var 10) 19)]), (.cmp (.call 35 [(.var 10)]) [.NotEq] [(.cmp (.var 20) [.Eq] [(.listE [])])])]) [(.ret (.cst (.bool false)))] [])
noncomputable def sH : S := (.iff (.boolE .And [(.cmp (.var 16) [.Eq] [(.attr (.var 10) 19)]), (.boolE .Or [(.cmp (.call 32 [(.var 10)]) [.NotEq] [(.call 45 [(.var 20)])]), (.cmp (.call 34 [(.var 10)]) [.NotEq] [(.cmp (.var 20) [.NotEq] [(.listE [])])])])]) [(.ret (.cst (.bool false)))] [])
section
variable (n : Nat) {h : Hp} {F R : Nat} {c : Nat → Nat} {side k0 k1 tg tu kp kl occ v kg : Nat} {x7 x8 x9 y x18 x19 : Option V} (hS : (F, R) ∈ shapes) (C : Cel (F * R) c k0 k1) (E : EF h F R c side k0 k1 tg tu kp) (hv : v < 2)
    (eg : h[kg]? = some (nats (hitL F (F * R) c ((wo F R c side k0 k1).kq v) c (1 - v)))) {Q : RQ}
    (hq : ∀ h', h <+: h' → Q .next [some (.ref 7), some (.ref 11), some (.int (F : Nat)), some (.int (R : Nat)), some (.int (F * R : Nat)), some (.ref 13), some (.ref 14), x7, x8, x9, some (.ref 77), y, some (.int (tg : Nat)), some (.int (tu : Nat)), some (.ref kl), some (.int (occ : Nat)), some (.int (v : Nat)), some (.ref kp), x18, x19, some (.ref kg), none, none, none] h')
include hS C E hv eg hq
theorem sF_c : wX (n + 190) sF [some (.ref 7), some (.ref 11), some (.int (F : Nat)), some (.int (R : Nat)), some (.int (F * R : Nat)), some (.ref 13), some (.ref 14), x7, x8, x9, some (.ref 77), y, some (.int (tg : Nat)), some (.int (tu : Nat)), some (.ref kl), some (.int (occ : Nat)), some (.int (v : Nat)), some (.ref kp), x18, x19, some (.ref kg), none, none, none] h Q := by
  have hkk := (E.W.hk v hv).2
  unfold sF
  walk_at "es"
  refine in_check_of_c _ E.W hv fun h1 p1 => ?_
  rw [in_check_eq hS C.wf hv hkk]
  walk_at "es"
  refine wC_neNil (get_app (p1.trans (pre_app _ _)) eg) (get_last _ _) ?_
  refine wC_neb_eq rfl ?_
  walk_at "es"
  exact hq _ (p1.trans (pre_app _ _))
theorem sG_c : wX (n + 190) sG [some (.ref 7), some (.ref 11), some (.int (F : Nat)), some (.int (R : Nat)), some (.int (F * R : Nat)), some (.ref 13), some (.ref 14), x7, x8, x9, some (.ref 77), y, some (.int (tg : Nat)), some (.int (tu : Nat)), some (.ref kl), some (.int (occ : Nat)), some (.int (v : Nat)), some (.ref kp), x18, x19, some (.ref kg), none, none, none] h Q := by
  have hkk := (E.W.hk v hv).2
  have hsd := E.W.hv
  have e0 : getA h (.ref 77) 19 = some (.int (side : Nat)) := E.W.pd
  unfold sG
  walk_at "es"
  · exact hq _ (List.prefix_refl _)
  · rename_i hc
    have hne : v ≠ side := by
      intro e
      subst e
      simp at hc
    have hsd : side < 2 := hsd
    have e1 : 1 - (wo F R c side k0 k1).side = v := by show 1 - side = v; omega
    refine quiet_c _ E.W fun h1 p1 => ?_
    rw [e1, in_check_eq hS C.wf hv hkk, Bool.not_not]
    walk_at "es"
    refine wC_eqNil (get_app (p1.trans (pre_app _ _)) eg) (get_last _ _) ?_
    refine wC_neb_eq rfl ?_
    walk_at "es"
    exact hq _ (p1.trans (pre_app _ _))
theorem sH_c : wX (n + 190) sH [some (.ref 7), some (.ref 11), some (.int (F : Nat)), some (.int (R : Nat)), some (.int (F * R : Nat)), some (.ref 13), some (.ref 14), x7, x8, x9, some (.ref 77), y, some (.int (tg : Nat)), some (.int (tu : Nat)), some (.ref kl), some (.int (occ : Nat)), some (.int (v : Nat)), some (.ref kp), x18, x19, some (.ref kg), none, none, none] h Q := by
  have hkk := (E.W.hk v hv).2
  have hsd := E.W.hv
  have e0 : getA h (.ref 77) 19 = some (.int (side : Nat)) := E.W.pd
  obtain ⟨l1, l2⟩ := hitL_ok (c := c) (g := (wo F R c side k0 k1).kq v) (y := c) (v := 1 - v) hS
  unfold sH
  walk_at "es"
  · exact hq _ (List.prefix_refl _)
  · rename_i hc
    have he : (wo F R c side k0 k1).side = v := by
      rw [beqN] at hc
      exact (beq_iff_eq.mp hc).symm
    refine checkers_c _ E.W fun h1 p1 => ?_
    rw [he, checkers_eq hS C.wf hv hkk]
    walk_at "es"
    refine bits_c _ (get_app p1 eg) l1 l2 ?_
    refine wC_ne_eq rfl ?_
    walk_at "es"
    refine in_check_c _ (E.W.app p1) fun h2 p2 => ?_
    rw [he, in_check_eq hS C.wf hv hkk]
    walk_at "es"
    refine wC_neNil (get_app ((p1.trans p2).trans (pre_app _ _)) eg) (get_last _ _) ?_
    refine wC_neb_eq rfl ?_
    walk_at "es"
    exact hq _ ((p1.trans p2).trans (pre_app _ _))
end
noncomputable def bLaw : List S := [sA, sB, sC, sD, sE, sF, sG, sH]
theorem body_c (n : Nat) {h : Hp} {F R : Nat} {c : Nat → Nat} {side k0 k1 tg tu kp kl occ v : Nat} {x7 x8 x9 y x18 x19 x20 : Option V} (hS : (F, R) ∈ shapes) (C : Cel (F * R) c k0 k1) (ho : Oc (F * R) occ (lyN c tu)) (ht : tg < F * R) (E : EF h F R c side k0 k1 tg tu kp) (hv : v < 2) {Q : RQ}
    (hq : ∀ h' x18 x19 x20, h <+: h' → Q .next [some (.ref 7), some (.ref 11), some (.int (F : Nat)), some (.int (R : Nat)), some (.int (F * R : Nat)), some (.ref 13), some (.ref 14), x7, x8, x9, some (.ref 77), y, some (.int (tg : Nat)), some (.int (tu : Nat)), some (.ref kl), some (.int (occ : Nat)), some (.int (v : Nat)), some (.ref kp), x18, x19, x20, none, none, none] h') : wXs (n + 210) bLaw [some (.ref 7), some (.ref 11), some (.int (F : Nat)), some (.int (R : Nat)), some (.int (F * R : Nat)), some (.ref 13), some (.ref 14), x7, x8, x9, some (.ref 77), y, some (.int (tg : Nat)), some (.int (tu : Nat)), some (.ref kl), some (.int (occ : Nat)), some (.int (v : Nat)), some (.ref kp), x18, x19, x20, none, none, none] h Q := by
  unfold bLaw
  refine wXs_cons ?_
  refine sA_c _ hS C ho ht E hv fun h1 p1 => ?_
  refine wR_next ?_
  refine sBC_c _ hS C (E.app p1) hv fun h2 ka kb p2 e2 => ?_
  have p2 := p1.trans p2
  refine wXs_cons ?_
  refine sD_c _ hS C (E.app p2) hv e2 fun h3 p3 => ?_
  have p3 := p2.trans p3
  refine wR_next ?_
  refine wXs_cons ?_
  refine sE_c _ hS (E.app p3) hv fun h4 kg p4 e4 => ?_
  have p4 := p3.trans p4
  refine wR_next ?_
  refine wXs_cons ?_
  refine sF_c _ hS C (E.app p4) hv e4 fun h5 p5 => ?_
  have e5 := get_app p5 e4
  have p5 := p4.trans p5
  refine wR_next ?_
  refine wXs_cons ?_
  refine sG_c _ hS C (E.app p5) hv e5 fun h6 p6 => ?_
  have e6 := get_app p6 e5
  have p6 := p5.trans p6
  refine wR_next ?_
  refine wXs_cons ?_
  refine sH_c _ hS C (E.app p6) hv e6 fun h7 p7 => ?_
  have p7 := p6.trans p7
  refine wR_next ?_
  refine wXs_nil ?_
  exact hq _ _ _ _ p7
end
section
set_option maxRecDepth 100000
set_option linter.unusedSimpArgs false
set_option linter.unusedVariables false
noncomputable def s18 : S := (.iff (.cmp (.call 29 [(.var 10), (.var 12), (.var 15)]) [.NotEq] [(.call 45 [(.bin .Add (.sub (.var 17) (.cst (.int 0))) (.sub (.var 17) (.cst (.int 1))))])]) [(.ret (.cst (.bool false)))] [])
noncomputable def s19 : S := (.for 16 (.tupE [(.cst (.int 0)), (.cst (.int 1))]) bLaw)
@[irreducible] noncomputable def t20 : List S := b48.drop 20
theorem t18_20 : t18 = s18 :: s19 :: t20 := by unfold t18 t20; rfl
theorem wC_eq_eq {h : Hp} {a b : Int} {Q : Bool → Prop} (e : a = b) (H : Q true) : wC .Eq h (.int a) (.int b) Q := by
  subst e; exact wC_val (c := true) (by simp [cmpV, eqV]) H
theorem add_nats {h : Hp} {j k : Nat} {xs ys : List Nat} (e1 : h[j]? = some (nats xs)) (e2 : h[k]? = some (nats ys)) (hl : xs.length + ys.length ≤ 900) : binV .Add h (.ref j) (.ref k) = some (.ref h.length, h ++ [nats (xs ++ ys)]) := by
  unfold nats at *
  unfold binV
  simp only [e1, e2]
  rw [if_pos (by simp; omega)]
  simp
theorem s18_c (n : Nat) {h : Hp} {F R : Nat} {c : Nat → Nat} {side k0 k1 tg tu kp kl occ : Nat} {x7 x8 x9 y : Option V} (hS : (F, R) ∈ shapes) (C : Cel (F * R) c k0 k1) (ho : Oc (F * R) occ (lyN c tu)) (ht : tg < F * R) (E : EF h F R c side k0 k1 tg tu kp) {Q : RQ}
    (hq : ∀ h', h <+: h' → Q .next [some (.ref 7), some (.ref 11), some (.int (F : Nat)), some (.int (R : Nat)), some (.int (F * R : Nat)), some (.ref 13), some (.ref 14), x7, x8, x9, some (.ref 77), y, some (.int (tg : Nat)), some (.int (tu : Nat)), some (.ref kl), some (.int (occ : Nat)), none, some (.ref kp), none, none, none, none, none, none] h') : wX (n + 150) s18 [some (.ref 7), some (.ref 11), some (.int (F : Nat)), some (.int (R : Nat)), some (.int (F * R : Nat)), some (.ref 13), some (.ref 14), x7, x8, x9, some (.ref 77), y, some (.int (tg : Nat)), some (.int (tu : Nat)), some (.ref kl), some (.int (occ : Nat)), none, some (.ref kp), none, none, none, none, none, none] h Q := by
  have hsz := size_le hS
  obtain ⟨j0, a0, b0⟩ := E.pv 0 (by decide)
  obtain ⟨j1, a1, b1⟩ := E.pv 1 (by decide)
  have la := hitL_len (F := F) (N := F * R) (c := c) (g := tg) (y := lyN c tu) (v := 0)
  have lb := hitL_len (F := F) (N := F * R) (c := c) (g := tg) (y := lyN c tu) (v := 1)
  unfold s18
  walk_at "es"
  refine attackers_c _ E.W ht occ fun h1 p1 => ?_
  rw [attackers_eq hS C.wf ht ho]
  have g0 : getV h1 (.ref kp) (.int 0) = some (.ref j0) := getV_app p1 a0
  have g1 : getV h1 (.ref kp) (.int 1) = some (.ref j1) := getV_app p1 a1
  walk_at "es"
  refine wB_val (add_nats (get_app p1 b0) (get_app p1 b1) (by omega)) ?_
  walk_at "es"
  refine bits_c _ (get_last _ _) (by simp; omega) ?_ ?_
  · intro t ht
    rw [List.mem_append] at ht
    rcases ht with ht | ht <;> have := hitL_lt ht <;> omega
  refine wC_ne_eq rfl ?_
  walk_at "es"
  exact hq _ (p1.trans (pre_app _ _))
theorem s19_c (n : Nat) {h : Hp} {F R : Nat} {c : Nat → Nat} {side k0 k1 tg tu kp kl occ : Nat} {x7 x8 x9 y : Option V} (hS : (F, R) ∈ shapes) (C : Cel (F * R) c k0 k1) (ho : Oc (F * R) occ (lyN c tu)) (ht : tg < F * R) (E : EF h F R c side k0 k1 tg tu kp) {Q : RQ}
    (hq : ∀ h' x16 x18 x19 x20, h <+: h' → Q .next [some (.ref 7), some (.ref 11), some (.int (F : Nat)), some (.int (R : Nat)), some (.int (F * R : Nat)), some (.ref 13), some (.ref 14), x7, x8, x9, some (.ref 77), y, some (.int (tg : Nat)), some (.int (tu : Nat)), some (.ref kl), some (.int (occ : Nat)), x16, some (.ref kp), x18, x19, x20, none, none, none] h') : wX (n + 220) s19 [some (.ref 7), some (.ref 11), some (.int (F : Nat)), some (.int (R : Nat)), some (.int (F * R : Nat)), some (.ref 13), some (.ref 14), x7, x8, x9, some (.ref 77), y, some (.int (tg : Nat)), some (.int (tu : Nat)), some (.ref kl), some (.int (occ : Nat)), none, some (.ref kp), none, none, none, none, none, none] h Q := by
  unfold s19
  refine wX_forT ?_
  walk_at "es"
  refine ⟨_, _, rfl, get_last _ _, rfl, ?_⟩
  refine wLv_inv ([0, 1].map fun t : Nat => V.int (t : Int))
    (fun j l h2 => (h ++ [.tup [.int 0, .int 1]]) <+: h2 ∧ ∃ x16 x18 x19 x20, l = [some (.ref 7), some (.ref 11), some (.int (F : Nat)), some (.int (R : Nat)), some (.int (F * R : Nat)), some (.ref 13), some (.ref 14), x7, x8, x9, some (.ref 77), y, some (.int (tg : Nat)), some (.int (tu : Nat)), some (.ref kl), some (.int (occ : Nat)), x16, some (.ref kp), x18, x19, x20, none, none, none]) ?_ ?_ ?_ 2 0 1000 _ _ rfl (by omega) ⟨List.prefix_refl _, _, _, _, _, rfl⟩
  · rintro j l h2 ⟨p2, _⟩
    exact live_tup (get_app p2 (get_last _ _)) j
  · rintro j l h2 hj ⟨p2, x16, x18, x19, x20, rfl⟩
    have hj : j < [0, 1].length := by simpa using hj
    have p3 : h <+: h2 := (pre_app _ _).trans p2
    rw [List.getElem_map]
    have hv : ∀ t ∈ [0, 1], t < 2 := by decide
    have hv := hv _ (List.getElem_mem hj)
    generalize [0, 1][j] = v at hv
    refine body_c (n + 9) hS C ho ht (E.app p3) hv ?_
    intro h4 y18 y19 y20 p4
    exact wR_next ⟨p2.trans p4, some (.int v), y18, y19, y20, rfl⟩
  · rintro l h2 ⟨p2, x16, x18, x19, x20, rfl⟩
    exact hq _ _ _ _ _ ((pre_app _ _).trans p2)
noncomputable def lifN (c : Nat → Nat) (k t : Nat) : Nat := if t = k then 0 else c t
theorem oc_lift {F R : Nat} {c : Nat → Nat} {side k0 k1 : Nat} (C : Cel (F * R) c k0 k1) {v : Nat} (hv : v < 2) : Oc (F * R) (occN (wo F R c side k0 k1) ^^^ 2 ^ (wo F R c side k0 k1).kq v) (lifN c ((wo F R c side k0 k1).kq v)) := by
  intro x hx
  rw [Nat.testBit_xor, oc_occ (side := side) (k0 := k0) (k1 := k1) C.wf x hx, Nat.testBit_two_pow]
  unfold lifN
  by_cases h : x = (wo F R c side k0 k1).kq v
  · subst h
    rw [if_pos rfl]
    have : c ((wo F R c side k0 k1).kq v) ≠ 0 := by
      show c (if v = 0 then k0 else k1) ≠ 0
      split
      · rw [C.c0]; decide
      · rw [C.c1]; decide
    simp [this]
  · rw [if_neg h, decide_eq_false (fun e => h e.symm)]; simp
/-- a comprehension of the goals that someone hits, and its bits -/
theorem seen_c (n : Nat) {h : Hp} {F R : Nat} {c y : Nat → Nat} {v : Nat} (hS : (F, R) ∈ shapes) (p : Nat) {elt : X} {conds : List X} {caps : List Nat} {l : Lc} {Q : VQ}
    (hN : l[4]? = some (some (.int (F * R : Nat))))
    (hi : ∀ t a, t < F * R → h <+: a → wIt (n + 100) elt conds (caps.map (fun i => (l[i]?).join) ++ [some (.int (t : Nat))]) a (fun r a' => a <+: a' ∧ r = if !(hitL F (F * R) c t y v).isEmpty then some (V.int (t : Int)) else none))
    (hq : ∀ h', h <+: h' → Q (.int (sumB ((List.range (F * R)).filter fun g => !(hitL F (F * R) c g y v).isEmpty))) h') :
    wE (n + 102) (.call 45 [.comp elt (.bi .range [.var 4]) conds caps]) l h Q := by
  have hsz := size_le hS
  obtain ⟨r1, r2⟩ := rngN hsz.1
  refine wE_call ?_
  refine wEs_cons ?_
  refine wE_comp (fun x => if !(hitL F (F * R) c (nV x) y v).isEmpty then some x else none) ?_
  refine wE_bi ?_
  refine wEs_cons ?_
  refine wE_var hN ?_
  refine wEs_nil ?_
  refine wI_range1 r1 ?_
  refine ⟨_, _, src_rng (get_last _ _) r1, rfl, rl9 r2 hsz.1, ?_, ?_⟩
  · rw [r2]
    intro x hx a pa
    rw [List.mem_map] at hx
    obtain ⟨t, ht, rfl⟩ := hx
    have ht : t < F * R := by simpa using ht
    have := hi t a ht ((pre_app _ _).trans pa)
    simpa only [nV_n] using this
  · intro a k pa ha
    rw [r2, filterMap_nats (List.range (F * R)) (fun g => !(hitL F (F * R) c g y v).isEmpty)] at ha
    refine wEs_nil ?_
    refine bits_c _ (L := (List.range (F * R)).filter fun g => !(hitL F (F * R) c g y v).isEmpty) ha ?_ ?_ ?_
    · exact fl9 _ hsz.1
    · intro t ht
      rw [List.mem_filter, List.mem_range] at ht
      omega
    · exact hq _ ((pre_app _ _).trans pa)
theorem t20_c (n : Nat) {h : Hp} {F R : Nat} {c : Nat → Nat} {side k0 k1 tg tu kp kl occ : Nat} {x7 x8 x9 y x16 x18 x19 x20 : Option V} (hS : (F, R) ∈ shapes) (C : Cel (F * R) c k0 k1) (E : EF h F R c side k0 k1 tg tu kp) {Q : RQ}
    (hq : ∀ h' l, Q (.ret (.bool true)) l h') : wXs (n + 220) t20 [some (.ref 7), some (.ref 11), some (.int (F : Nat)), some (.int (R : Nat)), some (.int (F * R : Nat)), some (.ref 13), some (.ref 14), x7, x8, x9, some (.ref 77), y, some (.int (tg : Nat)), some (.int (tu : Nat)), some (.ref kl), some (.int (occ : Nat)), x16, some (.ref kp), x18, x19, x20, none, none, none] h Q := by
  have hsz := size_le hS
  obtain ⟨r1, r2⟩ := rngN hsz.1
  have hsd : side < 2 := E.W.hv
  have e0 : getA h (.ref 77) 19 = some (.int (side : Nat)) := E.W.pd
  have hkk := (E.W.hk side hsd).2
  unfold t20 b48
  simp only [List.drop]
  refine wXs_cons ?_
  refine wX_assV rfl ?_
  walk_at "es"
  refine wE_comp (fun x => some (.int ((lifN c ((wo F R c side k0 k1).kq side) (nV x) : Nat) : Int))) ?_
  walk_at "es"
  refine wI_range1 r1 ?_
  refine ⟨_, _, src_rng (get_last _ _) r1, rfl, rl9 r2 hsz.1, ?_, ?_⟩
  · rw [r2]
    intro x hx a pa
    rw [List.mem_map] at hx
    obtain ⟨t, ht, rfl⟩ := hx
    have ht : t < F * R := by simpa using ht
    have pa2 : h <+: a := (pre_app _ _).trans pa
    have hct := arr_get (get_app pa2 E.cc) (le9 hsz.1) ht
    have hkv := getV_app pa2 (E.kv side hsd)
    refine wIt_nil ?_
    walk_at "es"
    · rename_i hz
      rw [beqN] at hz
      refine ⟨List.prefix_refl _, ?_⟩
      have hz := beq_iff_eq.mp hz
      simp only [nV_n, lifN, if_pos hz]; rfl
    · rename_i hz
      rw [beqN] at hz
      refine ⟨List.prefix_refl _, ?_⟩
      have hz : ¬ t = (wo F R c side k0 k1).kq side := by simpa using hz
      simp only [nV_n, lifN, if_neg hz]
  · intro h2 kf p2 e2
    rw [r2, filterMap_some] at e2
    have e2 : h2[kf]? = some (arr (F * R) (lifN c ((wo F R c side k0 k1).kq side))) := e2
    have p2 : h <+: h2 := (pre_app _ _).trans p2
    refine wR_next ?_
    refine wXs_cons ?_
    refine wX_assV rfl ?_
    refine seen_c (n + 114) (c := c) (y := c) (v := side) hS 0 ?_ ?_ fun h3 p3 => ?_
    · rfl
    · intro t a ht pa
      refine wIt_one ?_
      walk_at "es"
      refine hitters_c _ hS ht (get_app (p2.trans pa) E.cc) (get_app (p2.trans pa) E.cc) fun h5 k5 _ p5 e5 => ?_
      refine wT_list (xs := (hitL F (F * R) c t c side).map fun s : Nat => V.int (s : Int)) e5 (by have := (hitL_ok (c := c) (g := t) (y := c) (v := side) hS).1; simp; omega) ?_
      rw [List.isEmpty_map]
      refine ⟨fun hb => ?_, fun hb => ?_⟩
      · walk_at "es"
        exact ⟨p5, by rw [hb]; rfl⟩
      · exact ⟨p5, by rw [hb]; rfl⟩
    have e3 := get_app p3 e2
    have p3 := p2.trans p3
    refine wR_next ?_
    refine wXs_cons ?_
    refine wX_assV rfl ?_
    refine seen_c (n + 113) (c := c) (y := lifN c ((wo F R c side k0 k1).kq side)) (v := 1 - side) hS 0 ?_ ?_ fun h4 p4 => ?_
    · rfl
    · intro t a ht pa
      refine wIt_one ?_
      walk_at "es"
      rw [one_sub hsd]
      refine hitters_c _ hS ht (get_app (p3.trans pa) E.cc) (get_app pa e3) fun h5 k5 _ p5 e5 => ?_
      refine wT_list (xs := (hitL F (F * R) c t (lifN c ((wo F R c side k0 k1).kq side)) (1 - side)).map fun s : Nat => V.int (s : Int)) e5 (by have := (hitL_ok (c := c) (g := t) (y := lifN c ((wo F R c side k0 k1).kq side)) (v := 1 - side) hS).1; simp; omega) ?_
      rw [List.isEmpty_map]
      refine ⟨fun hb => ?_, fun hb => ?_⟩
      · walk_at "es"
        exact ⟨p5, by rw [hb]; rfl⟩
      · exact ⟨p5, by rw [hb]; rfl⟩
    have p4 := p3.trans p4
    refine wR_next ?_
    refine wXs_cons ?_
    refine wX_ret ?_
    refine wE_boolE ?_
    refine wLs_and ?_
    walk_at "es"
    refine attacked_by_c _ (E.W.app p4) hsd fun h5 p5 => ?_
    rw [cov_eq hS C.wf (oc_occ C.wf) hsd]
    walk_at "es"
    · exact fin_rb (by simp) (hq _ _)
    · refine forbidden_c _ (E.W.app (p4.trans p5)) hsd fun h6 p6 => ?_
      rw [cov_eq hS C.wf (oc_lift C hsd) (by omega)]
      walk_at "es"
      exact fin_rb (by simp) (hq _ _)
theorem law_true (xs : List Int) (hx : xs.length ≤ 63) : ∃ H', callF progP 400 48 [.ref 7] (base0 ++ [.clist (xs.map V.int)]) = some (.bool true, H') := by
  have key : wF (96 + 304) 48 [.ref 7] (base0 ++ [.clist (xs.map V.int)]) (fun v _ => v = .bool true) := by
    refine segA1 96 hx ?_
    intro h S F R p l e s1 s2 hS
    refine segA2 309 hS p l e s1 s2 ?_
    intro h c k0 k1 x7 x8 x9 I
    refine segD1 184 hS I s1 ?_
    intro h side tg tu y W hc hk ht
    refine segE 231 hS W hc hk ht ?_
    intro h kl kp j0 j1 W hc hk ep e0 e1
    have E : EF h F R c side k0 k1 tg tu kp := by
      refine ⟨W, hc, ?_, ?_⟩
      · intro v hv
        match v, hv with
        | 0, _ => exact nats_get hk (i := 0) (by decide) rfl
        | 1, _ => exact nats_get hk (i := 1) (by decide) rfl
      · intro v hv
        match v, hv with
        | 0, _ => exact ⟨j0, by unfold getV; simp only [ep]; rfl, e0⟩
        | 1, _ => exact ⟨j1, by unfold getV; simp only [ep]; rfl, e1⟩
    have ho := oc_bits (N := F * R) (size_le hS).1 (lyN c tu)
    rw [t18_20]
    refine wXs_cons ?_
    refine s18_c 230 hS I.cel ho ht E fun h1 p1 => ?_
    refine wR_next ?_
    refine wXs_cons ?_
    refine s19_c 159 hS I.cel ho ht (E.app p1) fun h2 x16 x18 x19 x20 p2 => ?_
    refine wR_next ?_
    refine t20_c 159 hS I.cel (E.app (p1.trans p2)) fun h' l => rfl
  rw [wF_def] at key
  obtain ⟨⟨v, H'⟩, e, rfl⟩ := wp_elim key
  exact ⟨H', e⟩
end
end Mine
end
section
open PySem PySem.W PyProof.Rows
namespace Mine
noncomputable def fdAt (K : Frag) (a : Addr) : Option FuncData := match K.lookup a with | some ⟨_, _, .func fd, _⟩ => some fd | _ => none
noncomputable def bodyOf (fd : FuncData) : List Stmt := match fd.body with | .stmts b => b | _ => []
noncomputable def isStmts (fd : FuncData) : Bool := match fd.body with | .stmts _ => true | _ => false
noncomputable def codeB (K : Frag) (cd : Value) (q : Str) : Bool := match cd with
  | .ref c => (match K.lookup c with
    | some o => (match o.data with
      | .fields vs => (match (vs[1]? : Option Value) with | some (Value.str n _) => n == q | _ => false)
      | _ => false)
    | none => false)
  | _ => false
noncomputable def fnB (K : Frag) (a : Addr) (np nl : Nat) : Bool := match fdAt K a with
  | some fd => isStmts fd && fd.closure.isEmpty && fd.globals == mainGlobals && fd.builtins == builtinsNs && fd.scope.kind == .function && !fd.scope.isGenerator && !fd.scope.isCoroutine &&
    codeB K fd.code fd.qualname && (varsOf fd.scope.names).length == nl && decide (np ≤ nl) && decide ((fd.scope.names.map (·.1)).Nodup) && keepIn K (.ref a)
  | none => false
noncomputable def trAt (K : Frag) (g : Gt) (a : Addr) : Option (List S) := (fdAt K a).bind fun fd => mapO (trS g 60 ⟨fd.scope.names, varsOf fd.scope.names⟩) (bodyOf fd)
noncomputable def bindAt (K : Frag) (a : Addr) (vals : List Value) : Option (Sem (List (Str × Value))) := (fdAt K a).map fun fd => bindArgs fd ⟨vals, []⟩
noncomputable def retAt (K : Frag) (a : Addr) (np : Nat) (vals : List Value) : Option (Sem (List (Str × Value))) := (fdAt K a).map fun fd => pure (((varsOf fd.scope.names).take np).zip vals)
theorem codeB_ok {K : Frag} {h : Heap} (X : K.In h) {cd : Value} {q : Str} (e : codeB K cd q = true) : h.CodeRec cd q := by
  unfold codeB at e
  split at e
  · rename_i c
    split at e
    · rename_i o ho
      split at e
      · rename_i vs hd
        split at e
        · rename_i n t hv
          exact ⟨c, o, vs, t, rfl, X _ _ ho, hd, by rw [hv, beq_iff_eq.mp e]⟩
        · cases e
      · cases e
    · cases e
  · cases e
theorem fdAt_ok {K : Frag} {h : Heap} (X : K.In h) {a : Addr} {fd : FuncData} (e : fdAt K a = some fd) : ∃ o, h.get? a = some o ∧ o.data = .func fd := by
  unfold fdAt at e
  split at e
  · rename_i x y z u hl
    cases e
    exact ⟨_, X _ _ hl, rfl⟩
  · cases e
theorem fnOk_mk {C : Con} {g : Gt} {a : Addr} {d : FD} (X : C.K.In C.base) (hb : fnB C.K a d.np d.nl = true) (ht : trAt C.K g a = some d.body)
    (hv : ∀ vals : List Value, vals.length = d.np → bindAt C.K a vals = retAt C.K a d.np vals) : FnOk C g a d := by
  unfold fnB at hb
  split at hb
  · rename_i fd hf
    simp only [Bool.and_eq_true, beq_iff_eq, decide_eq_true_eq, Bool.not_eq_true', List.isEmpty_iff] at hb
    obtain ⟨⟨⟨⟨⟨⟨⟨⟨⟨⟨⟨b1, b2⟩, b3⟩, b4⟩, b5⟩, b6⟩, b7⟩, b8⟩, b9⟩, b10⟩, b11⟩, b12⟩ := hb
    obtain ⟨o, ho, hd⟩ := fdAt_ok X hf
    unfold trAt at ht
    rw [hf] at ht
    refine ⟨⟨o, fd, bodyOf fd, fd.code, ho, hd, b2, ?_, b3, b4, ?_, b6, b7, rfl, codeB_ok X b8, fun vals hl => ?_, ht, b9, b10, b11, b12⟩⟩
    · unfold isStmts at b1; unfold bodyOf
      split at b1
      · rename_i b hb; rw [hb]
      · cases b1
    · cases hk : fd.scope.kind <;> rw [hk] at b5 <;> first | rfl | exact absurd b5 (by decide)
    · have := hv vals hl
      unfold bindAt retAt at this
      rw [hf] at this
      exact Option.some.inj this
  · cases hb
noncomputable def gtab : Gt := {
  consts := [("WHITE", .int 0), ("BLACK", .int 1), ("PAWN", .int 1), ("KNIGHT", .int 2), ("BISHOP", .int 3), ("ROOK", .int 4), ("QUEEN", .int 5), ("KING", .int 6), ("EMPTY", .int 0), ("STEP_FILES", .ref 0), ("STEP_RANKS", .ref 1), ("_law_shapes", .ref 2)],
  fns := [(("side_of" : Str), 0), (("kind_of" : Str), 1), (("more_than_one" : Str), 2), (("highest" : Str), 3), (("lowest" : Str), 4), (("squares_of" : Str), 5), (("direction" : Str), 6), (("between" : Str), 7), (("is_growing" : Str), 8), (("add_masks" : Str), 9), (("inner_squares" : Str), 10), (("add_rays" : Str), 11), (("add_pawns" : Str), 12), (("add_knights" : Str), 13), (("add_castles" : Str), 14), (("make_geometry" : Str), 15), (("ray_attacks" : Str), 16), (("rook_attacks" : Str), 17), (("bishop_attacks" : Str), 18), (("queen_attacks" : Str), 19), (("slider_attacks" : Str), 20), (("piece_attacks" : Str), 21), (("put_piece" : Str), 22), (("king_square" : Str), 23), (("straight_sliders" : Str), 24), (("slanting_sliders" : Str), 25), (("pawn_attackers" : Str), 26), (("step_attackers" : Str), 27), (("line_attackers" : Str), 28), (("attackers_to" : Str), 29), (("is_attacked" : Str), 30), (("checkers_of" : Str), 31), (("checkers" : Str), 32), (("in_check_of" : Str), 33), (("in_check" : Str), 34), (("check_quiet" : Str), 35), (("snipers_of" : Str), 36), (("blockers" : Str), 37), (("pinned_pieces" : Str), 38), (("covered_by" : Str), 39), (("attacked_by" : Str), 40), (("forbidden_to_king" : Str), 41), (("_law_rest" : Str), 42), (("_law_hits" : Str), 43), (("_law_hitters" : Str), 44), (("_law_bits" : Str), 45), (("_law_within" : Str), 46), (("_law_held" : Str), 47), (("law" : Str), 48)],
  clss := [("Geometry", 0), ("Position", 1), ("Zobrist", 2)],
  attrs := ["files", "ranks", "size", "full", "has_double", "has_castling", "file_masks", "rank_masks", "rays", "king", "knight", "pawn", "castles", "rights_lost",
    "geo", "zob", "board", "kinds", "sides", "side", "rights", "ep", "half", "key", "history", "pieces"] }
end Mine
end
section
open PySem PySem.W PyProof.Rows
set_option maxRecDepth 100000
namespace Mine
theorem vl0 {α : Type} {l : List α} (h : l.length = 0) : l = [] := List.length_eq_zero_iff.mp h
theorem vl1 {α : Type} {l : List α} (h : l.length = 1) : ∃ a, l = [a] := List.length_eq_one_iff.mp h
theorem vlS {α : Type} {l : List α} {n : Nat} (h : l.length = n + 1) : ∃ a r, l = a :: r ∧ r.length = n := by
  cases l with
  | nil => exact absurd h.symm (Nat.succ_ne_zero n)
  | cons a r => exact ⟨a, r, rfl, Nat.succ.inj h⟩
theorem vl2 {α : Type} {l : List α} (h : l.length = 2) : ∃ a b, l = [a, b] := let ⟨a, _, e, h⟩ := vlS h; let ⟨b, f⟩ := vl1 h; ⟨a, b, by rw [e, f]⟩
theorem vl3 {α : Type} {l : List α} (h : l.length = 3) : ∃ a b c, l = [a, b, c] := let ⟨a, _, e, h⟩ := vlS h; let ⟨b, c, f⟩ := vl2 h; ⟨a, b, c, by rw [e, f]⟩
theorem vl4 {α : Type} {l : List α} (h : l.length = 4) : ∃ a b c d, l = [a, b, c, d] := let ⟨a, _, e, h⟩ := vlS h; let ⟨b, c, d, f⟩ := vl3 h; ⟨a, b, c, d, by rw [e, f]⟩
theorem vl5 {α : Type} {l : List α} (h : l.length = 5) : ∃ a b c d e, l = [a, b, c, d, e] := let ⟨a, _, e, h⟩ := vlS h; let ⟨b, c, d, g, f⟩ := vl4 h; ⟨a, b, c, d, g, by rw [e, f]⟩
structure FnK (K : Params → Frag) (a : Addr) (d : FD) : Prop where
  b : ∀ P, fnB (K P) a d.np d.nl = true
  t : ∀ P, trAt (K P) gtab a = some d.body
  v : ∀ P, ∀ vals : List Value, vals.length = d.np → bindAt (K P) a vals = retAt (K P) a d.np vals
theorem k_f_side_of : FnK Kf 21 f_side_of := ⟨fun P => by kernel_rfl, fun P => by kernel_rfl, fun P vals h => by obtain ⟨v0, rfl⟩ := vl1 h; kernel_rfl⟩
theorem k_f_kind_of : FnK Kf 28 f_kind_of := ⟨fun P => by kernel_rfl, fun P => by kernel_rfl, fun P vals h => by obtain ⟨v0, rfl⟩ := vl1 h; kernel_rfl⟩
theorem k_f_more_than_one : FnK Kf 35 f_more_than_one := ⟨fun P => by kernel_rfl, fun P => by kernel_rfl, fun P vals h => by obtain ⟨v0, rfl⟩ := vl1 h; kernel_rfl⟩
theorem k_f_highest : FnK Kf 42 f_highest := ⟨fun P => by kernel_rfl, fun P => by kernel_rfl, fun P vals h => by obtain ⟨v0, rfl⟩ := vl1 h; kernel_rfl⟩
theorem k_f_lowest : FnK Kf 49 f_lowest := ⟨fun P => by kernel_rfl, fun P => by kernel_rfl, fun P vals h => by obtain ⟨v0, rfl⟩ := vl1 h; kernel_rfl⟩
theorem k_f_squares_of : FnK Kf 56 f_squares_of := ⟨fun P => by kernel_rfl, fun P => by kernel_rfl, fun P vals h => by obtain ⟨v0, rfl⟩ := vl1 h; kernel_rfl⟩
theorem k_f_direction : FnK Kf 63 f_direction := ⟨fun P => by kernel_rfl, fun P => by kernel_rfl, fun P vals h => by obtain ⟨v0, v1, v2, rfl⟩ := vl3 h; kernel_rfl⟩
theorem k_f_between : FnK Kf 70 f_between := ⟨fun P => by kernel_rfl, fun P => by kernel_rfl, fun P vals h => by obtain ⟨v0, v1, v2, rfl⟩ := vl3 h; kernel_rfl⟩
theorem k_f_is_growing : FnK Kf 120 f_is_growing := ⟨fun P => by kernel_rfl, fun P => by kernel_rfl, fun P vals h => by obtain ⟨v0, rfl⟩ := vl1 h; kernel_rfl⟩
theorem k_f_add_masks : FnK Kf 127 f_add_masks := ⟨fun P => by kernel_rfl, fun P => by kernel_rfl, fun P vals h => by obtain ⟨v0, rfl⟩ := vl1 h; kernel_rfl⟩
theorem k_f_inner_squares : FnK Kf 134 f_inner_squares := ⟨fun P => by kernel_rfl, fun P => by kernel_rfl, fun P vals h => by obtain ⟨v0, v1, rfl⟩ := vl2 h; kernel_rfl⟩
theorem k_f_add_rays : FnK Kf 141 f_add_rays := ⟨fun P => by kernel_rfl, fun P => by kernel_rfl, fun P vals h => by obtain ⟨v0, rfl⟩ := vl1 h; kernel_rfl⟩
theorem k_f_add_pawns : FnK Kf 148 f_add_pawns := ⟨fun P => by kernel_rfl, fun P => by kernel_rfl, fun P vals h => by obtain ⟨v0, rfl⟩ := vl1 h; kernel_rfl⟩
theorem k_f_add_knights : FnK Kf 155 f_add_knights := ⟨fun P => by kernel_rfl, fun P => by kernel_rfl, fun P vals h => by obtain ⟨v0, rfl⟩ := vl1 h; kernel_rfl⟩
theorem k_f_add_castles : FnK Kf 162 f_add_castles := ⟨fun P => by kernel_rfl, fun P => by kernel_rfl, fun P vals h => by obtain ⟨v0, rfl⟩ := vl1 h; kernel_rfl⟩
theorem k_f_make_geometry : FnK Kf 169 f_make_geometry := ⟨fun P => by kernel_rfl, fun P => by kernel_rfl, fun P vals h => by obtain ⟨v0, v1, v2, v3, rfl⟩ := vl4 h; kernel_rfl⟩
theorem k_f_ray_attacks : FnK Kf 176 f_ray_attacks := ⟨fun P => by kernel_rfl, fun P => by kernel_rfl, fun P vals h => by obtain ⟨v0, v1, v2, v3, rfl⟩ := vl4 h; kernel_rfl⟩
theorem k_f_rook_attacks : FnK Kf 183 f_rook_attacks := ⟨fun P => by kernel_rfl, fun P => by kernel_rfl, fun P vals h => by obtain ⟨v0, v1, v2, rfl⟩ := vl3 h; kernel_rfl⟩
theorem k_f_bishop_attacks : FnK Kf 190 f_bishop_attacks := ⟨fun P => by kernel_rfl, fun P => by kernel_rfl, fun P vals h => by obtain ⟨v0, v1, v2, rfl⟩ := vl3 h; kernel_rfl⟩
theorem k_f_queen_attacks : FnK Kf 197 f_queen_attacks := ⟨fun P => by kernel_rfl, fun P => by kernel_rfl, fun P vals h => by obtain ⟨v0, v1, v2, rfl⟩ := vl3 h; kernel_rfl⟩
theorem k_f_slider_attacks : FnK Kf 204 f_slider_attacks := ⟨fun P => by kernel_rfl, fun P => by kernel_rfl, fun P vals h => by obtain ⟨v0, v1, v2, v3, rfl⟩ := vl4 h; kernel_rfl⟩
theorem k_f_piece_attacks : FnK Kf 211 f_piece_attacks := ⟨fun P => by kernel_rfl, fun P => by kernel_rfl, fun P vals h => by obtain ⟨v0, v1, v2, v3, v4, rfl⟩ := vl5 h; kernel_rfl⟩
theorem k_f_put_piece : FnK Kf 239 f_put_piece := ⟨fun P => by kernel_rfl, fun P => by kernel_rfl, fun P vals h => by obtain ⟨v0, v1, v2, rfl⟩ := vl3 h; kernel_rfl⟩
theorem k_f_king_square : FnK Kf 246 f_king_square := ⟨fun P => by kernel_rfl, fun P => by kernel_rfl, fun P vals h => by obtain ⟨v0, v1, rfl⟩ := vl2 h; kernel_rfl⟩
theorem k_f_straight_sliders : FnK Kf 253 f_straight_sliders := ⟨fun P => by kernel_rfl, fun P => by kernel_rfl, fun P vals h => by obtain ⟨v0, rfl⟩ := vl1 h; kernel_rfl⟩
theorem k_f_slanting_sliders : FnK Kf 260 f_slanting_sliders := ⟨fun P => by kernel_rfl, fun P => by kernel_rfl, fun P vals h => by obtain ⟨v0, rfl⟩ := vl1 h; kernel_rfl⟩
theorem k_f_pawn_attackers : FnK Kf 267 f_pawn_attackers := ⟨fun P => by kernel_rfl, fun P => by kernel_rfl, fun P vals h => by obtain ⟨v0, v1, v2, rfl⟩ := vl3 h; kernel_rfl⟩
theorem k_f_step_attackers : FnK Kf 274 f_step_attackers := ⟨fun P => by kernel_rfl, fun P => by kernel_rfl, fun P vals h => by obtain ⟨v0, v1, v2, rfl⟩ := vl3 h; kernel_rfl⟩
theorem k_f_line_attackers : FnK Kf 281 f_line_attackers := ⟨fun P => by kernel_rfl, fun P => by kernel_rfl, fun P vals h => by obtain ⟨v0, v1, v2, rfl⟩ := vl3 h; kernel_rfl⟩
theorem k_f_attackers_to : FnK Kf 288 f_attackers_to := ⟨fun P => by kernel_rfl, fun P => by kernel_rfl, fun P vals h => by obtain ⟨v0, v1, v2, rfl⟩ := vl3 h; kernel_rfl⟩
theorem k_f_is_attacked : FnK Kf 295 f_is_attacked := ⟨fun P => by kernel_rfl, fun P => by kernel_rfl, fun P vals h => by obtain ⟨v0, v1, v2, v3, rfl⟩ := vl4 h; kernel_rfl⟩
theorem k_f_checkers_of : FnK Kf 302 f_checkers_of := ⟨fun P => by kernel_rfl, fun P => by kernel_rfl, fun P vals h => by obtain ⟨v0, v1, rfl⟩ := vl2 h; kernel_rfl⟩
theorem k_f_checkers : FnK Kf 309 f_checkers := ⟨fun P => by kernel_rfl, fun P => by kernel_rfl, fun P vals h => by obtain ⟨v0, rfl⟩ := vl1 h; kernel_rfl⟩
theorem k_f_in_check_of : FnK Kf 316 f_in_check_of := ⟨fun P => by kernel_rfl, fun P => by kernel_rfl, fun P vals h => by obtain ⟨v0, v1, rfl⟩ := vl2 h; kernel_rfl⟩
theorem k_f_in_check : FnK Kf 323 f_in_check := ⟨fun P => by kernel_rfl, fun P => by kernel_rfl, fun P vals h => by obtain ⟨v0, rfl⟩ := vl1 h; kernel_rfl⟩
theorem k_f_check_quiet : FnK Kf 330 f_check_quiet := ⟨fun P => by kernel_rfl, fun P => by kernel_rfl, fun P vals h => by obtain ⟨v0, rfl⟩ := vl1 h; kernel_rfl⟩
theorem k_f_snipers_of : FnK Kf 337 f_snipers_of := ⟨fun P => by kernel_rfl, fun P => by kernel_rfl, fun P vals h => by obtain ⟨v0, v1, rfl⟩ := vl2 h; kernel_rfl⟩
theorem k_f_blockers : FnK Kf 344 f_blockers := ⟨fun P => by kernel_rfl, fun P => by kernel_rfl, fun P vals h => by obtain ⟨v0, v1, rfl⟩ := vl2 h; kernel_rfl⟩
theorem k_f_pinned_pieces : FnK Kf 351 f_pinned_pieces := ⟨fun P => by kernel_rfl, fun P => by kernel_rfl, fun P vals h => by obtain ⟨v0, v1, rfl⟩ := vl2 h; kernel_rfl⟩
theorem k_f_covered_by : FnK Kf 358 f_covered_by := ⟨fun P => by kernel_rfl, fun P => by kernel_rfl, fun P vals h => by obtain ⟨v0, v1, v2, rfl⟩ := vl3 h; kernel_rfl⟩
theorem k_f_attacked_by : FnK Kf 365 f_attacked_by := ⟨fun P => by kernel_rfl, fun P => by kernel_rfl, fun P vals h => by obtain ⟨v0, v1, rfl⟩ := vl2 h; kernel_rfl⟩
theorem k_f_forbidden_to_king : FnK Kf 372 f_forbidden_to_king := ⟨fun P => by kernel_rfl, fun P => by kernel_rfl, fun P vals h => by obtain ⟨v0, v1, rfl⟩ := vl2 h; kernel_rfl⟩
theorem k_f_law_rest : FnK Kf 405 f_law_rest := ⟨fun P => by kernel_rfl, fun P => by kernel_rfl, fun P vals h => by obtain rfl := vl0 h; kernel_rfl⟩
theorem k_f_law_hits : FnK Kf 412 f_law_hits := ⟨fun P => by kernel_rfl, fun P => by kernel_rfl, fun P vals h => by obtain ⟨v0, v1, v2, v3, v4, rfl⟩ := vl5 h; kernel_rfl⟩
theorem k_f_law_hitters : FnK Kf 417 f_law_hitters := ⟨fun P => by kernel_rfl, fun P => by kernel_rfl, fun P vals h => by obtain ⟨v0, v1, v2, v3, v4, rfl⟩ := vl5 h; kernel_rfl⟩
theorem k_f_law_bits : FnK Kf 424 f_law_bits := ⟨fun P => by kernel_rfl, fun P => by kernel_rfl, fun P vals h => by obtain ⟨v0, rfl⟩ := vl1 h; kernel_rfl⟩
theorem k_f_law_within : FnK Kf 431 f_law_within := ⟨fun P => by kernel_rfl, fun P => by kernel_rfl, fun P vals h => by obtain ⟨v0, v1, v2, v3, rfl⟩ := vl4 h; kernel_rfl⟩
theorem k_f_law_held : FnK Kf 436 f_law_held := ⟨fun P => by kernel_rfl, fun P => by kernel_rfl, fun P vals h => by obtain ⟨v0, v1, v2, v3, rfl⟩ := vl4 h; kernel_rfl⟩
theorem k_f_law : FnK Kf 441 f_law := ⟨fun P => by kernel_rfl, fun P => by kernel_rfl, fun P vals h => by obtain ⟨v0, rfl⟩ := vl1 h; kernel_rfl⟩
theorem k_i_Geometry : FnK Kf 106 i_Geometry := ⟨fun P => by kernel_rfl, fun P => by kernel_rfl, fun P vals h => by obtain ⟨v0, v1, v2, v3, v4, rfl⟩ := vl5 h; kernel_rfl⟩
theorem k_i_Position : FnK Kf 225 i_Position := ⟨fun P => by kernel_rfl, fun P => by kernel_rfl, fun P vals h => by obtain ⟨v0, v1, v2, rfl⟩ := vl3 h; kernel_rfl⟩
theorem k_i_Zobrist : FnK Kf 386 i_Zobrist := ⟨fun P => by kernel_rfl, fun P => by kernel_rfl, fun P vals h => by obtain ⟨v0, v1, v2, v3, v4, rfl⟩ := vl5 h; kernel_rfl⟩
end Mine
end
section
open PySem PySem.W PyProof.Rows
set_option maxRecDepth 100000
namespace Mine
noncomputable def adrs : List Addr := [21, 28, 35, 42, 49, 56, 63, 70, 120, 127, 134, 141, 148, 155, 162, 169, 176, 183, 190, 197, 204, 211, 239, 246, 253, 260, 267, 274, 281, 288, 295, 302, 309, 316, 323, 330, 337, 344, 351, 358, 365, 372, 405, 412, 417, 424, 431, 436, 441, 106, 225, 386]
noncomputable def nsAt (K : Frag) (a : Addr) (x : Str) : Option Value := match K.lookup a with
  | some o => (match o.data with | .dict es _ => nsFind es x | _ => none)
  | none => none
theorem nsAt_ok {K : Frag} {h : Heap} {mg : Str → Option Value} {a : Addr} (X : K.In h) (g : h.Ns a mg) (hs : (K.lookup a).isSome = true) (x : Str) : mg x = nsAt K a x := by
  rw [g.eq_nsMap]
  obtain ⟨o, ho⟩ := Option.isSome_iff_exists.mp hs
  unfold Heap.nsMap nsAt
  rw [X _ _ ho, ho]
  cases o.data <;> rfl
noncomputable def ρfix : List Addr := [91, 92, 398, 394, 395, 396, 397]
noncomputable def clsA : List Addr := [109, 228, 389]
noncomputable def chkC (K : Frag) (p : Str × V) : Bool := match p.2, nsAt K 3 p.1 with
  | .int i, some (.int j _) => i == j
  | .ref k, some (.ref a) => ρfix[k]? == some a
  | _, _ => false
theorem kc (P : Params) : gtab.consts.all (chkC (Kf P)) = true := by kernel_rfl
noncomputable def chkF (K : Frag) (p : Str × Nat) : Bool := match nsAt K 3 p.1 with
  | some (.ref a) => adrs[p.2]? == some a && decide (p.2 < 52)
  | _ => false
theorem kf (P : Params) : gtab.fns.all (chkF (Kf P)) = true := by kernel_rfl
theorem k3 (P : Params) : ((Kf P).lookup 3).isSome = true := by kernel_rfl
theorem len52 : progP.fns.length = 52 := by kernel_rfl
noncomputable def AllF : List Addr → List FD → Prop
  | a :: as, d :: ds => FnK Kf a d ∧ AllF as ds
  | _, _ => True
theorem AllF_get : ∀ {as : List Addr} {ds : List FD}, AllF as ds → ∀ (i : Nat) (a : Addr) (d : FD), as[i]? = some a → ds[i]? = some d → FnK Kf a d := by
  intro as
  induction as with
  | nil => intro ds _ i a d h; exact nomatch h
  | cons a as ih =>
    intro ds h i b e h1 h2
    cases ds with
    | nil => exact nomatch h2
    | cons d ds =>
      cases i with
      | zero =>
        have e1 : a = b := Option.some.inj h1
        have e2 : d = e := Option.some.inj h2
        subst e1 e2
        exact h.1
      | succ i => exact ih h.2 i b e h1 h2
theorem fk : ∀ (i : Nat) (a : Addr) (d : FD), adrs[i]? = some a → progP.fns[i]? = some d → FnK Kf a d :=
  AllF_get (show AllF adrs progP.fns from ⟨k_f_side_of, k_f_kind_of, k_f_more_than_one, k_f_highest, k_f_lowest, k_f_squares_of, k_f_direction, k_f_between, k_f_is_growing, k_f_add_masks, k_f_inner_squares, k_f_add_rays, k_f_add_pawns, k_f_add_knights, k_f_add_castles, k_f_make_geometry, k_f_ray_attacks, k_f_rook_attacks, k_f_bishop_attacks, k_f_queen_attacks, k_f_slider_attacks, k_f_piece_attacks, k_f_put_piece, k_f_king_square, k_f_straight_sliders, k_f_slanting_sliders, k_f_pawn_attackers, k_f_step_attackers, k_f_line_attackers, k_f_attackers_to, k_f_is_attacked, k_f_checkers_of, k_f_checkers, k_f_in_check_of, k_f_in_check, k_f_check_quiet, k_f_snipers_of, k_f_blockers, k_f_pinned_pieces, k_f_covered_by, k_f_attacked_by, k_f_forbidden_to_king, k_f_law_rest, k_f_law_hits, k_f_law_hitters, k_f_law_bits, k_f_law_within, k_f_law_held, k_f_law, k_i_Geometry, k_i_Position, k_i_Zobrist, trivial⟩)

structure ClsK (K : Params → Frag) (Ca fa : Addr) : Prop where
  make : ∀ P, makesIn (K P) Ca = true
  keep : ∀ P, keepIn (K P) (.ref Ca) = true
  init : ∀ P, findIn (K P) (.ref Ca) "__init__" = some (some (.ref fa))
  type : ∀ P, typeIn (K P) (.ref fa) = some (.type "function")
  ga : ∀ P, findIn (K P) (.ref Ca) "__getattribute__" = some (some (.builtin "object.__getattribute__"))
  sa : ∀ P, findIn (K P) (.ref Ca) "__setattr__" = some (some (.builtin "object.__setattr__"))
  plain : ∀ P, plainOver (K P) Ca = true
  hasDict : ∀ P, hasDictIn (K P) Ca = true
  no : ∀ P, gtab.attrs.all (fun x => match findIn (K P) (.ref Ca) x with | some none => true | _ => false) = true
theorem c_geo : ClsK Kf 109 106 := ⟨fun P => by kernel_rfl, fun P => by kernel_rfl, fun P => by kernel_rfl, fun P => by kernel_rfl, fun P => by kernel_rfl, fun P => by kernel_rfl, fun P => by kernel_rfl, fun P => by kernel_rfl, fun P => by kernel_rfl⟩
theorem c_pos : ClsK Kf 228 225 := ⟨fun P => by kernel_rfl, fun P => by kernel_rfl, fun P => by kernel_rfl, fun P => by kernel_rfl, fun P => by kernel_rfl, fun P => by kernel_rfl, fun P => by kernel_rfl, fun P => by kernel_rfl, fun P => by kernel_rfl⟩
theorem c_zob : ClsK Kf 389 386 := ⟨fun P => by kernel_rfl, fun P => by kernel_rfl, fun P => by kernel_rfl, fun P => by kernel_rfl, fun P => by kernel_rfl, fun P => by kernel_rfl, fun P => by kernel_rfl, fun P => by kernel_rfl, fun P => by kernel_rfl⟩
theorem ClsK.ok {K : Params → Frag} {Ca fa : Addr} (c : ClsK K Ca fa) (P : Params) : ClsOk (K P) gtab.attrs Ca := by
  refine ⟨c.ga P, c.sa P, c.plain P, c.hasDict P, fun x hx => ?_⟩
  have := List.all_eq_true.mp (c.no P) x hx
  split at this
  · assumption
  · cases this
theorem mem_lookup {β : Type} {l : List (Str × β)} {x : Str} {v : β} (h : l.lookup x = some v) : (x, v) ∈ l := by
  induction l with
  | nil => cases h
  | cons p r ih =>
    obtain ⟨y, w⟩ := p
    rw [List.lookup_cons] at h
    split at h
    · rename_i e
      cases h
      rw [beq_iff_eq.mp e]
      exact .head _
    · exact .tail _ (ih h)
theorem kcl (P : Params) : nsAt (Kf P) 3 "Geometry" = some (.ref 109) ∧ nsAt (Kf P) 3 "Position" = some (.ref 228) ∧ nsAt (Kf P) 3 "Zobrist" = some (.ref 389) := ⟨by kernel_rfl, by kernel_rfl, by kernel_rfl⟩
theorem kbi (P : Params) : nsAt (Kf P) 3 "range" = none ∧ nsAt (Kf P) 3 "len" = none ∧ nsAt (Kf P) 3 "abs" = none ∧ nsAt (Kf P) 3 "max" = none ∧ nsAt (Kf P) 3 "min" = none := ⟨by kernel_rfl, by kernel_rfl, by kernel_rfl, by kernel_rfl, by kernel_rfl⟩
noncomputable def conOf (prog : Program) (w : World) (h : Heap) (mg mb : Str → Option Value) (sa : Addr) : Con := ⟨prog, w, h, ρfix ++ [sa], clsA, gtab.attrs, Kf w.params, mg, mb⟩
theorem tabs (prog : Program) {w : World} {h : Heap} {mg mb : Str → Option Value} (X : (Kf w.params).In h) (g : h.Ns mainGlobals mg) (b : h.Ns builtinsNs mb) (nl : h.NoLimit)
    (bu : ∀ x : Str, x ≠ "__name__" → mb x = bootBuiltins x) (sa : Addr) : Tabs (conOf prog w h mg mb sa) gtab progP := by
  have hm : ∀ x, mg x = nsAt (Kf w.params) 3 x := fun x => nsAt_ok X g (k3 w.params) x
  have hfn : ∀ (i : Nat) (a : Addr) (d : FD), adrs[i]? = some a → progP.fns[i]? = some d → FnOk (conOf prog w h mg mb sa) gtab a d := by
    intro i a d h1 h2
    have q := fk i a d h1 h2
    exact fnOk_mk X (q.b w.params) (q.t w.params) (q.v w.params)
  refine { X := X, nodup := by (show gtab.attrs.Nodup); decide +kernel, cls := ?_, nsg := g, nsb := b, nolimit := nl, attrs := rfl, consts := ?_, fns := ?_, clss := ?_, bis := ?_ }
  · intro c Ca hc
    match c, hc with
    | 0, hc => cases hc; exact c_geo.ok _
    | 1, hc => cases hc; exact c_pos.ok _
    | 2, hc => cases hc; exact c_zob.ok _
    | n + 3, hc => cases hc
  · intro x v hx
    have q := List.all_eq_true.mp (kc w.params) _ (mem_lookup hx)
    show ∃ v', mg x = some v' ∧ _
    rw [hm]
    unfold chkC at q
    split at q
    · rename_i i j t e1 e2
      simp only at e1 e2
      subst e1
      rw [e2]
      have : i = j := by simpa using q
      subst this
      exact ⟨_, rfl, .int _ _⟩
    · rename_i k a e1 e2
      simp only at e1 e2
      subst e1
      rw [e2]
      have : ρfix[k]? = some a := by simpa using q
      exact ⟨_, rfl, .ref (by
        show (ρfix ++ [sa])[k]? = some a
        rw [List.getElem?_append_left (List.getElem?_eq_some_iff.mp this).1]; exact this)⟩
    · cases q
  · intro f i hf
    have q := List.all_eq_true.mp (kf w.params) _ (mem_lookup hf)
    unfold chkF at q
    split at q
    · rename_i a e
      simp only [Bool.and_eq_true, beq_iff_eq, decide_eq_true_eq] at q
      simp only at e
      have hi : i < progP.fns.length := by rw [len52]; exact q.2
      exact ⟨a, progP.fns[i], (hm f).trans e, List.getElem?_eq_getElem hi, hfn i a _ q.1 (List.getElem?_eq_getElem hi)⟩
    · cases q
  · intro f c hf
    have q := mem_lookup hf
    simp only [gtab, List.mem_cons, Prod.mk.injEq, List.not_mem_nil, or_false] at q
    have P := w.params
    rcases q with ⟨rfl, rfl⟩ | ⟨rfl, rfl⟩ | ⟨rfl, rfl⟩
    · exact ⟨109, 49, i_Geometry, 106, (hm _).trans (kcl w.params).1, rfl, c_geo.make _, c_geo.keep _, rfl, rfl, c_geo.init _, c_geo.type _, hfn 49 _ _ rfl rfl⟩
    · exact ⟨228, 50, i_Position, 225, (hm _).trans (kcl w.params).2.1, rfl, c_pos.make _, c_pos.keep _, rfl, rfl, c_pos.init _, c_pos.type _, hfn 50 _ _ rfl rfl⟩
    · exact ⟨389, 51, i_Zobrist, 386, (hm _).trans (kcl w.params).2.2, rfl, c_zob.make _, c_zob.keep _, rfl, rfl, c_zob.init _, c_zob.type _, hfn 51 _ _ rfl rfl⟩
  · intro x c hx
    show mg x = none ∧ mb x = some (biVal c)
    rw [hm]
    unfold biOf at hx
    have P := kbi w.params
    split at hx
    · rename_i e; cases hx; rw [beq_iff_eq.mp e]; exact ⟨P.1, (bu _ (by decide)).trans (by kernel_rfl)⟩
    split at hx
    · rename_i e; cases hx; rw [beq_iff_eq.mp e]; exact ⟨P.2.1, (bu _ (by decide)).trans (by kernel_rfl)⟩
    split at hx
    · rename_i e; cases hx; rw [beq_iff_eq.mp e]; exact ⟨P.2.2.1, (bu _ (by decide)).trans (by kernel_rfl)⟩
    split at hx
    · rename_i e; cases hx; rw [beq_iff_eq.mp e]; exact ⟨P.2.2.2.1, (bu _ (by decide)).trans (by kernel_rfl)⟩
    split at hx
    · rename_i e; cases hx; rw [beq_iff_eq.mp e]; exact ⟨P.2.2.2.2, (bu _ (by decide)).trans (by kernel_rfl)⟩
    cases hx
end Mine
end
section
open PySem PySem.W PyProof.Rows
set_option maxRecDepth 100000
namespace Mine
noncomputable def seqAt (K : Frag) (a : Addr) : List Value := match K.lookup a with | some ⟨_, _, .seq vs _, _⟩ => vs.toList | _ => []
noncomputable def tupOf (vs : List Value) : Obj := { cls := .type "tuple", dict := none, data := .seq (List.toArray vs) 0, slots := #[] }
noncomputable def vrB : V → Value → Bool
  | .int i, .int j _ => i == j
  | .ref k, .ref a => ρfix[k]? == some a
  | _, _ => false
noncomputable def vrsB : List V → List Value → Bool
  | [], [] => true
  | v :: vs, x :: xs => vrB v x && vrsB vs xs
  | _, _ => false
theorem vrB_ok (sa : Addr) {v : V} {x : Value} (h : vrB v x = true) : VR (ρfix ++ [sa]) v x := by
  unfold vrB at h
  split at h
  · have := beq_iff_eq.mp h; subst this; exact .int _ _
  · rename_i k a
    have : ρfix[k]? = some a := beq_iff_eq.mp h
    exact .ref (by rw [List.getElem?_append_left (List.getElem?_eq_some_iff.mp this).1]; exact this)
  · cases h
theorem vrsB_ok (sa : Addr) : ∀ {vs : List V} {xs : List Value}, vrsB vs xs = true → VRs (ρfix ++ [sa]) vs xs
  | [], [], _ => trivial
  | v :: vs, x :: xs, h => by
    simp only [vrsB, Bool.and_eq_true] at h
    exact ⟨vrB_ok sa h.1, vrsB_ok sa h.2⟩
  | [], _ :: _, h => by cases h
  | _ :: _, [], h => by cases h
structure TupK (K : Params → Frag) (a : Addr) (xs : List V) : Prop where
  o : ∀ P, (K P).lookup a = some (tupOf (seqAt (K P) a))
  v : ∀ P, vrsB xs (seqAt (K P) a) = true
theorem t91 : TupK Kf 91 ([0, 1, 0, -1, 1, 1, -1, -1].map .int) := ⟨fun P => by kernel_rfl, fun P => by kernel_rfl⟩
theorem t92 : TupK Kf 92 ([1, 0, -1, 0, 1, -1, -1, 1].map .int) := ⟨fun P => by kernel_rfl, fun P => by kernel_rfl⟩
theorem t398 : TupK Kf 398 [.ref 3, .ref 4, .ref 5, .ref 6] := ⟨fun P => by kernel_rfl, fun P => by kernel_rfl⟩
theorem t394 : TupK Kf 394 [.int 4, .int 4] := ⟨fun P => by kernel_rfl, fun P => by kernel_rfl⟩
theorem t395 : TupK Kf 395 [.int 3, .int 5] := ⟨fun P => by kernel_rfl, fun P => by kernel_rfl⟩
theorem t396 : TupK Kf 396 [.int 5, .int 4] := ⟨fun P => by kernel_rfl, fun P => by kernel_rfl⟩
theorem t397 : TupK Kf 397 [.int 4, .int 5] := ⟨fun P => by kernel_rfl, fun P => by kernel_rfl⟩
theorem TupK.ok {a : Addr} {xs : List V} (t : TupK Kf a xs) {prog : Program} {w : World} {h : Heap} {mg mb : Str → Option Value} {sa : Addr} (X : (Kf w.params).In h) :
    ∃ o, h.get? a = some o ∧ OM (conOf prog w h mg mb sa) (ρfix ++ [sa]) (.tup xs) o :=
  ⟨_, X _ _ (t.o w.params), _, _, rfl, vrsB_ok sa (t.v w.params)⟩
theorem vrs_ints {ρ : List Addr} : ∀ {vals : List Value} {xs : List Int}, IntsAre vals xs → VRs ρ (xs.map V.int) vals
  | _, _, .nil => trivial
  | _, _, .cons n t h => ⟨.int n t, vrs_ints h⟩
theorem inv0 {prog : Program} {w : World} {h : Heap} {mg mb : Str → Option Value} {sa : Addr} (X : (Kf w.params).In h) {vals : List Value} {xs : List Int}
    (hL : h.IsList sa vals.toArray) (hI : IntsAre vals xs) : Inv (conOf prog w h mg mb sa) (ρfix ++ [sa]) (base0 ++ [.clist (xs.map V.int)]) h := by
  have hsa : sa ∉ ρfix := by
    obtain ⟨o, ho, hc, _⟩ := hL
    intro hm
    have key : ∀ a xs, TupK Kf a xs → sa ≠ a := by
      intro a xs t e
      subst e
      have := X _ _ (t.o w.params)
      rw [ho] at this
      cases this
      exact absurd (Value.type.inj hc) (by decide)
    simp only [ρfix, List.mem_cons, List.not_mem_nil, or_false] at hm
    rcases hm with e | e | e | e | e | e | e
    · exact key _ _ t91 e
    · exact key _ _ t92 e
    · exact key _ _ t398 e
    · exact key _ _ t394 e
    · exact key _ _ t395 e
    · exact key _ _ t396 e
    · exact key _ _ t397 e
  refine ⟨rfl, List.prefix_refl _, ?_, ?_, ?_, fun _ _ e => e, ?_⟩
  · rw [List.nodup_append]
    refine ⟨by decide, by simp, ?_⟩
    intro a ha b hb e
    simp only [List.mem_singleton] at hb
    subst hb
    subst e
    exact hsa ha
  · intro k O a h1 h2
    match k, h1, h2 with
    | 0, h1, h2 => cases h1; cases h2; exact t91.ok X
    | 1, h1, h2 => cases h1; cases h2; exact t92.ok X
    | 2, h1, h2 => cases h1; cases h2; exact t398.ok X
    | 3, h1, h2 => cases h1; cases h2; exact t394.ok X
    | 4, h1, h2 => cases h1; cases h2; exact t395.ok X
    | 5, h1, h2 => cases h1; cases h2; exact t396.ok X
    | 6, h1, h2 => cases h1; cases h2; exact t397.ok X
    | 7, h1, h2 =>
      cases h1; cases h2
      obtain ⟨o, ho, hc, n, hd⟩ := hL
      exact ⟨o, ho, hc, vals, n, hd, vrs_ints hI⟩
    | n + 8, h1, h2 => cases h2
  · intro k hk
    have hk : k < 8 := hk
    match k, hk with
    | 0, _ => exact ⟨_, rfl, rfl⟩
    | 1, _ => exact ⟨_, rfl, rfl⟩
    | 2, _ => exact ⟨_, rfl, rfl⟩
    | 3, _ => exact ⟨_, rfl, rfl⟩
    | 4, _ => exact ⟨_, rfl, rfl⟩
    | 5, _ => exact ⟨_, rfl, rfl⟩
    | 6, _ => exact ⟨_, rfl, rfl⟩
    | 7, _ => exact ⟨_, rfl, rfl⟩
    | n + 8, h => exact absurd h (by omega)
  · intro k a hk hx
    have hk : 8 ≤ k := hk
    rw [List.getElem?_eq_none (by show 8 ≤ k; exact hk)] at hx
    cases hx
theorem klaw (P : Params) : nsAt (Kf P) 3 "law" = some (.ref 441) := by kernel_rfl
theorem aok : AOk callerA 400 := ⟨rfl, by decide +kernel, by decide +kernel⟩
set_option maxHeartbeats 0 in
theorem join (L : ∀ xs : List Int, xs.length ≤ 63 → ∃ H', callF progP 400 48 [.ref 7] (base0 ++ [.clist (xs.map V.int)]) = some (.bool true, H')) : PySem.Challenge.rw_nt0443_01.Holds := by
  refine head ?_
  intro w s₀ s₁ mg mb G Y fa o pm cd doc dV kV ho hd hcd hD hmg hg args vals as hpre hlay hrd hwl hlo
  have KX := kIn_of Y
  have hfa : fa = 441 := by
    have q := (nsAt_ok KX G.T.g (k3 w.params) _).symm.trans hmg
    have q2 := (klaw w.params).symm.trans q
    cases q2; rfl
  subst hfa
  refine Ground.open G ?_
  intro T B D TE TW
  clear hmg hd hcd hD ho
  wrow_args hpre hlay hrd hwl hlo
  rename_i xs _ _ _ _ _ _ _ sa vs _ hL ra w1 r0 hI hr hc1 hc2
  have hlen : xs.length ≤ 63 := by omega
  obtain ⟨H', hH⟩ := L xs hlen
  have TT := tabs PySem.Challenge.rw_nt0443_01.row.prog KX T.g T.b T.nolimit T.builtins sa
  have A := (all_ok TT 400 400 (Nat.le_refl _)).sc
  obtain ⟨a, d, h1, h2, h3⟩ := TT.fns "law" 48 rfl
  have ha : a = 441 := by
    have q := (nsAt_ok KX T.g (k3 w.params) "law").symm.trans h1
    have q2 := (klaw w.params).symm.trans q
    cases q2; rfl
  subst ha
  refine enter_call ?_
  refine codeAny_mono ?_ (fun _ _ g => GoodW.toG g)
  refine A 48 d 441 callerA s₁ (ρfix ++ [sa]) (base0 ++ [.clist (xs.map V.int)]) [.ref 7] [.ref sa] (.bool true) H' _ aok (inv0 KX hL hI) h2 h3 ⟨.ref rfl, trivial⟩ hH ?_
  intro h' tk ρ' v' hE hI' hv
  cases hv
  refine ⟨.inl ⟨_, .bool true, [], rfl, ?_, .bool true, ?_, fun _ => ⟨.nil, fun _ ha => nomatch ha⟩⟩, ?_, rfl, hg⟩
  · exact raisesW_false (by wrow_none_raised)
  · wrow_post
  · intro b o hb
    refine hE.keep b o ?_ hb
    show b ∉ (ρfix ++ [sa]).drop 8
    simp [ρfix]
end Mine
end
theorem PySem.Challenge.cw_nt0443_01_holds : PySem.Challenge.rw_nt0443_01.Holds :=
  Mine.join Mine.law_true
