import PyProof.Rows.All
import Wide.All
import OpenK.AllK
import Wide.FinOn
import PySem.Challenge.RW_nz0511_01
open PySem PySem.W PyProof.Rows
set_option Elab.async false
set_option autoImplicit false
set_option maxRecDepth 100000
set_option maxHeartbeats 4000000
namespace Mine
noncomputable section
noncomputable abbrev lf (P : Params) (o : Params → Obj) : BT := .node (o P) .nil .nil
noncomputable abbrev nd (P : Params) (o : Params → Obj) (l r : BT) : BT := .node (o P) l r
noncomputable abbrev oT (x : Array Value) : Obj := .mk (.type "tuple") none (.seq x) #[]
noncomputable abbrev oC (x : Array Value) : Obj := .mk (.type "code") none (.fields x) #[]
noncomputable abbrev oE (x : Array Value) : Obj := .mk .none none (.fields x) #[]
noncomputable abbrev pw : Program := PySem.Challenge.pw_nz0511_01
noncomputable def nth : List Stmt → Nat → Stmt
  | [], _ => .Pass ⟨0, 0, 0, 0⟩
  | a :: _, 0 => a
  | _ :: r, k + 1 => nth r k
noncomputable def sP : Stmt → Arguments
  | .FunctionDef _ p _ _ _ _ _ _ _ _ => p
  | _ => ⟨[], [], none, [], [], none, []⟩
noncomputable def sB : Stmt → List Stmt
  | .FunctionDef _ _ b _ _ _ _ _ _ _ => b
  | .ClassDef _ _ _ b _ _ _ _ _ _ _ => b
  | _ => []
noncomputable def sS : Stmt → Scope
  | .FunctionDef _ _ _ _ _ _ s _ _ _ => s
  | .ClassDef _ _ _ _ _ _ s _ _ _ _ => s
  | _ => pw.main.scope
noncomputable def bd : List Stmt := behindTheImports pw
noncomputable def hP (i : Nat) : Arguments := sP (nth bd i)
noncomputable def hB (i : Nat) : FuncBody := .stmts (sB (nth bd i))
noncomputable def hS (i : Nat) : Scope := sS (nth bd i)
noncomputable abbrev oF (a b : Str) (i : Nat) := FuncData.mk a b (hP i) (hB i) (hS i)
noncomputable def mP (i j : Nat) : Arguments := sP (nth (sB (nth bd i)) j)
noncomputable def mB (i j : Nat) : FuncBody := .stmts (sB (nth (sB (nth bd i)) j))
noncomputable def mS (i j : Nat) : Scope := sS (nth (sB (nth bd i)) j)
noncomputable def lifeE : Life := Life.mk [] [] [] 0 [] [] false #[] [] 0 false false false 0 [2000, 10, 10] false 0 true [] [] 0 false
noncomputable def env : Env := { scope := pw.main.scope, locals := mainNs, globals := mainNs, cells := [], code := .ref 13, frame := some 14 }
noncomputable def cd : Code := .body bd env
noncomputable def q0 : Pos := ⟨0, 0, 0, 0⟩
noncomputable def grp (a b : Nat) : List Stmt := (bd.drop a).take b
noncomputable def o11 (P : Params) : Obj := oT #[]
noncomputable def o12 (P : Params) : Obj := oE #[]
noncomputable def o13 (P : Params) : Obj := oC #[.str "<module>" 182, .str "<module>" 183, .str "/claim/cut.py" 184, .int 1 0, .int 0 0, .int 0 0, .int 0 0, .int 0 0, .ref 11, .bool false, .int 181 0, .ref 12, .none, .none, .none, .none, .int 185 0, .int 1 0, .str "/claim/cut.py" 186]
noncomputable def o14 (P : Params) : Obj := .mk (.type "frame") none .plain #[some (.ref 13), some (.ref 3), some (.ref 3), none, some (.str "__main__" 164), none, some (.ref 0)]
noncomputable def ha (P : Params) : Heap := Heap.mk (Array.mk [boot_o_0 P, boot_o_1 P, boot_o_2 P, boot_o_3 P, boot_o_4 P, boot_o_5 P, boot_o_6 P, boot_o_7 P, boot_o_8 P, boot_o_9 P, boot_o_10 P, o11 P, o12 P, o13 P, o14 P]) (Life.mk [] [] [] 0 [] [] false #[] [] 0 false false false 0 [2000, 10, 10] false 0 true [] [] 0 false)
noncomputable def sa (w : World) (os : OsState) : Shared := ⟨ha w.params, #[], ⟨0, 0, 0, 0⟩, 187, os⟩
noncomputable def tb (P : Params) : BT := (nd P boot_o_0 (nd P boot_o_1 (nd P boot_o_3 (lf P boot_o_7) (lf P o11)) (nd P boot_o_5 (lf P boot_o_9) (lf P o13))) (nd P boot_o_2 (nd P boot_o_4 (lf P boot_o_8) (lf P o12)) (nd P boot_o_6 (lf P boot_o_10) (lf P o14))))
noncomputable def sb (w : World) (os : OsState) : SharedT := ⟨tb w.params, 15, lifeE, #[], ⟨0, 0, 0, 0⟩, 187, os⟩
noncomputable def o3v0 (P : Params) : Obj := .mk (.type "dict") none (.dict #[.mk (PyData.keyHash P "__name__") (.str "__name__" 165) (.str "vectorcove.numtext" 278), .mk (PyData.keyHash P "__doc__") (.str "__doc__" 166) .none, .mk (PyData.keyHash P "__package__") (.str "__package__" 167) .none, .mk (PyData.keyHash P "__loader__") (.str "__loader__" 168) (.builtin "__main__.__loader__#opaque"), .mk (PyData.keyHash P "__spec__") (.str "__spec__" 169) .none, .mk (PyData.keyHash P "__annotations__") (.str "__annotations__" 170) (.ref 6), .mk (PyData.keyHash P "__builtins__") (.str "__builtins__" 171) (.ref 4), .mk (PyData.keyHash P "__file__") (.str "__file__" 173) (.str "/claim/cut.py" 172), .mk (PyData.keyHash P "__cached__") (.str "__cached__" 174) .none, .mk (PyData.keyHash P "_wall") (.str "_wall" 193) (.ref 21), .mk (PyData.keyHash P "NAN") (.str "NAN" 198) (.ref 22), .mk (PyData.keyHash P "INF") (.str "INF" 201) (.ref 23), .mk (PyData.keyHash P "ZERO") (.str "ZERO" 204) (.ref 24), .mk (PyData.keyHash P "gcd") (.str "gcd" 212) (.ref 31), .mk (PyData.keyHash P "make") (.str "make" 221) (.ref 38), .mk (PyData.keyHash P "from_int") (.str "from_int" 228) (.ref 45), .mk (PyData.keyHash P "is_na") (.str "is_na" 235) (.ref 52), .mk (PyData.keyHash P "is_finite") (.str "is_finite" 242) (.ref 59), .mk (PyData.keyHash P "neg") (.str "neg" 249) (.ref 66), .mk (PyData.keyHash P "to_whole") (.str "to_whole" 257) (.ref 73), .mk (PyData.keyHash P "nearest_whole") (.str "nearest_whole" 267) (.ref 80), .mk (PyData.keyHash P "exponent") (.str "exponent" 277) (.ref 87), .mk (PyData.keyHash P "MOST_EXPONENT") (.str "MOST_EXPONENT" 281) (.int 4096 280), .mk (PyData.keyHash P "whole_text") (.str "whole_text" 291) (.ref 94)] 24) #[]
noncomputable def o12v1 (P : Params) : Obj := oE #[.int 1 0, .int 0 0, .ref 20, .int 8 0, .int 0 0, .ref 30, .int 12 0, .int 0 0, .ref 37, .int 22 0, .int 0 0, .ref 44, .int 26 0, .int 0 0, .ref 51, .int 28 0, .int 0 0, .ref 58, .int 30 0, .int 0 0, .ref 65, .int 34 0, .int 0 0, .ref 72, .int 39 0, .int 0 0, .ref 79, .int 45 0, .int 0 0, .ref 86, .int 58 0, .int 0 0, .ref 93]
noncomputable def o15 (P : Params) : Obj := oT #[]
noncomputable def o16 (P : Params) : Obj := oE #[]
noncomputable def o17 (P : Params) : Obj := oT #[.str "k" 190]
noncomputable def o18 (P : Params) : Obj := oT #[]
noncomputable def o19 (P : Params) : Obj := .mk .none none (.func (oF "_wall" "_wall" 0 0 [] .none .none .none .none none .none .none 0)) #[]
noncomputable def o20 (P : Params) : Obj := oC #[.str "_wall" 187, .str "_wall" 188, .str "/claim/cut.py" 189, .int 1 0, .int 1 0, .int 0 0, .int 0 0, .int 3 0, .ref 15, .bool true, .int 181 0, .ref 16, .none, .ref 17, .ref 18, .ref 19, .int 191 0, .int 1 0, .str "/claim/cut.py" 192]
noncomputable def o21 (P : Params) : Obj := .mk (.type "function") none (.func (oF "_wall" "_wall" 0 3 [] .none .none .none (.str "__main__" 164) none (.ref 20) .none 0)) #[]
noncomputable def o22 (P : Params) : Obj := oT #[.int 0 196, .int 0 197]
noncomputable def o23 (P : Params) : Obj := oT #[.int 1 199, .int 0 200]
noncomputable def o24 (P : Params) : Obj := oT #[.int 0 202, .int 1 203]
noncomputable def o25 (P : Params) : Obj := oT #[]
noncomputable def o26 (P : Params) : Obj := oE #[]
noncomputable def o27 (P : Params) : Obj := oT #[.str "a" 208, .str "b" 209]
noncomputable def o28 (P : Params) : Obj := oT #[]
noncomputable def o29 (P : Params) : Obj := .mk .none none (.func (oF "gcd" "gcd" 5 0 [] .none .none .none .none none .none .none 0)) #[]
noncomputable def o30 (P : Params) : Obj := oC #[.str "gcd" 205, .str "gcd" 206, .str "/claim/cut.py" 207, .int 8 0, .int 2 0, .int 0 0, .int 0 0, .int 3 0, .ref 25, .bool true, .int 181 0, .ref 26, .none, .ref 27, .ref 28, .ref 29, .int 210 0, .int 8 0, .str "/claim/cut.py" 211]
noncomputable def o31 (P : Params) : Obj := .mk (.type "function") none (.func (oF "gcd" "gcd" 5 3 [] .none .none .none (.str "vectorcove.rational" 194) none (.ref 30) .none 0)) #[]
noncomputable def o32 (P : Params) : Obj := oT #[]
noncomputable def o33 (P : Params) : Obj := oE #[]
noncomputable def o34 (P : Params) : Obj := oT #[.str "n" 216, .str "d" 217, .str "common" 218]
noncomputable def o35 (P : Params) : Obj := oT #[]
noncomputable def o36 (P : Params) : Obj := .mk .none none (.func (oF "make" "make" 6 0 [] .none .none .none .none none .none .none 0)) #[]
noncomputable def o37 (P : Params) : Obj := oC #[.str "make" 213, .str "make" 214, .str "/claim/cut.py" 215, .int 12 0, .int 2 0, .int 0 0, .int 0 0, .int 3 0, .ref 32, .bool true, .int 181 0, .ref 33, .none, .ref 34, .ref 35, .ref 36, .int 219 0, .int 12 0, .str "/claim/cut.py" 220]
noncomputable def o38 (P : Params) : Obj := .mk (.type "function") none (.func (oF "make" "make" 6 3 [] .none .none .none (.str "vectorcove.rational" 194) none (.ref 37) .none 0)) #[]
noncomputable def o39 (P : Params) : Obj := oT #[]
noncomputable def o40 (P : Params) : Obj := oE #[]
noncomputable def o41 (P : Params) : Obj := oT #[.str "n" 225]
noncomputable def o42 (P : Params) : Obj := oT #[]
noncomputable def o43 (P : Params) : Obj := .mk .none none (.func (oF "from_int" "from_int" 7 0 [] .none .none .none .none none .none .none 0)) #[]
noncomputable def o44 (P : Params) : Obj := oC #[.str "from_int" 222, .str "from_int" 223, .str "/claim/cut.py" 224, .int 22 0, .int 1 0, .int 0 0, .int 0 0, .int 3 0, .ref 39, .bool true, .int 181 0, .ref 40, .none, .ref 41, .ref 42, .ref 43, .int 226 0, .int 22 0, .str "/claim/cut.py" 227]
noncomputable def o45 (P : Params) : Obj := .mk (.type "function") none (.func (oF "from_int" "from_int" 7 3 [] .none .none .none (.str "vectorcove.rational" 194) none (.ref 44) .none 0)) #[]
noncomputable def o46 (P : Params) : Obj := oT #[]
noncomputable def o47 (P : Params) : Obj := oE #[]
noncomputable def o48 (P : Params) : Obj := oT #[.str "x" 232]
noncomputable def o49 (P : Params) : Obj := oT #[]
noncomputable def o50 (P : Params) : Obj := .mk .none none (.func (oF "is_na" "is_na" 8 0 [] .none .none .none .none none .none .none 0)) #[]
noncomputable def o51 (P : Params) : Obj := oC #[.str "is_na" 229, .str "is_na" 230, .str "/claim/cut.py" 231, .int 26 0, .int 1 0, .int 0 0, .int 0 0, .int 3 0, .ref 46, .bool true, .int 181 0, .ref 47, .none, .ref 48, .ref 49, .ref 50, .int 233 0, .int 26 0, .str "/claim/cut.py" 234]
noncomputable def o52 (P : Params) : Obj := .mk (.type "function") none (.func (oF "is_na" "is_na" 8 3 [] .none .none .none (.str "vectorcove.rational" 194) none (.ref 51) .none 0)) #[]
noncomputable def o53 (P : Params) : Obj := oT #[]
noncomputable def o54 (P : Params) : Obj := oE #[]
noncomputable def o55 (P : Params) : Obj := oT #[.str "x" 239]
noncomputable def o56 (P : Params) : Obj := oT #[]
noncomputable def o57 (P : Params) : Obj := .mk .none none (.func (.mk "is_finite" "is_finite" (hP 9) (hB 9) (hS 8) 0 [] .none .none .none .none none .none .none 0)) #[]
noncomputable def o58 (P : Params) : Obj := oC #[.str "is_finite" 236, .str "is_finite" 237, .str "/claim/cut.py" 238, .int 28 0, .int 1 0, .int 0 0, .int 0 0, .int 3 0, .ref 53, .bool true, .int 181 0, .ref 54, .none, .ref 55, .ref 56, .ref 57, .int 240 0, .int 28 0, .str "/claim/cut.py" 241]
noncomputable def o59 (P : Params) : Obj := .mk (.type "function") none (.func (.mk "is_finite" "is_finite" (hP 9) (hB 9) (hS 8) 3 [] .none .none .none (.str "vectorcove.rational" 194) none (.ref 58) .none 0)) #[]
noncomputable def o60 (P : Params) : Obj := oT #[]
noncomputable def o61 (P : Params) : Obj := oE #[]
noncomputable def o62 (P : Params) : Obj := oT #[.str "x" 246]
noncomputable def o63 (P : Params) : Obj := oT #[]
noncomputable def o64 (P : Params) : Obj := .mk .none none (.func (.mk "neg" "neg" (hP 10) (hB 10) (hS 8) 0 [] .none .none .none .none none .none .none 0)) #[]
noncomputable def o65 (P : Params) : Obj := oC #[.str "neg" 243, .str "neg" 244, .str "/claim/cut.py" 245, .int 30 0, .int 1 0, .int 0 0, .int 0 0, .int 3 0, .ref 60, .bool true, .int 181 0, .ref 61, .none, .ref 62, .ref 63, .ref 64, .int 247 0, .int 30 0, .str "/claim/cut.py" 248]
noncomputable def o66 (P : Params) : Obj := .mk (.type "function") none (.func (.mk "neg" "neg" (hP 10) (hB 10) (hS 8) 3 [] .none .none .none (.str "vectorcove.rational" 194) none (.ref 65) .none 0)) #[]
noncomputable def o67 (P : Params) : Obj := oT #[]
noncomputable def o68 (P : Params) : Obj := oE #[]
noncomputable def o69 (P : Params) : Obj := oT #[.str "x" 253, .str "found" 254]
noncomputable def o70 (P : Params) : Obj := oT #[]
noncomputable def o71 (P : Params) : Obj := .mk .none none (.func (oF "to_whole" "to_whole" 11 0 [] .none .none .none .none none .none .none 0)) #[]
noncomputable def o72 (P : Params) : Obj := oC #[.str "to_whole" 250, .str "to_whole" 251, .str "/claim/cut.py" 252, .int 34 0, .int 1 0, .int 0 0, .int 0 0, .int 3 0, .ref 67, .bool true, .int 181 0, .ref 68, .none, .ref 69, .ref 70, .ref 71, .int 255 0, .int 34 0, .str "/claim/cut.py" 256]
noncomputable def o73 (P : Params) : Obj := .mk (.type "function") none (.func (oF "to_whole" "to_whole" 11 3 [] .none .none .none (.str "vectorcove.rational" 194) none (.ref 72) .none 0)) #[]
noncomputable def o74 (P : Params) : Obj := oT #[]
noncomputable def o75 (P : Params) : Obj := oE #[]
noncomputable def o76 (P : Params) : Obj := oT #[.str "n" 261, .str "d" 262, .str "low" 263, .str "rest" 264]
noncomputable def o77 (P : Params) : Obj := oT #[]
noncomputable def o78 (P : Params) : Obj := .mk .none none (.func (oF "nearest_whole" "nearest_whole" 12 0 [] .none .none .none .none none .none .none 0)) #[]
noncomputable def o79 (P : Params) : Obj := oC #[.str "nearest_whole" 258, .str "nearest_whole" 259, .str "/claim/cut.py" 260, .int 39 0, .int 2 0, .int 0 0, .int 0 0, .int 3 0, .ref 74, .bool true, .int 181 0, .ref 75, .none, .ref 76, .ref 77, .ref 78, .int 265 0, .int 39 0, .str "/claim/cut.py" 266]
noncomputable def o80 (P : Params) : Obj := .mk (.type "function") none (.func (oF "nearest_whole" "nearest_whole" 12 3 [] .none .none .none (.str "vectorcove.rational" 194) none (.ref 79) .none 0)) #[]
noncomputable def o81 (P : Params) : Obj := oT #[]
noncomputable def o82 (P : Params) : Obj := oE #[]
noncomputable def o83 (P : Params) : Obj := oT #[.str "x" 271, .str "n" 272, .str "d" 273, .str "e" 274]
noncomputable def o84 (P : Params) : Obj := oT #[]
noncomputable def o85 (P : Params) : Obj := .mk .none none (.func (oF "exponent" "exponent" 13 0 [] .none .none .none .none none .none .none 0)) #[]
noncomputable def o86 (P : Params) : Obj := oC #[.str "exponent" 268, .str "exponent" 269, .str "/claim/cut.py" 270, .int 45 0, .int 1 0, .int 0 0, .int 0 0, .int 3 0, .ref 81, .bool true, .int 181 0, .ref 82, .none, .ref 83, .ref 84, .ref 85, .int 275 0, .int 45 0, .str "/claim/cut.py" 276]
noncomputable def o87 (P : Params) : Obj := .mk (.type "function") none (.func (oF "exponent" "exponent" 13 3 [] .none .none .none (.str "vectorcove.rational" 194) none (.ref 86) .none 0)) #[]
noncomputable def o88 (P : Params) : Obj := oT #[]
noncomputable def o89 (P : Params) : Obj := oE #[]
noncomputable def o90 (P : Params) : Obj := oT #[.str "n" 285, .str "rest" 286, .str "row" 287, .str "part" 288]
noncomputable def o91 (P : Params) : Obj := oT #[]
noncomputable def o92 (P : Params) : Obj := .mk .none none (.func (oF "whole_text" "whole_text" 16 0 [] .none .none .none .none none .none .none 0)) #[]
noncomputable def o93 (P : Params) : Obj := oC #[.str "whole_text" 282, .str "whole_text" 283, .str "/claim/cut.py" 284, .int 58 0, .int 1 0, .int 0 0, .int 0 0, .int 3 0, .ref 88, .bool true, .int 181 0, .ref 89, .none, .ref 90, .ref 91, .ref 92, .int 289 0, .int 58 0, .str "/claim/cut.py" 290]
noncomputable def o94 (P : Params) : Obj := .mk (.type "function") none (.func (oF "whole_text" "whole_text" 16 3 [] .none .none .none (.str "vectorcove.numtext" 278) none (.ref 93) .none 0)) #[]
noncomputable def t0 (P : Params) : BT := (nd P boot_o_0 (nd P boot_o_1 (nd P o3v0 (nd P boot_o_7 (nd P o15 (nd P o31 (lf P o63) .nil) (nd P o47 (lf P o79) .nil)) (nd P o23 (nd P o39 (lf P o71) .nil) (nd P o55 (lf P o87) .nil))) (nd P o11 (nd P o19 (nd P o35 (lf P o67) .nil) (nd P o51 (lf P o83) .nil)) (nd P o27 (nd P o43 (lf P o75) .nil) (nd P o59 (lf P o91) .nil)))) (nd P boot_o_5 (nd P boot_o_9 (nd P o17 (nd P o33 (lf P o65) .nil) (nd P o49 (lf P o81) .nil)) (nd P o25 (nd P o41 (lf P o73) .nil) (nd P o57 (lf P o89) .nil))) (nd P o13 (nd P o21 (nd P o37 (lf P o69) .nil) (nd P o53 (lf P o85) .nil)) (nd P o29 (nd P o45 (lf P o77) .nil) (nd P o61 (lf P o93) .nil))))) (nd P boot_o_2 (nd P boot_o_4 (nd P boot_o_8 (nd P o16 (nd P o32 (lf P o64) .nil) (nd P o48 (lf P o80) .nil)) (nd P o24 (nd P o40 (lf P o72) .nil) (nd P o56 (lf P o88) .nil))) (nd P o12v1 (nd P o20 (nd P o36 (lf P o68) .nil) (nd P o52 (lf P o84) .nil)) (nd P o28 (nd P o44 (lf P o76) .nil) (nd P o60 (lf P o92) .nil)))) (nd P boot_o_6 (nd P boot_o_10 (nd P o18 (nd P o34 (lf P o66) .nil) (nd P o50 (lf P o82) .nil)) (nd P o26 (nd P o42 (lf P o74) .nil) (nd P o58 (lf P o90) .nil))) (nd P o14 (nd P o22 (nd P o38 (lf P o70) .nil) (nd P o54 (lf P o86) .nil)) (nd P o30 (nd P o46 (lf P o78) .nil) (nd P o62 (lf P o94) .nil))))))
noncomputable def s0 (w : World) (os : OsState) : SharedT := ⟨t0 w.params, 95, lifeE, #[], ⟨0, 0, 0, 0⟩, 292, os⟩
noncomputable def o3v2 (P : Params) : Obj := .mk (.type "dict") none (.dict #[.mk (PyData.keyHash P "__name__") (.str "__name__" 165) (.str "vectorcove.numtext" 278), .mk (PyData.keyHash P "__doc__") (.str "__doc__" 166) .none, .mk (PyData.keyHash P "__package__") (.str "__package__" 167) .none, .mk (PyData.keyHash P "__loader__") (.str "__loader__" 168) (.builtin "__main__.__loader__#opaque"), .mk (PyData.keyHash P "__spec__") (.str "__spec__" 169) .none, .mk (PyData.keyHash P "__annotations__") (.str "__annotations__" 170) (.ref 6), .mk (PyData.keyHash P "__builtins__") (.str "__builtins__" 171) (.ref 4), .mk (PyData.keyHash P "__file__") (.str "__file__" 173) (.str "/claim/cut.py" 172), .mk (PyData.keyHash P "__cached__") (.str "__cached__" 174) .none, .mk (PyData.keyHash P "_wall") (.str "_wall" 193) (.ref 21), .mk (PyData.keyHash P "NAN") (.str "NAN" 198) (.ref 22), .mk (PyData.keyHash P "INF") (.str "INF" 201) (.ref 23), .mk (PyData.keyHash P "ZERO") (.str "ZERO" 204) (.ref 24), .mk (PyData.keyHash P "gcd") (.str "gcd" 212) (.ref 31), .mk (PyData.keyHash P "make") (.str "make" 221) (.ref 38), .mk (PyData.keyHash P "from_int") (.str "from_int" 228) (.ref 45), .mk (PyData.keyHash P "is_na") (.str "is_na" 235) (.ref 52), .mk (PyData.keyHash P "is_finite") (.str "is_finite" 242) (.ref 59), .mk (PyData.keyHash P "neg") (.str "neg" 249) (.ref 66), .mk (PyData.keyHash P "to_whole") (.str "to_whole" 257) (.ref 73), .mk (PyData.keyHash P "nearest_whole") (.str "nearest_whole" 267) (.ref 80), .mk (PyData.keyHash P "exponent") (.str "exponent" 277) (.ref 87), .mk (PyData.keyHash P "MOST_EXPONENT") (.str "MOST_EXPONENT" 281) (.int 4096 280), .mk (PyData.keyHash P "whole_text") (.str "whole_text" 291) (.ref 94), .mk (PyData.keyHash P "special_text") (.str "special_text" 298) (.ref 101), .mk (PyData.keyHash P "scaled") (.str "scaled" 308) (.ref 108), .mk (PyData.keyHash P "significant") (.str "significant" 318) (.ref 115), .mk (PyData.keyHash P "without_tail") (.str "without_tail" 326) (.ref 122), .mk (PyData.keyHash P "scientific_text") (.str "scientific_text" 338) (.ref 129), .mk (PyData.keyHash P "fixed_text") (.str "fixed_text" 348) (.ref 136), .mk (PyData.keyHash P "measures") (.str "measures" 361) (.ref 143), .mk (PyData.keyHash P "chosen_form") (.str "chosen_form" 378) (.ref 150), .mk (PyData.keyHash P "formed") (.str "formed" 387) (.ref 157), .mk (PyData.keyHash P "common_texts") (.str "common_texts" 393) (.ref 162), .mk (PyData.keyHash P "number_text") (.str "number_text" 402) (.ref 170), .mk (PyData.keyHash P "digits_value") (.str "digits_value" 412) (.ref 177)] 36) #[]
noncomputable def o12v3 (P : Params) : Obj := oE #[.int 1 0, .int 0 0, .ref 20, .int 8 0, .int 0 0, .ref 30, .int 12 0, .int 0 0, .ref 37, .int 22 0, .int 0 0, .ref 44, .int 26 0, .int 0 0, .ref 51, .int 28 0, .int 0 0, .ref 58, .int 30 0, .int 0 0, .ref 65, .int 34 0, .int 0 0, .ref 72, .int 39 0, .int 0 0, .ref 79, .int 45 0, .int 0 0, .ref 86, .int 58 0, .int 0 0, .ref 93, .int 69 0, .int 0 0, .ref 100, .int 77 0, .int 0 0, .ref 107, .int 82 0, .int 0 0, .ref 114, .int 91 0, .int 0 0, .ref 121, .int 96 0, .int 0 0, .ref 128, .int 103 0, .int 0 0, .ref 135, .int 111 0, .int 0 0, .ref 142, .int 118 0, .int 0 0, .ref 149, .int 138 0, .int 0 0, .ref 156, .int 145 0, .int 0 0, .ref 161, .int 149 0, .int 0 0, .ref 169, .int 151 0, .int 0 0, .ref 176]
noncomputable def o95 (P : Params) : Obj := oT #[]
noncomputable def o96 (P : Params) : Obj := oE #[]
noncomputable def o97 (P : Params) : Obj := oT #[.str "x" 295]
noncomputable def o98 (P : Params) : Obj := oT #[]
noncomputable def o99 (P : Params) : Obj := .mk .none none (.func (.mk "special_text" "special_text" (hP 17) (hB 17) (hS 8) 0 [] .none .none .none .none none .none .none 0)) #[]
noncomputable def o100 (P : Params) : Obj := oC #[.str "special_text" 292, .str "special_text" 293, .str "/claim/cut.py" 294, .int 69 0, .int 1 0, .int 0 0, .int 0 0, .int 3 0, .ref 95, .bool true, .int 181 0, .ref 96, .none, .ref 97, .ref 98, .ref 99, .int 296 0, .int 69 0, .str "/claim/cut.py" 297]
noncomputable def o101 (P : Params) : Obj := .mk (.type "function") none (.func (.mk "special_text" "special_text" (hP 17) (hB 17) (hS 8) 3 [] .none .none .none (.str "vectorcove.numtext" 278) none (.ref 100) .none 0)) #[]
noncomputable def o102 (P : Params) : Obj := oT #[]
noncomputable def o103 (P : Params) : Obj := oE #[]
noncomputable def o104 (P : Params) : Obj := oT #[.str "x" 302, .str "e" 303, .str "digits" 304, .str "shift" 305]
noncomputable def o105 (P : Params) : Obj := oT #[]
noncomputable def o106 (P : Params) : Obj := .mk .none none (.func (oF "scaled" "scaled" 18 0 [] .none .none .none .none none .none .none 0)) #[]
noncomputable def o107 (P : Params) : Obj := oC #[.str "scaled" 299, .str "scaled" 300, .str "/claim/cut.py" 301, .int 77 0, .int 3 0, .int 0 0, .int 0 0, .int 3 0, .ref 102, .bool true, .int 181 0, .ref 103, .none, .ref 104, .ref 105, .ref 106, .int 306 0, .int 77 0, .str "/claim/cut.py" 307]
noncomputable def o108 (P : Params) : Obj := .mk (.type "function") none (.func (oF "scaled" "scaled" 18 3 [] .none .none .none (.str "vectorcove.numtext" 278) none (.ref 107) .none 0)) #[]
noncomputable def o109 (P : Params) : Obj := oT #[]
noncomputable def o110 (P : Params) : Obj := oE #[]
noncomputable def o111 (P : Params) : Obj := oT #[.str "x" 312, .str "digits" 313, .str "e" 314, .str "n" 315]
noncomputable def o112 (P : Params) : Obj := oT #[]
noncomputable def o113 (P : Params) : Obj := .mk .none none (.func (oF "significant" "significant" 19 0 [] .none .none .none .none none .none .none 0)) #[]
noncomputable def o114 (P : Params) : Obj := oC #[.str "significant" 309, .str "significant" 310, .str "/claim/cut.py" 311, .int 82 0, .int 2 0, .int 0 0, .int 0 0, .int 3 0, .ref 109, .bool true, .int 181 0, .ref 110, .none, .ref 111, .ref 112, .ref 113, .int 316 0, .int 82 0, .str "/claim/cut.py" 317]
noncomputable def o115 (P : Params) : Obj := .mk (.type "function") none (.func (oF "significant" "significant" 19 3 [] .none .none .none (.str "vectorcove.numtext" 278) none (.ref 114) .none 0)) #[]
noncomputable def o116 (P : Params) : Obj := oT #[]
noncomputable def o117 (P : Params) : Obj := oE #[]
noncomputable def o118 (P : Params) : Obj := oT #[.str "text" 322, .str "end" 323]
noncomputable def o119 (P : Params) : Obj := oT #[]
noncomputable def o120 (P : Params) : Obj := .mk .none none (.func (oF "without_tail" "without_tail" 20 0 [] .none .none .none .none none .none .none 0)) #[]
noncomputable def o121 (P : Params) : Obj := oC #[.str "without_tail" 319, .str "without_tail" 320, .str "/claim/cut.py" 321, .int 91 0, .int 1 0, .int 0 0, .int 0 0, .int 3 0, .ref 116, .bool true, .int 181 0, .ref 117, .none, .ref 118, .ref 119, .ref 120, .int 324 0, .int 91 0, .str "/claim/cut.py" 325]
noncomputable def o122 (P : Params) : Obj := .mk (.type "function") none (.func (oF "without_tail" "without_tail" 20 3 [] .none .none .none (.str "vectorcove.numtext" 278) none (.ref 121) .none 0)) #[]
noncomputable def o123 (P : Params) : Obj := oT #[]
noncomputable def o124 (P : Params) : Obj := oE #[]
noncomputable def o125 (P : Params) : Obj := oT #[.str "x" 330, .str "digits" 331, .str "side" 332, .str "text" 333, .str "e" 334, .str "row" 335]
noncomputable def o126 (P : Params) : Obj := oT #[]
noncomputable def o127 (P : Params) : Obj := .mk .none none (.func (oF "scientific_text" "scientific_text" 21 0 [] .none .none .none .none none .none .none 0)) #[]
noncomputable def o128 (P : Params) : Obj := oC #[.str "scientific_text" 327, .str "scientific_text" 328, .str "/claim/cut.py" 329, .int 96 0, .int 2 0, .int 0 0, .int 0 0, .int 3 0, .ref 123, .bool true, .int 181 0, .ref 124, .none, .ref 125, .ref 126, .ref 127, .int 336 0, .int 96 0, .str "/claim/cut.py" 337]
noncomputable def o129 (P : Params) : Obj := .mk (.type "function") none (.func (oF "scientific_text" "scientific_text" 21 3 [] .none .none .none (.str "vectorcove.numtext" 278) none (.ref 128) .none 0)) #[]
noncomputable def o130 (P : Params) : Obj := oT #[]
noncomputable def o131 (P : Params) : Obj := oE #[]
noncomputable def o132 (P : Params) : Obj := oT #[.str "x" 342, .str "places" 343, .str "n" 344, .str "text" 345]
noncomputable def o133 (P : Params) : Obj := oT #[]
noncomputable def o134 (P : Params) : Obj := .mk .none none (.func (oF "fixed_text" "fixed_text" 22 0 [] .none .none .none .none none .none .none 0)) #[]
noncomputable def o135 (P : Params) : Obj := oC #[.str "fixed_text" 339, .str "fixed_text" 340, .str "/claim/cut.py" 341, .int 103 0, .int 2 0, .int 0 0, .int 0 0, .int 3 0, .ref 130, .bool true, .int 181 0, .ref 131, .none, .ref 132, .ref 133, .ref 134, .int 346 0, .int 103 0, .str "/claim/cut.py" 347]
noncomputable def o136 (P : Params) : Obj := .mk (.type "function") none (.func (oF "fixed_text" "fixed_text" 22 3 [] .none .none .none (.str "vectorcove.numtext" 278) none (.ref 135) .none 0)) #[]
noncomputable def o137 (P : Params) : Obj := oT #[]
noncomputable def o138 (P : Params) : Obj := oE #[]
noncomputable def o139 (P : Params) : Obj := oT #[.str "x" 352, .str "digits" 353, .str "side" 354, .str "text" 355, .str "e" 356, .str "count" 357, .str "left" 358]
noncomputable def o140 (P : Params) : Obj := oT #[]
noncomputable def o141 (P : Params) : Obj := .mk .none none (.func (oF "measures" "measures" 23 0 [] .none .none .none .none none .none .none 0)) #[]
noncomputable def o142 (P : Params) : Obj := oC #[.str "measures" 349, .str "measures" 350, .str "/claim/cut.py" 351, .int 111 0, .int 2 0, .int 0 0, .int 0 0, .int 3 0, .ref 137, .bool true, .int 181 0, .ref 138, .none, .ref 139, .ref 140, .ref 141, .int 359 0, .int 111 0, .str "/claim/cut.py" 360]
noncomputable def o143 (P : Params) : Obj := .mk (.type "function") none (.func (oF "measures" "measures" 23 3 [] .none .none .none (.str "vectorcove.numtext" 278) none (.ref 142) .none 0)) #[]
noncomputable def o144 (P : Params) : Obj := oT #[]
noncomputable def o145 (P : Params) : Obj := oE #[]
noncomputable def o146 (P : Params) : Obj := oT #[.str "xs" 365, .str "digits" 366, .str "count" 367, .str "left" 368, .str "places" 369, .str "wide" 370, .str "minus" 371, .str "x" 372, .str "row" 373, .str "fixed_width" 374, .str "scientific_width" 375]
noncomputable def o147 (P : Params) : Obj := oT #[]
noncomputable def o148 (P : Params) : Obj := .mk .none none (.func (oF "chosen_form" "chosen_form" 24 0 [] .none .none .none .none none .none .none 0)) #[]
noncomputable def o149 (P : Params) : Obj := oC #[.str "chosen_form" 362, .str "chosen_form" 363, .str "/claim/cut.py" 364, .int 118 0, .int 2 0, .int 0 0, .int 0 0, .int 3 0, .ref 144, .bool true, .int 181 0, .ref 145, .none, .ref 146, .ref 147, .ref 148, .int 376 0, .int 118 0, .str "/claim/cut.py" 377]
noncomputable def o150 (P : Params) : Obj := .mk (.type "function") none (.func (oF "chosen_form" "chosen_form" 24 3 [] .none .none .none (.str "vectorcove.numtext" 278) none (.ref 149) .none 0)) #[]
noncomputable def o151 (P : Params) : Obj := oT #[]
noncomputable def o152 (P : Params) : Obj := oE #[]
noncomputable def o153 (P : Params) : Obj := oT #[.str "x" 382, .str "form" 383, .str "text" 384]
noncomputable def o154 (P : Params) : Obj := oT #[]
noncomputable def o155 (P : Params) : Obj := .mk .none none (.func (oF "formed" "formed" 25 0 [] .none .none .none .none none .none .none 0)) #[]
noncomputable def o156 (P : Params) : Obj := oC #[.str "formed" 379, .str "formed" 380, .str "/claim/cut.py" 381, .int 138 0, .int 2 0, .int 0 0, .int 0 0, .int 3 0, .ref 151, .bool true, .int 181 0, .ref 152, .none, .ref 153, .ref 154, .ref 155, .int 385 0, .int 138 0, .str "/claim/cut.py" 386]
noncomputable def o157 (P : Params) : Obj := .mk (.type "function") none (.func (oF "formed" "formed" 25 3 [] .none .none .none (.str "vectorcove.numtext" 278) none (.ref 156) .none 0)) #[]
noncomputable def o158 (P : Params) : Obj := oT #[]
noncomputable def o159 (P : Params) : Obj := oE #[]
noncomputable def o160 (P : Params) : Obj := .mk .none none (.func (oF "common_texts" "common_texts" 26 0 [] .none .none .none .none none .none .none 0)) #[]
noncomputable def o161 (P : Params) : Obj := oC #[.str "common_texts" 388, .str "common_texts" 389, .str "/claim/cut.py" 390, .int 145 0, .int 2 0, .int 0 0, .int 0 0, .int 3 0, .ref 158, .bool true, .int 181 0, .ref 159, .none, .none, .none, .ref 160, .int 391 0, .int 145 0, .str "/claim/cut.py" 392]
noncomputable def o162 (P : Params) : Obj := .mk (.type "function") none (.func (oF "common_texts" "common_texts" 26 3 [] .none .none .none (.str "vectorcove.numtext" 278) none (.ref 161) .none 0)) #[]
noncomputable def o163 (P : Params) : Obj := oT #[.int 7 394]
noncomputable def o164 (P : Params) : Obj := oT #[]
noncomputable def o165 (P : Params) : Obj := oE #[]
noncomputable def o166 (P : Params) : Obj := oT #[.str "x" 398, .str "digits" 399]
noncomputable def o167 (P : Params) : Obj := oT #[]
noncomputable def o168 (P : Params) : Obj := .mk .none none (.func (oF "number_text" "number_text" 27 0 [] .none .none .none .none none .none .none 0)) #[]
noncomputable def o169 (P : Params) : Obj := oC #[.str "number_text" 395, .str "number_text" 396, .str "/claim/cut.py" 397, .int 149 0, .int 2 0, .int 0 0, .int 0 0, .int 3 0, .ref 164, .bool true, .int 181 0, .ref 165, .none, .ref 166, .ref 167, .ref 168, .int 400 0, .int 149 0, .str "/claim/cut.py" 401]
noncomputable def o170 (P : Params) : Obj := .mk (.type "function") none (.func (oF "number_text" "number_text" 27 3 [] (.ref 163) .none .none (.str "vectorcove.numtext" 278) none (.ref 169) .none 0)) #[]
noncomputable def o171 (P : Params) : Obj := oT #[]
noncomputable def o172 (P : Params) : Obj := oE #[]
noncomputable def o173 (P : Params) : Obj := oT #[.str "text" 406, .str "base" 407, .str "value" 408, .str "char" 409]
noncomputable def o174 (P : Params) : Obj := oT #[]
noncomputable def o175 (P : Params) : Obj := .mk .none none (.func (oF "digits_value" "digits_value" 28 0 [] .none .none .none .none none .none .none 0)) #[]
noncomputable def o176 (P : Params) : Obj := oC #[.str "digits_value" 403, .str "digits_value" 404, .str "/claim/cut.py" 405, .int 151 0, .int 2 0, .int 0 0, .int 0 0, .int 3 0, .ref 171, .bool true, .int 181 0, .ref 172, .none, .ref 173, .ref 174, .ref 175, .int 410 0, .int 151 0, .str "/claim/cut.py" 411]
noncomputable def o177 (P : Params) : Obj := .mk (.type "function") none (.func (oF "digits_value" "digits_value" 28 3 [] .none .none .none (.str "vectorcove.numtext" 278) none (.ref 176) .none 0)) #[]
noncomputable def t1 (P : Params) : BT := (nd P boot_o_0 (nd P boot_o_1 (nd P o3v2 (nd P boot_o_7 (nd P o15 (nd P o31 (nd P o63 (lf P o127) .nil) (nd P o95 (lf P o159) .nil)) (nd P o47 (nd P o79 (lf P o143) .nil) (nd P o111 (lf P o175) .nil))) (nd P o23 (nd P o39 (nd P o71 (lf P o135) .nil) (nd P o103 (lf P o167) .nil)) (nd P o55 (nd P o87 (lf P o151) .nil) (lf P o119)))) (nd P o11 (nd P o19 (nd P o35 (nd P o67 (lf P o131) .nil) (nd P o99 (lf P o163) .nil)) (nd P o51 (nd P o83 (lf P o147) .nil) (lf P o115))) (nd P o27 (nd P o43 (nd P o75 (lf P o139) .nil) (nd P o107 (lf P o171) .nil)) (nd P o59 (nd P o91 (lf P o155) .nil) (lf P o123))))) (nd P boot_o_5 (nd P boot_o_9 (nd P o17 (nd P o33 (nd P o65 (lf P o129) .nil) (nd P o97 (lf P o161) .nil)) (nd P o49 (nd P o81 (lf P o145) .nil) (nd P o113 (lf P o177) .nil))) (nd P o25 (nd P o41 (nd P o73 (lf P o137) .nil) (nd P o105 (lf P o169) .nil)) (nd P o57 (nd P o89 (lf P o153) .nil) (lf P o121)))) (nd P o13 (nd P o21 (nd P o37 (nd P o69 (lf P o133) .nil) (nd P o101 (lf P o165) .nil)) (nd P o53 (nd P o85 (lf P o149) .nil) (lf P o117))) (nd P o29 (nd P o45 (nd P o77 (lf P o141) .nil) (nd P o109 (lf P o173) .nil)) (nd P o61 (nd P o93 (lf P o157) .nil) (lf P o125)))))) (nd P boot_o_2 (nd P boot_o_4 (nd P boot_o_8 (nd P o16 (nd P o32 (nd P o64 (lf P o128) .nil) (nd P o96 (lf P o160) .nil)) (nd P o48 (nd P o80 (lf P o144) .nil) (nd P o112 (lf P o176) .nil))) (nd P o24 (nd P o40 (nd P o72 (lf P o136) .nil) (nd P o104 (lf P o168) .nil)) (nd P o56 (nd P o88 (lf P o152) .nil) (lf P o120)))) (nd P o12v3 (nd P o20 (nd P o36 (nd P o68 (lf P o132) .nil) (nd P o100 (lf P o164) .nil)) (nd P o52 (nd P o84 (lf P o148) .nil) (lf P o116))) (nd P o28 (nd P o44 (nd P o76 (lf P o140) .nil) (nd P o108 (lf P o172) .nil)) (nd P o60 (nd P o92 (lf P o156) .nil) (lf P o124))))) (nd P boot_o_6 (nd P boot_o_10 (nd P o18 (nd P o34 (nd P o66 (lf P o130) .nil) (nd P o98 (lf P o162) .nil)) (nd P o50 (nd P o82 (lf P o146) .nil) (lf P o114))) (nd P o26 (nd P o42 (nd P o74 (lf P o138) .nil) (nd P o106 (lf P o170) .nil)) (nd P o58 (nd P o90 (lf P o154) .nil) (lf P o122)))) (nd P o14 (nd P o22 (nd P o38 (nd P o70 (lf P o134) .nil) (nd P o102 (lf P o166) .nil)) (nd P o54 (nd P o86 (lf P o150) .nil) (lf P o118))) (nd P o30 (nd P o46 (nd P o78 (lf P o142) .nil) (nd P o110 (lf P o174) .nil)) (nd P o62 (nd P o94 (lf P o158) .nil) (lf P o126)))))))
noncomputable def s1 (w : World) (os : OsState) : SharedT := ⟨t1 w.params, 178, lifeE, #[], ⟨0, 0, 0, 0⟩, 413, os⟩
noncomputable def o3v4 (P : Params) : Obj := .mk (.type "dict") none (.dict #[.mk (PyData.keyHash P "__name__") (.str "__name__" 165) (.str "vectorcove.values" 471), .mk (PyData.keyHash P "__doc__") (.str "__doc__" 166) .none, .mk (PyData.keyHash P "__package__") (.str "__package__" 167) .none, .mk (PyData.keyHash P "__loader__") (.str "__loader__" 168) (.builtin "__main__.__loader__#opaque"), .mk (PyData.keyHash P "__spec__") (.str "__spec__" 169) .none, .mk (PyData.keyHash P "__annotations__") (.str "__annotations__" 170) (.ref 6), .mk (PyData.keyHash P "__builtins__") (.str "__builtins__" 171) (.ref 4), .mk (PyData.keyHash P "__file__") (.str "__file__" 173) (.str "/claim/cut.py" 172), .mk (PyData.keyHash P "__cached__") (.str "__cached__" 174) .none, .mk (PyData.keyHash P "_wall") (.str "_wall" 193) (.ref 21), .mk (PyData.keyHash P "NAN") (.str "NAN" 198) (.ref 22), .mk (PyData.keyHash P "INF") (.str "INF" 201) (.ref 23), .mk (PyData.keyHash P "ZERO") (.str "ZERO" 204) (.ref 24), .mk (PyData.keyHash P "gcd") (.str "gcd" 212) (.ref 31), .mk (PyData.keyHash P "make") (.str "make" 221) (.ref 38), .mk (PyData.keyHash P "from_int") (.str "from_int" 228) (.ref 45), .mk (PyData.keyHash P "is_na") (.str "is_na" 235) (.ref 52), .mk (PyData.keyHash P "is_finite") (.str "is_finite" 242) (.ref 59), .mk (PyData.keyHash P "neg") (.str "neg" 249) (.ref 66), .mk (PyData.keyHash P "to_whole") (.str "to_whole" 257) (.ref 73), .mk (PyData.keyHash P "nearest_whole") (.str "nearest_whole" 267) (.ref 80), .mk (PyData.keyHash P "exponent") (.str "exponent" 277) (.ref 87), .mk (PyData.keyHash P "MOST_EXPONENT") (.str "MOST_EXPONENT" 281) (.int 4096 280), .mk (PyData.keyHash P "whole_text") (.str "whole_text" 291) (.ref 94), .mk (PyData.keyHash P "special_text") (.str "special_text" 298) (.ref 101), .mk (PyData.keyHash P "scaled") (.str "scaled" 308) (.ref 108), .mk (PyData.keyHash P "significant") (.str "significant" 318) (.ref 115), .mk (PyData.keyHash P "without_tail") (.str "without_tail" 326) (.ref 122), .mk (PyData.keyHash P "scientific_text") (.str "scientific_text" 338) (.ref 129), .mk (PyData.keyHash P "fixed_text") (.str "fixed_text" 348) (.ref 136), .mk (PyData.keyHash P "measures") (.str "measures" 361) (.ref 143), .mk (PyData.keyHash P "chosen_form") (.str "chosen_form" 378) (.ref 150), .mk (PyData.keyHash P "formed") (.str "formed" 387) (.ref 157), .mk (PyData.keyHash P "common_texts") (.str "common_texts" 393) (.ref 162), .mk (PyData.keyHash P "number_text") (.str "number_text" 402) (.ref 170), .mk (PyData.keyHash P "digits_value") (.str "digits_value" 412) (.ref 177), .mk (PyData.keyHash P "digit_run") (.str "digit_run" 421) (.ref 184), .mk (PyData.keyHash P "exponent_value") (.str "exponent_value" 430) (.ref 191), .mk (PyData.keyHash P "powered") (.str "powered" 439) (.ref 198), .mk (PyData.keyHash P "unsigned_number") (.str "unsigned_number" 458) (.ref 205), .mk (PyData.keyHash P "parse_number") (.str "parse_number" 470) (.ref 212), .mk (PyData.keyHash P "Null") (.str "Null" 501) (.ref 229)] 42) #[]
noncomputable def o12v5 (P : Params) : Obj := oE #[.int 1 0, .int 0 0, .ref 20, .int 8 0, .int 0 0, .ref 30, .int 12 0, .int 0 0, .ref 37, .int 22 0, .int 0 0, .ref 44, .int 26 0, .int 0 0, .ref 51, .int 28 0, .int 0 0, .ref 58, .int 30 0, .int 0 0, .ref 65, .int 34 0, .int 0 0, .ref 72, .int 39 0, .int 0 0, .ref 79, .int 45 0, .int 0 0, .ref 86, .int 58 0, .int 0 0, .ref 93, .int 69 0, .int 0 0, .ref 100, .int 77 0, .int 0 0, .ref 107, .int 82 0, .int 0 0, .ref 114, .int 91 0, .int 0 0, .ref 121, .int 96 0, .int 0 0, .ref 128, .int 103 0, .int 0 0, .ref 135, .int 111 0, .int 0 0, .ref 142, .int 118 0, .int 0 0, .ref 149, .int 138 0, .int 0 0, .ref 156, .int 145 0, .int 0 0, .ref 161, .int 149 0, .int 0 0, .ref 169, .int 151 0, .int 0 0, .ref 176, .int 156 0, .int 0 0, .ref 183, .int 160 0, .int 0 0, .ref 190, .int 170 0, .int 0 0, .ref 197, .int 180 0, .int 0 0, .ref 204, .int 212 0, .int 0 0, .ref 211, .int 230 0, .int 0 0, .ref 218]
noncomputable def o178 (P : Params) : Obj := oT #[]
noncomputable def o179 (P : Params) : Obj := oE #[]
noncomputable def o180 (P : Params) : Obj := oT #[.str "text" 416, .str "at" 417, .str "digits" 418]
noncomputable def o181 (P : Params) : Obj := oT #[]
noncomputable def o182 (P : Params) : Obj := .mk .none none (.func (oF "digit_run" "digit_run" 29 0 [] .none .none .none .none none .none .none 0)) #[]
noncomputable def o183 (P : Params) : Obj := oC #[.str "digit_run" 413, .str "digit_run" 414, .str "/claim/cut.py" 415, .int 156 0, .int 3 0, .int 0 0, .int 0 0, .int 3 0, .ref 178, .bool true, .int 181 0, .ref 179, .none, .ref 180, .ref 181, .ref 182, .int 419 0, .int 156 0, .str "/claim/cut.py" 420]
noncomputable def o184 (P : Params) : Obj := .mk (.type "function") none (.func (oF "digit_run" "digit_run" 29 3 [] .none .none .none (.str "vectorcove.numtext" 278) none (.ref 183) .none 0)) #[]
noncomputable def o185 (P : Params) : Obj := oT #[]
noncomputable def o186 (P : Params) : Obj := oE #[]
noncomputable def o187 (P : Params) : Obj := oT #[.str "text" 425, .str "start" 426, .str "value" 427]
noncomputable def o188 (P : Params) : Obj := oT #[]
noncomputable def o189 (P : Params) : Obj := .mk .none none (.func (oF "exponent_value" "exponent_value" 30 0 [] .none .none .none .none none .none .none 0)) #[]
noncomputable def o190 (P : Params) : Obj := oC #[.str "exponent_value" 422, .str "exponent_value" 423, .str "/claim/cut.py" 424, .int 160 0, .int 1 0, .int 0 0, .int 0 0, .int 3 0, .ref 185, .bool true, .int 181 0, .ref 186, .none, .ref 187, .ref 188, .ref 189, .int 428 0, .int 160 0, .str "/claim/cut.py" 429]
noncomputable def o191 (P : Params) : Obj := .mk (.type "function") none (.func (oF "exponent_value" "exponent_value" 30 3 [] .none .none .none (.str "vectorcove.numtext" 278) none (.ref 190) .none 0)) #[]
noncomputable def o192 (P : Params) : Obj := oT #[]
noncomputable def o193 (P : Params) : Obj := oE #[]
noncomputable def o194 (P : Params) : Obj := oT #[.str "n" 434, .str "base" 435, .str "e" 436]
noncomputable def o195 (P : Params) : Obj := oT #[]
noncomputable def o196 (P : Params) : Obj := .mk .none none (.func (oF "powered" "powered" 31 0 [] .none .none .none .none none .none .none 0)) #[]
noncomputable def o197 (P : Params) : Obj := oC #[.str "powered" 431, .str "powered" 432, .str "/claim/cut.py" 433, .int 170 0, .int 3 0, .int 0 0, .int 0 0, .int 3 0, .ref 192, .bool true, .int 181 0, .ref 193, .none, .ref 194, .ref 195, .ref 196, .int 437 0, .int 170 0, .str "/claim/cut.py" 438]
noncomputable def o198 (P : Params) : Obj := .mk (.type "function") none (.func (oF "powered" "powered" 31 3 [] .none .none .none (.str "vectorcove.numtext" 278) none (.ref 197) .none 0)) #[]
noncomputable def o199 (P : Params) : Obj := oT #[]
noncomputable def o200 (P : Params) : Obj := oE #[]
noncomputable def o201 (P : Params) : Obj := oT #[.str "text" 443, .str "base" 444, .str "digits" 445, .str "mark" 446, .str "scale" 447, .str "end" 448, .str "before" 449, .str "behind" 450, .str "start" 451, .str "e" 452, .str "ok" 453, .str "n" 454, .str "found" 455]
noncomputable def o202 (P : Params) : Obj := oT #[]
noncomputable def o203 (P : Params) : Obj := .mk .none none (.func (oF "unsigned_number" "unsigned_number" 32 0 [] .none .none .none .none none .none .none 0)) #[]
noncomputable def o204 (P : Params) : Obj := oC #[.str "unsigned_number" 440, .str "unsigned_number" 441, .str "/claim/cut.py" 442, .int 180 0, .int 1 0, .int 0 0, .int 0 0, .int 3 0, .ref 199, .bool true, .int 181 0, .ref 200, .none, .ref 201, .ref 202, .ref 203, .int 456 0, .int 180 0, .str "/claim/cut.py" 457]
noncomputable def o205 (P : Params) : Obj := .mk (.type "function") none (.func (oF "unsigned_number" "unsigned_number" 32 3 [] .none .none .none (.str "vectorcove.numtext" 278) none (.ref 204) .none 0)) #[]
noncomputable def o206 (P : Params) : Obj := oT #[]
noncomputable def o207 (P : Params) : Obj := oE #[]
noncomputable def o208 (P : Params) : Obj := oT #[.str "text" 462, .str "body" 463, .str "negative" 464, .str "small" 465, .str "found" 466, .str "ok" 467]
noncomputable def o209 (P : Params) : Obj := oT #[]
noncomputable def o210 (P : Params) : Obj := .mk .none none (.func (oF "parse_number" "parse_number" 33 0 [] .none .none .none .none none .none .none 0)) #[]
noncomputable def o211 (P : Params) : Obj := oC #[.str "parse_number" 459, .str "parse_number" 460, .str "/claim/cut.py" 461, .int 212 0, .int 1 0, .int 0 0, .int 0 0, .int 3 0, .ref 206, .bool true, .int 181 0, .ref 207, .none, .ref 208, .ref 209, .ref 210, .int 468 0, .int 212 0, .str "/claim/cut.py" 469]
noncomputable def o212 (P : Params) : Obj := .mk (.type "function") none (.func (oF "parse_number" "parse_number" 33 3 [] .none .none .none (.str "vectorcove.numtext" 278) none (.ref 211) .none 0)) #[]
noncomputable def o213 (P : Params) : Obj := oT #[]
noncomputable def o214 (P : Params) : Obj := .mk (.type "builtin_function_or_method") none (.fields #[.builtin "type.__prepare__", .type "type"]) #[]
noncomputable def o215 (P : Params) : Obj := .mk (.type "dict") none (.dict #[.mk (PyData.keyHash P "__module__") (.str "__module__" 480) (.str "vectorcove.values" 471), .mk (PyData.keyHash P "__qualname__") (.str "__qualname__" 482) (.str "Null" 481), .mk (PyData.keyHash P "__firstlineno__") (.str "__firstlineno__" 484) (.int 230 483), .mk (PyData.keyHash P "__init__") (.str "__init__" 491) (.ref 226), .mk (PyData.keyHash P "__static_attributes__") (.str "__static_attributes__" 494) (.ref 227)] 5) #[]
noncomputable def o216 (P : Params) : Obj := oT #[]
noncomputable def o217 (P : Params) : Obj := oE #[.int 232 0, .int 4 0, .ref 225]
noncomputable def o218 (P : Params) : Obj := oC #[.str "Null" 475, .str "Null" 476, .str "/claim/cut.py" 477, .int 230 0, .int 0 0, .int 0 0, .int 0 0, .int 0 0, .ref 216, .bool false, .int 181 0, .ref 217, .none, .none, .none, .none, .int 478 0, .int 230 0, .str "/claim/cut.py" 479]
noncomputable def o219 (P : Params) : Obj := .mk (.type "frame") none .plain #[some (.ref 218), some (.ref 3), some (.ref 215), none, some (.str "vectorcove.values" 471), none, some (.ref 0)]
noncomputable def o220 (P : Params) : Obj := oT #[]
noncomputable def o221 (P : Params) : Obj := oE #[]
noncomputable def o222 (P : Params) : Obj := oT #[.str "self" 488]
noncomputable def o223 (P : Params) : Obj := oT #[]
noncomputable def o224 (P : Params) : Obj := .mk .none none (.func (.mk "__init__" "Null.__init__" (mP 35 0) (mB 35 0) (mS 35 0) 0 [] .none .none .none .none none .none .none 0)) #[]
noncomputable def o225 (P : Params) : Obj := oC #[.str "__init__" 485, .str "Null.__init__" 486, .str "/claim/cut.py" 487, .int 232 0, .int 1 0, .int 0 0, .int 0 0, .int 3 0, .ref 220, .bool true, .int 181 0, .ref 221, .none, .ref 222, .ref 223, .ref 224, .int 489 0, .int 232 0, .str "/claim/cut.py" 490]
noncomputable def o226 (P : Params) : Obj := .mk (.type "function") none (.func (.mk "__init__" "Null.__init__" (mP 35 0) (mB 35 0) (mS 35 0) 3 [] .none .none .none (.str "vectorcove.values" 471) none (.ref 225) .none 0)) #[]
noncomputable def o227 (P : Params) : Obj := oT #[.str "attrs" 492, .str "kind" 493]
noncomputable def o228 (P : Params) : Obj := .mk (.type "dict") none (.dict #[.mk (PyData.keyHash P "__module__") (.str "__module__" 480) (.str "vectorcove.values" 471), .mk (PyData.keyHash P "__firstlineno__") (.str "__firstlineno__" 484) (.int 230 483), .mk (PyData.keyHash P "__init__") (.str "__init__" 491) (.ref 226), .mk (PyData.keyHash P "__static_attributes__") (.str "__static_attributes__" 494) (.ref 227), .mk (PyData.keyHash P "__dict__") (.str "__dict__" 496) (.ref 230), .mk (PyData.keyHash P "__weakref__") (.str "__weakref__" 498) (.ref 231), .mk (PyData.keyHash P "__doc__") (.str "__doc__" 499) .none] 4) #[]
noncomputable def o229 (P : Params) : Obj := .mk (.type "type") none (Data.cls (ClassData.mk "Null" [.type "object"] [.ref 229, .type "object"] 228 "Null" true [] [] false none false)) #[none, none, some (.str "Null" 473), some (.str "Null" 481), some (.builtin "object.__new__"), some (.bool true)]
noncomputable def o230 (P : Params) : Obj := .mk (.type "getset_descriptor") none (.fields #[.str "__dict__" 495, .ref 229, .builtin "function.__dict__", .builtin "function.__dict__#set"]) #[]
noncomputable def o231 (P : Params) : Obj := .mk (.type "getset_descriptor") none (.fields #[.str "__weakref__" 497, .ref 229, .builtin "ExceptionGroup.__weakref__", .none]) #[]
noncomputable def o232 (P : Params) : Obj := .mk (.type "super") none (.fields #[.ref 229, .ref 229, .ref 229]) #[]
noncomputable def o233 (P : Params) : Obj := .mk (.type "builtin_function_or_method") none (.fields #[.builtin "object.__init_subclass__", .ref 229]) #[]
noncomputable def t2 (P : Params) : BT := (nd P boot_o_0 (nd P boot_o_1 (nd P o3v4 (nd P boot_o_7 (nd P o15 (nd P o31 (nd P o63 (lf P o127) (lf P o191)) (nd P o95 (lf P o159) (lf P o223))) (nd P o47 (nd P o79 (lf P o143) (lf P o207)) (nd P o111 (lf P o175) .nil))) (nd P o23 (nd P o39 (nd P o71 (lf P o135) (lf P o199)) (nd P o103 (lf P o167) (lf P o231))) (nd P o55 (nd P o87 (lf P o151) (lf P o215)) (nd P o119 (lf P o183) .nil)))) (nd P o11 (nd P o19 (nd P o35 (nd P o67 (lf P o131) (lf P o195)) (nd P o99 (lf P o163) (lf P o227))) (nd P o51 (nd P o83 (lf P o147) (lf P o211)) (nd P o115 (lf P o179) .nil))) (nd P o27 (nd P o43 (nd P o75 (lf P o139) (lf P o203)) (nd P o107 (lf P o171) .nil)) (nd P o59 (nd P o91 (lf P o155) (lf P o219)) (nd P o123 (lf P o187) .nil))))) (nd P boot_o_5 (nd P boot_o_9 (nd P o17 (nd P o33 (nd P o65 (lf P o129) (lf P o193)) (nd P o97 (lf P o161) (lf P o225))) (nd P o49 (nd P o81 (lf P o145) (lf P o209)) (nd P o113 (lf P o177) .nil))) (nd P o25 (nd P o41 (nd P o73 (lf P o137) (lf P o201)) (nd P o105 (lf P o169) (lf P o233))) (nd P o57 (nd P o89 (lf P o153) (lf P o217)) (nd P o121 (lf P o185) .nil)))) (nd P o13 (nd P o21 (nd P o37 (nd P o69 (lf P o133) (lf P o197)) (nd P o101 (lf P o165) (lf P o229))) (nd P o53 (nd P o85 (lf P o149) (lf P o213)) (nd P o117 (lf P o181) .nil))) (nd P o29 (nd P o45 (nd P o77 (lf P o141) (lf P o205)) (nd P o109 (lf P o173) .nil)) (nd P o61 (nd P o93 (lf P o157) (lf P o221)) (nd P o125 (lf P o189) .nil)))))) (nd P boot_o_2 (nd P boot_o_4 (nd P boot_o_8 (nd P o16 (nd P o32 (nd P o64 (lf P o128) (lf P o192)) (nd P o96 (lf P o160) (lf P o224))) (nd P o48 (nd P o80 (lf P o144) (lf P o208)) (nd P o112 (lf P o176) .nil))) (nd P o24 (nd P o40 (nd P o72 (lf P o136) (lf P o200)) (nd P o104 (lf P o168) (lf P o232))) (nd P o56 (nd P o88 (lf P o152) (lf P o216)) (nd P o120 (lf P o184) .nil)))) (nd P o12v5 (nd P o20 (nd P o36 (nd P o68 (lf P o132) (lf P o196)) (nd P o100 (lf P o164) (lf P o228))) (nd P o52 (nd P o84 (lf P o148) (lf P o212)) (nd P o116 (lf P o180) .nil))) (nd P o28 (nd P o44 (nd P o76 (lf P o140) (lf P o204)) (nd P o108 (lf P o172) .nil)) (nd P o60 (nd P o92 (lf P o156) (lf P o220)) (nd P o124 (lf P o188) .nil))))) (nd P boot_o_6 (nd P boot_o_10 (nd P o18 (nd P o34 (nd P o66 (lf P o130) (lf P o194)) (nd P o98 (lf P o162) (lf P o226))) (nd P o50 (nd P o82 (lf P o146) (lf P o210)) (nd P o114 (lf P o178) .nil))) (nd P o26 (nd P o42 (nd P o74 (lf P o138) (lf P o202)) (nd P o106 (lf P o170) .nil)) (nd P o58 (nd P o90 (lf P o154) (lf P o218)) (nd P o122 (lf P o186) .nil)))) (nd P o14 (nd P o22 (nd P o38 (nd P o70 (lf P o134) (lf P o198)) (nd P o102 (lf P o166) (lf P o230))) (nd P o54 (nd P o86 (lf P o150) (lf P o214)) (nd P o118 (lf P o182) .nil))) (nd P o30 (nd P o46 (nd P o78 (lf P o142) (lf P o206)) (nd P o110 (lf P o174) .nil)) (nd P o62 (nd P o94 (lf P o158) (lf P o222)) (nd P o126 (lf P o190) .nil)))))))
noncomputable def s2 (w : World) (os : OsState) : SharedT := ⟨t2 w.params, 234, lifeE, #[], ⟨0, 0, 0, 0⟩, 502, os⟩
noncomputable def o3v6 (P : Params) : Obj := .mk (.type "dict") none (.dict #[.mk (PyData.keyHash P "__name__") (.str "__name__" 165) (.str "vectorcove.values" 471), .mk (PyData.keyHash P "__doc__") (.str "__doc__" 166) .none, .mk (PyData.keyHash P "__package__") (.str "__package__" 167) .none, .mk (PyData.keyHash P "__loader__") (.str "__loader__" 168) (.builtin "__main__.__loader__#opaque"), .mk (PyData.keyHash P "__spec__") (.str "__spec__" 169) .none, .mk (PyData.keyHash P "__annotations__") (.str "__annotations__" 170) (.ref 6), .mk (PyData.keyHash P "__builtins__") (.str "__builtins__" 171) (.ref 4), .mk (PyData.keyHash P "__file__") (.str "__file__" 173) (.str "/claim/cut.py" 172), .mk (PyData.keyHash P "__cached__") (.str "__cached__" 174) .none, .mk (PyData.keyHash P "_wall") (.str "_wall" 193) (.ref 21), .mk (PyData.keyHash P "NAN") (.str "NAN" 198) (.ref 22), .mk (PyData.keyHash P "INF") (.str "INF" 201) (.ref 23), .mk (PyData.keyHash P "ZERO") (.str "ZERO" 204) (.ref 24), .mk (PyData.keyHash P "gcd") (.str "gcd" 212) (.ref 31), .mk (PyData.keyHash P "make") (.str "make" 221) (.ref 38), .mk (PyData.keyHash P "from_int") (.str "from_int" 228) (.ref 45), .mk (PyData.keyHash P "is_na") (.str "is_na" 235) (.ref 52), .mk (PyData.keyHash P "is_finite") (.str "is_finite" 242) (.ref 59), .mk (PyData.keyHash P "neg") (.str "neg" 249) (.ref 66), .mk (PyData.keyHash P "to_whole") (.str "to_whole" 257) (.ref 73), .mk (PyData.keyHash P "nearest_whole") (.str "nearest_whole" 267) (.ref 80), .mk (PyData.keyHash P "exponent") (.str "exponent" 277) (.ref 87), .mk (PyData.keyHash P "MOST_EXPONENT") (.str "MOST_EXPONENT" 281) (.int 4096 280), .mk (PyData.keyHash P "whole_text") (.str "whole_text" 291) (.ref 94), .mk (PyData.keyHash P "special_text") (.str "special_text" 298) (.ref 101), .mk (PyData.keyHash P "scaled") (.str "scaled" 308) (.ref 108), .mk (PyData.keyHash P "significant") (.str "significant" 318) (.ref 115), .mk (PyData.keyHash P "without_tail") (.str "without_tail" 326) (.ref 122), .mk (PyData.keyHash P "scientific_text") (.str "scientific_text" 338) (.ref 129), .mk (PyData.keyHash P "fixed_text") (.str "fixed_text" 348) (.ref 136), .mk (PyData.keyHash P "measures") (.str "measures" 361) (.ref 143), .mk (PyData.keyHash P "chosen_form") (.str "chosen_form" 378) (.ref 150), .mk (PyData.keyHash P "formed") (.str "formed" 387) (.ref 157), .mk (PyData.keyHash P "common_texts") (.str "common_texts" 393) (.ref 162), .mk (PyData.keyHash P "number_text") (.str "number_text" 402) (.ref 170), .mk (PyData.keyHash P "digits_value") (.str "digits_value" 412) (.ref 177), .mk (PyData.keyHash P "digit_run") (.str "digit_run" 421) (.ref 184), .mk (PyData.keyHash P "exponent_value") (.str "exponent_value" 430) (.ref 191), .mk (PyData.keyHash P "powered") (.str "powered" 439) (.ref 198), .mk (PyData.keyHash P "unsigned_number") (.str "unsigned_number" 458) (.ref 205), .mk (PyData.keyHash P "parse_number") (.str "parse_number" 470) (.ref 212), .mk (PyData.keyHash P "Null") (.str "Null" 501) (.ref 229), .mk (PyData.keyHash P "Vector") (.str "Vector" 543) (.ref 258), .mk (PyData.keyHash P "character") (.str "character" 550) (.ref 269), .mk (PyData.keyHash P "length") (.str "length" 558) (.ref 276), .mk (PyData.keyHash P "is_vector") (.str "is_vector" 565) (.ref 283), .mk (PyData.keyHash P "is_atomic") (.str "is_atomic" 572) (.ref 290)] 47) #[]
noncomputable def o12v7 (P : Params) : Obj := oE #[.int 1 0, .int 0 0, .ref 20, .int 8 0, .int 0 0, .ref 30, .int 12 0, .int 0 0, .ref 37, .int 22 0, .int 0 0, .ref 44, .int 26 0, .int 0 0, .ref 51, .int 28 0, .int 0 0, .ref 58, .int 30 0, .int 0 0, .ref 65, .int 34 0, .int 0 0, .ref 72, .int 39 0, .int 0 0, .ref 79, .int 45 0, .int 0 0, .ref 86, .int 58 0, .int 0 0, .ref 93, .int 69 0, .int 0 0, .ref 100, .int 77 0, .int 0 0, .ref 107, .int 82 0, .int 0 0, .ref 114, .int 91 0, .int 0 0, .ref 121, .int 96 0, .int 0 0, .ref 128, .int 103 0, .int 0 0, .ref 135, .int 111 0, .int 0 0, .ref 142, .int 118 0, .int 0 0, .ref 149, .int 138 0, .int 0 0, .ref 156, .int 145 0, .int 0 0, .ref 161, .int 149 0, .int 0 0, .ref 169, .int 151 0, .int 0 0, .ref 176, .int 156 0, .int 0 0, .ref 183, .int 160 0, .int 0 0, .ref 190, .int 170 0, .int 0 0, .ref 197, .int 180 0, .int 0 0, .ref 204, .int 212 0, .int 0 0, .ref 211, .int 230 0, .int 0 0, .ref 218, .int 235 0, .int 0 0, .ref 239, .int 246 0, .int 0 0, .ref 268, .int 248 0, .int 0 0, .ref 275, .int 259 0, .int 0 0, .ref 282, .int 261 0, .int 0 0, .ref 289]
noncomputable def o234 (P : Params) : Obj := oT #[]
noncomputable def o235 (P : Params) : Obj := .mk (.type "builtin_function_or_method") none (.fields #[.builtin "type.__prepare__", .type "type"]) #[]
noncomputable def o236 (P : Params) : Obj := .mk (.type "dict") none (.dict #[.mk (PyData.keyHash P "__module__") (.str "__module__" 509) (.str "vectorcove.values" 471), .mk (PyData.keyHash P "__qualname__") (.str "__qualname__" 511) (.str "Vector" 510), .mk (PyData.keyHash P "__firstlineno__") (.str "__firstlineno__" 513) (.int 235 512), .mk (PyData.keyHash P "__init__") (.str "__init__" 523) (.ref 248), .mk (PyData.keyHash P "copy") (.str "copy" 530) (.ref 255), .mk (PyData.keyHash P "__static_attributes__") (.str "__static_attributes__" 536) (.ref 256)] 6) #[]
noncomputable def o237 (P : Params) : Obj := oT #[]
noncomputable def o238 (P : Params) : Obj := oE #[.int 237 0, .int 4 0, .ref 247, .int 244 0, .int 4 0, .ref 254]
noncomputable def o239 (P : Params) : Obj := oC #[.str "Vector" 504, .str "Vector" 505, .str "/claim/cut.py" 506, .int 235 0, .int 0 0, .int 0 0, .int 0 0, .int 0 0, .ref 237, .bool false, .int 181 0, .ref 238, .none, .none, .none, .none, .int 507 0, .int 235 0, .str "/claim/cut.py" 508]
noncomputable def o240 (P : Params) : Obj := .mk (.type "frame") none .plain #[some (.ref 239), some (.ref 3), some (.ref 236), none, some (.str "vectorcove.values" 471), none, some (.ref 0)]
noncomputable def o241 (P : Params) : Obj := oT #[.none]
noncomputable def o242 (P : Params) : Obj := oT #[]
noncomputable def o243 (P : Params) : Obj := oE #[]
noncomputable def o244 (P : Params) : Obj := oT #[.str "self" 517, .str "kind" 518, .str "items" 519, .str "attrs" 520]
noncomputable def o245 (P : Params) : Obj := oT #[]
noncomputable def o246 (P : Params) : Obj := .mk .none none (.func (.mk "__init__" "Vector.__init__" (mP 36 0) (mB 36 0) (mS 36 0) 0 [] .none .none .none .none none .none .none 0)) #[]
noncomputable def o247 (P : Params) : Obj := oC #[.str "__init__" 514, .str "Vector.__init__" 515, .str "/claim/cut.py" 516, .int 237 0, .int 4 0, .int 0 0, .int 0 0, .int 3 0, .ref 242, .bool true, .int 181 0, .ref 243, .none, .ref 244, .ref 245, .ref 246, .int 521 0, .int 237 0, .str "/claim/cut.py" 522]
noncomputable def o248 (P : Params) : Obj := .mk (.type "function") none (.func (.mk "__init__" "Vector.__init__" (mP 36 0) (mB 36 0) (mS 36 0) 3 [] (.ref 241) .none .none (.str "vectorcove.values" 471) none (.ref 247) .none 0)) #[]
noncomputable def o249 (P : Params) : Obj := oT #[]
noncomputable def o250 (P : Params) : Obj := oE #[]
noncomputable def o251 (P : Params) : Obj := oT #[.str "self" 527]
noncomputable def o252 (P : Params) : Obj := oT #[]
noncomputable def o253 (P : Params) : Obj := .mk .none none (.func (.mk "copy" "Vector.copy" (mP 36 1) (mB 36 1) (mS 36 1) 0 [] .none .none .none .none none .none .none 0)) #[]
noncomputable def o254 (P : Params) : Obj := oC #[.str "copy" 524, .str "Vector.copy" 525, .str "/claim/cut.py" 526, .int 244 0, .int 1 0, .int 0 0, .int 0 0, .int 3 0, .ref 249, .bool true, .int 181 0, .ref 250, .none, .ref 251, .ref 252, .ref 253, .int 528 0, .int 244 0, .str "/claim/cut.py" 529]
noncomputable def o255 (P : Params) : Obj := .mk (.type "function") none (.func (.mk "copy" "Vector.copy" (mP 36 1) (mB 36 1) (mS 36 1) 3 [] .none .none .none (.str "vectorcove.values" 471) none (.ref 254) .none 0)) #[]
noncomputable def o256 (P : Params) : Obj := oT #[.str "attrs" 531, .str "items" 532, .str "kind" 533, .str "loose" 534, .str "shared" 535]
noncomputable def o257 (P : Params) : Obj := .mk (.type "dict") none (.dict #[.mk (PyData.keyHash P "__module__") (.str "__module__" 509) (.str "vectorcove.values" 471), .mk (PyData.keyHash P "__firstlineno__") (.str "__firstlineno__" 513) (.int 235 512), .mk (PyData.keyHash P "__init__") (.str "__init__" 523) (.ref 248), .mk (PyData.keyHash P "copy") (.str "copy" 530) (.ref 255), .mk (PyData.keyHash P "__static_attributes__") (.str "__static_attributes__" 536) (.ref 256), .mk (PyData.keyHash P "__dict__") (.str "__dict__" 538) (.ref 259), .mk (PyData.keyHash P "__weakref__") (.str "__weakref__" 540) (.ref 260), .mk (PyData.keyHash P "__doc__") (.str "__doc__" 541) .none] 4) #[]
noncomputable def o258 (P : Params) : Obj := .mk (.type "type") none (Data.cls (ClassData.mk "Vector" [.type "object"] [.ref 258, .type "object"] 257 "Vector" true [] [] false none false)) #[none, none, some (.str "Vector" 502), some (.str "Vector" 510), some (.builtin "object.__new__"), some (.bool true)]
noncomputable def o259 (P : Params) : Obj := .mk (.type "getset_descriptor") none (.fields #[.str "__dict__" 537, .ref 258, .builtin "function.__dict__", .builtin "function.__dict__#set"]) #[]
noncomputable def o260 (P : Params) : Obj := .mk (.type "getset_descriptor") none (.fields #[.str "__weakref__" 539, .ref 258, .builtin "ExceptionGroup.__weakref__", .none]) #[]
noncomputable def o261 (P : Params) : Obj := .mk (.type "super") none (.fields #[.ref 258, .ref 258, .ref 258]) #[]
noncomputable def o262 (P : Params) : Obj := .mk (.type "builtin_function_or_method") none (.fields #[.builtin "object.__init_subclass__", .ref 258]) #[]
noncomputable def o263 (P : Params) : Obj := oT #[]
noncomputable def o264 (P : Params) : Obj := oE #[]
noncomputable def o265 (P : Params) : Obj := oT #[.str "items" 547]
noncomputable def o266 (P : Params) : Obj := oT #[]
noncomputable def o267 (P : Params) : Obj := .mk .none none (.func (oF "character" "character" 37 0 [] .none .none .none .none none .none .none 0)) #[]
noncomputable def o268 (P : Params) : Obj := oC #[.str "character" 544, .str "character" 545, .str "/claim/cut.py" 546, .int 246 0, .int 1 0, .int 0 0, .int 0 0, .int 3 0, .ref 263, .bool true, .int 181 0, .ref 264, .none, .ref 265, .ref 266, .ref 267, .int 548 0, .int 246 0, .str "/claim/cut.py" 549]
noncomputable def o269 (P : Params) : Obj := .mk (.type "function") none (.func (oF "character" "character" 37 3 [] .none .none .none (.str "vectorcove.values" 471) none (.ref 268) .none 0)) #[]
noncomputable def o270 (P : Params) : Obj := oT #[]
noncomputable def o271 (P : Params) : Obj := oE #[]
noncomputable def o272 (P : Params) : Obj := oT #[.str "v" 554, .str "kind" 555]
noncomputable def o273 (P : Params) : Obj := oT #[]
noncomputable def o274 (P : Params) : Obj := .mk .none none (.func (oF "length" "length" 38 0 [] .none .none .none .none none .none .none 0)) #[]
noncomputable def o275 (P : Params) : Obj := oC #[.str "length" 551, .str "length" 552, .str "/claim/cut.py" 553, .int 248 0, .int 1 0, .int 0 0, .int 0 0, .int 3 0, .ref 270, .bool true, .int 181 0, .ref 271, .none, .ref 272, .ref 273, .ref 274, .int 556 0, .int 248 0, .str "/claim/cut.py" 557]
noncomputable def o276 (P : Params) : Obj := .mk (.type "function") none (.func (oF "length" "length" 38 3 [] .none .none .none (.str "vectorcove.values" 471) none (.ref 275) .none 0)) #[]
noncomputable def o277 (P : Params) : Obj := oT #[]
noncomputable def o278 (P : Params) : Obj := oE #[]
noncomputable def o279 (P : Params) : Obj := oT #[.str "v" 562]
noncomputable def o280 (P : Params) : Obj := oT #[]
noncomputable def o281 (P : Params) : Obj := .mk .none none (.func (oF "is_vector" "is_vector" 39 0 [] .none .none .none .none none .none .none 0)) #[]
noncomputable def o282 (P : Params) : Obj := oC #[.str "is_vector" 559, .str "is_vector" 560, .str "/claim/cut.py" 561, .int 259 0, .int 1 0, .int 0 0, .int 0 0, .int 3 0, .ref 277, .bool true, .int 181 0, .ref 278, .none, .ref 279, .ref 280, .ref 281, .int 563 0, .int 259 0, .str "/claim/cut.py" 564]
noncomputable def o283 (P : Params) : Obj := .mk (.type "function") none (.func (oF "is_vector" "is_vector" 39 3 [] .none .none .none (.str "vectorcove.values" 471) none (.ref 282) .none 0)) #[]
noncomputable def o284 (P : Params) : Obj := oT #[]
noncomputable def o285 (P : Params) : Obj := oE #[]
noncomputable def o286 (P : Params) : Obj := oT #[.str "v" 569]
noncomputable def o287 (P : Params) : Obj := oT #[]
noncomputable def o288 (P : Params) : Obj := .mk .none none (.func (oF "is_atomic" "is_atomic" 40 0 [] .none .none .none .none none .none .none 0)) #[]
noncomputable def o289 (P : Params) : Obj := oC #[.str "is_atomic" 566, .str "is_atomic" 567, .str "/claim/cut.py" 568, .int 261 0, .int 1 0, .int 0 0, .int 0 0, .int 3 0, .ref 284, .bool true, .int 181 0, .ref 285, .none, .ref 286, .ref 287, .ref 288, .int 570 0, .int 261 0, .str "/claim/cut.py" 571]
noncomputable def o290 (P : Params) : Obj := .mk (.type "function") none (.func (oF "is_atomic" "is_atomic" 40 3 [] .none .none .none (.str "vectorcove.values" 471) none (.ref 289) .none 0)) #[]
noncomputable def t3 (P : Params) : BT := (nd P boot_o_0 (nd P boot_o_1 (nd P o3v6 (nd P boot_o_7 (nd P o15 (nd P o31 (nd P o63 (nd P o127 (lf P o255) .nil) (lf P o191)) (nd P o95 (nd P o159 (lf P o287) .nil) (lf P o223))) (nd P o47 (nd P o79 (nd P o143 (lf P o271) .nil) (lf P o207)) (nd P o111 (lf P o175) (lf P o239)))) (nd P o23 (nd P o39 (nd P o71 (nd P o135 (lf P o263) .nil) (lf P o199)) (nd P o103 (lf P o167) (lf P o231))) (nd P o55 (nd P o87 (nd P o151 (lf P o279) .nil) (lf P o215)) (nd P o119 (lf P o183) (lf P o247))))) (nd P o11 (nd P o19 (nd P o35 (nd P o67 (nd P o131 (lf P o259) .nil) (lf P o195)) (nd P o99 (lf P o163) (lf P o227))) (nd P o51 (nd P o83 (nd P o147 (lf P o275) .nil) (lf P o211)) (nd P o115 (lf P o179) (lf P o243)))) (nd P o27 (nd P o43 (nd P o75 (nd P o139 (lf P o267) .nil) (lf P o203)) (nd P o107 (lf P o171) (lf P o235))) (nd P o59 (nd P o91 (nd P o155 (lf P o283) .nil) (lf P o219)) (nd P o123 (lf P o187) (lf P o251)))))) (nd P boot_o_5 (nd P boot_o_9 (nd P o17 (nd P o33 (nd P o65 (nd P o129 (lf P o257) .nil) (lf P o193)) (nd P o97 (nd P o161 (lf P o289) .nil) (lf P o225))) (nd P o49 (nd P o81 (nd P o145 (lf P o273) .nil) (lf P o209)) (nd P o113 (lf P o177) (lf P o241)))) (nd P o25 (nd P o41 (nd P o73 (nd P o137 (lf P o265) .nil) (lf P o201)) (nd P o105 (lf P o169) (lf P o233))) (nd P o57 (nd P o89 (nd P o153 (lf P o281) .nil) (lf P o217)) (nd P o121 (lf P o185) (lf P o249))))) (nd P o13 (nd P o21 (nd P o37 (nd P o69 (nd P o133 (lf P o261) .nil) (lf P o197)) (nd P o101 (lf P o165) (lf P o229))) (nd P o53 (nd P o85 (nd P o149 (lf P o277) .nil) (lf P o213)) (nd P o117 (lf P o181) (lf P o245)))) (nd P o29 (nd P o45 (nd P o77 (nd P o141 (lf P o269) .nil) (lf P o205)) (nd P o109 (lf P o173) (lf P o237))) (nd P o61 (nd P o93 (nd P o157 (lf P o285) .nil) (lf P o221)) (nd P o125 (lf P o189) (lf P o253))))))) (nd P boot_o_2 (nd P boot_o_4 (nd P boot_o_8 (nd P o16 (nd P o32 (nd P o64 (nd P o128 (lf P o256) .nil) (lf P o192)) (nd P o96 (nd P o160 (lf P o288) .nil) (lf P o224))) (nd P o48 (nd P o80 (nd P o144 (lf P o272) .nil) (lf P o208)) (nd P o112 (lf P o176) (lf P o240)))) (nd P o24 (nd P o40 (nd P o72 (nd P o136 (lf P o264) .nil) (lf P o200)) (nd P o104 (lf P o168) (lf P o232))) (nd P o56 (nd P o88 (nd P o152 (lf P o280) .nil) (lf P o216)) (nd P o120 (lf P o184) (lf P o248))))) (nd P o12v7 (nd P o20 (nd P o36 (nd P o68 (nd P o132 (lf P o260) .nil) (lf P o196)) (nd P o100 (lf P o164) (lf P o228))) (nd P o52 (nd P o84 (nd P o148 (lf P o276) .nil) (lf P o212)) (nd P o116 (lf P o180) (lf P o244)))) (nd P o28 (nd P o44 (nd P o76 (nd P o140 (lf P o268) .nil) (lf P o204)) (nd P o108 (lf P o172) (lf P o236))) (nd P o60 (nd P o92 (nd P o156 (lf P o284) .nil) (lf P o220)) (nd P o124 (lf P o188) (lf P o252)))))) (nd P boot_o_6 (nd P boot_o_10 (nd P o18 (nd P o34 (nd P o66 (nd P o130 (lf P o258) .nil) (lf P o194)) (nd P o98 (nd P o162 (lf P o290) .nil) (lf P o226))) (nd P o50 (nd P o82 (nd P o146 (lf P o274) .nil) (lf P o210)) (nd P o114 (lf P o178) (lf P o242)))) (nd P o26 (nd P o42 (nd P o74 (nd P o138 (lf P o266) .nil) (lf P o202)) (nd P o106 (lf P o170) (lf P o234))) (nd P o58 (nd P o90 (nd P o154 (lf P o282) .nil) (lf P o218)) (nd P o122 (lf P o186) (lf P o250))))) (nd P o14 (nd P o22 (nd P o38 (nd P o70 (nd P o134 (lf P o262) .nil) (lf P o198)) (nd P o102 (lf P o166) (lf P o230))) (nd P o54 (nd P o86 (nd P o150 (lf P o278) .nil) (lf P o214)) (nd P o118 (lf P o182) (lf P o246)))) (nd P o30 (nd P o46 (nd P o78 (nd P o142 (lf P o270) .nil) (lf P o206)) (nd P o110 (lf P o174) (lf P o238))) (nd P o62 (nd P o94 (nd P o158 (lf P o286) .nil) (lf P o222)) (nd P o126 (lf P o190) (lf P o254))))))))
noncomputable def s3 (w : World) (os : OsState) : SharedT := ⟨t3 w.params, 291, lifeE, #[], ⟨0, 0, 0, 0⟩, 573, os⟩
noncomputable def o3v8 (P : Params) : Obj := .mk (.type "dict") none (.dict #[.mk (PyData.keyHash P "__name__") (.str "__name__" 165) (.str "vectorcove.errors" 640), .mk (PyData.keyHash P "__doc__") (.str "__doc__" 166) .none, .mk (PyData.keyHash P "__package__") (.str "__package__" 167) .none, .mk (PyData.keyHash P "__loader__") (.str "__loader__" 168) (.builtin "__main__.__loader__#opaque"), .mk (PyData.keyHash P "__spec__") (.str "__spec__" 169) .none, .mk (PyData.keyHash P "__annotations__") (.str "__annotations__" 170) (.ref 6), .mk (PyData.keyHash P "__builtins__") (.str "__builtins__" 171) (.ref 4), .mk (PyData.keyHash P "__file__") (.str "__file__" 173) (.str "/claim/cut.py" 172), .mk (PyData.keyHash P "__cached__") (.str "__cached__" 174) .none, .mk (PyData.keyHash P "_wall") (.str "_wall" 193) (.ref 21), .mk (PyData.keyHash P "NAN") (.str "NAN" 198) (.ref 22), .mk (PyData.keyHash P "INF") (.str "INF" 201) (.ref 23), .mk (PyData.keyHash P "ZERO") (.str "ZERO" 204) (.ref 24), .mk (PyData.keyHash P "gcd") (.str "gcd" 212) (.ref 31), .mk (PyData.keyHash P "make") (.str "make" 221) (.ref 38), .mk (PyData.keyHash P "from_int") (.str "from_int" 228) (.ref 45), .mk (PyData.keyHash P "is_na") (.str "is_na" 235) (.ref 52), .mk (PyData.keyHash P "is_finite") (.str "is_finite" 242) (.ref 59), .mk (PyData.keyHash P "neg") (.str "neg" 249) (.ref 66), .mk (PyData.keyHash P "to_whole") (.str "to_whole" 257) (.ref 73), .mk (PyData.keyHash P "nearest_whole") (.str "nearest_whole" 267) (.ref 80), .mk (PyData.keyHash P "exponent") (.str "exponent" 277) (.ref 87), .mk (PyData.keyHash P "MOST_EXPONENT") (.str "MOST_EXPONENT" 281) (.int 4096 280), .mk (PyData.keyHash P "whole_text") (.str "whole_text" 291) (.ref 94), .mk (PyData.keyHash P "special_text") (.str "special_text" 298) (.ref 101), .mk (PyData.keyHash P "scaled") (.str "scaled" 308) (.ref 108), .mk (PyData.keyHash P "significant") (.str "significant" 318) (.ref 115), .mk (PyData.keyHash P "without_tail") (.str "without_tail" 326) (.ref 122), .mk (PyData.keyHash P "scientific_text") (.str "scientific_text" 338) (.ref 129), .mk (PyData.keyHash P "fixed_text") (.str "fixed_text" 348) (.ref 136), .mk (PyData.keyHash P "measures") (.str "measures" 361) (.ref 143), .mk (PyData.keyHash P "chosen_form") (.str "chosen_form" 378) (.ref 150), .mk (PyData.keyHash P "formed") (.str "formed" 387) (.ref 157), .mk (PyData.keyHash P "common_texts") (.str "common_texts" 393) (.ref 162), .mk (PyData.keyHash P "number_text") (.str "number_text" 402) (.ref 170), .mk (PyData.keyHash P "digits_value") (.str "digits_value" 412) (.ref 177), .mk (PyData.keyHash P "digit_run") (.str "digit_run" 421) (.ref 184), .mk (PyData.keyHash P "exponent_value") (.str "exponent_value" 430) (.ref 191), .mk (PyData.keyHash P "powered") (.str "powered" 439) (.ref 198), .mk (PyData.keyHash P "unsigned_number") (.str "unsigned_number" 458) (.ref 205), .mk (PyData.keyHash P "parse_number") (.str "parse_number" 470) (.ref 212), .mk (PyData.keyHash P "Null") (.str "Null" 501) (.ref 229), .mk (PyData.keyHash P "Vector") (.str "Vector" 543) (.ref 258), .mk (PyData.keyHash P "character") (.str "character" 550) (.ref 269), .mk (PyData.keyHash P "length") (.str "length" 558) (.ref 276), .mk (PyData.keyHash P "is_vector") (.str "is_vector" 565) (.ref 283), .mk (PyData.keyHash P "is_atomic") (.str "is_atomic" 572) (.ref 290), .mk (PyData.keyHash P "share") (.str "share" 579) (.ref 297), .mk (PyData.keyHash P "get_attr") (.str "get_attr" 589) (.ref 304), .mk (PyData.keyHash P "label_text") (.str "label_text" 597) (.ref 311), .mk (PyData.keyHash P "level_at") (.str "level_at" 605) (.ref 318), .mk (PyData.keyHash P "label_texts") (.str "label_texts" 611) (.ref 323), .mk (PyData.keyHash P "names_of") (.str "names_of" 617) (.ref 328), .mk (PyData.keyHash P "dim_of") (.str "dim_of" 625) (.ref 335), .mk (PyData.keyHash P "dimnames_of") (.str "dimnames_of" 631) (.ref 340), .mk (PyData.keyHash P "class_attr") (.str "class_attr" 639) (.ref 347)] 56) #[]
noncomputable def o12v9 (P : Params) : Obj := oE #[.int 1 0, .int 0 0, .ref 20, .int 8 0, .int 0 0, .ref 30, .int 12 0, .int 0 0, .ref 37, .int 22 0, .int 0 0, .ref 44, .int 26 0, .int 0 0, .ref 51, .int 28 0, .int 0 0, .ref 58, .int 30 0, .int 0 0, .ref 65, .int 34 0, .int 0 0, .ref 72, .int 39 0, .int 0 0, .ref 79, .int 45 0, .int 0 0, .ref 86, .int 58 0, .int 0 0, .ref 93, .int 69 0, .int 0 0, .ref 100, .int 77 0, .int 0 0, .ref 107, .int 82 0, .int 0 0, .ref 114, .int 91 0, .int 0 0, .ref 121, .int 96 0, .int 0 0, .ref 128, .int 103 0, .int 0 0, .ref 135, .int 111 0, .int 0 0, .ref 142, .int 118 0, .int 0 0, .ref 149, .int 138 0, .int 0 0, .ref 156, .int 145 0, .int 0 0, .ref 161, .int 149 0, .int 0 0, .ref 169, .int 151 0, .int 0 0, .ref 176, .int 156 0, .int 0 0, .ref 183, .int 160 0, .int 0 0, .ref 190, .int 170 0, .int 0 0, .ref 197, .int 180 0, .int 0 0, .ref 204, .int 212 0, .int 0 0, .ref 211, .int 230 0, .int 0 0, .ref 218, .int 235 0, .int 0 0, .ref 239, .int 246 0, .int 0 0, .ref 268, .int 248 0, .int 0 0, .ref 275, .int 259 0, .int 0 0, .ref 282, .int 261 0, .int 0 0, .ref 289, .int 263 0, .int 0 0, .ref 296, .int 268 0, .int 0 0, .ref 303, .int 272 0, .int 0 0, .ref 310, .int 280 0, .int 0 0, .ref 317, .int 284 0, .int 0 0, .ref 322, .int 290 0, .int 0 0, .ref 327, .int 306 0, .int 0 0, .ref 334, .int 311 0, .int 0 0, .ref 339, .int 316 0, .int 0 0, .ref 346]
noncomputable def o291 (P : Params) : Obj := oT #[]
noncomputable def o292 (P : Params) : Obj := oE #[]
noncomputable def o293 (P : Params) : Obj := oT #[.str "v" 576]
noncomputable def o294 (P : Params) : Obj := oT #[]
noncomputable def o295 (P : Params) : Obj := .mk .none none (.func (.mk "share" "share" (hP 41) (hB 41) (hS 39) 0 [] .none .none .none .none none .none .none 0)) #[]
noncomputable def o296 (P : Params) : Obj := oC #[.str "share" 573, .str "share" 574, .str "/claim/cut.py" 575, .int 263 0, .int 1 0, .int 0 0, .int 0 0, .int 3 0, .ref 291, .bool true, .int 181 0, .ref 292, .none, .ref 293, .ref 294, .ref 295, .int 577 0, .int 263 0, .str "/claim/cut.py" 578]
noncomputable def o297 (P : Params) : Obj := .mk (.type "function") none (.func (.mk "share" "share" (hP 41) (hB 41) (hS 39) 3 [] .none .none .none (.str "vectorcove.values" 471) none (.ref 296) .none 0)) #[]
noncomputable def o298 (P : Params) : Obj := oT #[]
noncomputable def o299 (P : Params) : Obj := oE #[]
noncomputable def o300 (P : Params) : Obj := oT #[.str "v" 585, .str "name" 586]
noncomputable def o301 (P : Params) : Obj := oT #[]
noncomputable def o302 (P : Params) : Obj := .mk .none none (.func (oF "get_attr" "get_attr" 43 0 [] .none .none .none .none none .none .none 0)) #[]
noncomputable def o303 (P : Params) : Obj := oC #[.str "get_attr" 582, .str "get_attr" 583, .str "/claim/cut.py" 584, .int 268 0, .int 2 0, .int 0 0, .int 0 0, .int 3 0, .ref 298, .bool true, .int 181 0, .ref 299, .none, .ref 300, .ref 301, .ref 302, .int 587 0, .int 268 0, .str "/claim/cut.py" 588]
noncomputable def o304 (P : Params) : Obj := .mk (.type "function") none (.func (oF "get_attr" "get_attr" 43 3 [] .none .none .none (.str "vectorcove.attrs" 580) none (.ref 303) .none 0)) #[]
noncomputable def o305 (P : Params) : Obj := oT #[]
noncomputable def o306 (P : Params) : Obj := oE #[]
noncomputable def o307 (P : Params) : Obj := oT #[.str "kind" 593, .str "item" 594]
noncomputable def o308 (P : Params) : Obj := oT #[]
noncomputable def o309 (P : Params) : Obj := .mk .none none (.func (oF "label_text" "label_text" 44 0 [] .none .none .none .none none .none .none 0)) #[]
noncomputable def o310 (P : Params) : Obj := oC #[.str "label_text" 590, .str "label_text" 591, .str "/claim/cut.py" 592, .int 272 0, .int 2 0, .int 0 0, .int 0 0, .int 3 0, .ref 305, .bool true, .int 181 0, .ref 306, .none, .ref 307, .ref 308, .ref 309, .int 595 0, .int 272 0, .str "/claim/cut.py" 596]
noncomputable def o311 (P : Params) : Obj := .mk (.type "function") none (.func (oF "label_text" "label_text" 44 3 [] .none .none .none (.str "vectorcove.attrs" 580) none (.ref 310) .none 0)) #[]
noncomputable def o312 (P : Params) : Obj := oT #[]
noncomputable def o313 (P : Params) : Obj := oE #[]
noncomputable def o314 (P : Params) : Obj := oT #[.str "texts" 601, .str "code" 602]
noncomputable def o315 (P : Params) : Obj := oT #[]
noncomputable def o316 (P : Params) : Obj := .mk .none none (.func (oF "level_at" "level_at" 45 0 [] .none .none .none .none none .none .none 0)) #[]
noncomputable def o317 (P : Params) : Obj := oC #[.str "level_at" 598, .str "level_at" 599, .str "/claim/cut.py" 600, .int 280 0, .int 2 0, .int 0 0, .int 0 0, .int 3 0, .ref 312, .bool true, .int 181 0, .ref 313, .none, .ref 314, .ref 315, .ref 316, .int 603 0, .int 280 0, .str "/claim/cut.py" 604]
noncomputable def o318 (P : Params) : Obj := .mk (.type "function") none (.func (oF "level_at" "level_at" 45 3 [] .none .none .none (.str "vectorcove.attrs" 580) none (.ref 317) .none 0)) #[]
noncomputable def o319 (P : Params) : Obj := oT #[]
noncomputable def o320 (P : Params) : Obj := oE #[]
noncomputable def o321 (P : Params) : Obj := .mk .none none (.func (oF "label_texts" "label_texts" 46 0 [] .none .none .none .none none .none .none 0)) #[]
noncomputable def o322 (P : Params) : Obj := oC #[.str "label_texts" 606, .str "label_texts" 607, .str "/claim/cut.py" 608, .int 284 0, .int 1 0, .int 0 0, .int 0 0, .int 3 0, .ref 319, .bool true, .int 181 0, .ref 320, .none, .none, .none, .ref 321, .int 609 0, .int 284 0, .str "/claim/cut.py" 610]
noncomputable def o323 (P : Params) : Obj := .mk (.type "function") none (.func (oF "label_texts" "label_texts" 46 3 [] .none .none .none (.str "vectorcove.attrs" 580) none (.ref 322) .none 0)) #[]
noncomputable def o324 (P : Params) : Obj := oT #[]
noncomputable def o325 (P : Params) : Obj := oE #[]
noncomputable def o326 (P : Params) : Obj := .mk .none none (.func (oF "names_of" "names_of" 47 0 [] .none .none .none .none none .none .none 0)) #[]
noncomputable def o327 (P : Params) : Obj := oC #[.str "names_of" 612, .str "names_of" 613, .str "/claim/cut.py" 614, .int 290 0, .int 1 0, .int 0 0, .int 0 0, .int 3 0, .ref 324, .bool true, .int 181 0, .ref 325, .none, .none, .none, .ref 326, .int 615 0, .int 290 0, .str "/claim/cut.py" 616]
noncomputable def o328 (P : Params) : Obj := .mk (.type "function") none (.func (oF "names_of" "names_of" 47 3 [] .none .none .none (.str "vectorcove.attrs" 580) none (.ref 327) .none 0)) #[]
noncomputable def o329 (P : Params) : Obj := oT #[]
noncomputable def o330 (P : Params) : Obj := oE #[]
noncomputable def o331 (P : Params) : Obj := oT #[.str "v" 621, .str "dims" 622]
noncomputable def o332 (P : Params) : Obj := oT #[]
noncomputable def o333 (P : Params) : Obj := .mk .none none (.func (oF "dim_of" "dim_of" 48 0 [] .none .none .none .none none .none .none 0)) #[]
noncomputable def o334 (P : Params) : Obj := oC #[.str "dim_of" 618, .str "dim_of" 619, .str "/claim/cut.py" 620, .int 306 0, .int 1 0, .int 0 0, .int 0 0, .int 3 0, .ref 329, .bool true, .int 181 0, .ref 330, .none, .ref 331, .ref 332, .ref 333, .int 623 0, .int 306 0, .str "/claim/cut.py" 624]
noncomputable def o335 (P : Params) : Obj := .mk (.type "function") none (.func (oF "dim_of" "dim_of" 48 3 [] .none .none .none (.str "vectorcove.attrs" 580) none (.ref 334) .none 0)) #[]
noncomputable def o336 (P : Params) : Obj := oT #[]
noncomputable def o337 (P : Params) : Obj := oE #[]
noncomputable def o338 (P : Params) : Obj := .mk .none none (.func (oF "dimnames_of" "dimnames_of" 49 0 [] .none .none .none .none none .none .none 0)) #[]
noncomputable def o339 (P : Params) : Obj := oC #[.str "dimnames_of" 626, .str "dimnames_of" 627, .str "/claim/cut.py" 628, .int 311 0, .int 1 0, .int 0 0, .int 0 0, .int 3 0, .ref 336, .bool true, .int 181 0, .ref 337, .none, .none, .none, .ref 338, .int 629 0, .int 311 0, .str "/claim/cut.py" 630]
noncomputable def o340 (P : Params) : Obj := .mk (.type "function") none (.func (oF "dimnames_of" "dimnames_of" 49 3 [] .none .none .none (.str "vectorcove.attrs" 580) none (.ref 339) .none 0)) #[]
noncomputable def o341 (P : Params) : Obj := oT #[]
noncomputable def o342 (P : Params) : Obj := oE #[]
noncomputable def o343 (P : Params) : Obj := oT #[.str "v" 635, .str "found" 636]
noncomputable def o344 (P : Params) : Obj := oT #[]
noncomputable def o345 (P : Params) : Obj := .mk .none none (.func (oF "class_attr" "class_attr" 50 0 [] .none .none .none .none none .none .none 0)) #[]
noncomputable def o346 (P : Params) : Obj := oC #[.str "class_attr" 632, .str "class_attr" 633, .str "/claim/cut.py" 634, .int 316 0, .int 1 0, .int 0 0, .int 0 0, .int 3 0, .ref 341, .bool true, .int 181 0, .ref 342, .none, .ref 343, .ref 344, .ref 345, .int 637 0, .int 316 0, .str "/claim/cut.py" 638]
noncomputable def o347 (P : Params) : Obj := .mk (.type "function") none (.func (oF "class_attr" "class_attr" 50 3 [] .none .none .none (.str "vectorcove.attrs" 580) none (.ref 346) .none 0)) #[]
noncomputable def t4 (P : Params) : BT := (nd P boot_o_0 (nd P boot_o_1 (nd P o3v8 (nd P boot_o_7 (nd P o15 (nd P o31 (nd P o63 (nd P o127 (lf P o255) .nil) (nd P o191 (lf P o319) .nil)) (nd P o95 (nd P o159 (lf P o287) .nil) (lf P o223))) (nd P o47 (nd P o79 (nd P o143 (lf P o271) .nil) (nd P o207 (lf P o335) .nil)) (nd P o111 (nd P o175 (lf P o303) .nil) (lf P o239)))) (nd P o23 (nd P o39 (nd P o71 (nd P o135 (lf P o263) .nil) (nd P o199 (lf P o327) .nil)) (nd P o103 (nd P o167 (lf P o295) .nil) (lf P o231))) (nd P o55 (nd P o87 (nd P o151 (lf P o279) .nil) (nd P o215 (lf P o343) .nil)) (nd P o119 (nd P o183 (lf P o311) .nil) (lf P o247))))) (nd P o11 (nd P o19 (nd P o35 (nd P o67 (nd P o131 (lf P o259) .nil) (nd P o195 (lf P o323) .nil)) (nd P o99 (nd P o163 (lf P o291) .nil) (lf P o227))) (nd P o51 (nd P o83 (nd P o147 (lf P o275) .nil) (nd P o211 (lf P o339) .nil)) (nd P o115 (nd P o179 (lf P o307) .nil) (lf P o243)))) (nd P o27 (nd P o43 (nd P o75 (nd P o139 (lf P o267) .nil) (nd P o203 (lf P o331) .nil)) (nd P o107 (nd P o171 (lf P o299) .nil) (lf P o235))) (nd P o59 (nd P o91 (nd P o155 (lf P o283) .nil) (nd P o219 (lf P o347) .nil)) (nd P o123 (nd P o187 (lf P o315) .nil) (lf P o251)))))) (nd P boot_o_5 (nd P boot_o_9 (nd P o17 (nd P o33 (nd P o65 (nd P o129 (lf P o257) .nil) (nd P o193 (lf P o321) .nil)) (nd P o97 (nd P o161 (lf P o289) .nil) (lf P o225))) (nd P o49 (nd P o81 (nd P o145 (lf P o273) .nil) (nd P o209 (lf P o337) .nil)) (nd P o113 (nd P o177 (lf P o305) .nil) (lf P o241)))) (nd P o25 (nd P o41 (nd P o73 (nd P o137 (lf P o265) .nil) (nd P o201 (lf P o329) .nil)) (nd P o105 (nd P o169 (lf P o297) .nil) (lf P o233))) (nd P o57 (nd P o89 (nd P o153 (lf P o281) .nil) (nd P o217 (lf P o345) .nil)) (nd P o121 (nd P o185 (lf P o313) .nil) (lf P o249))))) (nd P o13 (nd P o21 (nd P o37 (nd P o69 (nd P o133 (lf P o261) .nil) (nd P o197 (lf P o325) .nil)) (nd P o101 (nd P o165 (lf P o293) .nil) (lf P o229))) (nd P o53 (nd P o85 (nd P o149 (lf P o277) .nil) (nd P o213 (lf P o341) .nil)) (nd P o117 (nd P o181 (lf P o309) .nil) (lf P o245)))) (nd P o29 (nd P o45 (nd P o77 (nd P o141 (lf P o269) .nil) (nd P o205 (lf P o333) .nil)) (nd P o109 (nd P o173 (lf P o301) .nil) (lf P o237))) (nd P o61 (nd P o93 (nd P o157 (lf P o285) .nil) (lf P o221)) (nd P o125 (nd P o189 (lf P o317) .nil) (lf P o253))))))) (nd P boot_o_2 (nd P boot_o_4 (nd P boot_o_8 (nd P o16 (nd P o32 (nd P o64 (nd P o128 (lf P o256) .nil) (nd P o192 (lf P o320) .nil)) (nd P o96 (nd P o160 (lf P o288) .nil) (lf P o224))) (nd P o48 (nd P o80 (nd P o144 (lf P o272) .nil) (nd P o208 (lf P o336) .nil)) (nd P o112 (nd P o176 (lf P o304) .nil) (lf P o240)))) (nd P o24 (nd P o40 (nd P o72 (nd P o136 (lf P o264) .nil) (nd P o200 (lf P o328) .nil)) (nd P o104 (nd P o168 (lf P o296) .nil) (lf P o232))) (nd P o56 (nd P o88 (nd P o152 (lf P o280) .nil) (nd P o216 (lf P o344) .nil)) (nd P o120 (nd P o184 (lf P o312) .nil) (lf P o248))))) (nd P o12v9 (nd P o20 (nd P o36 (nd P o68 (nd P o132 (lf P o260) .nil) (nd P o196 (lf P o324) .nil)) (nd P o100 (nd P o164 (lf P o292) .nil) (lf P o228))) (nd P o52 (nd P o84 (nd P o148 (lf P o276) .nil) (nd P o212 (lf P o340) .nil)) (nd P o116 (nd P o180 (lf P o308) .nil) (lf P o244)))) (nd P o28 (nd P o44 (nd P o76 (nd P o140 (lf P o268) .nil) (nd P o204 (lf P o332) .nil)) (nd P o108 (nd P o172 (lf P o300) .nil) (lf P o236))) (nd P o60 (nd P o92 (nd P o156 (lf P o284) .nil) (lf P o220)) (nd P o124 (nd P o188 (lf P o316) .nil) (lf P o252)))))) (nd P boot_o_6 (nd P boot_o_10 (nd P o18 (nd P o34 (nd P o66 (nd P o130 (lf P o258) .nil) (nd P o194 (lf P o322) .nil)) (nd P o98 (nd P o162 (lf P o290) .nil) (lf P o226))) (nd P o50 (nd P o82 (nd P o146 (lf P o274) .nil) (nd P o210 (lf P o338) .nil)) (nd P o114 (nd P o178 (lf P o306) .nil) (lf P o242)))) (nd P o26 (nd P o42 (nd P o74 (nd P o138 (lf P o266) .nil) (nd P o202 (lf P o330) .nil)) (nd P o106 (nd P o170 (lf P o298) .nil) (lf P o234))) (nd P o58 (nd P o90 (nd P o154 (lf P o282) .nil) (nd P o218 (lf P o346) .nil)) (nd P o122 (nd P o186 (lf P o314) .nil) (lf P o250))))) (nd P o14 (nd P o22 (nd P o38 (nd P o70 (nd P o134 (lf P o262) .nil) (nd P o198 (lf P o326) .nil)) (nd P o102 (nd P o166 (lf P o294) .nil) (lf P o230))) (nd P o54 (nd P o86 (nd P o150 (lf P o278) .nil) (nd P o214 (lf P o342) .nil)) (nd P o118 (nd P o182 (lf P o310) .nil) (lf P o246)))) (nd P o30 (nd P o46 (nd P o78 (nd P o142 (lf P o270) .nil) (nd P o206 (lf P o334) .nil)) (nd P o110 (nd P o174 (lf P o302) .nil) (lf P o238))) (nd P o62 (nd P o94 (nd P o158 (lf P o286) .nil) (lf P o222)) (nd P o126 (nd P o190 (lf P o318) .nil) (lf P o254))))))))
noncomputable def s4 (w : World) (os : OsState) : SharedT := ⟨t4 w.params, 348, lifeE, #[], ⟨0, 0, 0, 0⟩, 642, os⟩
noncomputable def o2v10 (P : Params) : Obj := .mk .none none (.dict #[.mk (PyData.keyHash P "type.__subclasses__.Exception.0") (.str "type.__subclasses__.Exception.0" 658) (.int 357 0), .mk (PyData.keyHash P "type.__subclasses__.Exception.n") (.str "type.__subclasses__.Exception.n" 659) (.int 1 0)] 2) #[]
noncomputable def o3v11 (P : Params) : Obj := .mk (.type "dict") none (.dict #[.mk (PyData.keyHash P "__name__") (.str "__name__" 165) (.str "vectorcove.errors" 640), .mk (PyData.keyHash P "__doc__") (.str "__doc__" 166) .none, .mk (PyData.keyHash P "__package__") (.str "__package__" 167) .none, .mk (PyData.keyHash P "__loader__") (.str "__loader__" 168) (.builtin "__main__.__loader__#opaque"), .mk (PyData.keyHash P "__spec__") (.str "__spec__" 169) .none, .mk (PyData.keyHash P "__annotations__") (.str "__annotations__" 170) (.ref 6), .mk (PyData.keyHash P "__builtins__") (.str "__builtins__" 171) (.ref 4), .mk (PyData.keyHash P "__file__") (.str "__file__" 173) (.str "/claim/cut.py" 172), .mk (PyData.keyHash P "__cached__") (.str "__cached__" 174) .none, .mk (PyData.keyHash P "_wall") (.str "_wall" 193) (.ref 21), .mk (PyData.keyHash P "NAN") (.str "NAN" 198) (.ref 22), .mk (PyData.keyHash P "INF") (.str "INF" 201) (.ref 23), .mk (PyData.keyHash P "ZERO") (.str "ZERO" 204) (.ref 24), .mk (PyData.keyHash P "gcd") (.str "gcd" 212) (.ref 31), .mk (PyData.keyHash P "make") (.str "make" 221) (.ref 38), .mk (PyData.keyHash P "from_int") (.str "from_int" 228) (.ref 45), .mk (PyData.keyHash P "is_na") (.str "is_na" 235) (.ref 52), .mk (PyData.keyHash P "is_finite") (.str "is_finite" 242) (.ref 59), .mk (PyData.keyHash P "neg") (.str "neg" 249) (.ref 66), .mk (PyData.keyHash P "to_whole") (.str "to_whole" 257) (.ref 73), .mk (PyData.keyHash P "nearest_whole") (.str "nearest_whole" 267) (.ref 80), .mk (PyData.keyHash P "exponent") (.str "exponent" 277) (.ref 87), .mk (PyData.keyHash P "MOST_EXPONENT") (.str "MOST_EXPONENT" 281) (.int 4096 280), .mk (PyData.keyHash P "whole_text") (.str "whole_text" 291) (.ref 94), .mk (PyData.keyHash P "special_text") (.str "special_text" 298) (.ref 101), .mk (PyData.keyHash P "scaled") (.str "scaled" 308) (.ref 108), .mk (PyData.keyHash P "significant") (.str "significant" 318) (.ref 115), .mk (PyData.keyHash P "without_tail") (.str "without_tail" 326) (.ref 122), .mk (PyData.keyHash P "scientific_text") (.str "scientific_text" 338) (.ref 129), .mk (PyData.keyHash P "fixed_text") (.str "fixed_text" 348) (.ref 136), .mk (PyData.keyHash P "measures") (.str "measures" 361) (.ref 143), .mk (PyData.keyHash P "chosen_form") (.str "chosen_form" 378) (.ref 150), .mk (PyData.keyHash P "formed") (.str "formed" 387) (.ref 157), .mk (PyData.keyHash P "common_texts") (.str "common_texts" 393) (.ref 162), .mk (PyData.keyHash P "number_text") (.str "number_text" 402) (.ref 170), .mk (PyData.keyHash P "digits_value") (.str "digits_value" 412) (.ref 177), .mk (PyData.keyHash P "digit_run") (.str "digit_run" 421) (.ref 184), .mk (PyData.keyHash P "exponent_value") (.str "exponent_value" 430) (.ref 191), .mk (PyData.keyHash P "powered") (.str "powered" 439) (.ref 198), .mk (PyData.keyHash P "unsigned_number") (.str "unsigned_number" 458) (.ref 205), .mk (PyData.keyHash P "parse_number") (.str "parse_number" 470) (.ref 212), .mk (PyData.keyHash P "Null") (.str "Null" 501) (.ref 229), .mk (PyData.keyHash P "Vector") (.str "Vector" 543) (.ref 258), .mk (PyData.keyHash P "character") (.str "character" 550) (.ref 269), .mk (PyData.keyHash P "length") (.str "length" 558) (.ref 276), .mk (PyData.keyHash P "is_vector") (.str "is_vector" 565) (.ref 283), .mk (PyData.keyHash P "is_atomic") (.str "is_atomic" 572) (.ref 290), .mk (PyData.keyHash P "share") (.str "share" 579) (.ref 297), .mk (PyData.keyHash P "get_attr") (.str "get_attr" 589) (.ref 304), .mk (PyData.keyHash P "label_text") (.str "label_text" 597) (.ref 311), .mk (PyData.keyHash P "level_at") (.str "level_at" 605) (.ref 318), .mk (PyData.keyHash P "label_texts") (.str "label_texts" 611) (.ref 323), .mk (PyData.keyHash P "names_of") (.str "names_of" 617) (.ref 328), .mk (PyData.keyHash P "dim_of") (.str "dim_of" 625) (.ref 335), .mk (PyData.keyHash P "dimnames_of") (.str "dimnames_of" 631) (.ref 340), .mk (PyData.keyHash P "class_attr") (.str "class_attr" 639) (.ref 347), .mk (PyData.keyHash P "CoveError") (.str "CoveError" 661) (.ref 357)] 57) #[]
noncomputable def o12v12 (P : Params) : Obj := oE #[.int 1 0, .int 0 0, .ref 20, .int 8 0, .int 0 0, .ref 30, .int 12 0, .int 0 0, .ref 37, .int 22 0, .int 0 0, .ref 44, .int 26 0, .int 0 0, .ref 51, .int 28 0, .int 0 0, .ref 58, .int 30 0, .int 0 0, .ref 65, .int 34 0, .int 0 0, .ref 72, .int 39 0, .int 0 0, .ref 79, .int 45 0, .int 0 0, .ref 86, .int 58 0, .int 0 0, .ref 93, .int 69 0, .int 0 0, .ref 100, .int 77 0, .int 0 0, .ref 107, .int 82 0, .int 0 0, .ref 114, .int 91 0, .int 0 0, .ref 121, .int 96 0, .int 0 0, .ref 128, .int 103 0, .int 0 0, .ref 135, .int 111 0, .int 0 0, .ref 142, .int 118 0, .int 0 0, .ref 149, .int 138 0, .int 0 0, .ref 156, .int 145 0, .int 0 0, .ref 161, .int 149 0, .int 0 0, .ref 169, .int 151 0, .int 0 0, .ref 176, .int 156 0, .int 0 0, .ref 183, .int 160 0, .int 0 0, .ref 190, .int 170 0, .int 0 0, .ref 197, .int 180 0, .int 0 0, .ref 204, .int 212 0, .int 0 0, .ref 211, .int 230 0, .int 0 0, .ref 218, .int 235 0, .int 0 0, .ref 239, .int 246 0, .int 0 0, .ref 268, .int 248 0, .int 0 0, .ref 275, .int 259 0, .int 0 0, .ref 282, .int 261 0, .int 0 0, .ref 289, .int 263 0, .int 0 0, .ref 296, .int 268 0, .int 0 0, .ref 303, .int 272 0, .int 0 0, .ref 310, .int 280 0, .int 0 0, .ref 317, .int 284 0, .int 0 0, .ref 322, .int 290 0, .int 0 0, .ref 327, .int 306 0, .int 0 0, .ref 334, .int 311 0, .int 0 0, .ref 339, .int 316 0, .int 0 0, .ref 346, .int 322 0, .int 0 0, .ref 353]
noncomputable def o348 (P : Params) : Obj := oT #[.type "Exception"]
noncomputable def o349 (P : Params) : Obj := .mk (.type "builtin_function_or_method") none (.fields #[.builtin "type.__prepare__", .type "type"]) #[]
noncomputable def o350 (P : Params) : Obj := .mk (.type "dict") none (.dict #[.mk (PyData.keyHash P "__module__") (.str "__module__" 649) (.str "vectorcove.errors" 640), .mk (PyData.keyHash P "__qualname__") (.str "__qualname__" 651) (.str "CoveError" 650), .mk (PyData.keyHash P "__firstlineno__") (.str "__firstlineno__" 653) (.int 322 652), .mk (PyData.keyHash P "__static_attributes__") (.str "__static_attributes__" 654) (.ref 355)] 4) #[]
noncomputable def o351 (P : Params) : Obj := oT #[]
noncomputable def o352 (P : Params) : Obj := oE #[]
noncomputable def o353 (P : Params) : Obj := oC #[.str "CoveError" 644, .str "CoveError" 645, .str "/claim/cut.py" 646, .int 322 0, .int 0 0, .int 0 0, .int 0 0, .int 0 0, .ref 351, .bool false, .int 181 0, .ref 352, .none, .none, .none, .none, .int 647 0, .int 322 0, .str "/claim/cut.py" 648]
noncomputable def o354 (P : Params) : Obj := .mk (.type "frame") none .plain #[some (.ref 353), some (.ref 3), some (.ref 350), none, some (.str "vectorcove.errors" 640), none, some (.ref 0)]
noncomputable def o355 (P : Params) : Obj := oT #[]
noncomputable def o356 (P : Params) : Obj := .mk (.type "dict") none (.dict #[.mk (PyData.keyHash P "__module__") (.str "__module__" 649) (.str "vectorcove.errors" 640), .mk (PyData.keyHash P "__firstlineno__") (.str "__firstlineno__" 653) (.int 322 652), .mk (PyData.keyHash P "__static_attributes__") (.str "__static_attributes__" 654) (.ref 355), .mk (PyData.keyHash P "__weakref__") (.str "__weakref__" 656) (.ref 358), .mk (PyData.keyHash P "__doc__") (.str "__doc__" 657) .none] 3) #[]
noncomputable def o357 (P : Params) : Obj := .mk (.type "type") none (Data.cls (ClassData.mk "CoveError" [.type "Exception"] [.ref 357, .type "Exception", .type "BaseException", .type "object"] 356 "CoveError" true [] [] false none false)) #[some (.ref 348), none, some (.str "CoveError" 642), some (.str "CoveError" 650), some (.builtin "Exception.__new__"), some (.bool true)]
noncomputable def o358 (P : Params) : Obj := .mk (.type "getset_descriptor") none (.fields #[.str "__weakref__" 655, .ref 357, .builtin "ExceptionGroup.__weakref__", .none]) #[]
noncomputable def o359 (P : Params) : Obj := .mk (.type "super") none (.fields #[.ref 357, .ref 357, .ref 357]) #[]
noncomputable def o360 (P : Params) : Obj := .mk (.type "builtin_function_or_method") none (.fields #[.builtin "object.__init_subclass__", .ref 357]) #[]
noncomputable def t5 (P : Params) : BT := (nd P boot_o_0 (nd P boot_o_1 (nd P o3v11 (nd P boot_o_7 (nd P o15 (nd P o31 (nd P o63 (nd P o127 (lf P o255) .nil) (nd P o191 (lf P o319) .nil)) (nd P o95 (nd P o159 (lf P o287) .nil) (nd P o223 (lf P o351) .nil))) (nd P o47 (nd P o79 (nd P o143 (lf P o271) .nil) (nd P o207 (lf P o335) .nil)) (nd P o111 (nd P o175 (lf P o303) .nil) (lf P o239)))) (nd P o23 (nd P o39 (nd P o71 (nd P o135 (lf P o263) .nil) (nd P o199 (lf P o327) .nil)) (nd P o103 (nd P o167 (lf P o295) .nil) (nd P o231 (lf P o359) .nil))) (nd P o55 (nd P o87 (nd P o151 (lf P o279) .nil) (nd P o215 (lf P o343) .nil)) (nd P o119 (nd P o183 (lf P o311) .nil) (lf P o247))))) (nd P o11 (nd P o19 (nd P o35 (nd P o67 (nd P o131 (lf P o259) .nil) (nd P o195 (lf P o323) .nil)) (nd P o99 (nd P o163 (lf P o291) .nil) (nd P o227 (lf P o355) .nil))) (nd P o51 (nd P o83 (nd P o147 (lf P o275) .nil) (nd P o211 (lf P o339) .nil)) (nd P o115 (nd P o179 (lf P o307) .nil) (lf P o243)))) (nd P o27 (nd P o43 (nd P o75 (nd P o139 (lf P o267) .nil) (nd P o203 (lf P o331) .nil)) (nd P o107 (nd P o171 (lf P o299) .nil) (lf P o235))) (nd P o59 (nd P o91 (nd P o155 (lf P o283) .nil) (nd P o219 (lf P o347) .nil)) (nd P o123 (nd P o187 (lf P o315) .nil) (lf P o251)))))) (nd P boot_o_5 (nd P boot_o_9 (nd P o17 (nd P o33 (nd P o65 (nd P o129 (lf P o257) .nil) (nd P o193 (lf P o321) .nil)) (nd P o97 (nd P o161 (lf P o289) .nil) (nd P o225 (lf P o353) .nil))) (nd P o49 (nd P o81 (nd P o145 (lf P o273) .nil) (nd P o209 (lf P o337) .nil)) (nd P o113 (nd P o177 (lf P o305) .nil) (lf P o241)))) (nd P o25 (nd P o41 (nd P o73 (nd P o137 (lf P o265) .nil) (nd P o201 (lf P o329) .nil)) (nd P o105 (nd P o169 (lf P o297) .nil) (lf P o233))) (nd P o57 (nd P o89 (nd P o153 (lf P o281) .nil) (nd P o217 (lf P o345) .nil)) (nd P o121 (nd P o185 (lf P o313) .nil) (lf P o249))))) (nd P o13 (nd P o21 (nd P o37 (nd P o69 (nd P o133 (lf P o261) .nil) (nd P o197 (lf P o325) .nil)) (nd P o101 (nd P o165 (lf P o293) .nil) (nd P o229 (lf P o357) .nil))) (nd P o53 (nd P o85 (nd P o149 (lf P o277) .nil) (nd P o213 (lf P o341) .nil)) (nd P o117 (nd P o181 (lf P o309) .nil) (lf P o245)))) (nd P o29 (nd P o45 (nd P o77 (nd P o141 (lf P o269) .nil) (nd P o205 (lf P o333) .nil)) (nd P o109 (nd P o173 (lf P o301) .nil) (lf P o237))) (nd P o61 (nd P o93 (nd P o157 (lf P o285) .nil) (nd P o221 (lf P o349) .nil)) (nd P o125 (nd P o189 (lf P o317) .nil) (lf P o253))))))) (nd P o2v10 (nd P boot_o_4 (nd P boot_o_8 (nd P o16 (nd P o32 (nd P o64 (nd P o128 (lf P o256) .nil) (nd P o192 (lf P o320) .nil)) (nd P o96 (nd P o160 (lf P o288) .nil) (nd P o224 (lf P o352) .nil))) (nd P o48 (nd P o80 (nd P o144 (lf P o272) .nil) (nd P o208 (lf P o336) .nil)) (nd P o112 (nd P o176 (lf P o304) .nil) (lf P o240)))) (nd P o24 (nd P o40 (nd P o72 (nd P o136 (lf P o264) .nil) (nd P o200 (lf P o328) .nil)) (nd P o104 (nd P o168 (lf P o296) .nil) (nd P o232 (lf P o360) .nil))) (nd P o56 (nd P o88 (nd P o152 (lf P o280) .nil) (nd P o216 (lf P o344) .nil)) (nd P o120 (nd P o184 (lf P o312) .nil) (lf P o248))))) (nd P o12v12 (nd P o20 (nd P o36 (nd P o68 (nd P o132 (lf P o260) .nil) (nd P o196 (lf P o324) .nil)) (nd P o100 (nd P o164 (lf P o292) .nil) (nd P o228 (lf P o356) .nil))) (nd P o52 (nd P o84 (nd P o148 (lf P o276) .nil) (nd P o212 (lf P o340) .nil)) (nd P o116 (nd P o180 (lf P o308) .nil) (lf P o244)))) (nd P o28 (nd P o44 (nd P o76 (nd P o140 (lf P o268) .nil) (nd P o204 (lf P o332) .nil)) (nd P o108 (nd P o172 (lf P o300) .nil) (lf P o236))) (nd P o60 (nd P o92 (nd P o156 (lf P o284) .nil) (nd P o220 (lf P o348) .nil)) (nd P o124 (nd P o188 (lf P o316) .nil) (lf P o252)))))) (nd P boot_o_6 (nd P boot_o_10 (nd P o18 (nd P o34 (nd P o66 (nd P o130 (lf P o258) .nil) (nd P o194 (lf P o322) .nil)) (nd P o98 (nd P o162 (lf P o290) .nil) (nd P o226 (lf P o354) .nil))) (nd P o50 (nd P o82 (nd P o146 (lf P o274) .nil) (nd P o210 (lf P o338) .nil)) (nd P o114 (nd P o178 (lf P o306) .nil) (lf P o242)))) (nd P o26 (nd P o42 (nd P o74 (nd P o138 (lf P o266) .nil) (nd P o202 (lf P o330) .nil)) (nd P o106 (nd P o170 (lf P o298) .nil) (lf P o234))) (nd P o58 (nd P o90 (nd P o154 (lf P o282) .nil) (nd P o218 (lf P o346) .nil)) (nd P o122 (nd P o186 (lf P o314) .nil) (lf P o250))))) (nd P o14 (nd P o22 (nd P o38 (nd P o70 (nd P o134 (lf P o262) .nil) (nd P o198 (lf P o326) .nil)) (nd P o102 (nd P o166 (lf P o294) .nil) (nd P o230 (lf P o358) .nil))) (nd P o54 (nd P o86 (nd P o150 (lf P o278) .nil) (nd P o214 (lf P o342) .nil)) (nd P o118 (nd P o182 (lf P o310) .nil) (lf P o246)))) (nd P o30 (nd P o46 (nd P o78 (nd P o142 (lf P o270) .nil) (nd P o206 (lf P o334) .nil)) (nd P o110 (nd P o174 (lf P o302) .nil) (lf P o238))) (nd P o62 (nd P o94 (nd P o158 (lf P o286) .nil) (nd P o222 (lf P o350) .nil)) (nd P o126 (nd P o190 (lf P o318) .nil) (lf P o254))))))))
noncomputable def s5 (w : World) (os : OsState) : SharedT := ⟨t5 w.params, 361, lifeE, #[], ⟨0, 0, 0, 0⟩, 662, os⟩
noncomputable def o3v13 (P : Params) : Obj := .mk (.type "dict") none (.dict #[.mk (PyData.keyHash P "__name__") (.str "__name__" 165) (.str "vectorcove.coerce" 687), .mk (PyData.keyHash P "__doc__") (.str "__doc__" 166) .none, .mk (PyData.keyHash P "__package__") (.str "__package__" 167) .none, .mk (PyData.keyHash P "__loader__") (.str "__loader__" 168) (.builtin "__main__.__loader__#opaque"), .mk (PyData.keyHash P "__spec__") (.str "__spec__" 169) .none, .mk (PyData.keyHash P "__annotations__") (.str "__annotations__" 170) (.ref 6), .mk (PyData.keyHash P "__builtins__") (.str "__builtins__" 171) (.ref 4), .mk (PyData.keyHash P "__file__") (.str "__file__" 173) (.str "/claim/cut.py" 172), .mk (PyData.keyHash P "__cached__") (.str "__cached__" 174) .none, .mk (PyData.keyHash P "_wall") (.str "_wall" 193) (.ref 21), .mk (PyData.keyHash P "NAN") (.str "NAN" 198) (.ref 22), .mk (PyData.keyHash P "INF") (.str "INF" 201) (.ref 23), .mk (PyData.keyHash P "ZERO") (.str "ZERO" 204) (.ref 24), .mk (PyData.keyHash P "gcd") (.str "gcd" 212) (.ref 31), .mk (PyData.keyHash P "make") (.str "make" 221) (.ref 38), .mk (PyData.keyHash P "from_int") (.str "from_int" 228) (.ref 45), .mk (PyData.keyHash P "is_na") (.str "is_na" 235) (.ref 52), .mk (PyData.keyHash P "is_finite") (.str "is_finite" 242) (.ref 59), .mk (PyData.keyHash P "neg") (.str "neg" 249) (.ref 66), .mk (PyData.keyHash P "to_whole") (.str "to_whole" 257) (.ref 73), .mk (PyData.keyHash P "nearest_whole") (.str "nearest_whole" 267) (.ref 80), .mk (PyData.keyHash P "exponent") (.str "exponent" 277) (.ref 87), .mk (PyData.keyHash P "MOST_EXPONENT") (.str "MOST_EXPONENT" 281) (.int 4096 280), .mk (PyData.keyHash P "whole_text") (.str "whole_text" 291) (.ref 94), .mk (PyData.keyHash P "special_text") (.str "special_text" 298) (.ref 101), .mk (PyData.keyHash P "scaled") (.str "scaled" 308) (.ref 108), .mk (PyData.keyHash P "significant") (.str "significant" 318) (.ref 115), .mk (PyData.keyHash P "without_tail") (.str "without_tail" 326) (.ref 122), .mk (PyData.keyHash P "scientific_text") (.str "scientific_text" 338) (.ref 129), .mk (PyData.keyHash P "fixed_text") (.str "fixed_text" 348) (.ref 136), .mk (PyData.keyHash P "measures") (.str "measures" 361) (.ref 143), .mk (PyData.keyHash P "chosen_form") (.str "chosen_form" 378) (.ref 150), .mk (PyData.keyHash P "formed") (.str "formed" 387) (.ref 157), .mk (PyData.keyHash P "common_texts") (.str "common_texts" 393) (.ref 162), .mk (PyData.keyHash P "number_text") (.str "number_text" 402) (.ref 170), .mk (PyData.keyHash P "digits_value") (.str "digits_value" 412) (.ref 177), .mk (PyData.keyHash P "digit_run") (.str "digit_run" 421) (.ref 184), .mk (PyData.keyHash P "exponent_value") (.str "exponent_value" 430) (.ref 191), .mk (PyData.keyHash P "powered") (.str "powered" 439) (.ref 198), .mk (PyData.keyHash P "unsigned_number") (.str "unsigned_number" 458) (.ref 205), .mk (PyData.keyHash P "parse_number") (.str "parse_number" 470) (.ref 212), .mk (PyData.keyHash P "Null") (.str "Null" 501) (.ref 229), .mk (PyData.keyHash P "Vector") (.str "Vector" 543) (.ref 258), .mk (PyData.keyHash P "character") (.str "character" 550) (.ref 269), .mk (PyData.keyHash P "length") (.str "length" 558) (.ref 276), .mk (PyData.keyHash P "is_vector") (.str "is_vector" 565) (.ref 283), .mk (PyData.keyHash P "is_atomic") (.str "is_atomic" 572) (.ref 290), .mk (PyData.keyHash P "share") (.str "share" 579) (.ref 297), .mk (PyData.keyHash P "get_attr") (.str "get_attr" 589) (.ref 304), .mk (PyData.keyHash P "label_text") (.str "label_text" 597) (.ref 311), .mk (PyData.keyHash P "level_at") (.str "level_at" 605) (.ref 318), .mk (PyData.keyHash P "label_texts") (.str "label_texts" 611) (.ref 323), .mk (PyData.keyHash P "names_of") (.str "names_of" 617) (.ref 328), .mk (PyData.keyHash P "dim_of") (.str "dim_of" 625) (.ref 335), .mk (PyData.keyHash P "dimnames_of") (.str "dimnames_of" 631) (.ref 340), .mk (PyData.keyHash P "class_attr") (.str "class_attr" 639) (.ref 347), .mk (PyData.keyHash P "CoveError") (.str "CoveError" 661) (.ref 357), .mk (PyData.keyHash P "Refusal") (.str "Refusal" 686) (.ref 377), .mk (PyData.keyHash P "MOST_INTEGER") (.str "MOST_INTEGER" 690) (.int 2147483647 689), .mk (PyData.keyHash P "kind_order") (.str "kind_order" 698) (.ref 386), .mk (PyData.keyHash P "common_kind") (.str "common_kind" 708) (.ref 393), .mk (PyData.keyHash P "note") (.str "note" 716) (.ref 400), .mk (PyData.keyHash P "as_logical_text") (.str "as_logical_text" 723) (.ref 407)] 63) #[]
noncomputable def o12v14 (P : Params) : Obj := oE #[.int 1 0, .int 0 0, .ref 20, .int 8 0, .int 0 0, .ref 30, .int 12 0, .int 0 0, .ref 37, .int 22 0, .int 0 0, .ref 44, .int 26 0, .int 0 0, .ref 51, .int 28 0, .int 0 0, .ref 58, .int 30 0, .int 0 0, .ref 65, .int 34 0, .int 0 0, .ref 72, .int 39 0, .int 0 0, .ref 79, .int 45 0, .int 0 0, .ref 86, .int 58 0, .int 0 0, .ref 93, .int 69 0, .int 0 0, .ref 100, .int 77 0, .int 0 0, .ref 107, .int 82 0, .int 0 0, .ref 114, .int 91 0, .int 0 0, .ref 121, .int 96 0, .int 0 0, .ref 128, .int 103 0, .int 0 0, .ref 135, .int 111 0, .int 0 0, .ref 142, .int 118 0, .int 0 0, .ref 149, .int 138 0, .int 0 0, .ref 156, .int 145 0, .int 0 0, .ref 161, .int 149 0, .int 0 0, .ref 169, .int 151 0, .int 0 0, .ref 176, .int 156 0, .int 0 0, .ref 183, .int 160 0, .int 0 0, .ref 190, .int 170 0, .int 0 0, .ref 197, .int 180 0, .int 0 0, .ref 204, .int 212 0, .int 0 0, .ref 211, .int 230 0, .int 0 0, .ref 218, .int 235 0, .int 0 0, .ref 239, .int 246 0, .int 0 0, .ref 268, .int 248 0, .int 0 0, .ref 275, .int 259 0, .int 0 0, .ref 282, .int 261 0, .int 0 0, .ref 289, .int 263 0, .int 0 0, .ref 296, .int 268 0, .int 0 0, .ref 303, .int 272 0, .int 0 0, .ref 310, .int 280 0, .int 0 0, .ref 317, .int 284 0, .int 0 0, .ref 322, .int 290 0, .int 0 0, .ref 327, .int 306 0, .int 0 0, .ref 334, .int 311 0, .int 0 0, .ref 339, .int 316 0, .int 0 0, .ref 346, .int 322 0, .int 0 0, .ref 353, .int 324 0, .int 0 0, .ref 366, .int 330 0, .int 0 0, .ref 385, .int 335 0, .int 0 0, .ref 392, .int 341 0, .int 0 0, .ref 399, .int 344 0, .int 0 0, .ref 406]
noncomputable def o357v15 (P : Params) : Obj := .mk (.type "type") none (Data.cls (ClassData.mk "CoveError" [.type "Exception"] [.ref 357, .type "Exception", .type "BaseException", .type "object"] 356 "CoveError" true [] [.ref 377] false none false)) #[some (.ref 348), none, some (.str "CoveError" 642), some (.str "CoveError" 650), some (.builtin "Exception.__new__"), some (.bool true)]
noncomputable def o361 (P : Params) : Obj := oT #[.ref 357]
noncomputable def o362 (P : Params) : Obj := .mk (.type "builtin_function_or_method") none (.fields #[.builtin "type.__prepare__", .type "type"]) #[]
noncomputable def o363 (P : Params) : Obj := .mk (.type "dict") none (.dict #[.mk (PyData.keyHash P "__module__") (.str "__module__" 669) (.str "vectorcove.errors" 640), .mk (PyData.keyHash P "__qualname__") (.str "__qualname__" 671) (.str "Refusal" 670), .mk (PyData.keyHash P "__firstlineno__") (.str "__firstlineno__" 673) (.int 324 672), .mk (PyData.keyHash P "__init__") (.str "__init__" 681) (.ref 374), .mk (PyData.keyHash P "__static_attributes__") (.str "__static_attributes__" 683) (.ref 375)] 5) #[]
noncomputable def o364 (P : Params) : Obj := oT #[]
noncomputable def o365 (P : Params) : Obj := oE #[.int 326 0, .int 4 0, .ref 373]
noncomputable def o366 (P : Params) : Obj := oC #[.str "Refusal" 664, .str "Refusal" 665, .str "/claim/cut.py" 666, .int 324 0, .int 0 0, .int 0 0, .int 0 0, .int 0 0, .ref 364, .bool false, .int 181 0, .ref 365, .none, .none, .none, .none, .int 667 0, .int 324 0, .str "/claim/cut.py" 668]
noncomputable def o367 (P : Params) : Obj := .mk (.type "frame") none .plain #[some (.ref 366), some (.ref 3), some (.ref 363), none, some (.str "vectorcove.errors" 640), none, some (.ref 0)]
noncomputable def o368 (P : Params) : Obj := oT #[]
noncomputable def o369 (P : Params) : Obj := oE #[]
noncomputable def o370 (P : Params) : Obj := oT #[.str "self" 677, .str "message" 678]
noncomputable def o371 (P : Params) : Obj := oT #[]
noncomputable def o372 (P : Params) : Obj := .mk .none none (.func (.mk "__init__" "Refusal.__init__" (mP 53 0) (mB 53 0) (mS 53 0) 0 [] .none .none .none .none none .none .none 0)) #[]
noncomputable def o373 (P : Params) : Obj := oC #[.str "__init__" 674, .str "Refusal.__init__" 675, .str "/claim/cut.py" 676, .int 326 0, .int 2 0, .int 0 0, .int 0 0, .int 3 0, .ref 368, .bool true, .int 181 0, .ref 369, .none, .ref 370, .ref 371, .ref 372, .int 679 0, .int 326 0, .str "/claim/cut.py" 680]
noncomputable def o374 (P : Params) : Obj := .mk (.type "function") none (.func (.mk "__init__" "Refusal.__init__" (mP 53 0) (mB 53 0) (mS 53 0) 3 [] .none .none .none (.str "vectorcove.errors" 640) none (.ref 373) .none 0)) #[]
noncomputable def o375 (P : Params) : Obj := oT #[.str "message" 682]
noncomputable def o376 (P : Params) : Obj := .mk (.type "dict") none (.dict #[.mk (PyData.keyHash P "__module__") (.str "__module__" 669) (.str "vectorcove.errors" 640), .mk (PyData.keyHash P "__firstlineno__") (.str "__firstlineno__" 673) (.int 324 672), .mk (PyData.keyHash P "__init__") (.str "__init__" 681) (.ref 374), .mk (PyData.keyHash P "__static_attributes__") (.str "__static_attributes__" 683) (.ref 375), .mk (PyData.keyHash P "__doc__") (.str "__doc__" 684) .none] 2) #[]
noncomputable def o377 (P : Params) : Obj := .mk (.type "type") none (Data.cls (ClassData.mk "Refusal" [.ref 357] [.ref 377, .ref 357, .type "Exception", .type "BaseException", .type "object"] 376 "Refusal" true [] [] false none false)) #[some (.ref 361), none, some (.str "Refusal" 662), some (.str "Refusal" 670), some (.builtin "Exception.__new__"), some (.bool true)]
noncomputable def o378 (P : Params) : Obj := .mk (.type "super") none (.fields #[.ref 377, .ref 377, .ref 377]) #[]
noncomputable def o379 (P : Params) : Obj := .mk (.type "builtin_function_or_method") none (.fields #[.builtin "object.__init_subclass__", .ref 377]) #[]
noncomputable def o380 (P : Params) : Obj := oT #[]
noncomputable def o381 (P : Params) : Obj := oE #[]
noncomputable def o382 (P : Params) : Obj := oT #[.str "kind" 694, .str "kinds" 695]
noncomputable def o383 (P : Params) : Obj := oT #[]
noncomputable def o384 (P : Params) : Obj := .mk .none none (.func (oF "kind_order" "kind_order" 56 0 [] .none .none .none .none none .none .none 0)) #[]
noncomputable def o385 (P : Params) : Obj := oC #[.str "kind_order" 691, .str "kind_order" 692, .str "/claim/cut.py" 693, .int 330 0, .int 1 0, .int 0 0, .int 0 0, .int 3 0, .ref 380, .bool true, .int 181 0, .ref 381, .none, .ref 382, .ref 383, .ref 384, .int 696 0, .int 330 0, .str "/claim/cut.py" 697]
noncomputable def o386 (P : Params) : Obj := .mk (.type "function") none (.func (oF "kind_order" "kind_order" 56 3 [] .none .none .none (.str "vectorcove.coerce" 687) none (.ref 385) .none 0)) #[]
noncomputable def o387 (P : Params) : Obj := oT #[]
noncomputable def o388 (P : Params) : Obj := oE #[]
noncomputable def o389 (P : Params) : Obj := oT #[.str "kinds" 702, .str "names" 703, .str "most" 704, .str "kind" 705]
noncomputable def o390 (P : Params) : Obj := oT #[]
noncomputable def o391 (P : Params) : Obj := .mk .none none (.func (oF "common_kind" "common_kind" 57 0 [] .none .none .none .none none .none .none 0)) #[]
noncomputable def o392 (P : Params) : Obj := oC #[.str "common_kind" 699, .str "common_kind" 700, .str "/claim/cut.py" 701, .int 335 0, .int 1 0, .int 0 0, .int 0 0, .int 3 0, .ref 387, .bool true, .int 181 0, .ref 388, .none, .ref 389, .ref 390, .ref 391, .int 706 0, .int 335 0, .str "/claim/cut.py" 707]
noncomputable def o393 (P : Params) : Obj := .mk (.type "function") none (.func (oF "common_kind" "common_kind" 57 3 [] .none .none .none (.str "vectorcove.coerce" 687) none (.ref 392) .none 0)) #[]
noncomputable def o394 (P : Params) : Obj := oT #[]
noncomputable def o395 (P : Params) : Obj := oE #[]
noncomputable def o396 (P : Params) : Obj := oT #[.str "notes" 712, .str "message" 713]
noncomputable def o397 (P : Params) : Obj := oT #[]
noncomputable def o398 (P : Params) : Obj := .mk .none none (.func (oF "note" "note" 58 0 [] .none .none .none .none none .none .none 0)) #[]
noncomputable def o399 (P : Params) : Obj := oC #[.str "note" 709, .str "note" 710, .str "/claim/cut.py" 711, .int 341 0, .int 2 0, .int 0 0, .int 0 0, .int 3 0, .ref 394, .bool true, .int 181 0, .ref 395, .none, .ref 396, .ref 397, .ref 398, .int 714 0, .int 341 0, .str "/claim/cut.py" 715]
noncomputable def o400 (P : Params) : Obj := .mk (.type "function") none (.func (oF "note" "note" 58 3 [] .none .none .none (.str "vectorcove.coerce" 687) none (.ref 399) .none 0)) #[]
noncomputable def o401 (P : Params) : Obj := oT #[]
noncomputable def o402 (P : Params) : Obj := oE #[]
noncomputable def o403 (P : Params) : Obj := oT #[.str "s" 720]
noncomputable def o404 (P : Params) : Obj := oT #[]
noncomputable def o405 (P : Params) : Obj := .mk .none none (.func (oF "as_logical_text" "as_logical_text" 59 0 [] .none .none .none .none none .none .none 0)) #[]
noncomputable def o406 (P : Params) : Obj := oC #[.str "as_logical_text" 717, .str "as_logical_text" 718, .str "/claim/cut.py" 719, .int 344 0, .int 1 0, .int 0 0, .int 0 0, .int 3 0, .ref 401, .bool true, .int 181 0, .ref 402, .none, .ref 403, .ref 404, .ref 405, .int 721 0, .int 344 0, .str "/claim/cut.py" 722]
noncomputable def o407 (P : Params) : Obj := .mk (.type "function") none (.func (oF "as_logical_text" "as_logical_text" 59 3 [] .none .none .none (.str "vectorcove.coerce" 687) none (.ref 406) .none 0)) #[]
noncomputable def t6 (P : Params) : BT := (nd P boot_o_0 (nd P boot_o_1 (nd P o3v13 (nd P boot_o_7 (nd P o15 (nd P o31 (nd P o63 (nd P o127 (lf P o255) (lf P o383)) (nd P o191 (lf P o319) .nil)) (nd P o95 (nd P o159 (lf P o287) .nil) (nd P o223 (lf P o351) .nil))) (nd P o47 (nd P o79 (nd P o143 (lf P o271) (lf P o399)) (nd P o207 (lf P o335) .nil)) (nd P o111 (nd P o175 (lf P o303) .nil) (nd P o239 (lf P o367) .nil)))) (nd P o23 (nd P o39 (nd P o71 (nd P o135 (lf P o263) (lf P o391)) (nd P o199 (lf P o327) .nil)) (nd P o103 (nd P o167 (lf P o295) .nil) (nd P o231 (lf P o359) .nil))) (nd P o55 (nd P o87 (nd P o151 (lf P o279) (lf P o407)) (nd P o215 (lf P o343) .nil)) (nd P o119 (nd P o183 (lf P o311) .nil) (nd P o247 (lf P o375) .nil))))) (nd P o11 (nd P o19 (nd P o35 (nd P o67 (nd P o131 (lf P o259) (lf P o387)) (nd P o195 (lf P o323) .nil)) (nd P o99 (nd P o163 (lf P o291) .nil) (nd P o227 (lf P o355) .nil))) (nd P o51 (nd P o83 (nd P o147 (lf P o275) (lf P o403)) (nd P o211 (lf P o339) .nil)) (nd P o115 (nd P o179 (lf P o307) .nil) (nd P o243 (lf P o371) .nil)))) (nd P o27 (nd P o43 (nd P o75 (nd P o139 (lf P o267) (lf P o395)) (nd P o203 (lf P o331) .nil)) (nd P o107 (nd P o171 (lf P o299) .nil) (nd P o235 (lf P o363) .nil))) (nd P o59 (nd P o91 (nd P o155 (lf P o283) .nil) (nd P o219 (lf P o347) .nil)) (nd P o123 (nd P o187 (lf P o315) .nil) (nd P o251 (lf P o379) .nil)))))) (nd P boot_o_5 (nd P boot_o_9 (nd P o17 (nd P o33 (nd P o65 (nd P o129 (lf P o257) (lf P o385)) (nd P o193 (lf P o321) .nil)) (nd P o97 (nd P o161 (lf P o289) .nil) (nd P o225 (lf P o353) .nil))) (nd P o49 (nd P o81 (nd P o145 (lf P o273) (lf P o401)) (nd P o209 (lf P o337) .nil)) (nd P o113 (nd P o177 (lf P o305) .nil) (nd P o241 (lf P o369) .nil)))) (nd P o25 (nd P o41 (nd P o73 (nd P o137 (lf P o265) (lf P o393)) (nd P o201 (lf P o329) .nil)) (nd P o105 (nd P o169 (lf P o297) .nil) (nd P o233 (lf P o361) .nil))) (nd P o57 (nd P o89 (nd P o153 (lf P o281) .nil) (nd P o217 (lf P o345) .nil)) (nd P o121 (nd P o185 (lf P o313) .nil) (nd P o249 (lf P o377) .nil))))) (nd P o13 (nd P o21 (nd P o37 (nd P o69 (nd P o133 (lf P o261) (lf P o389)) (nd P o197 (lf P o325) .nil)) (nd P o101 (nd P o165 (lf P o293) .nil) (nd P o229 (lf P o357v15) .nil))) (nd P o53 (nd P o85 (nd P o149 (lf P o277) (lf P o405)) (nd P o213 (lf P o341) .nil)) (nd P o117 (nd P o181 (lf P o309) .nil) (nd P o245 (lf P o373) .nil)))) (nd P o29 (nd P o45 (nd P o77 (nd P o141 (lf P o269) (lf P o397)) (nd P o205 (lf P o333) .nil)) (nd P o109 (nd P o173 (lf P o301) .nil) (nd P o237 (lf P o365) .nil))) (nd P o61 (nd P o93 (nd P o157 (lf P o285) .nil) (nd P o221 (lf P o349) .nil)) (nd P o125 (nd P o189 (lf P o317) .nil) (nd P o253 (lf P o381) .nil))))))) (nd P o2v10 (nd P boot_o_4 (nd P boot_o_8 (nd P o16 (nd P o32 (nd P o64 (nd P o128 (lf P o256) (lf P o384)) (nd P o192 (lf P o320) .nil)) (nd P o96 (nd P o160 (lf P o288) .nil) (nd P o224 (lf P o352) .nil))) (nd P o48 (nd P o80 (nd P o144 (lf P o272) (lf P o400)) (nd P o208 (lf P o336) .nil)) (nd P o112 (nd P o176 (lf P o304) .nil) (nd P o240 (lf P o368) .nil)))) (nd P o24 (nd P o40 (nd P o72 (nd P o136 (lf P o264) (lf P o392)) (nd P o200 (lf P o328) .nil)) (nd P o104 (nd P o168 (lf P o296) .nil) (nd P o232 (lf P o360) .nil))) (nd P o56 (nd P o88 (nd P o152 (lf P o280) .nil) (nd P o216 (lf P o344) .nil)) (nd P o120 (nd P o184 (lf P o312) .nil) (nd P o248 (lf P o376) .nil))))) (nd P o12v14 (nd P o20 (nd P o36 (nd P o68 (nd P o132 (lf P o260) (lf P o388)) (nd P o196 (lf P o324) .nil)) (nd P o100 (nd P o164 (lf P o292) .nil) (nd P o228 (lf P o356) .nil))) (nd P o52 (nd P o84 (nd P o148 (lf P o276) (lf P o404)) (nd P o212 (lf P o340) .nil)) (nd P o116 (nd P o180 (lf P o308) .nil) (nd P o244 (lf P o372) .nil)))) (nd P o28 (nd P o44 (nd P o76 (nd P o140 (lf P o268) (lf P o396)) (nd P o204 (lf P o332) .nil)) (nd P o108 (nd P o172 (lf P o300) .nil) (nd P o236 (lf P o364) .nil))) (nd P o60 (nd P o92 (nd P o156 (lf P o284) .nil) (nd P o220 (lf P o348) .nil)) (nd P o124 (nd P o188 (lf P o316) .nil) (nd P o252 (lf P o380) .nil)))))) (nd P boot_o_6 (nd P boot_o_10 (nd P o18 (nd P o34 (nd P o66 (nd P o130 (lf P o258) (lf P o386)) (nd P o194 (lf P o322) .nil)) (nd P o98 (nd P o162 (lf P o290) .nil) (nd P o226 (lf P o354) .nil))) (nd P o50 (nd P o82 (nd P o146 (lf P o274) (lf P o402)) (nd P o210 (lf P o338) .nil)) (nd P o114 (nd P o178 (lf P o306) .nil) (nd P o242 (lf P o370) .nil)))) (nd P o26 (nd P o42 (nd P o74 (nd P o138 (lf P o266) (lf P o394)) (nd P o202 (lf P o330) .nil)) (nd P o106 (nd P o170 (lf P o298) .nil) (nd P o234 (lf P o362) .nil))) (nd P o58 (nd P o90 (nd P o154 (lf P o282) .nil) (nd P o218 (lf P o346) .nil)) (nd P o122 (nd P o186 (lf P o314) .nil) (nd P o250 (lf P o378) .nil))))) (nd P o14 (nd P o22 (nd P o38 (nd P o70 (nd P o134 (lf P o262) (lf P o390)) (nd P o198 (lf P o326) .nil)) (nd P o102 (nd P o166 (lf P o294) .nil) (nd P o230 (lf P o358) .nil))) (nd P o54 (nd P o86 (nd P o150 (lf P o278) (lf P o406)) (nd P o214 (lf P o342) .nil)) (nd P o118 (nd P o182 (lf P o310) .nil) (nd P o246 (lf P o374) .nil)))) (nd P o30 (nd P o46 (nd P o78 (nd P o142 (lf P o270) (lf P o398)) (nd P o206 (lf P o334) .nil)) (nd P o110 (nd P o174 (lf P o302) .nil) (nd P o238 (lf P o366) .nil))) (nd P o62 (nd P o94 (nd P o158 (lf P o286) .nil) (nd P o222 (lf P o350) .nil)) (nd P o126 (nd P o190 (lf P o318) .nil) (nd P o254 (lf P o382) .nil))))))))
noncomputable def s6 (w : World) (os : OsState) : SharedT := ⟨t6 w.params, 408, lifeE, #[], ⟨0, 0, 0, 0⟩, 724, os⟩
noncomputable def o3v16 (P : Params) : Obj := .mk (.type "dict") none (.dict #[.mk (PyData.keyHash P "__name__") (.str "__name__" 165) (.str "vectorcove.identical" 832), .mk (PyData.keyHash P "__doc__") (.str "__doc__" 166) .none, .mk (PyData.keyHash P "__package__") (.str "__package__" 167) .none, .mk (PyData.keyHash P "__loader__") (.str "__loader__" 168) (.builtin "__main__.__loader__#opaque"), .mk (PyData.keyHash P "__spec__") (.str "__spec__" 169) .none, .mk (PyData.keyHash P "__annotations__") (.str "__annotations__" 170) (.ref 6), .mk (PyData.keyHash P "__builtins__") (.str "__builtins__" 171) (.ref 4), .mk (PyData.keyHash P "__file__") (.str "__file__" 173) (.str "/claim/cut.py" 172), .mk (PyData.keyHash P "__cached__") (.str "__cached__" 174) .none, .mk (PyData.keyHash P "_wall") (.str "_wall" 193) (.ref 21), .mk (PyData.keyHash P "NAN") (.str "NAN" 198) (.ref 22), .mk (PyData.keyHash P "INF") (.str "INF" 201) (.ref 23), .mk (PyData.keyHash P "ZERO") (.str "ZERO" 204) (.ref 24), .mk (PyData.keyHash P "gcd") (.str "gcd" 212) (.ref 31), .mk (PyData.keyHash P "make") (.str "make" 221) (.ref 38), .mk (PyData.keyHash P "from_int") (.str "from_int" 228) (.ref 45), .mk (PyData.keyHash P "is_na") (.str "is_na" 235) (.ref 52), .mk (PyData.keyHash P "is_finite") (.str "is_finite" 242) (.ref 59), .mk (PyData.keyHash P "neg") (.str "neg" 249) (.ref 66), .mk (PyData.keyHash P "to_whole") (.str "to_whole" 257) (.ref 73), .mk (PyData.keyHash P "nearest_whole") (.str "nearest_whole" 267) (.ref 80), .mk (PyData.keyHash P "exponent") (.str "exponent" 277) (.ref 87), .mk (PyData.keyHash P "MOST_EXPONENT") (.str "MOST_EXPONENT" 281) (.int 4096 280), .mk (PyData.keyHash P "whole_text") (.str "whole_text" 291) (.ref 94), .mk (PyData.keyHash P "special_text") (.str "special_text" 298) (.ref 101), .mk (PyData.keyHash P "scaled") (.str "scaled" 308) (.ref 108), .mk (PyData.keyHash P "significant") (.str "significant" 318) (.ref 115), .mk (PyData.keyHash P "without_tail") (.str "without_tail" 326) (.ref 122), .mk (PyData.keyHash P "scientific_text") (.str "scientific_text" 338) (.ref 129), .mk (PyData.keyHash P "fixed_text") (.str "fixed_text" 348) (.ref 136), .mk (PyData.keyHash P "measures") (.str "measures" 361) (.ref 143), .mk (PyData.keyHash P "chosen_form") (.str "chosen_form" 378) (.ref 150), .mk (PyData.keyHash P "formed") (.str "formed" 387) (.ref 157), .mk (PyData.keyHash P "common_texts") (.str "common_texts" 393) (.ref 162), .mk (PyData.keyHash P "number_text") (.str "number_text" 402) (.ref 170), .mk (PyData.keyHash P "digits_value") (.str "digits_value" 412) (.ref 177), .mk (PyData.keyHash P "digit_run") (.str "digit_run" 421) (.ref 184), .mk (PyData.keyHash P "exponent_value") (.str "exponent_value" 430) (.ref 191), .mk (PyData.keyHash P "powered") (.str "powered" 439) (.ref 198), .mk (PyData.keyHash P "unsigned_number") (.str "unsigned_number" 458) (.ref 205), .mk (PyData.keyHash P "parse_number") (.str "parse_number" 470) (.ref 212), .mk (PyData.keyHash P "Null") (.str "Null" 501) (.ref 229), .mk (PyData.keyHash P "Vector") (.str "Vector" 543) (.ref 258), .mk (PyData.keyHash P "character") (.str "character" 550) (.ref 269), .mk (PyData.keyHash P "length") (.str "length" 558) (.ref 276), .mk (PyData.keyHash P "is_vector") (.str "is_vector" 565) (.ref 283), .mk (PyData.keyHash P "is_atomic") (.str "is_atomic" 572) (.ref 290), .mk (PyData.keyHash P "share") (.str "share" 579) (.ref 297), .mk (PyData.keyHash P "get_attr") (.str "get_attr" 589) (.ref 304), .mk (PyData.keyHash P "label_text") (.str "label_text" 597) (.ref 311), .mk (PyData.keyHash P "level_at") (.str "level_at" 605) (.ref 318), .mk (PyData.keyHash P "label_texts") (.str "label_texts" 611) (.ref 323), .mk (PyData.keyHash P "names_of") (.str "names_of" 617) (.ref 328), .mk (PyData.keyHash P "dim_of") (.str "dim_of" 625) (.ref 335), .mk (PyData.keyHash P "dimnames_of") (.str "dimnames_of" 631) (.ref 340), .mk (PyData.keyHash P "class_attr") (.str "class_attr" 639) (.ref 347), .mk (PyData.keyHash P "CoveError") (.str "CoveError" 661) (.ref 357), .mk (PyData.keyHash P "Refusal") (.str "Refusal" 686) (.ref 377), .mk (PyData.keyHash P "MOST_INTEGER") (.str "MOST_INTEGER" 690) (.int 2147483647 689), .mk (PyData.keyHash P "kind_order") (.str "kind_order" 698) (.ref 386), .mk (PyData.keyHash P "common_kind") (.str "common_kind" 708) (.ref 393), .mk (PyData.keyHash P "note") (.str "note" 716) (.ref 400), .mk (PyData.keyHash P "as_logical_text") (.str "as_logical_text" 723) (.ref 407), .mk (PyData.keyHash P "double_to_integer") (.str "double_to_integer" 732) (.ref 414), .mk (PyData.keyHash P "text_to_double") (.str "text_to_double" 742) (.ref 421), .mk (PyData.keyHash P "to_logical") (.str "to_logical" 750) (.ref 428), .mk (PyData.keyHash P "to_integer") (.str "to_integer" 759) (.ref 435), .mk (PyData.keyHash P "to_double") (.str "to_double" 768) (.ref 442), .mk (PyData.keyHash P "to_text") (.str "to_text" 776) (.ref 449), .mk (PyData.keyHash P "item_as") (.str "item_as" 786) (.ref 456), .mk (PyData.keyHash P "is_atomic_kind") (.str "is_atomic_kind" 793) (.ref 463), .mk (PyData.keyHash P "list_item_as") (.str "list_item_as" 803) (.ref 470), .mk (PyData.keyHash P "refuse_type") (.str "refuse_type" 811) (.ref 477), .mk (PyData.keyHash P "as_vector_kind") (.str "as_vector_kind" 817) (.ref 482), .mk (PyData.keyHash P "with_names") (.str "with_names" 825) (.ref 489), .mk (PyData.keyHash P "as_kind") (.str "as_kind" 831) (.ref 494)] 76) #[]
noncomputable def o12v17 (P : Params) : Obj := oE #[.int 1 0, .int 0 0, .ref 20, .int 8 0, .int 0 0, .ref 30, .int 12 0, .int 0 0, .ref 37, .int 22 0, .int 0 0, .ref 44, .int 26 0, .int 0 0, .ref 51, .int 28 0, .int 0 0, .ref 58, .int 30 0, .int 0 0, .ref 65, .int 34 0, .int 0 0, .ref 72, .int 39 0, .int 0 0, .ref 79, .int 45 0, .int 0 0, .ref 86, .int 58 0, .int 0 0, .ref 93, .int 69 0, .int 0 0, .ref 100, .int 77 0, .int 0 0, .ref 107, .int 82 0, .int 0 0, .ref 114, .int 91 0, .int 0 0, .ref 121, .int 96 0, .int 0 0, .ref 128, .int 103 0, .int 0 0, .ref 135, .int 111 0, .int 0 0, .ref 142, .int 118 0, .int 0 0, .ref 149, .int 138 0, .int 0 0, .ref 156, .int 145 0, .int 0 0, .ref 161, .int 149 0, .int 0 0, .ref 169, .int 151 0, .int 0 0, .ref 176, .int 156 0, .int 0 0, .ref 183, .int 160 0, .int 0 0, .ref 190, .int 170 0, .int 0 0, .ref 197, .int 180 0, .int 0 0, .ref 204, .int 212 0, .int 0 0, .ref 211, .int 230 0, .int 0 0, .ref 218, .int 235 0, .int 0 0, .ref 239, .int 246 0, .int 0 0, .ref 268, .int 248 0, .int 0 0, .ref 275, .int 259 0, .int 0 0, .ref 282, .int 261 0, .int 0 0, .ref 289, .int 263 0, .int 0 0, .ref 296, .int 268 0, .int 0 0, .ref 303, .int 272 0, .int 0 0, .ref 310, .int 280 0, .int 0 0, .ref 317, .int 284 0, .int 0 0, .ref 322, .int 290 0, .int 0 0, .ref 327, .int 306 0, .int 0 0, .ref 334, .int 311 0, .int 0 0, .ref 339, .int 316 0, .int 0 0, .ref 346, .int 322 0, .int 0 0, .ref 353, .int 324 0, .int 0 0, .ref 366, .int 330 0, .int 0 0, .ref 385, .int 335 0, .int 0 0, .ref 392, .int 341 0, .int 0 0, .ref 399, .int 344 0, .int 0 0, .ref 406, .int 350 0, .int 0 0, .ref 413, .int 358 0, .int 0 0, .ref 420, .int 364 0, .int 0 0, .ref 427, .int 374 0, .int 0 0, .ref 434, .int 382 0, .int 0 0, .ref 441, .int 388 0, .int 0 0, .ref 448, .int 396 0, .int 0 0, .ref 455, .int 410 0, .int 0 0, .ref 462, .int 412 0, .int 0 0, .ref 469, .int 418 0, .int 0 0, .ref 476, .int 420 0, .int 0 0, .ref 481, .int 434 0, .int 0 0, .ref 488, .int 438 0, .int 0 0, .ref 493]
noncomputable def o408 (P : Params) : Obj := oT #[]
noncomputable def o409 (P : Params) : Obj := oE #[]
noncomputable def o410 (P : Params) : Obj := oT #[.str "x" 727, .str "notes" 728, .str "found" 729]
noncomputable def o411 (P : Params) : Obj := oT #[]
noncomputable def o412 (P : Params) : Obj := .mk .none none (.func (oF "double_to_integer" "double_to_integer" 60 0 [] .none .none .none .none none .none .none 0)) #[]
noncomputable def o413 (P : Params) : Obj := oC #[.str "double_to_integer" 724, .str "double_to_integer" 725, .str "/claim/cut.py" 726, .int 350 0, .int 2 0, .int 0 0, .int 0 0, .int 3 0, .ref 408, .bool true, .int 181 0, .ref 409, .none, .ref 410, .ref 411, .ref 412, .int 730 0, .int 350 0, .str "/claim/cut.py" 731]
noncomputable def o414 (P : Params) : Obj := .mk (.type "function") none (.func (oF "double_to_integer" "double_to_integer" 60 3 [] .none .none .none (.str "vectorcove.coerce" 687) none (.ref 413) .none 0)) #[]
noncomputable def o415 (P : Params) : Obj := oT #[]
noncomputable def o416 (P : Params) : Obj := oE #[]
noncomputable def o417 (P : Params) : Obj := oT #[.str "s" 736, .str "notes" 737, .str "ok" 738, .str "found" 739]
noncomputable def o418 (P : Params) : Obj := oT #[]
noncomputable def o419 (P : Params) : Obj := .mk .none none (.func (oF "text_to_double" "text_to_double" 61 0 [] .none .none .none .none none .none .none 0)) #[]
noncomputable def o420 (P : Params) : Obj := oC #[.str "text_to_double" 733, .str "text_to_double" 734, .str "/claim/cut.py" 735, .int 358 0, .int 2 0, .int 0 0, .int 0 0, .int 3 0, .ref 415, .bool true, .int 181 0, .ref 416, .none, .ref 417, .ref 418, .ref 419, .int 740 0, .int 358 0, .str "/claim/cut.py" 741]
noncomputable def o421 (P : Params) : Obj := .mk (.type "function") none (.func (oF "text_to_double" "text_to_double" 61 3 [] .none .none .none (.str "vectorcove.coerce" 687) none (.ref 420) .none 0)) #[]
noncomputable def o422 (P : Params) : Obj := oT #[]
noncomputable def o423 (P : Params) : Obj := oE #[]
noncomputable def o424 (P : Params) : Obj := oT #[.str "kind" 746, .str "item" 747]
noncomputable def o425 (P : Params) : Obj := oT #[]
noncomputable def o426 (P : Params) : Obj := .mk .none none (.func (oF "to_logical" "to_logical" 62 0 [] .none .none .none .none none .none .none 0)) #[]
noncomputable def o427 (P : Params) : Obj := oC #[.str "to_logical" 743, .str "to_logical" 744, .str "/claim/cut.py" 745, .int 364 0, .int 2 0, .int 0 0, .int 0 0, .int 3 0, .ref 422, .bool true, .int 181 0, .ref 423, .none, .ref 424, .ref 425, .ref 426, .int 748 0, .int 364 0, .str "/claim/cut.py" 749]
noncomputable def o428 (P : Params) : Obj := .mk (.type "function") none (.func (oF "to_logical" "to_logical" 62 3 [] .none .none .none (.str "vectorcove.coerce" 687) none (.ref 427) .none 0)) #[]
noncomputable def o429 (P : Params) : Obj := oT #[]
noncomputable def o430 (P : Params) : Obj := oE #[]
noncomputable def o431 (P : Params) : Obj := oT #[.str "kind" 754, .str "item" 755, .str "notes" 756]
noncomputable def o432 (P : Params) : Obj := oT #[]
noncomputable def o433 (P : Params) : Obj := .mk .none none (.func (oF "to_integer" "to_integer" 63 0 [] .none .none .none .none none .none .none 0)) #[]
noncomputable def o434 (P : Params) : Obj := oC #[.str "to_integer" 751, .str "to_integer" 752, .str "/claim/cut.py" 753, .int 374 0, .int 3 0, .int 0 0, .int 0 0, .int 3 0, .ref 429, .bool true, .int 181 0, .ref 430, .none, .ref 431, .ref 432, .ref 433, .int 757 0, .int 374 0, .str "/claim/cut.py" 758]
noncomputable def o435 (P : Params) : Obj := .mk (.type "function") none (.func (oF "to_integer" "to_integer" 63 3 [] .none .none .none (.str "vectorcove.coerce" 687) none (.ref 434) .none 0)) #[]
noncomputable def o436 (P : Params) : Obj := oT #[]
noncomputable def o437 (P : Params) : Obj := oE #[]
noncomputable def o438 (P : Params) : Obj := oT #[.str "kind" 763, .str "item" 764, .str "notes" 765]
noncomputable def o439 (P : Params) : Obj := oT #[]
noncomputable def o440 (P : Params) : Obj := .mk .none none (.func (oF "to_double" "to_double" 64 0 [] .none .none .none .none none .none .none 0)) #[]
noncomputable def o441 (P : Params) : Obj := oC #[.str "to_double" 760, .str "to_double" 761, .str "/claim/cut.py" 762, .int 382 0, .int 3 0, .int 0 0, .int 0 0, .int 3 0, .ref 436, .bool true, .int 181 0, .ref 437, .none, .ref 438, .ref 439, .ref 440, .int 766 0, .int 382 0, .str "/claim/cut.py" 767]
noncomputable def o442 (P : Params) : Obj := .mk (.type "function") none (.func (oF "to_double" "to_double" 64 3 [] .none .none .none (.str "vectorcove.coerce" 687) none (.ref 441) .none 0)) #[]
noncomputable def o443 (P : Params) : Obj := oT #[]
noncomputable def o444 (P : Params) : Obj := oE #[]
noncomputable def o445 (P : Params) : Obj := oT #[.str "kind" 772, .str "item" 773]
noncomputable def o446 (P : Params) : Obj := oT #[]
noncomputable def o447 (P : Params) : Obj := .mk .none none (.func (.mk "to_text" "to_text" (hP 65) (hB 65) (hS 44) 0 [] .none .none .none .none none .none .none 0)) #[]
noncomputable def o448 (P : Params) : Obj := oC #[.str "to_text" 769, .str "to_text" 770, .str "/claim/cut.py" 771, .int 388 0, .int 2 0, .int 0 0, .int 0 0, .int 3 0, .ref 443, .bool true, .int 181 0, .ref 444, .none, .ref 445, .ref 446, .ref 447, .int 774 0, .int 388 0, .str "/claim/cut.py" 775]
noncomputable def o449 (P : Params) : Obj := .mk (.type "function") none (.func (.mk "to_text" "to_text" (hP 65) (hB 65) (hS 44) 3 [] .none .none .none (.str "vectorcove.coerce" 687) none (.ref 448) .none 0)) #[]
noncomputable def o450 (P : Params) : Obj := oT #[]
noncomputable def o451 (P : Params) : Obj := oE #[]
noncomputable def o452 (P : Params) : Obj := oT #[.str "kind" 780, .str "item" 781, .str "to" 782, .str "notes" 783]
noncomputable def o453 (P : Params) : Obj := oT #[]
noncomputable def o454 (P : Params) : Obj := .mk .none none (.func (oF "item_as" "item_as" 66 0 [] .none .none .none .none none .none .none 0)) #[]
noncomputable def o455 (P : Params) : Obj := oC #[.str "item_as" 777, .str "item_as" 778, .str "/claim/cut.py" 779, .int 396 0, .int 4 0, .int 0 0, .int 0 0, .int 3 0, .ref 450, .bool true, .int 181 0, .ref 451, .none, .ref 452, .ref 453, .ref 454, .int 784 0, .int 396 0, .str "/claim/cut.py" 785]
noncomputable def o456 (P : Params) : Obj := .mk (.type "function") none (.func (oF "item_as" "item_as" 66 3 [] .none .none .none (.str "vectorcove.coerce" 687) none (.ref 455) .none 0)) #[]
noncomputable def o457 (P : Params) : Obj := oT #[]
noncomputable def o458 (P : Params) : Obj := oE #[]
noncomputable def o459 (P : Params) : Obj := oT #[.str "kind" 790]
noncomputable def o460 (P : Params) : Obj := oT #[]
noncomputable def o461 (P : Params) : Obj := .mk .none none (.func (oF "is_atomic_kind" "is_atomic_kind" 67 0 [] .none .none .none .none none .none .none 0)) #[]
noncomputable def o462 (P : Params) : Obj := oC #[.str "is_atomic_kind" 787, .str "is_atomic_kind" 788, .str "/claim/cut.py" 789, .int 410 0, .int 1 0, .int 0 0, .int 0 0, .int 3 0, .ref 457, .bool true, .int 181 0, .ref 458, .none, .ref 459, .ref 460, .ref 461, .int 791 0, .int 410 0, .str "/claim/cut.py" 792]
noncomputable def o463 (P : Params) : Obj := .mk (.type "function") none (.func (oF "is_atomic_kind" "is_atomic_kind" 67 3 [] .none .none .none (.str "vectorcove.coerce" 687) none (.ref 462) .none 0)) #[]
noncomputable def o464 (P : Params) : Obj := oT #[]
noncomputable def o465 (P : Params) : Obj := oE #[]
noncomputable def o466 (P : Params) : Obj := oT #[.str "kind" 797, .str "item" 798, .str "to" 799, .str "notes" 800]
noncomputable def o467 (P : Params) : Obj := oT #[]
noncomputable def o468 (P : Params) : Obj := .mk .none none (.func (oF "list_item_as" "list_item_as" 68 0 [] .none .none .none .none none .none .none 0)) #[]
noncomputable def o469 (P : Params) : Obj := oC #[.str "list_item_as" 794, .str "list_item_as" 795, .str "/claim/cut.py" 796, .int 412 0, .int 4 0, .int 0 0, .int 0 0, .int 3 0, .ref 464, .bool true, .int 181 0, .ref 465, .none, .ref 466, .ref 467, .ref 468, .int 801 0, .int 412 0, .str "/claim/cut.py" 802]
noncomputable def o470 (P : Params) : Obj := .mk (.type "function") none (.func (oF "list_item_as" "list_item_as" 68 3 [] .none .none .none (.str "vectorcove.coerce" 687) none (.ref 469) .none 0)) #[]
noncomputable def o471 (P : Params) : Obj := oT #[]
noncomputable def o472 (P : Params) : Obj := oE #[]
noncomputable def o473 (P : Params) : Obj := oT #[.str "v" 807, .str "kind" 808]
noncomputable def o474 (P : Params) : Obj := oT #[]
noncomputable def o475 (P : Params) : Obj := .mk .none none (.func (oF "refuse_type" "refuse_type" 69 0 [] .none .none .none .none none .none .none 0)) #[]
noncomputable def o476 (P : Params) : Obj := oC #[.str "refuse_type" 804, .str "refuse_type" 805, .str "/claim/cut.py" 806, .int 418 0, .int 2 0, .int 0 0, .int 0 0, .int 3 0, .ref 471, .bool true, .int 181 0, .ref 472, .none, .ref 473, .ref 474, .ref 475, .int 809 0, .int 418 0, .str "/claim/cut.py" 810]
noncomputable def o477 (P : Params) : Obj := .mk (.type "function") none (.func (oF "refuse_type" "refuse_type" 69 3 [] .none .none .none (.str "vectorcove.coerce" 687) none (.ref 476) .none 0)) #[]
noncomputable def o478 (P : Params) : Obj := oT #[]
noncomputable def o479 (P : Params) : Obj := oE #[]
noncomputable def o480 (P : Params) : Obj := .mk .none none (.func (oF "as_vector_kind" "as_vector_kind" 70 0 [] .none .none .none .none none .none .none 0)) #[]
noncomputable def o481 (P : Params) : Obj := oC #[.str "as_vector_kind" 812, .str "as_vector_kind" 813, .str "/claim/cut.py" 814, .int 420 0, .int 2 0, .int 0 0, .int 0 0, .int 3 0, .ref 478, .bool true, .int 181 0, .ref 479, .none, .none, .none, .ref 480, .int 815 0, .int 420 0, .str "/claim/cut.py" 816]
noncomputable def o482 (P : Params) : Obj := .mk (.type "function") none (.func (oF "as_vector_kind" "as_vector_kind" 70 3 [] .none .none .none (.str "vectorcove.coerce" 687) none (.ref 481) .none 0)) #[]
noncomputable def o483 (P : Params) : Obj := oT #[]
noncomputable def o484 (P : Params) : Obj := oE #[]
noncomputable def o485 (P : Params) : Obj := oT #[.str "v" 821, .str "names" 822]
noncomputable def o486 (P : Params) : Obj := oT #[]
noncomputable def o487 (P : Params) : Obj := .mk .none none (.func (oF "with_names" "with_names" 71 0 [] .none .none .none .none none .none .none 0)) #[]
noncomputable def o488 (P : Params) : Obj := oC #[.str "with_names" 818, .str "with_names" 819, .str "/claim/cut.py" 820, .int 434 0, .int 2 0, .int 0 0, .int 0 0, .int 3 0, .ref 483, .bool true, .int 181 0, .ref 484, .none, .ref 485, .ref 486, .ref 487, .int 823 0, .int 434 0, .str "/claim/cut.py" 824]
noncomputable def o489 (P : Params) : Obj := .mk (.type "function") none (.func (oF "with_names" "with_names" 71 3 [] .none .none .none (.str "vectorcove.coerce" 687) none (.ref 488) .none 0)) #[]
noncomputable def o490 (P : Params) : Obj := oT #[]
noncomputable def o491 (P : Params) : Obj := oE #[]
noncomputable def o492 (P : Params) : Obj := .mk .none none (.func (oF "as_kind" "as_kind" 72 0 [] .none .none .none .none none .none .none 0)) #[]
noncomputable def o493 (P : Params) : Obj := oC #[.str "as_kind" 826, .str "as_kind" 827, .str "/claim/cut.py" 828, .int 438 0, .int 3 0, .int 0 0, .int 0 0, .int 3 0, .ref 490, .bool true, .int 181 0, .ref 491, .none, .none, .none, .ref 492, .int 829 0, .int 438 0, .str "/claim/cut.py" 830]
noncomputable def o494 (P : Params) : Obj := .mk (.type "function") none (.func (oF "as_kind" "as_kind" 72 3 [] .none .none .none (.str "vectorcove.coerce" 687) none (.ref 493) .none 0)) #[]
noncomputable def t7 (P : Params) : BT := (nd P boot_o_0 (nd P boot_o_1 (nd P o3v16 (nd P boot_o_7 (nd P o15 (nd P o31 (nd P o63 (nd P o127 (lf P o255) (lf P o383)) (nd P o191 (lf P o319) (lf P o447))) (nd P o95 (nd P o159 (lf P o287) (lf P o415)) (nd P o223 (lf P o351) (lf P o479)))) (nd P o47 (nd P o79 (nd P o143 (lf P o271) (lf P o399)) (nd P o207 (lf P o335) (lf P o463))) (nd P o111 (nd P o175 (lf P o303) (lf P o431)) (nd P o239 (lf P o367) .nil)))) (nd P o23 (nd P o39 (nd P o71 (nd P o135 (lf P o263) (lf P o391)) (nd P o199 (lf P o327) (lf P o455))) (nd P o103 (nd P o167 (lf P o295) (lf P o423)) (nd P o231 (lf P o359) (lf P o487)))) (nd P o55 (nd P o87 (nd P o151 (lf P o279) (lf P o407)) (nd P o215 (lf P o343) (lf P o471))) (nd P o119 (nd P o183 (lf P o311) (lf P o439)) (nd P o247 (lf P o375) .nil))))) (nd P o11 (nd P o19 (nd P o35 (nd P o67 (nd P o131 (lf P o259) (lf P o387)) (nd P o195 (lf P o323) (lf P o451))) (nd P o99 (nd P o163 (lf P o291) (lf P o419)) (nd P o227 (lf P o355) (lf P o483)))) (nd P o51 (nd P o83 (nd P o147 (lf P o275) (lf P o403)) (nd P o211 (lf P o339) (lf P o467))) (nd P o115 (nd P o179 (lf P o307) (lf P o435)) (nd P o243 (lf P o371) .nil)))) (nd P o27 (nd P o43 (nd P o75 (nd P o139 (lf P o267) (lf P o395)) (nd P o203 (lf P o331) (lf P o459))) (nd P o107 (nd P o171 (lf P o299) (lf P o427)) (nd P o235 (lf P o363) (lf P o491)))) (nd P o59 (nd P o91 (nd P o155 (lf P o283) (lf P o411)) (nd P o219 (lf P o347) (lf P o475))) (nd P o123 (nd P o187 (lf P o315) (lf P o443)) (nd P o251 (lf P o379) .nil)))))) (nd P boot_o_5 (nd P boot_o_9 (nd P o17 (nd P o33 (nd P o65 (nd P o129 (lf P o257) (lf P o385)) (nd P o193 (lf P o321) (lf P o449))) (nd P o97 (nd P o161 (lf P o289) (lf P o417)) (nd P o225 (lf P o353) (lf P o481)))) (nd P o49 (nd P o81 (nd P o145 (lf P o273) (lf P o401)) (nd P o209 (lf P o337) (lf P o465))) (nd P o113 (nd P o177 (lf P o305) (lf P o433)) (nd P o241 (lf P o369) .nil)))) (nd P o25 (nd P o41 (nd P o73 (nd P o137 (lf P o265) (lf P o393)) (nd P o201 (lf P o329) (lf P o457))) (nd P o105 (nd P o169 (lf P o297) (lf P o425)) (nd P o233 (lf P o361) (lf P o489)))) (nd P o57 (nd P o89 (nd P o153 (lf P o281) (lf P o409)) (nd P o217 (lf P o345) (lf P o473))) (nd P o121 (nd P o185 (lf P o313) (lf P o441)) (nd P o249 (lf P o377) .nil))))) (nd P o13 (nd P o21 (nd P o37 (nd P o69 (nd P o133 (lf P o261) (lf P o389)) (nd P o197 (lf P o325) (lf P o453))) (nd P o101 (nd P o165 (lf P o293) (lf P o421)) (nd P o229 (lf P o357v15) (lf P o485)))) (nd P o53 (nd P o85 (nd P o149 (lf P o277) (lf P o405)) (nd P o213 (lf P o341) (lf P o469))) (nd P o117 (nd P o181 (lf P o309) (lf P o437)) (nd P o245 (lf P o373) .nil)))) (nd P o29 (nd P o45 (nd P o77 (nd P o141 (lf P o269) (lf P o397)) (nd P o205 (lf P o333) (lf P o461))) (nd P o109 (nd P o173 (lf P o301) (lf P o429)) (nd P o237 (lf P o365) (lf P o493)))) (nd P o61 (nd P o93 (nd P o157 (lf P o285) (lf P o413)) (nd P o221 (lf P o349) (lf P o477))) (nd P o125 (nd P o189 (lf P o317) (lf P o445)) (nd P o253 (lf P o381) .nil))))))) (nd P o2v10 (nd P boot_o_4 (nd P boot_o_8 (nd P o16 (nd P o32 (nd P o64 (nd P o128 (lf P o256) (lf P o384)) (nd P o192 (lf P o320) (lf P o448))) (nd P o96 (nd P o160 (lf P o288) (lf P o416)) (nd P o224 (lf P o352) (lf P o480)))) (nd P o48 (nd P o80 (nd P o144 (lf P o272) (lf P o400)) (nd P o208 (lf P o336) (lf P o464))) (nd P o112 (nd P o176 (lf P o304) (lf P o432)) (nd P o240 (lf P o368) .nil)))) (nd P o24 (nd P o40 (nd P o72 (nd P o136 (lf P o264) (lf P o392)) (nd P o200 (lf P o328) (lf P o456))) (nd P o104 (nd P o168 (lf P o296) (lf P o424)) (nd P o232 (lf P o360) (lf P o488)))) (nd P o56 (nd P o88 (nd P o152 (lf P o280) (lf P o408)) (nd P o216 (lf P o344) (lf P o472))) (nd P o120 (nd P o184 (lf P o312) (lf P o440)) (nd P o248 (lf P o376) .nil))))) (nd P o12v17 (nd P o20 (nd P o36 (nd P o68 (nd P o132 (lf P o260) (lf P o388)) (nd P o196 (lf P o324) (lf P o452))) (nd P o100 (nd P o164 (lf P o292) (lf P o420)) (nd P o228 (lf P o356) (lf P o484)))) (nd P o52 (nd P o84 (nd P o148 (lf P o276) (lf P o404)) (nd P o212 (lf P o340) (lf P o468))) (nd P o116 (nd P o180 (lf P o308) (lf P o436)) (nd P o244 (lf P o372) .nil)))) (nd P o28 (nd P o44 (nd P o76 (nd P o140 (lf P o268) (lf P o396)) (nd P o204 (lf P o332) (lf P o460))) (nd P o108 (nd P o172 (lf P o300) (lf P o428)) (nd P o236 (lf P o364) (lf P o492)))) (nd P o60 (nd P o92 (nd P o156 (lf P o284) (lf P o412)) (nd P o220 (lf P o348) (lf P o476))) (nd P o124 (nd P o188 (lf P o316) (lf P o444)) (nd P o252 (lf P o380) .nil)))))) (nd P boot_o_6 (nd P boot_o_10 (nd P o18 (nd P o34 (nd P o66 (nd P o130 (lf P o258) (lf P o386)) (nd P o194 (lf P o322) (lf P o450))) (nd P o98 (nd P o162 (lf P o290) (lf P o418)) (nd P o226 (lf P o354) (lf P o482)))) (nd P o50 (nd P o82 (nd P o146 (lf P o274) (lf P o402)) (nd P o210 (lf P o338) (lf P o466))) (nd P o114 (nd P o178 (lf P o306) (lf P o434)) (nd P o242 (lf P o370) .nil)))) (nd P o26 (nd P o42 (nd P o74 (nd P o138 (lf P o266) (lf P o394)) (nd P o202 (lf P o330) (lf P o458))) (nd P o106 (nd P o170 (lf P o298) (lf P o426)) (nd P o234 (lf P o362) (lf P o490)))) (nd P o58 (nd P o90 (nd P o154 (lf P o282) (lf P o410)) (nd P o218 (lf P o346) (lf P o474))) (nd P o122 (nd P o186 (lf P o314) (lf P o442)) (nd P o250 (lf P o378) .nil))))) (nd P o14 (nd P o22 (nd P o38 (nd P o70 (nd P o134 (lf P o262) (lf P o390)) (nd P o198 (lf P o326) (lf P o454))) (nd P o102 (nd P o166 (lf P o294) (lf P o422)) (nd P o230 (lf P o358) (lf P o486)))) (nd P o54 (nd P o86 (nd P o150 (lf P o278) (lf P o406)) (nd P o214 (lf P o342) (lf P o470))) (nd P o118 (nd P o182 (lf P o310) (lf P o438)) (nd P o246 (lf P o374) .nil)))) (nd P o30 (nd P o46 (nd P o78 (nd P o142 (lf P o270) (lf P o398)) (nd P o206 (lf P o334) (lf P o462))) (nd P o110 (nd P o174 (lf P o302) (lf P o430)) (nd P o238 (lf P o366) (lf P o494)))) (nd P o62 (nd P o94 (nd P o158 (lf P o286) (lf P o414)) (nd P o222 (lf P o350) (lf P o478))) (nd P o126 (nd P o190 (lf P o318) (lf P o446)) (nd P o254 (lf P o382) .nil))))))))
noncomputable def s7 (w : World) (os : OsState) : SharedT := ⟨t7 w.params, 495, lifeE, #[], ⟨0, 0, 0, 0⟩, 834, os⟩
noncomputable def o3v18 (P : Params) : Obj := .mk (.type "dict") none (.dict #[.mk (PyData.keyHash P "__name__") (.str "__name__" 165) (.str "vectorcove.sets" 913), .mk (PyData.keyHash P "__doc__") (.str "__doc__" 166) .none, .mk (PyData.keyHash P "__package__") (.str "__package__" 167) .none, .mk (PyData.keyHash P "__loader__") (.str "__loader__" 168) (.builtin "__main__.__loader__#opaque"), .mk (PyData.keyHash P "__spec__") (.str "__spec__" 169) .none, .mk (PyData.keyHash P "__annotations__") (.str "__annotations__" 170) (.ref 6), .mk (PyData.keyHash P "__builtins__") (.str "__builtins__" 171) (.ref 4), .mk (PyData.keyHash P "__file__") (.str "__file__" 173) (.str "/claim/cut.py" 172), .mk (PyData.keyHash P "__cached__") (.str "__cached__" 174) .none, .mk (PyData.keyHash P "_wall") (.str "_wall" 193) (.ref 21), .mk (PyData.keyHash P "NAN") (.str "NAN" 198) (.ref 22), .mk (PyData.keyHash P "INF") (.str "INF" 201) (.ref 23), .mk (PyData.keyHash P "ZERO") (.str "ZERO" 204) (.ref 24), .mk (PyData.keyHash P "gcd") (.str "gcd" 212) (.ref 31), .mk (PyData.keyHash P "make") (.str "make" 221) (.ref 38), .mk (PyData.keyHash P "from_int") (.str "from_int" 228) (.ref 45), .mk (PyData.keyHash P "is_na") (.str "is_na" 235) (.ref 52), .mk (PyData.keyHash P "is_finite") (.str "is_finite" 242) (.ref 59), .mk (PyData.keyHash P "neg") (.str "neg" 249) (.ref 66), .mk (PyData.keyHash P "to_whole") (.str "to_whole" 257) (.ref 73), .mk (PyData.keyHash P "nearest_whole") (.str "nearest_whole" 267) (.ref 80), .mk (PyData.keyHash P "exponent") (.str "exponent" 277) (.ref 87), .mk (PyData.keyHash P "MOST_EXPONENT") (.str "MOST_EXPONENT" 281) (.int 4096 280), .mk (PyData.keyHash P "whole_text") (.str "whole_text" 291) (.ref 94), .mk (PyData.keyHash P "special_text") (.str "special_text" 298) (.ref 101), .mk (PyData.keyHash P "scaled") (.str "scaled" 308) (.ref 108), .mk (PyData.keyHash P "significant") (.str "significant" 318) (.ref 115), .mk (PyData.keyHash P "without_tail") (.str "without_tail" 326) (.ref 122), .mk (PyData.keyHash P "scientific_text") (.str "scientific_text" 338) (.ref 129), .mk (PyData.keyHash P "fixed_text") (.str "fixed_text" 348) (.ref 136), .mk (PyData.keyHash P "measures") (.str "measures" 361) (.ref 143), .mk (PyData.keyHash P "chosen_form") (.str "chosen_form" 378) (.ref 150), .mk (PyData.keyHash P "formed") (.str "formed" 387) (.ref 157), .mk (PyData.keyHash P "common_texts") (.str "common_texts" 393) (.ref 162), .mk (PyData.keyHash P "number_text") (.str "number_text" 402) (.ref 170), .mk (PyData.keyHash P "digits_value") (.str "digits_value" 412) (.ref 177), .mk (PyData.keyHash P "digit_run") (.str "digit_run" 421) (.ref 184), .mk (PyData.keyHash P "exponent_value") (.str "exponent_value" 430) (.ref 191), .mk (PyData.keyHash P "powered") (.str "powered" 439) (.ref 198), .mk (PyData.keyHash P "unsigned_number") (.str "unsigned_number" 458) (.ref 205), .mk (PyData.keyHash P "parse_number") (.str "parse_number" 470) (.ref 212), .mk (PyData.keyHash P "Null") (.str "Null" 501) (.ref 229), .mk (PyData.keyHash P "Vector") (.str "Vector" 543) (.ref 258), .mk (PyData.keyHash P "character") (.str "character" 550) (.ref 269), .mk (PyData.keyHash P "length") (.str "length" 558) (.ref 276), .mk (PyData.keyHash P "is_vector") (.str "is_vector" 565) (.ref 283), .mk (PyData.keyHash P "is_atomic") (.str "is_atomic" 572) (.ref 290), .mk (PyData.keyHash P "share") (.str "share" 579) (.ref 297), .mk (PyData.keyHash P "get_attr") (.str "get_attr" 589) (.ref 304), .mk (PyData.keyHash P "label_text") (.str "label_text" 597) (.ref 311), .mk (PyData.keyHash P "level_at") (.str "level_at" 605) (.ref 318), .mk (PyData.keyHash P "label_texts") (.str "label_texts" 611) (.ref 323), .mk (PyData.keyHash P "names_of") (.str "names_of" 617) (.ref 328), .mk (PyData.keyHash P "dim_of") (.str "dim_of" 625) (.ref 335), .mk (PyData.keyHash P "dimnames_of") (.str "dimnames_of" 631) (.ref 340), .mk (PyData.keyHash P "class_attr") (.str "class_attr" 639) (.ref 347), .mk (PyData.keyHash P "CoveError") (.str "CoveError" 661) (.ref 357), .mk (PyData.keyHash P "Refusal") (.str "Refusal" 686) (.ref 377), .mk (PyData.keyHash P "MOST_INTEGER") (.str "MOST_INTEGER" 690) (.int 2147483647 689), .mk (PyData.keyHash P "kind_order") (.str "kind_order" 698) (.ref 386), .mk (PyData.keyHash P "common_kind") (.str "common_kind" 708) (.ref 393), .mk (PyData.keyHash P "note") (.str "note" 716) (.ref 400), .mk (PyData.keyHash P "as_logical_text") (.str "as_logical_text" 723) (.ref 407), .mk (PyData.keyHash P "double_to_integer") (.str "double_to_integer" 732) (.ref 414), .mk (PyData.keyHash P "text_to_double") (.str "text_to_double" 742) (.ref 421), .mk (PyData.keyHash P "to_logical") (.str "to_logical" 750) (.ref 428), .mk (PyData.keyHash P "to_integer") (.str "to_integer" 759) (.ref 435), .mk (PyData.keyHash P "to_double") (.str "to_double" 768) (.ref 442), .mk (PyData.keyHash P "to_text") (.str "to_text" 776) (.ref 449), .mk (PyData.keyHash P "item_as") (.str "item_as" 786) (.ref 456), .mk (PyData.keyHash P "is_atomic_kind") (.str "is_atomic_kind" 793) (.ref 463), .mk (PyData.keyHash P "list_item_as") (.str "list_item_as" 803) (.ref 470), .mk (PyData.keyHash P "refuse_type") (.str "refuse_type" 811) (.ref 477), .mk (PyData.keyHash P "as_vector_kind") (.str "as_vector_kind" 817) (.ref 482), .mk (PyData.keyHash P "with_names") (.str "with_names" 825) (.ref 489), .mk (PyData.keyHash P "as_kind") (.str "as_kind" 831) (.ref 494), .mk (PyData.keyHash P "same_attrs") (.str "same_attrs" 844) (.ref 501), .mk (PyData.keyHash P "same_items") (.str "same_items" 854) (.ref 508), .mk (PyData.keyHash P "same_formals") (.str "same_formals" 863) (.ref 515), .mk (PyData.keyHash P "same_slots") (.str "same_slots" 872) (.ref 522), .mk (PyData.keyHash P "same_dots") (.str "same_dots" 885) (.ref 529), .mk (PyData.keyHash P "same_kernel") (.str "same_kernel" 895) (.ref 536), .mk (PyData.keyHash P "identical") (.str "identical" 903) (.ref 543), .mk (PyData.keyHash P "is_factor") (.str "is_factor" 912) (.ref 550), .mk (PyData.keyHash P "item_key") (.str "item_key" 922) (.ref 557), .mk (PyData.keyHash P "is_listed") (.str "is_listed" 929) (.ref 564), .mk (PyData.keyHash P "list_place") (.str "list_place" 939) (.ref 571), .mk (PyData.keyHash P "first_places") (.str "first_places" 951) (.ref 578)] 88) #[]
noncomputable def o12v19 (P : Params) : Obj := oE #[.int 1 0, .int 0 0, .ref 20, .int 8 0, .int 0 0, .ref 30, .int 12 0, .int 0 0, .ref 37, .int 22 0, .int 0 0, .ref 44, .int 26 0, .int 0 0, .ref 51, .int 28 0, .int 0 0, .ref 58, .int 30 0, .int 0 0, .ref 65, .int 34 0, .int 0 0, .ref 72, .int 39 0, .int 0 0, .ref 79, .int 45 0, .int 0 0, .ref 86, .int 58 0, .int 0 0, .ref 93, .int 69 0, .int 0 0, .ref 100, .int 77 0, .int 0 0, .ref 107, .int 82 0, .int 0 0, .ref 114, .int 91 0, .int 0 0, .ref 121, .int 96 0, .int 0 0, .ref 128, .int 103 0, .int 0 0, .ref 135, .int 111 0, .int 0 0, .ref 142, .int 118 0, .int 0 0, .ref 149, .int 138 0, .int 0 0, .ref 156, .int 145 0, .int 0 0, .ref 161, .int 149 0, .int 0 0, .ref 169, .int 151 0, .int 0 0, .ref 176, .int 156 0, .int 0 0, .ref 183, .int 160 0, .int 0 0, .ref 190, .int 170 0, .int 0 0, .ref 197, .int 180 0, .int 0 0, .ref 204, .int 212 0, .int 0 0, .ref 211, .int 230 0, .int 0 0, .ref 218, .int 235 0, .int 0 0, .ref 239, .int 246 0, .int 0 0, .ref 268, .int 248 0, .int 0 0, .ref 275, .int 259 0, .int 0 0, .ref 282, .int 261 0, .int 0 0, .ref 289, .int 263 0, .int 0 0, .ref 296, .int 268 0, .int 0 0, .ref 303, .int 272 0, .int 0 0, .ref 310, .int 280 0, .int 0 0, .ref 317, .int 284 0, .int 0 0, .ref 322, .int 290 0, .int 0 0, .ref 327, .int 306 0, .int 0 0, .ref 334, .int 311 0, .int 0 0, .ref 339, .int 316 0, .int 0 0, .ref 346, .int 322 0, .int 0 0, .ref 353, .int 324 0, .int 0 0, .ref 366, .int 330 0, .int 0 0, .ref 385, .int 335 0, .int 0 0, .ref 392, .int 341 0, .int 0 0, .ref 399, .int 344 0, .int 0 0, .ref 406, .int 350 0, .int 0 0, .ref 413, .int 358 0, .int 0 0, .ref 420, .int 364 0, .int 0 0, .ref 427, .int 374 0, .int 0 0, .ref 434, .int 382 0, .int 0 0, .ref 441, .int 388 0, .int 0 0, .ref 448, .int 396 0, .int 0 0, .ref 455, .int 410 0, .int 0 0, .ref 462, .int 412 0, .int 0 0, .ref 469, .int 418 0, .int 0 0, .ref 476, .int 420 0, .int 0 0, .ref 481, .int 434 0, .int 0 0, .ref 488, .int 438 0, .int 0 0, .ref 493, .int 446 0, .int 0 0, .ref 500, .int 455 0, .int 0 0, .ref 507, .int 462 0, .int 0 0, .ref 514, .int 469 0, .int 0 0, .ref 521, .int 476 0, .int 0 0, .ref 528, .int 485 0, .int 0 0, .ref 535, .int 507 0, .int 0 0, .ref 542, .int 512 0, .int 0 0, .ref 549, .int 515 0, .int 0 0, .ref 556, .int 523 0, .int 0 0, .ref 563, .int 525 0, .int 0 0, .ref 570, .int 530 0, .int 0 0, .ref 577]
noncomputable def o495 (P : Params) : Obj := oT #[]
noncomputable def o496 (P : Params) : Obj := oE #[]
noncomputable def o497 (P : Params) : Obj := oT #[.str "u" 837, .str "v" 838, .str "left" 839, .str "right" 840, .str "name" 841]
noncomputable def o498 (P : Params) : Obj := oT #[]
noncomputable def o499 (P : Params) : Obj := .mk .none none (.func (oF "same_attrs" "same_attrs" 74 0 [] .none .none .none .none none .none .none 0)) #[]
noncomputable def o500 (P : Params) : Obj := oC #[.str "same_attrs" 834, .str "same_attrs" 835, .str "/claim/cut.py" 836, .int 446 0, .int 2 0, .int 0 0, .int 0 0, .int 3 0, .ref 495, .bool true, .int 181 0, .ref 496, .none, .ref 497, .ref 498, .ref 499, .int 842 0, .int 446 0, .str "/claim/cut.py" 843]
noncomputable def o501 (P : Params) : Obj := .mk (.type "function") none (.func (oF "same_attrs" "same_attrs" 74 3 [] .none .none .none (.str "vectorcove.identical" 832) none (.ref 500) .none 0)) #[]
noncomputable def o502 (P : Params) : Obj := oT #[]
noncomputable def o503 (P : Params) : Obj := oE #[]
noncomputable def o504 (P : Params) : Obj := oT #[.str "u" 848, .str "v" 849, .str "same" 850, .str "place" 851]
noncomputable def o505 (P : Params) : Obj := oT #[]
noncomputable def o506 (P : Params) : Obj := .mk .none none (.func (oF "same_items" "same_items" 75 0 [] .none .none .none .none none .none .none 0)) #[]
noncomputable def o507 (P : Params) : Obj := oC #[.str "same_items" 845, .str "same_items" 846, .str "/claim/cut.py" 847, .int 455 0, .int 3 0, .int 0 0, .int 0 0, .int 3 0, .ref 502, .bool true, .int 181 0, .ref 503, .none, .ref 504, .ref 505, .ref 506, .int 852 0, .int 455 0, .str "/claim/cut.py" 853]
noncomputable def o508 (P : Params) : Obj := .mk (.type "function") none (.func (oF "same_items" "same_items" 75 3 [] .none .none .none (.str "vectorcove.identical" 832) none (.ref 507) .none 0)) #[]
noncomputable def o509 (P : Params) : Obj := oT #[]
noncomputable def o510 (P : Params) : Obj := oE #[]
noncomputable def o511 (P : Params) : Obj := oT #[.str "u" 858, .str "v" 859, .str "place" 860]
noncomputable def o512 (P : Params) : Obj := oT #[]
noncomputable def o513 (P : Params) : Obj := .mk .none none (.func (oF "same_formals" "same_formals" 76 0 [] .none .none .none .none none .none .none 0)) #[]
noncomputable def o514 (P : Params) : Obj := oC #[.str "same_formals" 855, .str "same_formals" 856, .str "/claim/cut.py" 857, .int 462 0, .int 2 0, .int 0 0, .int 0 0, .int 3 0, .ref 509, .bool true, .int 181 0, .ref 510, .none, .ref 511, .ref 512, .ref 513, .int 861 0, .int 462 0, .str "/claim/cut.py" 862]
noncomputable def o515 (P : Params) : Obj := .mk (.type "function") none (.func (oF "same_formals" "same_formals" 76 3 [] .none .none .none (.str "vectorcove.identical" 832) none (.ref 514) .none 0)) #[]
noncomputable def o516 (P : Params) : Obj := oT #[]
noncomputable def o517 (P : Params) : Obj := oE #[]
noncomputable def o518 (P : Params) : Obj := oT #[.str "u" 867, .str "v" 868, .str "name" 869]
noncomputable def o519 (P : Params) : Obj := oT #[]
noncomputable def o520 (P : Params) : Obj := .mk .none none (.func (oF "same_slots" "same_slots" 77 0 [] .none .none .none .none none .none .none 0)) #[]
noncomputable def o521 (P : Params) : Obj := oC #[.str "same_slots" 864, .str "same_slots" 865, .str "/claim/cut.py" 866, .int 469 0, .int 2 0, .int 0 0, .int 0 0, .int 3 0, .ref 516, .bool true, .int 181 0, .ref 517, .none, .ref 518, .ref 519, .ref 520, .int 870 0, .int 469 0, .str "/claim/cut.py" 871]
noncomputable def o522 (P : Params) : Obj := .mk (.type "function") none (.func (oF "same_slots" "same_slots" 77 3 [] .none .none .none (.str "vectorcove.identical" 832) none (.ref 521) .none 0)) #[]
noncomputable def o523 (P : Params) : Obj := oT #[]
noncomputable def o524 (P : Params) : Obj := oE #[]
noncomputable def o525 (P : Params) : Obj := oT #[.str "u" 876, .str "v" 877, .str "place" 878, .str "tag" 879, .str "value" 880, .str "other" 881, .str "against" 882]
noncomputable def o526 (P : Params) : Obj := oT #[]
noncomputable def o527 (P : Params) : Obj := .mk .none none (.func (oF "same_dots" "same_dots" 78 0 [] .none .none .none .none none .none .none 0)) #[]
noncomputable def o528 (P : Params) : Obj := oC #[.str "same_dots" 873, .str "same_dots" 874, .str "/claim/cut.py" 875, .int 476 0, .int 2 0, .int 0 0, .int 0 0, .int 3 0, .ref 523, .bool true, .int 181 0, .ref 524, .none, .ref 525, .ref 526, .ref 527, .int 883 0, .int 476 0, .str "/claim/cut.py" 884]
noncomputable def o529 (P : Params) : Obj := .mk (.type "function") none (.func (oF "same_dots" "same_dots" 78 3 [] .none .none .none (.str "vectorcove.identical" 832) none (.ref 528) .none 0)) #[]
noncomputable def o530 (P : Params) : Obj := oT #[]
noncomputable def o531 (P : Params) : Obj := oE #[]
noncomputable def o532 (P : Params) : Obj := oT #[.str "u" 889, .str "v" 890, .str "kind" 891, .str "same_home" 892]
noncomputable def o533 (P : Params) : Obj := oT #[]
noncomputable def o534 (P : Params) : Obj := .mk .none none (.func (oF "same_kernel" "same_kernel" 79 0 [] .none .none .none .none none .none .none 0)) #[]
noncomputable def o535 (P : Params) : Obj := oC #[.str "same_kernel" 886, .str "same_kernel" 887, .str "/claim/cut.py" 888, .int 485 0, .int 2 0, .int 0 0, .int 0 0, .int 3 0, .ref 530, .bool true, .int 181 0, .ref 531, .none, .ref 532, .ref 533, .ref 534, .int 893 0, .int 485 0, .str "/claim/cut.py" 894]
noncomputable def o536 (P : Params) : Obj := .mk (.type "function") none (.func (oF "same_kernel" "same_kernel" 79 3 [] .none .none .none (.str "vectorcove.identical" 832) none (.ref 535) .none 0)) #[]
noncomputable def o537 (P : Params) : Obj := oT #[]
noncomputable def o538 (P : Params) : Obj := oE #[]
noncomputable def o539 (P : Params) : Obj := oT #[.str "u" 899, .str "v" 900]
noncomputable def o540 (P : Params) : Obj := oT #[]
noncomputable def o541 (P : Params) : Obj := .mk .none none (.func (oF "identical" "identical" 80 0 [] .none .none .none .none none .none .none 0)) #[]
noncomputable def o542 (P : Params) : Obj := oC #[.str "identical" 896, .str "identical" 897, .str "/claim/cut.py" 898, .int 507 0, .int 2 0, .int 0 0, .int 0 0, .int 3 0, .ref 537, .bool true, .int 181 0, .ref 538, .none, .ref 539, .ref 540, .ref 541, .int 901 0, .int 507 0, .str "/claim/cut.py" 902]
noncomputable def o543 (P : Params) : Obj := .mk (.type "function") none (.func (oF "identical" "identical" 80 3 [] .none .none .none (.str "vectorcove.identical" 832) none (.ref 542) .none 0)) #[]
noncomputable def o544 (P : Params) : Obj := oT #[]
noncomputable def o545 (P : Params) : Obj := oE #[]
noncomputable def o546 (P : Params) : Obj := oT #[.str "v" 909]
noncomputable def o547 (P : Params) : Obj := oT #[]
noncomputable def o548 (P : Params) : Obj := .mk .none none (.func (oF "is_factor" "is_factor" 82 0 [] .none .none .none .none none .none .none 0)) #[]
noncomputable def o549 (P : Params) : Obj := oC #[.str "is_factor" 906, .str "is_factor" 907, .str "/claim/cut.py" 908, .int 512 0, .int 1 0, .int 0 0, .int 0 0, .int 3 0, .ref 544, .bool true, .int 181 0, .ref 545, .none, .ref 546, .ref 547, .ref 548, .int 910 0, .int 512 0, .str "/claim/cut.py" 911]
noncomputable def o550 (P : Params) : Obj := .mk (.type "function") none (.func (oF "is_factor" "is_factor" 82 3 [] .none .none .none (.str "vectorcove.sequences" 904) none (.ref 549) .none 0)) #[]
noncomputable def o551 (P : Params) : Obj := oT #[]
noncomputable def o552 (P : Params) : Obj := oE #[]
noncomputable def o553 (P : Params) : Obj := oT #[.str "kind" 918, .str "item" 919]
noncomputable def o554 (P : Params) : Obj := oT #[]
noncomputable def o555 (P : Params) : Obj := .mk .none none (.func (oF "item_key" "item_key" 84 0 [] .none .none .none .none none .none .none 0)) #[]
noncomputable def o556 (P : Params) : Obj := oC #[.str "item_key" 915, .str "item_key" 916, .str "/claim/cut.py" 917, .int 515 0, .int 2 0, .int 0 0, .int 0 0, .int 3 0, .ref 551, .bool true, .int 181 0, .ref 552, .none, .ref 553, .ref 554, .ref 555, .int 920 0, .int 515 0, .str "/claim/cut.py" 921]
noncomputable def o557 (P : Params) : Obj := .mk (.type "function") none (.func (oF "item_key" "item_key" 84 3 [] .none .none .none (.str "vectorcove.sets" 913) none (.ref 556) .none 0)) #[]
noncomputable def o558 (P : Params) : Obj := oT #[]
noncomputable def o559 (P : Params) : Obj := oE #[]
noncomputable def o560 (P : Params) : Obj := oT #[.str "v" 926]
noncomputable def o561 (P : Params) : Obj := oT #[]
noncomputable def o562 (P : Params) : Obj := .mk .none none (.func (.mk "is_listed" "is_listed" (hP 85) (hB 85) (hS 40) 0 [] .none .none .none .none none .none .none 0)) #[]
noncomputable def o563 (P : Params) : Obj := oC #[.str "is_listed" 923, .str "is_listed" 924, .str "/claim/cut.py" 925, .int 523 0, .int 1 0, .int 0 0, .int 0 0, .int 3 0, .ref 558, .bool true, .int 181 0, .ref 559, .none, .ref 560, .ref 561, .ref 562, .int 927 0, .int 523 0, .str "/claim/cut.py" 928]
noncomputable def o564 (P : Params) : Obj := .mk (.type "function") none (.func (.mk "is_listed" "is_listed" (hP 85) (hB 85) (hS 40) 3 [] .none .none .none (.str "vectorcove.sets" 913) none (.ref 563) .none 0)) #[]
noncomputable def o565 (P : Params) : Obj := oT #[]
noncomputable def o566 (P : Params) : Obj := oE #[]
noncomputable def o567 (P : Params) : Obj := oT #[.str "item" 933, .str "items" 934, .str "places" 935, .str "place" 936]
noncomputable def o568 (P : Params) : Obj := oT #[]
noncomputable def o569 (P : Params) : Obj := .mk .none none (.func (oF "list_place" "list_place" 86 0 [] .none .none .none .none none .none .none 0)) #[]
noncomputable def o570 (P : Params) : Obj := oC #[.str "list_place" 930, .str "list_place" 931, .str "/claim/cut.py" 932, .int 525 0, .int 3 0, .int 0 0, .int 0 0, .int 3 0, .ref 565, .bool true, .int 181 0, .ref 566, .none, .ref 567, .ref 568, .ref 569, .int 937 0, .int 525 0, .str "/claim/cut.py" 938]
noncomputable def o571 (P : Params) : Obj := .mk (.type "function") none (.func (oF "list_place" "list_place" 86 3 [] .none .none .none (.str "vectorcove.sets" 913) none (.ref 570) .none 0)) #[]
noncomputable def o572 (P : Params) : Obj := oT #[]
noncomputable def o573 (P : Params) : Obj := oE #[]
noncomputable def o574 (P : Params) : Obj := oT #[.str "v" 943, .str "kept" 944, .str "found" 945, .str "place" 946, .str "first" 947, .str "known" 948]
noncomputable def o575 (P : Params) : Obj := oT #[]
noncomputable def o576 (P : Params) : Obj := .mk .none none (.func (oF "first_places" "first_places" 87 0 [] .none .none .none .none none .none .none 0)) #[]
noncomputable def o577 (P : Params) : Obj := oC #[.str "first_places" 940, .str "first_places" 941, .str "/claim/cut.py" 942, .int 530 0, .int 1 0, .int 0 0, .int 0 0, .int 3 0, .ref 572, .bool true, .int 181 0, .ref 573, .none, .ref 574, .ref 575, .ref 576, .int 949 0, .int 530 0, .str "/claim/cut.py" 950]
noncomputable def o578 (P : Params) : Obj := .mk (.type "function") none (.func (oF "first_places" "first_places" 87 3 [] .none .none .none (.str "vectorcove.sets" 913) none (.ref 577) .none 0)) #[]
noncomputable def t8 (P : Params) : BT := (nd P boot_o_0 (nd P boot_o_1 (nd P o3v18 (nd P boot_o_7 (nd P o15 (nd P o31 (nd P o63 (nd P o127 (nd P o255 (lf P o511) .nil) (lf P o383)) (nd P o191 (nd P o319 (lf P o575) .nil) (lf P o447))) (nd P o95 (nd P o159 (nd P o287 (lf P o543) .nil) (lf P o415)) (nd P o223 (lf P o351) (lf P o479)))) (nd P o47 (nd P o79 (nd P o143 (nd P o271 (lf P o527) .nil) (lf P o399)) (nd P o207 (lf P o335) (lf P o463))) (nd P o111 (nd P o175 (nd P o303 (lf P o559) .nil) (lf P o431)) (nd P o239 (lf P o367) (lf P o495))))) (nd P o23 (nd P o39 (nd P o71 (nd P o135 (nd P o263 (lf P o519) .nil) (lf P o391)) (nd P o199 (lf P o327) (lf P o455))) (nd P o103 (nd P o167 (nd P o295 (lf P o551) .nil) (lf P o423)) (nd P o231 (lf P o359) (lf P o487)))) (nd P o55 (nd P o87 (nd P o151 (nd P o279 (lf P o535) .nil) (lf P o407)) (nd P o215 (lf P o343) (lf P o471))) (nd P o119 (nd P o183 (nd P o311 (lf P o567) .nil) (lf P o439)) (nd P o247 (lf P o375) (lf P o503)))))) (nd P o11 (nd P o19 (nd P o35 (nd P o67 (nd P o131 (nd P o259 (lf P o515) .nil) (lf P o387)) (nd P o195 (lf P o323) (lf P o451))) (nd P o99 (nd P o163 (nd P o291 (lf P o547) .nil) (lf P o419)) (nd P o227 (lf P o355) (lf P o483)))) (nd P o51 (nd P o83 (nd P o147 (nd P o275 (lf P o531) .nil) (lf P o403)) (nd P o211 (lf P o339) (lf P o467))) (nd P o115 (nd P o179 (nd P o307 (lf P o563) .nil) (lf P o435)) (nd P o243 (lf P o371) (lf P o499))))) (nd P o27 (nd P o43 (nd P o75 (nd P o139 (nd P o267 (lf P o523) .nil) (lf P o395)) (nd P o203 (lf P o331) (lf P o459))) (nd P o107 (nd P o171 (nd P o299 (lf P o555) .nil) (lf P o427)) (nd P o235 (lf P o363) (lf P o491)))) (nd P o59 (nd P o91 (nd P o155 (nd P o283 (lf P o539) .nil) (lf P o411)) (nd P o219 (lf P o347) (lf P o475))) (nd P o123 (nd P o187 (nd P o315 (lf P o571) .nil) (lf P o443)) (nd P o251 (lf P o379) (lf P o507))))))) (nd P boot_o_5 (nd P boot_o_9 (nd P o17 (nd P o33 (nd P o65 (nd P o129 (nd P o257 (lf P o513) .nil) (lf P o385)) (nd P o193 (nd P o321 (lf P o577) .nil) (lf P o449))) (nd P o97 (nd P o161 (nd P o289 (lf P o545) .nil) (lf P o417)) (nd P o225 (lf P o353) (lf P o481)))) (nd P o49 (nd P o81 (nd P o145 (nd P o273 (lf P o529) .nil) (lf P o401)) (nd P o209 (lf P o337) (lf P o465))) (nd P o113 (nd P o177 (nd P o305 (lf P o561) .nil) (lf P o433)) (nd P o241 (lf P o369) (lf P o497))))) (nd P o25 (nd P o41 (nd P o73 (nd P o137 (nd P o265 (lf P o521) .nil) (lf P o393)) (nd P o201 (lf P o329) (lf P o457))) (nd P o105 (nd P o169 (nd P o297 (lf P o553) .nil) (lf P o425)) (nd P o233 (lf P o361) (lf P o489)))) (nd P o57 (nd P o89 (nd P o153 (nd P o281 (lf P o537) .nil) (lf P o409)) (nd P o217 (lf P o345) (lf P o473))) (nd P o121 (nd P o185 (nd P o313 (lf P o569) .nil) (lf P o441)) (nd P o249 (lf P o377) (lf P o505)))))) (nd P o13 (nd P o21 (nd P o37 (nd P o69 (nd P o133 (nd P o261 (lf P o517) .nil) (lf P o389)) (nd P o197 (lf P o325) (lf P o453))) (nd P o101 (nd P o165 (nd P o293 (lf P o549) .nil) (lf P o421)) (nd P o229 (lf P o357v15) (lf P o485)))) (nd P o53 (nd P o85 (nd P o149 (nd P o277 (lf P o533) .nil) (lf P o405)) (nd P o213 (lf P o341) (lf P o469))) (nd P o117 (nd P o181 (nd P o309 (lf P o565) .nil) (lf P o437)) (nd P o245 (lf P o373) (lf P o501))))) (nd P o29 (nd P o45 (nd P o77 (nd P o141 (nd P o269 (lf P o525) .nil) (lf P o397)) (nd P o205 (lf P o333) (lf P o461))) (nd P o109 (nd P o173 (nd P o301 (lf P o557) .nil) (lf P o429)) (nd P o237 (lf P o365) (lf P o493)))) (nd P o61 (nd P o93 (nd P o157 (nd P o285 (lf P o541) .nil) (lf P o413)) (nd P o221 (lf P o349) (lf P o477))) (nd P o125 (nd P o189 (nd P o317 (lf P o573) .nil) (lf P o445)) (nd P o253 (lf P o381) (lf P o509)))))))) (nd P o2v10 (nd P boot_o_4 (nd P boot_o_8 (nd P o16 (nd P o32 (nd P o64 (nd P o128 (nd P o256 (lf P o512) .nil) (lf P o384)) (nd P o192 (nd P o320 (lf P o576) .nil) (lf P o448))) (nd P o96 (nd P o160 (nd P o288 (lf P o544) .nil) (lf P o416)) (nd P o224 (lf P o352) (lf P o480)))) (nd P o48 (nd P o80 (nd P o144 (nd P o272 (lf P o528) .nil) (lf P o400)) (nd P o208 (lf P o336) (lf P o464))) (nd P o112 (nd P o176 (nd P o304 (lf P o560) .nil) (lf P o432)) (nd P o240 (lf P o368) (lf P o496))))) (nd P o24 (nd P o40 (nd P o72 (nd P o136 (nd P o264 (lf P o520) .nil) (lf P o392)) (nd P o200 (lf P o328) (lf P o456))) (nd P o104 (nd P o168 (nd P o296 (lf P o552) .nil) (lf P o424)) (nd P o232 (lf P o360) (lf P o488)))) (nd P o56 (nd P o88 (nd P o152 (nd P o280 (lf P o536) .nil) (lf P o408)) (nd P o216 (lf P o344) (lf P o472))) (nd P o120 (nd P o184 (nd P o312 (lf P o568) .nil) (lf P o440)) (nd P o248 (lf P o376) (lf P o504)))))) (nd P o12v19 (nd P o20 (nd P o36 (nd P o68 (nd P o132 (nd P o260 (lf P o516) .nil) (lf P o388)) (nd P o196 (lf P o324) (lf P o452))) (nd P o100 (nd P o164 (nd P o292 (lf P o548) .nil) (lf P o420)) (nd P o228 (lf P o356) (lf P o484)))) (nd P o52 (nd P o84 (nd P o148 (nd P o276 (lf P o532) .nil) (lf P o404)) (nd P o212 (lf P o340) (lf P o468))) (nd P o116 (nd P o180 (nd P o308 (lf P o564) .nil) (lf P o436)) (nd P o244 (lf P o372) (lf P o500))))) (nd P o28 (nd P o44 (nd P o76 (nd P o140 (nd P o268 (lf P o524) .nil) (lf P o396)) (nd P o204 (lf P o332) (lf P o460))) (nd P o108 (nd P o172 (nd P o300 (lf P o556) .nil) (lf P o428)) (nd P o236 (lf P o364) (lf P o492)))) (nd P o60 (nd P o92 (nd P o156 (nd P o284 (lf P o540) .nil) (lf P o412)) (nd P o220 (lf P o348) (lf P o476))) (nd P o124 (nd P o188 (nd P o316 (lf P o572) .nil) (lf P o444)) (nd P o252 (lf P o380) (lf P o508))))))) (nd P boot_o_6 (nd P boot_o_10 (nd P o18 (nd P o34 (nd P o66 (nd P o130 (nd P o258 (lf P o514) .nil) (lf P o386)) (nd P o194 (nd P o322 (lf P o578) .nil) (lf P o450))) (nd P o98 (nd P o162 (nd P o290 (lf P o546) .nil) (lf P o418)) (nd P o226 (lf P o354) (lf P o482)))) (nd P o50 (nd P o82 (nd P o146 (nd P o274 (lf P o530) .nil) (lf P o402)) (nd P o210 (lf P o338) (lf P o466))) (nd P o114 (nd P o178 (nd P o306 (lf P o562) .nil) (lf P o434)) (nd P o242 (lf P o370) (lf P o498))))) (nd P o26 (nd P o42 (nd P o74 (nd P o138 (nd P o266 (lf P o522) .nil) (lf P o394)) (nd P o202 (lf P o330) (lf P o458))) (nd P o106 (nd P o170 (nd P o298 (lf P o554) .nil) (lf P o426)) (nd P o234 (lf P o362) (lf P o490)))) (nd P o58 (nd P o90 (nd P o154 (nd P o282 (lf P o538) .nil) (lf P o410)) (nd P o218 (lf P o346) (lf P o474))) (nd P o122 (nd P o186 (nd P o314 (lf P o570) .nil) (lf P o442)) (nd P o250 (lf P o378) (lf P o506)))))) (nd P o14 (nd P o22 (nd P o38 (nd P o70 (nd P o134 (nd P o262 (lf P o518) .nil) (lf P o390)) (nd P o198 (lf P o326) (lf P o454))) (nd P o102 (nd P o166 (nd P o294 (lf P o550) .nil) (lf P o422)) (nd P o230 (lf P o358) (lf P o486)))) (nd P o54 (nd P o86 (nd P o150 (nd P o278 (lf P o534) .nil) (lf P o406)) (nd P o214 (lf P o342) (lf P o470))) (nd P o118 (nd P o182 (nd P o310 (lf P o566) .nil) (lf P o438)) (nd P o246 (lf P o374) (lf P o502))))) (nd P o30 (nd P o46 (nd P o78 (nd P o142 (nd P o270 (lf P o526) .nil) (lf P o398)) (nd P o206 (lf P o334) (lf P o462))) (nd P o110 (nd P o174 (nd P o302 (lf P o558) .nil) (lf P o430)) (nd P o238 (lf P o366) (lf P o494)))) (nd P o62 (nd P o94 (nd P o158 (nd P o286 (lf P o542) .nil) (lf P o414)) (nd P o222 (lf P o350) (lf P o478))) (nd P o126 (nd P o190 (nd P o318 (lf P o574) .nil) (lf P o446)) (nd P o254 (lf P o382) (lf P o510)))))))))
noncomputable def s8 (w : World) (os : OsState) : SharedT := ⟨t8 w.params, 579, lifeE, #[], ⟨0, 0, 0, 0⟩, 952, os⟩
noncomputable def o3v20 (P : Params) : Obj := .mk (.type "dict") none (.dict #[.mk (PyData.keyHash P "__name__") (.str "__name__" 165) (.str "law_nz0511_01" 1037), .mk (PyData.keyHash P "__doc__") (.str "__doc__" 166) .none, .mk (PyData.keyHash P "__package__") (.str "__package__" 167) .none, .mk (PyData.keyHash P "__loader__") (.str "__loader__" 168) (.builtin "__main__.__loader__#opaque"), .mk (PyData.keyHash P "__spec__") (.str "__spec__" 169) .none, .mk (PyData.keyHash P "__annotations__") (.str "__annotations__" 170) (.ref 6), .mk (PyData.keyHash P "__builtins__") (.str "__builtins__" 171) (.ref 4), .mk (PyData.keyHash P "__file__") (.str "__file__" 173) (.str "/claim/cut.py" 172), .mk (PyData.keyHash P "__cached__") (.str "__cached__" 174) .none, .mk (PyData.keyHash P "_wall") (.str "_wall" 193) (.ref 21), .mk (PyData.keyHash P "NAN") (.str "NAN" 198) (.ref 22), .mk (PyData.keyHash P "INF") (.str "INF" 201) (.ref 23), .mk (PyData.keyHash P "ZERO") (.str "ZERO" 204) (.ref 24), .mk (PyData.keyHash P "gcd") (.str "gcd" 212) (.ref 31), .mk (PyData.keyHash P "make") (.str "make" 221) (.ref 38), .mk (PyData.keyHash P "from_int") (.str "from_int" 228) (.ref 45), .mk (PyData.keyHash P "is_na") (.str "is_na" 235) (.ref 52), .mk (PyData.keyHash P "is_finite") (.str "is_finite" 242) (.ref 59), .mk (PyData.keyHash P "neg") (.str "neg" 249) (.ref 66), .mk (PyData.keyHash P "to_whole") (.str "to_whole" 257) (.ref 73), .mk (PyData.keyHash P "nearest_whole") (.str "nearest_whole" 267) (.ref 80), .mk (PyData.keyHash P "exponent") (.str "exponent" 277) (.ref 87), .mk (PyData.keyHash P "MOST_EXPONENT") (.str "MOST_EXPONENT" 281) (.int 4096 280), .mk (PyData.keyHash P "whole_text") (.str "whole_text" 291) (.ref 94), .mk (PyData.keyHash P "special_text") (.str "special_text" 298) (.ref 101), .mk (PyData.keyHash P "scaled") (.str "scaled" 308) (.ref 108), .mk (PyData.keyHash P "significant") (.str "significant" 318) (.ref 115), .mk (PyData.keyHash P "without_tail") (.str "without_tail" 326) (.ref 122), .mk (PyData.keyHash P "scientific_text") (.str "scientific_text" 338) (.ref 129), .mk (PyData.keyHash P "fixed_text") (.str "fixed_text" 348) (.ref 136), .mk (PyData.keyHash P "measures") (.str "measures" 361) (.ref 143), .mk (PyData.keyHash P "chosen_form") (.str "chosen_form" 378) (.ref 150), .mk (PyData.keyHash P "formed") (.str "formed" 387) (.ref 157), .mk (PyData.keyHash P "common_texts") (.str "common_texts" 393) (.ref 162), .mk (PyData.keyHash P "number_text") (.str "number_text" 402) (.ref 170), .mk (PyData.keyHash P "digits_value") (.str "digits_value" 412) (.ref 177), .mk (PyData.keyHash P "digit_run") (.str "digit_run" 421) (.ref 184), .mk (PyData.keyHash P "exponent_value") (.str "exponent_value" 430) (.ref 191), .mk (PyData.keyHash P "powered") (.str "powered" 439) (.ref 198), .mk (PyData.keyHash P "unsigned_number") (.str "unsigned_number" 458) (.ref 205), .mk (PyData.keyHash P "parse_number") (.str "parse_number" 470) (.ref 212), .mk (PyData.keyHash P "Null") (.str "Null" 501) (.ref 229), .mk (PyData.keyHash P "Vector") (.str "Vector" 543) (.ref 258), .mk (PyData.keyHash P "character") (.str "character" 550) (.ref 269), .mk (PyData.keyHash P "length") (.str "length" 558) (.ref 276), .mk (PyData.keyHash P "is_vector") (.str "is_vector" 565) (.ref 283), .mk (PyData.keyHash P "is_atomic") (.str "is_atomic" 572) (.ref 290), .mk (PyData.keyHash P "share") (.str "share" 579) (.ref 297), .mk (PyData.keyHash P "get_attr") (.str "get_attr" 589) (.ref 304), .mk (PyData.keyHash P "label_text") (.str "label_text" 597) (.ref 311), .mk (PyData.keyHash P "level_at") (.str "level_at" 605) (.ref 318), .mk (PyData.keyHash P "label_texts") (.str "label_texts" 611) (.ref 323), .mk (PyData.keyHash P "names_of") (.str "names_of" 617) (.ref 328), .mk (PyData.keyHash P "dim_of") (.str "dim_of" 625) (.ref 335), .mk (PyData.keyHash P "dimnames_of") (.str "dimnames_of" 631) (.ref 340), .mk (PyData.keyHash P "class_attr") (.str "class_attr" 639) (.ref 347), .mk (PyData.keyHash P "CoveError") (.str "CoveError" 661) (.ref 357), .mk (PyData.keyHash P "Refusal") (.str "Refusal" 686) (.ref 377), .mk (PyData.keyHash P "MOST_INTEGER") (.str "MOST_INTEGER" 690) (.int 2147483647 689), .mk (PyData.keyHash P "kind_order") (.str "kind_order" 698) (.ref 386), .mk (PyData.keyHash P "common_kind") (.str "common_kind" 708) (.ref 393), .mk (PyData.keyHash P "note") (.str "note" 716) (.ref 400), .mk (PyData.keyHash P "as_logical_text") (.str "as_logical_text" 723) (.ref 407), .mk (PyData.keyHash P "double_to_integer") (.str "double_to_integer" 732) (.ref 414), .mk (PyData.keyHash P "text_to_double") (.str "text_to_double" 742) (.ref 421), .mk (PyData.keyHash P "to_logical") (.str "to_logical" 750) (.ref 428), .mk (PyData.keyHash P "to_integer") (.str "to_integer" 759) (.ref 435), .mk (PyData.keyHash P "to_double") (.str "to_double" 768) (.ref 442), .mk (PyData.keyHash P "to_text") (.str "to_text" 776) (.ref 449), .mk (PyData.keyHash P "item_as") (.str "item_as" 786) (.ref 456), .mk (PyData.keyHash P "is_atomic_kind") (.str "is_atomic_kind" 793) (.ref 463), .mk (PyData.keyHash P "list_item_as") (.str "list_item_as" 803) (.ref 470), .mk (PyData.keyHash P "refuse_type") (.str "refuse_type" 811) (.ref 477), .mk (PyData.keyHash P "as_vector_kind") (.str "as_vector_kind" 817) (.ref 482), .mk (PyData.keyHash P "with_names") (.str "with_names" 825) (.ref 489), .mk (PyData.keyHash P "as_kind") (.str "as_kind" 831) (.ref 494), .mk (PyData.keyHash P "same_attrs") (.str "same_attrs" 844) (.ref 501), .mk (PyData.keyHash P "same_items") (.str "same_items" 854) (.ref 508), .mk (PyData.keyHash P "same_formals") (.str "same_formals" 863) (.ref 515), .mk (PyData.keyHash P "same_slots") (.str "same_slots" 872) (.ref 522), .mk (PyData.keyHash P "same_dots") (.str "same_dots" 885) (.ref 529), .mk (PyData.keyHash P "same_kernel") (.str "same_kernel" 895) (.ref 536), .mk (PyData.keyHash P "identical") (.str "identical" 903) (.ref 543), .mk (PyData.keyHash P "is_factor") (.str "is_factor" 912) (.ref 550), .mk (PyData.keyHash P "item_key") (.str "item_key" 922) (.ref 557), .mk (PyData.keyHash P "is_listed") (.str "is_listed" 929) (.ref 564), .mk (PyData.keyHash P "list_place") (.str "list_place" 939) (.ref 571), .mk (PyData.keyHash P "first_places") (.str "first_places" 951) (.ref 578), .mk (PyData.keyHash P "unique_places") (.str "unique_places" 957) (.ref 583), .mk (PyData.keyHash P "turned") (.str "turned" 964) (.ref 590), .mk (PyData.keyHash P "duplicated_flags") (.str "duplicated_flags" 970) (.ref 596), .mk (PyData.keyHash P "plain") (.str "plain" 977) (.ref 603), .mk (PyData.keyHash P "both_kinds") (.str "both_kinds" 988) (.ref 610), .mk (PyData.keyHash P "match_places") (.str "match_places" 994) (.ref 615), .mk (PyData.keyHash P "distinct") (.str "distinct" 1000) (.ref 620), .mk (PyData.keyHash P "union_of") (.str "union_of" 1010) (.ref 627), .mk (PyData.keyHash P "intersect_of") (.str "intersect_of" 1016) (.ref 632), .mk (PyData.keyHash P "setdiff_of") (.str "setdiff_of" 1022) (.ref 637), .mk (PyData.keyHash P "same_sets") (.str "same_sets" 1030) (.ref 644), .mk (PyData.keyHash P "tabulate_keys") (.str "tabulate_keys" 1036) (.ref 649), .mk (PyData.keyHash P "_law_row") (.str "_law_row" 1049) (.ref 656)] 101) #[]
noncomputable def o12v21 (P : Params) : Obj := oE #[.int 1 0, .int 0 0, .ref 20, .int 8 0, .int 0 0, .ref 30, .int 12 0, .int 0 0, .ref 37, .int 22 0, .int 0 0, .ref 44, .int 26 0, .int 0 0, .ref 51, .int 28 0, .int 0 0, .ref 58, .int 30 0, .int 0 0, .ref 65, .int 34 0, .int 0 0, .ref 72, .int 39 0, .int 0 0, .ref 79, .int 45 0, .int 0 0, .ref 86, .int 58 0, .int 0 0, .ref 93, .int 69 0, .int 0 0, .ref 100, .int 77 0, .int 0 0, .ref 107, .int 82 0, .int 0 0, .ref 114, .int 91 0, .int 0 0, .ref 121, .int 96 0, .int 0 0, .ref 128, .int 103 0, .int 0 0, .ref 135, .int 111 0, .int 0 0, .ref 142, .int 118 0, .int 0 0, .ref 149, .int 138 0, .int 0 0, .ref 156, .int 145 0, .int 0 0, .ref 161, .int 149 0, .int 0 0, .ref 169, .int 151 0, .int 0 0, .ref 176, .int 156 0, .int 0 0, .ref 183, .int 160 0, .int 0 0, .ref 190, .int 170 0, .int 0 0, .ref 197, .int 180 0, .int 0 0, .ref 204, .int 212 0, .int 0 0, .ref 211, .int 230 0, .int 0 0, .ref 218, .int 235 0, .int 0 0, .ref 239, .int 246 0, .int 0 0, .ref 268, .int 248 0, .int 0 0, .ref 275, .int 259 0, .int 0 0, .ref 282, .int 261 0, .int 0 0, .ref 289, .int 263 0, .int 0 0, .ref 296, .int 268 0, .int 0 0, .ref 303, .int 272 0, .int 0 0, .ref 310, .int 280 0, .int 0 0, .ref 317, .int 284 0, .int 0 0, .ref 322, .int 290 0, .int 0 0, .ref 327, .int 306 0, .int 0 0, .ref 334, .int 311 0, .int 0 0, .ref 339, .int 316 0, .int 0 0, .ref 346, .int 322 0, .int 0 0, .ref 353, .int 324 0, .int 0 0, .ref 366, .int 330 0, .int 0 0, .ref 385, .int 335 0, .int 0 0, .ref 392, .int 341 0, .int 0 0, .ref 399, .int 344 0, .int 0 0, .ref 406, .int 350 0, .int 0 0, .ref 413, .int 358 0, .int 0 0, .ref 420, .int 364 0, .int 0 0, .ref 427, .int 374 0, .int 0 0, .ref 434, .int 382 0, .int 0 0, .ref 441, .int 388 0, .int 0 0, .ref 448, .int 396 0, .int 0 0, .ref 455, .int 410 0, .int 0 0, .ref 462, .int 412 0, .int 0 0, .ref 469, .int 418 0, .int 0 0, .ref 476, .int 420 0, .int 0 0, .ref 481, .int 434 0, .int 0 0, .ref 488, .int 438 0, .int 0 0, .ref 493, .int 446 0, .int 0 0, .ref 500, .int 455 0, .int 0 0, .ref 507, .int 462 0, .int 0 0, .ref 514, .int 469 0, .int 0 0, .ref 521, .int 476 0, .int 0 0, .ref 528, .int 485 0, .int 0 0, .ref 535, .int 507 0, .int 0 0, .ref 542, .int 512 0, .int 0 0, .ref 549, .int 515 0, .int 0 0, .ref 556, .int 523 0, .int 0 0, .ref 563, .int 525 0, .int 0 0, .ref 570, .int 530 0, .int 0 0, .ref 577, .int 546 0, .int 0 0, .ref 582, .int 549 0, .int 0 0, .ref 589, .int 551 0, .int 0 0, .ref 595, .int 558 0, .int 0 0, .ref 602, .int 566 0, .int 0 0, .ref 609, .int 571 0, .int 0 0, .ref 614, .int 580 0, .int 0 0, .ref 619, .int 582 0, .int 0 0, .ref 626, .int 585 0, .int 0 0, .ref 631, .int 589 0, .int 0 0, .ref 636, .int 593 0, .int 0 0, .ref 643, .int 595 0, .int 0 0, .ref 648, .int 601 0, .int 0 0, .ref 655]
noncomputable def o579 (P : Params) : Obj := oT #[]
noncomputable def o580 (P : Params) : Obj := oE #[]
noncomputable def o581 (P : Params) : Obj := .mk .none none (.func (oF "unique_places" "unique_places" 88 0 [] .none .none .none .none none .none .none 0)) #[]
noncomputable def o582 (P : Params) : Obj := oC #[.str "unique_places" 952, .str "unique_places" 953, .str "/claim/cut.py" 954, .int 546 0, .int 1 0, .int 0 0, .int 0 0, .int 3 0, .ref 579, .bool true, .int 181 0, .ref 580, .none, .none, .none, .ref 581, .int 955 0, .int 546 0, .str "/claim/cut.py" 956]
noncomputable def o583 (P : Params) : Obj := .mk (.type "function") none (.func (oF "unique_places" "unique_places" 88 3 [] .none .none .none (.str "vectorcove.sets" 913) none (.ref 582) .none 0)) #[]
noncomputable def o584 (P : Params) : Obj := oT #[]
noncomputable def o585 (P : Params) : Obj := oE #[]
noncomputable def o586 (P : Params) : Obj := oT #[.str "v" 961]
noncomputable def o587 (P : Params) : Obj := oT #[]
noncomputable def o588 (P : Params) : Obj := .mk .none none (.func (oF "turned" "turned" 89 0 [] .none .none .none .none none .none .none 0)) #[]
noncomputable def o589 (P : Params) : Obj := oC #[.str "turned" 958, .str "turned" 959, .str "/claim/cut.py" 960, .int 549 0, .int 1 0, .int 0 0, .int 0 0, .int 3 0, .ref 584, .bool true, .int 181 0, .ref 585, .none, .ref 586, .ref 587, .ref 588, .int 962 0, .int 549 0, .str "/claim/cut.py" 963]
noncomputable def o590 (P : Params) : Obj := .mk (.type "function") none (.func (oF "turned" "turned" 89 3 [] .none .none .none (.str "vectorcove.sets" 913) none (.ref 589) .none 0)) #[]
noncomputable def o591 (P : Params) : Obj := oT #[.bool false]
noncomputable def o592 (P : Params) : Obj := oT #[]
noncomputable def o593 (P : Params) : Obj := oE #[]
noncomputable def o594 (P : Params) : Obj := .mk .none none (.func (oF "duplicated_flags" "duplicated_flags" 90 0 [] .none .none .none .none none .none .none 0)) #[]
noncomputable def o595 (P : Params) : Obj := oC #[.str "duplicated_flags" 965, .str "duplicated_flags" 966, .str "/claim/cut.py" 967, .int 551 0, .int 2 0, .int 0 0, .int 0 0, .int 3 0, .ref 592, .bool true, .int 181 0, .ref 593, .none, .none, .none, .ref 594, .int 968 0, .int 551 0, .str "/claim/cut.py" 969]
noncomputable def o596 (P : Params) : Obj := .mk (.type "function") none (.func (oF "duplicated_flags" "duplicated_flags" 90 3 [] (.ref 591) .none .none (.str "vectorcove.sets" 913) none (.ref 595) .none 0)) #[]
noncomputable def o597 (P : Params) : Obj := oT #[]
noncomputable def o598 (P : Params) : Obj := oE #[]
noncomputable def o599 (P : Params) : Obj := oT #[.str "v" 974]
noncomputable def o600 (P : Params) : Obj := oT #[]
noncomputable def o601 (P : Params) : Obj := .mk .none none (.func (oF "plain" "plain" 91 0 [] .none .none .none .none none .none .none 0)) #[]
noncomputable def o602 (P : Params) : Obj := oC #[.str "plain" 971, .str "plain" 972, .str "/claim/cut.py" 973, .int 558 0, .int 1 0, .int 0 0, .int 0 0, .int 3 0, .ref 597, .bool true, .int 181 0, .ref 598, .none, .ref 599, .ref 600, .ref 601, .int 975 0, .int 558 0, .str "/claim/cut.py" 976]
noncomputable def o603 (P : Params) : Obj := .mk (.type "function") none (.func (oF "plain" "plain" 91 3 [] .none .none .none (.str "vectorcove.sets" 913) none (.ref 602) .none 0)) #[]
noncomputable def o604 (P : Params) : Obj := oT #[]
noncomputable def o605 (P : Params) : Obj := oE #[]
noncomputable def o606 (P : Params) : Obj := oT #[.str "u" 981, .str "v" 982, .str "left" 983, .str "right" 984, .str "kind" 985]
noncomputable def o607 (P : Params) : Obj := oT #[]
noncomputable def o608 (P : Params) : Obj := .mk .none none (.func (oF "both_kinds" "both_kinds" 92 0 [] .none .none .none .none none .none .none 0)) #[]
noncomputable def o609 (P : Params) : Obj := oC #[.str "both_kinds" 978, .str "both_kinds" 979, .str "/claim/cut.py" 980, .int 566 0, .int 2 0, .int 0 0, .int 0 0, .int 3 0, .ref 604, .bool true, .int 181 0, .ref 605, .none, .ref 606, .ref 607, .ref 608, .int 986 0, .int 566 0, .str "/claim/cut.py" 987]
noncomputable def o610 (P : Params) : Obj := .mk (.type "function") none (.func (oF "both_kinds" "both_kinds" 92 3 [] .none .none .none (.str "vectorcove.sets" 913) none (.ref 609) .none 0)) #[]
noncomputable def o611 (P : Params) : Obj := oT #[]
noncomputable def o612 (P : Params) : Obj := oE #[]
noncomputable def o613 (P : Params) : Obj := .mk .none none (.func (oF "match_places" "match_places" 93 0 [] .none .none .none .none none .none .none 0)) #[]
noncomputable def o614 (P : Params) : Obj := oC #[.str "match_places" 989, .str "match_places" 990, .str "/claim/cut.py" 991, .int 571 0, .int 2 0, .int 0 0, .int 0 0, .int 3 0, .ref 611, .bool true, .int 181 0, .ref 612, .none, .none, .none, .ref 613, .int 992 0, .int 571 0, .str "/claim/cut.py" 993]
noncomputable def o615 (P : Params) : Obj := .mk (.type "function") none (.func (oF "match_places" "match_places" 93 3 [] .none .none .none (.str "vectorcove.sets" 913) none (.ref 614) .none 0)) #[]
noncomputable def o616 (P : Params) : Obj := oT #[]
noncomputable def o617 (P : Params) : Obj := oE #[]
noncomputable def o618 (P : Params) : Obj := .mk .none none (.func (oF "distinct" "distinct" 94 0 [] .none .none .none .none none .none .none 0)) #[]
noncomputable def o619 (P : Params) : Obj := oC #[.str "distinct" 995, .str "distinct" 996, .str "/claim/cut.py" 997, .int 580 0, .int 1 0, .int 0 0, .int 0 0, .int 3 0, .ref 616, .bool true, .int 181 0, .ref 617, .none, .none, .none, .ref 618, .int 998 0, .int 580 0, .str "/claim/cut.py" 999]
noncomputable def o620 (P : Params) : Obj := .mk (.type "function") none (.func (oF "distinct" "distinct" 94 3 [] .none .none .none (.str "vectorcove.sets" 913) none (.ref 619) .none 0)) #[]
noncomputable def o621 (P : Params) : Obj := oT #[]
noncomputable def o622 (P : Params) : Obj := oE #[]
noncomputable def o623 (P : Params) : Obj := oT #[.str "u" 1004, .str "v" 1005, .str "left" 1006, .str "right" 1007]
noncomputable def o624 (P : Params) : Obj := oT #[]
noncomputable def o625 (P : Params) : Obj := .mk .none none (.func (oF "union_of" "union_of" 95 0 [] .none .none .none .none none .none .none 0)) #[]
noncomputable def o626 (P : Params) : Obj := oC #[.str "union_of" 1001, .str "union_of" 1002, .str "/claim/cut.py" 1003, .int 582 0, .int 2 0, .int 0 0, .int 0 0, .int 3 0, .ref 621, .bool true, .int 181 0, .ref 622, .none, .ref 623, .ref 624, .ref 625, .int 1008 0, .int 582 0, .str "/claim/cut.py" 1009]
noncomputable def o627 (P : Params) : Obj := .mk (.type "function") none (.func (oF "union_of" "union_of" 95 3 [] .none .none .none (.str "vectorcove.sets" 913) none (.ref 626) .none 0)) #[]
noncomputable def o628 (P : Params) : Obj := oT #[]
noncomputable def o629 (P : Params) : Obj := oE #[]
noncomputable def o630 (P : Params) : Obj := .mk .none none (.func (oF "intersect_of" "intersect_of" 96 0 [] .none .none .none .none none .none .none 0)) #[]
noncomputable def o631 (P : Params) : Obj := oC #[.str "intersect_of" 1011, .str "intersect_of" 1012, .str "/claim/cut.py" 1013, .int 585 0, .int 2 0, .int 0 0, .int 0 0, .int 3 0, .ref 628, .bool true, .int 181 0, .ref 629, .none, .none, .none, .ref 630, .int 1014 0, .int 585 0, .str "/claim/cut.py" 1015]
noncomputable def o632 (P : Params) : Obj := .mk (.type "function") none (.func (oF "intersect_of" "intersect_of" 96 3 [] .none .none .none (.str "vectorcove.sets" 913) none (.ref 631) .none 0)) #[]
noncomputable def o633 (P : Params) : Obj := oT #[]
noncomputable def o634 (P : Params) : Obj := oE #[]
noncomputable def o635 (P : Params) : Obj := .mk .none none (.func (oF "setdiff_of" "setdiff_of" 97 0 [] .none .none .none .none none .none .none 0)) #[]
noncomputable def o636 (P : Params) : Obj := oC #[.str "setdiff_of" 1017, .str "setdiff_of" 1018, .str "/claim/cut.py" 1019, .int 589 0, .int 2 0, .int 0 0, .int 0 0, .int 3 0, .ref 633, .bool true, .int 181 0, .ref 634, .none, .none, .none, .ref 635, .int 1020 0, .int 589 0, .str "/claim/cut.py" 1021]
noncomputable def o637 (P : Params) : Obj := .mk (.type "function") none (.func (oF "setdiff_of" "setdiff_of" 97 3 [] .none .none .none (.str "vectorcove.sets" 913) none (.ref 636) .none 0)) #[]
noncomputable def o638 (P : Params) : Obj := oT #[]
noncomputable def o639 (P : Params) : Obj := oE #[]
noncomputable def o640 (P : Params) : Obj := oT #[.str "u" 1026, .str "v" 1027]
noncomputable def o641 (P : Params) : Obj := oT #[]
noncomputable def o642 (P : Params) : Obj := .mk .none none (.func (oF "same_sets" "same_sets" 98 0 [] .none .none .none .none none .none .none 0)) #[]
noncomputable def o643 (P : Params) : Obj := oC #[.str "same_sets" 1023, .str "same_sets" 1024, .str "/claim/cut.py" 1025, .int 593 0, .int 2 0, .int 0 0, .int 0 0, .int 3 0, .ref 638, .bool true, .int 181 0, .ref 639, .none, .ref 640, .ref 641, .ref 642, .int 1028 0, .int 593 0, .str "/claim/cut.py" 1029]
noncomputable def o644 (P : Params) : Obj := .mk (.type "function") none (.func (oF "same_sets" "same_sets" 98 3 [] .none .none .none (.str "vectorcove.sets" 913) none (.ref 643) .none 0)) #[]
noncomputable def o645 (P : Params) : Obj := oT #[]
noncomputable def o646 (P : Params) : Obj := oE #[]
noncomputable def o647 (P : Params) : Obj := .mk .none none (.func (oF "tabulate_keys" "tabulate_keys" 99 0 [] .none .none .none .none none .none .none 0)) #[]
noncomputable def o648 (P : Params) : Obj := oC #[.str "tabulate_keys" 1031, .str "tabulate_keys" 1032, .str "/claim/cut.py" 1033, .int 595 0, .int 1 0, .int 0 0, .int 0 0, .int 3 0, .ref 645, .bool true, .int 181 0, .ref 646, .none, .none, .none, .ref 647, .int 1034 0, .int 595 0, .str "/claim/cut.py" 1035]
noncomputable def o649 (P : Params) : Obj := .mk (.type "function") none (.func (oF "tabulate_keys" "tabulate_keys" 99 3 [] .none .none .none (.str "vectorcove.sets" 913) none (.ref 648) .none 0)) #[]
noncomputable def o650 (P : Params) : Obj := oT #[]
noncomputable def o651 (P : Params) : Obj := oE #[]
noncomputable def o652 (P : Params) : Obj := oT #[.str "script" 1042, .str "row" 1043, .str "cell" 1044, .str "figure" 1045, .str "lap" 1046]
noncomputable def o653 (P : Params) : Obj := oT #[]
noncomputable def o654 (P : Params) : Obj := .mk .none none (.func (oF "_law_row" "_law_row" 101 0 [] .none .none .none .none none .none .none 0)) #[]
noncomputable def o655 (P : Params) : Obj := oC #[.str "_law_row" 1039, .str "_law_row" 1040, .str "/claim/cut.py" 1041, .int 601 0, .int 1 0, .int 0 0, .int 0 0, .int 3 0, .ref 650, .bool true, .int 181 0, .ref 651, .none, .ref 652, .ref 653, .ref 654, .int 1047 0, .int 601 0, .str "/claim/cut.py" 1048]
noncomputable def o656 (P : Params) : Obj := .mk (.type "function") none (.func (oF "_law_row" "_law_row" 101 3 [] .none .none .none (.str "law_nz0511_01" 1037) none (.ref 655) .none 0)) #[]
noncomputable def t9 (P : Params) : BT := (nd P boot_o_0 (nd P boot_o_1 (nd P o3v20 (nd P boot_o_7 (nd P o15 (nd P o31 (nd P o63 (nd P o127 (nd P o255 (lf P o511) .nil) (nd P o383 (lf P o639) .nil)) (nd P o191 (nd P o319 (lf P o575) .nil) (lf P o447))) (nd P o95 (nd P o159 (nd P o287 (lf P o543) .nil) (lf P o415)) (nd P o223 (nd P o351 (lf P o607) .nil) (lf P o479)))) (nd P o47 (nd P o79 (nd P o143 (nd P o271 (lf P o527) .nil) (nd P o399 (lf P o655) .nil)) (nd P o207 (nd P o335 (lf P o591) .nil) (lf P o463))) (nd P o111 (nd P o175 (nd P o303 (lf P o559) .nil) (lf P o431)) (nd P o239 (nd P o367 (lf P o623) .nil) (lf P o495))))) (nd P o23 (nd P o39 (nd P o71 (nd P o135 (nd P o263 (lf P o519) .nil) (nd P o391 (lf P o647) .nil)) (nd P o199 (nd P o327 (lf P o583) .nil) (lf P o455))) (nd P o103 (nd P o167 (nd P o295 (lf P o551) .nil) (lf P o423)) (nd P o231 (nd P o359 (lf P o615) .nil) (lf P o487)))) (nd P o55 (nd P o87 (nd P o151 (nd P o279 (lf P o535) .nil) (lf P o407)) (nd P o215 (nd P o343 (lf P o599) .nil) (lf P o471))) (nd P o119 (nd P o183 (nd P o311 (lf P o567) .nil) (lf P o439)) (nd P o247 (nd P o375 (lf P o631) .nil) (lf P o503)))))) (nd P o11 (nd P o19 (nd P o35 (nd P o67 (nd P o131 (nd P o259 (lf P o515) .nil) (nd P o387 (lf P o643) .nil)) (nd P o195 (nd P o323 (lf P o579) .nil) (lf P o451))) (nd P o99 (nd P o163 (nd P o291 (lf P o547) .nil) (lf P o419)) (nd P o227 (nd P o355 (lf P o611) .nil) (lf P o483)))) (nd P o51 (nd P o83 (nd P o147 (nd P o275 (lf P o531) .nil) (lf P o403)) (nd P o211 (nd P o339 (lf P o595) .nil) (lf P o467))) (nd P o115 (nd P o179 (nd P o307 (lf P o563) .nil) (lf P o435)) (nd P o243 (nd P o371 (lf P o627) .nil) (lf P o499))))) (nd P o27 (nd P o43 (nd P o75 (nd P o139 (nd P o267 (lf P o523) .nil) (nd P o395 (lf P o651) .nil)) (nd P o203 (nd P o331 (lf P o587) .nil) (lf P o459))) (nd P o107 (nd P o171 (nd P o299 (lf P o555) .nil) (lf P o427)) (nd P o235 (nd P o363 (lf P o619) .nil) (lf P o491)))) (nd P o59 (nd P o91 (nd P o155 (nd P o283 (lf P o539) .nil) (lf P o411)) (nd P o219 (nd P o347 (lf P o603) .nil) (lf P o475))) (nd P o123 (nd P o187 (nd P o315 (lf P o571) .nil) (lf P o443)) (nd P o251 (nd P o379 (lf P o635) .nil) (lf P o507))))))) (nd P boot_o_5 (nd P boot_o_9 (nd P o17 (nd P o33 (nd P o65 (nd P o129 (nd P o257 (lf P o513) .nil) (nd P o385 (lf P o641) .nil)) (nd P o193 (nd P o321 (lf P o577) .nil) (lf P o449))) (nd P o97 (nd P o161 (nd P o289 (lf P o545) .nil) (lf P o417)) (nd P o225 (nd P o353 (lf P o609) .nil) (lf P o481)))) (nd P o49 (nd P o81 (nd P o145 (nd P o273 (lf P o529) .nil) (lf P o401)) (nd P o209 (nd P o337 (lf P o593) .nil) (lf P o465))) (nd P o113 (nd P o177 (nd P o305 (lf P o561) .nil) (lf P o433)) (nd P o241 (nd P o369 (lf P o625) .nil) (lf P o497))))) (nd P o25 (nd P o41 (nd P o73 (nd P o137 (nd P o265 (lf P o521) .nil) (nd P o393 (lf P o649) .nil)) (nd P o201 (nd P o329 (lf P o585) .nil) (lf P o457))) (nd P o105 (nd P o169 (nd P o297 (lf P o553) .nil) (lf P o425)) (nd P o233 (nd P o361 (lf P o617) .nil) (lf P o489)))) (nd P o57 (nd P o89 (nd P o153 (nd P o281 (lf P o537) .nil) (lf P o409)) (nd P o217 (nd P o345 (lf P o601) .nil) (lf P o473))) (nd P o121 (nd P o185 (nd P o313 (lf P o569) .nil) (lf P o441)) (nd P o249 (nd P o377 (lf P o633) .nil) (lf P o505)))))) (nd P o13 (nd P o21 (nd P o37 (nd P o69 (nd P o133 (nd P o261 (lf P o517) .nil) (nd P o389 (lf P o645) .nil)) (nd P o197 (nd P o325 (lf P o581) .nil) (lf P o453))) (nd P o101 (nd P o165 (nd P o293 (lf P o549) .nil) (lf P o421)) (nd P o229 (nd P o357v15 (lf P o613) .nil) (lf P o485)))) (nd P o53 (nd P o85 (nd P o149 (nd P o277 (lf P o533) .nil) (lf P o405)) (nd P o213 (nd P o341 (lf P o597) .nil) (lf P o469))) (nd P o117 (nd P o181 (nd P o309 (lf P o565) .nil) (lf P o437)) (nd P o245 (nd P o373 (lf P o629) .nil) (lf P o501))))) (nd P o29 (nd P o45 (nd P o77 (nd P o141 (nd P o269 (lf P o525) .nil) (nd P o397 (lf P o653) .nil)) (nd P o205 (nd P o333 (lf P o589) .nil) (lf P o461))) (nd P o109 (nd P o173 (nd P o301 (lf P o557) .nil) (lf P o429)) (nd P o237 (nd P o365 (lf P o621) .nil) (lf P o493)))) (nd P o61 (nd P o93 (nd P o157 (nd P o285 (lf P o541) .nil) (lf P o413)) (nd P o221 (nd P o349 (lf P o605) .nil) (lf P o477))) (nd P o125 (nd P o189 (nd P o317 (lf P o573) .nil) (lf P o445)) (nd P o253 (nd P o381 (lf P o637) .nil) (lf P o509)))))))) (nd P o2v10 (nd P boot_o_4 (nd P boot_o_8 (nd P o16 (nd P o32 (nd P o64 (nd P o128 (nd P o256 (lf P o512) .nil) (nd P o384 (lf P o640) .nil)) (nd P o192 (nd P o320 (lf P o576) .nil) (lf P o448))) (nd P o96 (nd P o160 (nd P o288 (lf P o544) .nil) (lf P o416)) (nd P o224 (nd P o352 (lf P o608) .nil) (lf P o480)))) (nd P o48 (nd P o80 (nd P o144 (nd P o272 (lf P o528) .nil) (nd P o400 (lf P o656) .nil)) (nd P o208 (nd P o336 (lf P o592) .nil) (lf P o464))) (nd P o112 (nd P o176 (nd P o304 (lf P o560) .nil) (lf P o432)) (nd P o240 (nd P o368 (lf P o624) .nil) (lf P o496))))) (nd P o24 (nd P o40 (nd P o72 (nd P o136 (nd P o264 (lf P o520) .nil) (nd P o392 (lf P o648) .nil)) (nd P o200 (nd P o328 (lf P o584) .nil) (lf P o456))) (nd P o104 (nd P o168 (nd P o296 (lf P o552) .nil) (lf P o424)) (nd P o232 (nd P o360 (lf P o616) .nil) (lf P o488)))) (nd P o56 (nd P o88 (nd P o152 (nd P o280 (lf P o536) .nil) (lf P o408)) (nd P o216 (nd P o344 (lf P o600) .nil) (lf P o472))) (nd P o120 (nd P o184 (nd P o312 (lf P o568) .nil) (lf P o440)) (nd P o248 (nd P o376 (lf P o632) .nil) (lf P o504)))))) (nd P o12v21 (nd P o20 (nd P o36 (nd P o68 (nd P o132 (nd P o260 (lf P o516) .nil) (nd P o388 (lf P o644) .nil)) (nd P o196 (nd P o324 (lf P o580) .nil) (lf P o452))) (nd P o100 (nd P o164 (nd P o292 (lf P o548) .nil) (lf P o420)) (nd P o228 (nd P o356 (lf P o612) .nil) (lf P o484)))) (nd P o52 (nd P o84 (nd P o148 (nd P o276 (lf P o532) .nil) (lf P o404)) (nd P o212 (nd P o340 (lf P o596) .nil) (lf P o468))) (nd P o116 (nd P o180 (nd P o308 (lf P o564) .nil) (lf P o436)) (nd P o244 (nd P o372 (lf P o628) .nil) (lf P o500))))) (nd P o28 (nd P o44 (nd P o76 (nd P o140 (nd P o268 (lf P o524) .nil) (nd P o396 (lf P o652) .nil)) (nd P o204 (nd P o332 (lf P o588) .nil) (lf P o460))) (nd P o108 (nd P o172 (nd P o300 (lf P o556) .nil) (lf P o428)) (nd P o236 (nd P o364 (lf P o620) .nil) (lf P o492)))) (nd P o60 (nd P o92 (nd P o156 (nd P o284 (lf P o540) .nil) (lf P o412)) (nd P o220 (nd P o348 (lf P o604) .nil) (lf P o476))) (nd P o124 (nd P o188 (nd P o316 (lf P o572) .nil) (lf P o444)) (nd P o252 (nd P o380 (lf P o636) .nil) (lf P o508))))))) (nd P boot_o_6 (nd P boot_o_10 (nd P o18 (nd P o34 (nd P o66 (nd P o130 (nd P o258 (lf P o514) .nil) (nd P o386 (lf P o642) .nil)) (nd P o194 (nd P o322 (lf P o578) .nil) (lf P o450))) (nd P o98 (nd P o162 (nd P o290 (lf P o546) .nil) (lf P o418)) (nd P o226 (nd P o354 (lf P o610) .nil) (lf P o482)))) (nd P o50 (nd P o82 (nd P o146 (nd P o274 (lf P o530) .nil) (lf P o402)) (nd P o210 (nd P o338 (lf P o594) .nil) (lf P o466))) (nd P o114 (nd P o178 (nd P o306 (lf P o562) .nil) (lf P o434)) (nd P o242 (nd P o370 (lf P o626) .nil) (lf P o498))))) (nd P o26 (nd P o42 (nd P o74 (nd P o138 (nd P o266 (lf P o522) .nil) (nd P o394 (lf P o650) .nil)) (nd P o202 (nd P o330 (lf P o586) .nil) (lf P o458))) (nd P o106 (nd P o170 (nd P o298 (lf P o554) .nil) (lf P o426)) (nd P o234 (nd P o362 (lf P o618) .nil) (lf P o490)))) (nd P o58 (nd P o90 (nd P o154 (nd P o282 (lf P o538) .nil) (lf P o410)) (nd P o218 (nd P o346 (lf P o602) .nil) (lf P o474))) (nd P o122 (nd P o186 (nd P o314 (lf P o570) .nil) (lf P o442)) (nd P o250 (nd P o378 (lf P o634) .nil) (lf P o506)))))) (nd P o14 (nd P o22 (nd P o38 (nd P o70 (nd P o134 (nd P o262 (lf P o518) .nil) (nd P o390 (lf P o646) .nil)) (nd P o198 (nd P o326 (lf P o582) .nil) (lf P o454))) (nd P o102 (nd P o166 (nd P o294 (lf P o550) .nil) (lf P o422)) (nd P o230 (nd P o358 (lf P o614) .nil) (lf P o486)))) (nd P o54 (nd P o86 (nd P o150 (nd P o278 (lf P o534) .nil) (lf P o406)) (nd P o214 (nd P o342 (lf P o598) .nil) (lf P o470))) (nd P o118 (nd P o182 (nd P o310 (lf P o566) .nil) (lf P o438)) (nd P o246 (nd P o374 (lf P o630) .nil) (lf P o502))))) (nd P o30 (nd P o46 (nd P o78 (nd P o142 (nd P o270 (lf P o526) .nil) (nd P o398 (lf P o654) .nil)) (nd P o206 (nd P o334 (lf P o590) .nil) (lf P o462))) (nd P o110 (nd P o174 (nd P o302 (lf P o558) .nil) (lf P o430)) (nd P o238 (nd P o366 (lf P o622) .nil) (lf P o494)))) (nd P o62 (nd P o94 (nd P o158 (nd P o286 (lf P o542) .nil) (lf P o414)) (nd P o222 (nd P o350 (lf P o606) .nil) (lf P o478))) (nd P o126 (nd P o190 (nd P o318 (lf P o574) .nil) (lf P o446)) (nd P o254 (nd P o382 (lf P o638) .nil) (lf P o510)))))))))
noncomputable def s9 (w : World) (os : OsState) : SharedT := ⟨t9 w.params, 657, lifeE, #[], ⟨0, 0, 0, 0⟩, 1050, os⟩
noncomputable def o3v22 (P : Params) : Obj := .mk (.type "dict") none (.dict #[.mk (PyData.keyHash P "__name__") (.str "__name__" 165) (.str "law_nz0511_01" 1037), .mk (PyData.keyHash P "__doc__") (.str "__doc__" 166) .none, .mk (PyData.keyHash P "__package__") (.str "__package__" 167) .none, .mk (PyData.keyHash P "__loader__") (.str "__loader__" 168) (.builtin "__main__.__loader__#opaque"), .mk (PyData.keyHash P "__spec__") (.str "__spec__" 169) .none, .mk (PyData.keyHash P "__annotations__") (.str "__annotations__" 170) (.ref 6), .mk (PyData.keyHash P "__builtins__") (.str "__builtins__" 171) (.ref 4), .mk (PyData.keyHash P "__file__") (.str "__file__" 173) (.str "/claim/cut.py" 172), .mk (PyData.keyHash P "__cached__") (.str "__cached__" 174) .none, .mk (PyData.keyHash P "_wall") (.str "_wall" 193) (.ref 21), .mk (PyData.keyHash P "NAN") (.str "NAN" 198) (.ref 22), .mk (PyData.keyHash P "INF") (.str "INF" 201) (.ref 23), .mk (PyData.keyHash P "ZERO") (.str "ZERO" 204) (.ref 24), .mk (PyData.keyHash P "gcd") (.str "gcd" 212) (.ref 31), .mk (PyData.keyHash P "make") (.str "make" 221) (.ref 38), .mk (PyData.keyHash P "from_int") (.str "from_int" 228) (.ref 45), .mk (PyData.keyHash P "is_na") (.str "is_na" 235) (.ref 52), .mk (PyData.keyHash P "is_finite") (.str "is_finite" 242) (.ref 59), .mk (PyData.keyHash P "neg") (.str "neg" 249) (.ref 66), .mk (PyData.keyHash P "to_whole") (.str "to_whole" 257) (.ref 73), .mk (PyData.keyHash P "nearest_whole") (.str "nearest_whole" 267) (.ref 80), .mk (PyData.keyHash P "exponent") (.str "exponent" 277) (.ref 87), .mk (PyData.keyHash P "MOST_EXPONENT") (.str "MOST_EXPONENT" 281) (.int 4096 280), .mk (PyData.keyHash P "whole_text") (.str "whole_text" 291) (.ref 94), .mk (PyData.keyHash P "special_text") (.str "special_text" 298) (.ref 101), .mk (PyData.keyHash P "scaled") (.str "scaled" 308) (.ref 108), .mk (PyData.keyHash P "significant") (.str "significant" 318) (.ref 115), .mk (PyData.keyHash P "without_tail") (.str "without_tail" 326) (.ref 122), .mk (PyData.keyHash P "scientific_text") (.str "scientific_text" 338) (.ref 129), .mk (PyData.keyHash P "fixed_text") (.str "fixed_text" 348) (.ref 136), .mk (PyData.keyHash P "measures") (.str "measures" 361) (.ref 143), .mk (PyData.keyHash P "chosen_form") (.str "chosen_form" 378) (.ref 150), .mk (PyData.keyHash P "formed") (.str "formed" 387) (.ref 157), .mk (PyData.keyHash P "common_texts") (.str "common_texts" 393) (.ref 162), .mk (PyData.keyHash P "number_text") (.str "number_text" 402) (.ref 170), .mk (PyData.keyHash P "digits_value") (.str "digits_value" 412) (.ref 177), .mk (PyData.keyHash P "digit_run") (.str "digit_run" 421) (.ref 184), .mk (PyData.keyHash P "exponent_value") (.str "exponent_value" 430) (.ref 191), .mk (PyData.keyHash P "powered") (.str "powered" 439) (.ref 198), .mk (PyData.keyHash P "unsigned_number") (.str "unsigned_number" 458) (.ref 205), .mk (PyData.keyHash P "parse_number") (.str "parse_number" 470) (.ref 212), .mk (PyData.keyHash P "Null") (.str "Null" 501) (.ref 229), .mk (PyData.keyHash P "Vector") (.str "Vector" 543) (.ref 258), .mk (PyData.keyHash P "character") (.str "character" 550) (.ref 269), .mk (PyData.keyHash P "length") (.str "length" 558) (.ref 276), .mk (PyData.keyHash P "is_vector") (.str "is_vector" 565) (.ref 283), .mk (PyData.keyHash P "is_atomic") (.str "is_atomic" 572) (.ref 290), .mk (PyData.keyHash P "share") (.str "share" 579) (.ref 297), .mk (PyData.keyHash P "get_attr") (.str "get_attr" 589) (.ref 304), .mk (PyData.keyHash P "label_text") (.str "label_text" 597) (.ref 311), .mk (PyData.keyHash P "level_at") (.str "level_at" 605) (.ref 318), .mk (PyData.keyHash P "label_texts") (.str "label_texts" 611) (.ref 323), .mk (PyData.keyHash P "names_of") (.str "names_of" 617) (.ref 328), .mk (PyData.keyHash P "dim_of") (.str "dim_of" 625) (.ref 335), .mk (PyData.keyHash P "dimnames_of") (.str "dimnames_of" 631) (.ref 340), .mk (PyData.keyHash P "class_attr") (.str "class_attr" 639) (.ref 347), .mk (PyData.keyHash P "CoveError") (.str "CoveError" 661) (.ref 357), .mk (PyData.keyHash P "Refusal") (.str "Refusal" 686) (.ref 377), .mk (PyData.keyHash P "MOST_INTEGER") (.str "MOST_INTEGER" 690) (.int 2147483647 689), .mk (PyData.keyHash P "kind_order") (.str "kind_order" 698) (.ref 386), .mk (PyData.keyHash P "common_kind") (.str "common_kind" 708) (.ref 393), .mk (PyData.keyHash P "note") (.str "note" 716) (.ref 400), .mk (PyData.keyHash P "as_logical_text") (.str "as_logical_text" 723) (.ref 407), .mk (PyData.keyHash P "double_to_integer") (.str "double_to_integer" 732) (.ref 414), .mk (PyData.keyHash P "text_to_double") (.str "text_to_double" 742) (.ref 421), .mk (PyData.keyHash P "to_logical") (.str "to_logical" 750) (.ref 428), .mk (PyData.keyHash P "to_integer") (.str "to_integer" 759) (.ref 435), .mk (PyData.keyHash P "to_double") (.str "to_double" 768) (.ref 442), .mk (PyData.keyHash P "to_text") (.str "to_text" 776) (.ref 449), .mk (PyData.keyHash P "item_as") (.str "item_as" 786) (.ref 456), .mk (PyData.keyHash P "is_atomic_kind") (.str "is_atomic_kind" 793) (.ref 463), .mk (PyData.keyHash P "list_item_as") (.str "list_item_as" 803) (.ref 470), .mk (PyData.keyHash P "refuse_type") (.str "refuse_type" 811) (.ref 477), .mk (PyData.keyHash P "as_vector_kind") (.str "as_vector_kind" 817) (.ref 482), .mk (PyData.keyHash P "with_names") (.str "with_names" 825) (.ref 489), .mk (PyData.keyHash P "as_kind") (.str "as_kind" 831) (.ref 494), .mk (PyData.keyHash P "same_attrs") (.str "same_attrs" 844) (.ref 501), .mk (PyData.keyHash P "same_items") (.str "same_items" 854) (.ref 508), .mk (PyData.keyHash P "same_formals") (.str "same_formals" 863) (.ref 515), .mk (PyData.keyHash P "same_slots") (.str "same_slots" 872) (.ref 522), .mk (PyData.keyHash P "same_dots") (.str "same_dots" 885) (.ref 529), .mk (PyData.keyHash P "same_kernel") (.str "same_kernel" 895) (.ref 536), .mk (PyData.keyHash P "identical") (.str "identical" 903) (.ref 543), .mk (PyData.keyHash P "is_factor") (.str "is_factor" 912) (.ref 550), .mk (PyData.keyHash P "item_key") (.str "item_key" 922) (.ref 557), .mk (PyData.keyHash P "is_listed") (.str "is_listed" 929) (.ref 564), .mk (PyData.keyHash P "list_place") (.str "list_place" 939) (.ref 571), .mk (PyData.keyHash P "first_places") (.str "first_places" 951) (.ref 578), .mk (PyData.keyHash P "unique_places") (.str "unique_places" 957) (.ref 583), .mk (PyData.keyHash P "turned") (.str "turned" 964) (.ref 590), .mk (PyData.keyHash P "duplicated_flags") (.str "duplicated_flags" 970) (.ref 596), .mk (PyData.keyHash P "plain") (.str "plain" 977) (.ref 603), .mk (PyData.keyHash P "both_kinds") (.str "both_kinds" 988) (.ref 610), .mk (PyData.keyHash P "match_places") (.str "match_places" 994) (.ref 615), .mk (PyData.keyHash P "distinct") (.str "distinct" 1000) (.ref 620), .mk (PyData.keyHash P "union_of") (.str "union_of" 1010) (.ref 627), .mk (PyData.keyHash P "intersect_of") (.str "intersect_of" 1016) (.ref 632), .mk (PyData.keyHash P "setdiff_of") (.str "setdiff_of" 1022) (.ref 637), .mk (PyData.keyHash P "same_sets") (.str "same_sets" 1030) (.ref 644), .mk (PyData.keyHash P "tabulate_keys") (.str "tabulate_keys" 1036) (.ref 649), .mk (PyData.keyHash P "_law_row") (.str "_law_row" 1049) (.ref 656), .mk (PyData.keyHash P "_law_next") (.str "_law_next" 1056) (.ref 663), .mk (PyData.keyHash P "_law_reduced") (.str "_law_reduced" 1066) (.ref 670), .mk (PyData.keyHash P "_law_item") (.str "_law_item" 1075) (.ref 677), .mk (PyData.keyHash P "_law_plain_text") (.str "_law_plain_text" 1085) (.ref 684), .mk (PyData.keyHash P "_law_as") (.str "_law_as" 1094) (.ref 691), .mk (PyData.keyHash P "_law_vector") (.str "_law_vector" 1100) (.ref 696), .mk (PyData.keyHash P "_law_plain") (.str "_law_plain" 1106) (.ref 701), .mk (PyData.keyHash P "_law_spots") (.str "_law_spots" 1112) (.ref 706), .mk (PyData.keyHash P "law") (.str "law" 1118) (.ref 711)] 110) #[]
noncomputable def o12v23 (P : Params) : Obj := oE #[.int 1 0, .int 0 0, .ref 20, .int 8 0, .int 0 0, .ref 30, .int 12 0, .int 0 0, .ref 37, .int 22 0, .int 0 0, .ref 44, .int 26 0, .int 0 0, .ref 51, .int 28 0, .int 0 0, .ref 58, .int 30 0, .int 0 0, .ref 65, .int 34 0, .int 0 0, .ref 72, .int 39 0, .int 0 0, .ref 79, .int 45 0, .int 0 0, .ref 86, .int 58 0, .int 0 0, .ref 93, .int 69 0, .int 0 0, .ref 100, .int 77 0, .int 0 0, .ref 107, .int 82 0, .int 0 0, .ref 114, .int 91 0, .int 0 0, .ref 121, .int 96 0, .int 0 0, .ref 128, .int 103 0, .int 0 0, .ref 135, .int 111 0, .int 0 0, .ref 142, .int 118 0, .int 0 0, .ref 149, .int 138 0, .int 0 0, .ref 156, .int 145 0, .int 0 0, .ref 161, .int 149 0, .int 0 0, .ref 169, .int 151 0, .int 0 0, .ref 176, .int 156 0, .int 0 0, .ref 183, .int 160 0, .int 0 0, .ref 190, .int 170 0, .int 0 0, .ref 197, .int 180 0, .int 0 0, .ref 204, .int 212 0, .int 0 0, .ref 211, .int 230 0, .int 0 0, .ref 218, .int 235 0, .int 0 0, .ref 239, .int 246 0, .int 0 0, .ref 268, .int 248 0, .int 0 0, .ref 275, .int 259 0, .int 0 0, .ref 282, .int 261 0, .int 0 0, .ref 289, .int 263 0, .int 0 0, .ref 296, .int 268 0, .int 0 0, .ref 303, .int 272 0, .int 0 0, .ref 310, .int 280 0, .int 0 0, .ref 317, .int 284 0, .int 0 0, .ref 322, .int 290 0, .int 0 0, .ref 327, .int 306 0, .int 0 0, .ref 334, .int 311 0, .int 0 0, .ref 339, .int 316 0, .int 0 0, .ref 346, .int 322 0, .int 0 0, .ref 353, .int 324 0, .int 0 0, .ref 366, .int 330 0, .int 0 0, .ref 385, .int 335 0, .int 0 0, .ref 392, .int 341 0, .int 0 0, .ref 399, .int 344 0, .int 0 0, .ref 406, .int 350 0, .int 0 0, .ref 413, .int 358 0, .int 0 0, .ref 420, .int 364 0, .int 0 0, .ref 427, .int 374 0, .int 0 0, .ref 434, .int 382 0, .int 0 0, .ref 441, .int 388 0, .int 0 0, .ref 448, .int 396 0, .int 0 0, .ref 455, .int 410 0, .int 0 0, .ref 462, .int 412 0, .int 0 0, .ref 469, .int 418 0, .int 0 0, .ref 476, .int 420 0, .int 0 0, .ref 481, .int 434 0, .int 0 0, .ref 488, .int 438 0, .int 0 0, .ref 493, .int 446 0, .int 0 0, .ref 500, .int 455 0, .int 0 0, .ref 507, .int 462 0, .int 0 0, .ref 514, .int 469 0, .int 0 0, .ref 521, .int 476 0, .int 0 0, .ref 528, .int 485 0, .int 0 0, .ref 535, .int 507 0, .int 0 0, .ref 542, .int 512 0, .int 0 0, .ref 549, .int 515 0, .int 0 0, .ref 556, .int 523 0, .int 0 0, .ref 563, .int 525 0, .int 0 0, .ref 570, .int 530 0, .int 0 0, .ref 577, .int 546 0, .int 0 0, .ref 582, .int 549 0, .int 0 0, .ref 589, .int 551 0, .int 0 0, .ref 595, .int 558 0, .int 0 0, .ref 602, .int 566 0, .int 0 0, .ref 609, .int 571 0, .int 0 0, .ref 614, .int 580 0, .int 0 0, .ref 619, .int 582 0, .int 0 0, .ref 626, .int 585 0, .int 0 0, .ref 631, .int 589 0, .int 0 0, .ref 636, .int 593 0, .int 0 0, .ref 643, .int 595 0, .int 0 0, .ref 648, .int 601 0, .int 0 0, .ref 655, .int 614 0, .int 0 0, .ref 662, .int 616 0, .int 0 0, .ref 669, .int 622 0, .int 0 0, .ref 676, .int 635 0, .int 0 0, .ref 683, .int 647 0, .int 0 0, .ref 690, .int 655 0, .int 0 0, .ref 695, .int 670 0, .int 0 0, .ref 700, .int 676 0, .int 0 0, .ref 705, .int 678 0, .int 0 0, .ref 710]
noncomputable def o657 (P : Params) : Obj := oT #[]
noncomputable def o658 (P : Params) : Obj := oE #[]
noncomputable def o659 (P : Params) : Obj := oT #[.str "row" 1053]
noncomputable def o660 (P : Params) : Obj := oT #[]
noncomputable def o661 (P : Params) : Obj := .mk .none none (.func (oF "_law_next" "_law_next" 102 0 [] .none .none .none .none none .none .none 0)) #[]
noncomputable def o662 (P : Params) : Obj := oC #[.str "_law_next" 1050, .str "_law_next" 1051, .str "/claim/cut.py" 1052, .int 614 0, .int 1 0, .int 0 0, .int 0 0, .int 3 0, .ref 657, .bool true, .int 181 0, .ref 658, .none, .ref 659, .ref 660, .ref 661, .int 1054 0, .int 614 0, .str "/claim/cut.py" 1055]
noncomputable def o663 (P : Params) : Obj := .mk (.type "function") none (.func (oF "_law_next" "_law_next" 102 3 [] .none .none .none (.str "law_nz0511_01" 1037) none (.ref 662) .none 0)) #[]
noncomputable def o664 (P : Params) : Obj := oT #[]
noncomputable def o665 (P : Params) : Obj := oE #[]
noncomputable def o666 (P : Params) : Obj := oT #[.str "n" 1060, .str "d" 1061, .str "a" 1062, .str "b" 1063]
noncomputable def o667 (P : Params) : Obj := oT #[]
noncomputable def o668 (P : Params) : Obj := .mk .none none (.func (oF "_law_reduced" "_law_reduced" 103 0 [] .none .none .none .none none .none .none 0)) #[]
noncomputable def o669 (P : Params) : Obj := oC #[.str "_law_reduced" 1057, .str "_law_reduced" 1058, .str "/claim/cut.py" 1059, .int 616 0, .int 2 0, .int 0 0, .int 0 0, .int 3 0, .ref 664, .bool true, .int 181 0, .ref 665, .none, .ref 666, .ref 667, .ref 668, .int 1064 0, .int 616 0, .str "/claim/cut.py" 1065]
noncomputable def o670 (P : Params) : Obj := .mk (.type "function") none (.func (oF "_law_reduced" "_law_reduced" 103 3 [] .none .none .none (.str "law_nz0511_01" 1037) none (.ref 669) .none 0)) #[]
noncomputable def o671 (P : Params) : Obj := oT #[]
noncomputable def o672 (P : Params) : Obj := oE #[]
noncomputable def o673 (P : Params) : Obj := oT #[.str "row" 1070, .str "kind" 1071, .str "draw" 1072]
noncomputable def o674 (P : Params) : Obj := oT #[]
noncomputable def o675 (P : Params) : Obj := .mk .none none (.func (oF "_law_item" "_law_item" 104 0 [] .none .none .none .none none .none .none 0)) #[]
noncomputable def o676 (P : Params) : Obj := oC #[.str "_law_item" 1067, .str "_law_item" 1068, .str "/claim/cut.py" 1069, .int 622 0, .int 2 0, .int 0 0, .int 0 0, .int 3 0, .ref 671, .bool true, .int 181 0, .ref 672, .none, .ref 673, .ref 674, .ref 675, .int 1073 0, .int 622 0, .str "/claim/cut.py" 1074]
noncomputable def o677 (P : Params) : Obj := .mk (.type "function") none (.func (oF "_law_item" "_law_item" 104 3 [] .none .none .none (.str "law_nz0511_01" 1037) none (.ref 676) .none 0)) #[]
noncomputable def o678 (P : Params) : Obj := oT #[]
noncomputable def o679 (P : Params) : Obj := oE #[]
noncomputable def o680 (P : Params) : Obj := oT #[.str "kind" 1079, .str "item" 1080, .str "size" 1081, .str "words" 1082]
noncomputable def o681 (P : Params) : Obj := oT #[]
noncomputable def o682 (P : Params) : Obj := .mk .none none (.func (oF "_law_plain_text" "_law_plain_text" 105 0 [] .none .none .none .none none .none .none 0)) #[]
noncomputable def o683 (P : Params) : Obj := oC #[.str "_law_plain_text" 1076, .str "_law_plain_text" 1077, .str "/claim/cut.py" 1078, .int 635 0, .int 2 0, .int 0 0, .int 0 0, .int 3 0, .ref 678, .bool true, .int 181 0, .ref 679, .none, .ref 680, .ref 681, .ref 682, .int 1083 0, .int 635 0, .str "/claim/cut.py" 1084]
noncomputable def o684 (P : Params) : Obj := .mk (.type "function") none (.func (oF "_law_plain_text" "_law_plain_text" 105 3 [] .none .none .none (.str "law_nz0511_01" 1037) none (.ref 683) .none 0)) #[]
noncomputable def o685 (P : Params) : Obj := oT #[]
noncomputable def o686 (P : Params) : Obj := oE #[]
noncomputable def o687 (P : Params) : Obj := oT #[.str "kind" 1089, .str "item" 1090, .str "to" 1091]
noncomputable def o688 (P : Params) : Obj := oT #[]
noncomputable def o689 (P : Params) : Obj := .mk .none none (.func (oF "_law_as" "_law_as" 106 0 [] .none .none .none .none none .none .none 0)) #[]
noncomputable def o690 (P : Params) : Obj := oC #[.str "_law_as" 1086, .str "_law_as" 1087, .str "/claim/cut.py" 1088, .int 647 0, .int 3 0, .int 0 0, .int 0 0, .int 3 0, .ref 685, .bool true, .int 181 0, .ref 686, .none, .ref 687, .ref 688, .ref 689, .int 1092 0, .int 647 0, .str "/claim/cut.py" 1093]
noncomputable def o691 (P : Params) : Obj := .mk (.type "function") none (.func (oF "_law_as" "_law_as" 106 3 [] .none .none .none (.str "law_nz0511_01" 1037) none (.ref 690) .none 0)) #[]
noncomputable def o692 (P : Params) : Obj := oT #[]
noncomputable def o693 (P : Params) : Obj := oE #[]
noncomputable def o694 (P : Params) : Obj := .mk .none none (.func (oF "_law_vector" "_law_vector" 107 0 [] .none .none .none .none none .none .none 0)) #[]
noncomputable def o695 (P : Params) : Obj := oC #[.str "_law_vector" 1095, .str "_law_vector" 1096, .str "/claim/cut.py" 1097, .int 655 0, .int 1 0, .int 0 0, .int 0 0, .int 3 0, .ref 692, .bool true, .int 181 0, .ref 693, .none, .none, .none, .ref 694, .int 1098 0, .int 655 0, .str "/claim/cut.py" 1099]
noncomputable def o696 (P : Params) : Obj := .mk (.type "function") none (.func (oF "_law_vector" "_law_vector" 107 3 [] .none .none .none (.str "law_nz0511_01" 1037) none (.ref 695) .none 0)) #[]
noncomputable def o697 (P : Params) : Obj := oT #[]
noncomputable def o698 (P : Params) : Obj := oE #[]
noncomputable def o699 (P : Params) : Obj := .mk .none none (.func (oF "_law_plain" "_law_plain" 108 0 [] .none .none .none .none none .none .none 0)) #[]
noncomputable def o700 (P : Params) : Obj := oC #[.str "_law_plain" 1101, .str "_law_plain" 1102, .str "/claim/cut.py" 1103, .int 670 0, .int 1 0, .int 0 0, .int 0 0, .int 3 0, .ref 697, .bool true, .int 181 0, .ref 698, .none, .none, .none, .ref 699, .int 1104 0, .int 670 0, .str "/claim/cut.py" 1105]
noncomputable def o701 (P : Params) : Obj := .mk (.type "function") none (.func (oF "_law_plain" "_law_plain" 108 3 [] .none .none .none (.str "law_nz0511_01" 1037) none (.ref 700) .none 0)) #[]
noncomputable def o702 (P : Params) : Obj := oT #[]
noncomputable def o703 (P : Params) : Obj := oE #[]
noncomputable def o704 (P : Params) : Obj := .mk .none none (.func (oF "_law_spots" "_law_spots" 109 0 [] .none .none .none .none none .none .none 0)) #[]
noncomputable def o705 (P : Params) : Obj := oC #[.str "_law_spots" 1107, .str "_law_spots" 1108, .str "/claim/cut.py" 1109, .int 676 0, .int 1 0, .int 0 0, .int 0 0, .int 3 0, .ref 702, .bool true, .int 181 0, .ref 703, .none, .none, .none, .ref 704, .int 1110 0, .int 676 0, .str "/claim/cut.py" 1111]
noncomputable def o706 (P : Params) : Obj := .mk (.type "function") none (.func (oF "_law_spots" "_law_spots" 109 3 [] .none .none .none (.str "law_nz0511_01" 1037) none (.ref 705) .none 0)) #[]
noncomputable def o707 (P : Params) : Obj := oT #[]
noncomputable def o708 (P : Params) : Obj := oE #[]
noncomputable def o709 (P : Params) : Obj := .mk .none none (.func (oF "law" "law" 110 0 [] .none .none .none .none none .none .none 0)) #[]
noncomputable def o710 (P : Params) : Obj := oC #[.str "law" 1113, .str "law" 1114, .str "/claim/cut.py" 1115, .int 678 0, .int 1 0, .int 0 0, .int 0 0, .int 3 0, .ref 707, .bool true, .int 181 0, .ref 708, .none, .none, .none, .ref 709, .int 1116 0, .int 678 0, .str "/claim/cut.py" 1117]
noncomputable def o711 (P : Params) : Obj := .mk (.type "function") none (.func (oF "law" "law" 110 3 [] .none .none .none (.str "law_nz0511_01" 1037) none (.ref 710) .none 0)) #[]
noncomputable def t10 (P : Params) : BT := (nd P boot_o_0 (nd P boot_o_1 (nd P o3v22 (nd P boot_o_7 (nd P o15 (nd P o31 (nd P o63 (nd P o127 (nd P o255 (lf P o511) .nil) (nd P o383 (lf P o639) .nil)) (nd P o191 (nd P o319 (lf P o575) .nil) (nd P o447 (lf P o703) .nil))) (nd P o95 (nd P o159 (nd P o287 (lf P o543) .nil) (nd P o415 (lf P o671) .nil)) (nd P o223 (nd P o351 (lf P o607) .nil) (lf P o479)))) (nd P o47 (nd P o79 (nd P o143 (nd P o271 (lf P o527) .nil) (nd P o399 (lf P o655) .nil)) (nd P o207 (nd P o335 (lf P o591) .nil) (lf P o463))) (nd P o111 (nd P o175 (nd P o303 (lf P o559) .nil) (nd P o431 (lf P o687) .nil)) (nd P o239 (nd P o367 (lf P o623) .nil) (lf P o495))))) (nd P o23 (nd P o39 (nd P o71 (nd P o135 (nd P o263 (lf P o519) .nil) (nd P o391 (lf P o647) .nil)) (nd P o199 (nd P o327 (lf P o583) .nil) (nd P o455 (lf P o711) .nil))) (nd P o103 (nd P o167 (nd P o295 (lf P o551) .nil) (nd P o423 (lf P o679) .nil)) (nd P o231 (nd P o359 (lf P o615) .nil) (lf P o487)))) (nd P o55 (nd P o87 (nd P o151 (nd P o279 (lf P o535) .nil) (nd P o407 (lf P o663) .nil)) (nd P o215 (nd P o343 (lf P o599) .nil) (lf P o471))) (nd P o119 (nd P o183 (nd P o311 (lf P o567) .nil) (nd P o439 (lf P o695) .nil)) (nd P o247 (nd P o375 (lf P o631) .nil) (lf P o503)))))) (nd P o11 (nd P o19 (nd P o35 (nd P o67 (nd P o131 (nd P o259 (lf P o515) .nil) (nd P o387 (lf P o643) .nil)) (nd P o195 (nd P o323 (lf P o579) .nil) (nd P o451 (lf P o707) .nil))) (nd P o99 (nd P o163 (nd P o291 (lf P o547) .nil) (nd P o419 (lf P o675) .nil)) (nd P o227 (nd P o355 (lf P o611) .nil) (lf P o483)))) (nd P o51 (nd P o83 (nd P o147 (nd P o275 (lf P o531) .nil) (nd P o403 (lf P o659) .nil)) (nd P o211 (nd P o339 (lf P o595) .nil) (lf P o467))) (nd P o115 (nd P o179 (nd P o307 (lf P o563) .nil) (nd P o435 (lf P o691) .nil)) (nd P o243 (nd P o371 (lf P o627) .nil) (lf P o499))))) (nd P o27 (nd P o43 (nd P o75 (nd P o139 (nd P o267 (lf P o523) .nil) (nd P o395 (lf P o651) .nil)) (nd P o203 (nd P o331 (lf P o587) .nil) (lf P o459))) (nd P o107 (nd P o171 (nd P o299 (lf P o555) .nil) (nd P o427 (lf P o683) .nil)) (nd P o235 (nd P o363 (lf P o619) .nil) (lf P o491)))) (nd P o59 (nd P o91 (nd P o155 (nd P o283 (lf P o539) .nil) (nd P o411 (lf P o667) .nil)) (nd P o219 (nd P o347 (lf P o603) .nil) (lf P o475))) (nd P o123 (nd P o187 (nd P o315 (lf P o571) .nil) (nd P o443 (lf P o699) .nil)) (nd P o251 (nd P o379 (lf P o635) .nil) (lf P o507))))))) (nd P boot_o_5 (nd P boot_o_9 (nd P o17 (nd P o33 (nd P o65 (nd P o129 (nd P o257 (lf P o513) .nil) (nd P o385 (lf P o641) .nil)) (nd P o193 (nd P o321 (lf P o577) .nil) (nd P o449 (lf P o705) .nil))) (nd P o97 (nd P o161 (nd P o289 (lf P o545) .nil) (nd P o417 (lf P o673) .nil)) (nd P o225 (nd P o353 (lf P o609) .nil) (lf P o481)))) (nd P o49 (nd P o81 (nd P o145 (nd P o273 (lf P o529) .nil) (nd P o401 (lf P o657) .nil)) (nd P o209 (nd P o337 (lf P o593) .nil) (lf P o465))) (nd P o113 (nd P o177 (nd P o305 (lf P o561) .nil) (nd P o433 (lf P o689) .nil)) (nd P o241 (nd P o369 (lf P o625) .nil) (lf P o497))))) (nd P o25 (nd P o41 (nd P o73 (nd P o137 (nd P o265 (lf P o521) .nil) (nd P o393 (lf P o649) .nil)) (nd P o201 (nd P o329 (lf P o585) .nil) (lf P o457))) (nd P o105 (nd P o169 (nd P o297 (lf P o553) .nil) (nd P o425 (lf P o681) .nil)) (nd P o233 (nd P o361 (lf P o617) .nil) (lf P o489)))) (nd P o57 (nd P o89 (nd P o153 (nd P o281 (lf P o537) .nil) (nd P o409 (lf P o665) .nil)) (nd P o217 (nd P o345 (lf P o601) .nil) (lf P o473))) (nd P o121 (nd P o185 (nd P o313 (lf P o569) .nil) (nd P o441 (lf P o697) .nil)) (nd P o249 (nd P o377 (lf P o633) .nil) (lf P o505)))))) (nd P o13 (nd P o21 (nd P o37 (nd P o69 (nd P o133 (nd P o261 (lf P o517) .nil) (nd P o389 (lf P o645) .nil)) (nd P o197 (nd P o325 (lf P o581) .nil) (nd P o453 (lf P o709) .nil))) (nd P o101 (nd P o165 (nd P o293 (lf P o549) .nil) (nd P o421 (lf P o677) .nil)) (nd P o229 (nd P o357v15 (lf P o613) .nil) (lf P o485)))) (nd P o53 (nd P o85 (nd P o149 (nd P o277 (lf P o533) .nil) (nd P o405 (lf P o661) .nil)) (nd P o213 (nd P o341 (lf P o597) .nil) (lf P o469))) (nd P o117 (nd P o181 (nd P o309 (lf P o565) .nil) (nd P o437 (lf P o693) .nil)) (nd P o245 (nd P o373 (lf P o629) .nil) (lf P o501))))) (nd P o29 (nd P o45 (nd P o77 (nd P o141 (nd P o269 (lf P o525) .nil) (nd P o397 (lf P o653) .nil)) (nd P o205 (nd P o333 (lf P o589) .nil) (lf P o461))) (nd P o109 (nd P o173 (nd P o301 (lf P o557) .nil) (nd P o429 (lf P o685) .nil)) (nd P o237 (nd P o365 (lf P o621) .nil) (lf P o493)))) (nd P o61 (nd P o93 (nd P o157 (nd P o285 (lf P o541) .nil) (nd P o413 (lf P o669) .nil)) (nd P o221 (nd P o349 (lf P o605) .nil) (lf P o477))) (nd P o125 (nd P o189 (nd P o317 (lf P o573) .nil) (nd P o445 (lf P o701) .nil)) (nd P o253 (nd P o381 (lf P o637) .nil) (lf P o509)))))))) (nd P o2v10 (nd P boot_o_4 (nd P boot_o_8 (nd P o16 (nd P o32 (nd P o64 (nd P o128 (nd P o256 (lf P o512) .nil) (nd P o384 (lf P o640) .nil)) (nd P o192 (nd P o320 (lf P o576) .nil) (nd P o448 (lf P o704) .nil))) (nd P o96 (nd P o160 (nd P o288 (lf P o544) .nil) (nd P o416 (lf P o672) .nil)) (nd P o224 (nd P o352 (lf P o608) .nil) (lf P o480)))) (nd P o48 (nd P o80 (nd P o144 (nd P o272 (lf P o528) .nil) (nd P o400 (lf P o656) .nil)) (nd P o208 (nd P o336 (lf P o592) .nil) (lf P o464))) (nd P o112 (nd P o176 (nd P o304 (lf P o560) .nil) (nd P o432 (lf P o688) .nil)) (nd P o240 (nd P o368 (lf P o624) .nil) (lf P o496))))) (nd P o24 (nd P o40 (nd P o72 (nd P o136 (nd P o264 (lf P o520) .nil) (nd P o392 (lf P o648) .nil)) (nd P o200 (nd P o328 (lf P o584) .nil) (lf P o456))) (nd P o104 (nd P o168 (nd P o296 (lf P o552) .nil) (nd P o424 (lf P o680) .nil)) (nd P o232 (nd P o360 (lf P o616) .nil) (lf P o488)))) (nd P o56 (nd P o88 (nd P o152 (nd P o280 (lf P o536) .nil) (nd P o408 (lf P o664) .nil)) (nd P o216 (nd P o344 (lf P o600) .nil) (lf P o472))) (nd P o120 (nd P o184 (nd P o312 (lf P o568) .nil) (nd P o440 (lf P o696) .nil)) (nd P o248 (nd P o376 (lf P o632) .nil) (lf P o504)))))) (nd P o12v23 (nd P o20 (nd P o36 (nd P o68 (nd P o132 (nd P o260 (lf P o516) .nil) (nd P o388 (lf P o644) .nil)) (nd P o196 (nd P o324 (lf P o580) .nil) (nd P o452 (lf P o708) .nil))) (nd P o100 (nd P o164 (nd P o292 (lf P o548) .nil) (nd P o420 (lf P o676) .nil)) (nd P o228 (nd P o356 (lf P o612) .nil) (lf P o484)))) (nd P o52 (nd P o84 (nd P o148 (nd P o276 (lf P o532) .nil) (nd P o404 (lf P o660) .nil)) (nd P o212 (nd P o340 (lf P o596) .nil) (lf P o468))) (nd P o116 (nd P o180 (nd P o308 (lf P o564) .nil) (nd P o436 (lf P o692) .nil)) (nd P o244 (nd P o372 (lf P o628) .nil) (lf P o500))))) (nd P o28 (nd P o44 (nd P o76 (nd P o140 (nd P o268 (lf P o524) .nil) (nd P o396 (lf P o652) .nil)) (nd P o204 (nd P o332 (lf P o588) .nil) (lf P o460))) (nd P o108 (nd P o172 (nd P o300 (lf P o556) .nil) (nd P o428 (lf P o684) .nil)) (nd P o236 (nd P o364 (lf P o620) .nil) (lf P o492)))) (nd P o60 (nd P o92 (nd P o156 (nd P o284 (lf P o540) .nil) (nd P o412 (lf P o668) .nil)) (nd P o220 (nd P o348 (lf P o604) .nil) (lf P o476))) (nd P o124 (nd P o188 (nd P o316 (lf P o572) .nil) (nd P o444 (lf P o700) .nil)) (nd P o252 (nd P o380 (lf P o636) .nil) (lf P o508))))))) (nd P boot_o_6 (nd P boot_o_10 (nd P o18 (nd P o34 (nd P o66 (nd P o130 (nd P o258 (lf P o514) .nil) (nd P o386 (lf P o642) .nil)) (nd P o194 (nd P o322 (lf P o578) .nil) (nd P o450 (lf P o706) .nil))) (nd P o98 (nd P o162 (nd P o290 (lf P o546) .nil) (nd P o418 (lf P o674) .nil)) (nd P o226 (nd P o354 (lf P o610) .nil) (lf P o482)))) (nd P o50 (nd P o82 (nd P o146 (nd P o274 (lf P o530) .nil) (nd P o402 (lf P o658) .nil)) (nd P o210 (nd P o338 (lf P o594) .nil) (lf P o466))) (nd P o114 (nd P o178 (nd P o306 (lf P o562) .nil) (nd P o434 (lf P o690) .nil)) (nd P o242 (nd P o370 (lf P o626) .nil) (lf P o498))))) (nd P o26 (nd P o42 (nd P o74 (nd P o138 (nd P o266 (lf P o522) .nil) (nd P o394 (lf P o650) .nil)) (nd P o202 (nd P o330 (lf P o586) .nil) (lf P o458))) (nd P o106 (nd P o170 (nd P o298 (lf P o554) .nil) (nd P o426 (lf P o682) .nil)) (nd P o234 (nd P o362 (lf P o618) .nil) (lf P o490)))) (nd P o58 (nd P o90 (nd P o154 (nd P o282 (lf P o538) .nil) (nd P o410 (lf P o666) .nil)) (nd P o218 (nd P o346 (lf P o602) .nil) (lf P o474))) (nd P o122 (nd P o186 (nd P o314 (lf P o570) .nil) (nd P o442 (lf P o698) .nil)) (nd P o250 (nd P o378 (lf P o634) .nil) (lf P o506)))))) (nd P o14 (nd P o22 (nd P o38 (nd P o70 (nd P o134 (nd P o262 (lf P o518) .nil) (nd P o390 (lf P o646) .nil)) (nd P o198 (nd P o326 (lf P o582) .nil) (nd P o454 (lf P o710) .nil))) (nd P o102 (nd P o166 (nd P o294 (lf P o550) .nil) (nd P o422 (lf P o678) .nil)) (nd P o230 (nd P o358 (lf P o614) .nil) (lf P o486)))) (nd P o54 (nd P o86 (nd P o150 (nd P o278 (lf P o534) .nil) (nd P o406 (lf P o662) .nil)) (nd P o214 (nd P o342 (lf P o598) .nil) (lf P o470))) (nd P o118 (nd P o182 (nd P o310 (lf P o566) .nil) (nd P o438 (lf P o694) .nil)) (nd P o246 (nd P o374 (lf P o630) .nil) (lf P o502))))) (nd P o30 (nd P o46 (nd P o78 (nd P o142 (nd P o270 (lf P o526) .nil) (nd P o398 (lf P o654) .nil)) (nd P o206 (nd P o334 (lf P o590) .nil) (lf P o462))) (nd P o110 (nd P o174 (nd P o302 (lf P o558) .nil) (nd P o430 (lf P o686) .nil)) (nd P o238 (nd P o366 (lf P o622) .nil) (lf P o494)))) (nd P o62 (nd P o94 (nd P o158 (nd P o286 (lf P o542) .nil) (nd P o414 (lf P o670) .nil)) (nd P o222 (nd P o350 (lf P o606) .nil) (lf P o478))) (nd P o126 (nd P o190 (nd P o318 (lf P o574) .nil) (nd P o446 (lf P o702) .nil)) (nd P o254 (nd P o382 (lf P o638) .nil) (lf P o510)))))))))
noncomputable def s10 (w : World) (os : OsState) : SharedT := ⟨t10 w.params, 712, lifeE, #[], ⟨0, 0, 0, 0⟩, 1119, os⟩
noncomputable def hf (P : Params) : Heap := Heap.mk (Array.mk [boot_o_0 P, boot_o_1 P, o2v10 P, o3v22 P, boot_o_4 P, boot_o_5 P, boot_o_6 P, boot_o_7 P, boot_o_8 P, boot_o_9 P, boot_o_10 P, o11 P, o12v23 P, o13 P, o14 P, o15 P, o16 P, o17 P, o18 P, o19 P, o20 P, o21 P, o22 P, o23 P, o24 P, o25 P, o26 P, o27 P, o28 P, o29 P, o30 P, o31 P, o32 P, o33 P, o34 P, o35 P, o36 P, o37 P, o38 P, o39 P, o40 P, o41 P, o42 P, o43 P, o44 P, o45 P, o46 P, o47 P, o48 P, o49 P, o50 P, o51 P, o52 P, o53 P, o54 P, o55 P, o56 P, o57 P, o58 P, o59 P, o60 P, o61 P, o62 P, o63 P, o64 P, o65 P, o66 P, o67 P, o68 P, o69 P, o70 P, o71 P, o72 P, o73 P, o74 P, o75 P, o76 P, o77 P, o78 P, o79 P, o80 P, o81 P, o82 P, o83 P, o84 P, o85 P, o86 P, o87 P, o88 P, o89 P, o90 P, o91 P, o92 P, o93 P, o94 P, o95 P, o96 P, o97 P, o98 P, o99 P, o100 P, o101 P, o102 P, o103 P, o104 P, o105 P, o106 P, o107 P, o108 P, o109 P, o110 P, o111 P, o112 P, o113 P, o114 P, o115 P, o116 P, o117 P, o118 P, o119 P, o120 P, o121 P, o122 P, o123 P, o124 P, o125 P, o126 P, o127 P, o128 P, o129 P, o130 P, o131 P, o132 P, o133 P, o134 P, o135 P, o136 P, o137 P, o138 P, o139 P, o140 P, o141 P, o142 P, o143 P, o144 P, o145 P, o146 P, o147 P, o148 P, o149 P, o150 P, o151 P, o152 P, o153 P, o154 P, o155 P, o156 P, o157 P, o158 P, o159 P, o160 P, o161 P, o162 P, o163 P, o164 P, o165 P, o166 P, o167 P, o168 P, o169 P, o170 P, o171 P, o172 P, o173 P, o174 P, o175 P, o176 P, o177 P, o178 P, o179 P, o180 P, o181 P, o182 P, o183 P, o184 P, o185 P, o186 P, o187 P, o188 P, o189 P, o190 P, o191 P, o192 P, o193 P, o194 P, o195 P, o196 P, o197 P, o198 P, o199 P, o200 P, o201 P, o202 P, o203 P, o204 P, o205 P, o206 P, o207 P, o208 P, o209 P, o210 P, o211 P, o212 P, o213 P, o214 P, o215 P, o216 P, o217 P, o218 P, o219 P, o220 P, o221 P, o222 P, o223 P, o224 P, o225 P, o226 P, o227 P, o228 P, o229 P, o230 P, o231 P, o232 P, o233 P, o234 P, o235 P, o236 P, o237 P, o238 P, o239 P, o240 P, o241 P, o242 P, o243 P, o244 P, o245 P, o246 P, o247 P, o248 P, o249 P, o250 P, o251 P, o252 P, o253 P, o254 P, o255 P, o256 P, o257 P, o258 P, o259 P, o260 P, o261 P, o262 P, o263 P, o264 P, o265 P, o266 P, o267 P, o268 P, o269 P, o270 P, o271 P, o272 P, o273 P, o274 P, o275 P, o276 P, o277 P, o278 P, o279 P, o280 P, o281 P, o282 P, o283 P, o284 P, o285 P, o286 P, o287 P, o288 P, o289 P, o290 P, o291 P, o292 P, o293 P, o294 P, o295 P, o296 P, o297 P, o298 P, o299 P, o300 P, o301 P, o302 P, o303 P, o304 P, o305 P, o306 P, o307 P, o308 P, o309 P, o310 P, o311 P, o312 P, o313 P, o314 P, o315 P, o316 P, o317 P, o318 P, o319 P, o320 P, o321 P, o322 P, o323 P, o324 P, o325 P, o326 P, o327 P, o328 P, o329 P, o330 P, o331 P, o332 P, o333 P, o334 P, o335 P, o336 P, o337 P, o338 P, o339 P, o340 P, o341 P, o342 P, o343 P, o344 P, o345 P, o346 P, o347 P, o348 P, o349 P, o350 P, o351 P, o352 P, o353 P, o354 P, o355 P, o356 P, o357v15 P, o358 P, o359 P, o360 P, o361 P, o362 P, o363 P, o364 P, o365 P, o366 P, o367 P, o368 P, o369 P, o370 P, o371 P, o372 P, o373 P, o374 P, o375 P, o376 P, o377 P, o378 P, o379 P, o380 P, o381 P, o382 P, o383 P, o384 P, o385 P, o386 P, o387 P, o388 P, o389 P, o390 P, o391 P, o392 P, o393 P, o394 P, o395 P, o396 P, o397 P, o398 P, o399 P, o400 P, o401 P, o402 P, o403 P, o404 P, o405 P, o406 P, o407 P, o408 P, o409 P, o410 P, o411 P, o412 P, o413 P, o414 P, o415 P, o416 P, o417 P, o418 P, o419 P, o420 P, o421 P, o422 P, o423 P, o424 P, o425 P, o426 P, o427 P, o428 P, o429 P, o430 P, o431 P, o432 P, o433 P, o434 P, o435 P, o436 P, o437 P, o438 P, o439 P, o440 P, o441 P, o442 P, o443 P, o444 P, o445 P, o446 P, o447 P, o448 P, o449 P, o450 P, o451 P, o452 P, o453 P, o454 P, o455 P, o456 P, o457 P, o458 P, o459 P, o460 P, o461 P, o462 P, o463 P, o464 P, o465 P, o466 P, o467 P, o468 P, o469 P, o470 P, o471 P, o472 P, o473 P, o474 P, o475 P, o476 P, o477 P, o478 P, o479 P, o480 P, o481 P, o482 P, o483 P, o484 P, o485 P, o486 P, o487 P, o488 P, o489 P, o490 P, o491 P, o492 P, o493 P, o494 P, o495 P, o496 P, o497 P, o498 P, o499 P, o500 P, o501 P, o502 P, o503 P, o504 P, o505 P, o506 P, o507 P, o508 P, o509 P, o510 P, o511 P, o512 P, o513 P, o514 P, o515 P, o516 P, o517 P, o518 P, o519 P, o520 P, o521 P, o522 P, o523 P, o524 P, o525 P, o526 P, o527 P, o528 P, o529 P, o530 P, o531 P, o532 P, o533 P, o534 P, o535 P, o536 P, o537 P, o538 P, o539 P, o540 P, o541 P, o542 P, o543 P, o544 P, o545 P, o546 P, o547 P, o548 P, o549 P, o550 P, o551 P, o552 P, o553 P, o554 P, o555 P, o556 P, o557 P, o558 P, o559 P, o560 P, o561 P, o562 P, o563 P, o564 P, o565 P, o566 P, o567 P, o568 P, o569 P, o570 P, o571 P, o572 P, o573 P, o574 P, o575 P, o576 P, o577 P, o578 P, o579 P, o580 P, o581 P, o582 P, o583 P, o584 P, o585 P, o586 P, o587 P, o588 P, o589 P, o590 P, o591 P, o592 P, o593 P, o594 P, o595 P, o596 P, o597 P, o598 P, o599 P, o600 P, o601 P, o602 P, o603 P, o604 P, o605 P, o606 P, o607 P, o608 P, o609 P, o610 P, o611 P, o612 P, o613 P, o614 P, o615 P, o616 P, o617 P, o618 P, o619 P, o620 P, o621 P, o622 P, o623 P, o624 P, o625 P, o626 P, o627 P, o628 P, o629 P, o630 P, o631 P, o632 P, o633 P, o634 P, o635 P, o636 P, o637 P, o638 P, o639 P, o640 P, o641 P, o642 P, o643 P, o644 P, o645 P, o646 P, o647 P, o648 P, o649 P, o650 P, o651 P, o652 P, o653 P, o654 P, o655 P, o656 P, o657 P, o658 P, o659 P, o660 P, o661 P, o662 P, o663 P, o664 P, o665 P, o666 P, o667 P, o668 P, o669 P, o670 P, o671 P, o672 P, o673 P, o674 P, o675 P, o676 P, o677 P, o678 P, o679 P, o680 P, o681 P, o682 P, o683 P, o684 P, o685 P, o686 P, o687 P, o688 P, o689 P, o690 P, o691 P, o692 P, o693 P, o694 P, o695 P, o696 P, o697 P, o698 P, o699 P, o700 P, o701 P, o702 P, o703 P, o704 P, o705 P, o706 P, o707 P, o708 P, o709 P, o710 P, o711 P]) (Life.mk [] [] [] 0 [] [] false #[] [] 0 false false false 0 [2000, 10, 10] false 0 true [] [] 0 false)
noncomputable def sf (w : World) (os : OsState) : Shared := ⟨hf w.params, #[], ⟨0, 0, 0, 0⟩, 1119, os⟩
noncomputable def pos0 : Pos := ⟨58, 0, 68, 23⟩
noncomputable def pos1 : Pos := ⟨151, 0, 155, 16⟩
noncomputable def pos2 : Pos := ⟨230, 0, 234, 25⟩
noncomputable def pos3 : Pos := ⟨261, 0, 262, 66⟩
noncomputable def pos4 : Pos := ⟨321, 0, 321, 8⟩
noncomputable def pos5 : Pos := ⟨322, 0, 323, 8⟩
noncomputable def pos6 : Pos := ⟨344, 0, 349, 15⟩
noncomputable def pos7 : Pos := ⟨445, 0, 445, 8⟩
noncomputable def pos8 : Pos := ⟨530, 0, 545, 16⟩
noncomputable def pos9 : Pos := ⟨601, 0, 613, 14⟩
noncomputable def pos10 : Pos := ⟨678, 0, 713, 34⟩
theorem pcA (w : World) : (fun os => topGo treeTable pw w 11 (some (.ref 6)) 12 ⟨boot_heap w.params, Array.mk [], boot_drawn, boot_toks, os⟩ (topStub pw)) = fun os => some (sa w os, ⟨denote treeTable cd, cd, q0, [topFrame q0]⟩) := by kernel_rfl
theorem pcB (w : World) : (fun os => segRun treeTable pw w 11 (some (.ref 6)) 1 1 (sa w os) (blockOf bd env cd q0 [topFrame q0])) = fun os => some (.next, (sb w os).abs, cd, q0) := by kernel_rfl
theorem pc0 (w : World) : (fun os => segRunT treeTable pw w 11 (some (.ref 6)) 1 413 (sb w os) (piecesOf (grp 0 17) env cd q0 [topFrame q0])) = fun os => some (.next, s0 w os, cd, pos0) := by
  rw [PySem.W.Fast.te10110043849684766642, PySem.W.Fast.te14364793385576792824]
  kernel_rfl
theorem pc1 (w : World) : (fun os => segRunT treeTable pw w 11 (some (.ref 6)) 1 397 (s0 w os) (piecesOf (grp 17 12) env cd pos0 [topFrame q0])) = fun os => some (.next, s1 w os, cd, pos1) := by
  rw [PySem.W.Fast.te10110043849684766642, PySem.W.Fast.te14364793385576792824]
  kernel_rfl
theorem pc2 (w : World) : (fun os => segRunT treeTable pw w 11 (some (.ref 6)) 1 407 (s1 w os) (piecesOf (grp 29 7) env cd pos1 [topFrame q0])) = fun os => some (.next, s2 w os, cd, pos2) := by
  rw [PySem.W.Fast.te10110043849684766642, PySem.W.Fast.te14364793385576792824]
  kernel_rfl
theorem pc3 (w : World) : (fun os => segRunT treeTable pw w 11 (some (.ref 6)) 1 383 (s2 w os) (piecesOf (grp 36 5) env cd pos2 [topFrame q0])) = fun os => some (.next, s3 w os, cd, pos3) := by
  rw [PySem.W.Fast.te10110043849684766642, PySem.W.Fast.te14364793385576792824]
  kernel_rfl
theorem pc4 (w : World) : (fun os => segRunT treeTable pw w 11 (some (.ref 6)) 1 287 (s3 w os) (piecesOf (grp 41 11) env cd pos3 [topFrame q0])) = fun os => some (.next, s4 w os, cd, pos4) := by
  rw [PySem.W.Fast.te10110043849684766642, PySem.W.Fast.te14364793385576792824]
  kernel_rfl
theorem pc5 (w : World) : (fun os => segRunT treeTable pw w 11 (some (.ref 6)) 1 198 (s4 w os) (piecesOf (grp 52 1) env cd pos4 [topFrame q0])) = fun os => some (.next, s5 w os, cd, pos5) := by
  rw [PySem.W.Fast.te10110043849684766642, PySem.W.Fast.te14364793385576792824]
  kernel_rfl
theorem pc6 (w : World) : (fun os => segRunT treeTable pw w 11 (some (.ref 6)) 1 392 (s5 w os) (piecesOf (grp 53 7) env cd pos5 [topFrame q0])) = fun os => some (.next, s6 w os, cd, pos6) := by
  rw [PySem.W.Fast.te10110043849684766642, PySem.W.Fast.te14364793385576792824]
  kernel_rfl
theorem pc7 (w : World) : (fun os => segRunT treeTable pw w 11 (some (.ref 6)) 1 414 (s6 w os) (piecesOf (grp 60 14) env cd pos6 [topFrame q0])) = fun os => some (.next, s7 w os, cd, pos7) := by
  rw [PySem.W.Fast.te10110043849684766642, PySem.W.Fast.te14364793385576792824]
  kernel_rfl
theorem pc8 (w : World) : (fun os => segRunT treeTable pw w 11 (some (.ref 6)) 1 411 (s7 w os) (piecesOf (grp 74 14) env cd pos7 [topFrame q0])) = fun os => some (.next, s8 w os, cd, pos8) := by
  rw [PySem.W.Fast.te10110043849684766642, PySem.W.Fast.te14364793385576792824]
  kernel_rfl
theorem pc9 (w : World) : (fun os => segRunT treeTable pw w 11 (some (.ref 6)) 1 393 (s8 w os) (piecesOf (grp 88 14) env cd pos8 [topFrame q0])) = fun os => some (.next, s9 w os, cd, pos9) := by
  rw [PySem.W.Fast.te10110043849684766642, PySem.W.Fast.te14364793385576792824]
  kernel_rfl
theorem pc10 (w : World) : (fun os => segRunT treeTable pw w 11 (some (.ref 6)) 1 269 (s9 w os) (piecesOf (grp 102 9) env cd pos9 [topFrame q0])) = fun os => some (.next, s10 w os, cd, pos10) := by
  rw [PySem.W.Fast.te10110043849684766642, PySem.W.Fast.te14364793385576792824]
  kernel_rfl
theorem pcF (w : World) : (fun os => topRun treeTable pw w 11 (some (.ref 6)) 2 (s10 w os).abs ⟨doneF .next, cd, pos10, [topFrame q0]⟩) = fun os => some (sf w os) := by kernel_rfl
end
end Mine
namespace Mine
noncomputable section
noncomputable def an : Option Value := some (.ref 6)
theorem run0 (w : World) (os : OsState) : topRun treeTable pw w 11 an 2 (s10 w os).abs (restOf [] env cd pos10 [topFrame q0]) = some (sf w os) := piece_nil (congrFun (pcF w) os)
theorem run11 (w : World) (os : OsState) : topRun treeTable pw w 11 an (269 + 2) (s9 w os).abs (restOf (grp 102 9 ++ []) env cd pos9 [topFrame q0]) = some (sf w os) := piece_app (segRun_of (congrFun (pc10 w) os)) (run0 w os)
theorem run10 (w : World) (os : OsState) : topRun treeTable pw w 11 an (393 + (269 + 2)) (s8 w os).abs (restOf (grp 88 14 ++ (grp 102 9 ++ [])) env cd pos8 [topFrame q0]) = some (sf w os) := piece_app (segRun_of (congrFun (pc9 w) os)) (run11 w os)
theorem run9 (w : World) (os : OsState) : topRun treeTable pw w 11 an (411 + (393 + (269 + 2))) (s7 w os).abs (restOf (grp 74 14 ++ (grp 88 14 ++ (grp 102 9 ++ []))) env cd pos7 [topFrame q0]) = some (sf w os) := piece_app (segRun_of (congrFun (pc8 w) os)) (run10 w os)
theorem run8 (w : World) (os : OsState) : topRun treeTable pw w 11 an (414 + (411 + (393 + (269 + 2)))) (s6 w os).abs (restOf (grp 60 14 ++ (grp 74 14 ++ (grp 88 14 ++ (grp 102 9 ++ [])))) env cd pos6 [topFrame q0]) = some (sf w os) := piece_app (segRun_of (congrFun (pc7 w) os)) (run9 w os)
theorem run7 (w : World) (os : OsState) : topRun treeTable pw w 11 an (392 + (414 + (411 + (393 + (269 + 2))))) (s5 w os).abs (restOf (grp 53 7 ++ (grp 60 14 ++ (grp 74 14 ++ (grp 88 14 ++ (grp 102 9 ++ []))))) env cd pos5 [topFrame q0]) = some (sf w os) := piece_app (segRun_of (congrFun (pc6 w) os)) (run8 w os)
theorem run6 (w : World) (os : OsState) : topRun treeTable pw w 11 an (198 + (392 + (414 + (411 + (393 + (269 + 2)))))) (s4 w os).abs (restOf (grp 52 1 ++ (grp 53 7 ++ (grp 60 14 ++ (grp 74 14 ++ (grp 88 14 ++ (grp 102 9 ++ [])))))) env cd pos4 [topFrame q0]) = some (sf w os) := piece_app (segRun_of (congrFun (pc5 w) os)) (run7 w os)
theorem run5 (w : World) (os : OsState) : topRun treeTable pw w 11 an (287 + (198 + (392 + (414 + (411 + (393 + (269 + 2))))))) (s3 w os).abs (restOf (grp 41 11 ++ (grp 52 1 ++ (grp 53 7 ++ (grp 60 14 ++ (grp 74 14 ++ (grp 88 14 ++ (grp 102 9 ++ []))))))) env cd pos3 [topFrame q0]) = some (sf w os) := piece_app (segRun_of (congrFun (pc4 w) os)) (run6 w os)
theorem run4 (w : World) (os : OsState) : topRun treeTable pw w 11 an (383 + (287 + (198 + (392 + (414 + (411 + (393 + (269 + 2)))))))) (s2 w os).abs (restOf (grp 36 5 ++ (grp 41 11 ++ (grp 52 1 ++ (grp 53 7 ++ (grp 60 14 ++ (grp 74 14 ++ (grp 88 14 ++ (grp 102 9 ++ [])))))))) env cd pos2 [topFrame q0]) = some (sf w os) := piece_app (segRun_of (congrFun (pc3 w) os)) (run5 w os)
theorem run3 (w : World) (os : OsState) : topRun treeTable pw w 11 an (407 + (383 + (287 + (198 + (392 + (414 + (411 + (393 + (269 + 2))))))))) (s1 w os).abs (restOf (grp 29 7 ++ (grp 36 5 ++ (grp 41 11 ++ (grp 52 1 ++ (grp 53 7 ++ (grp 60 14 ++ (grp 74 14 ++ (grp 88 14 ++ (grp 102 9 ++ []))))))))) env cd pos1 [topFrame q0]) = some (sf w os) := piece_app (segRun_of (congrFun (pc2 w) os)) (run4 w os)
theorem run2 (w : World) (os : OsState) : topRun treeTable pw w 11 an (397 + (407 + (383 + (287 + (198 + (392 + (414 + (411 + (393 + (269 + 2)))))))))) (s0 w os).abs (restOf (grp 17 12 ++ (grp 29 7 ++ (grp 36 5 ++ (grp 41 11 ++ (grp 52 1 ++ (grp 53 7 ++ (grp 60 14 ++ (grp 74 14 ++ (grp 88 14 ++ (grp 102 9 ++ [])))))))))) env cd pos0 [topFrame q0]) = some (sf w os) := piece_app (segRun_of (congrFun (pc1 w) os)) (run3 w os)
theorem run1 (w : World) (os : OsState) : topRun treeTable pw w 11 an (413 + (397 + (407 + (383 + (287 + (198 + (392 + (414 + (411 + (393 + (269 + 2))))))))))) (sb w os).abs (restOf (grp 0 17 ++ (grp 17 12 ++ (grp 29 7 ++ (grp 36 5 ++ (grp 41 11 ++ (grp 52 1 ++ (grp 53 7 ++ (grp 60 14 ++ (grp 74 14 ++ (grp 88 14 ++ (grp 102 9 ++ []))))))))))) env cd q0 [topFrame q0]) = some (sf w os) := piece_app (segRun_of (congrFun (pc0 w) os)) (run2 w os)
theorem bd_eq : bd = (grp 0 17 ++ (grp 17 12 ++ (grp 29 7 ++ (grp 36 5 ++ (grp 41 11 ++ (grp 52 1 ++ (grp 53 7 ++ (grp 60 14 ++ (grp 74 14 ++ (grp 88 14 ++ (grp 102 9 ++ []))))))))))) := by kernel_rfl
theorem runB (w : World) (os : OsState) : topRun treeTable pw w 11 an (413 + (397 + (407 + (383 + (287 + (198 + (392 + (414 + (411 + (393 + (269 + 2))))))))))) (sb w os).abs (restOf bd env cd q0 [topFrame q0]) = some (sf w os) := by
  have h := run1 w os
  rw [← bd_eq] at h
  exact h
theorem runA (w : World) (os : OsState) : topRun treeTable pw w 11 an (1 + (413 + (397 + (407 + (383 + (287 + (198 + (392 + (414 + (411 + (393 + (269 + 2)))))))))))) (sa w os) ⟨denote treeTable cd, cd, q0, [topFrame q0]⟩ = some (sf w os) := piece_block (congrFun (pcB w) os) (runB w os)
theorem runTop (w : World) (os : OsState) : topRun treeTable pw w 11 an (12 + (1 + (413 + (397 + (407 + (383 + (287 + (198 + (392 + (414 + (411 + (393 + (269 + 2))))))))))))) ⟨boot_heap w.params, Array.mk [], boot_drawn, boot_toks, os⟩ (topStub pw) = some (sf w os) := go_top (congrFun (pcA w) os) (runA w os)
noncomputable abbrev NN : Nat := 9000
theorem open0 (w : World) : (fencedOpening treeTable pw w NN).map (fun s => (s.heap, s.gens, s.drawn, s.toks)) = some (boot_heap w.params, Array.mk [], boot_drawn, boot_toks) :=
  boot_open (p := pw) (N := NN) (by kernel_rfl) (by decide) (fun s => by kernel_rfl) w
theorem size0 (w : World) : ((boot_heap w.params).isNs mainGlobals && (Array.mk [] : Array GenState).size == 0, (boot_heap w.params).objs.size, (boot_heap w.params).nsMap mainGlobals "__annotations__") = (true, 11, an) := by kernel_rfl
noncomputable def qv : Program := { pw with main := { pw.main with body := [nth bd 110] } }
noncomputable def loose : List Str := [Str.ofString "_wall", Str.ofString "NAN", Str.ofString "INF", Str.ofString "ZERO", Str.ofString "gcd", Str.ofString "make", Str.ofString "from_int", Str.ofString "is_na", Str.ofString "is_finite", Str.ofString "neg", Str.ofString "to_whole", Str.ofString "nearest_whole", Str.ofString "exponent", Str.ofString "MOST_EXPONENT", Str.ofString "whole_text", Str.ofString "special_text", Str.ofString "scaled", Str.ofString "significant", Str.ofString "without_tail", Str.ofString "scientific_text", Str.ofString "fixed_text", Str.ofString "measures", Str.ofString "chosen_form", Str.ofString "formed", Str.ofString "common_texts", Str.ofString "number_text", Str.ofString "digits_value", Str.ofString "digit_run", Str.ofString "exponent_value", Str.ofString "powered", Str.ofString "unsigned_number", Str.ofString "parse_number", Str.ofString "Null", Str.ofString "Vector", Str.ofString "character", Str.ofString "length", Str.ofString "is_vector", Str.ofString "is_atomic", Str.ofString "share", Str.ofString "get_attr", Str.ofString "label_text", Str.ofString "level_at", Str.ofString "label_texts", Str.ofString "names_of", Str.ofString "dim_of", Str.ofString "dimnames_of", Str.ofString "class_attr", Str.ofString "CoveError", Str.ofString "Refusal", Str.ofString "MOST_INTEGER", Str.ofString "kind_order", Str.ofString "common_kind", Str.ofString "note", Str.ofString "as_logical_text", Str.ofString "double_to_integer", Str.ofString "text_to_double", Str.ofString "to_logical", Str.ofString "to_integer", Str.ofString "to_double", Str.ofString "to_text", Str.ofString "item_as", Str.ofString "is_atomic_kind", Str.ofString "list_item_as", Str.ofString "refuse_type", Str.ofString "as_vector_kind", Str.ofString "with_names", Str.ofString "as_kind", Str.ofString "same_attrs", Str.ofString "same_items", Str.ofString "same_formals", Str.ofString "same_slots", Str.ofString "same_dots", Str.ofString "same_kernel", Str.ofString "identical", Str.ofString "is_factor", Str.ofString "item_key", Str.ofString "is_listed", Str.ofString "list_place", Str.ofString "first_places", Str.ofString "unique_places", Str.ofString "turned", Str.ofString "duplicated_flags", Str.ofString "plain", Str.ofString "both_kinds", Str.ofString "match_places", Str.ofString "distinct", Str.ofString "union_of", Str.ofString "intersect_of", Str.ofString "setdiff_of", Str.ofString "same_sets", Str.ofString "tabulate_keys", Str.ofString "_law_row", Str.ofString "_law_next", Str.ofString "_law_reduced", Str.ofString "_law_item", Str.ofString "_law_plain_text", Str.ofString "_law_as", Str.ofString "_law_vector", Str.ofString "_law_plain", Str.ofString "_law_spots"]
end
end Mine
namespace Mine
noncomputable section
noncomputable def K0 (P : Params) : Frag := [(3, o3v22 P), (20, o20 P), (21, o21 P), (30, o30 P), (31, o31 P), (44, o44 P), (45, o45 P), (79, o79 P), (80, o80 P), (86, o86 P), (87, o87 P), (93, o93 P), (94, o94 P), (100, o100 P), (101, o101 P), (107, o107 P), (108, o108 P), (114, o114 P), (115, o115 P), (121, o121 P), (122, o122 P), (135, o135 P), (136, o136 P), (142, o142 P), (143, o143 P), (149, o149 P), (150, o150 P), (156, o156 P), (157, o157 P), (161, o161 P), (162, o162 P), (163, o163 P), (169, o169 P), (170, o170 P), (225, o225 P), (226, o226 P), (228, o228 P), (229, o229 P), (241, o241 P), (247, o247 P), (248, o248 P), (257, o257 P), (258, o258 P), (282, o282 P), (283, o283 P), (289, o289 P), (290, o290 P), (303, o303 P), (304, o304 P), (310, o310 P), (311, o311 P), (317, o317 P), (318, o318 P), (322, o322 P), (323, o323 P), (327, o327 P), (328, o328 P), (334, o334 P), (335, o335 P), (346, o346 P), (347, o347 P), (385, o385 P), (386, o386 P), (392, o392 P), (393, o393 P), (434, o434 P), (435, o435 P), (441, o441 P), (442, o442 P), (448, o448 P), (449, o449 P), (455, o455 P), (456, o456 P), (462, o462 P), (463, o463 P), (488, o488 P), (489, o489 P), (493, o493 P), (494, o494 P), (549, o549 P), (550, o550 P), (556, o556 P), (557, o557 P), (563, o563 P), (564, o564 P), (577, o577 P), (578, o578 P), (582, o582 P), (583, o583 P), (589, o589 P), (590, o590 P), (591, o591 P), (595, o595 P), (596, o596 P), (602, o602 P), (603, o603 P), (609, o609 P), (610, o610 P), (614, o614 P), (615, o615 P), (619, o619 P), (620, o620 P), (626, o626 P), (627, o627 P), (631, o631 P), (632, o632 P), (636, o636 P), (637, o637 P), (643, o643 P), (644, o644 P), (648, o648 P), (649, o649 P), (655, o655 P), (656, o656 P), (662, o662 P), (663, o663 P), (669, o669 P), (670, o670 P), (676, o676 P), (677, o677 P), (683, o683 P), (684, o684 P), (690, o690 P), (691, o691 P), (695, o695 P), (696, o696 P), (700, o700 P), (701, o701 P), (705, o705 P), (706, o706 P), (710, o710 P), (711, o711 P)]
noncomputable def as0 : List Addr := [3, 20, 21, 30, 31, 44, 45, 79, 80, 86, 87, 93, 94, 100, 101, 107, 108, 114, 115, 121, 122, 135, 136, 142, 143, 149, 150, 156, 157, 161, 162, 163, 169, 170, 225, 226, 228, 229, 241, 247, 248, 257, 258, 282, 283, 289, 290, 303, 304, 310, 311, 317, 318, 322, 323, 327, 328, 334, 335, 346, 347, 385, 386, 392, 393, 434, 435, 441, 442, 448, 449, 455, 456, 462, 463, 488, 489, 493, 494, 549, 550, 556, 557, 563, 564, 577, 578, 582, 583, 589, 590, 591, 595, 596, 602, 603, 609, 610, 614, 615, 619, 620, 626, 627, 631, 632, 636, 637, 643, 644, 648, 649, 655, 656, 662, 663, 669, 670, 676, 677, 683, 684, 690, 691, 695, 696, 700, 701, 705, 706, 710, 711]
noncomputable def hook : Hook := kHook K0 as0 (fun _ => by kernel_rfl)
noncomputable abbrev xt : Shared → Bool := fun s => xlAt qv [] s && recOk (RowW.records PySem.Challenge.rw_nz0511_01.row.toRowW) s
theorem lookA (w : World) (os : OsState) : (staticsOk (importedModules pw.main.body) (boot_heap w.params) (hf w.params) && namesBound pw (hf w.params) && gensDone (sf w os) && laidKept (boot_heap w.params) (hf w.params)) = true := by kernel_rfl
theorem lookK (w : World) (os : OsState) : Hook.obs hook (sf w os) = Hook.val hook w := by kernel_rfl
theorem lookO (w : World) (os : OsState) : openSeen qv loose (importedModules pw.main.body) xt true (sf w os) = openGood qv loose := by kernel_rfl
end
end Mine
namespace Mine
noncomputable section
theorem left0 : LeftO pw qv loose xt (Hook.obs hook) (Hook.val hook) NN :=
  LeftO.of_pieces open0 size0 runTop (by decide) fun w => funext fun os => by
    rw [show (staticsOk (importedModules pw.main.body) (boot_heap w.params) (hf w.params) && namesBound pw (hf w.params) && gensDone ⟨hf w.params, #[], ⟨0, 0, 0, 0⟩, 1119, os⟩ && laidKept (boot_heap w.params) (hf w.params)) = true from lookA w os,
      show openSeen qv loose (importedModules pw.main.body) xt true ⟨hf w.params, #[], ⟨0, 0, 0, 0⟩, 1119, os⟩ = openGood qv loose from lookO w os, show Hook.obs hook ⟨hf w.params, #[], ⟨0, 0, 0, 0⟩, 1119, os⟩ = Hook.val hook w from lookK w os]
-- what is asked of the law's own text, one conjunct at a time
theorem and_of {a b : Bool} (h1 : a = true) (h2 : b = true) : (a && b) = true := by rw [h1, h2]; rfl
theorem not_of {a : Bool} (h : a = true) : (!a) = false := by rw [h]; rfl
theorem road_app {k : Look} : ∀ (a b : List Stmt), noRoadLSs k a = true → noRoadLSs k b = true → noRoadLSs k (a ++ b) = true
  | [], b, _, h => h
  | s :: r, b, h1, h2 => by
    have e : ∀ u : List Stmt, noRoadLSs k (s :: u) = (noRoadLS k s && noRoadLSs k u) := fun _ => rfl
    rw [e, Bool.and_eq_true] at h1
    rw [List.cons_append, e, Bool.and_eq_true]
    exact ⟨h1.1, road_app r b h1.2 h2⟩
theorem road_of {k k' : Look} {b : List Stmt} (n : Nat) (e : k' = k) (h1 : noRoadLSs k (b.take n) = true) (h2 : noRoadLSs k (b.drop n) = true) : noRoadLSs k' b = true := by
  have := road_app _ _ h1 h2
  rw [e]
  rwa [List.take_append_drop] at this
theorem filt0 {f : Str → Bool} {x y z : Str} (h1 : f x = false) (h2 : f y = false) (h3 : f z = false) : [x, y, z].filter f = [] := by
  simp only [List.filter_cons, h1, h2, h3, Bool.false_eq_true, if_false, List.filter_nil]
theorem look_of {s : Bool} {b : List Str} (h1 : s = false) (h2 : b = []) : ({ strict := s, foot := none, bare := b } : Look) = { strict := false, foot := none, bare := [] } := by rw [h1, h2]
open PySem.TablesWhole (Alg wSs wS wModule gather holds noTwice)
theorem wSs_app {A : Alg Bool} (hb : ∀ x y, A.both x y = (x && y)) (hu : A.unit = true) {top : Scope} {cx : TablesWhole.Ctx} {sc : Scope} : ∀ a b : List Stmt, wSs A top cx sc a = true → wSs A top cx sc b = true → wSs A top cx sc (a ++ b) = true
  | [], b, _, h => h
  | s :: r, b, h1, h2 => by
    have e : ∀ u : List Stmt, wSs A top cx sc (s :: u) = A.both (wS A top cx sc s) (wSs A top cx sc u) := fun _ => rfl
    rw [e, hb, Bool.and_eq_true] at h1
    rw [List.cons_append, e, hb, Bool.and_eq_true]
    exact ⟨h1.1, wSs_app hb hu r b h1.2 h2⟩
theorem wMod {A : Alg Bool} {m : Module} {g : List Str} (n : Nat) (hb : ∀ x y, A.both x y = (x && y)) (hu : A.unit = true) (ht : wSs gather m.scope ⟨m.scope, [], [], [], none⟩ m.scope m.body = g)
    (h1 : A.enter m.scope = true) (h2 : ∀ x y, A.check x m.scope y (noTwice m.scope) = true)
    (h3 : wSs A m.scope ⟨m.scope, [], g, [], none⟩ m.scope (m.body.take n) = true) (h4 : wSs A m.scope ⟨m.scope, [], g, [], none⟩ m.scope (m.body.drop n) = true) : wModule A m = true := by
  have h5 := wSs_app hb hu _ _ h3 h4
  rw [List.take_append_drop] at h5
  unfold wModule
  rw [ht]
  simp only [Alg.all, List.foldr_cons, List.foldr_nil, hb, hu, h1, h2, h5, Bool.and_self]
theorem told0 : wSs gather pw.main.scope ⟨pw.main.scope, [], [], [], none⟩ pw.main.scope pw.main.body = [] := by kernel_rfl
theorem tw3 : noTwice pw.main.scope = true := by kernel_rfl
-- what stands on the two sides of an equation, got by unfolding it once
def algR {b : Bool} {A : Alg Bool} {m : Module} (_ : b = wModule A m) : Alg Bool := A
def sideL {a b c : Bool} (_ : c = (a && b)) : Bool := a
def sideR {a b c : Bool} (_ : c = (a && b)) : Bool := b
def okR' {b : Bool} {p : Program} {body : List Stmt} {ok : Scope → Str → Bool} (_ : b = !namesMeet p body ok) : Scope → Str → Bool := ok
theorem of_sides {a b c : Bool} (e : c = (a && b)) (h1 : sideL e = true) (h2 : sideR e = true) : c = true := e.trans (and_of h1 h2)
abbrev cut1 (A : Alg Bool) : Bool := wSs A pw.main.scope ⟨pw.main.scope, [], [], [], none⟩ pw.main.scope (pw.main.body.take 80)
abbrev cut2 (A : Alg Bool) : Bool := wSs A pw.main.scope ⟨pw.main.scope, [], [], [], none⟩ pw.main.scope (pw.main.body.drop 80)
theorem tw1 : cut1 holds = true := by kernel_rfl
theorem tw2 : cut2 holds = true := by kernel_rfl
theorem whole_of {p : Program} (h : wModule holds p.main = true) (h1 : p.modules = []) (h2 : p.parses = []) (h3 : p.harvested = []) : p.tablesWhole = true := by
  unfold Program.tablesWhole PySem.TablesWhole.wProgram
  rw [h1, h2, h3, h]; rfl
theorem whole0 : pw.tablesWhole = true := whole_of (wMod 80 (fun _ _ => rfl) rfl told0 rfl (fun _ _ => tw3) tw1 tw2) rfl rfl rfl
abbrev mA (ok : Scope → Str → Bool) : Alg Bool := algR (rfl : namesMeet pw pw.main.body ok = wModule _ _)
theorem meet_of {ok : Scope → Str → Bool} (h1 : cut1 (mA ok) = true) (h2 : cut2 (mA ok) = true) : namesMeet pw pw.main.body ok = true :=
  wMod (A := mA ok) (m := pw.main) 80 (fun _ _ => rfl) rfl told0 rfl (fun _ _ => rfl) h1 h2
abbrev rOk (x : Str) : Scope → Str → Bool := okR' (rfl : readsOut pw pw.main.body x = !namesMeet _ _ _)
theorem reads_of {x : Str} (h1 : cut1 (mA (rOk x)) = true) (h2 : cut2 (mA (rOk x)) = true) : readsOut pw pw.main.body x = false := not_of (meet_of h1 h2)
theorem ro1a : cut1 (mA (rOk "vars")) = true := by kernel_rfl
theorem ro1b : cut2 (mA (rOk "vars")) = true := by kernel_rfl
theorem ro2a : cut1 (mA (rOk "dir")) = true := by kernel_rfl
theorem ro2b : cut2 (mA (rOk "dir")) = true := by kernel_rfl
theorem ro3a : cut1 (mA (rOk "locals")) = true := by kernel_rfl
theorem ro3b : cut2 (mA (rOk "locals")) = true := by kernel_rfl
abbrev nA : Alg Bool := algR (rfl : namesResolve pw = wModule _ _)
theorem lo2a : cut1 nA = true := by kernel_rfl
theorem lo2b : cut2 nA = true := by kernel_rfl
theorem lo2 : namesResolve pw = true := wMod (A := nA) (m := pw.main) 80 (fun _ _ => rfl) rfl told0 rfl (fun _ _ => rfl) lo2a lo2b
theorem lo5a : cut1 (mA fun _ n => attrL n) = true := by kernel_rfl
theorem lo5b : cut2 (mA fun _ n => attrL n) = true := by kernel_rfl
abbrev lk0 : Look := { strict := false, foot := none, bare := [] }
theorem rd1 : noRoadLSs lk0 (pw.main.body.take 60) = true := by kernel_rfl
theorem rd2 : noRoadLSs lk0 (pw.main.body.drop 60) = true := by kernel_rfl
theorem lo0 : looksOpen pw = true := by
  refine and_of (and_of (and_of (and_of (and_of ?_ ?_) lo2) ?_) (road_of 60 (look_of ?_ (filt0 (reads_of ro1a ro1b) (reads_of ro2a ro2b) (reads_of ro3a ro3b))) rd1 rd2)) (meet_of lo5a lo5b)
  · kernel_rfl
  · kernel_rfl
  · kernel_rfl
  · kernel_rfl
abbrev l00 : OpenLaw := PySem.Challenge.rw_nz0511_01
theorem row1 : l00.row.wellSaid = true := by
  unfold OpenRow.wellSaid OpenRow.partSaid
  repeat' with_reducible apply and_of
  · exact lo0
  all_goals kernel_rfl
def k19 := (rfl : OpenLaw.wellSaid l00 = (_ && _))
theorem cj19 : sideR k19 = true := by kernel_rfl
def k18 := (rfl : sideL k19 = (_ && _))
theorem cj18 : sideR k18 = true := by kernel_rfl
def k17 := (rfl : sideL k18 = (_ && _))
theorem cj17 : sideR k17 = true := by kernel_rfl
def k16 := (rfl : sideL k17 = (_ && _))
theorem cj16 : sideR k16 = true := by kernel_rfl
def k15 := (rfl : sideL k16 = (_ && _))
theorem cj15 : sideR k15 = true := by kernel_rfl
def k14 := (rfl : sideL k15 = (_ && _))
theorem cj14 : sideR k14 = true := by kernel_rfl
def k13 := (rfl : sideL k14 = (_ && _))
theorem cj13 : sideR k13 = true := by kernel_rfl
def k12 := (rfl : sideL k13 = (_ && _))
theorem cj12 : sideR k12 = true := by kernel_rfl
def k11 := (rfl : sideL k12 = (_ && _))
theorem cj11 : sideR k11 = true := by kernel_rfl
def k10 := (rfl : sideL k11 = (_ && _))
theorem cj10 : sideR k10 = true := by kernel_rfl
def k9 := (rfl : sideL k10 = (_ && _))
theorem cj9 : sideR k9 = true := by kernel_rfl
def k8 := (rfl : sideL k9 = (_ && _))
theorem cj8 : sideR k8 = true := by kernel_rfl
def k7 := (rfl : sideL k8 = (_ && _))
theorem cj7 : sideR k7 = true := by kernel_rfl
def k6 := (rfl : sideL k7 = (_ && _))
theorem cj6 : sideR k6 = true := by kernel_rfl
def k5 := (rfl : sideL k6 = (_ && _))
theorem cj5 : sideR k5 = true := by kernel_rfl
def k4 := (rfl : sideL k5 = (_ && _))
theorem cj4 : sideR k4 = true := by kernel_rfl
def k3 := (rfl : sideL k4 = (_ && _))
theorem cj3 : sideR k3 = true := by kernel_rfl
def k2 := (rfl : sideL k3 = (_ && _))
theorem cj2 : sideR k2 = true := by kernel_rfl
theorem said0 : OpenLaw.wellSaid PySem.Challenge.rw_nz0511_01 = true := of_sides k19 (of_sides k18 (of_sides k17 (of_sides k16 (of_sides k15 (of_sides k14 (of_sides k13 (of_sides k12 (of_sides k11 (of_sides k10 (of_sides k9 (of_sides k8 (of_sides k7 (of_sides k6 (of_sides k5 (of_sides k4 (of_sides k3 (of_sides k2 (row1) cj2) cj3) cj4) cj5) cj6) cj7) cj8) cj9) cj10) cj11) cj12) cj13) cj14) cj15) cj16) cj17) cj18) cj19
end
end Mine
namespace Mine
noncomputable section
abbrev row0 : OpenRow := PySem.Challenge.rw_nz0511_01.row
theorem prom0 : row0.toRowW.promised := by w_witness2
def sPos : Stmt → Pos
  | .FunctionDef _ _ _ _ _ _ _ _ _ p => p
  | _ => ⟨0, 0, 0, 0⟩
def lawD : DefRec := ⟨Str.ofString "law", hP 110, sB (nth bd 110), hS 110, sPos (nth bd 110)⟩
theorem def0 : defOf qv row0.name = some (lawD, []) := by kernel_rfl
theorem the0 : row0.prog.theDef row0.name = some (lawD.params, lawD.body, lawD.scope) := by kernel_rfl
theorem kw0 : kwWritten? lawD.params.kwonlyargs lawD.params.kw_defaults = some [] := by kernel_rfl
theorem ok0 : (chainsOk qv && opensWell row0.prog && (frees row0.toRowW && row0.within.isEmpty)) = true := by decide +kernel
theorem bare0 : row0.prog.bare := ⟨rfl, rfl, rfl, rfl, rfl, whole0⟩
theorem holds0 (call : WalkO qv loose (XL qv []) (Hook.says hook) row0.toRowW lawD [] fun f vs => PySem.call f vs) : PySem.Challenge.rw_nz0511_01.Holds :=
  holds_law said0 fun said => holds_open (q := qv) (loose := loose) (Xt := xt) (XP := XL qv []) (Yf := Hook.obs hook) (Ya := Hook.val hook) (YP := Hook.says hook) (N := NN) left0 (Hook.of hook) (Hook.keeps hook)
    (fun s e => xl_of s (Bool.and_eq_true_iff.mp e).1) XL.keeps def0 the0 kw0 (fun s e => recFacts_of (Bool.and_eq_true_iff.mp e).2) (by kernel_rfl) said ok0 bare0 prom0 call
end
end Mine
namespace Mine

/-! heaps: one within another; one but for some places; one with places hidden -/
noncomputable def Le (h h' : Heap) : Prop := ∀ b o, h.get? b = some o → h'.get? b = some o
noncomputable def LeX (X : List Addr) (h h' : Heap) : Prop := ∀ b o, b ∉ X → h.get? b = some o → h'.get? b = some o
theorem Le.refl (h : Heap) : Le h h := fun _ _ e => e
theorem Le.trans {a b c : Heap} (x : Le a b) (y : Le b c) : Le a c := fun k o e => y k o (x k o e)
theorem LeX.refl (X : List Addr) (h : Heap) : LeX X h h := fun _ _ _ e => e
theorem LeX.trans {X : List Addr} {a b c : Heap} (x : LeX X a b) (y : LeX X b c) : LeX X a c := fun k o n e => y k o n (x k o n e)
theorem LeX.mono {X Y : List Addr} {a b : Heap} (x : LeX X a b) (s : ∀ z ∈ X, z ∈ Y) : LeX Y a b := fun k o n e => x k o (fun m => n (s k m)) e
theorem Le.x {X : List Addr} {a b : Heap} (x : Le a b) : LeX X a b := fun k o _ e => x k o e
theorem LeX.le {a b : Heap} (x : LeX [] a b) : Le a b := fun k o e => x k o (List.not_mem_nil) e
theorem Le.push (h : Heap) (o : Obj) : Le h (h.push o) := fun _ _ e => Heap.get?_push_of_some o e
noncomputable abbrev hid (h : Heap) (X : List Addr) : Heap := hideAll h X
theorem hid_get {h : Heap} {X : List Addr} {b : Addr} {o : Obj} : (hid h X).get? b = some o ↔ h.get? b = some o ∧ b ∉ X :=
  ⟨fun e => ⟨of_hideAll X e, fun m => by rw [hideAll_none X m] at e; cases e⟩, fun ⟨e, n⟩ => hideAll_get X e n⟩
theorem hid_le (h : Heap) (X : List Addr) : Le (hid h X) h := fun _ _ e => (hid_get.mp e).1
theorem hid_mono' {h h' : Heap} {X X' Y : List Addr} (x : LeX Y h h') (s : ∀ z ∈ Y, z ∈ X ∨ h.get? z = none) (t : ∀ z ∈ X', z ∈ X ∨ h.get? z = none) : Le (hid h X) (hid h' X') :=
  fun b o e => let ⟨a, n⟩ := hid_get.mp e; hid_get.mpr ⟨x b o (fun m => (s b m).elim n fun q => by rw [a] at q; cases q) a, fun m => (t b m).elim n fun q => by rw [a] at q; cases q⟩
theorem hid_mono {h h' : Heap} {X X' Y : List Addr} (x : LeX Y h h') (s : ∀ z ∈ Y, z ∈ X) (t : ∀ z ∈ X', z ∈ X) : Le (hid h X) (hid h' X') := hid_mono' x (fun z m => .inl (s z m)) fun z m => .inl (t z m)
theorem fresh_none {h : Heap} {a : Addr} (e : h.objs.size ≤ a) : h.get? a = none := by
  cases q : h.get? a with
  | none => rfl
  | some o => exact absurd (Heap.lt_size q) (Nat.not_lt.mpr e)
theorem hid_le_of {h h' : Heap} {X : List Addr} (x : Le h h') : Le (hid h X) (hid h' X) := hid_mono (Y := []) x.x (fun _ m => (List.not_mem_nil m).elim) fun _ m => m

/-! what is asked of the statement's program: its written part, its two name spaces -/
structure Cx where
  prog : Program
  w : World
  K : Frag
structure Wd (c : Cx) (H : Heap) : Prop where
  k : c.K.In H
  g : ∃ mg, H.Ns mainGlobals mg
  b : ∃ mb, H.Ns builtinsNs mb ∧ ∀ x : Str, x ≠ "__name__" → mb x = bootBuiltins x
  nl : H.NoLimit
theorem Wd.keeps {c : Cx} {H H' : Heap} (x : Wd c H) (k : Le H H') : Wd c H' :=
  ⟨x.k.keeps k, x.g.imp fun _ g => g.keeps k, x.b.imp fun _ g => ⟨g.1.keeps k, g.2⟩, x.nl.keeps k⟩

/-! what a value stands for -/
inductive D where
  | dat (d : PyData)
  | val (v : Value)
  | rng (n : Nat)
  | lst (l : List D)
  | tup (l : List D)
  | obj (C dx : Addr)
  | inst (C : Addr) (fs : List (Str × D))
  | dct (fs : List (Str × D))
theorem isList_keeps {h h' : Heap} {a : Addr} {vs : Array Value} (k : Le h h') (x : h.IsList a vs) : h'.IsList a vs := let ⟨o, e, r⟩ := x; ⟨o, k _ _ e, r⟩
noncomputable abbrev lob (vs : List Value) (n : Nat) : Obj := { cls := .type "list", data := .seq vs.toArray n }
noncomputable abbrev tob (vs : List Value) (n : Nat) : Obj := { cls := .type "tuple", data := .seq vs.toArray n }
noncomputable def LL (h : Heap) (a : Addr) (vs : List Value) : Prop := ∃ o, h.get? a = some o ∧ ∃ n, o = lob vs n
noncomputable def TT (h : Heap) (a : Addr) (vs : List Value) : Prop := ∃ o, h.get? a = some o ∧ ∃ n, o = tob vs n
theorem LL.keeps {h h' : Heap} {a : Addr} {vs : List Value} (k : Le h h') (x : LL h a vs) : LL h' a vs := let ⟨o, e, r⟩ := x; ⟨o, k _ _ e, r⟩
theorem TT.keeps {h h' : Heap} {a : Addr} {vs : List Value} (k : Le h h') (x : TT h a vs) : TT h' a vs := let ⟨o, e, r⟩ := x; ⟨o, k _ _ e, r⟩
theorem LL.is {h : Heap} {a : Addr} {vs : List Value} (x : LL h a vs) : h.IsList a vs.toArray := by obtain ⟨o, e, n, rfl⟩ := x; exact ⟨_, e, rfl, n, rfl⟩
theorem TT.is {h : Heap} {a : Addr} {vs : List Value} (x : TT h a vs) : IsTup h a vs.toArray := by obtain ⟨o, e, n, rfl⟩ := x; exact ⟨_, e, rfl, n, rfl⟩
mutual
inductive Rep (P : Params) (h : Heap) : D → Value → Prop
  | dat {d : PyData} {v : Value} {as : List Addr} : Reads h v d as → Rep P h (.dat d) v
  | val (v : Value) : Rep P h (.val v) v
  | rng {n : Nat} {a : Addr} {t u x : Tok} : IsRange h a 0 n 1 t u x → Rep P h (.rng n) (.ref a)
  | lst {a : Addr} {vs : List Value} {l : List D} : LL h a vs → RepL P h l vs → Rep P h (.lst l) (.ref a)
  | tup {a : Addr} {vs : List Value} {l : List D} : TT h a vs → RepL P h l vs → Rep P h (.tup l) (.ref a)
  | obj {C dx x : Addr} : h.get? x = some (instObj C dx) → Rep P h (.obj C dx) (.ref x)
  | inst {C dx x : Addr} {fs : List (Str × D)} {es : List DictEntry} {n : Nat} : h.get? x = some (instObj C dx) → h.get? dx = some (dictOf es n) → RepE P h fs es → Rep P h (.inst C fs) (.ref x)
  | dct {a : Addr} {fs : List (Str × D)} {es : List DictEntry} {n : Nat} : (a == sysModules) = false → h.get? a = some (dictOf es n) → RepE P h fs es → Rep P h (.dct fs) (.ref a)
inductive RepL (P : Params) (h : Heap) : List D → List Value → Prop
  | nil : RepL P h [] []
  | cons {d : D} {v : Value} {ds : List D} {vs : List Value} : Rep P h d v → RepL P h ds vs → RepL P h (d :: ds) (v :: vs)
inductive RepE (P : Params) (h : Heap) : List (Str × D) → List DictEntry → Prop
  | nil : RepE P h [] []
  | cons {k : Str} {d : D} {t : Tok} {v : Value} {fs : List (Str × D)} {es : List DictEntry} : Rep P h d v → RepE P h fs es → RepE P h ((k, d) :: fs) (⟨PyData.keyHash P k, .str k t, v⟩ :: es)
end
section
variable {P : Params} {h h' : Heap}
mutual
theorem Rep.keeps (k : Le h h') : ∀ {d : D} {v : Value}, Rep P h d v → Rep P h' d v
  | _, _, .dat r => .dat (Reads.keeps k r)
  | _, _, .val v => .val v
  | _, _, .rng r => .rng (k _ _ r)
  | _, _, .lst a b => .lst (a.keeps k) (b.keeps k)
  | _, _, .tup a b => .tup (a.keeps k) (b.keeps k)
  | _, _, .obj a => .obj (k _ _ a)
  | _, _, .inst a b e => .inst (k _ _ a) (k _ _ b) (e.keeps k)
  | _, _, .dct z a e => .dct z (k _ _ a) (e.keeps k)
theorem RepL.keeps (k : Le h h') : ∀ {d : List D} {v : List Value}, RepL P h d v → RepL P h' d v
  | _, _, .nil => .nil
  | _, _, .cons a b => .cons (a.keeps k) (b.keeps k)
theorem RepE.keeps (k : Le h h') : ∀ {d : List (Str × D)} {v : List DictEntry}, RepE P h d v → RepE P h' d v
  | _, _, .nil => .nil
  | _, _, .cons a b => .cons (a.keeps k) (b.keeps k)
end
theorem RepL.length : ∀ {d : List D} {v : List Value}, RepL P h d v → d.length = v.length
  | _, _, .nil => rfl
  | _, _, .cons _ b => by simp [b.length]
theorem RepL.get : ∀ {ds : List D} {vs : List Value} {i : Nat} {d : D}, RepL P h ds vs → ds[i]? = some d → ∃ v, vs[i]? = some v ∧ Rep P h d v
  | _, _, i, d, .nil, e => by simp at e
  | _, _, 0, d, .cons a b, e => ⟨_, rfl, by simp at e; exact e ▸ a⟩
  | _, _, i + 1, d, .cons a b, e => by simpa using b.get (i := i) (by simpa using e)
theorem RepL.app : ∀ {a b : List D} {u v : List Value}, RepL P h a u → RepL P h b v → RepL P h (a ++ b) (u ++ v)
  | _, _, _, _, .nil, y => y
  | _, _, _, _, .cons p q, y => .cons p (q.app y)
theorem RepL.snoc {a : List D} {d : D} {u : List Value} {v : Value} (x : RepL P h a u) (y : Rep P h d v) : RepL P h (a ++ [d]) (u ++ [v]) := x.app (.cons y .nil)
theorem RepL.take : ∀ {a : List D} {u : List Value} (k : Nat), RepL P h a u → RepL P h (a.take k) (u.take k)
  | _, _, 0, _ => by simpa using RepL.nil
  | _, _, k + 1, .nil => by simpa using RepL.nil
  | _, _, k + 1, .cons p q => by simpa using RepL.cons p (q.take k)
theorem RepL.drop : ∀ {a : List D} {u : List Value} (k : Nat), RepL P h a u → RepL P h (a.drop k) (u.drop k)
  | _, _, 0, r => by simpa using r
  | _, _, k + 1, .nil => by simpa using RepL.nil
  | _, _, k + 1, .cons p q => by simpa using q.drop k
theorem RepL.rev {a : List D} {u : List Value} : RepL P h a u → RepL P h a.reverse u.reverse
  | .nil => .nil
  | .cons p q => by simpa using q.rev.snoc p
-- data
theorem repL_dat : ∀ {vs : List Value} {xs : List PyData} {as : List Addr}, ReadsAll h vs xs as → RepL P h (xs.map .dat) vs
  | _, _, _, .nil => .nil
  | _, _, _, .cons a b => .cons (.dat a) (repL_dat b)
theorem readsAll_of : ∀ {xs : List PyData} {vs : List Value}, RepL P h (xs.map .dat) vs → ∃ as, ReadsAll h vs xs as
  | [], _, .nil => ⟨_, .nil⟩
  | _ :: _, _, .cons (.dat a) b => let ⟨_, q⟩ := readsAll_of b; ⟨_, .cons a q⟩
theorem rep_list {xs : List PyData} {v : Value} (r : Rep P h (.lst (xs.map .dat)) v) : Rep P h (.dat (.list xs)) v := by
  cases r with
  | lst a b =>
    obtain ⟨as, q⟩ := readsAll_of b
    obtain ⟨o, e, c, n, d⟩ := a.is
    exact .dat (.list e c d (by simpa using q))
theorem rep_tuple {xs : List PyData} {v : Value} (r : Rep P h (.tup (xs.map .dat)) v) : Rep P h (.dat (.tuple xs)) v := by
  cases r with
  | tup a b =>
    obtain ⟨as, q⟩ := readsAll_of b
    obtain ⟨o, e, c, n, d⟩ := a.is
    exact .dat (.tuple e c d (by simpa using q))
theorem rep_none {v : Value} (r : Rep P h (.dat .none) v) : v = .none := by cases r with | dat a => cases a; rfl
theorem rep_bool {b : Bool} {v : Value} (r : Rep P h (.dat (.bool b)) v) : v = .bool b := by cases r with | dat a => cases a; rfl
theorem rep_int {i : Int} {v : Value} (r : Rep P h (.dat (.int i)) v) : ∃ t, v = .int i t := by cases r with | dat a => cases a; exact ⟨_, rfl⟩
theorem rep_str {x : Str} {v : Value} (r : Rep P h (.dat (.str x)) v) : ∃ t, v = .str x t := by cases r with | dat a => cases a; exact ⟨_, rfl⟩
theorem rep_val {x v : Value} (r : Rep P h (.val x) v) : v = x := by cases r; rfl
end
noncomputable abbrev dN : D := .dat .none
noncomputable abbrev dB (b : Bool) : D := .dat (.bool b)
noncomputable abbrev dI (i : Int) : D := .dat (.int i)
noncomputable abbrev dS (x : Str) : D := .dat (.str x)
noncomputable abbrev dL (xs : List PyData) : D := .dat (.list xs)
noncomputable abbrev dT (xs : List PyData) : D := .dat (.tuple xs)

/-! what the call at hand may turn -/
inductive MO where
  | lst (l : List D)
  | dct (l : List (Str × D))
  | tab (l : List (Int × D))
noncomputable abbrev Mu := List (Addr × MO)
noncomputable abbrev addrs (μ : Mu) : List Addr := μ.map (·.1)
inductive RepI (P : Params) (h : Heap) : List (Int × D) → List DictEntry → Prop
  | nil : RepI P h [] []
  | cons {k : Int} {d : D} {t : Tok} {v : Value} {fs : List (Int × D)} {es : List DictEntry} : Rep P h d v → RepI P h fs es → RepI P h ((k, d) :: fs) (⟨PySem.hashInt k, .int k t, v⟩ :: es)
noncomputable def MRep (P : Params) (H h : Heap) (a : Addr) : MO → Prop
  | .lst l => ∃ vs, LL h a vs ∧ RepL P H l vs
  | .dct l => ∃ es n, h.get? a = some (dictOf es n) ∧ RepE P H l es ∧ (a == sysModules) = false
  | .tab l => ∃ es n, h.get? a = some (dictOf es n) ∧ RepI P H l es ∧ (a == sysModules) = false
theorem RepI.keeps {P : Params} {h h' : Heap} (k : Le h h') : ∀ {d : List (Int × D)} {v : List DictEntry}, RepI P h d v → RepI P h' d v
  | _, _, .nil => .nil
  | _, _, .cons a b => .cons (a.keeps k) (b.keeps k)
theorem MRep.keeps {P : Params} {H H' h h' : Heap} {a : Addr} {m : MO} (k : Le H H') (j : ∀ o, h.get? a = some o → h'.get? a = some o) (x : MRep P H h a m) : MRep P H' h' a m := by
  cases m with
  | lst l => obtain ⟨vs, ⟨o, e, r⟩, b⟩ := x; exact ⟨vs, ⟨o, j _ e, r⟩, b.keeps k⟩
  | dct l => obtain ⟨es, n, e, b, z⟩ := x; exact ⟨es, n, j _ e, b.keeps k, z⟩
  | tab l => obtain ⟨es, n, e, b, z⟩ := x; exact ⟨es, n, j _ e, b.keeps k, z⟩
/-! a def's names; its frame -/
structure Fi where
  cs : Scope
  ks : List Str
noncomputable def kindsOk (f : Fi) : Bool := f.ks.all fun x => f.cs.names.lookup x == some .local || f.cs.names.lookup x == some .cell
structure Fi.Ok (f : Fi) : Prop where
  fn : f.cs.kind = .function
  nd : f.ks.Nodup
  ki : kindsOk f = true
  nn : (f.cs.names.map (·.1)).Nodup
structure EOk (f : Fi) (E : Env) : Prop where
  sc : E.scope = f.cs
  gl : E.globals = mainGlobals
  bu : E.builtins = builtinsNs
  cx : ∀ x ∈ f.ks, f.cs.names.lookup x = some .cell → ∃ b, E.cells.lookup x = some b
noncomputable abbrev own (E : Env) : List Addr := E.locals :: E.cells.map (·.2)
noncomputable abbrev T (E : Env) (μ : Mu) (hs : List Addr) : List Addr := own E ++ addrs μ ++ hs
noncomputable abbrev Ga := List (Option D)
structure Sat (c : Cx) (f : Fi) (E : Env) (hs : List Addr) (Γ : Ga) (μ : Mu) (h : Heap) : Prop where
  nd : (own E ++ addrs μ).Nodup
  dis : ∀ a ∈ own E ++ addrs μ, a ∉ hs
  bel : ∀ a ∈ hs, ∃ o, h.get? a = some o
  wd : Wd c (hid h (T E μ hs))
  ns : ∃ m, h.Ns E.locals m ∧ ∀ (i : Nat) (x : Str) (d : D), f.ks[i]? = some x → Γ[i]? = some (some d) → f.cs.names.lookup x = some .local → ∃ v, m x = some v ∧ Rep c.w.params (hid h (T E μ hs)) d v
  cl : ∀ (i : Nat) (x : Str) (d : D), f.ks[i]? = some x → Γ[i]? = some (some d) → f.cs.names.lookup x ≠ some .local → ∃ a v, E.cells.lookup x = some a ∧ h.IsCell a (some v) ∧ Rep c.w.params (hid h (T E μ hs)) d v
  ce : ∀ p ∈ E.cells, ∃ v, h.IsCell p.2 v
  mu : ∀ p ∈ μ, MRep c.w.params (hid h (T E μ hs)) h p.1 p.2

theorem addrs_mem {μ : Mu} {p : Addr × MO} (h : p ∈ μ) : p.1 ∈ addrs μ := List.mem_map_of_mem h
section
variable {c : Cx} {f : Fi} {E : Env} {hs : List Addr} {Γ : Ga} {μ μ' : Mu} {h h' : Heap}
/-- all that stood below stands, the turned ones anew -/
theorem Sat.step (S : Sat c f E hs Γ μ h) (k : LeX (addrs μ) h h') (ad : addrs μ' = addrs μ) (mu : ∀ p ∈ μ', MRep c.w.params (hid h' (T E μ' hs)) h' p.1 p.2) : Sat c f E hs Γ μ' h' := by
  have eT : T E μ' hs = T E μ hs := by simp only [T, ad]
  have kk : Le (hid h (T E μ hs)) (hid h' (T E μ hs)) := hid_mono k (fun z m => by simp only [T, List.mem_append]; exact .inl (.inr m)) fun _ m => m
  have ow : ∀ a ∈ own E, ∀ o, h.get? a = some o → h'.get? a = some o := fun a ha o e => k a o (fun m => by
    have := (List.nodup_append.mp S.nd).2.2
    exact this a ha a m rfl) e
  refine ⟨by rw [ad]; exact S.nd, by rw [ad]; exact S.dis, fun a ha => (S.bel a ha).imp fun o e => k a o (fun m => S.dis a (List.mem_append_right _ m) ha) e, by rw [eT]; exact S.wd.keeps kk, ?_, ?_, ?_, mu⟩
  · obtain ⟨m, ⟨o, es, ep, e, r⟩, q⟩ := S.ns
    refine ⟨m, ⟨o, es, ep, ow _ (List.mem_cons_self ..) _ e, r⟩, fun i x d a b g => ?_⟩
    obtain ⟨v, p, t⟩ := q i x d a b g
    exact ⟨v, p, by rw [eT]; exact t.keeps kk⟩
  · intro i x d a b g
    obtain ⟨z, v, p, ⟨o, e, t⟩, u⟩ := S.cl i x d a b g
    exact ⟨z, v, p, ⟨o, ow z (List.mem_cons_of_mem _ (List.mem_map_of_mem (mem_of_lookup p))) _ e, t⟩, by rw [eT]; exact u.keeps kk⟩
  · intro p hp
    obtain ⟨v, o, e, t⟩ := S.ce p hp
    exact ⟨v, o, ow _ (List.mem_cons_of_mem _ (List.mem_map_of_mem hp)) _ e, t⟩
theorem Sat.pure (S : Sat c f E hs Γ μ h) (k : Le h h') : Sat c f E hs Γ μ h' :=
  S.step k.x rfl fun p hp => (S.mu p hp).keeps (hid_le_of k) fun o e => k _ _ e
end
end Mine
namespace Mine

structure Room (A : Around) (n : Nat) : Prop where
  hd : A.handled = none
  dp : A.depth + n < 900
  un : A.units + 16 * n + 200 < cLine
theorem Room.le {A : Around} {n m : Nat} (r : Room A n) (h : m ≤ n) : Room A m := ⟨r.hd, by have := r.dp; omega, by have := r.un; omega⟩
theorem Room.deeper {A : Around} {n : Nat} {E : Env} (r : Room A (n + 1)) : Room (A.deeper E) n := ⟨r.hd, by have := r.dp; show A.depth + 1 + n < 900; omega, by have := r.un; show A.units + 3 + 16 * n + 200 < cLine; omega⟩
theorem Room.in1 {A : Around} {n : Nat} (r : Room A (n + 1)) : Room A.in1 n := ⟨r.hd, by have := r.dp; show A.depth + n < 900; omega, by have := r.un; show A.units + 1 + 16 * n + 200 < cLine; omega⟩
theorem Room.cl {A : Around} {n : Nat} (r : Room A n) : A.units + 64 < cLine := by have := r.un; omega
theorem Room.cl0 {A : Around} {n : Nat} (r : Room A n) : A.units < cLine := by have := r.un; omega
theorem Room.dep {A : Around} {n : Nat} (r : Room A n) : A.depth < recursionLimit := by have := r.dp; show A.depth < 1000; omega

noncomputable abbrev Pr (c : Cx) : Params := c.w.params
noncomputable abbrev Md (c : Cx) : Model := model c.prog c.w

structure Ev (c : Cx) (f : Fi) (n : Nat) (Γ : Ga) (μ : Mu) (e : Expr) (d : D) (μ' : Mu) : Prop where
  ad : addrs μ' = addrs μ
  run : ∀ (A : Around) (E : Env) (hs : List Addr) (s : Shared) (Q : Value → Shared → Prop) (Er : Value → Shared → Prop), f.Ok → Room A n → EOk f E → Sat c f E hs Γ μ s.heap →
    (∀ v h' tk, LeX (addrs μ) s.heap h' → Sat c f E hs Γ μ' h' → Rep (Pr c) (hid h' (T E μ hs)) d v → Q v { s with heap := h', toks := tk }) →
    wpAny (Md c) A (eval e E) Q Er s
structure Ts (c : Cx) (f : Fi) (n : Nat) (Γ : Ga) (μ : Mu) (e : Expr) (b : Bool) (μ' : Mu) : Prop where
  ad : addrs μ' = addrs μ
  run : ∀ (A : Around) (E : Env) (hs : List Addr) (s : Shared) (Q : Bool → Shared → Prop) (Er : Value → Shared → Prop), f.Ok → Room A n → EOk f E → Sat c f E hs Γ μ s.heap →
    (∀ h' tk, LeX (addrs μ) s.heap h' → Sat c f E hs Γ μ' h' → Q b { s with heap := h', toks := tk }) →
    wpAny (Md c) A (isTrue e E (eval e E)) Q Er s
noncomputable def noStar : Expr → Bool
  | .Starred .. => false
  | _ => true
structure EvL (c : Cx) (f : Fi) (n : Nat) (Γ : Ga) (μ : Mu) (es : List Expr) (ds : List D) (μ' : Mu) : Prop where
  ad : addrs μ' = addrs μ
  run : ∀ (A : Around) (E : Env) (hs : List Addr) (s : Shared) (Q : List Value → Shared → Prop) (Er : Value → Shared → Prop) (pos : Pos), f.Ok → Room A n → EOk f E → Sat c f E hs Γ μ s.heap →
    (∀ vs h' tk, LeX (addrs μ) s.heap h' → Sat c f E hs Γ μ' h' → RepL (Pr c) (hid h' (T E μ hs)) ds vs → Q vs { s with heap := h', toks := tk }) →
    wpAny (Md c) A (spliced (backTo pos (starEach es E))) Q Er s
  ns : es.all noStar = true

/-- a pure step upon values -/
noncomputable def Pu (c : Cx) (n : Nat) (t : List Value → Sem Value) (ds : List D) (d : D) : Prop :=
  ∀ (A : Around) (hs : List Addr) (s : Shared) (vs : List Value) (Q : Value → Shared → Prop) (Er : Value → Shared → Prop), Room A n → (∀ a ∈ hs, ∃ o, s.heap.get? a = some o) → Wd c (hid s.heap hs) → RepL (Pr c) (hid s.heap hs) ds vs →
    (∀ v h' tk, Le s.heap h' → Rep (Pr c) (hid h' hs) d v → Q v { s with heap := h', toks := tk }) → wpAny (Md c) A (t vs) Q Er s
noncomputable def Pu1 (c : Cx) (n : Nat) (t : Value → Sem Value) (d1 d : D) : Prop :=
  ∀ (A : Around) (hs : List Addr) (s : Shared) (v1 : Value) (Q : Value → Shared → Prop) (Er : Value → Shared → Prop), Room A n → (∀ a ∈ hs, ∃ o, s.heap.get? a = some o) → Wd c (hid s.heap hs) → Rep (Pr c) (hid s.heap hs) d1 v1 →
    (∀ v h' tk, Le s.heap h' → Rep (Pr c) (hid h' hs) d v → Q v { s with heap := h', toks := tk }) → wpAny (Md c) A (t v1) Q Er s
noncomputable def Pu2 (c : Cx) (n : Nat) (t : Value → Value → Sem Value) (d1 d2 d : D) : Prop :=
  ∀ (A : Around) (hs : List Addr) (s : Shared) (v1 v2 : Value) (Q : Value → Shared → Prop) (Er : Value → Shared → Prop), Room A n → (∀ a ∈ hs, ∃ o, s.heap.get? a = some o) → Wd c (hid s.heap hs) → Rep (Pr c) (hid s.heap hs) d1 v1 → Rep (Pr c) (hid s.heap hs) d2 v2 →
    (∀ v h' tk, Le s.heap h' → Rep (Pr c) (hid h' hs) d v → Q v { s with heap := h', toks := tk }) → wpAny (Md c) A (t v1 v2) Q Er s
/-- its truth -/
noncomputable def Tr (c : Cx) (d : D) (b : Bool) : Prop :=
  ∀ (A : Around) (H : Heap) (s : Shared) (v : Value) (Q : Bool → Shared → Prop) (Er : Value → Shared → Prop), A.units < cLine → Le H s.heap → Rep (Pr c) H d v → (∀ tk, Q b { s with toks := tk }) → wpAny (Md c) A (truthy v) Q Er s

section
variable {c : Cx} {f : Fi} {n : Nat} {Γ : Ga} {μ μ1 μ2 μ3 : Mu}

theorem Sat.belT {E : Env} {hs : List Addr} {h : Heap} (S : Sat c f E hs Γ μ h) : ∀ a ∈ T E μ hs, ∃ o, h.get? a = some o := by
  intro a ha
  rcases List.mem_append.mp ha with ha | ha
  · rcases List.mem_append.mp ha with ha | ha
    · rcases List.mem_cons.mp ha with rfl | ha
      · obtain ⟨m, ⟨o, _, _, e, _⟩, _⟩ := S.ns; exact ⟨o, e⟩
      · obtain ⟨p, hp, rfl⟩ := List.mem_map.mp ha
        obtain ⟨v, o, e, _⟩ := S.ce p hp; exact ⟨o, e⟩
    · obtain ⟨p, hp, rfl⟩ := List.mem_map.mp ha
      have := S.mu p hp
      generalize p.2 = m at this
      cases m with
      | lst l => obtain ⟨vs, ⟨o, e, r⟩, b⟩ := this; exact ⟨o, e⟩
      | dct l => obtain ⟨es, n, e, b⟩ := this; exact ⟨_, e⟩
      | tab l => obtain ⟨es, n, e, b⟩ := this; exact ⟨_, e⟩
  · exact S.bel a ha

theorem T_ad {E : Env} {hs : List Addr} (h : addrs μ1 = addrs μ) : T E μ1 hs = T E μ hs := by simp only [T, h]

/-- a step that leaves the turned things be -/
theorem Ev.pure {e : Expr} {d : D} (h : ∀ (A : Around) (E : Env) (hs : List Addr) (s : Shared) (Q : Value → Shared → Prop) (Er : Value → Shared → Prop), f.Ok → Room A n → EOk f E → Sat c f E hs Γ μ s.heap →
    (∀ v h' tk, Le s.heap h' → Rep (Pr c) (hid h' (T E μ hs)) d v → Q v { s with heap := h', toks := tk }) → wpAny (Md c) A (eval e E) Q Er s) : Ev c f n Γ μ e d μ :=
  ⟨rfl, fun A E hs s Q Er ok R O S k => h A E hs s Q Er ok R O S fun v h' tk l r => k v h' tk l.x (S.pure l) r⟩

theorem kind_ok {x : Str} {i : Nat} (ok : f.Ok) (hx : f.ks[i]? = some x) : f.cs.names.lookup x = some .local ∨ f.cs.names.lookup x = some .cell := by
  have := List.all_eq_true.mp ok.ki x (List.mem_of_getElem? hx)
  simpa only [Bool.or_eq_true, beq_iff_eq] using this

theorem ldName {E : Env} {hs : List Addr} {s : Shared} {A : Around} {x : Str} {i : Nat} {d : D} {Q : Value → Shared → Prop} {Er : Value → Shared → Prop} (ok : f.Ok) (O : EOk f E) (S : Sat c f E hs Γ μ s.heap)
    (hx : f.ks[i]? = some x) (hd : Γ[i]? = some (some d)) (hc : (x == ("__classdict__" : Str)) = false) (k : ∀ v, Rep (Pr c) (hid s.heap (T E μ hs)) d v → Q v s) : wpAny (Md c) A (loadName E x) Q Er s := by
  have hk : E.scope.kind = .function := by rw [O.sc]; exact ok.fn
  have kk : E.kindOf x = f.cs.names.lookup x := by unfold Env.kindOf; rw [O.sc]
  rcases kind_ok ok hx with e | e
  · obtain ⟨m, hn, q⟩ := S.ns
    obtain ⟨v, hv, r⟩ := q i x d hx hd e
    exact wpAny_loadName_local hk (kk.trans e) hn hv (k v r)
  · obtain ⟨a, v, hl, hc', r⟩ := S.cl i x d hx hd (by rw [e]; decide)
    exact wpAny_loadName_cell hk (kk.trans e) hl hc' (k v r)

theorem Ev.name {x : Str} {pos : Pos} {d : D} (i : Nat) (hx : f.ks[i]? = some x) (hd : Γ[i]? = some (some d)) (hb : (x == ("__debug__" : Str) || x == ("__classdict__" : Str)) = false) : Ev c f n Γ μ (.Name x pos) d μ :=
  Ev.pure fun A E hs s Q Er ok R O S k => by
    obtain ⟨h1, h2⟩ := Bool.or_eq_false_iff.mp hb
    exact wpAny_Name (ldName ok O S hx hd h2 fun v r => k v s.heap s.toks (Le.refl _) r) h1

theorem ldGlobal {E : Env} {s : Shared} {A : Around} {x : Str} {v : Value} {Q : Value → Shared → Prop} {Er : Value → Shared → Prop} (ok : f.Ok) (O : EOk f E) (W : Wd c s.heap)
    (hk : f.cs.names.lookup x = some .globalImplicit) (hv : nsIn c.K mainGlobals x = some (some v)) (k : Q v s) : wpAny (Md c) A (loadName E x) Q Er s := by
  have hk' : E.scope.kind = .function := by rw [O.sc]; exact ok.fn
  have kk : E.kindOf x = some .globalImplicit := by unfold Env.kindOf; rw [O.sc]; exact hk
  obtain ⟨mg, hg⟩ := W.g
  unfold loadName
  simp only [Env.blockKind, hk', kk, ScopeKind.isAnnotationScope, Bool.false_and, Bool.false_eq_true, if_false]
  unfold loadGlobal
  refine wpAny_bind (wpAny_nsGet (m := mg) (by rw [O.gl]; exact hg) ?_)
  rw [mg_of W.k hg hv]
  exact wpAny_pure k
theorem ldBuiltin {E : Env} {s : Shared} {A : Around} {x : Str} {v : Value} {Q : Value → Shared → Prop} {Er : Value → Shared → Prop} (ok : f.Ok) (O : EOk f E) (W : Wd c s.heap)
    (hk : f.cs.names.lookup x = some .globalImplicit) (hv : nsIn c.K mainGlobals x = some none) (hb : bootBuiltins x = some v) (hn : x ≠ "__name__") (k : Q v s) : wpAny (Md c) A (loadName E x) Q Er s := by
  have hk' : E.scope.kind = .function := by rw [O.sc]; exact ok.fn
  have kk : E.kindOf x = some .globalImplicit := by unfold Env.kindOf; rw [O.sc]; exact hk
  obtain ⟨mg, hg⟩ := W.g
  obtain ⟨mb, hb', he⟩ := W.b
  unfold loadName
  simp only [Env.blockKind, hk', kk, ScopeKind.isAnnotationScope, Bool.false_and, Bool.false_eq_true, if_false]
  unfold loadGlobal
  refine wpAny_bind (wpAny_nsGet (m := mg) (by rw [O.gl]; exact hg) ?_)
  rw [mg_none_of W.k hg hv]
  refine wpAny_bind (wpAny_nsGet (m := mb) (by rw [O.bu]; exact hb') ?_)
  rw [he x hn, hb]
  exact wpAny_pure k
theorem Ev.glob {x : Str} {pos : Pos} {v : Value} (hv : nsIn c.K mainGlobals x = some (some v)) (hk : f.cs.names.lookup x = some .globalImplicit) (hb : (x == ("__debug__" : Str)) = false) : Ev c f n Γ μ (.Name x pos) (.val v) μ :=
  Ev.pure fun A E hs s Q Er ok R O S k => wpAny_Name (ldGlobal ok O (S.wd.keeps (hid_le _ _)) hk hv (k v s.heap s.toks (Le.refl _) (.val v))) hb
theorem Ev.blt {x : Str} {pos : Pos} {v : Value} (hv : nsIn c.K mainGlobals x = some none) (hbb : bootBuiltins x = some v) (hn : x ≠ "__name__") (hk : f.cs.names.lookup x = some .globalImplicit) (hb : (x == ("__debug__" : Str)) = false) : Ev c f n Γ μ (.Name x pos) (.val v) μ :=
  Ev.pure fun A E hs s Q Er ok R O S k => wpAny_Name (ldBuiltin ok O (S.wd.keeps (hid_le _ _)) hk hv hbb hn (k v s.heap s.toks (Le.refl _) (.val v))) hb

theorem Ev.int {i : Int} {k : _} {pos : Pos} : Ev c f n Γ μ (.Constant (.int i) k pos) (dI i) μ := Ev.pure fun A E hs s Q Er ok R O S k => wpAny_Constant_int (k _ s.heap _ (Le.refl _) (.dat (.int _ _)))
theorem Ev.str {x : Str} {k : _} {pos : Pos} : Ev c f n Γ μ (.Constant (.str x) k pos) (dS x) μ := Ev.pure fun A E hs s Q Er ok R O S k => wpAny_Constant_str (k _ s.heap _ (Le.refl _) (.dat (.str _ _)))
theorem Ev.none {k : _} {pos : Pos} : Ev c f n Γ μ (.Constant .none k pos) dN μ := Ev.pure fun A E hs s Q Er ok R O S k => wpAny_Constant_none (k _ s.heap s.toks (Le.refl _) (.dat .none))
theorem Ev.bool {b : Bool} {k : _} {pos : Pos} : Ev c f n Γ μ (.Constant (.bool b) k pos) (dB b) μ := Ev.pure fun A E hs s Q Er ok R O S k => wpAny_Constant_bool (k _ s.heap s.toks (Le.refl _) (.dat (.bool b)))

/-- from one step to the next -/
theorem Rep.over {P : Params} {E : Env} {hs : List Addr} {h h' : Heap} {d : D} {v : Value} (r : Rep P (hid h (T E μ hs)) d v) (l : LeX (addrs μ) h h') : Rep P (hid h' (T E μ hs)) d v :=
  r.keeps (hid_mono l (fun z m => by simp only [T, List.mem_append]; exact .inl (.inr m)) fun _ m => m)
theorem RepL.over {P : Params} {E : Env} {hs : List Addr} {h h' : Heap} {d : List D} {v : List Value} (r : RepL P (hid h (T E μ hs)) d v) (l : LeX (addrs μ) h h') : RepL P (hid h' (T E μ hs)) d v :=
  r.keeps (hid_mono l (fun z m => by simp only [T, List.mem_append]; exact .inl (.inr m)) fun _ m => m)

theorem Ev.binop {l r : Expr} {op : Operator} {pos : Pos} {d1 d2 d : D} (h1 : Ev c f n Γ μ l d1 μ1) (h2 : Ev c f n Γ μ1 r d2 μ2) (hp : Pu2 c n (binaryOp op) d1 d2 d) : Ev c f n Γ μ (.BinOp l op r pos) d μ2 :=
  ⟨h2.ad.trans h1.ad, fun A E hs s Q Er ok R O S k => wpAny_BinOp (h1.run A E hs s _ _ ok R O S fun v1 ha t1 l1 S1 r1 => h2.run A E hs _ _ _ ok R O S1 fun v2 hb t2 l2 S2 r2 => by
    rw [T_ad h1.ad] at r2
    have l2' : LeX (addrs μ) ha hb := h1.ad ▸ l2
    refine hp A (T E μ hs) _ v1 v2 Q Er R (by have := S2.belT; rwa [T_ad (h2.ad.trans h1.ad)] at this) (by have := S2.wd; rwa [T_ad (h2.ad.trans h1.ad)] at this) (r1.over l2') r2 fun v h' tk le rr => ?_
    exact k v h' tk ((l1.trans l2').trans le.x) (S2.pure le) rr)⟩
theorem Ev.cmp {l r : Expr} {op : CmpOp} {pos : Pos} {d1 d2 d : D} (h1 : Ev c f n Γ μ l d1 μ1) (h2 : Ev c f n Γ μ1 r d2 μ2) (hp : Pu2 c n (compareOp op) d1 d2 d) (hm : behindInMarks op r = false := by with_unfolding_all rfl) : Ev c f n Γ μ (.Compare l [op] [r] pos) d μ2 :=
  ⟨h2.ad.trans h1.ad, fun A E hs s Q Er ok R O S k => wpAny_Compare1 (h1.run A E hs s _ _ ok R O S fun v1 ha t1 l1 S1 r1 => h2.run A E hs _ _ _ ok R O S1 fun v2 hb t2 l2 S2 r2 => by
    rw [T_ad h1.ad] at r2
    have l2' : LeX (addrs μ) ha hb := h1.ad ▸ l2
    refine hp A (T E μ hs) _ v1 v2 Q Er R (by have := S2.belT; rwa [T_ad (h2.ad.trans h1.ad)] at this) (by have := S2.wd; rwa [T_ad (h2.ad.trans h1.ad)] at this) (r1.over l2') r2 fun v h' tk le rr => ?_
    exact k v h' tk ((l1.trans l2').trans le.x) (S2.pure le) rr) hm⟩
theorem Ts.cmp {l r : Expr} {op : CmpOp} {pos : Pos} {d1 d2 : D} {b : Bool} (h1 : Ev c f n Γ μ l d1 μ1) (h2 : Ev c f n Γ μ1 r d2 μ2) (hp : Pu2 c n (compareOp op) d1 d2 (dB b)) (hm : behindInMarks op r = false := by with_unfolding_all rfl) : Ts c f n Γ μ (.Compare l [op] [r] pos) b μ2 :=
  ⟨h2.ad.trans h1.ad, fun A E hs s Q Er ok R O S k => wpAny_isTrue_Compare1 (h1.run A E hs s _ _ ok R O S fun v1 ha t1 l1 S1 r1 => h2.run A E hs _ _ _ ok R O S1 fun v2 hb t2 l2 S2 r2 => by
    rw [T_ad h1.ad] at r2
    have l2' : LeX (addrs μ) ha hb := h1.ad ▸ l2
    refine hp A (T E μ hs) _ v1 v2 _ Er R (by have := S2.belT; rwa [T_ad (h2.ad.trans h1.ad)] at this) (by have := S2.wd; rwa [T_ad (h2.ad.trans h1.ad)] at this) (r1.over l2') r2 fun v h' tk le rr => ?_
    obtain rfl := rep_bool rr
    exact wpAny_truthy_bool (k h' tk ((l1.trans l2').trans le.x) (S2.pure le))) hm⟩
noncomputable def plainTest : Expr → Bool
  | .UnaryOp .Not .. | .BoolOp .. | .IfExp .. | .Compare .. => false
  | _ => true
theorem isTrue_plainTest {e : Expr} (h : plainTest e = true) (env : Env) (whole : Sem Value) : isTrue e env whole = (do let v ← whole; standAt e.pos; holding [v] (truthy v)) := by
  cases e with
  | UnaryOp op x p => cases op <;> first | rfl | cases h
  | _ => first | rfl | cases h
theorem Ts.val {e : Expr} {d : D} {b : Bool} (h1 : Ev c f n Γ μ e d μ1) (ht : Tr c d b) (he : plainTest e = true := by rfl) : Ts c f n Γ μ e b μ1 :=
  ⟨h1.ad, fun A E hs s Q Er ok R O S k => wpAny_isTrue_value (h1.run A E hs s _ _ ok R O S fun v1 ha t1 l1 S1 r1 => ht A _ _ v1 Q Er R.cl0 (hid_le _ _) r1 fun tk => k ha tk l1 S1) (isTrue_plainTest he ..)⟩
theorem Ts.not {e : Expr} {pos : Pos} {b : Bool} (h1 : Ts c f n Γ μ e b μ1) : Ts c f n Γ μ (.UnaryOp .Not e pos) (!b) μ1 :=
  ⟨h1.ad, fun A E hs s Q Er ok R O S k => wpAny_isTrue_Not (h1.run A E hs s _ _ ok R O S fun ha t1 l1 S1 => k ha t1 l1 S1)⟩

-- and, or, the conditional
theorem Ts.and_nil {pos : Pos} : Ts c f n Γ μ (.BoolOp .And [] pos) true μ := ⟨rfl, fun A E hs s Q Er ok R O S k => wpAny_isTrue_BoolOp (wpAny_allTrue_And_nil (k s.heap s.toks (LeX.refl _ _) S))⟩
theorem Ts.or_nil {pos : Pos} : Ts c f n Γ μ (.BoolOp .Or [] pos) false μ := ⟨rfl, fun A E hs s Q Er ok R O S k => wpAny_isTrue_BoolOp (wpAny_allTrue_Or_nil (k s.heap s.toks (LeX.refl _ _) S))⟩
theorem allTrue_of {A : Around} {E : Env} {s : Shared} {op : BoolOp} {es : List Expr} {pos : Pos} {Q : Bool → Shared → Prop} {Er : Value → Shared → Prop} (h : wpAny (Md c) A (isTrue (.BoolOp op es pos) E (eval (.BoolOp op es pos) E)) Q Er s) : wpAny (Md c) A (allTrue op es E) Q Er s := by
  have e : isTrue (.BoolOp op es pos) E (eval (.BoolOp op es pos) E) = allTrue op es E := rfl
  rwa [e] at h
theorem Ts.and_f {e : Expr} {es : List Expr} {pos : Pos} (h1 : Ts c f n Γ μ e false μ1) : Ts c f n Γ μ (.BoolOp .And (e :: es) pos) false μ1 :=
  ⟨h1.ad, fun A E hs s Q Er ok R O S k => wpAny_isTrue_BoolOp (wpAny_allTrue_And_cons (h1.run A E hs s _ _ ok R O S fun ha t1 l1 S1 => k ha t1 l1 S1))⟩
theorem Ts.or_t {e : Expr} {es : List Expr} {pos : Pos} (h1 : Ts c f n Γ μ e true μ1) : Ts c f n Γ μ (.BoolOp .Or (e :: es) pos) true μ1 :=
  ⟨h1.ad, fun A E hs s Q Er ok R O S k => wpAny_isTrue_BoolOp (wpAny_allTrue_Or_cons (h1.run A E hs s _ _ ok R O S fun ha t1 l1 S1 => k ha t1 l1 S1))⟩
theorem Ts.and_t {e : Expr} {es : List Expr} {pos : Pos} {b : Bool} (h1 : Ts c f n Γ μ e true μ1) (h2 : Ts c f n Γ μ1 (.BoolOp .And es pos) b μ2) : Ts c f n Γ μ (.BoolOp .And (e :: es) pos) b μ2 :=
  ⟨h2.ad.trans h1.ad, fun A E hs s Q Er ok R O S k => wpAny_isTrue_BoolOp (wpAny_allTrue_And_cons (h1.run A E hs s _ _ ok R O S fun ha t1 l1 S1 =>
    allTrue_of (pos := pos) (h2.run A E hs _ Q Er ok R O S1 fun hb t2 l2 S2 => k hb t2 (l1.trans (h1.ad ▸ l2)) S2)))⟩
theorem Ts.or_f {e : Expr} {es : List Expr} {pos : Pos} {b : Bool} (h1 : Ts c f n Γ μ e false μ1) (h2 : Ts c f n Γ μ1 (.BoolOp .Or es pos) b μ2) : Ts c f n Γ μ (.BoolOp .Or (e :: es) pos) b μ2 :=
  ⟨h2.ad.trans h1.ad, fun A E hs s Q Er ok R O S k => wpAny_isTrue_BoolOp (wpAny_allTrue_Or_cons (h1.run A E hs s _ _ ok R O S fun ha t1 l1 S1 =>
    allTrue_of (pos := pos) (h2.run A E hs _ Q Er ok R O S1 fun hb t2 l2 S2 => k hb t2 (l1.trans (h1.ad ▸ l2)) S2)))⟩
theorem Ev.ifexp_t {t b o : Expr} {pos : Pos} {d : D} (h1 : Ts c f n Γ μ t true μ1) (h2 : Ev c f n Γ μ1 b d μ2) : Ev c f n Γ μ (.IfExp t b o pos) d μ2 :=
  ⟨h2.ad.trans h1.ad, fun A E hs s Q Er ok R O S k => wpAny_IfExp (h1.run A E hs s _ _ ok R O S fun ha t1 l1 S1 =>
    (h2.run A E hs _ Q Er ok R O S1 fun v hb t2 l2 S2 r => k v hb t2 (l1.trans (h1.ad ▸ l2)) S2 (T_ad h1.ad ▸ r)))⟩
theorem Ev.ifexp_f {t b o : Expr} {pos : Pos} {d : D} (h1 : Ts c f n Γ μ t false μ1) (h2 : Ev c f n Γ μ1 o d μ2) : Ev c f n Γ μ (.IfExp t b o pos) d μ2 :=
  ⟨h2.ad.trans h1.ad, fun A E hs s Q Er ok R O S k => wpAny_IfExp (h1.run A E hs s _ _ ok R O S fun ha t1 l1 S1 =>
    (h2.run A E hs _ Q Er ok R O S1 fun v hb t2 l2 S2 r => k v hb t2 (l1.trans (h1.ad ▸ l2)) S2 (T_ad h1.ad ▸ r)))⟩
theorem Ev.ifexp {t b o : Expr} {pos : Pos} {d : D} {q : Bool} (h1 : Ts c f n Γ μ t q μ1) (ht : q = true → Ev c f n Γ μ1 b d μ2) (hf : q = false → Ev c f n Γ μ1 o d μ2) : Ev c f n Γ μ (.IfExp t b o pos) d μ2 := by
  cases q
  · exact .ifexp_f h1 (hf rfl)
  · exact .ifexp_t h1 (ht rfl)
/-- a value of and, or: bools alone -/
structure Bo (c : Cx) (f : Fi) (n : Nat) (Γ : Ga) (μ : Mu) (op : BoolOp) (es : List Expr) (b : Bool) (μ' : Mu) : Prop where
  ad : addrs μ' = addrs μ
  run : ∀ (A : Around) (E : Env) (hs : List Addr) (s : Shared) (Q : Value → Shared → Prop) (Er : Value → Shared → Prop) (pos : Pos), f.Ok → Room A n → EOk f E → Sat c f E hs Γ μ s.heap →
    (∀ h' tk, LeX (addrs μ) s.heap h' → Sat c f E hs Γ μ' h' → Q (.bool b) { s with heap := h', toks := tk }) →
    wpAny (Md c) A (boolOp pos op (evalEach es E)) Q Er s
theorem Bo.one {op : BoolOp} {e : Expr} {b : Bool} (h1 : Ev c f n Γ μ e (dB b) μ1) : Bo c f n Γ μ op [e] b μ1 :=
  ⟨h1.ad, fun A E hs s Q Er pos ok R O S k => h1.run A E hs s Q Er ok R O S fun v ha t1 l1 S1 r1 => by obtain rfl := rep_bool r1; exact k ha t1 l1 S1⟩
theorem Bo.stop {op : BoolOp} {e e2 : Expr} {es : List Expr} {b : Bool} (h1 : Ev c f n Γ μ e (dB b) μ1) (hb : b = (op == .Or)) : Bo c f n Γ μ op (e :: e2 :: es) b μ1 :=
  ⟨h1.ad, fun A E hs s Q Er pos ok R O S k => by
    show wpAny (Md c) A (do
      let v ← eval e E
      standAt pos
      let t ← holding [v] (truthy v)
      match op, t with
      | .And, false | .Or, true => pure v
      | _, _ => boolOp pos op (evalEach (e2 :: es) E)) Q Er s
    refine wpAny_bind (h1.run A E hs s _ Er ok R O S fun v ha t1 l1 S1 r1 => ?_)
    obtain rfl := rep_bool r1
    refine wpAny_bind (wpAny_standAt (wpAny_bind (wpAny_holding (wpAny_truthy_bool ?_))))
    subst hb
    cases op <;> exact wpAny_pure (k ha t1 l1 S1)⟩
theorem Bo.next {op : BoolOp} {e e2 : Expr} {es : List Expr} {b b2 : Bool} (h1 : Ev c f n Γ μ e (dB b) μ1) (hb : b = (op == .And)) (h2 : Bo c f n Γ μ1 op (e2 :: es) b2 μ2) : Bo c f n Γ μ op (e :: e2 :: es) b2 μ2 :=
  ⟨h2.ad.trans h1.ad, fun A E hs s Q Er pos ok R O S k => by
    show wpAny (Md c) A (do
      let v ← eval e E
      standAt pos
      let t ← holding [v] (truthy v)
      match op, t with
      | .And, false | .Or, true => pure v
      | _, _ => boolOp pos op (evalEach (e2 :: es) E)) Q Er s
    refine wpAny_bind (h1.run A E hs s _ Er ok R O S fun v ha t1 l1 S1 r1 => ?_)
    obtain rfl := rep_bool r1
    refine wpAny_bind (wpAny_standAt (wpAny_bind (wpAny_holding (wpAny_truthy_bool ?_))))
    have q := h2.run A E hs { s with heap := ha, toks := t1 } Q Er pos ok R O S1 fun hb t2 l2 S2 => k hb t2 (l1.trans (h1.ad ▸ l2)) S2
    subst hb
    cases op <;> exact q⟩
theorem Ev.boolop {op : BoolOp} {es : List Expr} {pos : Pos} {b : Bool} (h : Bo c f n Γ μ op es b μ1) : Ev c f n Γ μ (.BoolOp op es pos) (dB b) μ1 :=
  ⟨h.ad, fun A E hs s Q Er ok R O S k => by
    show wpAny (Md c) A (boolOp pos op (evalEach es E)) Q Er s
    exact h.run A E hs s Q Er pos ok R O S fun ha t1 l1 S1 => k _ ha t1 l1 S1 (.dat (.bool b))⟩

-- several at once
theorem starEach_cons {e : Expr} {es : List Expr} {E : Env} (h : noStar e = true) : starEach (e :: es) E = (false, eval e E) :: starEach es E := by
  cases e <;> first | rfl | cases h
theorem noStar_any {E : Env} {pos : Pos} : ∀ {es : List Expr}, es.all noStar = true → (backTo pos (starEach es E)).any (·.1) = false
  | [], _ => rfl
  | e :: es, h => by
    obtain ⟨a, b⟩ := Bool.and_eq_true_iff.mp h
    rw [starEach_cons a]
    show (false || (backTo pos (starEach es E)).any (·.1)) = false
    rw [noStar_any b]; rfl
theorem EvL.nil : EvL c f n Γ μ [] [] μ := ⟨rfl, fun A E hs s Q Er pos ok R O S k => wpAny_items_nil (k [] s.heap s.toks (LeX.refl _ _) S .nil), rfl⟩
theorem EvL.cons {e : Expr} {es : List Expr} {d : D} {ds : List D} (h1 : Ev c f n Γ μ e d μ1) (h2 : EvL c f n Γ μ1 es ds μ2) (hn : noStar e = true := by rfl) : EvL c f n Γ μ (e :: es) (d :: ds) μ2 :=
  ⟨h2.ad.trans h1.ad, fun A E hs s Q Er pos ok R O S k => wpAny_items_cons (h1.run A E hs s _ _ ok R O S fun v ha t1 l1 S1 r1 =>
      (h2.run A E hs { s with heap := ha, toks := t1 } _ Er pos ok R O S1 fun vs hb t2 l2 S2 r2 => k _ hb t2 (l1.trans (h1.ad ▸ l2)) S2 (.cons (r1.over (h1.ad ▸ l2)) (T_ad h1.ad ▸ r2)))) (starEach_cons hn), by
    simp only [List.all_cons, hn, h2.ns, Bool.and_self]⟩
end
end Mine
namespace Mine

/-- what a callable does: the values, what it turns -/
structure Fn (c : Cx) (fv : Value) (n : Nat) (ds : List D) (μ : Mu) (d : D) (μ' : Mu) : Prop where
  ad : addrs μ' = addrs μ
  run : ∀ (A : Around) (hs : List Addr) (s : Shared) (vs : List Value) (Q : Value → Shared → Prop) (Er : Value → Shared → Prop), Room A n → (∀ a ∈ hs, ∃ o, s.heap.get? a = some o) → (addrs μ).Nodup → (∀ a ∈ addrs μ, a ∉ hs) →
    Wd c (hid s.heap (addrs μ ++ hs)) → (∀ p ∈ μ, MRep (Pr c) (hid s.heap (addrs μ ++ hs)) s.heap p.1 p.2) → RepL (Pr c) (hid s.heap (addrs μ ++ hs)) ds vs →
    (∀ v h' tk, LeX (addrs μ) s.heap h' → (∀ p ∈ μ', MRep (Pr c) (hid h' (addrs μ ++ hs)) h' p.1 p.2) → Rep (Pr c) (hid h' (addrs μ ++ hs)) d v → Q v { s with heap := h', toks := tk }) →
    wpAny (Md c) A (call fv vs) Q Er s
theorem Fn.of_pu {c : Cx} {fv : Value} {n : Nat} {ds : List D} {d : D} (h : Pu c n (fun vs => call fv vs) ds d) : Fn c fv n ds [] d [] :=
  ⟨rfl, fun A hs s vs Q Er R bel nd dis W mu r k => h A hs s vs Q Er R bel W r fun v h' tk l rr => k v h' tk l.x (fun p hp => (List.not_mem_nil hp).elim) rr⟩
theorem Fn.le {c : Cx} {fv : Value} {n m : Nat} {ds : List D} {μ μ' : Mu} {d : D} (h : Fn c fv n ds μ d μ') (l : n ≤ m) : Fn c fv m ds μ d μ' :=
  ⟨h.ad, fun A hs s vs Q Er R bel nd dis W mu r k => h.run A hs s vs Q Er (R.le l) bel nd dis W mu r k⟩

noncomputable def Callee (c : Cx) (f : Value) : Prop := keepIn c.K f = true ∨ (∃ id, f = .builtin id) ∨ ∃ T, f = .type T
theorem keeps_callee {c : Cx} {f : Value} (h : Callee c f) (H : Heap) (X : Wd c H) : ∃ k, (k = Keeper.frame ∨ k = Keeper.machine ∨ k = Keeper.boundFrame) ∧ Looks (Md c) H (keeperOf f) k := by
  rcases h with h | ⟨id, rfl⟩ | ⟨T, rfl⟩
  · exact keeps_K h H X.k
  · exact ⟨.machine, .inr (.inl rfl), .of_pure rfl⟩
  · exact ⟨.machine, .inr (.inl rfl), .of_pure rfl⟩

theorem evalArgs_any {M : Model} {A : Around} {s : Shared} {fv : Value} {args : List (Bool × Sem Value)} {Q : Args → Shared → Prop} {Er : Value → Shared → Prop} (hns : args.any (·.1) = false)
    (h : wpAny M A (spliced args) (fun vs s' => Q ⟨vs, []⟩ s') Er s) : wpAny M A (evalArgs fv true args []) Q Er s := by
  cases args with
  | nil =>
    unfold evalArgs
    show wpAny M A (spliced [] >>= _) Q Er s
    refine wpAny_bind (wpAny_mono h (fun vs s' h' => wpAny_bind (wpAny_pure ?_)) fun _ _ x => x)
    refine wpAny_holding ?_
    exact wpAny_bind (wpAny_pure (wpAny_bind (wpAny_pure (wpAny_pure h'))))
  | cons x xs =>
    obtain ⟨b, t⟩ := x
    cases b with
    | true => cases hns
    | false => exact Calls.evalArgs_plain h
section
variable {c : Cx} {f : Fi} {n : Nat} {Γ Γ' : Ga} {μ μ1 μ2 μ3 μa μb μr : Mu}

theorem callWith_ok {A : Around} {E : Env} {s : Shared} {fv : Value} {args : List Expr} {pos : Pos} {Q : Value → Shared → Prop} {Er : Value → Shared → Prop} (hc : Callee c fv) (hns : args.all noStar = true)
    (h : wpAny (Md c) A (spliced (backTo pos (starEach args E))) (fun vs s₁ => Wd c s₁.heap ∧ wpAny (Md c) A (call fv vs) Q Er s₁) Er s) :
    wpAny (Md c) A (callWith pos fv [] (backTo pos (starEach args E)) []) Q Er s := by
  refine callWith_of (P := Wd c) (by rw [noStar_any hns]; rfl) (fun H X => keeps_callee hc H X) (evalArgs_any (noStar_any hns) h)

theorem Fn.call {A : Around} {E : Env} {hs : List Addr} {s : Shared} {fv : Value} {m : Nat} {ds : List D} {d : D} {vs : List Value} {Q : Value → Shared → Prop} {Er : Value → Shared → Prop}
    (hf : Fn c fv m ds μa d μb) (R : Room A n) (hm : m ≤ n) (S : Sat c f E hs Γ (μa ++ μr) s.heap) (r : RepL (Pr c) (hid s.heap (T E (μa ++ μr) hs)) ds vs)
    (k : ∀ v h' tk, LeX (addrs μa) s.heap h' → Sat c f E hs Γ (μb ++ μr) h' → Rep (Pr c) (hid h' (T E (μa ++ μr) hs)) d v → Q v { s with heap := h', toks := tk }) : wpAny (Md c) A (call fv vs) Q Er s := by
  have eA : addrs (μa ++ μr) = addrs μa ++ addrs μr := by simp only [addrs, List.map_append]
  have m1 : ∀ z, z ∈ T E (μa ++ μr) hs ↔ z ∈ addrs μa ++ (own E ++ addrs μr ++ hs) := fun z => by simp only [T, eA, List.mem_append]; grind
  have le1 : ∀ h : Heap, Le (hid h (T E (μa ++ μr) hs)) (hid h (addrs μa ++ (own E ++ addrs μr ++ hs))) := fun h => hid_mono (LeX.refl [] h) (fun z q => (List.not_mem_nil q).elim) fun z q => (m1 z).mpr q
  have le2 : ∀ h : Heap, Le (hid h (addrs μa ++ (own E ++ addrs μr ++ hs))) (hid h (T E (μa ++ μr) hs)) := fun h => hid_mono (LeX.refl [] h) (fun z q => (List.not_mem_nil q).elim) fun z q => (m1 z).mp q
  have nd := S.nd
  rw [eA] at nd
  have nd1 := List.nodup_append.mp nd
  have nd2 := List.nodup_append.mp nd1.2.1
  refine hf.run A (own E ++ addrs μr ++ hs) s vs Q Er (R.le hm) (fun a ha => S.belT a ((m1 a).mpr (List.mem_append_right _ ha))) nd2.1 (fun a ha hb => ?_) (S.wd.keeps (le1 _)) (fun p hp => (S.mu p (List.mem_append_left _ hp)).keeps (le1 _) fun o e => e) (r.keeps (le1 _)) fun v h' tk l mu rr => ?_
  · rcases List.mem_append.mp hb with hb | hb
    · rcases List.mem_append.mp hb with hb | hb
      · exact nd1.2.2 a hb a (List.mem_append_left _ ha) rfl
      · exact nd2.2.2 a ha a hb rfl
    · exact S.dis a (List.mem_append_right _ (by rw [eA]; exact List.mem_append_left _ ha)) hb
  · have eA' : addrs (μb ++ μr) = addrs (μa ++ μr) := by simp only [addrs, List.map_append]; rw [show List.map (·.1) μb = List.map (·.1) μa from hf.ad]
    refine k v h' tk l (S.step (l.mono fun z q => by rw [eA]; exact List.mem_append_left _ q) eA' fun p hp => ?_) (rr.keeps (le2 _))
    rw [T_ad eA']
    rcases List.mem_append.mp hp with hp | hp
    · exact (mu p hp).keeps (le2 _) fun o e => e
    · exact (S.mu p (List.mem_append_right _ hp)).keeps (hid_mono l (fun z q => by simp only [T, eA, List.mem_append]; exact .inl (.inr (.inl q))) fun _ q => q) fun o e => l _ _ (fun q => nd2.2.2 _ q _ (addrs_mem hp) rfl) e

theorem Ev.call {id : Str} {p pos : Pos} {args : List Expr} {fv : Value} {m : Nat} {ds : List D} {d : D} (h1 : Ev c f n Γ μ (.Name id p) (.val fv) μ) (h2 : EvL c f n Γ μ args ds (μa ++ μr)) (hf : Fn c fv m ds μa d μb) (hc : Callee c fv) (hm : m ≤ n) :
    Ev c f n Γ μ (.Call (.Name id p) args [] pos) d (μb ++ μr) :=
  ⟨by rw [← h2.ad]; simp only [addrs, List.map_append]; rw [show List.map (·.1) μb = List.map (·.1) μa from hf.ad], fun A E hs s Q Er ok R O S k => by
    show wpAny (Md c) A (do callWith pos (← eval (.Name id p) E) [] (backTo pos (starEach args E)) (backToKw pos (keywordEach [] E))) Q Er s
    refine wpAny_bind (h1.run A E hs s _ Er ok R O S fun fv' ha t1 l1 S1 r1 => ?_)
    obtain rfl := rep_val r1
    refine callWith_ok hc h2.ns (h2.run A E hs _ _ Er pos ok R O S1 fun vs hb t2 l2 S2 r2 => ⟨S2.wd.keeps (hid_le _ _), ?_⟩)
    rw [← T_ad h2.ad] at r2
    refine hf.call R hm S2 r2 fun v h' tk l S3 r3 => ?_
    have l3 : LeX (addrs μ) hb h' := l.mono fun z q => by rw [← h2.ad]; simp only [addrs, List.map_append]; exact List.mem_append_left _ q
    exact k v h' tk ((l1.trans l2).trans l3) S3 (T_ad (E := E) (hs := hs) h2.ad ▸ r3)⟩
/-- one that turns nothing -/
theorem Ev.call0 {id : Str} {p pos : Pos} {args : List Expr} {fv : Value} {m : Nat} {ds : List D} {d : D} (h1 : Ev c f n Γ μ (.Name id p) (.val fv) μ) (h2 : EvL c f n Γ μ args ds μ1) (hf : Fn c fv m ds [] d []) (hc : Callee c fv) (hm : m ≤ n) :
    Ev c f n Γ μ (.Call (.Name id p) args [] pos) d μ1 := Ev.call (μa := []) (μb := []) (μr := μ1) h1 h2 hf hc hm
end
end Mine
namespace Mine

inductive Out where
  | nxt (Γ : Ga) (μ : Mu)
  | cnt (Γ : Ga) (μ : Mu)
  | brk (Γ : Ga) (μ : Mu)
  | ret (d : D) (μ : Mu)
noncomputable def Out.mu : Out → Mu
  | .nxt _ μ | .cnt _ μ | .brk _ μ | .ret _ μ => μ
noncomputable def OutSat (c : Cx) (f : Fi) (E : Env) (hs : List Addr) : Out → Flow → Heap → Prop
  | .nxt Γ μ, .next, h => Sat c f E hs Γ μ h
  | .cnt Γ μ, .cont, h => Sat c f E hs Γ μ h
  | .brk Γ μ, .brk, h => Sat c f E hs Γ μ h
  | .ret d μ, .ret v, h => Sat c f E hs [] μ h ∧ Rep (Pr c) (hid h (T E μ hs)) d v
  | _, _, _ => False
noncomputable def Ex1 (c : Cx) (f : Fi) (n : Nat) (Γ : Ga) (μ : Mu) (st : Stmt) (P : Out → Prop) : Prop :=
  ∀ (A : Around) (E : Env) (hs : List Addr) (s : Shared) (Q : Flow → Shared → Prop) (Er : Value → Shared → Prop), f.Ok → Room A n → EOk f E → Sat c f E hs Γ μ s.heap →
    (∀ o fl h' tk, P o → LeX (addrs μ ++ own E) s.heap h' → (∀ a ∈ addrs o.mu, a ∈ addrs μ ∨ s.heap.get? a = none) → OutSat c f E hs o fl h' → Q fl { s with heap := h', toks := tk }) →
    wpAny (Md c) A (exec st E) Q Er s
noncomputable def Ex (c : Cx) (f : Fi) (n : Nat) (Γ : Ga) (μ : Mu) (ss : List Stmt) (P : Out → Prop) : Prop :=
  ∀ (A : Around) (E : Env) (hs : List Addr) (s : Shared) (Q : Flow → Shared → Prop) (Er : Value → Shared → Prop), f.Ok → Room A n → EOk f E → Sat c f E hs Γ μ s.heap →
    (∀ o fl h' tk, P o → LeX (addrs μ ++ own E) s.heap h' → (∀ a ∈ addrs o.mu, a ∈ addrs μ ∨ s.heap.get? a = none) → OutSat c f E hs o fl h' → Q fl { s with heap := h', toks := tk }) →
    wpAny (Md c) A (execs ss E) Q Er s
noncomputable def Then (c : Cx) (f : Fi) (n : Nat) (rest : List Stmt) (P : Out → Prop) : Out → Prop
  | .nxt Γ μ => Ex c f n Γ μ rest P
  | o => P o

section
variable {c : Cx} {f : Fi} {n : Nat} {Γ Γ' Γ1 : Ga} {μ μ' μ1 μ2 : Mu} {P : Out → Prop}

theorem Ex.nil (h : P (.nxt Γ μ)) : Ex c f n Γ μ [] P := fun A E hs s Q Er ok R O S k => wpAny_execs_nil (k _ _ s.heap s.toks h (LeX.refl _ _) (fun a q => .inl q) S)
theorem Ex.cons {st : Stmt} {rest : List Stmt} (h : Ex1 c f n Γ μ st (Then c f n rest P)) : Ex c f n Γ μ (st :: rest) P :=
  fun A E hs s Q Er ok R O S k => wpAny_execs_cons (h A E hs s _ Er ok R O S fun o fl h' tk p l fr os => by
    cases o with
    | nxt Γ1 μ1 =>
      cases fl with
      | next =>
        refine (p : Ex c f n Γ1 μ1 rest P) A E hs _ Q Er ok R O os fun o2 fl2 h2 tk2 p2 l2 fr2 os2 => ?_
        refine k o2 fl2 h2 tk2 p2 (fun b x nb e => ?_) (fun a ha => ?_) os2
        · refine l2 b x (fun q => ?_) (l b x nb e)
          rcases List.mem_append.mp q with q | q
          · rcases fr b q with q | q
            · exact nb (List.mem_append_left _ q)
            · rw [q] at e; cases e
          · exact nb (List.mem_append_right _ q)
        · rcases fr2 a ha with q | q
          · exact fr a q
          · cases e : s.heap.get? a with
            | none => exact .inr rfl
            | some x =>
              by_cases m : a ∈ addrs μ ++ own E
              · rcases List.mem_append.mp m with m | m
                · exact .inl m
                · have := (Sat.belT os a (List.mem_append_left _ (List.mem_append_left _ m)))
                  obtain ⟨y, hy⟩ := this
                  rw [show h'.get? a = none from q] at hy; cases hy
              · have := l a x m e
                rw [show h'.get? a = none from q] at this; cases this
      | _ => exact os.elim
    | cnt Γ1 μ1 => cases fl <;> first | exact k _ _ h' tk p l fr os | exact os.elim
    | brk Γ1 μ1 => cases fl <;> first | exact k _ _ h' tk p l fr os | exact os.elim
    | ret d μ1 => cases fl <;> first | exact k _ _ h' tk p l fr os | exact os.elim)

theorem Ex.mono {ss : List Stmt} {P' : Out → Prop} (h : Ex c f n Γ μ ss P) (i : ∀ o, P o → P' o) : Ex c f n Γ μ ss P' :=
  fun A E hs s Q Er ok R O S k => h A E hs s Q Er ok R O S fun o fl h' tk p l fr os => k o fl h' tk (i o p) l fr os
theorem Ex1.mono {ss : Stmt} {P' : Out → Prop} (h : Ex1 c f n Γ μ ss P) (i : ∀ o, P o → P' o) : Ex1 c f n Γ μ ss P' :=
  fun A E hs s Q Er ok R O S k => h A E hs s Q Er ok R O S fun o fl h' tk p l fr os => k o fl h' tk (i o p) l fr os

/-- what is known less -/
theorem Sat.weak {E : Env} {hs : List Addr} {h : Heap} (S : Sat c f E hs Γ μ h) (g : ∀ (i : Nat) (d : D), Γ'[i]? = some (some d) → Γ[i]? = some (some d)) : Sat c f E hs Γ' μ h :=
  ⟨S.nd, S.dis, S.bel, S.wd, S.ns.imp fun m q => ⟨q.1, fun i x d a b k => q.2 i x d a (g i d b) k⟩, fun i x d a b k => S.cl i x d a (g i d b) k, S.ce, S.mu⟩
theorem Ex.sub {ss : List Stmt} (h : Ex c f n Γ' μ' ss P) (ad : ∀ a ∈ addrs μ', a ∈ addrs μ) (g : ∀ (E : Env) (hs : List Addr) (h : Heap), Sat c f E hs Γ μ h → Sat c f E hs Γ' μ' h) : Ex c f n Γ μ ss P :=
  fun A E hs s Q Er ok R O S k => h A E hs s Q Er ok R O (g E hs s.heap S) fun o fl h' tk p l fr os => k o fl h' tk p (l.mono fun z q => by
    rcases List.mem_append.mp q with q | q
    · exact List.mem_append_left _ (ad z q)
    · exact List.mem_append_right _ q) (fun a ha => (fr a ha).imp_left (ad a)) os
theorem Ex.weak {ss : List Stmt} (h : Ex c f n Γ' μ ss P) (g : ∀ (i : Nat) (d : D), Γ'[i]? = some (some d) → Γ[i]? = some (some d)) : Ex c f n Γ μ ss P := h.sub (fun a q => q) fun E hs h S => S.weak g
/-- a list that will turn no more -/
theorem Sat.freeze {E : Env} {hs : List Addr} {h : Heap} {a : Addr} {mo : MO} {d : D} (i : Nat) (S : Sat c f E hs Γ ((a, mo) :: μ) h) (hi : Γ[i]? = some (some (.val (.ref a))))
    (hd : ∀ H, MRep (Pr c) H H a mo → Rep (Pr c) H d (.ref a)) : Sat c f E hs (Γ.set i (some d)) μ h := by
  have nd := S.nd
  simp only [addrs, List.map_cons] at nd
  have sub : ∀ z ∈ T E μ hs, z ∈ T E ((a, mo) :: μ) hs := fun z q => by simp only [T, addrs, List.map_cons, List.mem_append, List.mem_cons] at q ⊢; grind
  have kk : Le (hid h (T E ((a, mo) :: μ) hs)) (hid h (T E μ hs)) := hid_mono (LeX.refl [] h) (fun z q => (List.not_mem_nil q).elim) sub
  have na : a ∉ T E μ hs := fun q => by
    have h1 : a ∉ hs := S.dis a (by simp [addrs])
    have h2 := List.nodup_append.mp nd
    have h3 := List.nodup_cons.mp h2.2.1
    rcases List.mem_append.mp q with q | q
    · rcases List.mem_append.mp q with q | q
      · exact h2.2.2 a q a (List.mem_cons_self ..) rfl
      · exact h3.1 q
    · exact h1 q
  have hf : MRep (Pr c) (hid h (T E μ hs)) (hid h (T E μ hs)) a mo := by
    have m := S.mu (a, mo) (List.mem_cons_self ..)
    have ag : ∀ o, h.get? a = some o → (hid h (T E μ hs)).get? a = some o := fun o e => hid_get.mpr ⟨e, na⟩
    exact m.keeps kk ag
  have hd' := hd _ hf
  have at_ : ∀ (j : Nat) (d' : D), (Γ.set i (some d))[j]? = some (some d') → (j = i ∧ d' = d) ∨ Γ[j]? = some (some d') := fun j d' e => by
    rw [List.getElem?_set] at e
    split at e
    · rename_i q
      split at e
      · exact .inl ⟨q.symm, by simpa using e.symm⟩
      · cases e
    · exact .inr e
  refine ⟨(List.nodup_append.mpr ⟨(List.nodup_append.mp nd).1, (List.nodup_cons.mp (List.nodup_append.mp nd).2.1).2, fun x hx y hy => (List.nodup_append.mp nd).2.2 x hx y (List.mem_cons_of_mem _ hy)⟩), fun x hx => S.dis x (by
    rcases List.mem_append.mp hx with q | q
    · exact List.mem_append_left _ q
    · exact List.mem_append_right _ (List.mem_cons_of_mem _ q)), S.bel, S.wd.keeps kk, ?_, ?_, S.ce, fun p hp => (S.mu p (List.mem_cons_of_mem _ hp)).keeps kk fun o e => e⟩
  · obtain ⟨m, hn, q⟩ := S.ns
    refine ⟨m, hn, fun j x d' hx hj hl => ?_⟩
    rcases at_ j d' hj with ⟨rfl, rfl⟩ | hj
    · obtain ⟨v, hv, r⟩ := q j x _ hx hi hl
      obtain rfl := rep_val r
      exact ⟨_, hv, hd'⟩
    · obtain ⟨v, hv, r⟩ := q j x d' hx hj hl
      exact ⟨v, hv, r.keeps kk⟩
  · intro j x d' hx hj hl
    rcases at_ j d' hj with ⟨rfl, rfl⟩ | hj
    · obtain ⟨b, v, hb, hc, r⟩ := S.cl j x _ hx hi hl
      obtain rfl := rep_val r
      exact ⟨b, _, hb, hc, hd'⟩
    · obtain ⟨b, v, hb, hc, r⟩ := S.cl j x d' hx hj hl
      exact ⟨b, v, hb, hc, r.keeps kk⟩
theorem Ex.freeze {ss : List Stmt} {a : Addr} {mo : MO} {d : D} (i : Nat) (hi : Γ[i]? = some (some (.val (.ref a)))) (hd : ∀ H, MRep (Pr c) H H a mo → Rep (Pr c) H d (.ref a)) (h : Ex c f n (Γ.set i (some d)) μ ss P) : Ex c f n Γ ((a, mo) :: μ) ss P :=
  h.sub (fun a q => List.mem_cons_of_mem _ q) fun E hs h S => S.freeze i hi hd
theorem Sat.fewer {E : Env} {hs hs' : List Addr} {h : Heap} (S : Sat c f E hs Γ μ h) (s : ∀ a ∈ hs', a ∈ hs) : Sat c f E hs' Γ μ h := by
  have kk : Le (hid h (T E μ hs)) (hid h (T E μ hs')) := hid_mono (LeX.refl [] h) (fun z q => (List.not_mem_nil q).elim) fun z q => by
    rcases List.mem_append.mp q with q | q
    · exact List.mem_append_left _ q
    · exact List.mem_append_right _ (s z q)
  exact ⟨S.nd, fun a ha q => S.dis a ha (s a q), fun a ha => S.bel a (s a ha), S.wd.keeps kk, S.ns.imp fun m q => ⟨q.1, fun i x d a b k => (q.2 i x d a b k).imp fun v r => ⟨r.1, r.2.keeps kk⟩⟩,
    fun i x d a b k => let ⟨z, v, r1, r2, r3⟩ := S.cl i x d a b k; ⟨z, v, r1, r2, r3.keeps kk⟩, S.ce, fun p hp => (S.mu p hp).keeps kk fun o e => e⟩

/-- a name stored -/
theorem stName {A : Around} {E : Env} {hs : List Addr} {s : Shared} {x : Str} {d : D} {v : Value} {Q : Unit → Shared → Prop} {Er : Value → Shared → Prop} (i : Nat) (ok : f.Ok) (O : EOk f E) (S : Sat c f E hs Γ μ s.heap) (hx : f.ks[i]? = some x)
    (r : Rep (Pr c) (hid s.heap (T E μ hs)) d v) (k : ∀ h' tk, LeX (own E) s.heap h' → Sat c f E hs (Γ.set i (some d)) μ h' → Q () { s with heap := h', toks := tk }) : wpAny (Md c) A (storeName E x v) Q Er s := by
  have hk : E.scope.kind = .function := by rw [O.sc]; exact ok.fn
  have kk : E.kindOf x = f.cs.names.lookup x := by unfold Env.kindOf; rw [O.sc]
  have at_ : ∀ (j : Nat) (d' : D), (Γ.set i (some d))[j]? = some (some d') → (j = i ∧ d' = d) ∨ (j ≠ i ∧ Γ[j]? = some (some d')) := fun j d' e => by
    rw [List.getElem?_set] at e
    split at e
    · rename_i q
      split at e
      · exact .inl ⟨q.symm, by simpa using e.symm⟩
      · cases e
    · rename_i q; exact .inr ⟨fun z => q z.symm, e⟩
  have ne_ : ∀ (j : Nat) (y : Str), j ≠ i → f.ks[j]? = some y → y ≠ x := fun j y hji hy e => by
    subst e
    exact hji ((List.getElem?_inj (by have := List.getElem?_eq_some_iff.mp hy; exact this.1) ok.nd).mp (hy.trans hx.symm))
  have one : ∀ (b : Addr) (h' : Heap), b ∈ own E → Heap.SameBut b s.heap h' → Le (hid s.heap (T E μ hs)) (hid h' (T E μ hs)) := fun b h' hb sb => hid_mono (Y := [b]) (fun z o nz e => by
      rw [sb.2 z (fun q => nz (by rw [q]; exact List.mem_singleton.mpr rfl))]; exact e) (fun z q => by rw [List.mem_singleton.mp q]; exact List.mem_append_left _ (List.mem_append_left _ hb)) fun _ q => q
  have xb : ∀ (b : Addr) (h' : Heap), b ∈ own E → Heap.SameBut b s.heap h' → LeX (own E) s.heap h' := fun b h' hb sb z o nz e => by rw [sb.2 z (fun q => nz (q ▸ hb))]; exact e
  have muo : ∀ (b : Addr) (h' : Heap), b ∈ own E → Heap.SameBut b s.heap h' → ∀ p ∈ μ, MRep (Pr c) (hid h' (T E μ hs)) h' p.1 p.2 := fun b h' hb sb p hp => (S.mu p hp).keeps (one b h' hb sb) fun o e => by
    rw [sb.2 _ (fun q => (List.nodup_append.mp S.nd).2.2 b hb p.1 (addrs_mem hp) q.symm)]; exact e
  have belo : ∀ (b : Addr) (h' : Heap), b ∈ own E → Heap.SameBut b s.heap h' → ∀ a ∈ hs, ∃ o, h'.get? a = some o := fun b h' hb sb a ha => (S.bel a ha).imp fun o e => by
    rw [sb.2 _ (fun q => S.dis b (List.mem_append_left _ hb) (q ▸ ha))]; exact e
  have ndo := (List.nodup_append.mp S.nd).1
  rcases kind_ok ok hx with e | e
  · obtain ⟨m, hn, q⟩ := S.ns
    refine wpAny_storeName_local (kk.trans e) hn (fun h' hn' sb => k h' _ (xb _ h' (List.mem_cons_self ..) sb) ?_) (by rw [hk]; rfl)
    have k1 := one _ h' (List.mem_cons_self ..) sb
    refine ⟨S.nd, S.dis, belo _ h' (List.mem_cons_self ..) sb, S.wd.keeps k1, ⟨_, hn', fun j y d' hy hj hl => ?_⟩, fun j y d' hy hj hl => ?_, fun p hp => ?_, muo _ h' (List.mem_cons_self ..) sb⟩
    · rcases at_ j d' hj with ⟨rfl, rfl⟩ | ⟨hji, hj⟩
      · rw [hx] at hy; cases hy
        exact ⟨v, if_pos rfl, r.keeps k1⟩
      · obtain ⟨v', hv', r'⟩ := q j y d' hy hj hl
        exact ⟨v', by rw [if_neg (ne_ j y hji hy)]; exact hv', r'.keeps k1⟩
    · rcases at_ j d' hj with ⟨rfl, rfl⟩ | ⟨hji, hj⟩
      · rw [hx] at hy; cases hy
        exact absurd e hl
      · obtain ⟨b, v', hb, hc, r'⟩ := S.cl j y d' hy hj hl
        exact ⟨b, v', hb, hc.sameBut sb (fun q => (List.nodup_cons.mp ndo).1 (q ▸ List.mem_map_of_mem (mem_of_lookup hb))), r'.keeps k1⟩
    · obtain ⟨v', hc⟩ := S.ce p hp
      exact ⟨v', hc.sameBut sb (fun q => (List.nodup_cons.mp ndo).1 (q ▸ List.mem_map_of_mem hp))⟩
  · obtain ⟨b, hb⟩ := O.cx x (List.mem_of_getElem? hx) e
    obtain ⟨v0, hc0⟩ := S.ce (x, b) (mem_of_lookup hb)
    have hbo : b ∈ own E := List.mem_cons_of_mem _ (List.mem_map_of_mem (mem_of_lookup hb))
    have hne : E.locals ≠ b := fun q => (List.nodup_cons.mp ndo).1 (q ▸ List.mem_map_of_mem (mem_of_lookup hb))
    have apart : ∀ (y : Str) (b' : Addr), y ≠ x → E.cells.lookup y = some b' → b' ≠ b := fun y b' hyx hy q => by
      subst q
      have m1 := mem_of_lookup hy
      have m2 := mem_of_lookup hb
      have nd := (List.nodup_cons.mp ndo).2
      obtain ⟨i1, h1, e1⟩ := List.getElem_of_mem m1
      obtain ⟨i2, h2, e2⟩ := List.getElem_of_mem m2
      have : i1 = i2 := (List.getElem?_inj (l := E.cells.map (·.2)) (h₀ := by simpa using h1) (h₁ := nd)).mp (by simp [h1, h2, e1, e2])
      subst this
      rw [e1] at e2
      exact hyx (Prod.mk.inj e2).1
    refine wpAny_storeName_cell hk (kk.trans e) hb hc0 fun h' hc' sb => k h' _ (xb _ h' hbo sb) ?_
    have k1 := one _ h' hbo sb
    refine ⟨S.nd, S.dis, belo _ h' hbo sb, S.wd.keeps k1, ?_, fun j y d' hy hj hl => ?_, fun p hp => ?_, muo _ h' hbo sb⟩
    · obtain ⟨m, hn, q⟩ := S.ns
      refine ⟨m, hn.sameBut sb hne, fun j y d' hy hj hl => ?_⟩
      rcases at_ j d' hj with ⟨rfl, rfl⟩ | ⟨hji, hj⟩
      · rw [hx] at hy; cases hy
        rw [e] at hl; cases hl
      · obtain ⟨v', hv', r'⟩ := q j y d' hy hj hl
        exact ⟨v', hv', r'.keeps k1⟩
    · rcases at_ j d' hj with ⟨rfl, rfl⟩ | ⟨hji, hj⟩
      · rw [hx] at hy; cases hy
        exact ⟨b, v, hb, hc', r.keeps k1⟩
      · obtain ⟨b', v', hb', hc, r'⟩ := S.cl j y d' hy hj hl
        exact ⟨b', v', hb', hc.sameBut sb (apart y b' (ne_ j y hji hy) hb'), r'.keeps k1⟩
    · obtain ⟨v', hc⟩ := S.ce p hp
      by_cases q : p.2 = b
      · exact ⟨_, q ▸ hc'⟩
      · exact ⟨v', hc.sameBut sb q⟩
/-- a plain local stored -/
theorem stLocal {A : Around} {E : Env} {hs : List Addr} {s : Shared} {x : Str} {d : D} {v : Value} {Q : Unit → Shared → Prop} {Er : Value → Shared → Prop} (i : Nat) (ok : f.Ok) (O : EOk f E) (S : Sat c f E hs Γ μ s.heap) (hx : f.ks[i]? = some x) (e : f.cs.names.lookup x = some .local)
    (r : Rep (Pr c) (hid s.heap (T E μ hs)) d v) (k : ∀ h' tk, LeX [E.locals] s.heap h' → Sat c f E hs (Γ.set i (some d)) μ h' → Q () { s with heap := h', toks := tk }) : wpAny (Md c) A (storeName E x v) Q Er s := by
  have hk : E.scope.kind = .function := by rw [O.sc]; exact ok.fn
  have kk : E.kindOf x = f.cs.names.lookup x := by unfold Env.kindOf; rw [O.sc]
  have at_ : ∀ (j : Nat) (d' : D), (Γ.set i (some d))[j]? = some (some d') → (j = i ∧ d' = d) ∨ (j ≠ i ∧ Γ[j]? = some (some d')) := fun j d' e => by
    rw [List.getElem?_set] at e
    split at e
    · rename_i q
      split at e
      · exact .inl ⟨q.symm, by simpa using e.symm⟩
      · cases e
    · rename_i q; exact .inr ⟨fun z => q z.symm, e⟩
  have ne_ : ∀ (j : Nat) (y : Str), j ≠ i → f.ks[j]? = some y → y ≠ x := fun j y hji hy e => by
    subst e
    exact hji ((List.getElem?_inj (by have := List.getElem?_eq_some_iff.mp hy; exact this.1) ok.nd).mp (hy.trans hx.symm))
  have one : ∀ (b : Addr) (h' : Heap), b ∈ own E → Heap.SameBut b s.heap h' → Le (hid s.heap (T E μ hs)) (hid h' (T E μ hs)) := fun b h' hb sb => hid_mono (Y := [b]) (fun z o nz e => by
      rw [sb.2 z (fun q => nz (by rw [q]; exact List.mem_singleton.mpr rfl))]; exact e) (fun z q => by rw [List.mem_singleton.mp q]; exact List.mem_append_left _ (List.mem_append_left _ hb)) fun _ q => q
  have xb : ∀ (b : Addr) (h' : Heap), b ∈ own E → Heap.SameBut b s.heap h' → LeX [b] s.heap h' := fun b h' hb sb z o nz e => by rw [sb.2 z (fun q => nz (List.mem_singleton.mpr q))]; exact e
  have muo : ∀ (b : Addr) (h' : Heap), b ∈ own E → Heap.SameBut b s.heap h' → ∀ p ∈ μ, MRep (Pr c) (hid h' (T E μ hs)) h' p.1 p.2 := fun b h' hb sb p hp => (S.mu p hp).keeps (one b h' hb sb) fun o e => by
    rw [sb.2 _ (fun q => (List.nodup_append.mp S.nd).2.2 b hb p.1 (addrs_mem hp) q.symm)]; exact e
  have belo : ∀ (b : Addr) (h' : Heap), b ∈ own E → Heap.SameBut b s.heap h' → ∀ a ∈ hs, ∃ o, h'.get? a = some o := fun b h' hb sb a ha => (S.bel a ha).imp fun o e => by
    rw [sb.2 _ (fun q => S.dis b (List.mem_append_left _ hb) (q ▸ ha))]; exact e
  have ndo := (List.nodup_append.mp S.nd).1
  obtain ⟨m, hn, q⟩ := S.ns
  refine wpAny_storeName_local (kk.trans e) hn (fun h' hn' sb => k h' _ (xb _ h' (List.mem_cons_self ..) sb) ?_) (by rw [hk]; rfl)
  have k1 := one _ h' (List.mem_cons_self ..) sb
  refine ⟨S.nd, S.dis, belo _ h' (List.mem_cons_self ..) sb, S.wd.keeps k1, ⟨_, hn', fun j y d' hy hj hl => ?_⟩, fun j y d' hy hj hl => ?_, fun p hp => ?_, muo _ h' (List.mem_cons_self ..) sb⟩
  · rcases at_ j d' hj with ⟨rfl, rfl⟩ | ⟨hji, hj⟩
    · rw [hx] at hy; cases hy
      exact ⟨v, if_pos rfl, r.keeps k1⟩
    · obtain ⟨v', hv', r'⟩ := q j y d' hy hj hl
      exact ⟨v', by rw [if_neg (ne_ j y hji hy)]; exact hv', r'.keeps k1⟩
  · rcases at_ j d' hj with ⟨rfl, rfl⟩ | ⟨hji, hj⟩
    · rw [hx] at hy; cases hy
      exact absurd e hl
    · obtain ⟨b, v', hb, hc, r'⟩ := S.cl j y d' hy hj hl
      exact ⟨b, v', hb, hc.sameBut sb (fun q => (List.nodup_cons.mp ndo).1 (q ▸ List.mem_map_of_mem (mem_of_lookup hb))), r'.keeps k1⟩
  · obtain ⟨v', hc⟩ := S.ce p hp
    exact ⟨v', hc.sameBut sb (fun q => (List.nodup_cons.mp ndo).1 (q ▸ List.mem_map_of_mem hp))⟩
end
end Mine
namespace Mine
section
variable {c : Cx} {f : Fi} {n : Nat} {Γ Γ' Γ1 : Ga} {μ μ' μ1 μ2 : Mu} {P : Out → Prop}

noncomputable def noComp : Expr → Bool
  | .ListComp .. | .SetComp .. | .DictComp .. => false
  | _ => true
theorem swaps_no {e : Expr} {t : Option Expr} {l : Nat} {E : Env} (h : noComp e = true) : swapsWith e t l E = pure false := by
  cases e <;> first | rfl | cases h

theorem swapsSole_no {e : Expr} {ts : List Expr} {l : Nat} {E : Env} (h : noComp e = true) : swapsWithSole ts e l E = pure false := by
  match ts with
  | [] => rfl
  | [t] => exact swaps_no h
  | _ :: _ :: _ => rfl
theorem LeX.addl {X Y : List Addr} {a b : Heap} (x : LeX X a b) : LeX (X ++ Y) a b := x.mono fun z q => List.mem_append_left _ q
theorem LeX.addr {X Y : List Addr} {a b : Heap} (x : LeX Y a b) : LeX (X ++ Y) a b := x.mono fun z q => List.mem_append_right _ q

theorem Ex1.assign {x : Str} {px pos : Pos} {e : Expr} {d : D} (i : Nat) (h1 : Ev c f n Γ μ e d μ1) (hp : P (.nxt (Γ.set i (some d)) μ1)) (hx : f.ks[i]? = some x := by rfl) (hc : noComp e = true := by rfl) : Ex1 c f n Γ μ (.Assign [.Name x px] e pos) P :=
  fun A E hs s Q Er ok R O S k => wpAny_Assign_Name (h1.run A E hs s _ Er ok R O S fun v ha t1 l1 S1 r1 => stName i ok O S1 hx (by rw [T_ad h1.ad]; exact r1) fun h' tk l S2 =>
    k _ .next h' tk hp (l1.addl.trans (l.addr)) (fun a q => .inl (by have : a ∈ addrs μ1 := q; rwa [h1.ad] at this)) S2) (swaps_no hc)
theorem Ex1.expr {pos : Pos} {e : Expr} {d : D} (h1 : Ev c f n Γ μ e d μ1) (hp : P (.nxt Γ μ1)) (hc : noComp e = true := by rfl) : Ex1 c f n Γ μ (.Expr e pos) P :=
  fun A E hs s Q Er ok R O S k => wpAny_Expr_any (h1.run A E hs s _ Er ok R O S fun v ha t1 l1 S1 r1 => k _ .next ha t1 hp l1.addl (fun a q => .inl (by have : a ∈ addrs μ1 := q; rwa [h1.ad] at this)) S1)
    (by unfold interactive; rw [show E.scope.kind = .function by rw [O.sc]; exact ok.fn]; rfl) (swaps_no hc)
theorem Ex1.ret {pos : Pos} {e : Expr} {d : D} (h1 : Ev c f n Γ μ e d μ1) (hp : P (.ret d μ1)) : Ex1 c f n Γ μ (.Return (some e) pos) P :=
  fun A E hs s Q Er ok R O S k => wpAny_Return_some (h1.run A E hs s _ Er ok R O S fun v ha t1 l1 S1 r1 => k (.ret d μ1) (.ret v) ha t1 hp l1.addl (fun a q => .inl (by have : a ∈ addrs μ1 := q; rwa [h1.ad] at this)) ⟨S1.weak fun i d q => by simp at q, by rw [T_ad h1.ad]; exact r1⟩)
theorem Ex1.cont {pos : Pos} (hp : P (.cnt Γ μ)) : Ex1 c f n Γ μ (.Continue pos) P :=
  fun A E hs s Q Er ok R O S k => wpAny_Continue (k (.cnt Γ μ) .cont s.heap s.toks hp (LeX.refl _ _) (fun a q => .inl q) S)
theorem Ex.after {E : Env} {hs : List Addr} {ss : List Stmt} {A : Around} {s : Shared} {h1 : Heap} {t1 : Tok} {Q : Flow → Shared → Prop} {Er : Value → Shared → Prop} (h : Ex c f n Γ μ1 ss P) (ad : addrs μ1 = addrs μ) (ok : f.Ok) (R : Room A n) (O : EOk f E) (S1 : Sat c f E hs Γ μ1 h1) (l1 : LeX (addrs μ ++ own E) s.heap h1)
    (k : ∀ o fl h' tk, P o → LeX (addrs μ ++ own E) s.heap h' → (∀ a ∈ addrs o.mu, a ∈ addrs μ ∨ s.heap.get? a = none) → OutSat c f E hs o fl h' → Q fl { s with heap := h', toks := tk }) :
    wpAny (Md c) A (execs ss E) Q Er { s with heap := h1, toks := t1 } :=
  h A E hs _ Q Er ok R O S1 fun o fl h' tk p l fr os => k o fl h' tk p (l1.trans (by rw [← ad]; exact l)) (fun a ha => by
    rcases fr a ha with q | q
    · exact .inl (ad ▸ q)
    · cases e : s.heap.get? a with
      | none => exact .inr rfl
      | some x =>
        by_cases m : a ∈ addrs μ ++ own E
        · rcases List.mem_append.mp m with m | m
          · exact .inl m
          · obtain ⟨y, hy⟩ := S1.belT a (List.mem_append_left _ (List.mem_append_left _ m))
            rw [show h1.get? a = none from q] at hy; cases hy
        · have := l1 a x m e
          rw [show h1.get? a = none from q] at this; cases this) os
theorem Ex1.if_t {t : Expr} {b o : List Stmt} {pos : Pos} (h1 : Ts c f n Γ μ t true μ1) (h2 : Ex c f n Γ μ1 b P) : Ex1 c f n Γ μ (.If t b o pos) P :=
  fun A E hs s Q Er ok R O S k => wpAny_If (h1.run A E hs s _ Er ok R O S fun ha t1 l1 S1 => h2.after (t1 := t1) h1.ad ok R O S1 l1.addl k)
theorem Ex1.if_f {t : Expr} {b o : List Stmt} {pos : Pos} (h1 : Ts c f n Γ μ t false μ1) (h2 : Ex c f n Γ μ1 o P) : Ex1 c f n Γ μ (.If t b o pos) P :=
  fun A E hs s Q Er ok R O S k => wpAny_If (h1.run A E hs s _ Er ok R O S fun ha t1 l1 S1 => h2.after (t1 := t1) h1.ad ok R O S1 l1.addl k)
theorem Ex1.iff {t : Expr} {b o : List Stmt} {pos : Pos} {q : Bool} (h1 : Ts c f n Γ μ t q μ1) (ht : q = true → Ex c f n Γ μ1 b P) (hf : q = false → Ex c f n Γ μ1 o P) : Ex1 c f n Γ μ (.If t b o pos) P := by
  cases q
  · exact .if_f h1 (hf rfl)
  · exact .if_t h1 (ht rfl)
theorem Ex1.aug {x : Str} {px pos : Pos} {e : Expr} {op : Operator} {d0 d1 d : D} (i : Nat) (hd : Γ[i]? = some (some d0)) (h1 : Ev c f n Γ μ e d1 μ1) (hop : Pu2 c n (inplaceOp op) d0 d1 d) (hp : P (.nxt (Γ.set i (some d)) μ1)) (hb : (x == ("__classdict__" : Str)) = false) (hx : f.ks[i]? = some x := by rfl) :
    Ex1 c f n Γ μ (.AugAssign (.Name x px) op e pos) P :=
  fun A E hs s Q Er ok R O S k => wpAny_AugAssign_Name (ldName ok O S hx hd hb fun v0 r0 => h1.run A E hs s _ Er ok R O S fun v ha t1 l1 S1 r1 =>
    hop A (T E μ hs) _ v0 v _ Er R (by have := S1.belT; rwa [T_ad h1.ad] at this) (by have := S1.wd; rwa [T_ad h1.ad] at this) (r0.over l1) r1 fun v2 hb t2 l2 r2 => stName i ok O (S1.pure l2) hx (by rw [T_ad h1.ad]; exact r2) fun h' tk l S2 =>
      k _ .next h' tk hp ((l1.addl.trans l2.x).trans l.addr) (fun a q => .inl (by have : a ∈ addrs μ1 := q; rwa [h1.ad] at this)) S2)

/-- several names at once -/
noncomputable def setMany (Γ : Ga) : List (Nat × D) → Ga
  | [] => Γ
  | (i, d) :: r => setMany (Γ.set i (some d)) r
structure Tgt where
  x : Str
  p : Pos
  i : Nat
theorem storeMany {A : Around} {E : Env} {hs : List Addr} {Er : Value → Shared → Prop} (ok : f.Ok) (O : EOk f E) (ts : List Tgt) : ∀ (ds : List D) (vs : List Value) (Γ : Ga) (s : Shared) (Q : Unit → Shared → Prop),
    Sat c f E hs Γ μ s.heap → RepL (Pr c) (hid s.heap (T E μ hs)) ds vs → ts.length = ds.length → (∀ t ∈ ts, f.ks[t.i]? = some t.x) →
    (∀ h' tk, LeX (own E) s.heap h' → Sat c f E hs (setMany Γ ((ts.map (·.i)).zip ds)) μ h' → Q () { s with heap := h', toks := tk }) →
    wpAny (Md c) A (assignInOrder (ts.map fun t => assign (.Name t.x t.p) E) vs) Q Er s := by
  induction ts with
  | nil =>
    intro ds vs Γ s Q S r hl hx k
    exact wpAny_pure (k s.heap s.toks (LeX.refl _ _) (by rw [List.map_nil, List.zip_nil_left]; exact S))
  | cons t ts ih =>
    intro ds vs Γ s Q S r hl hx k
    cases r with
    | nil => cases hl
    | cons r rs =>
      rename_i d v ds vs
      refine wpAny_bind (wpAny_holding (wpAny_assign_Name (stName t.i ok O S (hx t (List.mem_cons_self ..)) r fun h' tk l S2 => ?_)))
      have le : Le (hid s.heap (T E μ hs)) (hid h' (T E μ hs)) := hid_mono l (fun z q => List.mem_append_left _ (List.mem_append_left _ q)) fun _ q => q
      exact ih ds vs _ _ Q S2 (rs.keeps le) (by simpa using hl) (fun t' m => hx t' (List.mem_cons_of_mem _ m)) fun h2 tk2 l2 S3 => k h2 tk2 (l.trans l2) S3
noncomputable def tgtE (t : Tgt) : Expr := .Name t.x t.p
theorem Ex1.unpack {ts : List Tgt} {pt pos : Pos} {k0 : Nat} {e : Expr} {ds : List D} (h1 : Ev c f n Γ μ e (.tup ds) μ1) (hp : P (.nxt (setMany Γ ((ts.map (·.i)).zip ds)) μ1)) (hx : ∀ t ∈ ts, f.ks[t.i]? = some t.x) (hl : ts.length = ds.length := by rfl)
    (hc : noComp e = true := by rfl) (hw : ∀ E : Env, swappedStores [.Tuple (ts.map tgtE) k0 pt] e E = pure none := by intro _; rfl) : Ex1 c f n Γ μ (.Assign [.Tuple (ts.map tgtE) k0 pt] e pos) P :=
  fun A E hs s Q Er ok R O S k => by
    refine wpAny_Assign_stores (h1.run A E hs s _ Er ok R O S fun v ha t1 l1 S1 r1 => ?_) (swapsSole_no hc) (hw E)
    rw [← T_ad h1.ad] at r1
    cases r1 with
    | tup ht rl =>
      rename_i a vs
      show wpAny (Md c) A (PySem.assign (Expr.Tuple (ts.map tgtE) k0 pt) E (Value.ref a)) _ _ _
      have e1 : ∀ ts : List Tgt, assignEach (ts.map tgtE) E = ts.map fun t => (false, PySem.assign (.Name t.x t.p) E) := fun ts => by
        induction ts with
        | nil => rfl
        | cons t ts ih => show (false, PySem.assign (.Name t.x t.p) E) :: assignEach (ts.map tgtE) E = _; rw [ih]; rfl
      have e2 : (assignEach (ts.map tgtE) E).map (·.2) = ts.map fun t => PySem.assign (.Name t.x t.p) E := by rw [e1, List.map_map]; rfl
      refine wpAny_assign_Tuple R.hd (ht.keeps (hid_le _ _)).is (by rw [e1, List.length_map, hl, rl.length]; simp) (by rw [e1, List.findIdx?_map]; exact List.findIdx?_eq_none_iff.mpr fun _ _ => rfl) fun h' lx => ?_
      have le : Le ha h' := fun b o e => lx b o (Nat.ne_of_lt (Heap.lt_size e)) e
      rw [e2]
      exact storeMany ok O ts ds vs Γ _ _ (S1.pure le) (rl.keeps (hid_le_of le)) hl hx fun h2 tk2 l2 S2 => k _ .next h2 tk2 hp ((l1.addl.trans le.x).trans l2.addr) (fun a q => .inl (by have : a ∈ addrs μ1 := q; rwa [h1.ad] at this)) S2
theorem Ex1.swap2 {x y : Str} {px py pt pv pos : Pos} {k0 k1 : Nat} {e1 e2 : Expr} {d1 d2 : D} (i j : Nat) (h1 : EvL c f n Γ μ [e1, e2] [d1, d2] μ1) (hp : P (.nxt ((Γ.set j (some d2)).set i (some d1)) μ1)) (hx : f.ks[i]? = some x) (hy : f.ks[j]? = some y)
    (hw : ∀ E : Env, E.scope = f.cs → swappedStores [.Tuple [.Name x px, .Name y py] k0 pt] (.Tuple [e1, e2] k1 pv) E = pure (some [x, y])) :
    Ex1 c f n Γ μ (.Assign [.Tuple [.Name x px, .Name y py] k0 pt] (.Tuple [e1, e2] k1 pv) pos) P :=
  fun A E hs s Q Er ok R O S k => by
    rw [exec_Assign_arm]
    refine wpAny_bind (wpAny_standAt ?_)
    rw [swapsSole_no (by rfl)]
    refine wpAny_bind (wpAny_pure ?_)
    simp only [Bool.false_eq_true, if_false]
    refine wpAny_bind (wpAny_Tuple_spliced (h1.run A E hs s _ Er _ ok R O S fun vs ha t1 l1 S1 r1 => ⟨by rw [← r1.length]; show 2 ≤ sizeLine; decide, ?_⟩))
    rw [hw E O.sc]
    refine wpAny_bind (wpAny_pure ?_)
    have r2 := r1.keeps (hid_le_of (X := T E μ hs) (Le.push ha { cls := .type "tuple", data := .seq vs.toArray }))
    show wpAny (Md c) A (do
      rule "assign.swapped-stores"
      let items ← unpackItems (Value.ref ha.objs.size) 2 none
      assignInOrder ([x, y].reverse.map fun n => bindName E n) items.reverse
      Pure.pure Flow.next) _ _ _
    refine wpAny_bind (wpAny_rule (wpAny_bind ?_))
    have ht : (ha.push { cls := .type "tuple", data := .seq vs.toArray }).IsTuple ha.objs.size vs.toArray := ⟨_, Heap.get?_push_size _ rfl, rfl, 0, rfl⟩
    have hz : vs.toArray.size = 2 := by rw [List.size_toArray, ← r1.length]; rfl
    rw [← hz]
    refine wpAny_unpackItems_tuple R.hd ht fun h' lx => ?_
    have le : Le ha h' := fun b o e => lx b o (by rw [Heap.size_push]; exact Nat.ne_of_lt (Nat.lt_succ_of_lt (Heap.lt_size e))) (Heap.get?_push_of_some _ e)
    have S2 := S1.pure le
    have r3 := r1.keeps (hid_le_of (X := T E μ hs) le)
    rw [← T_ad h1.ad] at r3
    cases r3 with
    | cons q1 rl =>
      cases rl with
      | cons q2 rl =>
        cases rl
        rename_i v1 v2
        show wpAny (Md c) A (do
          (do holding [v1] (bindName E y v2); (do holding [] (bindName E x v1); Pure.pure ()))
          Pure.pure Flow.next) _ _ _
        refine wpAny_bind (wpAny_bind (wpAny_holding (wpAny_bindName (stName j ok O S2 hy q2 fun h2 t2 l2 S3 => ?_))))
        have le3 : Le (hid h' (T E μ1 hs)) (hid h2 (T E μ1 hs)) := hid_mono l2 (fun z q => List.mem_append_left _ (List.mem_append_left _ q)) fun _ q => q
        refine wpAny_bind (wpAny_holding (wpAny_bindName (stName i ok O S3 hx (q1.keeps le3) fun h3 t3 l3 S4 => wpAny_pure (wpAny_pure ?_))))
        exact k _ .next h3 t3 hp (((l1.addl.trans le.x).trans l2.addr).trans l3.addr) (fun a q => .inl (by have : a ∈ addrs μ1 := q; rwa [h1.ad] at this)) S4
end
end Mine
namespace Mine

/-- how a value is gone through, item by item -/
structure ItOk (c : Cx) (s : Shared) (hs : List Addr) (xs : List D) (it : Addr) (It : Nat → Heap → Prop) : Prop where
  at_ : ∀ k h1 h2, It k h1 → (∀ o, h1.get? it = some o → h2.get? it = some o) → It k h2
  is_ : ∀ k h1, It k h1 → ∃ o, h1.get? it = some o
  item : ∀ (k : Nat) (A : Around) (s1 : Shared) (Q : Option Value → Shared → Prop) (Er : Value → Shared → Prop) (d : D), A.handled = none → It k s1.heap → Le (hid s.heap hs) s1.heap → xs[k]? = some d →
    (∀ v h2 tk, It (k + 1) h2 → LeX [it] s1.heap h2 → Rep (Pr c) (hid s.heap hs) d v → Q (some v) { s1 with heap := h2, toks := tk }) → wpAny (Md c) A (pyNext (.ref it)) Q Er s1
  stop : ∀ (A : Around) (s1 : Shared) (Q : Option Value → Shared → Prop) (Er : Value → Shared → Prop), A.handled = none → It xs.length s1.heap → Le (hid s.heap hs) s1.heap → (∀ h2 tk, LeX [it] s1.heap h2 → Q none { s1 with heap := h2, toks := tk }) → wpAny (Md c) A (pyNext (.ref it)) Q Er s1
  self : ∀ (A : Around) (s1 : Shared) (Q : Value → Shared → Prop) (Er : Value → Shared → Prop) (k : Nat), It k s1.heap → Q (.ref it) s1 → wpAny (Md c) A (pyIter (.ref it)) Q Er s1
noncomputable def IterD (c : Cx) (d : D) (xs : List D) : Prop :=
  ∀ (A : Around) (hs : List Addr) (s : Shared) (v : Value) (Q : Value → Shared → Prop) (Er : Value → Shared → Prop), A.handled = none → Rep (Pr c) (hid s.heap hs) d v →
    (∀ it h' tk It, Le s.heap h' → s.heap.get? it = none → ItOk c s hs xs it It → It 0 h' → Q (.ref it) { s with heap := h', toks := tk }) → wpAny (Md c) A (pyIter v) Q Er s

theorem iter_lst {c : Cx} {l : List D} : IterD c (.lst l) l := by
  intro A hs s v Q Er hh r k
  cases r with
  | lst hl rl =>
    rename_i a vs
    have hl' := (hl.keeps (hid_le _ _)).is
    refine wpAny_pyIter_list hl' (k s.heap.objs.size _ s.toks (fun i h => h.IsListIter s.heap.objs.size a i) (Le.push _ _) (fresh_none (Nat.le_refl _)) ?_ ⟨_, Heap.get?_push_size _ rfl, rfl, rfl⟩)
    have hne : ∀ (h : Heap), a ≠ s.heap.objs.size := fun h => by obtain ⟨o, e, _⟩ := hl'; exact Nat.ne_of_lt (Heap.lt_size e)
    refine ⟨fun i h1 h2 ⟨o, e, q⟩ g => ⟨o, g o e, q⟩, fun i h1 ⟨o, e, q⟩ => ⟨o, e⟩, fun i A s1 Q Er d hh hi le hx kk => ?_, fun A s1 Q Er hh hi le kk => ?_, fun A s1 Q Er i hi q => wpAny_pyIter_listiter hi q⟩
    · obtain ⟨x, hx', rx⟩ := rl.get hx
      exact wpAny_pyNext_list_item hi (hl.keeps le).is (by simpa using hx') fun h' hi' sb => kk x h' _ hi' (fun z o nz e => by rw [sb.2 z (fun q => nz (by rw [q]; exact List.mem_singleton.mpr rfl))]; exact e) rx
    · exact wpAny_pyNext_list_end hh hi (hl.keeps le).is (by rw [rl.length]; simp) fun h' ex => kk h' _ fun z o nz e => ex z o (fun q => nz (by rw [q]; exact List.mem_singleton.mpr rfl)) e
theorem range_size {n : Nat} : Builtin.Range.rangeSize 0 n 1 = n := by
  unfold Builtin.Range.rangeSize
  by_cases h : 0 < n
  · have h1 : (0:Int) < n := by omega
    simp only [show (0:Int) < 1 by decide, h1, if_true]
    omega
  · have : n = 0 := by omega
    subst this; rfl
theorem small_range {n : Nat} (h : n < 2 ^ 60) : Builtin.Range.small 0 n 1 = true := by
  have fit : ∀ i : Int, 0 ≤ i → i < 2 ^ 60 → Builtin.Range.rangeFitsLong i = true := fun i h0 h1 => Bool.and_eq_true_iff.mpr ⟨decide_eq_true (by omega), decide_eq_true (by omega)⟩
  unfold Builtin.Range.small
  rw [range_size, fit 0 (by omega) (by omega), fit n (by omega) (by omega), fit 1 (by omega) (by omega), if_pos (by decide), show (n : Int) + (1 - 1) = n by omega, fit n (by omega) (by omega)]
  simp
theorem iter_rng {c : Cx} {n : Nat} (hn : n < 2 ^ 60) : IterD c (.rng n) ((List.range n).map fun (i : Nat) => dI i) := by
  intro A hs s v Q Er hh r k
  cases r with
  | rng hr =>
    rename_i a t u x
    have hr' : IsRange s.heap a 0 n 1 t u x := hid_le _ _ _ _ hr
    have hsz : Builtin.Range.rangeSize 0 n 1 = n := range_size
    refine wpAny_pyIter_range hr' (small_range hn) (k s.heap.objs.size _ s.toks (fun i h => IsRangeIter h s.heap.objs.size i ((n : Int) - i) 1) (Le.push _ _) (fresh_none (Nat.le_refl _)) ?_ (by rw [hsz]; show Heap.get? _ _ = _; rw [Heap.get?_push_size _ rfl]; simp))
    refine ⟨fun i h1 h2 e g => g _ e, fun i h1 e => ⟨_, e⟩, fun i A s1 Q Er d hh hi le hx kk => ?_, fun A s1 Q Er hh hi le kk => ?_, fun A s1 Q Er i hi q => wpAny_pyIter_rangeiter hi q⟩
    · have hlt : i < n := by
        have := (List.getElem?_eq_some_iff.mp hx).1
        simpa using this
      have hd : d = dI i := by
        rw [List.getElem?_map, List.getElem?_range hlt] at hx
        simpa using hx.symm
      subst hd
      refine wpAny_pyNext_range_item hi (by omega) fun h' hi' sb => kk _ h' _ (by push_cast; rw [show (n : Int) - (i + 1) = n - i - 1 by omega]; exact hi') (fun z o nz e => by rw [sb.2 z (fun q => nz (by rw [q]; exact List.mem_singleton.mpr rfl))]; exact e) (.dat (.int _ _))
    · refine wpAny_pyNext_range_end hh hi (by simp) fun h' ex => kk h' _ fun z o nz e => ex z o (fun q => nz (by rw [q]; exact List.mem_singleton.mpr rfl)) e

section
variable {c : Cx} {f : Fi} {n : Nat} {Γ Γ' Γ1 : Ga} {μ μ' μ1 μ2 : Mu} {P : Out → Prop}
/-- one more thing is hidden: an iterator -/
theorem Sat.more {E : Env} {hs : List Addr} {h h' : Heap} {it : Addr} (S : Sat c f E hs Γ μ h) (l : Le h h') (hn : h.get? it = none) (hi : ∃ o, h'.get? it = some o) : Sat c f E (it :: hs) Γ μ h' := by
  have kk : Le (hid h (T E μ hs)) (hid h' (T E μ (it :: hs))) := hid_mono' (Y := []) l.x (fun z q => (List.not_mem_nil q).elim) fun z q => by
    rcases List.mem_append.mp q with q | q
    · exact .inl (List.mem_append_left _ q)
    · rcases List.mem_cons.mp q with rfl | q
      · exact .inr hn
      · exact .inl (List.mem_append_right _ q)
  refine ⟨S.nd, fun a ha q => ?_, fun a ha => ?_, S.wd.keeps kk, ?_, ?_, ?_, fun p hp => (S.mu p hp).keeps kk fun o e => l _ _ e⟩
  · rcases List.mem_cons.mp q with rfl | q
    · obtain ⟨o, e⟩ := S.belT a (List.mem_append_left _ ha); rw [hn] at e; cases e
    · exact S.dis a ha q
  · rcases List.mem_cons.mp ha with rfl | ha
    · exact hi
    · exact (S.bel a ha).imp fun o e => l _ _ e
  · obtain ⟨m, ⟨o, es, ep, e, r⟩, q⟩ := S.ns
    exact ⟨m, ⟨o, es, ep, l _ _ e, r⟩, fun i x d a b g => (q i x d a b g).imp fun v t => ⟨t.1, t.2.keeps kk⟩⟩
  · intro i x d a b g
    obtain ⟨z, v, p, ⟨o, e, t⟩, u⟩ := S.cl i x d a b g
    exact ⟨z, v, p, ⟨o, l _ _ e, t⟩, u.keeps kk⟩
  · intro p hp
    obtain ⟨v, o, e, t⟩ := S.ce p hp
    exact ⟨v, o, l _ _ e, t⟩
/-- a hidden thing turns -/
theorem Sat.hidden {E : Env} {hs : List Addr} {h h' : Heap} {it : Addr} (S : Sat c f E hs Γ μ h) (l : LeX [it] h h') (hm : it ∈ hs) (hi : ∃ o, h'.get? it = some o) : Sat c f E hs Γ μ h' := by
  have kk : Le (hid h (T E μ hs)) (hid h' (T E μ hs)) := hid_mono l (fun z q => by rw [List.mem_singleton.mp q]; exact List.mem_append_right _ hm) fun _ q => q
  have ow : ∀ a ∈ own E ++ addrs μ, ∀ o, h.get? a = some o → h'.get? a = some o := fun a ha o e => l a o (fun q => S.dis a ha (by rw [List.mem_singleton.mp q]; exact hm)) e
  refine ⟨S.nd, S.dis, fun a ha => ?_, S.wd.keeps kk, ?_, ?_, ?_, fun p hp => (S.mu p hp).keeps kk fun o e => ow _ (List.mem_append_right _ (addrs_mem hp)) _ e⟩
  · by_cases q : a = it
    · subst q; exact hi
    · exact (S.bel a ha).imp fun o e => l a o (fun z => q (List.mem_singleton.mp z)) e
  · obtain ⟨m, ⟨o, es, ep, e, r⟩, q⟩ := S.ns
    exact ⟨m, ⟨o, es, ep, ow _ (List.mem_append_left _ (List.mem_cons_self ..)) _ e, r⟩, fun i x d a b g => (q i x d a b g).imp fun v t => ⟨t.1, t.2.keeps kk⟩⟩
  · intro i x d a b g
    obtain ⟨z, v, p, ⟨o, e, t⟩, u⟩ := S.cl i x d a b g
    exact ⟨z, v, p, ⟨o, ow _ (List.mem_append_left _ (List.mem_cons_of_mem _ (List.mem_map_of_mem (mem_of_lookup p)))) _ e, t⟩, u.keeps kk⟩
  · intro p hp
    obtain ⟨v, o, e, t⟩ := S.ce p hp
    exact ⟨v, o, ow _ (List.mem_append_left _ (List.mem_cons_of_mem _ (List.mem_map_of_mem hp))) _ e, t⟩
theorem Sat.gone {E : Env} {hs : List Addr} {h h' : Heap} {it : Addr} (S : Sat c f E (it :: hs) Γ μ h) (l : LeX [it] h h') (hm : it ∉ hs) : Sat c f E hs Γ μ h' := by
  have kk : Le (hid h (T E μ (it :: hs))) (hid h' (T E μ hs)) := hid_mono l (fun z q => by rw [List.mem_singleton.mp q]; exact List.mem_append_right _ (List.mem_cons_self ..)) fun z q => by
    rcases List.mem_append.mp q with q | q
    · exact List.mem_append_left _ q
    · exact List.mem_append_right _ (List.mem_cons_of_mem _ q)
  have ow : ∀ a ∈ own E ++ addrs μ, ∀ o, h.get? a = some o → h'.get? a = some o := fun a ha o e => l a o (fun q => S.dis a ha (by rw [List.mem_singleton.mp q]; exact List.mem_cons_self ..)) e
  refine ⟨S.nd, fun a ha q => S.dis a ha (List.mem_cons_of_mem _ q), fun a ha => ?_, S.wd.keeps kk, ?_, ?_, ?_, fun p hp => (S.mu p hp).keeps kk fun o e => ow _ (List.mem_append_right _ (addrs_mem hp)) _ e⟩
  · exact (S.bel a (List.mem_cons_of_mem _ ha)).imp fun o e => l a o (fun z => hm (List.mem_singleton.mp z ▸ ha)) e
  · obtain ⟨m, ⟨o, es, ep, e, r⟩, q⟩ := S.ns
    exact ⟨m, ⟨o, es, ep, ow _ (List.mem_append_left _ (List.mem_cons_self ..)) _ e, r⟩, fun i x d a b g => (q i x d a b g).imp fun v t => ⟨t.1, t.2.keeps kk⟩⟩
  · intro i x d a b g
    obtain ⟨z, v, p, ⟨o, e, t⟩, u⟩ := S.cl i x d a b g
    exact ⟨z, v, p, ⟨o, ow _ (List.mem_append_left _ (List.mem_cons_of_mem _ (List.mem_map_of_mem (mem_of_lookup p)))) _ e, t⟩, u.keeps kk⟩
  · intro p hp
    obtain ⟨v, o, e, t⟩ := S.ce p hp
    exact ⟨v, o, ow _ (List.mem_append_left _ (List.mem_cons_of_mem _ (List.mem_map_of_mem hp))) _ e, t⟩
theorem fresh_back {E : Env} {hs : List Addr} {h0 h : Heap} {a : Addr} (S : Sat c f E hs Γ μ' h) (l : LeX (addrs μ ++ own E) h0 h) (e : h.get? a = none) : a ∈ addrs μ ∨ h0.get? a = none := by
  cases q : h0.get? a with
  | none => exact .inr rfl
  | some x =>
    by_cases m : a ∈ addrs μ ++ own E
    · rcases List.mem_append.mp m with m | m
      · exact .inl m
      · obtain ⟨y, hy⟩ := S.belT a (List.mem_append_left _ (List.mem_append_left _ m))
        rw [e] at hy; cases hy
    · have := l a x m q
      rw [e] at this; cases this
theorem OutSat.fewer {E : Env} {hs hs' : List Addr} {o : Out} {fl : Flow} {h : Heap} (S : OutSat c f E hs o fl h) (s : ∀ a ∈ hs', a ∈ hs) : OutSat c f E hs' o fl h := by
  cases o <;> cases fl <;> first | exact S.elim | exact Sat.fewer S s | skip
  obtain ⟨a, b⟩ := S
  exact ⟨a.fewer s, b.keeps (hid_mono (LeX.refl [] h) (fun z q => (List.not_mem_nil q).elim) fun z q => by
    rcases List.mem_append.mp q with q | q
    · exact List.mem_append_left _ q
    · exact List.mem_append_right _ (s z q))⟩

/-- what a turn may leave behind -/
noncomputable def Turn (Γ1 : Ga) (μ1 : Mu) (P : Out → Prop) : Out → Prop
  | .nxt Γ μ | .cnt Γ μ => (∀ (i : Nat) (d : D), Γ1[i]? = some (some d) → Γ[i]? = some (some d)) ∧ μ = μ1
  | .brk _ _ => False
  | .ret d μ => P (.ret d μ)
theorem Ex1.forIn {x : Str} {px pos : Pos} {it : Expr} {body : List Stmt} {d0 : D} {xs : List D} (i : Nat) (h1 : Ev c f n Γ μ it d0 μ1) (hI : IterD c d0 xs) (I : Nat → Ga) (J : Nat → Mu) (I0 : ∀ (i : Nat) (d : D), (I 0)[i]? = some (some d) → Γ[i]? = some (some d)) (J0 : J 0 = μ1) (hJ : ∀ k, addrs (J k) = addrs μ)
    (step : ∀ (k : Nat) (d : D), xs[k]? = some d → Ex c f n ((I k).set i (some d)) (J k) body (Turn (I (k + 1)) (J (k + 1)) P)) (hp : P (.nxt (I xs.length) (J xs.length))) (hx : f.ks[i]? = some x := by rfl)
    (hs' : ∀ (E : Env) (v : Value), foldedSetIterable it E v = pure v := by intro _ _; rfl) : Ex1 c f n Γ μ (.For (.Name x px) it body [] pos) P :=
  fun A E hs s Q Er ok R O S k => by
    refine wpAny_For (h1.run A E hs s _ Er ok R O S fun v ha t1 l1 S1 r1 => hI A (T E μ hs) _ v _ Er R.hd r1 fun ia hb t2 It l2 hn ok2 i0 => ?_) (hs' E)
    have sub0 : ∀ k, ∀ z, z ∈ T E (J k) hs ↔ z ∈ T E μ hs := fun k z => by rw [T_ad (hJ k)]
    have none_ : s.heap.get? ia = none := by
      cases q : s.heap.get? ia with
      | none => rfl
      | some o =>
        by_cases m : ia ∈ addrs μ
        · obtain ⟨y, hy⟩ := S1.belT ia (by rw [T_ad h1.ad]; simp only [T, List.mem_append]; exact .inl (.inr m))
          rw [show ha.get? ia = none from hn] at hy; cases hy
        · have := l1 ia o m q
          rw [show ha.get? ia = none from hn] at this; cases this
    have Sb := ((S1.weak (Γ' := I 0) I0).more l2 hn (ok2.is_ _ _ i0))
    have ndT : ∀ z, z ∈ addrs μ ++ own E → z ∈ T E μ hs := fun z q => by simp only [T, List.mem_append] at q ⊢; grind
    have leT : ∀ h', LeX (ia :: (addrs μ ++ own E)) ha h' → Le (hid ha (T E μ hs)) h' := fun h' lx b o e => by
      obtain ⟨e1, e2⟩ := hid_get.mp e
      exact lx b o (fun q => by
        rcases List.mem_cons.mp q with rfl | q
        · rw [hn] at e1; cases e1
        · exact e2 (ndT b q)) e1
    have fin_ : ∀ h', LeX (ia :: (addrs μ ++ own E)) ha h' → LeX (addrs μ ++ own E) s.heap h' := fun h' lx b o nb e => lx b o (fun q => by
      rcases List.mem_cons.mp q with rfl | q
      · rw [none_] at e; cases e
      · exact nb q) (l1 b o (fun q => nb (List.mem_append_left _ q)) e)
    refine codeAny_forLoop (fun m s' => ∃ kk h' tk, m = xs.length - kk ∧ kk ≤ xs.length ∧ s' = { s with heap := h', toks := tk } ∧ LeX (ia :: (addrs μ ++ own E)) ha h' ∧ Sat c f E (ia :: hs) (I kk) (J kk) h' ∧ It kk h') ?_ xs.length ⟨0, hb, t2, by simp, Nat.zero_le _, rfl, l2.x, by rw [J0]; exact Sb, i0⟩
    rintro m s' ⟨kk, h', tk, rfl, hk, rfl, lx, Sk, ik⟩
    by_cases hlast : kk = xs.length
    · subst hlast
      refine ok2.stop A _ _ _ R.hd ik (leT _ lx) fun h2 t2 lx2 => wpAny_execs_nil ?_
      have lx3 : LeX (ia :: (addrs μ ++ own E)) ha h2 := lx.trans (lx2.mono fun z q => by rw [List.mem_singleton.mp q]; exact List.mem_cons_self ..)
      exact k (.nxt (I xs.length) (J xs.length)) .next h2 t2 hp (fin_ _ lx3) (fun a q => .inl (by have : a ∈ addrs (J xs.length) := q; rwa [hJ] at this)) (Sk.gone lx2 (fun q => by obtain ⟨y, hy⟩ := S1.bel ia q; rw [show ha.get? ia = none from hn] at hy; cases hy))
    · obtain ⟨d, hd⟩ : ∃ d, xs[kk]? = some d := ⟨_, List.getElem?_eq_getElem (by omega)⟩
      refine ok2.item kk A _ _ _ d R.hd ik (leT _ lx) hd fun v h2 t2 ik2 lx2 rv => ?_
      have S2 := Sk.hidden lx2 (List.mem_cons_self ..) (ok2.is_ _ _ ik2)
      have lx3 : LeX (ia :: (addrs μ ++ own E)) ha h2 := lx.trans (lx2.mono fun z q => by rw [List.mem_singleton.mp q]; exact List.mem_cons_self ..)
      have leH : Le (hid ha (T E μ hs)) (hid h2 (T E (J kk) (ia :: hs))) := fun b o e => hid_get.mpr ⟨leT _ lx3 b o e, fun q => by
        obtain ⟨e1, e2⟩ := hid_get.mp e
        rw [T_ad (hJ kk)] at q
        rcases List.mem_append.mp q with q | q
        · exact e2 (List.mem_append_left _ q)
        · rcases List.mem_cons.mp q with rfl | q
          · rw [hn] at e1; cases e1
          · exact e2 (List.mem_append_right _ q)⟩
      refine wpAny_assign_Name (stName i ok O S2 hx (rv.keeps leH) fun h3 t3 l3 S3 => ?_)
      refine (step kk d hd) A E (ia :: hs) _ _ _ ok R O S3 fun o fl h4 t4 p4 l4 fr4 os4 => ?_
      have ik4 : It (kk + 1) h4 := ok2.at_ _ _ _ ik2 fun o e => l4 ia o (fun q => S3.dis ia (by
          rcases List.mem_append.mp q with q | q
          · exact List.mem_append_right _ q
          · exact List.mem_append_left _ q) (List.mem_cons_self ..)) (l3 ia o (fun q => S2.dis ia (List.mem_append_left _ q) (List.mem_cons_self ..)) e)
      have lx4 : LeX (ia :: (addrs μ ++ own E)) ha h4 := (lx3.trans (l3.mono fun z q => List.mem_cons_of_mem _ (List.mem_append_right _ q))).trans (l4.mono fun z q => List.mem_cons_of_mem _ (by rw [hJ] at q; exact q))
      cases o with
      | nxt Γ2 μ2 =>
        obtain ⟨g, rfl⟩ := p4
        cases fl with
        | next => exact ⟨xs.length - (kk + 1), by omega, kk + 1, h4, t4, rfl, by omega, rfl, lx4, Sat.weak os4 g, ik4⟩
        | _ => exact os4.elim
      | cnt Γ2 μ2 =>
        obtain ⟨g, rfl⟩ := p4
        cases fl with
        | cont => exact ⟨xs.length - (kk + 1), by omega, kk + 1, h4, t4, rfl, by omega, rfl, lx4, Sat.weak os4 g, ik4⟩
        | _ => exact os4.elim
      | brk => exact p4.elim
      | ret d2 μ2 =>
        cases fl with
        | ret v2 =>
          refine k (.ret d2 μ2) (.ret v2) h4 t4 p4 (fin_ _ lx4) ?_ (OutSat.fewer os4 fun a q => List.mem_cons_of_mem _ q)
          intro a q
          rcases fr4 a q with q | q
          · exact .inl (by rw [← hJ kk]; exact q)
          · exact fresh_back S3 (fin_ _ (lx3.trans (l3.mono fun z q => List.mem_cons_of_mem _ (List.mem_append_right _ q)))) q
        | _ => exact os4.elim

/-- a while: so many turns -/
theorem Ex1.while {test : Expr} {body : List Stmt} {pos : Pos} (N : Nat) (I : Nat → Ga) (J : Nat → Mu) (I0 : ∀ (i : Nat) (d : D), (I 0)[i]? = some (some d) → Γ[i]? = some (some d)) (J0 : J 0 = μ) (hJ : ∀ k, addrs (J k) = addrs μ)
    (step : ∀ k, k < N → ∃ μ1, Ts c f n (I k) (J k) test true μ1 ∧ Ex c f n (I k) μ1 body (Turn (I (k + 1)) (J (k + 1)) P)) (fin : Ts c f n (I N) (J N) test false (J N)) (hp : P (.nxt (I N) (J N))) : Ex1 c f n Γ μ (.While test body [] pos) P :=
  fun A E hs s Q Er ok R O S k => by
    refine wpAny_While (codeAny_whileLoop (fun m s' => ∃ kk h' tk, m = N - kk ∧ kk ≤ N ∧ s' = { s with heap := h', toks := tk } ∧ LeX (addrs μ ++ own E) s.heap h' ∧ Sat c f E hs (I kk) (J kk) h') ?_ N ⟨0, s.heap, s.toks, by simp, Nat.zero_le _, rfl, LeX.refl _ _, by rw [J0]; exact S.weak I0⟩)
    rintro m s' ⟨kk, h', tk, rfl, hk, rfl, lx, Sk⟩
    by_cases hlast : kk = N
    · subst hlast
      refine fin.run A E hs _ _ _ ok R O Sk fun h2 t2 l2 S2 => ?_
      refine wpAny_execs_nil (k (.nxt (I kk) (J kk)) .next h2 t2 hp (lx.trans (by rw [← hJ kk]; exact l2.addl)) (fun a q => .inl (by have : a ∈ addrs (J kk) := q; rwa [hJ] at this)) S2)
    · obtain ⟨μ1, ht, hb⟩ := step kk (by omega)
      refine ht.run A E hs _ _ _ ok R O Sk fun h2 t2 l2 S2 => ?_
      have lx2 : LeX (addrs μ ++ own E) s.heap h2 := lx.trans (by rw [← hJ kk]; exact l2.addl)
      have ea : addrs μ1 = addrs μ := ht.ad.trans (hJ kk)
      refine hb A E hs _ _ _ ok R O S2 fun o fl h4 t4 p4 l4 fr4 os4 => ?_
      have lx4 : LeX (addrs μ ++ own E) s.heap h4 := lx2.trans (by rw [← ea]; exact l4)
      cases o with
      | nxt Γ2 μ2 =>
        obtain ⟨g, rfl⟩ := p4
        cases fl with
        | next => exact ⟨N - (kk + 1), by omega, kk + 1, h4, t4, rfl, by omega, rfl, lx4, Sat.weak os4 g⟩
        | _ => exact os4.elim
      | cnt Γ2 μ2 =>
        obtain ⟨g, rfl⟩ := p4
        cases fl with
        | cont => exact ⟨N - (kk + 1), by omega, kk + 1, h4, t4, rfl, by omega, rfl, lx4, Sat.weak os4 g⟩
        | _ => exact os4.elim
      | brk => exact p4.elim
      | ret d2 μ2 =>
        cases fl with
        | ret v2 =>
          refine k (.ret d2 μ2) (.ret v2) h4 t4 p4 lx4 ?_ os4
          intro a q
          rcases fr4 a q with q | q
          · exact .inl (by rw [← ea]; exact q)
          · exact fresh_back S2 lx2 q
        | _ => exact os4.elim
end
end Mine
namespace Mine

theorem bindL_skip {kindOf : Str → Option NameKind} {x : Str} : ∀ (b : List (Str × Value)) (m : Str → Option Value), x ∉ b.map (·.1) → bindL kindOf b m x = m x
  | [], m, _ => rfl
  | (y, v) :: r, m, h => by
    have h1 : x ≠ y := fun e => h (by rw [e]; exact List.mem_cons_self ..)
    have h2 : x ∉ r.map (·.1) := fun q => h (List.mem_cons_of_mem _ q)
    unfold bindL
    rw [bindL_skip r _ h2]
    split
    · exact if_neg h1
    · rfl
theorem bindC_skip {kindOf : Str → Option NameKind} {x : Str} : ∀ (b : List (Str × Value)) (m : Str → Option Value), x ∉ b.map (·.1) → bindC kindOf b m x = m x
  | [], m, _ => rfl
  | (y, v) :: r, m, h => by
    have h1 : x ≠ y := fun e => h (by rw [e]; exact List.mem_cons_self ..)
    have h2 : x ∉ r.map (·.1) := fun q => h (List.mem_cons_of_mem _ q)
    unfold bindC
    rw [bindC_skip r _ h2]
    split
    · rfl
    · exact if_neg h1
theorem bindL_at {kindOf : Str → Option NameKind} {x : Str} {v : Value} : ∀ (b : List (Str × Value)) (m : Str → Option Value), (b.map (·.1)).Nodup → (x, v) ∈ b → kindOf x = some .local → bindL kindOf b m x = some v
  | (y, u) :: r, m, nd, h, hk => by
    obtain ⟨n1, n2⟩ := List.nodup_cons.mp nd
    unfold bindL
    rcases List.mem_cons.mp h with e | h
    · cases e
      rw [bindL_skip r _ n1, if_pos hk]
      exact if_pos rfl
    · exact bindL_at r _ n2 h hk
theorem bindC_at {kindOf : Str → Option NameKind} {x : Str} {v : Value} : ∀ (b : List (Str × Value)) (m : Str → Option Value), (b.map (·.1)).Nodup → (x, v) ∈ b → kindOf x ≠ some .local → bindC kindOf b m x = some v
  | (y, u) :: r, m, nd, h, hk => by
    obtain ⟨n1, n2⟩ := List.nodup_cons.mp nd
    unfold bindC
    rcases List.mem_cons.mp h with e | h
    · cases e
      rw [bindC_skip r _ n1, if_neg hk]
      exact if_pos rfl
    · exact bindC_at r _ n2 h hk

theorem cellsFrom_keys : ∀ (names : List (Str × NameKind)) (n : Nat) (acc : List (Str × Addr)), (cellsFrom n names acc).map (·.1) = ((names.filter fun x => x.2 == .cell).map (·.1)).reverse ++ acc.map (·.1)
  | [], n, acc => by simp [cellsFrom]
  | (x, k) :: r, n, acc => by
    unfold cellsFrom
    split
    · rename_i h
      rw [cellsFrom_keys r, List.filter_cons, if_pos h]
      simp
    · rename_i h
      rw [cellsFrom_keys r, List.filter_cons, if_neg h]
theorem lookup_of_mem {α : Type} {x : Str} {b : α} : ∀ {l : List (Str × α)}, (l.map (·.1)).Nodup → (x, b) ∈ l → l.lookup x = some b
  | (y, d) :: r, nd, h => by
    obtain ⟨n1, n2⟩ := List.nodup_cons.mp nd
    rcases List.mem_cons.mp h with e | h
    · obtain ⟨rfl, rfl⟩ := Prod.mk.inj e; rw [List.lookup_cons, beq_self_eq_true]
    · have : (x == y) = false := beq_eq_false_iff_ne.mpr fun e => n1 (by rw [← e]; exact List.mem_map_of_mem (f := (·.1)) h)
      rw [List.lookup_cons, this]
      exact lookup_of_mem n2 h
section
variable {c : Cx} {f : Fi} {n : Nat} {Γ Γ' Γ1 : Ga} {μ μ' μ1 μ2 : Mu} {P : Out → Prop}

/-- the same, told of the machine's code -/
structure FnK (c : Cx) (fv : Value) (n : Nat) (ds : List D) (μ : Mu) (d : D) (μ' : Mu) : Prop where
  ad : addrs μ' = addrs μ
  run : ∀ (A : Around) (hs : List Addr) (s : Shared) (vs : List Value) (Q : Value → Shared → Prop) (Er : Value → Shared → Prop), Room A n → (∀ a ∈ hs, ∃ o, s.heap.get? a = some o) → (addrs μ).Nodup → (∀ a ∈ addrs μ, a ∉ hs) →
    Wd c (hid s.heap (addrs μ ++ hs)) → (∀ p ∈ μ, MRep (Pr c) (hid s.heap (addrs μ ++ hs)) s.heap p.1 p.2) → RepL (Pr c) (hid s.heap (addrs μ ++ hs)) ds vs →
    (∀ v h' tk, LeX (addrs μ) s.heap h' → (∀ p ∈ μ', MRep (Pr c) (hid h' (addrs μ ++ hs)) h' p.1 p.2) → Rep (Pr c) (hid h' (addrs μ ++ hs)) d v → Q v { s with heap := h', toks := tk }) →
    codeAny (Md c) A (.call fv ⟨vs, []⟩) (fun r s' => match r with | .ok (.ret v) => Q v s' | .ok _ => False | .error e => Er e s') s
theorem FnK.fn {fv : Value} {m : Nat} {ds : List D} {d : D} (h : FnK c fv m ds μ d μ') : Fn c fv m ds μ d μ' := ⟨h.ad, fun A hs s vs Q Er R bel nd dis W mu r k => wpAny_call (h.run A hs s vs Q Er R bel nd dis W mu r k)⟩
theorem callGo {a : Addr} {oc : Value} {od : Option Addr} {osl : Array (Option Value)} {fd : FuncData} {body : List Stmt} {ns rest : List Str} {ds dd : List D} {dv : List Value}
    (ho : c.K.lookup a = some ⟨oc, od, .func fd, osl⟩) (hcd : codeIn c.K fd.code fd.qualname = true) (hbody : fd.body = .stmts body) (hst : fd.closure = [] ∧ fd.globals = mainGlobals ∧ fd.builtins = builtinsNs ∧ fd.scope.isCoroutine = false ∧ fd.scope.isGenerator = false)
    (ok : f.Ok) (hsc : f.cs = fd.scope) (hks : f.ks = ns ++ rest) (hlen : ns.length = (ds ++ dd).length)
    (hb : ∀ (s : Shared) (vs : List Value), Wd c s.heap → vs.length = ds.length → BindsTo s fd ⟨vs, []⟩ (ns.zip (vs ++ dv))) (hdv : ∀ P h, RepL P h dd dv)
    (hx : Ex c f n ((ds ++ dd).map some ++ List.replicate rest.length none) μ body P) (hP : ∀ o, P o → (∃ d μ, o = .ret d μ) ∨ ∃ Γ μ, o = .nxt Γ μ)
    (A : Around) (hs : List Addr) (s : Shared) (vs : List Value) (Q : Value → Shared → Prop) (Er : Value → Shared → Prop) (R : Room A (n + 1)) (bel : ∀ a ∈ hs, ∃ o, s.heap.get? a = some o) (nd : (addrs μ).Nodup) (dis : ∀ a ∈ addrs μ, a ∉ hs)
    (W : Wd c (hid s.heap (addrs μ ++ hs))) (mu : ∀ p ∈ μ, MRep (Pr c) (hid s.heap (addrs μ ++ hs)) s.heap p.1 p.2) (r : RepL (Pr c) (hid s.heap (addrs μ ++ hs)) ds vs)
    (kr : ∀ env o v h' tk, P o → OutSat c f env hs o (.ret v) h' → LeX (addrs μ) s.heap h' → (∀ b ∈ own env, s.heap.get? b = none) → (∀ a ∈ addrs o.mu, a ∈ addrs μ ∨ s.heap.get? a = none) → Q v { s with heap := h', toks := tk })
    (kn : ∀ env o h' tk, P o → OutSat c f env hs o .next h' → LeX (addrs μ) s.heap h' → (∀ b ∈ own env, s.heap.get? b = none) → (∀ a ∈ addrs o.mu, a ∈ addrs μ ∨ s.heap.get? a = none) → Q .none { s with heap := h', toks := tk }) :
    codeAny (Md c) A (.call (.ref a) ⟨vs, []⟩) (fun r s' => match r with | .ok (.ret v) => Q v s' | .ok _ => False | .error e => Er e s') s := by
  obtain ⟨hclo, hgl, hbu, hco, hgen⟩ := hst
  have Wh : Wd c s.heap := W.keeps (hid_le _ _)
  have hk : fd.scope.kind = .function := by rw [← hsc]; exact ok.fn
  have lvs : vs.length = ds.length := r.length.symm
  have nds := ok.nd
  rw [hks] at nds
  have ndn := (List.nodup_append.mp nds).1
  have lz : ns.length = (vs ++ dv).length := by rw [hlen, List.length_append, List.length_append, lvs, (hdv c.w.params s.heap).length]
  have kin : ∀ x ∈ ns, fd.scope.names.lookup x = some .local ∨ fd.scope.names.lookup x = some .cell := fun x hx => by
    obtain ⟨i, hi, e⟩ := List.getElem_of_mem hx
    rw [← hsc]
    exact kind_ok (i := i) ok (by rw [hks, List.getElem?_append_left hi, List.getElem?_eq_getElem hi, e])
  refine codeAny_call_function R.dep (Wh.k _ _ ho) rfl hco hgen hbody (codeRec_of Wh.k hcd) ?_
  refine hb s vs Wh lvs _ _ _ _ ?_
  rw [hclo]
  refine wpAny_newFunctionEnv_cells hk (fun x hx => ?_) fun env he s' x => ?_
  · have hx1 : x.1 ∈ ns := by
      have : x.1 ∈ (ns.zip (vs ++ dv)).map (·.1) := List.mem_map_of_mem hx
      rw [List.map_fst_zip (by omega)] at this
      exact this
    rcases kin _ hx1 with q | q
    · exact .inl q
    · exact .inr ⟨q, cellsFrom_some _ _ _ (.inl q)⟩
  have eL : env.locals = s.heap.objs.size := by rw [he]; rfl
  have eS : env.scope = fd.scope := by rw [he]; rfl
  have eC : env.cells = cellsFrom (s.heap.objs.size + 1) fd.scope.names [] := by rw [he]; rfl
  obtain ⟨⟨⟨h1, t1, rfl⟩, hns, keep, above⟩, cell, apart, habove⟩ := x
  refine ⟨Wh.nl.keeps keep, codeAny_func ?_⟩
  have kk : ∀ y, env.kindOf y = fd.scope.names.lookup y := fun y => by unfold Env.kindOf; rw [eS]
  have O : EOk f env := ⟨by rw [eS, hsc], by rw [he]; exact hgl, by rw [he]; exact hbu, fun x hx hl => by
    rw [eC]
    exact Option.isSome_iff_exists.mp (cellsFrom_some _ _ _ (.inl (by rw [← hsc]; exact hl)))⟩
  have fo : ∀ b ∈ own env, s.heap.get? b = none := fun b hb => fresh_none (by
    rcases List.mem_cons.mp hb with rfl | hb
    · exact above
    · obtain ⟨p, hp, rfl⟩ := List.mem_map.mp hb
      have h1 := habove p.1 p.2 hp
      exact Nat.le_of_lt (Nat.lt_of_le_of_lt above h1))
  have exm : ∀ p ∈ μ, ∃ o, s.heap.get? p.1 = some o := fun p hp => by
    have := mu p hp
    generalize p.2 = m at this
    cases m with
    | lst l => obtain ⟨vs, ⟨o, e, r⟩, b⟩ := this; exact ⟨o, e⟩
    | dct l => obtain ⟨es, n, e, b⟩ := this; exact ⟨_, e⟩
    | tab l => obtain ⟨es, n, e, b⟩ := this; exact ⟨_, e⟩
  have le : Le (hid s.heap (addrs μ ++ hs)) (hid h1 (T env μ hs)) := hid_mono' (Y := []) (fun b o _ e => keep b o e) (fun z q => (List.not_mem_nil q).elim) fun z q => by
    rcases List.mem_append.mp q with q | q
    · rcases List.mem_append.mp q with q | q
      · exact .inr (fo z q)
      · exact .inl (List.mem_append_left _ q)
    · exact .inl (List.mem_append_right _ q)
  have rl : RepL (Pr c) (hid h1 (T env μ hs)) (ds ++ dd) (vs ++ dv) := (r.keeps le).app (hdv _ _)
  have at_ : ∀ (i : Nat) (x : Str) (d' : D), f.ks[i]? = some x → ((ds ++ dd).map some ++ List.replicate rest.length none)[i]? = some (some d') → ∃ v, (x, v) ∈ ns.zip (vs ++ dv) ∧ Rep (Pr c) (hid h1 (T env μ hs)) d' v := fun i x d' hx hi => by
    by_cases q : i < (ds ++ dd).length
    · rw [List.getElem?_append_left (by simpa using q), List.getElem?_map] at hi
      have hi' : (ds ++ dd)[i]? = some d' := by
        cases e : (ds ++ dd)[i]? with
        | none => rw [e] at hi; cases hi
        | some z => rw [e] at hi; simpa using hi
      obtain ⟨v, hv, rv⟩ := rl.get hi'
      refine ⟨v, ?_, rv⟩
      rw [hks, List.getElem?_append_left (by omega)] at hx
      have : (ns.zip (vs ++ dv))[i]? = some (x, v) := by rw [List.getElem?_zip_eq_some]; exact ⟨hx, hv⟩
      exact List.mem_of_getElem? this
    · rw [List.getElem?_append_right (by simpa using q)] at hi
      rw [List.getElem?_replicate] at hi
      split at hi <;> cases hi
  have ndz : ((ns.zip (vs ++ dv)).map (·.1)).Nodup := by rw [List.map_fst_zip (by omega)]; exact ndn
  have S : Sat c f env hs ((ds ++ dd).map some ++ List.replicate rest.length none) μ h1 := by
    refine ⟨?_, ?_, fun a ha => (bel a ha).imp fun o e => keep _ _ e, W.keeps le, ⟨_, hns, fun i x d' hx hi hl => ?_⟩, fun i x d' hx hi hl => ?_, fun p hp => ?_, fun p hp => (mu p hp).keeps le fun o e => keep _ _ e⟩
    · refine List.nodup_append.mpr ⟨List.nodup_cons.mpr ⟨fun q => ?_, ?_⟩, nd, fun x hx y hy e => ?_⟩
      · obtain ⟨p, hp, e⟩ := List.mem_map.mp q
        exact Nat.ne_of_gt (habove p.1 p.2 hp) e
      · exact List.pairwise_map.mpr (apart.imp fun q => q)
      · subst e
        obtain ⟨p, hp, rfl⟩ := List.mem_map.mp hy
        obtain ⟨o, e⟩ := exm p hp
        rw [fo _ hx] at e; cases e
    · intro b hb hbh
      rcases List.mem_append.mp hb with q | q
      · obtain ⟨o, e⟩ := bel b hbh
        rw [fo _ q] at e; cases e
      · exact dis b q hbh
    · obtain ⟨v, hm, rv⟩ := at_ i x d' hx hi
      exact ⟨v, bindL_at _ _ ndz hm (by rw [kk, ← hsc]; exact hl), rv⟩
    · obtain ⟨v, hm, rv⟩ := at_ i x d' hx hi
      have hc : fd.scope.names.lookup x = some .cell := by
        rcases kind_ok ok hx with q | q
        · exact absurd q hl
        · rw [← hsc]; exact q
      obtain ⟨b, hb⟩ := O.cx x (List.mem_of_getElem? hx) (by rw [hsc]; exact hc)
      refine ⟨b, v, hb, ?_, rv⟩
      have := cell x b hb
      rwa [bindC_at _ _ ndz hm (by rw [kk, ← hsc]; exact hl)] at this
    · obtain ⟨x, b⟩ := p
      refine ⟨_, cell x b (lookup_of_mem ?_ hp)⟩
      rw [eC, cellsFrom_keys, List.map_nil, List.append_nil]
      refine (List.pairwise_reverse.mpr (List.Pairwise.imp (fun q e => q e.symm) (List.Sublist.nodup (List.Sublist.map _ List.filter_sublist) ?_)))
      rw [← hsc]; exact ok.nn
  refine hx (A.deeper env) env hs _ _ _ ok R.deeper O S fun o fl h' tk p l fr os => ?_
  have lx : LeX (addrs μ) s.heap h' := fun b o nb e => l b o (fun q => by
    rcases List.mem_append.mp q with q | q
    · exact nb q
    · rw [fo b q] at e; cases e) (keep b o e)
  have fr' : ∀ a ∈ addrs o.mu, a ∈ addrs μ ∨ s.heap.get? a = none := fun a ha => by
    rcases fr a ha with q | q
    · exact .inl q
    · cases e : s.heap.get? a with
      | none => exact .inr rfl
      | some x => have := keep _ _ e; rw [show h1.get? a = none from q] at this; cases this
  rcases hP o p with ⟨d, μ9, rfl⟩ | ⟨Γ9, μ9, rfl⟩
  · cases fl with
    | ret v => exact kr env _ v h' tk p os lx fo fr'
    | _ => exact os.elim
  · cases fl with
    | next => exact kn env _ h' tk p os lx fo fr'
    | _ => exact os.elim
theorem FnK.intro {a : Addr} {oc : Value} {od : Option Addr} {osl : Array (Option Value)} {fd : FuncData} {body : List Stmt} {ns rest : List Str} {ds dd : List D} {dv : List Value} {d : D}
    (ho : c.K.lookup a = some ⟨oc, od, .func fd, osl⟩) (hcd : codeIn c.K fd.code fd.qualname = true) (hbody : fd.body = .stmts body) (hst : fd.closure = [] ∧ fd.globals = mainGlobals ∧ fd.builtins = builtinsNs ∧ fd.scope.isCoroutine = false ∧ fd.scope.isGenerator = false)
    (ok : f.Ok) (hsc : f.cs = fd.scope) (hks : f.ks = ns ++ rest) (hlen : ns.length = (ds ++ dd).length)
    (hb : ∀ (s : Shared) (vs : List Value), Wd c s.heap → vs.length = ds.length → BindsTo s fd ⟨vs, []⟩ (ns.zip (vs ++ dv))) (hdv : ∀ P h, RepL P h dd dv) (ad : addrs μ' = addrs μ)
    (hx : Ex c f n ((ds ++ dd).map some ++ List.replicate rest.length none) μ body (fun o => o = .ret d μ' ∨ ∃ Γ', d = dN ∧ o = .nxt Γ' μ')) : FnK c (.ref a) (n + 1) ds μ d μ' := by
  refine ⟨ad, fun A hs s vs Q Er R bel nd dis W mu r k => callGo ho hcd hbody hst ok hsc hks hlen hb hdv hx (fun o p => ?_) A hs s vs Q Er R bel nd dis W mu r (fun env o v h' tk p os lx fo fr => ?_) fun env o h' tk p os lx fo fr => ?_⟩
  · rcases p with rfl | ⟨Γ', rfl, rfl⟩
    · exact .inl ⟨_, _, rfl⟩
    · exact .inr ⟨_, _, rfl⟩
  · have le2 : Le (hid h' (T env μ' hs)) (hid h' (addrs μ ++ hs)) := hid_mono (LeX.refl [] h') (fun z q => (List.not_mem_nil q).elim) fun z q => by
      rw [← ad] at q
      rcases List.mem_append.mp q with q | q
      · exact List.mem_append_left _ (List.mem_append_right _ q)
      · exact List.mem_append_right _ q
    rcases p with rfl | ⟨Γ', rfl, rfl⟩
    · exact k v h' tk lx (fun p hp => (os.1.mu p hp).keeps le2 fun o e => e) (os.2.keeps le2)
    · exact os.elim
  · have le2 : Le (hid h' (T env μ' hs)) (hid h' (addrs μ ++ hs)) := hid_mono (LeX.refl [] h') (fun z q => (List.not_mem_nil q).elim) fun z q => by
      rw [← ad] at q
      rcases List.mem_append.mp q with q | q
      · exact List.mem_append_left _ (List.mem_append_right _ q)
      · exact List.mem_append_right _ q
    rcases p with rfl | ⟨Γ', rfl, rfl⟩
    · exact os.elim
    · exact k .none h' tk lx (fun p hp => (Sat.mu os p hp).keeps le2 fun o e => e) (.dat .none)
theorem Fn.intro {a : Addr} {oc : Value} {od : Option Addr} {osl : Array (Option Value)} {fd : FuncData} {body : List Stmt} {ns rest : List Str} {ds dd : List D} {dv : List Value} {d : D}
    (ho : c.K.lookup a = some ⟨oc, od, .func fd, osl⟩) (hcd : codeIn c.K fd.code fd.qualname = true) (hbody : fd.body = .stmts body) (hst : fd.closure = [] ∧ fd.globals = mainGlobals ∧ fd.builtins = builtinsNs ∧ fd.scope.isCoroutine = false ∧ fd.scope.isGenerator = false)
    (ok : f.Ok) (hsc : f.cs = fd.scope) (hks : f.ks = ns ++ rest) (hlen : ns.length = (ds ++ dd).length)
    (hb : ∀ (s : Shared) (vs : List Value), Wd c s.heap → vs.length = ds.length → BindsTo s fd ⟨vs, []⟩ (ns.zip (vs ++ dv))) (hdv : ∀ P h, RepL P h dd dv) (ad : addrs μ' = addrs μ)
    (hx : Ex c f n ((ds ++ dd).map some ++ List.replicate rest.length none) μ body (fun o => o = .ret d μ' ∨ ∃ Γ', d = dN ∧ o = .nxt Γ' μ')) : Fn c (.ref a) (n + 1) ds μ d μ' :=
  (FnK.intro ho hcd hbody hst ok hsc hks hlen hb hdv ad hx).fn
end
end Mine
namespace Mine

noncomputable def relab (scope cs : Scope) : Scope := { scope with names := scope.names.map fun (n, k) => if (k == .free && cs.kind == .function && cs.names.lookup n == some .cell) then (n, .cell) else (n, k) }
theorem relab_eq {f : Fi} {E : Env} (O : EOk f E) (scope : Scope) : relabel scope E = relab scope f.cs := by
  unfold relabel relab Env.kindOf
  rw [O.sc]
noncomputable def freeNames (scope : Scope) : List Str := (scope.names.filter fun x => x.2 == .free).map (·.1)
/-- the comprehension's own names stand well to the def's -/
noncomputable def compOkb (f : Fi) (scope : Scope) (x : Str) (ks : List Str) : Bool :=
  scope.kind == .function && (scope.names.all fun y => y.2 != .cell) && (scope.names.all fun y => y.2 != .local || scope.names.lookup y.1 == some .local) &&
  ((freeNames scope).all fun y => f.cs.names.lookup y == some .cell && f.ks.contains y) && scope.names.lookup x == some .local && (ks.all fun y => (freeNames scope).contains y && (relab scope f.cs).names.lookup y == some .cell) && decide (freeNames scope).Nodup
noncomputable abbrev compFi (f : Fi) (scope : Scope) (x : Str) (ks : List Str) : Fi := ⟨relab scope f.cs, x :: ks⟩
inductive Cap (fk : List Str) (Γ : Ga) : List Str → Ga → Prop
  | nil : Cap fk Γ [] []
  | cons {y : Str} {d : D} {ks : List Str} {g : Ga} (i : Nat) : fk[i]? = some y → Γ[i]? = some (some d) → Cap fk Γ ks g → Cap fk Γ (y :: ks) (some d :: g)
theorem Cap.get {fk : List Str} {Γ : Ga} : ∀ {ks : List Str} {g : Ga}, Cap fk Γ ks g → ∀ {j : Nat} {y : Str} {d : D}, ks[j]? = some y → g[j]? = some (some d) → ∃ i : Nat, fk[i]? = some y ∧ Γ[i]? = some (some d)
  | _, _, .nil, j, _, _, h, _ => by simp at h
  | _, _, .cons i a b r, 0, y, d, h1, h2 => by
    simp at h1 h2
    exact ⟨i, h1 ▸ a, h2 ▸ b⟩
  | _, _, .cons i a b r, j + 1, y, d, h1, h2 => r.get (j := j) (by simpa using h1) (by simpa using h2)

noncomputable def cellsOf (E : Env) : List Str → List (Str × Addr) → List (Str × Addr)
  | [], acc => acc
  | y :: r, acc => cellsOf E r ((y, (E.cells.lookup y).getD 0) :: acc)
theorem closure_ok {E : Env} {scope : Scope} (h : ∀ y ∈ freeNames scope, ∃ b, E.cells.lookup y = some b) : closureFor scope E = pure (cellsOf E (freeNames scope) []) := by
  unfold closureFor freeNames at *
  suffices h2 : ∀ (names : List (Str × NameKind)) (acc : List (Str × Addr)), (∀ y ∈ (names.filter fun x => x.2 == .free).map (·.1), ∃ b, E.cells.lookup y = some b) →
      (forIn names acc fun (x : Str × NameKind) (r : List (Str × Addr)) => (if x.2 == .free then (do let a ← cellOf E x.1; pure (ForInStep.yield ((x.1, a) :: r))) else pure (ForInStep.yield r) : Sem (ForInStep (List (Str × Addr))))) = pure (cellsOf E ((names.filter fun x => x.2 == .free).map (·.1)) acc) by
    have := h2 scope.names [] h
    simp only [bind_pure_comp] at this ⊢
    first | exact this | (rw [this]; rfl) | simpa using this
  intro names
  induction names with
  | nil => intro acc _; rfl
  | cons x r ih =>
    intro acc hx
    obtain ⟨y, k⟩ := x
    rw [List.forIn_cons]
    by_cases q : (k == .free) = true
    · simp only [List.filter_cons, q, if_true, List.map_cons] at hx ⊢
      obtain ⟨b, hb⟩ := hx y (List.mem_cons_self ..)
      have e : cellOf E y = pure b := by unfold cellOf; rw [hb]
      rw [e]
      simp only [pure_bind]
      rw [ih _ fun z hz => hx z (List.mem_cons_of_mem _ hz)]
      have e2 : cellsOf E (y :: List.map (fun x => x.1) (List.filter (fun x => x.2 == NameKind.free) r)) acc = cellsOf E (List.map (fun x => x.1) (List.filter (fun x => x.2 == NameKind.free) r)) ((y, b) :: acc) := by
        show cellsOf E _ ((y, (E.cells.lookup y).getD 0) :: acc) = _
        rw [hb]; rfl
      rw [e2]
    · simp only [List.filter_cons, q] at hx ⊢
      simp only [Bool.false_eq_true, if_false, pure_bind]
      exact ih acc hx
theorem cellsOf_mem {E : Env} : ∀ (ys : List Str) (acc : List (Str × Addr)) (p : Str × Addr), p ∈ cellsOf E ys acc → (∀ y ∈ ys, ∃ b, E.cells.lookup y = some b) → p ∈ acc ∨ (p.1 ∈ ys ∧ E.cells.lookup p.1 = some p.2)
  | [], acc, p, h, _ => .inl h
  | y :: r, acc, p, h, k => by
    unfold cellsOf at h
    obtain ⟨b, hb⟩ := k y (List.mem_cons_self ..)
    rcases cellsOf_mem r _ p h fun z hz => k z (List.mem_cons_of_mem _ hz) with q | ⟨q1, q2⟩
    · rcases List.mem_cons.mp q with rfl | q
      · exact .inr ⟨List.mem_cons_self .., by rw [hb]; rfl⟩
      · exact .inl q
    · exact .inr ⟨List.mem_cons_of_mem _ q1, q2⟩
theorem cellsOf_keys {E : Env} : ∀ (ys : List Str) (acc : List (Str × Addr)), (cellsOf E ys acc).map (·.1) = ys.reverse ++ acc.map (·.1)
  | [], acc => by simp [cellsOf]
  | y :: r, acc => by unfold cellsOf; rw [cellsOf_keys r]; simp
theorem nodup_rev {α : Type} {l : List α} (h : l.Nodup) : l.reverse.Nodup := List.pairwise_reverse.mpr (List.Pairwise.imp (fun q e => q e.symm) h)
theorem cellsOf_lookup {E : Env} {ys : List Str} {y : Str} {b : Addr} (nd : ys.Nodup) (h : y ∈ ys) (hb : E.cells.lookup y = some b) (k : ∀ y ∈ ys, ∃ b, E.cells.lookup y = some b) : (cellsOf E ys []).lookup y = some b := by
  have e := cellsOf_keys (E := E) ys []
  have hy : y ∈ (cellsOf E ys []).map (·.1) := by rw [e]; simp [h]
  obtain ⟨p, hp, rfl⟩ := List.mem_map.mp hy
  have nd2 : ((cellsOf E ys []).map (·.1)).Nodup := by rw [e]; simpa using nodup_rev nd
  rw [lookup_of_mem nd2 hp]
  rcases cellsOf_mem ys [] p hp k with q | ⟨_, q⟩
  · exact absurd q List.not_mem_nil
  · rw [q] at hb; exact hb
theorem addr_inj {E : Env} (nd : (E.cells.map (·.2)).Nodup) {y z : Str} {a : Addr} (h1 : E.cells.lookup y = some a) (h2 : E.cells.lookup z = some a) : y = z := by
  obtain ⟨i1, l1, e1⟩ := List.getElem_of_mem (mem_of_lookup h1)
  obtain ⟨i2, l2, e2⟩ := List.getElem_of_mem (mem_of_lookup h2)
  have : i1 = i2 := (List.getElem?_inj (l := E.cells.map (·.2)) (h₀ := by simpa using l1) (h₁ := nd)).mp (by simp [l1, l2, e1, e2])
  subst this
  rw [e1] at e2
  exact (Prod.mk.inj e2).1
theorem cellsOf_nodup {E : Env} (nd : (E.cells.map (·.2)).Nodup) {ys : List Str} (ny : ys.Nodup) (k : ∀ y ∈ ys, ∃ b, E.cells.lookup y = some b) : ((cellsOf E ys []).map (·.2)).Nodup := by
  have e := cellsOf_keys (E := E) ys []
  have nd2 : ((cellsOf E ys []).map (·.1)).Nodup := by rw [e]; simpa using nodup_rev ny
  refine List.pairwise_map.mpr ((List.pairwise_map.mp nd2).imp_of_mem fun {p q} hp hq ne e => ne ?_)
  rcases cellsOf_mem ys [] p hp k with z | ⟨_, z⟩
  · exact absurd z List.not_mem_nil
  rcases cellsOf_mem ys [] q hq k with z' | ⟨_, z'⟩
  · exact absurd z' List.not_mem_nil
  rw [e] at z
  exact addr_inj nd z z'
end Mine
namespace Mine
theorem append_ll {prog : Program} {w : World} {A : Around} {E : Value → Shared → Prop} {s : Shared} {l : Addr} {vs : List Value} {x : Value} {Q : Value → Shared → Prop} (hl : LL s.heap l vs)
    (hQ : ∀ h', LL h' l (vs ++ [x]) → Heap.SameBut l s.heap h' → Q .none { s with heap := h' }) (hsz : vs.length ≤ sizeLine) : wpAny (model prog w) A (call (.builtin "list.append") [.ref l, x]) Q E s := by
  obtain ⟨o, ho, n, rfl⟩ := hl
  refine wpAny_call_entry slot_list_append ⟨_, ho, rfl⟩ entry_list_append ?_ (args_list_append _ _)
  show wpAny _ _ (updateSeq l (·.push x) >>= fun _ => ret .none) _ _ s
  refine wpAny_bind ?_
  refine wpAny_updateSeq ho rfl (wpAny_pure ⟨.none, rfl, hQ _ ?_ (Heap.SameBut.update ..)⟩) (by simpa using hsz)
  refine ⟨_, Heap.get?_update_self _ ho rfl, n + 1, ?_⟩
  simp [Obj.mapSeq, lob]
theorem no_some {h : Heap} {z l : Addr} {o : Obj} (e : h.get? z = some o) (n : h.get? l = none) (q : z = l) : False := by
  rw [q, n] at e; cases e
inductive Ifs (c : Cx) (f : Fi) (n : Nat) (Γ : Ga) (μ : Mu) : List Expr → Bool → Mu → Prop
  | nil : Ifs c f n Γ μ [] true μ
  | one {t : Expr} {b : Bool} {μ' : Mu} : Ts c f n Γ μ t b μ' → Ifs c f n Γ μ [t] b μ'
noncomputable abbrev clOf (E : Env) (scope : Scope) : List (Str × Addr) := cellsOf E (freeNames scope) []
noncomputable abbrev envOf2 (E : Env) (scope : Scope) (L2 : Addr) : Env := { scope := relabel scope E, locals := L2, globals := E.globals, cells := clOf E scope, qual := E.qual, func := none, code := E.code, frame := E.frame, builtins := E.builtins }
noncomputable abbrev hsOf2 (E : Env) (scope : Scope) (ia D : Addr) (hs : List Addr) : List Addr := ia :: D :: E.locals :: ((E.cells.map (·.2)).filter (fun a => !((clOf E scope).map (·.2)).contains a) ++ hs)
section
variable {c : Cx} {f : Fi} {n : Nat} {Γ Γ' Γ1 : Ga} {μ μ' μ1 μ2 : Mu} {P : Out → Prop}

theorem T2_mem {E : Env} {scope : Scope} {ia D L2 : Addr} {hs : List Addr} (k : ∀ y ∈ freeNames scope, ∃ b, E.cells.lookup y = some b) (z : Addr) :
    z ∈ T (envOf2 E scope L2) μ (hsOf2 E scope ia D hs) ↔ z = L2 ∨ z = ia ∨ z = D ∨ z ∈ T E μ hs := by
  have sub : ∀ z ∈ (clOf E scope).map (·.2), z ∈ E.cells.map (·.2) := fun z hz => by
    obtain ⟨p, hp, rfl⟩ := List.mem_map.mp hz
    rcases cellsOf_mem _ _ p hp k with q | ⟨_, q⟩
    · exact absurd q List.not_mem_nil
    · exact List.mem_map_of_mem (f := (·.2)) (mem_of_lookup q)
  simp only [T, own, hsOf2, List.mem_append, List.mem_cons, List.mem_filter, Bool.not_eq_true', List.contains_iff_mem, ← Bool.not_eq_true]
  constructor
  · rintro ((( h | h) | h) | (h | h | h | (h | h))) <;> grind
  · rintro (h | h | h | ((( h | h) | h) | h))
    all_goals (try (by_cases q : z ∈ (clOf E scope).map (·.2))) <;> grind
structure CP (E : Env) (μ : Mu) (hs : List Addr) (H H1 : Heap) (ia Da L2 : Addr) : Prop where
  lt : Da < L2
  lT : ∀ z ∈ T E μ hs, z < Da
  li : ia < Da
  nD : H.get? Da = none
  nL : H.get? L2 = none
  ni : H.get? ia = none
  keep : Le H H1
  ll : LL H1 Da []
  ex : ∃ o, H1.get? ia = some o
theorem compSat {E : Env} {hs : List Addr} {H h₁ : Heap} {ia Da L2 : Addr} {scope : Scope} {x : Str} {ks : List Str} {g : Ga} (P : CP E μ hs H h₁ ia Da L2) (S1 : Sat c f E hs Γ μ H)
    (hcl : ∀ y ∈ freeNames scope, ∃ b, E.cells.lookup y = some b) (hfree : ∀ y ∈ freeNames scope, f.cs.names.lookup y = some .cell) (hks : ∀ y ∈ ks, y ∈ freeNames scope ∧ (relab scope f.cs).names.lookup y = some .cell) (hfn : (freeNames scope).Nodup)
    (cap : Cap f.ks Γ ks g) {m1 : Str → Option Value} (hns₁ : h₁.Ns L2 m1) : Sat c (compFi f scope x ks) (envOf2 E scope L2) (hsOf2 E scope ia Da hs) (none :: g) μ h₁ := by
  obtain ⟨ltDL, lowT, iaD, nD, nL, hn, keep₁, listD, exi⟩ := P
  have neDL : Da ≠ L2 := Nat.ne_of_lt ltDL
  have noL : ∀ z : Addr, z < Da → z ≠ L2 := fun z h e => Nat.lt_asymm (e ▸ h : L2 < Da) ltDL
  have noD : ∀ z : Addr, z < Da → z ≠ Da := fun z h => Nat.ne_of_lt h
  have mem2 := fun z => T2_mem (μ := μ) (E := E) (scope := scope) (ia := ia) (D := Da) (L2 := L2) (hs := hs) hcl z
  have ndo := (List.nodup_append.mp S1.nd)
  have ndc := (List.nodup_cons.mp ndo.1)
  have clsub : ∀ z ∈ (clOf E scope).map (·.2), z ∈ E.cells.map (·.2) := fun z hz => by
    obtain ⟨p, hp, rfl⟩ := List.mem_map.mp hz
    rcases cellsOf_mem _ _ p hp hcl with q | ⟨_, q⟩
    · exact absurd q List.not_mem_nil
    · exact List.mem_map_of_mem (f := (·.2)) (mem_of_lookup q)
  have cT : ∀ z ∈ E.cells.map (·.2), z ∈ T E μ hs := fun z hz => List.mem_append_left _ (List.mem_append_left _ (List.mem_cons_of_mem _ hz))
  have mT : ∀ z ∈ addrs μ, z ∈ T E μ hs := fun z hz => List.mem_append_left _ (List.mem_append_right _ hz)
  have hT : ∀ z ∈ hs, z ∈ T E μ hs := fun z hz => List.mem_append_right _ hz
  have lT : E.locals ∈ T E μ hs := List.mem_append_left _ (List.mem_append_left _ (List.mem_cons_self ..))
  have iaT : ia ∉ T E μ hs := fun q => by obtain ⟨o, e⟩ := S1.belT ia q; rw [hn] at e; cases e
  have le0 : Le (hid H (T E μ hs)) (hid h₁ (T (envOf2 E scope L2) μ (hsOf2 E scope ia Da hs))) := fun z o e => by
    obtain ⟨e1, e2⟩ := hid_get.mp e
    refine hid_get.mpr ⟨keep₁ _ _ e1, fun q => ?_⟩
    rcases (mem2 z).mp q with q | q | q | q
    · exact no_some e1 nL q
    · exact no_some e1 hn q
    · exact no_some e1 nD q
    · exact e2 q
  have nd2 : (own (envOf2 E scope L2) ++ addrs μ).Nodup := by
    refine List.nodup_append.mpr ⟨List.nodup_cons.mpr ⟨fun q => ?_, cellsOf_nodup ndc.2 hfn hcl⟩, ndo.2.1, fun a ha b hb' e => ?_⟩
    · exact noL _ (lowT _ (cT _ (clsub _ q))) rfl
    · rcases List.mem_cons.mp ha with q | ha
      · exact noL _ (lowT _ (mT _ hb')) (e.symm.trans q)
      · exact ndo.2.2 a (List.mem_cons_of_mem _ (clsub _ ha)) b hb' e
  have dis2 : ∀ a ∈ own (envOf2 E scope L2) ++ addrs μ, a ∉ hsOf2 E scope ia Da hs := by
    intro a ha q
    have ha2 : a = L2 ∨ (a ∈ (clOf E scope).map (·.2)) ∨ a ∈ addrs μ := by
      rcases List.mem_append.mp ha with ha | ha
      · rcases List.mem_cons.mp ha with ha | ha
        · exact .inl ha
        · exact .inr (.inl ha)
      · exact .inr (.inr ha)
    have hq : a = ia ∨ a = Da ∨ a = E.locals ∨ (a ∈ E.cells.map (·.2) ∧ a ∉ (clOf E scope).map (·.2)) ∨ a ∈ hs := by
      simp only [hsOf2, List.mem_cons, List.mem_append, List.mem_filter, Bool.not_eq_true', ← Bool.not_eq_true, List.contains_iff_mem] at q
      grind
    have disS := S1.dis
    rcases ha2 with h0 | h | h
    · rcases hq with h | h | h | h | h
      · exact noL _ iaD (h.symm.trans h0)
      · exact neDL (h.symm.trans h0)
      · exact noL _ (lowT _ lT) (h.symm.trans h0)
      · exact noL _ (lowT _ (cT _ h.1)) h0
      · exact noL _ (lowT _ (hT _ h)) h0
    · have hc := clsub _ h
      rcases hq with h | h' | h' | h' | h'
      · exact iaT (h ▸ cT _ hc)
      · exact noD _ (lowT _ (cT _ hc)) h'
      · exact ndc.1 (h' ▸ hc)
      · exact h'.2 h
      · exact S1.dis a (List.mem_append_left _ (List.mem_cons_of_mem _ hc)) h'
    · rcases hq with h' | h' | h' | h' | h'
      · exact iaT (h' ▸ mT _ h)
      · exact noD _ (lowT _ (mT _ h)) h'
      · exact ndo.2.2 _ (List.mem_cons_self ..) a h h'.symm
      · exact ndo.2.2 a (List.mem_cons_of_mem _ h'.1) a h rfl
      · exact S1.dis a (List.mem_append_right _ h) h'
  have bel2 : ∀ a ∈ hsOf2 E scope ia Da hs, ∃ o, h₁.get? a = some o := by
    intro a ha
    have up : ∀ z ∈ T E μ hs, ∃ o, h₁.get? z = some o := fun z hz => (S1.belT z hz).imp fun o e => keep₁ _ _ e
    rcases List.mem_cons.mp ha with q | ha
    · exact q ▸ exi
    rcases List.mem_cons.mp ha with q | ha
    · exact q ▸ listD.imp fun o e => e.1
    rcases List.mem_cons.mp ha with q | ha
    · exact q ▸ up _ lT
    rcases List.mem_append.mp ha with ha | ha
    · exact up _ (cT _ (List.mem_filter.mp ha).1)
    · exact up _ (hT _ ha)
  refine ⟨nd2, dis2, bel2, S1.wd.keeps le0, ⟨_, hns₁, fun i y d hy hd hl => ?_⟩, fun i y d hy hd hl => ?_, fun p hp => ?_, fun p hp => (S1.mu p hp).keeps le0 fun o e => keep₁ _ _ e⟩
  · cases i with
    | zero => simp at hd
    | succ i =>
      exfalso
      have hyk : y ∈ ks := List.mem_of_getElem? (by simpa using hy)
      rw [(hks y hyk).2] at hl
      cases hl
  · cases i with
    | zero => simp at hd
    | succ i =>
      have hyk : y ∈ ks := List.mem_of_getElem? (by simpa using hy)
      obtain ⟨j, hj, hd'⟩ := cap.get (j := i) (by simpa using hy) (by simpa using hd)
      have hyf := (hks y hyk).1
      obtain ⟨a, v, ha, hc, r⟩ := S1.cl j y d hj hd' (by rw [hfree y hyf]; decide)
      refine ⟨a, v, cellsOf_lookup hfn hyf ha hcl, ?_, r.keeps le0⟩
      obtain ⟨o, e, t⟩ := hc
      exact ⟨o, keep₁ _ _ e, t⟩
  · obtain ⟨y, a⟩ := p
    rcases cellsOf_mem _ _ _ hp hcl with q | ⟨q1, q2⟩
    · exact absurd q List.not_mem_nil
    · obtain ⟨v, o, e, t⟩ := S1.ce (y, a) (mem_of_lookup q2)
      exact ⟨v, o, keep₁ _ _ e, t⟩
theorem compLoop {A : Around} {E E2 : Env} {hs hs2 : List Addr} {sa : Shared} {h₁ : Heap} {t1 : Tok} {ia Da L2 : Addr} {It : Nat → Heap → Prop} {scope : Scope} {x : Str} {px pos : Pos} {ks : List Str} {g : Ga} {elt iter : Expr} {ifs : List Expr} {xs : List D}
    {RR : Value → Addr → Result → Shared → Prop} {Er : Value → Shared → Prop} (P : CP E μ hs sa.heap h₁ ia Da L2)
    (R : Room A n) (S1 : Sat c f E hs Γ μ sa.heap) (O2 : EOk (compFi f scope x ks) E2) (hx : (relab scope f.cs).names.lookup x = some .local) (ok2 : (compFi f scope x ks).Ok)
    (io : ItOk c sa (T E μ hs) xs ia It) (i1 : It 0 h₁) (eL2 : E2.locals = L2) (ia2 : ia ∈ hs2) (Da2 : Da ∈ hs2) (mem2 : ∀ z, z ∈ T E2 μ hs2 ↔ z = L2 ∨ z = ia ∨ z = Da ∨ z ∈ T E μ hs)
    (Rr : Nat → List D) (J : Nat → Mu) (R0 : Rr 0 = []) (hJ : ∀ k, addrs (J k) = addrs μ) (hz : ∀ k, k ≤ xs.length → (Rr k).length ≤ sizeLine)
    (S2 : Sat c (compFi f scope x ks) E2 hs2 (none :: g) (J 0) h₁)
    (step : ∀ (k : Nat) (d : D), xs[k]? = some d → ∃ b μ', Ifs c (compFi f scope x ks) n (some d :: g) (J k) ifs b μ' ∧ (b = true → ∃ y, Ev c (compFi f scope x ks) n (some d :: g) μ' elt y (J (k + 1)) ∧ Rr (k + 1) = Rr k ++ [y]) ∧ (b = false → μ' = J (k + 1) ∧ Rr (k + 1) = Rr k))
    (hRR : ∀ D L2 h2 tk m2, LeX (addrs μ) sa.heap h2 → Sat c f E (L2 :: hs) Γ (J xs.length) h2 → Rep (Pr c) (hid h2 (T E μ (L2 :: hs))) (.lst (Rr xs.length)) (.ref D) → h2.Ns L2 m2 → sa.heap.get? L2 = none → RR (.ref D) L2 (.ok .next) { sa with heap := h2, toks := tk }) :
    codeAny (Md c) A (.compLoop (.ListComp elt [⟨.Name x px, iter, ifs, 0⟩] scope pos) 0 (.ref ia) (.ref Da) E2) (RR (.ref Da) L2) { sa with heap := h₁, toks := t1 } := by
  obtain ⟨ltDL, lowT, iaD, nD, nL, hn, keep₁, listD, exi⟩ := P
  have neDL : Da ≠ L2 := Nat.ne_of_lt ltDL
  have noL : ∀ z : Addr, z < Da → z ≠ L2 := fun z h e => Nat.lt_asymm (e ▸ h : L2 < Da) ltDL
  have noD : ∀ z : Addr, z < Da → z ≠ Da := fun z h => Nat.ne_of_lt h
  have ndo := (List.nodup_append.mp S1.nd)
  have mT : ∀ z ∈ addrs μ, z ∈ T E μ hs := fun z hz => List.mem_append_left _ (List.mem_append_right _ hz)
  have hT : ∀ z ∈ hs, z ∈ T E μ hs := fun z hz => List.mem_append_right _ hz
  have memk : ∀ k z, z ∈ T E2 (J k) hs2 ↔ z = L2 ∨ z = ia ∨ z = Da ∨ z ∈ T E μ hs := fun k z => by rw [T_ad (hJ k)]; exact mem2 z
  have dis2 : ∀ a ∈ own E2 ++ addrs μ, a ∉ hs2 := hJ 0 ▸ S2.dis
  refine codeAny_compLoop_tests (fun m s' => ∃ k h' tk arr, m = xs.length - k ∧ k ≤ xs.length ∧ s' = { sa with heap := h', toks := tk } ∧ LeX (L2 :: ia :: Da :: addrs μ) sa.heap h' ∧ It k h' ∧ LL h' Da arr ∧ RepL (Pr c) (hid h' (T E2 (J k) hs2)) (Rr k) arr ∧ Sat c (compFi f scope x ks) E2 hs2 (none :: g) (J k) h') ?_ xs.length
    ⟨0, h₁, _, [], by simp, Nat.zero_le _, rfl, fun z o nz e => keep₁ _ _ e, i1, listD, by rw [R0]; exact .nil, S2⟩
  rintro m s' ⟨k, h', tk, arr, rfl, hk, rfl, lx, ik, hl, rl, Sk⟩
  have leT : ∀ h', LeX (L2 :: ia :: Da :: addrs μ) sa.heap h' → Le (hid sa.heap (T E μ hs)) h' := fun h' lx z o e => by
    obtain ⟨e1, e2⟩ := hid_get.mp e
    refine lx z o (fun q => ?_) e1
    rcases List.mem_cons.mp q with q | q
    · exact no_some e1 nL q
    rcases List.mem_cons.mp q with q | q
    · exact no_some e1 hn q
    rcases List.mem_cons.mp q with q | q
    · exact no_some e1 nD q
    exact e2 (mT _ q)
  have leH : ∀ k h', LeX (L2 :: ia :: Da :: addrs μ) sa.heap h' → Le (hid sa.heap (T E μ hs)) (hid h' (T E2 (J k) hs2)) := fun k h' lx z o e => by
    obtain ⟨e1, e2⟩ := hid_get.mp e
    refine hid_get.mpr ⟨leT h' lx z o e, fun q => ?_⟩
    rcases (memk k z).mp q with q | q | q | q
    · exact no_some e1 nL q
    · exact no_some e1 hn q
    · exact no_some e1 nD q
    · exact e2 q
  by_cases hlast : k = xs.length
  · subst hlast
    refine io.stop A _ _ _ R.hd ik (leT _ lx) fun h2 t2 lx2 => ?_
    obtain ⟨m2, hm2, _⟩ := Sk.ns
    rw [eL2] at hm2
    have neLi : L2 ≠ ia := fun e => noL _ iaD e.symm
    have hm2' : h2.Ns L2 m2 := by obtain ⟨o, es, ep, e, r⟩ := hm2; exact ⟨o, es, ep, lx2 _ _ (fun q => neLi (List.mem_singleton.mp q)) e, r⟩
    have lx3 : LeX (L2 :: ia :: Da :: addrs μ) sa.heap h2 := lx.trans (lx2.mono fun z q => by rw [List.mem_singleton.mp q]; exact List.mem_cons_of_mem _ (List.mem_cons_self ..))
    have lxm : LeX (addrs μ) sa.heap h2 := fun z o nz e => lx3 z o (fun q => by
      rcases List.mem_cons.mp q with q | q
      · exact no_some e nL q
      rcases List.mem_cons.mp q with q | q
      · exact no_some e hn q
      rcases List.mem_cons.mp q with q | q
      · exact no_some e nD q
      exact nz q) e
    have le5 : Le (hid h' (T E2 (J xs.length) hs2)) (hid h2 (T E μ (L2 :: hs))) := hid_mono lx2 (fun z q => by rw [List.mem_singleton.mp q]; exact (memk _ _).mpr (.inr (.inl rfl))) fun z q => (memk _ _).mpr (by
      rcases List.mem_append.mp q with q | q
      · exact .inr (.inr (.inr (List.mem_append_left _ q)))
      · rcases List.mem_cons.mp q with q | q
        · exact .inl q
        · exact .inr (.inr (.inr (List.mem_append_right _ q))))
    have exL : ∃ o, h2.get? L2 = some o := by obtain ⟨o, _, _, e, _⟩ := hm2'; exact ⟨o, e⟩
    have nLh : L2 ∉ T E μ hs := fun q => noL _ (lowT _ q) rfl
    have SL : Sat c f E (L2 :: hs) Γ (J xs.length) h2 := by
      have le6 : Le (hid sa.heap (T E μ hs)) (hid h2 (T E μ (L2 :: hs))) := fun z o e => by
        obtain ⟨e1, e2⟩ := hid_get.mp e
        refine hid_get.mpr ⟨lxm z o (fun q => e2 (mT _ q)) e1, fun q => ?_⟩
        rcases List.mem_append.mp q with q | q
        · exact e2 (List.mem_append_left _ q)
        · rcases List.mem_cons.mp q with q | q
          · exact no_some e1 nL q
          · exact e2 (List.mem_append_right _ q)
      have ow : ∀ a ∈ own E, ∀ o, sa.heap.get? a = some o → h2.get? a = some o := fun a ha o e => lxm a o (fun q => ndo.2.2 a ha a q rfl) e
      have eTL : T E (J xs.length) (L2 :: hs) = T E μ (L2 :: hs) := T_ad (hJ _)
      refine ⟨by rw [hJ]; exact S1.nd, fun a ha q => ?_, fun a ha => ?_, by rw [eTL]; exact S1.wd.keeps le6, ?_, ?_, ?_, fun p hp => ?_⟩
      · rw [hJ] at ha
        rcases List.mem_cons.mp q with q | q
        · exact nLh (q ▸ List.mem_append_left _ ha)
        · exact S1.dis a ha q
      · rcases List.mem_cons.mp ha with q | ha
        · exact q ▸ exL
        · exact (S1.bel a ha).imp fun o e => lxm a o (fun m => S1.dis a (List.mem_append_right _ m) ha) e
      · obtain ⟨m, ⟨o, es, ep, e, r⟩, q⟩ := S1.ns
        refine ⟨m, ⟨o, es, ep, ow _ (List.mem_cons_self ..) _ e, r⟩, fun i x d a b g => ?_⟩
        obtain ⟨v, p, t⟩ := q i x d a b g
        exact ⟨v, p, by rw [eTL]; exact t.keeps le6⟩
      · intro i x d a b g
        obtain ⟨z, v, p, ⟨o, e, t⟩, u⟩ := S1.cl i x d a b g
        exact ⟨z, v, p, ⟨o, ow z (List.mem_cons_of_mem _ (List.mem_map_of_mem (mem_of_lookup p))) _ e, t⟩, by rw [eTL]; exact u.keeps le6⟩
      · intro p hp
        obtain ⟨v, o, e, t⟩ := S1.ce p hp
        exact ⟨v, o, ow _ (List.mem_cons_of_mem _ (List.mem_map_of_mem hp)) _ e, t⟩
      · rw [eTL]
        exact (Sk.mu p hp).keeps le5 fun o e => lx2 _ _ (fun q => Sk.dis p.1 (List.mem_append_right _ (addrs_mem hp)) (by rw [List.mem_singleton.mp q]; exact ia2)) e
    have rD : Rep (Pr c) (hid h2 (T E μ (L2 :: hs))) (.lst (Rr xs.length)) (.ref Da) := by
      refine .lst (vs := arr) ?_ (rl.keeps le5)
      obtain ⟨o, e, q⟩ := hl
      refine ⟨o, hid_get.mpr ⟨lx2 _ _ (fun z => noD _ iaD (List.mem_singleton.mp z).symm) e, fun z => ?_⟩, q⟩
      rcases List.mem_append.mp z with z | z
      · exact noD _ (lowT _ (List.mem_append_left _ z)) rfl
      · rcases List.mem_cons.mp z with z | z
        · exact neDL z
        · exact noD _ (lowT _ (hT _ z)) rfl
    exact hRR Da L2 h2 t2 m2 lxm SL rD hm2' nL
  · obtain ⟨d, hd⟩ : ∃ d, xs[k]? = some d := ⟨_, List.getElem?_eq_getElem (by omega)⟩
    refine io.item k A _ _ _ d R.hd ik (leT _ lx) hd fun v h2 t2 ik2 lx2 rv => ?_
    obtain ⟨b, μ', hif, ht, hf⟩ := step k d hd
    have S3 := Sk.hidden lx2 ia2 (io.is_ _ _ ik2)
    have lx3 : LeX (L2 :: ia :: Da :: addrs μ) sa.heap h2 := lx.trans (lx2.mono fun z q => by rw [List.mem_singleton.mp q]; exact List.mem_cons_of_mem _ (List.mem_cons_self ..))
    refine wpAny_assign_Name (stLocal 0 ok2 O2 S3 rfl hx (rv.keeps (leH k _ lx3)) fun h3 t3 l3 S4 => ?_)
    have l3' : LeX (L2 :: ia :: Da :: addrs μ) h2 h3 := l3.mono fun z q => by rw [List.mem_singleton.mp q, eL2]; exact List.mem_cons_self ..
    have lx4 := lx3.trans l3'
    have Sg : ∀ {μ0 h}, Sat c (compFi f scope x ks) E2 hs2 (some d :: g) μ0 h → Sat c (compFi f scope x ks) E2 hs2 (none :: g) μ0 h := fun S => S.weak fun i d' e => by
      cases i with
      | zero => simp at e
      | succ i => simpa using e
    -- a test
    have tests : ∀ (Q : Bool → Shared → Prop) (Er : Value → Shared → Prop), (∀ h5 t5, LeX (addrs μ) h3 h5 → Sat c (compFi f scope x ks) E2 hs2 (some d :: g) μ' h5 → addrs μ' = addrs μ → Q b { sa with heap := h5, toks := t5 }) →
        wpAny (Md c) A (forIn ifs true fun t r => if r = true then do let ok ← isTrue t E2 (eval t E2); pure (ForInStep.yield ok) else pure (ForInStep.yield r)) Q Er { sa with heap := h3, toks := t3 } := by
      intro Q Er kq
      cases hif with
      | nil => exact wpAny_tests_nil (kq h3 t3 (LeX.refl _ _) S4 (hJ k))
      | one ht' => exact wpAny_tests_one (ht'.run A E2 hs2 _ _ _ ok2 R O2 S4 fun h5 t5 l5 S5 => kq h5 t5 (by rw [← hJ k]; exact l5) S5 (ht'.ad.trans (hJ k)))
    refine tests _ _ fun h5 t5 l5 S5 ea => ?_
    have lx5 : LeX (L2 :: ia :: Da :: addrs μ) sa.heap h5 := lx4.trans (l5.mono fun z q => by simp [q])
    have outD : ∀ X : List Addr, (∀ z ∈ X, z ∈ addrs μ ∨ z ∈ own E2) → Da ∉ X ∧ ia ∉ X := fun X hX => by
      constructor
      · intro q
        rcases hX _ q with q | q
        · exact dis2 Da (List.mem_append_right _ q) Da2
        · exact dis2 Da (List.mem_append_left _ q) Da2
      · intro q
        rcases hX _ q with q | q
        · exact dis2 ia (List.mem_append_right _ q) ia2
        · exact dis2 ia (List.mem_append_left _ q) ia2
    have hl5 : LL h5 Da arr := by
      obtain ⟨o, e, q⟩ := hl
      refine ⟨o, l5 _ _ (outD _ fun z q => .inl q).1 (l3 _ _ (fun q => neDL ((List.mem_singleton.mp q).trans eL2)) (lx2 _ _ (fun z => noD _ iaD (List.mem_singleton.mp z).symm) e)), q⟩
    have ik5 : It (k + 1) h5 := io.at_ _ _ _ ik2 fun o e => l5 _ _ (outD _ fun z q => .inl q).2 (l3 _ _ (fun q => noL _ iaD ((List.mem_singleton.mp q).trans eL2)) e)
    have leS : Le (hid h' (T E2 (J k) hs2)) (hid h5 (T E2 (J k) hs2)) := fun z o e => by
      obtain ⟨e1, e2⟩ := hid_get.mp e
      refine hid_get.mpr ⟨l5 _ _ (fun q => e2 ((memk k z).mpr (.inr (.inr (.inr (mT _ q)))))) (l3 _ _ (fun q => e2 (List.mem_append_left _ (List.mem_append_left _ (List.mem_singleton.mp q ▸ List.mem_cons_self ..)))) (lx2 _ _ (fun q => e2 ((memk k z).mpr (.inr (.inl (List.mem_singleton.mp q))))) e1)), e2⟩
    have rl5 : RepL (Pr c) (hid h5 (T E2 (J k) hs2)) (Rr k) arr := rl.keeps leS
    cases b with
    | false =>
      obtain ⟨rfl, hRk⟩ := hf rfl
      simp only [Bool.false_eq_true, if_false]
      exact ⟨xs.length - (k + 1), by omega, k + 1, h5, t5, arr, rfl, by omega, rfl, lx5, ik5, hl5, by rw [hRk, T_ad ((hJ (k + 1)).trans (hJ k).symm)]; exact rl5, Sg S5⟩
    | true =>
      obtain ⟨y, hev, hRk⟩ := ht rfl
      simp only [if_true]
      refine hev.run A E2 hs2 _ _ _ ok2 R O2 S5 fun vy h6 t6 l6 S6 r6 => ?_
      have l6' : LeX (addrs μ) h5 h6 := ea ▸ l6
      have hl6 : LL h6 Da arr := by
        obtain ⟨o, e, q⟩ := hl5
        exact ⟨o, l6' _ _ (outD _ fun z q => .inl q).1 e, q⟩
      have ik6 : It (k + 1) h6 := io.at_ _ _ _ ik5 fun o e => l6' _ _ (outD _ fun z q => .inl q).2 e
      have eT6 : T E2 μ' hs2 = T E2 (J k) hs2 := T_ad (ea.trans (hJ k).symm)
      rw [eT6] at r6
      have rl6 : RepL (Pr c) (hid h6 (T E2 (J k) hs2)) (Rr k) arr := rl5.keeps (hid_mono l6' (fun z q => (memk k z).mpr (.inr (.inr (.inr (mT _ q))))) fun _ q => q)
      refine append_ll hl6 (fun h7 hl7 sb7 => ?_) (by rw [← rl6.length]; exact hz k (by omega))
      have l7 : LeX [Da] h6 h7 := fun z o nz e => by rw [sb7.2 z (fun q => nz (by rw [q]; exact List.mem_singleton.mpr rfl))]; exact e
      have exD : ∃ o, h7.get? Da = some o := by obtain ⟨o, e, _⟩ := hl7; exact ⟨o, e⟩
      have le7 : Le (hid h6 (T E2 (J k) hs2)) (hid h7 (T E2 (J (k + 1)) hs2)) := hid_mono l7 (fun z q => by rw [List.mem_singleton.mp q]; exact (memk k _).mpr (.inr (.inr (.inl rfl)))) fun z q => (memk k z).mpr ((memk (k + 1) z).mp q)
      refine ⟨xs.length - (k + 1), by omega, k + 1, h7, _, arr ++ [vy], rfl, by omega, rfl, (lx5.trans (l6'.mono fun z q => by simp [q])).trans (l7.mono fun z q => by rw [List.mem_singleton.mp q]; simp), io.at_ _ _ _ ik6 fun o e => l7 _ _ (fun q => noD _ iaD (List.mem_singleton.mp q)) e, hl7, ?_, Sg (S6.hidden l7 Da2 exD)⟩
      rw [hRk]
      exact (rl6.snoc r6).keeps le7
theorem compCore {A : Around} {E : Env} {hs : List Addr} {sa : Shared} {hb : Heap} {tb : Tok} {ia : Addr} {It : Nat → Heap → Prop} {scope : Scope} {x : Str} {px pos : Pos} {ks : List Str} {g : Ga} {elt iter : Expr} {ifs : List Expr} {xs : List D}
    {RR : Value → Addr → Result → Shared → Prop} {Er : Value → Shared → Prop}
    (R : Room A n) (O : EOk f E) (S1 : Sat c f E hs Γ μ sa.heap) (hok : compOkb f scope x ks = true) (ok : f.Ok) (ok2 : (compFi f scope x ks).Ok) (cap : Cap f.ks Γ ks g)
    (l2 : Le sa.heap hb) (hn : sa.heap.get? ia = none) (io : ItOk c sa (T E μ hs) xs ia It) (i0 : It 0 hb)
    (Rr : Nat → List D) (J : Nat → Mu) (R0 : Rr 0 = []) (J0 : J 0 = μ) (hJ : ∀ k, addrs (J k) = addrs μ) (hz : ∀ k, k ≤ xs.length → (Rr k).length ≤ sizeLine)
    (step : ∀ (k : Nat) (d : D), xs[k]? = some d → ∃ b μ', Ifs c (compFi f scope x ks) n (some d :: g) (J k) ifs b μ' ∧ (b = true → ∃ y, Ev c (compFi f scope x ks) n (some d :: g) μ' elt y (J (k + 1)) ∧ Rr (k + 1) = Rr k ++ [y]) ∧ (b = false → μ' = J (k + 1) ∧ Rr (k + 1) = Rr k))
    (hRR : ∀ D L2 h2 tk m2, LeX (addrs μ) sa.heap h2 → Sat c f E (L2 :: hs) Γ (J xs.length) h2 → Rep (Pr c) (hid h2 (T E μ (L2 :: hs))) (.lst (Rr xs.length)) (.ref D) → h2.Ns L2 m2 → sa.heap.get? L2 = none → RR (.ref D) L2 (.ok .next) { sa with heap := h2, toks := tk }) :
    wpAny (Md c) A (newList []) (fun acc s₃ => wpAny (Md c) A (newFunctionEnv scope E.globals (clOf E scope) [] E.qual none .none (some E)) (fun cenv s₄ =>
      codeAny (Md c) A (.compStart (.ListComp elt [⟨.Name x px, iter, ifs, 0⟩] scope pos) 0 (.ref ia) acc { cenv with scope := relabel scope E }) (RR acc cenv.locals) s₄) Er s₃) Er { sa with heap := hb, toks := tb } := by
  simp only [compOkb, Bool.and_eq_true, List.all_eq_true, Bool.or_eq_true, bne_iff_ne, beq_iff_eq, ne_eq, List.contains_iff_mem, decide_eq_true_eq] at hok
  obtain ⟨⟨⟨⟨⟨⟨hkind, hcell⟩, hloc⟩, hfree⟩, hxl⟩, hks⟩, hfn⟩ := hok
  have hcl : ∀ y ∈ freeNames scope, ∃ b, E.cells.lookup y = some b := fun y hy => O.cx y (hfree y hy).2 (hfree y hy).1
  obtain ⟨oi, hoi⟩ := io.is_ _ _ i0
  refine wpAny_newObj_type (wpAny_newFunctionEnv (fun y hy => hcell y hy) (by intro y hy; simp at hy) (fun h₁ hns₁ hsb₁ => ?_) hkind)
  have low : ∀ z o, hb.get? z = some o → z < hb.objs.size := fun z o e => Heap.lt_size e
  have lowa : ∀ z o, sa.heap.get? z = some o → z < hb.objs.size := fun z o e => low z o (l2 _ _ e)
  have ltDL : hb.objs.size < (hb.push { cls := .type "list", dict := none, data := .seq ([] : List Value).toArray }).objs.size := by rw [Heap.size_push]; exact Nat.lt_succ_self _
  have keep₁ : Le hb h₁ := fun z o e => hsb₁.extBut z o (fun q => Nat.lt_asymm (q ▸ low z o e) ltDL) (Heap.get?_push_of_some _ (Heap.get?_push_of_some _ e))
  have PP : CP E μ hs sa.heap h₁ ia hb.objs.size (hb.push { cls := .type "list", dict := none, data := .seq ([] : List Value).toArray }).objs.size :=
    ⟨ltDL, fun z hz => let ⟨o, e⟩ := S1.belT z hz; lowa z o e, low ia oi hoi, Option.eq_none_iff_forall_ne_some.mpr fun o q => Nat.lt_irrefl _ (lowa _ _ q),
      Option.eq_none_iff_forall_ne_some.mpr fun o q => Nat.lt_asymm (lowa _ _ q) ltDL, hn, fun z o e => keep₁ _ _ (l2 _ _ e),
      ⟨_, hsb₁.extBut _ _ (Nat.ne_of_lt ltDL) (Heap.get?_push_of_some _ (Heap.get?_push_size _ rfl)), 0, rfl⟩, ⟨oi, keep₁ _ _ hoi⟩⟩
  have S2 := compSat (x := x) PP S1 hcl (fun y hy => (hfree y hy).1) hks hfn cap hns₁
  have hx : (relab scope f.cs).names.lookup x = some .local := by
    rw [← relab_eq O scope]
    exact lookup_relabel_local (env := E) hxl
  have O2 : EOk (compFi f scope x ks) (envOf2 E scope (hb.push { cls := .type "list", dict := none, data := .seq ([] : List Value).toArray }).objs.size) := ⟨relab_eq O scope, O.gl, O.bu, fun y hy hl => by
    rcases List.mem_cons.mp hy with q | hy
    · exact nomatch (q ▸ hl).symm.trans hx
    · obtain ⟨b, hb⟩ := hcl y (hks y hy).1
      exact ⟨b, cellsOf_lookup hfn (hks y hy).1 hb hcl⟩⟩
  have i1 : It 0 h₁ := io.at_ _ _ _ i0 fun o e => keep₁ _ _ e
  have loop := compLoop (x := x) (px := px) (pos := pos) (elt := elt) (iter := iter) (RR := RR) (Er := Er) (t1 := tb + ([] : List (Str × Value)).length) PP R S1 O2 hx ok2 io i1 rfl (List.mem_cons_self ..) (List.mem_cons_of_mem _ (List.mem_cons_self ..)) (T2_mem hcl) Rr J R0 hJ hz (J0.symm ▸ S2) step hRR
  exact codeAny_compStart_list loop (io.self A _ _ _ 0 i1 loop)
end
end Mine
namespace Mine
section
variable {c : Cx} {f : Fi} {n : Nat} {Γ Γ' Γ1 : Ga} {μ μ' μ1 μ2 : Mu} {P : Out → Prop}

theorem compParts {scope : Scope} {x : Str} {ks : List Str} (hok : compOkb f scope x ks = true) : scope.kind = .function ∧ (∀ y ∈ scope.names, y.2 = .local → scope.names.lookup y.1 = some .local) ∧ ∀ y ∈ freeNames scope, f.cs.names.lookup y = some .cell ∧ y ∈ f.ks := by
  simp only [compOkb, Bool.and_eq_true, List.all_eq_true, Bool.or_eq_true, bne_iff_ne, beq_iff_eq, ne_eq, List.contains_iff_mem, decide_eq_true_eq] at hok
  obtain ⟨⟨⟨⟨⟨⟨hkind, hcell⟩, hloc⟩, hfree⟩, hxl⟩, hks⟩, hfn⟩ := hok
  exact ⟨hkind, fun y hy hl => (hloc y hy).resolve_left fun q => q hl, hfree⟩
structure CompSt (c : Cx) (f2 : Fi) (n : Nat) (g : Ga) (xs : List D) (ifs : List Expr) (elt : Expr) (Rr : Nat → List D) (J : Nat → Mu) (μ : Mu) : Prop where
  R0 : Rr 0 = []
  J0 : J 0 = μ
  hJ : ∀ k, addrs (J k) = addrs μ
  hz : ∀ k, k ≤ xs.length → (Rr k).length ≤ sizeLine
  step : ∀ (k : Nat) (d : D), xs[k]? = some d → ∃ b μ', Ifs c f2 n (some d :: g) (J k) ifs b μ' ∧ (b = true → ∃ y, Ev c f2 n (some d :: g) μ' elt y (J (k + 1)) ∧ Rr (k + 1) = Rr k ++ [y]) ∧ (b = false → μ' = J (k + 1) ∧ Rr (k + 1) = Rr k)
theorem le_fresh {E : Env} {hs : List Addr} {h0 h : Heap} {a : Addr} (S : Sat c f E hs Γ μ h) (l : LeX (addrs μ) h0 h) (ex : ∀ z ∈ addrs μ, ∃ o, h.get? z = some o) (e : h.get? a = none) : h0.get? a = none := by
  cases q : h0.get? a with
  | none => rfl
  | some o =>
    by_cases m : a ∈ addrs μ
    · obtain ⟨y, hy⟩ := ex a m; rw [e] at hy; cases hy
    · have := l a o m q; rw [e] at this; cases this
theorem Ev.comp {scope : Scope} {x : Str} {px pos : Pos} {ks : List Str} {g : Ga} {elt iter : Expr} {ifs : List Expr} {d0 : D} {xs : List D} {Rr : Nat → List D} {J : Nat → Mu}
    (h1 : Ev c f n Γ μ iter d0 μ1) (hI : IterD c d0 xs) (hok : compOkb f scope x ks = true) (ok2 : (compFi f scope x ks).Ok) (cap : Cap f.ks Γ ks g) (st : CompSt c (compFi f scope x ks) n g xs ifs elt Rr J μ1)
    (hf : ∀ (E : Env) (v : Value), foldedSetIterable iter E v = Pure.pure v := by intro _ _; rfl) : Ev c f n Γ μ (.ListComp elt [⟨.Name x px, iter, ifs, 0⟩] scope pos) (.lst (Rr xs.length)) (J xs.length) :=
  ⟨(st.hJ _).trans h1.ad, fun A E hs s Q Er ok R O S k => by
    obtain ⟨hkind, hnames, hfree⟩ := compParts hok
    rw [eval_ListComp]
    refine wpAny_comprehension_free (use := Option.none) rfl (fun v => hf E v) (closure_ok fun y hy => O.cx y (hfree y hy).2 (hfree y hy).1) hkind hnames (h1.run A E hs s _ Er ok R O S fun v ha t1 l1 S1 r1 => ?_)
    rw [← T_ad h1.ad] at r1
    refine hI A _ _ v _ Er R.hd r1 fun ia hb t2 It l2 hn io i0 => ?_
    refine compCore (RR := fun acc C => compPost (Md c) A Er Option.none Q acc C) (sa := { s with heap := ha, toks := t1 }) (tb := t2) R O S1 hok ok ok2 cap l2 hn io i0 Rr J st.R0 st.J0 st.hJ st.hz st.step fun D L2 h2 tk m2 lx SL rD hm hL => ?_
    refine ⟨m2, hm, fun h3 sb => ?_⟩
    have l3 : LeX [L2] h2 h3 := fun z o nz e => by rw [sb.2 z (fun q => nz (List.mem_singleton.mpr q))]; exact e
    have hLh : L2 ∉ hs := fun q => by obtain ⟨o, e⟩ := S1.bel L2 q; rw [show ha.get? L2 = Option.none from hL] at e; cases e
    refine k _ h3 tk ?_ (SL.gone l3 hLh) ?_
    · have hx : LeX (addrs μ) ha h3 := fun z o nz e => l3 z o (fun q => by rw [List.mem_singleton.mp q, show ha.get? L2 = Option.none from hL] at e; cases e) (lx z o (by rw [h1.ad]; exact nz) e)
      exact l1.trans hx
    · rw [← T_ad h1.ad]
      refine rD.keeps (hid_mono l3 (fun z q => by rw [List.mem_singleton.mp q]; exact List.mem_append_right _ (List.mem_cons_self ..)) fun z q => ?_)
      rcases List.mem_append.mp q with q | q
      · exact List.mem_append_left _ q
      · exact List.mem_append_right _ (List.mem_cons_of_mem _ q)⟩

theorem Ex1.assignS {x : Str} {px pos : Pos} {e : Expr} {d : D} (i : Nat) (h1 : Ev c f n Γ μ e d μ1) (hp : P (.nxt (Γ.set i (some d)) μ1)) (hc : ∀ E : Env, E.scope = f.cs → swapsWith e (some (.Name x px)) pos.line E = pure false) (hx : f.ks[i]? = some x := by rfl) : Ex1 c f n Γ μ (.Assign [.Name x px] e pos) P :=
  fun A E hs s Q Er ok R O S k => wpAny_Assign_Name (h1.run A E hs s _ Er ok R O S fun v ha t1 l1 S1 r1 => stName i ok O S1 hx (by rw [T_ad h1.ad]; exact r1) fun h' tk l S2 =>
    k _ .next h' tk hp (l1.addl.trans (l.addr)) (fun a q => .inl (by have : a ∈ addrs μ1 := q; rwa [h1.ad] at this)) S2) (hc E O.sc)
/-- the name is a plain local: the comprehension stores it itself -/
theorem Ex1.assignC {scope : Scope} {x y : Str} {px py pos spos : Pos} {ks : List Str} {g : Ga} {elt iter : Expr} {ifs : List Expr} {d0 : D} {xs : List D} {Rr : Nat → List D} {J : Nat → Mu} (i : Nat)
    (h1 : Ev c f n Γ μ iter d0 μ1) (hI : IterD c d0 xs) (hok : compOkb f scope x ks = true) (ok2 : (compFi f scope x ks).Ok) (cap : Cap f.ks Γ ks g) (st : CompSt c (compFi f scope x ks) n g xs ifs elt Rr J μ1)
    (hp : P (.nxt (Γ.set i (some (.lst (Rr xs.length)))) (J xs.length))) (hsw : ∀ E : Env, E.scope = f.cs → swapsWith (.ListComp elt [⟨.Name x px, iter, ifs, 0⟩] scope pos) (some (.Name y py)) spos.line E = pure true) (hy : f.ks[i]? = some y := by rfl)
    (hf : ∀ (E : Env) (v : Value), foldedSetIterable iter E v = pure v := by intro _ _; rfl) : Ex1 c f n Γ μ (.Assign [.Name y py] (.ListComp elt [⟨.Name x px, iter, ifs, 0⟩] scope pos) spos) P :=
  fun A E hs s Q Er ok R O S k => by
    obtain ⟨hkind, hnames, hfree⟩ := compParts hok
    rw [exec_Assign_Name_used _ _ _ _ (hsw E O.sc)]
    refine wpAny_bind (wpAny_standAt (wpAny_bind ?_))
    show wpAny (Md c) A (do let _ ← comprehension (.ListComp elt [⟨.Name x px, iter, ifs, 0⟩] scope pos) scope E _ (newList []) false (eval iter E) (some (PySem.assign (.Name y py) E))) _ _ s
    refine wpAny_bind (wpAny_mono (wpAny_comprehension_free (use := some (PySem.assign (.Name y py) E)) (Q := fun _ s' => Q .next s') rfl (fun v => hf E v) (closure_ok fun y hy => O.cx y (hfree y hy).2 (hfree y hy).1) hkind hnames
      (h1.run A E hs s _ Er ok R O S fun v ha t1 l1 S1 r1 => ?_)) (fun _ s' hq => wpAny_pure (wpAny_pure hq)) fun _ _ e => e)
    rw [← T_ad h1.ad] at r1
    refine hI A _ _ v _ Er R.hd r1 fun ia hb t2 It l2 hn io i0 => ?_
    refine compCore (RR := fun acc C => compPost (Md c) A Er (some (PySem.assign (.Name y py) E)) (fun _ s' => Q .next s') acc C) (sa := { s with heap := ha, toks := t1 }) (tb := t2) R O S1 hok ok ok2 cap l2 hn io i0 Rr J st.R0 st.J0 st.hJ st.hz st.step fun D L2 h2 tk m2 lx SL rD hm hL => ?_
    have hLh : L2 ∉ hs := fun q => by obtain ⟨o, e⟩ := S1.bel L2 q; rw [show ha.get? L2 = none from hL] at e; cases e
    show wpAny (Md c) A (PySem.assign (.Name y py) E (.ref D)) _ _ _
    refine wpAny_assign_Name (stName i ok O SL hy (by rw [T_ad (st.hJ _)]; exact rD) fun h3 t3 l3 S3 => ?_)
    have hLo : L2 ∉ own E := fun q => by obtain ⟨o, e⟩ := S1.belT L2 (List.mem_append_left _ (List.mem_append_left _ q)); rw [show ha.get? L2 = none from hL] at e; cases e
    have hm3 : h3.Ns L2 m2 := by obtain ⟨o, es, ep, e, r⟩ := hm; exact ⟨o, es, ep, l3 _ _ hLo e, r⟩
    refine ⟨m2, hm3, fun h4 sb => ?_⟩
    have l4 : LeX [L2] h3 h4 := fun z o nz e => by rw [sb.2 z (fun q => nz (List.mem_singleton.mpr q))]; exact e
    refine k (.nxt (Γ.set i (some (.lst (Rr xs.length)))) (J xs.length)) .next h4 t3 hp ?_ (fun a q => .inl (by have : a ∈ addrs (J xs.length) := q; rwa [st.hJ, h1.ad] at this)) (S3.gone l4 hLh)
    have hx : LeX (addrs μ ++ own E) ha h4 := fun z o nz e => l4 z o (fun q => by rw [List.mem_singleton.mp q, show ha.get? L2 = none from hL] at e; cases e) (l3 z o (fun q => nz (List.mem_append_right _ q)) (lx z o (by rw [h1.ad]; exact fun q => nz (List.mem_append_left _ q)) e))
    exact l1.addl.trans hx
end
end Mine
namespace Mine
section
variable {c : Cx} {n : Nat}
theorem pu_ii {t : Value → Value → Sem Value} {a b : Int} {d : D} (h : ∀ (A : Around) (s : Shared) (t1 u1 : Tok) (Q : Value → Shared → Prop) (Er : Value → Shared → Prop), Room A n →
    (∀ v h' tk, Le s.heap h' → (∀ H, Rep (Pr c) H d v) → Q v { s with heap := h', toks := tk }) → wpAny (Md c) A (t (.int a t1) (.int b u1)) Q Er s) : Pu2 c n t (dI a) (dI b) d :=
  fun A hs s v1 v2 Q Er R bel W r1 r2 k => by
    obtain ⟨t1, rfl⟩ := rep_int r1
    obtain ⟨t2, rfl⟩ := rep_int r2
    exact h A s t1 t2 Q Er R fun v h' tk l r => k v h' tk l (r _)
theorem pu_ss {t : Value → Value → Sem Value} {a b : Str} {d : D} (h : ∀ (A : Around) (s : Shared) (t1 u1 : Tok) (Q : Value → Shared → Prop) (Er : Value → Shared → Prop), Room A n →
    (∀ v h' tk, Le s.heap h' → (∀ H, Rep (Pr c) H d v) → Q v { s with heap := h', toks := tk }) → wpAny (Md c) A (t (.str a t1) (.str b u1)) Q Er s) : Pu2 c n t (dS a) (dS b) d :=
  fun A hs s v1 v2 Q Er R bel W r1 r2 k => by
    obtain ⟨t1, rfl⟩ := rep_str r1
    obtain ⟨t2, rfl⟩ := rep_str r2
    exact h A s t1 t2 Q Er R fun v h' tk l r => k v h' tk l (r _)
theorem rI {P : Params} {H : Heap} {i : Int} {t : Tok} : Rep P H (dI i) (.int i t) := .dat (.int _ _)
theorem rS {P : Params} {H : Heap} {x : Str} {t : Tok} : Rep P H (dS x) (.str x t) := .dat (.str _ _)
theorem rB {P : Params} {H : Heap} {b : Bool} : Rep P H (dB b) (.bool b) := .dat (.bool _)
theorem rN {P : Params} {H : Heap} : Rep P H dN .none := .dat .none

theorem o_addI {a b : Int} : Pu2 c n (binaryOp .Add) (dI a) (dI b) (dI (a + b)) := pu_ii fun A s t u Q Er R k => add_int (k _ s.heap _ (Le.refl _) fun _ => rI)
theorem o_subI {a b : Int} : Pu2 c n (binaryOp .Sub) (dI a) (dI b) (dI (a - b)) := pu_ii fun A s t u Q Er R k => sub_int (k _ s.heap _ (Le.refl _) fun _ => rI)
theorem o_mulI {a b : Int} (h : IntMulOk a b) : Pu2 c n (binaryOp .Mult) (dI a) (dI b) (dI (a * b)) := pu_ii fun A s t u Q Er R k => mul_int (k _ s.heap _ (Le.refl _) fun _ => rI) h
theorem o_divI {a b : Int} (hb : b ≠ 0) (h : Builtin.divisionGoesByPylong a b = false) : Pu2 c n (binaryOp .FloorDiv) (dI a) (dI b) (dI (a.fdiv b)) := pu_ii fun A s t u Q Er R k => floordiv_int hb (k _ s.heap _ (Le.refl _) fun _ => rI) (.inl h)
theorem o_modI {a b : Int} (hb : b ≠ 0) : Pu2 c n (binaryOp .Mod) (dI a) (dI b) (dI (a.fmod b)) := pu_ii fun A s t u Q Er R k => mod_int' hb (k _ s.heap _ (Le.refl _) fun _ => rI)
theorem o_powI {a b : Int} (hb : 0 ≤ b) (h : (Builtin.Int.intBits a : Int) * b ≤ 2 ^ 27) : Pu2 c n (binaryOp .Pow) (dI a) (dI b) (dI (a ^ b.toNat)) := pu_ii fun A s t u Q Er R k => pow_int hb h (k _ s.heap _ (Le.refl _) fun _ => rI)
theorem o_iaddI {a b : Int} : Pu2 c n (inplaceOp .Add) (dI a) (dI b) (dI (a + b)) := pu_ii fun A s t u Q Er R k => iadd_int (k _ s.heap _ (Le.refl _) fun _ => rI)
theorem o_isubI {a b : Int} : Pu2 c n (inplaceOp .Sub) (dI a) (dI b) (dI (a - b)) := pu_ii fun A s t u Q Er R k => isub_int (k _ s.heap _ (Le.refl _) fun _ => rI)
theorem o_eqI {a b : Int} : Pu2 c n (compareOp .Eq) (dI a) (dI b) (dB (a == b)) := pu_ii fun A s t u Q Er R k => eq_int (k _ s.heap s.toks (Le.refl _) fun _ => rB)
theorem o_neI {a b : Int} : Pu2 c n (compareOp .NotEq) (dI a) (dI b) (dB (a != b)) := pu_ii fun A s t u Q Er R k => ne_int (k _ s.heap s.toks (Le.refl _) fun _ => rB)
theorem o_ltI {a b : Int} : Pu2 c n (compareOp .Lt) (dI a) (dI b) (dB (decide (a < b))) := pu_ii fun A s t u Q Er R k => lt_int (k _ s.heap s.toks (Le.refl _) fun _ => rB)
theorem o_leI {a b : Int} : Pu2 c n (compareOp .LtE) (dI a) (dI b) (dB (decide (a ≤ b))) := pu_ii fun A s t u Q Er R k => le_int (k _ s.heap s.toks (Le.refl _) fun _ => rB)
theorem o_gtI {a b : Int} : Pu2 c n (compareOp .Gt) (dI a) (dI b) (dB (decide (b < a))) := pu_ii fun A s t u Q Er R k => gt_int (k _ s.heap s.toks (Le.refl _) fun _ => rB)
theorem o_geI {a b : Int} : Pu2 c n (compareOp .GtE) (dI a) (dI b) (dB (decide (b ≤ a))) := pu_ii fun A s t u Q Er R k => ge_int (k _ s.heap s.toks (Le.refl _) fun _ => rB)
theorem o_eqS {a b : Str} : Pu2 c n (compareOp .Eq) (dS a) (dS b) (dB (a == b)) := pu_ss fun A s t u Q Er R k => eq_str (k _ s.heap s.toks (Le.refl _) fun _ => rB)
theorem o_neS {a b : Str} : Pu2 c n (compareOp .NotEq) (dS a) (dS b) (dB (a != b)) := pu_ss fun A s t u Q Er R k => ne_str (k _ s.heap s.toks (Le.refl _) fun _ => rB)
theorem o_addS {a b : Str} (h : a.length + b.length ≤ sizeLine) : Pu2 c n (binaryOp .Add) (dS a) (dS b) (dS (a ++ b)) := pu_ss fun A s t u Q Er R k => add_str (fun t' tk => k _ s.heap tk (Le.refl _) fun _ => rS) h

-- is, is not, with none
noncomputable def isNoneD : D → Bool
  | .dat .none => true
  | .val .none => true
  | _ => false
noncomputable def okNone : D → Bool
  | .val v => plainIs v .none
  | _ => true
theorem is_none {P : Params} {H : Heap} {d : D} {v : Value} (r : Rep P H d v) (h : okNone d = true) : plainIs v .none = true ∧ (v == .none) = isNoneD d := by
  cases r with
  | dat r => cases r <;> exact ⟨rfl, rfl⟩
  | val v =>
    refine ⟨h, ?_⟩
    cases v <;> rfl
  | _ => exact ⟨rfl, rfl⟩
theorem o_is {d : D} (h : okNone d = true := by rfl) : Pu2 c n (compareOp .Is) d dN (dB (isNoneD d)) := fun A hs s v1 v2 Q Er R bel W r1 r2 k => by
  obtain rfl := rep_none r2
  obtain ⟨h1, h2⟩ := is_none r1 h
  exact wpAny_is_plain h1 (k _ s.heap s.toks (Le.refl _) (by rw [h2]; exact rB))
theorem o_isNot {d : D} (h : okNone d = true := by rfl) : Pu2 c n (compareOp .IsNot) d dN (dB (!isNoneD d)) := fun A hs s v1 v2 Q Er R bel W r1 r2 k => by
  obtain rfl := rep_none r2
  obtain ⟨h1, h2⟩ := is_none r1 h
  exact wpAny_isNot_plain h1 (k _ s.heap s.toks (Le.refl _) (by rw [h2]; exact rB))

-- data
theorem rep_reads {P : Params} {h : Heap} {X : List Addr} {d : PyData} {v : Value} (r : Rep P (hid h X) (.dat d) v) : ∃ as, Reads h v d as := by
  cases r with
  | dat r => exact ⟨_, Reads.keeps (hid_le _ _) r⟩
theorem o_eqD {a b : PyData} (ha : SeqAt.shaped a = true) (hb : SeqAt.shaped b = true) : Pu2 c n (compareOp .Eq) (.dat a) (.dat b) (dB (a.eqv b)) := fun A hs s v1 v2 Q Er R bel W r1 r2 k => by
  obtain ⟨as, q1⟩ := rep_reads r1
  obtain ⟨bs, q2⟩ := rep_reads r2
  exact SeqAt.compareEq_shaped q1 q2 ha hb R.cl (k _ s.heap s.toks (Le.refl _) rB)
theorem o_neD {a b : PyData} (ha : SeqAt.shaped a = true) (hb : SeqAt.shaped b = true) : Pu2 c n (compareOp .NotEq) (.dat a) (.dat b) (dB (!a.eqv b)) := fun A hs s v1 v2 Q Er R bel W r1 r2 k => by
  obtain ⟨as, q1⟩ := rep_reads r1
  obtain ⟨bs, q2⟩ := rep_reads r2
  exact SeqAt.compareNe_shaped q1 q2 ha hb R.cl (k _ s.heap s.toks (Le.refl _) rB)
theorem roomIn {A : Around} {xs : List PyData} {d : PyData} (R : Room A n) (hd : d.depth ≤ 1) : A.units + 1 + min (PyData.depthAll xs) d.depth < cLine := by
  have h2 : min (PyData.depthAll xs) d.depth ≤ d.depth := Nat.min_le_right _ _
  have := R.cl
  omega
theorem o_inL {d : PyData} {xs : List PyData} (hx : PyData.canLayAll0 xs = true) (hd : d.canLay0 = true) (h1 : d.depth ≤ 1) : Pu2 c n (compareOp .In) (.dat d) (dL xs) (dB (xs.any fun y => PyData.eqv y d)) := fun A hs s v1 v2 Q Er R bel W r1 r2 k => by
  obtain ⟨as, q1⟩ := rep_reads r1
  obtain ⟨bs, q2⟩ := rep_reads r2
  exact SeqAt.in_list_reads q2 q1 hx hd (roomIn R h1) (k _ s.heap s.toks (Le.refl _) rB)
theorem o_ninL {d : PyData} {xs : List PyData} (hx : PyData.canLayAll0 xs = true) (hd : d.canLay0 = true) (h1 : d.depth ≤ 1) : Pu2 c n (compareOp .NotIn) (.dat d) (dL xs) (dB (!xs.any fun y => PyData.eqv y d)) := fun A hs s v1 v2 Q Er R bel W r1 r2 k => by
  obtain ⟨as, q1⟩ := rep_reads r1
  obtain ⟨bs, q2⟩ := rep_reads r2
  exact SeqAt.notIn_list_reads q2 q1 hx hd (roomIn R h1) (k _ s.heap s.toks (Le.refl _) rB)
theorem o_inT {d : PyData} {xs : List PyData} (hx : PyData.canLayAll0 xs = true) (hd : d.canLay0 = true) (h1 : d.depth ≤ 1) : Pu2 c n (compareOp .In) (.dat d) (dT xs) (dB (xs.any fun y => PyData.eqv y d)) := fun A hs s v1 v2 Q Er R bel W r1 r2 k => by
  obtain ⟨as, q1⟩ := rep_reads r1
  obtain ⟨bs, q2⟩ := rep_reads r2
  exact SeqAt.in_tuple_reads q2 q1 hx hd (roomIn R h1) (k _ s.heap s.toks (Le.refl _) rB)

-- items
theorem o_itL {l : List D} {k : Int} {d : D} (h0 : 0 ≤ k) (h1 : k < 2 ^ 63) (hd : l[k.toNat]? = some d) : Pu2 c n getItem (.lst l) (dI k) d := fun A hs s v1 v2 Q Er R bel W r1 r2 q => by
  obtain ⟨t, rfl⟩ := rep_int r2
  cases r1 with
  | lst hl rl =>
    obtain ⟨v, hv, r⟩ := rl.get hd
    exact wpAny_getItem_list (hl.keeps (hid_le _ _)).is h0 h1 (by simpa using hv) (q v s.heap s.toks (Le.refl _) r)
theorem o_itLn {l : List D} {k : Int} {d : D} (h0 : k < 0) (h1 : -(l.length : Int) ≤ k) (h2 : -2 ^ 63 ≤ k) (hd : l[(k + l.length).toNat]? = some d) : Pu2 c n getItem (.lst l) (dI k) d := fun A hs s v1 v2 Q Er R bel W r1 r2 q => by
  obtain ⟨t, rfl⟩ := rep_int r2
  cases r1 with
  | lst hl rl =>
    obtain ⟨v, hv, r⟩ := rl.get hd
    have e := rl.length
    exact wpAny_getItem_list_neg (hl.keeps (hid_le _ _)).is h0 (by simp; omega) h2 (by simp; rw [← e]; exact hv) (q v s.heap s.toks (Le.refl _) r)
theorem o_itT {l : List D} {k : Int} {d : D} {j : Nat} (h0 : -2 ^ 63 ≤ k) (h1 : k < 2 ^ 63) (hj : seqIndex? k l.length = some j) (hd : l[j]? = some d) : Pu2 c n getItem (.tup l) (dI k) d := fun A hs s v1 v2 Q Er R bel W r1 r2 q => by
  obtain ⟨t, rfl⟩ := rep_int r2
  cases r1 with
  | tup hl rl =>
    obtain ⟨v, hv, r⟩ := rl.get hd
    have e := rl.length
    exact getItem_tuple (hl.keeps (hid_le _ _)).is h0 h1 (by simp; rw [← e]; exact hj) (by simpa using hv) (q v s.heap s.toks (Le.refl _) r)
/-- a pure step's data may be said otherwise -/
theorem Pu2.l {t : Value → Value → Sem Value} {d1 d1' d2 d : D} (h : Pu2 c n t d1 d2 d) (e : ∀ P H v, Rep P H d1' v → Rep P H d1 v) : Pu2 c n t d1' d2 d := fun A hs s v1 v2 Q Er R bel W r1 r2 k => h A hs s v1 v2 Q Er R bel W (e _ _ _ r1) r2 k
theorem Pu2.r {t : Value → Value → Sem Value} {d1 d2 d2' d : D} (h : Pu2 c n t d1 d2 d) (e : ∀ P H v, Rep P H d2' v → Rep P H d2 v) : Pu2 c n t d1 d2' d := fun A hs s v1 v2 Q Er R bel W r1 r2 k => h A hs s v1 v2 Q Er R bel W r1 (e _ _ _ r2) k
theorem ofT {xs : List PyData} : ∀ P H v, Rep P H (.tup (xs.map .dat)) v → Rep P H (dT xs) v := fun P H v => rep_tuple
theorem o_itDT {l : List PyData} {k : Int} {d : PyData} {j : Nat} (h0 : -2 ^ 63 ≤ k) (h1 : k < 2 ^ 63) (hj : seqIndex? k l.length = some j) (hd : l[j]? = some d) : Pu2 c n getItem (dT l) (dI k) (.dat d) := fun A hs s v1 v2 Q Er R bel W r1 r2 q => by
  obtain ⟨t, rfl⟩ := rep_int r2
  cases r1 with
  | dat r1 =>
    cases r1 with
    | tuple e cl da ra =>
      have rr := repL_dat (P := Pr c) ra
      have hlen := rr.length
      simp only [List.length_map] at hlen
      obtain ⟨v, hv, r⟩ := rr.get (i := j) (d := .dat d) (by rw [List.getElem?_map, hd]; rfl)
      exact getItem_tuple ⟨_, hid_le _ _ _ _ e, cl, _, da⟩ h0 h1 (by rw [← Array.length_toList, ← hlen]; exact hj) (by simpa using hv) (q v s.heap s.toks (Le.refl _) r)
/-- as data -/
noncomputable def toDat : D → Option PyData
  | .dat d => some d
  | .lst l => (toDats l).map .list
  | .tup l => (toDats l).map .tuple
  | _ => none
where toDats : List D → Option (List PyData)
  | [] => some []
  | d :: r => match toDat d, toDats r with
    | some x, some xs => some (x :: xs)
    | _, _ => none
mutual
theorem rep_toDat' {P : Params} {H : Heap} : ∀ (d : D) {v : Value} {x : PyData}, Rep P H d v → toDat d = some x → Rep P H (.dat x) v
  | .dat d, _, _, r, e => by
    simp only [toDat, Option.some.injEq] at e
    exact e ▸ r
  | .lst l, _, _, r, e => by
    simp only [toDat, Option.map_eq_some_iff] at e
    obtain ⟨xs, e, rfl⟩ := e
    cases r with
    | lst a b => exact rep_list (.lst a (rep_toDats' l b e))
  | .tup l, _, _, r, e => by
    simp only [toDat, Option.map_eq_some_iff] at e
    obtain ⟨xs, e, rfl⟩ := e
    cases r with
    | tup a b => exact rep_tuple (.tup a (rep_toDats' l b e))
  | .val _, _, _, _, e => by simp [toDat] at e
  | .rng _, _, _, _, e => by simp [toDat] at e
  | .obj _ _, _, _, _, e => by simp [toDat] at e
  | .inst _ _, _, _, _, e => by simp [toDat] at e
  | .dct _, _, _, _, e => by simp [toDat] at e
theorem rep_toDats' {P : Params} {H : Heap} : ∀ (l : List D) {vs : List Value} {xs : List PyData}, RepL P H l vs → toDat.toDats l = some xs → RepL P H (xs.map .dat) vs
  | [], _, _, r, e => by
    simp only [toDat.toDats, Option.some.injEq] at e
    subst e
    cases r
    exact .nil
  | d :: l, _, _, r, e => by
    simp only [toDat.toDats] at e
    cases h1 : toDat d with
    | none => rw [h1] at e; cases e
    | some x =>
      cases h2 : toDat.toDats l with
      | none => rw [h1, h2] at e; cases e
      | some xs =>
        rw [h1, h2] at e
        simp only [Option.some.injEq] at e
        subst e
        cases r with
        | cons a b => exact .cons (rep_toDat' d a h1) (rep_toDats' l b h2)
end
theorem rep_toDat {P : Params} {H : Heap} {d : D} {v : Value} {x : PyData} (r : Rep P H d v) (e : toDat d = some x) : Rep P H (.dat x) v := rep_toDat' d r e
theorem rep_toDats {P : Params} {H : Heap} {l : List D} {vs : List Value} {xs : List PyData} (r : RepL P H l vs) (e : toDat.toDats l = some xs) : RepL P H (xs.map .dat) vs := rep_toDats' l r e
theorem o_eqG {d1 d2 : D} {a b : PyData} (h1 : toDat d1 = some a) (h2 : toDat d2 = some b) (ha : SeqAt.shaped a = true) (hb : SeqAt.shaped b = true) : Pu2 c n (compareOp .Eq) d1 d2 (dB (a.eqv b)) := ((o_eqD ha hb).l fun P H v r => rep_toDat r h1).r fun P H v r => rep_toDat r h2
theorem o_neG {d1 d2 : D} {a b : PyData} (h1 : toDat d1 = some a) (h2 : toDat d2 = some b) (ha : SeqAt.shaped a = true) (hb : SeqAt.shaped b = true) : Pu2 c n (compareOp .NotEq) d1 d2 (dB (!a.eqv b)) := ((o_neD ha hb).l fun P H v r => rep_toDat r h1).r fun P H v r => rep_toDat r h2
theorem o_inG {d : PyData} {d2 : D} {xs : List PyData} (h2 : toDat d2 = some (.list xs)) (hx : PyData.canLayAll0 xs = true) (hd : d.canLay0 = true) (h1 : d.depth ≤ 1) : Pu2 c n (compareOp .In) (.dat d) d2 (dB (xs.any fun y => PyData.eqv y d)) := (o_inL hx hd h1).r fun P H v r => rep_toDat r h2
theorem o_ninG {d : PyData} {d2 : D} {xs : List PyData} (h2 : toDat d2 = some (.list xs)) (hx : PyData.canLayAll0 xs = true) (hd : d.canLay0 = true) (h1 : d.depth ≤ 1) : Pu2 c n (compareOp .NotIn) (.dat d) d2 (dB (!xs.any fun y => PyData.eqv y d)) := (o_ninL hx hd h1).r fun P H v r => rep_toDat r h2
theorem o_inGT {d : PyData} {d2 : D} {xs : List PyData} (h2 : toDat d2 = some (.tuple xs)) (hx : PyData.canLayAll0 xs = true) (hd : d.canLay0 = true) (h1 : d.depth ≤ 1) : Pu2 c n (compareOp .In) (.dat d) d2 (dB (xs.any fun y => PyData.eqv y d)) := (o_inT hx hd h1).r fun P H v r => rep_toDat r h2
end
end Mine
namespace Mine
section
variable {c : Cx} {n : Nat}
theorem fn1 {fv : Value} {d1 d : D} (h : Pu1 c n (fun v => call fv [v]) d1 d) : Fn c fv n [d1] [] d [] := Fn.of_pu fun A hs s vs Q Er R bel W r k => by
  cases r with
  | cons r rs => cases rs; exact h A hs s _ Q Er R bel W r k
theorem fn2 {fv : Value} {d1 d2 d : D} (h : Pu2 c n (fun u v => call fv [u, v]) d1 d2 d) : Fn c fv n [d1, d2] [] d [] := Fn.of_pu fun A hs s vs Q Er R bel W r k => by
  cases r with
  | cons r rs =>
    cases rs with
    | cons r2 rs => cases rs; exact h A hs s _ _ Q Er R bel W r r2 k
theorem f_lenL {l : List D} (h : l.length < 2 ^ 63) : Fn c (.builtin "len") n [.lst l] [] (dI l.length) [] := fn1 fun A hs s v Q Er R bel W r k => by
  cases r with
  | lst hl rl =>
    have e := rl.length
    exact len_list (hl.keeps (hid_le _ _)).is (by simp; omega) (k _ s.heap _ (Le.refl _) (by simp; rw [← e]; exact rI))
theorem f_lenS {x : Str} (h : (x.length : Int) < 2 ^ 63) : Fn c (.builtin "len") n [dS x] [] (dI x.length) [] := fn1 fun A hs s v Q Er R bel W r k => by
  obtain ⟨t, rfl⟩ := rep_str r
  exact len_str (by omega) (k _ s.heap _ (Le.refl _) rI)
theorem f_range {m : Nat} : Fn c (.type "range") n [dI m] [] (.rng m) [] := fn1 fun A hs s v Q Er R bel W r k => by
  obtain ⟨t, rfl⟩ := rep_int r
  refine call_range_1 (k _ _ _ (Le.push _ _) (.rng (t := s.toks) (u := t) (x := s.toks + 1) (hid_get.mpr ⟨Heap.get?_push_size _ rfl, fun m => ?_⟩)))
  obtain ⟨o, e⟩ := bel _ m
  exact absurd (Heap.lt_size e) (Nat.lt_irrefl _)
theorem f_abs {a : Int} : Fn c (.builtin "abs") n [dI a] [] (dI (if a < 0 then -a else a)) [] := fn1 fun A hs s v Q Er R bel W r k => by
  obtain ⟨t, rfl⟩ := rep_int r
  exact call_abs_int fun u tk => k _ s.heap _ (Le.refl _) rI
theorem f_max {a b : Int} : Fn c (.builtin "max") n [dI a, dI b] [] (dI (if b > a then b else a)) [] := fn2 fun A hs s v1 v2 Q Er R bel W r1 r2 k => by
  obtain ⟨t, rfl⟩ := rep_int r1
  obtain ⟨u, rfl⟩ := rep_int r2
  exact max_two_ints R.hd fun h' tk le => k _ h' _ le (by split <;> exact rI)
theorem f_str {a : Int} (h : a.natAbs.log2 < 1920) : Fn c (.type "str") n [dI a] [] (dS (toString a)) [] := fn1 fun A hs s v Q Er R bel W r k => by
  obtain ⟨t, rfl⟩ := rep_int r
  exact PySem.P.str_of_int h (k _ s.heap _ (Le.refl _) rS)
theorem f_chr {a : Int} (h0 : 0 ≤ a) (h1 : a ≤ 1114111) : Fn c (.builtin "chr") n [dI a] [] (dS ⟨#[a.toNat]⟩) [] := fn1 fun A hs s v Q Er R bel W r k => by
  obtain ⟨t, rfl⟩ := rep_int r
  exact chr_of_range h0 h1 (k _ s.heap _ (Le.refl _) rS)
theorem fresh_not {s : Shared} {hs : List Addr} (bel : ∀ a ∈ hs, ∃ o, s.heap.get? a = some o) {a : Addr} (h : s.heap.objs.size ≤ a) : a ∉ hs := fun m => by
  obtain ⟨o, e⟩ := bel _ m
  exact absurd (Heap.lt_size e) (Nat.not_lt.mpr h)
theorem f_list {l : List D} (h : l.length ≤ sizeLine) : Fn c (.type "list") n [.lst l] [] (.lst l) [] := fn1 fun A hs s v Q Er R bel W r k => by
  cases r with
  | lst hl rl =>
    have e := rl.length
    obtain ⟨o, e1, m, rfl⟩ := hl.keeps (hid_le _ _)
    exact call_list_seq _ (.inl rfl) e1 rfl rfl (fun h' c' le e2 => k _ h' _ le (.lst ⟨_, hid_get.mpr ⟨e2, fresh_not bel (Nat.le_refl _)⟩, c', rfl⟩ (rl.keeps (hid_le_of le)))) (by simp; omega)
/-- one of the class -/
theorem f_isi {C : Addr} {fs : List (Str × D)} (ht : isIn c.K (.ref C) C = true) : Fn c (.builtin "isinstance") n [.inst C fs, .val (.ref C)] [] (dB true) [] := fn2 fun A hs s v1 v2 Q Er R bel W r1 r2 k => by
  obtain rfl := rep_val r2
  cases r1 with
  | inst ho hd he =>
    refine isi_call (K := c.K) (W.keeps (hid_le _ _)).k (t := .ref C) (fun M => ?_) ht (fun e => by cases e) (k _ s.heap s.toks (Le.refl _) rB)
    exact InstAt.type (od := some (dictOf _ _)) ⟨hid_le _ _ _ _ ho, rfl, rfl, hid_le _ _ _ _ hd⟩
end
end Mine
namespace Mine
section
variable {c : Cx} {f : Fi} {n : Nat} {Γ Γ' : Ga} {μ μ1 μ2 μ3 μa μb μr : Mu}

/-- what a class of the program's own must show: its things hold their own -/
structure ClsOk (K : Frag) (C : Addr) : Prop where
  ga : findIn K (.ref C) "__getattribute__" = some (some (.builtin "object.__getattribute__"))
  hd : hasDictIn K C = true

theorem find_repE {P : Params} {h : Heap} {x : Str} {d : D} : ∀ {fs : List (Str × D)} {es : List DictEntry}, RepE P h fs es → fs.lookup x = some d → ∃ e, es.find? (·.key.isStr x) = some e ∧ Rep P h d e.val
  | _, _, .nil, e => by cases e
  | _, _, .cons (k := k) (d := d') (t := t) (v := v) a b, e => by
    rw [List.lookup_cons] at e
    cases q : (x == k) with
    | true =>
      rw [q] at e
      cases e
      refine ⟨_, List.find?_cons_of_pos ?_, a⟩
      have := eq_of_beq q
      subst this
      show (x == x) = true
      exact beq_self_eq_true x
    | false =>
      rw [q] at e
      obtain ⟨e', h1, h2⟩ := find_repE b e
      refine ⟨e', ?_, h2⟩
      rw [List.find?_cons_of_neg]
      · exact h1
      · show ¬(k == x) = true
        intro z
        rw [eq_of_beq z, beq_self_eq_true] at q
        cases q
noncomputable def handedD : D → Bool
  | .val v => handedIn v
  | _ => true
theorem handed_rep {P : Params} {h : Heap} {d : D} {v : Value} (r : Rep P h d v) (e : handedD d = true) : handedIn v = true := by
  cases r with
  | dat r => cases r <;> rfl
  | val v => exact e
  | _ => rfl
theorem instAt {h : Heap} {x C dx : Addr} {es : List DictEntry} {m : Nat} (h1 : h.get? x = some (instObj C dx)) (h2 : h.get? dx = some (dictOf es m)) : W.InstAt h x (instObj C dx) C (some (dictOf es m)) := ⟨h1, rfl, rfl, h2⟩
theorem get_inst {A : Around} {s : Shared} {H : Heap} {C : Addr} {fs : List (Str × D)} {v : Value} {d : D} {name : Str} {ex : Bool} {Q : Value → Shared → Prop} {Er : Value → Shared → Prop} (W : Wd c H) (le : Le H s.heap) (r : Rep (Pr c) H (.inst C fs) v)
    (ok : ClsOk c.K C) (hn : findIn c.K (.ref C) name = some none) (hl : fs.lookup name = some d) (hh : handedD d = true) (k : ∀ u, Rep (Pr c) H d u → Q u { s with toks := s.toks + 1 }) : wpAny (Md c) A (getAttr v name ex) Q Er s := by
  cases r with
  | inst h1 h2 he =>
    obtain ⟨e, e1, e2⟩ := find_repE he hl
    refine get_value (K := c.K) (W.keeps le).k (instAt (le _ _ h1) (le _ _ h2)) ok.ga (findObj_own ok.hd hn rfl ?_) (handed_rep e2 hh) (k _ e2)
    unfold lookIn
    simp only [e1]
theorem Ev.attr {e : Expr} {name : Str} {pos : Pos} {C : Addr} {fs : List (Str × D)} {d : D} (h1 : Ev c f n Γ μ e (.inst C fs) μ1) (ok : ClsOk c.K C) (hn : findIn c.K (.ref C) name = some Option.none) (hl : fs.lookup name = some d) (hh : handedD d = true := by rfl)
    (hb : ∀ (E : Env) (w : Sem Value), attributeBase e name E w = w := by intro _ _; rfl) : Ev c f n Γ μ (.Attribute e name pos) d μ1 :=
  ⟨h1.ad, fun A E hs s Q Er ok' R O S k => by
    show wpAny (Md c) A (do
      let o ← attributeBase e name E (eval e E)
      standAt pos.atName
      let r ← holding [o] (getAttr o name true)
      letTemporaryGo e o r
      Pure.pure r) Q Er s
    rw [hb]
    refine wpAny_bind (h1.run A E hs s _ Er ok' R O S fun v ha t1 l1 S1 r1 => wpAny_bind (wpAny_standAt (wpAny_bind (wpAny_holding ?_))))
    refine get_inst S1.wd (hid_le _ _) (by rw [T_ad h1.ad]; exact r1) ok hn hl hh fun u ru => wpAny_bind (wpAny_letTemporaryGo (wpAny_pure ?_))
    rw [T_ad h1.ad] at ru
    exact k u ha _ l1 S1 ru⟩
/-- an item -/
noncomputable def IsT (c : Cx) (d : D) (T : String) : Prop := ∀ (H : Heap) (v : Value), Rep (Pr c) H d v → ∀ s : Shared, Le H s.heap → s.TypeIs v T
structure GetT (T : String) : Prop where
  hl : ∃ id, typeLookup (.type T) "__getitem__" = pure (some (.builtin id))
theorem isT_lst {l : List D} : IsT c (.lst l) "list" := fun H v r s le => by
  cases r with
  | lst a b => obtain ⟨o, e, m, rfl⟩ := a; exact ⟨_, le _ _ e, rfl⟩
theorem isT_tup {l : List D} : IsT c (.tup l) "tuple" := fun H v r s le => by
  cases r with
  | tup a b => obtain ⟨o, e, m, rfl⟩ := a; exact ⟨_, le _ _ e, rfl⟩
theorem isT_str {x : Str} : IsT c (dS x) "str" := fun H v r s le => by
  obtain ⟨t, rfl⟩ := rep_str r
  exact typeIs_str _ _ _
theorem isT_dT {l : List PyData} : IsT c (dT l) "tuple" := fun H v r s le => by
  cases r with
  | dat r => cases r with
    | tuple e cl da ra => exact ⟨_, le _ _ e, cl⟩
theorem isT_dL {l : List PyData} : IsT c (dL l) "list" := fun H v r s le => by
  cases r with
  | dat r => cases r with
    | list e cl da ra => exact ⟨_, le _ _ e, cl⟩
theorem getT_list : GetT "list" := ⟨_, PySem.F.slot_list_getitem.lookup⟩
theorem getT_tuple : GetT "tuple" := ⟨_, PySem.F.slot_tuple_getitem.lookup⟩
theorem getT_str : GetT "str" := ⟨_, PySem.F.slot_str_getitem.lookup⟩
theorem getT_dict : GetT "dict" := ⟨_, PySem.F.slot_dict_getitem.lookup⟩
noncomputable def noSlice : Expr → Bool
  | .Slice .. => false
  | _ => true
theorem subscripted_no {e : Expr} {o i : Value} (h : noSlice e = true) : subscripted e false o i = operate [o, i] (getItem o i) := by
  cases e <;> first | rfl | cases h
theorem subTail {A : Around} {s : Shared} {e i : Expr} {v1 v2 : Value} {T : String} {Q : Value → Shared → Prop} {Er : Value → Shared → Prop} (hT : s.TypeIs v1 T) (g : GetT T) (hi : noSlice i = true)
    (h : wpAny (Md c) A (getItem v1 v2) Q Er s) : wpAny (Md c) A (do let r ← subscripted i (← getitemInPython v1) v1 v2; letTemporaryGo e v1 r; Pure.pure r) Q Er s := by
  obtain ⟨id, hl⟩ := g.hl
  refine wpAny_bind ?_
  rw [getitemInPython_of_ne hT.not_modules]
  refine wpAny_bind (wpAny_specialOf hT hl ?_)
  have fin : wpAny (Md c) A (subscripted i false v1 v2) (fun r s₃ => wpAny (Md c) A (letTemporaryGo e v1 r >>= fun _ => Pure.pure r) Q Er s₃) Er s := by
    rw [subscripted_no hi]
    exact wpAny_operating (wpAny_mono h (fun r s₃ h₃ => wpAny_bind (wpAny_letTemporaryGo (wpAny_pure h₃))) fun _ _ x => x)
  first
    | exact wpAny_pure (wpAny_bind fin)
    | exact wpAny_bind (wpAny_pure (wpAny_bind fin))
    | exact wpAny_bind fin
theorem Ev.sub {e i : Expr} {pos : Pos} {d1 d2 d : D} {Ty : String} (h1 : Ev c f n Γ μ e d1 μ1) (h2 : Ev c f n Γ μ1 i d2 μ2) (hT : IsT c d1 Ty) (g : GetT Ty) (hp : Pu2 c n getItem d1 d2 d) (hi : noSlice i = true := by rfl) : Ev c f n Γ μ (.Subscript e i pos) d μ2 :=
  ⟨h2.ad.trans h1.ad, fun A E hs s Q Er ok R O S k => by
    rw [eval_Subscript]
    refine wpAny_bind (h1.run A E hs s _ Er ok R O S fun v1 ha t1 l1 S1 r1 => wpAny_bind (wpAny_holding (h2.run A E hs _ _ Er ok R O S1 fun v2 hb t2 l2 S2 r2 => wpAny_bind (wpAny_standAt ?_))))
    rw [T_ad h1.ad] at r2
    have l2' : LeX (addrs μ) ha hb := h1.ad ▸ l2
    refine subTail (hT _ _ (r1.over l2') _ (hid_le _ _)) g hi ?_
    refine hp A (T E μ hs) _ v1 v2 Q Er R (by have := S2.belT; rwa [T_ad (h2.ad.trans h1.ad)] at this) (by have := S2.wd; rwa [T_ad (h2.ad.trans h1.ad)] at this) (r1.over l2') r2 fun v h' tk le rr => ?_
    exact k v h' tk ((l1.trans l2').trans le.x) (S2.pure le) rr⟩

/-- displays -/
theorem Ev.list {es : List Expr} {pos : Pos} {ds : List D} (h1 : EvL c f n Γ μ es ds μ1) (hz : ds.length ≤ sizeLine) : Ev c f n Γ μ (.List es pos) (.lst ds) μ1 :=
  ⟨h1.ad, fun A E hs s Q Er ok R O S k => wpAny_List_spliced (h1.run A E hs s _ Er _ ok R O S fun vs ha t1 l1 S1 r1 => by
    have le := Le.push ha (lob vs 0)
    have nb : ha.objs.size ∉ T E μ hs := fun m => by
      rw [← T_ad h1.ad] at m
      obtain ⟨o, e⟩ := S1.belT _ m
      exact absurd (Heap.lt_size e) (Nat.lt_irrefl _)
    refine ⟨by rw [← r1.length]; exact hz, k _ _ _ (l1.trans le.x) (S1.pure le) (.lst ⟨_, hid_get.mpr ⟨Heap.get?_push_size _ rfl, nb⟩, 0, rfl⟩ (r1.keeps (hid_le_of le)))⟩)⟩
theorem Ev.tuple {es : List Expr} {pos : Pos} {k0 : Nat} {ds : List D} (h1 : EvL c f n Γ μ es ds μ1) (hz : ds.length ≤ sizeLine) : Ev c f n Γ μ (.Tuple es k0 pos) (.tup ds) μ1 :=
  ⟨h1.ad, fun A E hs s Q Er ok R O S k => wpAny_Tuple_spliced (h1.run A E hs s _ Er _ ok R O S fun vs ha t1 l1 S1 r1 => by
    have le := Le.push ha (tob vs 0)
    have nb : ha.objs.size ∉ T E μ hs := fun m => by
      rw [← T_ad h1.ad] at m
      obtain ⟨o, e⟩ := S1.belT _ m
      exact absurd (Heap.lt_size e) (Nat.lt_irrefl _)
    refine ⟨by rw [← r1.length]; exact hz, k _ _ _ (l1.trans le.x) (S1.pure le) (.tup ⟨_, hid_get.mpr ⟨Heap.get?_push_size _ rfl, nb⟩, 0, rfl⟩ (r1.keeps (hid_le_of le)))⟩)⟩
/-- said otherwise -/
theorem Ev.re {e : Expr} {d d' : D} (h : Ev c f n Γ μ e d μ1) (i : ∀ P H v, Rep P H d v → Rep P H d' v) : Ev c f n Γ μ e d' μ1 := ⟨h.ad, fun A E hs s Q Er ok R O S k => h.run A E hs s Q Er ok R O S fun v h' tk l S r => k v h' tk l S (i _ _ _ r)⟩
end
end Mine
namespace Mine
section
variable {c : Cx} {f : Fi} {n : Nat} {Γ Γ' : Ga} {μ μ1 μ2 μ3 μa μb μr : Mu}

/-- of a type of the machine's own, without a dict of its own -/
noncomputable def Kd (c : Cx) (μ : Mu) (d : D) (Ty : String) : Prop := ∀ (H : Heap) (s : Shared) (v : Value), Le H s.heap → (∀ p ∈ μ, MRep (Pr c) H s.heap p.1 p.2) → Rep (Pr c) H d v → s.TypeIs v Ty ∧ ∀ a, v = .ref a → ∃ o, s.heap.get? a = some o ∧ o.dict = none
theorem kd_lst {l : List D} : Kd c μ (.lst l) "list" := fun H s v le mu r => by
  cases r with
  | lst a b => obtain ⟨o, e, m, rfl⟩ := a; exact ⟨⟨_, le _ _ e, rfl⟩, fun a q => by cases q; exact ⟨_, le _ _ e, rfl⟩⟩
theorem kd_tup {l : List D} : Kd c μ (.tup l) "tuple" := fun H s v le mu r => by
  cases r with
  | tup a b => obtain ⟨o, e, m, rfl⟩ := a; exact ⟨⟨_, le _ _ e, rfl⟩, fun a q => by cases q; exact ⟨_, le _ _ e, rfl⟩⟩
theorem kd_str {x : Str} : Kd c μ (dS x) "str" := fun H s v le mu r => by
  obtain ⟨t, rfl⟩ := rep_str r
  exact ⟨typeIs_str _ _ _, fun a q => by cases q⟩
theorem kd_dct {l : List (Str × D)} : Kd c μ (.dct l) "dict" := fun H s v le mu r => by
  cases r with
  | dct z a b => exact ⟨⟨_, le _ _ a, rfl⟩, fun a q => by cases q; exact ⟨_, le _ _ (by assumption), rfl⟩⟩
noncomputable def moType : MO → String
  | .lst _ => "list"
  | .dct _ => "dict"
  | .tab _ => "dict"
theorem kd_mu {a : Addr} {mo : MO} (h : (a, mo) ∈ μ) : Kd c μ (.val (.ref a)) (moType mo) := fun H s v le mu r => by
  obtain rfl := rep_val r
  have q := mu _ h
  cases mo with
  | lst l => obtain ⟨vs, ⟨o, e, m, rfl⟩, b⟩ := q; exact ⟨⟨_, e, rfl⟩, fun a q => by cases q; exact ⟨_, e, rfl⟩⟩
  | dct l => obtain ⟨es, m, e, b⟩ := q; exact ⟨⟨_, e, rfl⟩, fun a q => by cases q; exact ⟨_, e, rfl⟩⟩
  | tab l => obtain ⟨es, m, e, b⟩ := q; exact ⟨⟨_, e, rfl⟩, fun a q => by cases q; exact ⟨_, e, rfl⟩⟩

structure MethOk (Ty : String) (name : Str) (id : String) : Prop where
  pa : PlainAttrs Ty
  sl : Slot Ty name id
  ty : typeOf (.builtin id) = pure (.type "method_descriptor")
theorem m_append : MethOk "list" "append" "list.append" := ⟨PySem.F.plainAttrs_list, slot_list_append, type_list_append⟩
theorem m_pop : MethOk "list" "pop" "list.pop" := ⟨PySem.F.plainAttrs_list, PySem.F.slot_list_pop, PySem.F.type_list_pop⟩
theorem m_reverse : MethOk "list" "reverse" "list.reverse" := ⟨PySem.F.plainAttrs_list, PySem.F.slot_list_reverse, PySem.F.type_list_reverse⟩
theorem m_count : MethOk "list" "count" "list.count" := ⟨PySem.F.plainAttrs_list, PySem.F.slot_list_count, PySem.F.type_list_count⟩
theorem m_index : MethOk "list" "index" "list.index" := ⟨PySem.F.plainAttrs_list, PySem.F.slot_list_index, PySem.F.type_list_index⟩
theorem m_tindex : MethOk "tuple" "index" "tuple.index" := ⟨PySem.F.plainAttrs_tuple, PySem.F.slot_tuple_index, PySem.F.type_tuple_index⟩
theorem m_rjust : MethOk "str" "rjust" "str.rjust" := ⟨PySem.F.plainAttrs_str, PySem.F.slot_str_rjust, PySem.F.type_str_rjust⟩
theorem m_join : MethOk "str" "join" "str.join" := ⟨PySem.F.plainAttrs_str, PySem.F.slot_str_join, PySem.F.type_str_join⟩
theorem m_get : MethOk "dict" "get" "dict.get" := ⟨PySem.F.plainAttrs_dict, PySem.F.slot_dict_get, PySem.F.type_dict_get⟩
theorem m_setdefault : MethOk "dict" "setdefault" "dict.setdefault" := ⟨PySem.F.plainAttrs_dict, PySem.F.slot_dict_setdefault, PySem.F.type_dict_setdefault⟩

theorem methodCallForm_ok {E : Env} {args : List Expr} {pos : Pos} (h : args.all noStar = true) (hl : args.length < 30) : methodCallForm (args.length + 0) (backTo pos (starEach args E)) (backToKw pos (keywordEach [] E)) = true := by
  have e := noStar_any (E := E) (pos := pos) h
  unfold methodCallForm
  rw [Bool.and_eq_true, Bool.and_eq_true]
  refine ⟨⟨?_, rfl⟩, ?_⟩
  · rw [List.all_eq_true]
    intro x hx
    rw [List.any_eq_false] at e
    have := e x hx
    simpa using this
  · exact decide_eq_true hl
/-- a callable that turns one thing -/
theorem fnMu {fv : Value} {a : Addr} {mo mo' : MO} {ds : List D} {d : D}
    (h : ∀ (A : Around) (hs : List Addr) (s : Shared) (vs : List Value) (Q : Value → Shared → Prop) (Er : Value → Shared → Prop), Room A n → Wd c (hid s.heap (a :: hs)) → (∀ x ∈ a :: hs, ∃ o, s.heap.get? x = some o) → MRep (Pr c) (hid s.heap (a :: hs)) s.heap a mo → RepL (Pr c) (hid s.heap (a :: hs)) ds vs →
      (∀ v h' tk, LeX [a] s.heap h' → Le (hid s.heap (a :: hs)) (hid h' (a :: hs)) → MRep (Pr c) (hid h' (a :: hs)) h' a mo' → Rep (Pr c) (hid h' (a :: hs)) d v → Q v { s with heap := h', toks := tk }) → wpAny (Md c) A (call fv vs) Q Er s) :
    Fn c fv n ds [(a, mo)] d [(a, mo')] :=
  ⟨rfl, fun A hs s vs Q Er R bel nd dis W mu r k => by
    have m := mu (a, mo) (List.mem_cons_self ..)
    refine h A hs s vs Q Er R W (fun x hx => ?_) m r fun v h' tk l le m' r' => k v h' tk l (fun p hp => ?_) r'
    · rcases List.mem_cons.mp hx with rfl | hx
      · have q := m
        cases mo with
        | lst l => obtain ⟨vs, ⟨o, e, m, rfl⟩, b⟩ := q; exact ⟨_, e⟩
        | dct l => obtain ⟨es, m, e, b⟩ := q; exact ⟨_, e⟩
        | tab l => obtain ⟨es, m, e, b⟩ := q; exact ⟨_, e⟩
      · exact bel _ hx
    · rw [List.mem_singleton.mp hp]; exact m'⟩
theorem sbX {a : Addr} {h h' : Heap} (sb : Heap.SameBut a h h') : LeX [a] h h' := fun z o nz e => by rw [sb.2 z (fun q => nz (List.mem_singleton.mpr q))]; exact e
theorem xLe {a : Addr} {hs : List Addr} {h h' : Heap} (l : LeX [a] h h') : Le (hid h (a :: hs)) (hid h' (a :: hs)) := hid_mono l (fun z q => by rw [List.mem_singleton.mp q]; exact List.mem_cons_self ..) fun _ q => q
theorem f_append {a : Addr} {l : List D} {d : D} (hz : l.length ≤ sizeLine) : Fn c (.builtin "list.append") n [.val (.ref a), d] [(a, .lst l)] dN [(a, .lst (l ++ [d]))] :=
  fnMu fun A hs s vs Q Er R W bel m r k => by
    cases r with
    | cons r0 r => cases r with
      | cons r1 r => cases r; obtain rfl := rep_val r0; obtain ⟨vs, hl, rl⟩ := m; exact append_ll hl (fun h' hl' sb => k _ h' _ (sbX sb) (xLe (sbX sb)) ⟨_, hl', (rl.snoc r1).keeps (xLe (sbX sb))⟩ rN) (by rw [← rl.length]; exact hz)
theorem RepL.unsnoc {P : Params} {h : Heap} {l : List D} {d : D} {vs : List Value} (r : RepL P h (l ++ [d]) vs) : ∃ us v, vs = us ++ [v] ∧ RepL P h l us ∧ Rep P h d v := by
  induction l generalizing vs with
  | nil => cases r with
    | cons a b => cases b; exact ⟨[], _, rfl, .nil, a⟩
  | cons x l ih => cases r with
    | cons a b => obtain ⟨us, v, rfl, h1, h2⟩ := ih b; exact ⟨_ :: us, v, rfl, .cons a h1, h2⟩
theorem f_pop {a : Addr} {l : List D} {d : D} (hz : l.length < sizeLine) : Fn c (.builtin "list.pop") n [.val (.ref a)] [(a, .lst (l ++ [d]))] d [(a, .lst l)] :=
  fnMu fun A hs s vs Q Er R W bel m r k => by
    cases r with
    | cons r0 r =>
      cases r; obtain rfl := rep_val r0; obtain ⟨vs, ⟨o, e, cap, rfl⟩, rl⟩ := m
      obtain ⟨us, v, rfl, h1, h2⟩ := rl.unsnoc
      have hlen := h1.length
      refine Copied.pop_at (y := v) e (by simp) (fun h' sb e' => k v h' _ (sbX sb) (xLe (sbX sb)) ⟨us, ⟨_, e', cap + 1, by simp [lob]⟩, h1.keeps (xLe (sbX sb))⟩ (h2.keeps (xLe (sbX sb)))) (by simp; omega)
theorem f_reverse {a : Addr} {l : List D} (hz : l.length ≤ sizeLine) : Fn c (.builtin "list.reverse") n [.val (.ref a)] [(a, .lst l)] dN [(a, .lst l.reverse)] :=
  fnMu fun A hs s vs Q Er R W bel m r k => by
    cases r with
    | cons r0 r =>
      cases r; obtain rfl := rep_val r0; obtain ⟨vs, ⟨o, e, cap, rfl⟩, rl⟩ := m
      have hlen := rl.length
      refine call_meets PySem.F.slot_list_reverse ⟨_, e, rfl⟩ PySem.F.entry_list_reverse (PySem.F.args_list_reverse_1 _) (AutoListH.list_reverse_list_0 a vs.toArray cap (by simp; omega)) ⟨e, ?_⟩
      have sb := Heap.SameBut.update s.heap a (Obj.mapSeq fun x => x.reverse)
      exact (k _ _ _ (sbX sb) (xLe (sbX sb)) ⟨vs.reverse, ⟨_, Heap.get?_update_self _ e rfl, cap, by simp [Obj.mapSeq, lob]⟩, rl.rev.keeps (xLe (sbX sb))⟩ rN)
end
end Mine
namespace Mine
section
variable {c : Cx} {f : Fi} {n : Nat} {Γ Γ' : Ga} {μ μ1 μ2 μ3 μ4 μa μb μr : Mu}

noncomputable def at_ : List Str → Ga → Str → Option D
  | k :: ks, g :: gs, x => if k == x then g else at_ ks gs x
  | _, _, _ => none
theorem at_some : ∀ {ks : List Str} {Γ : Ga} {x : Str} {d : D}, at_ ks Γ x = some d → ∃ i : Nat, ks[i]? = some x ∧ Γ[i]? = some (some d)
  | [], _, _, _, h => by simp [at_] at h
  | _ :: _, [], _, _, h => by simp [at_] at h
  | k :: ks, g :: gs, x, d, h => by
    unfold at_ at h
    split at h
    · rename_i q
      exact ⟨0, by rw [eq_of_beq q]; rfl, by rw [h]; rfl⟩
    · obtain ⟨i, h1, h2⟩ := at_some h
      exact ⟨i + 1, by simpa using h1, by simpa using h2⟩
theorem Ev.nm {x : Str} {pos : Pos} {d : D} (h : at_ f.ks Γ x = some d) (hb : (x == ("__debug__" : Str) || x == ("__classdict__" : Str)) = false) : Ev c f n Γ μ (.Name x pos) d μ :=
  let ⟨i, h1, h2⟩ := at_some h; Ev.name i h1 h2 hb

/-- negation -/
theorem Ev.neg {e : Expr} {pos : Pos} {i : Int} (h1 : Ev c f n Γ μ e (dI i) μ1) : Ev c f n Γ μ (.UnaryOp .USub e pos) (dI (-i)) μ1 :=
  ⟨h1.ad, fun A E hs s Q Er ok R O S k => wpAny_UnaryOp (h1.run A E hs s _ Er ok R O S fun v ha t1 l1 S1 r1 => by
    obtain ⟨t, rfl⟩ := rep_int r1
    exact neg_int (k _ ha _ l1 S1 rI))⟩

/-- slices -/
structure EvP (c : Cx) (f : Fi) (n : Nat) (Γ : Ga) (μ : Mu) (x : Option Expr) (ki : Option Int) (μ' : Mu) : Prop where
  ad : addrs μ' = addrs μ
  run : ∀ (A : Around) (E : Env) (hs : List Addr) (s : Shared) (Q : Value → Shared → Prop) (Er : Value → Shared → Prop), f.Ok → Room A n → EOk f E → Sat c f E hs Γ μ s.heap →
    (∀ v h' tk, LeX (addrs μ) s.heap h' → Sat c f E hs Γ μ' h' → IsPart v ki → Q v { s with heap := h', toks := tk }) →
    wpAny (Md c) A (evalPart x E) Q Er s
theorem EvP.none : EvP c f n Γ μ Option.none Option.none μ := ⟨rfl, fun A E hs s Q Er ok R O S k => wpAny_pure (k _ s.heap s.toks (LeX.refl _ _) S .none)⟩
theorem EvP.some {e : Expr} {i : Int} (h : Ev c f n Γ μ e (dI i) μ1) : EvP c f n Γ μ (Option.some e) (Option.some i) μ1 :=
  ⟨h.ad, fun A E hs s Q Er ok R O S k => h.run A E hs s Q Er ok R O S fun v h' tk l S1 r => by
    obtain ⟨t, rfl⟩ := rep_int r
    exact k _ h' tk l S1 (.int _ _)⟩
noncomputable def SlS (c : Cx) (n : Nat) (d : D) (kl kh ks : Option Int) (d' : D) : Prop :=
  ∀ (A : Around) (hs : List Addr) (s : Shared) (v : Value) (sl : Addr) (vl vu vs : Value) (Q : Value → Shared → Prop) (Er : Value → Shared → Prop), Room A n → (∀ a ∈ hs, ∃ o, s.heap.get? a = some o) → Rep (Pr c) (hid s.heap hs) d v → s.heap.IsSliceOf sl vl vu vs → IsPart vl kl → IsPart vu kh → IsPart vs ks →
    (∀ v h' tk, Le s.heap h' → Rep (Pr c) (hid h' hs) d' v → Q v { s with heap := h', toks := tk }) → wpAny (Md c) A (getItem v (.ref sl)) Q Er s
theorem slTail {A : Around} {s : Shared} {e : Expr} {lo hi st : Option Expr} {p : Pos} {v1 v2 : Value} {Ty : String} {Q : Value → Shared → Prop} {Er : Value → Shared → Prop} (hT : s.TypeIs v1 Ty) (g : GetT Ty)
    (h : wpAny (Md c) A (getItem v1 v2) Q Er s) : wpAny (Md c) A (do let r ← subscripted (.Slice lo hi st p) (← getitemInPython v1) v1 v2; letTemporaryGo e v1 r; Pure.pure r) Q Er s := by
  obtain ⟨id, hl⟩ := g.hl
  refine wpAny_bind ?_
  rw [getitemInPython_of_ne hT.not_modules]
  refine wpAny_bind (wpAny_specialOf hT hl ?_)
  have fin : wpAny (Md c) A (subscripted (.Slice lo hi st p) false v1 v2) (fun r s₃ => wpAny (Md c) A (letTemporaryGo e v1 r >>= fun _ => Pure.pure r) Q Er s₃) Er s := by
    cases st with
    | none => exact wpAny_operating (wpAny_mono h (fun r s₃ h₃ => wpAny_bind (wpAny_letTemporaryGo (wpAny_pure h₃))) fun _ _ x => x)
    | some st => exact wpAny_operating (wpAny_mono h (fun r s₃ h₃ => wpAny_bind (wpAny_letTemporaryGo (wpAny_pure h₃))) fun _ _ x => x)
  first
    | exact wpAny_pure (wpAny_bind fin)
    | exact wpAny_bind (wpAny_pure (wpAny_bind fin))
    | exact wpAny_bind fin
theorem Ev.slice {e : Expr} {lo hi st : Option Expr} {p pos : Pos} {d d' : D} {kl kh ks : Option Int} {Ty : String} (h1 : Ev c f n Γ μ e d μ1) (h2 : EvP c f n Γ μ1 lo kl μ2) (h3 : EvP c f n Γ μ2 hi kh μ3) (h4 : EvP c f n Γ μ3 st ks μ4)
    (hT : IsT c d Ty) (g : GetT Ty) (hp : SlS c n d kl kh ks d') : Ev c f n Γ μ (.Subscript e (.Slice lo hi st p) pos) d' μ4 :=
  ⟨h4.ad.trans (h3.ad.trans (h2.ad.trans h1.ad)), fun A E hs s Q Er ok R O S k => by
    have e12 := h2.ad.trans h1.ad
    have e13 := h3.ad.trans e12
    have e14 := h4.ad.trans e13
    rw [eval_Subscript]
    refine wpAny_bind (h1.run A E hs s _ Er ok R O S fun v1 ha t1 l1 S1 r1 => wpAny_bind (wpAny_holding (wpAny_Slice (h2.run A E hs _ _ Er ok R O S1 fun vl hb t2 l2 S2 r2 => h3.run A E hs _ _ Er ok R O S2 fun vh hc t3 l3 S3 r3 => h4.run A E hs _ _ Er ok R O S3 fun vs hd t4 l4 S4 r4 => wpAny_bind (wpAny_standAt ?_)))))
    have l14 : LeX (addrs μ) ha hd := ((h1.ad ▸ l2 : LeX (addrs μ) ha hb).trans (e12 ▸ l3 : LeX (addrs μ) hb hc)).trans (e13 ▸ l4 : LeX (addrs μ) hc hd)
    have le := Le.push hd { cls := .type "slice", data := .fields #[vl, vh, vs] }
    have r1' := (r1.over l14).keeps (hid_le_of (X := T E μ hs) le)
    refine slTail (hT _ _ r1' _ (hid_le _ _)) g ?_
    refine hp A (T E μ hs) _ v1 _ vl vh vs Q Er R (by have := (S4.pure le).belT; rwa [T_ad e14] at this) r1' (Heap.IsSliceOf.new ..) r2 r3 r4 fun v h' tk le2 rr => ?_
    exact k v h' tk ((l1.trans l14).trans (le.trans le2).x) (S4.pure (le.trans le2)) rr⟩

/-- a list, by its things -/
noncomputable def LsOf (c : Cx) (d : D) (l : List D) : Prop := ∀ (H : Heap) (v : Value), Rep (Pr c) H d v → ∃ a vs, v = .ref a ∧ H.IsList a vs.toArray ∧ RepL (Pr c) H l vs
theorem lsOf_lst {l : List D} : LsOf c (.lst l) l := fun H v r => by
  cases r with
  | lst a b => exact ⟨_, _, rfl, a.is, b⟩
theorem lsOf_dL {xs : List PyData} : LsOf c (dL xs) (xs.map .dat) := fun H v r => by
  cases r with
  | dat r => cases r with
    | list e cl da ra => exact ⟨_, _, rfl, ⟨_, e, cl, _, da⟩, by simpa using repL_dat ra⟩
theorem isT_ls {d : D} {l : List D} (h : LsOf c d l) : IsT c d "list" := fun H v r s le => by
  obtain ⟨a, vs, rfl, ⟨o, e, cl, q⟩, _⟩ := h H v r
  exact ⟨_, le _ _ e, cl⟩
theorem sl_of {d : D} {l l' : List D} {kl kh ks : Option Int} (hd : LsOf c d l) (h0 : ks ≠ some 0) (hz : l.length ≤ sizeLine) (hp : ∀ P H (vs : List Value), RepL P H l vs → ∃ us : List Value, slicePick vs.toArray kl kh ks = us.toArray ∧ RepL P H l' us) : SlS c n d kl kh ks (.lst l') :=
  fun A hs s v sl vl vu vs Q Er R bel r hsl p1 p2 p3 k => by
    obtain ⟨a, ws, rfl, hl, rl⟩ := hd _ _ r
    obtain ⟨us, e, ru⟩ := hp _ _ ws rl
    refine wpAny_getItem_list_slice (isList_keeps (hid_le _ _) hl) hsl p1 p2 p3 h0 ?_ (by rw [List.size_toArray, ← rl.length]; exact hz)
    rw [e]
    have le := Le.push s.heap (lob us 0)
    exact k _ _ _ le (.lst ⟨_, hid_get.mpr ⟨Heap.get?_push_size _ rfl, fresh_not bel (Nat.le_refl _)⟩, 0, rfl⟩ (ru.keeps (hid_le_of le)))
theorem sl_up {d : D} {l : List D} {b : Nat} (hd : LsOf c d l) (hz : l.length ≤ sizeLine) : SlS c n d none (some (b : Int)) none (.lst (l.take b)) :=
  sl_of hd (by decide) hz fun P H vs r => ⟨vs.take b, by rw [slicePick_upto'], r.take b⟩
theorem sl_from {d : D} {l : List D} {b : Nat} (hd : LsOf c d l) (hz : l.length ≤ sizeLine) : SlS c n d (some (b : Int)) none none (.lst (l.drop b)) :=
  sl_of hd (by decide) hz fun P H vs r => ⟨vs.drop b, by rw [slicePick_from'], r.drop b⟩
theorem sl_rev {d : D} {l : List D} (hd : LsOf c d l) (hz : l.length ≤ sizeLine) : SlS c n d none none (some (-1)) (.lst l.reverse) :=
  sl_of hd (by decide) hz fun P H vs r => ⟨vs.reverse, by rw [krv_pick], r.rev⟩
theorem sl_str {x : Str} {kl kh : Option Int} (hz : x.length ≤ sizeLine) : SlS c n (dS x) kl kh none (dS (Txt.slice x kl kh)) :=
  fun A hs s v sl vl vu vs Q Er R bel r hsl p1 p2 p3 k => by
    obtain ⟨t, rfl⟩ := rep_str r
    cases p3
    obtain ⟨l, hl1, hl2⟩ : ∃ l : Option (Int × Tok), vl = partValue l ∧ l.map (·.1) = kl := by
      cases p1 with
      | none => exact ⟨none, rfl, rfl⟩
      | int i t => exact ⟨some (i, t), rfl, rfl⟩
    obtain ⟨u, hu1, hu2⟩ : ∃ l : Option (Int × Tok), vu = partValue l ∧ l.map (·.1) = kh := by
      cases p2 with
      | none => exact ⟨none, rfl, rfl⟩
      | int i t => exact ⟨some (i, t), rfl, rfl⟩
    subst hl1 hl2 hu1 hu2
    exact wpAny_getItem_str_slice (l := l) (u := u) (st := none) hsl rfl (post_val_or_str ⟨Nat.le_trans (Txt.slice_le x _ _) hz, fun t' k' => k _ s.heap k' (Le.refl _) rS⟩)

/-- str -/
theorem f_rjust {x : Str} {i : Int} {y : Str} (hp : PadOk i = true) (hy : y.length = 1) : Fn c (.builtin "str.rjust") n [dS x, dI i, dS y] [] (dS (Txt.rjustF x i (y.cps.getD 0 0))) [] :=
  Fn.of_pu fun A hs s vs Q Er R bel W r k => by
    cases r with
    | cons r0 r => cases r with
      | cons r1 r => cases r with
        | cons r2 r =>
          cases r
          obtain ⟨t, rfl⟩ := rep_str r0
          obtain ⟨u, rfl⟩ := rep_int r1
          obtain ⟨z, rfl⟩ := rep_str r2
          exact rjust_fill hp hy fun t' k' => k _ s.heap k' (Le.refl _) rS
theorem o_mulS {x : Str} {i : Int} (h : MulOk x i) : Pu2 c n (binaryOp .Mult) (dS x) (dI i) (dS (Txt.mul x i)) := fun A hs s v1 v2 Q Er R bel W r1 r2 k => by
  obtain ⟨t, rfl⟩ := rep_str r1
  obtain ⟨u, rfl⟩ := rep_int r2
  exact SB.mul h fun t' k' => k _ s.heap k' (Le.refl _) rS
theorem o_itS {x : Str} {i : Int} {ch : Nat} (hr : (decide (i < -(2 ^ 63 : Int)) || decide (i ≥ 2 ^ 63)) = false) (hc : (seqIndex? i x.length).bind (x.cps[·]?) = some ch) : Pu2 c n getItem (dS x) (dI i) (dS ⟨#[ch]⟩) := fun A hs s v1 v2 Q Er R bel W r1 r2 k => by
  obtain ⟨t, rfl⟩ := rep_str r1
  obtain ⟨u, rfl⟩ := rep_int r2
  exact PySem.P.getItem_str hr hc (k _ s.heap _ (Le.refl _) rS)
theorem o_addL {a b : List D} (hz : a.length + b.length ≤ sizeLine) : Pu2 c n (binaryOp .Add) (.lst a) (.lst b) (.lst (a ++ b)) := fun A hs s v1 v2 Q Er R bel W r1 r2 k => by
  cases r1 with
  | lst h1 l1 =>
    cases r2 with
    | lst h2 l2 =>
      rename_i x us y vs
      obtain ⟨o1, e1, m1, rfl⟩ := h1.keeps (hid_le _ _)
      obtain ⟨o2, e2, m2, rfl⟩ := h2.keeps (hid_le _ _)
      refine concat_meets ⟨_, e1, rfl⟩ ⟨_, e2, rfl⟩ noFill_list_add seq_list_add PySem.F.slot_list_add PySem.F.entry_list_add (PySem.F.args_list_add_2 _ _) (list_addW x y us.toArray vs.toArray m1 m2 none none #[] #[] (by simp; rw [← l1.length, ← l2.length]; exact hz)) ⟨e1, e2, ?_⟩
      have e : us.toArray ++ vs.toArray = (us ++ vs).toArray := by simp
      rw [e]
      have le := Le.push s.heap (lob (us ++ vs) 0)
      exact k _ _ _ le (.lst ⟨_, hid_get.mpr ⟨Heap.get?_push_size _ rfl, fresh_not bel (Nat.le_refl _)⟩, 0, rfl⟩ ((l1.app l2).keeps (hid_le_of le)))
end
end Mine
namespace Mine
section
variable {c : Cx} {f : Fi} {n : Nat} {Γ Γ' : Ga} {μ μ' μ1 μ2 μ3 μ4 μa μb μr : Mu}

theorem hid_same {h : Heap} {X Y : List Addr} (e : ∀ z, z ∈ Y → z ∈ X) : Le (hid h X) (hid h Y) := hid_mono (LeX.refl [] h) (fun z q => (List.not_mem_nil q).elim) fun z q => e z q
theorem Sat.perm {E : Env} {hs : List Addr} {h : Heap} (S : Sat c f E hs Γ μ h) (p : μ.Perm μ') : Sat c f E hs Γ μ' h := by
  have pa : (addrs μ).Perm (addrs μ') := p.map _
  have po : (own E ++ addrs μ).Perm (own E ++ addrs μ') := pa.append_left _
  have mt : ∀ z, z ∈ T E μ' hs → z ∈ T E μ hs := fun z q => by
    rcases List.mem_append.mp q with q | q
    · exact List.mem_append_left _ (po.mem_iff.mpr q)
    · exact List.mem_append_right _ q
  have kk := hid_same (h := h) mt
  refine ⟨po.nodup_iff.mp S.nd, fun a ha => S.dis a (po.mem_iff.mpr ha), S.bel, S.wd.keeps kk, ?_, ?_, S.ce, fun q hq => (S.mu q (p.mem_iff.mpr hq)).keeps kk fun o e => e⟩
  · obtain ⟨m, hn, q⟩ := S.ns
    exact ⟨m, hn, fun i x d a b g => (q i x d a b g).imp fun v t => ⟨t.1, t.2.keeps kk⟩⟩
  · intro i x d a b g
    obtain ⟨z, v, p1, p2, p3⟩ := S.cl i x d a b g
    exact ⟨z, v, p1, p2, p3.keeps kk⟩
theorem T_perm {E : Env} {hs : List Addr} (p : μ.Perm μ') (z : Addr) (q : z ∈ T E μ' hs) : z ∈ T E μ hs := by
  have pa : (addrs μ).Perm (addrs μ') := p.map _
  have po : (own E ++ addrs μ).Perm (own E ++ addrs μ') := pa.append_left _
  rcases List.mem_append.mp q with q | q
  · exact List.mem_append_left _ (po.mem_iff.mpr q)
  · exact List.mem_append_right _ q

/-- a call, seen from a def's frame -/
structure Cal (c : Cx) (f : Fi) (n : Nat) (Γ : Ga) (fv : Value) (ds : List D) (μ : Mu) (d : D) (μ' : Mu) : Prop where
  ad : addrs μ' = addrs μ
  run : ∀ (A : Around) (E : Env) (hs : List Addr) (s : Shared) (vs : List Value) (Q : Value → Shared → Prop) (Er : Value → Shared → Prop), Room A n → Sat c f E hs Γ μ s.heap → RepL (Pr c) (hid s.heap (T E μ hs)) ds vs →
    (∀ v h' tk, LeX (addrs μ) s.heap h' → Sat c f E hs Γ μ' h' → Rep (Pr c) (hid h' (T E μ hs)) d v → Q v { s with heap := h', toks := tk }) → wpAny (Md c) A (call fv vs) Q Er s
theorem Cal.of {fv : Value} {m : Nat} {ds : List D} {d : D} (hf : Fn c fv m ds μa d μb) (hm : m ≤ n) : Cal c f n Γ fv ds (μa ++ μr) d (μb ++ μr) :=
  ⟨by simp only [addrs, List.map_append]; rw [show List.map (·.1) μb = List.map (·.1) μa from hf.ad], fun A E hs s vs Q Er R S r k => hf.call R hm S r fun v h' tk l S3 r3 => k v h' tk (l.mono fun z q => by simp only [addrs, List.map_append]; exact List.mem_append_left _ q) S3 r3⟩
theorem Cal.of0 {fv : Value} {m : Nat} {ds : List D} {d : D} (hf : Fn c fv m ds [] d []) (hm : m ≤ n := by decide) : Cal c f n Γ fv ds μ d μ := Cal.of (μa := []) (μb := []) hf hm
theorem Cal.at1 {fv : Value} {m : Nat} {ds : List D} {d : D} {a : Addr} {mo mo' : MO} (l : Mu) {r : Mu} (hf : Fn c fv m ds [(a, mo)] d [(a, mo')]) (hm : m ≤ n := by decide) : Cal c f n Γ fv ds (l ++ (a, mo) :: r) d (l ++ (a, mo') :: r) :=
  ⟨by simp only [addrs, List.map_append, List.map_cons], fun A E hs s vs Q Er R S rr k => by
    have p1 : (l ++ (a, mo) :: r).Perm ([(a, mo)] ++ (l ++ r)) := List.perm_middle
    have p2 : ([(a, mo')] ++ (l ++ r)).Perm (l ++ (a, mo') :: r) := (List.perm_middle (l₁ := l) (l₂ := r) (a := (a, mo'))).symm
    refine hf.call R hm (S.perm p1) (rr.keeps (hid_same fun z q => T_perm p1 z q)) fun v h' tk lx S3 r3 => k v h' tk (lx.mono fun z q => ?_) (S3.perm p2) (r3.keeps (hid_same fun z q => T_perm p1.symm z q))
    rw [List.mem_singleton.mp q]
    simp [addrs]⟩

theorem Ev.callC {id : Str} {p pos : Pos} {args : List Expr} {fv : Value} {ds : List D} {d : D} (h1 : Ev c f n Γ μ (.Name id p) (.val fv) μ) (h2 : EvL c f n Γ μ args ds μ2) (hf : Cal c f n Γ fv ds μ2 d μ3) (hc : Callee c fv) : Ev c f n Γ μ (.Call (.Name id p) args [] pos) d μ3 :=
  ⟨hf.ad.trans h2.ad, fun A E hs s Q Er ok R O S k => by
    show wpAny (Md c) A (do callWith pos (← eval (.Name id p) E) [] (backTo pos (starEach args E)) (backToKw pos (keywordEach [] E))) Q Er s
    refine wpAny_bind (h1.run A E hs s _ Er ok R O S fun fv' ha t1 l1 S1 r1 => ?_)
    obtain rfl := rep_val r1
    refine callWith_ok hc h2.ns (h2.run A E hs _ _ Er pos ok R O S1 fun vs hb t2 l2 S2 r2 => ⟨S2.wd.keeps (hid_le _ _), ?_⟩)
    rw [← T_ad h2.ad] at r2
    refine hf.run A E hs _ vs Q Er R S2 r2 fun v h' tk l S3 r3 => ?_
    rw [h2.ad] at l
    exact k v h' tk ((l1.trans l2).trans l) S3 (T_ad (E := E) (hs := hs) h2.ad ▸ r3)⟩
theorem Ev.methC {o : Expr} {name : Str} {apos pos : Pos} {args : List Expr} {d0 : D} {Ty id : String} {ds : List D} {d : D} (h1 : Ev c f n Γ μ o d0 μ1) (h2 : EvL c f n Γ μ1 args ds μ2) (hT : Kd c μ1 d0 Ty) (mo : MethOk Ty name id)
    (hf : Cal c f n Γ (.builtin id) (d0 :: ds) μ2 d μ3) (hl : args.length < 30 := by decide) (hp : (apos.endLine == pos.line) = true := by rfl) (hb : ∀ (E : Env) (w : Sem Value), attributeBase o name E w = w := by intro _ _; rfl) :
    Ev c f n Γ μ (.Call (.Attribute o name apos) args [] pos) d μ3 :=
  ⟨hf.ad.trans (h2.ad.trans h1.ad), fun A E hs s Q Er ok R O S k => by
    show wpAny (Md c) A (do
      let ov ← attributeBase o name E (eval o E)
      standAt apos.atName
      methodCall o name apos pos E ov (args.length + 0) (backTo pos (starEach args E)) (backToKw pos (keywordEach [] E))) Q Er s
    rw [hb]
    refine wpAny_bind (h1.run A E hs s _ Er ok R O S fun v0 ha t1 l1 S1 r1 => wpAny_bind (wpAny_standAt ?_))
    unfold methodCall
    rw [methodCallForm_ok h2.ns hl]
    have q := hT _ ({ s with heap := ha, toks := t1 } : Shared) v0 (hid_le _ _) (fun p hp => S1.mu p hp) (by rw [T_ad h1.ad]; exact r1)
    refine wpAny_bind (wpAny_holding ?_)
    unfold calleeOf
    rw [if_pos rfl]
    refine getMethod_builtin q.1 mo.pa mo.sl mo.ty q.2 ?_
    unfold methodCallPos
    have e : (!true || apos.endLine == pos.line) = true := by rw [hp]; rfl
    rw [if_pos e]
    refine wpAny_bind (wpAny_pure ?_)
    have hc : Callee c (.builtin id) := .inr (.inl ⟨id, rfl⟩)
    refine callWith_of (P := Wd c) (by rw [noStar_any h2.ns]; rfl) (fun H X => keeps_callee hc H X) (evalArgs_any (noStar_any h2.ns) ?_)
    refine h2.run A E hs _ _ Er pos ok R O S1 fun vs hb t2 l2 S2 r2 => ⟨S2.wd.keeps (hid_le _ _), ?_⟩
    rw [← T_ad h2.ad] at r2
    have r0 : Rep (Pr c) (hid hb (T E μ2 hs)) d0 v0 := by
      rw [T_ad h2.ad, T_ad h1.ad]
      exact r1.over (h1.ad ▸ l2)
    refine hf.run A E hs _ _ Q Er R S2 (.cons r0 r2) fun v h' tk l S3 r3 => ?_
    rw [h2.ad, h1.ad] at l
    refine k v h' tk ((l1.trans (h1.ad ▸ l2)).trans l) S3 ?_
    rw [T_ad h2.ad, T_ad h1.ad] at r3
    exact r3⟩

/-- counting, seeking -/
theorem readsL {P : Params} {H : Heap} {l : List D} {a : Addr} {xs : List PyData} (r : Rep P H (.lst l) (.ref a)) (e : toDat.toDats l = some xs) : ∃ vs cap as, H.get? a = some (lob vs cap) ∧ ReadsAll H vs xs as := by
  cases r with
  | lst h b =>
    obtain ⟨o, h1, m, rfl⟩ := h
    obtain ⟨as, q⟩ := readsAll_of (rep_toDats b e)
    exact ⟨_, m, as, h1, q⟩
theorem readsAll_le {H H' : Heap} (le : Le H H') {vs : List Value} {xs : List PyData} {as : List Addr} (r : ReadsAll H vs xs as) : ReadsAll H' vs xs as := ReadsAll.keeps le r
theorem f_count {l : List D} {xs : List PyData} {d : PyData} (hl : toDat.toDats l = some xs) (hx : PyData.canLayAll0 xs = true) (hd : d.canLay0 = true) (h1 : d.depth ≤ 1) : Fn c (.builtin "list.count") n [.lst l, .dat d] [] (dI (xs.countP fun y => PyData.eqv y d)) [] :=
  fn2 fun A hs s v1 v2 Q Er R bel W r1 r2 k => by
    cases r1 with
    | lst h b =>
      rename_i a vs
      obtain ⟨vs, cap, as, e, ra⟩ := readsL (.lst h b) hl
      obtain ⟨bs, q2⟩ := rep_reads r2
      have ra' := readsAll_le (hid_le s.heap hs) ra
      have e' := hid_le _ _ _ _ e
      refine call_meets PySem.F.slot_list_count ⟨_, e', rfl⟩ PySem.F.entry_list_count (PySem.F.args_list_count_2 _ _) (SeqAt.list_countAt a vs.toArray cap none #[] v2 (fun y => PyData.eqv (SeqAt.readOf s.heap y) d)) ⟨e', SeqAt.items_eqAt (xs := xs) (by simpa using ra') q2 hx hd (roomIn R h1), ?_⟩
      have : (vs.countP fun y => PyData.eqv (SeqAt.readOf s.heap y) d) = xs.countP fun y => PyData.eqv y d := by
        rw [← SeqAt.readsAll_map xs vs as hx ra', List.countP_map]; rfl
      show wants Q Er _ _
      rw [show (vs.toArray.toList.countP fun y => PyData.eqv (SeqAt.readOf s.heap y) d) = _ from this]
      exact k _ s.heap _ (Le.refl _) rI
theorem f_index {l : List D} {xs : List PyData} {d : PyData} {j : Nat} (hl : toDat.toDats l = some xs) (hx : PyData.canLayAll0 xs = true) (hd : d.canLay0 = true) (h1 : d.depth ≤ 1) (hj : j < xs.length) (hs1 : (j : Int) < 2 ^ 63 - 1) (hit : PyData.eqv xs[j] d = true) (hno : ∀ m (hm : m < xs.length), m < j → PyData.eqv xs[m] d = false) :
    Fn c (.builtin "list.index") n [.lst l, .dat d] [] (dI j) [] :=
  fn2 fun A hs s v1 v2 Q Er R bel W r1 r2 k => by
    cases r1 with
    | lst h b =>
      rename_i a vs
      obtain ⟨vs, cap, as, e, ra⟩ := readsL (.lst h b) hl
      obtain ⟨bs, q2⟩ := rep_reads r2
      have ra' := readsAll_le (hid_le s.heap hs) ra
      have e' := hid_le _ _ _ _ e
      have em := SeqAt.readsAll_map xs vs as hx ra'
      have el : vs.length = xs.length := by rw [← em, List.length_map]
      have ei : ∀ m (hm : m < vs.length), SeqAt.readOf s.heap vs[m] = xs[m]'(el ▸ hm) := fun m hm => by
        have : (vs.map (SeqAt.readOf s.heap))[m]'(by simpa using hm) = xs[m]'(el ▸ hm) := by simp only [em]
        simpa using this
      refine call_meets PySem.F.slot_list_index ⟨_, e', rfl⟩ PySem.F.entry_list_index (PySem.F.args_list_index_2 _ _) (SeqAt.list_indexAt a vs.toArray cap none #[] v2 (fun y => PyData.eqv (SeqAt.readOf s.heap y) d) j (by simpa [el] using hj) hs1 ?_ ?_) ⟨e', SeqAt.items_eqAt (xs := xs) (by simpa using ra') q2 hx hd (roomIn R h1), ?_⟩
      · simp only [List.getElem_toArray]
        rw [ei j (by omega)]; exact hit
      · intro m hm hmj
        have hm' : m < vs.length := by simpa using hm
        simp only [List.getElem_toArray]
        rw [ei m hm']; exact hno m (by omega) hmj
      · exact k _ s.heap _ (Le.refl _) rI
theorem strs_of {P : Params} {H : Heap} : ∀ {xs : List Str} {vs : List Value}, RepL P H (xs.map dS) vs → ∃ l : List (Str × Tok), vs = strValues l ∧ l.map (·.1) = xs
  | [], _, .nil => ⟨[], rfl, rfl⟩
  | x :: xs, _, .cons a b => by
    obtain ⟨t, rfl⟩ := rep_str a
    obtain ⟨l, rfl, e⟩ := strs_of b
    exact ⟨(x, t) :: l, rfl, by simp [e]⟩
theorem f_join {sep : Str} {xs : List Str} (hz : JoinOk sep xs = true) : Fn c (.builtin "str.join") n [dS sep, .lst (xs.map dS)] [] (dS (Txt.join sep xs)) [] :=
  fn2 fun A hs s v1 v2 Q Er R bel W r1 r2 k => by
    obtain ⟨t, rfl⟩ := rep_str r1
    cases r2 with
    | lst h b =>
      obtain ⟨l, rfl, e⟩ := strs_of b
      exact SC.join (h.keeps (hid_le _ _)).is e hz fun t' k' => k _ s.heap k' (Le.refl _) rS
end
end Mine
namespace Mine
section
variable {K : Type} [DecidableEq K]
inductive RepV (P : Params) (h : Heap) : List (K × D) → List (K × Value) → Prop
  | nil : RepV P h [] []
  | cons {k : K} {d : D} {v : Value} {fs : List (K × D)} {kvs : List (K × Value)} : Rep P h d v → RepV P h fs kvs → RepV P h ((k, d) :: fs) ((k, v) :: kvs)
noncomputable def valD (fs : List (K × D)) (k : K) : Option D := (fs.find? fun kv => decide (kv.1 = k)).map (·.2)
noncomputable def putD (fs : List (K × D)) (k : K) (d : D) : List (K × D) := if fs.any (fun kv => decide (kv.1 = k)) then fs.map (fun kv => if kv.1 = k then (kv.1, d) else kv) else fs ++ [(k, d)]
variable {P : Params} {h h' : Heap}
theorem RepV.keeps (le : Le h h') : ∀ {fs : List (K × D)} {kvs : List (K × Value)}, RepV P h fs kvs → RepV P h' fs kvs
  | _, _, .nil => .nil
  | _, _, .cons a b => .cons (a.keeps le) (b.keeps le)
theorem RepV.keys : ∀ {fs : List (K × D)} {kvs : List (K × Value)}, RepV P h fs kvs → kvs.map (·.1) = fs.map (·.1)
  | _, _, .nil => rfl
  | _, _, .cons a b => by simp [b.keys]
theorem RepV.len : ∀ {fs : List (K × D)} {kvs : List (K × Value)}, RepV P h fs kvs → kvs.length = fs.length
  | _, _, .nil => rfl
  | _, _, .cons a b => by simp [b.len]
theorem RepV.val {k : K} : ∀ {fs : List (K × D)} {kvs : List (K × Value)}, RepV P h fs kvs → ∀ {d : D}, valD fs k = some d → ∃ v, valueAt kvs k = some v ∧ Rep P h d v
  | _, _, .nil, d, e => by cases e
  | _, _, .cons (k := k') (v := v) a b, d, e => by
    unfold valD at e
    unfold valueAt
    simp only [List.find?_cons] at e ⊢
    by_cases q : k' = k
    · simp only [q, decide_true, Option.map_some, Option.some.injEq] at e ⊢
      exact ⟨v, rfl, e ▸ a⟩
    · simp only [q, decide_false] at e ⊢
      exact b.val (k := k) (by unfold valD; exact e)
theorem RepV.val_none {k : K} : ∀ {fs : List (K × D)} {kvs : List (K × Value)}, RepV P h fs kvs → valD fs k = none → valueAt kvs k = none
  | _, _, .nil, e => rfl
  | _, _, .cons (k := k') a b, e => by
    unfold valD at e
    unfold valueAt
    simp only [List.find?_cons] at e ⊢
    by_cases q : k' = k
    · simp [q] at e
    · simp only [q, decide_false] at e ⊢
      exact b.val_none (k := k) (by unfold valD; exact e)
theorem RepV.any {p : K → Bool} : ∀ {fs : List (K × D)} {kvs : List (K × Value)}, RepV P h fs kvs → kvs.any (fun kv => p kv.1) = fs.any fun kv => p kv.1
  | _, _, .nil => rfl
  | _, _, .cons a b => by simp [b.any (p := p)]
theorem RepV.snoc {k : K} {d : D} {v : Value} (rv : Rep P h d v) : ∀ {fs : List (K × D)} {kvs : List (K × Value)}, RepV P h fs kvs → RepV P h (fs ++ [(k, d)]) (kvs ++ [(k, v)])
  | _, _, .nil => .cons rv .nil
  | _, _, .cons a b => .cons a (b.snoc rv)
theorem RepV.turn {k : K} {d : D} {v : Value} (rv : Rep P h d v) : ∀ {fs : List (K × D)} {kvs : List (K × Value)}, RepV P h fs kvs → RepV P h (fs.map fun kv => if kv.1 = k then (kv.1, d) else kv) (kvs.map fun kv => if kv.1 = k then (kv.1, v) else kv)
  | _, _, .nil => .nil
  | _, _, .cons (k := k') a b => by
    simp only [List.map_cons]
    by_cases q : k' = k
    · simp only [q, if_true]; exact .cons rv (b.turn rv)
    · simp only [q, if_false]; exact .cons a (b.turn rv)
theorem RepV.put {k : K} {d : D} {v : Value} {fs : List (K × D)} {kvs : List (K × Value)} (r : RepV P h fs kvs) (rv : Rep P h d v) : RepV P h (putD fs k d) (stored kvs k v) := by
  unfold putD stored
  rw [r.any (p := fun x => decide (x = k))]
  split
  · exact r.turn rv
  · exact r.snoc rv
end
section
variable {P : Params} {h : Heap}
theorem repE_v {prog : Program} {w : World} : ∀ {fs : List (Str × D)} {es : List DictEntry}, RepE w.params h fs es → ∃ kvs, RepV w.params h fs kvs ∧ Pairs (strKind prog w) es kvs ∧ ∀ e ∈ es, ∃ k, (strKind prog w).is k e.key = true ∧ e.hash = (strKind prog w).hash k
  | _, _, .nil => ⟨[], .nil, .nil, fun _ q => by cases q⟩
  | _, _, .cons (k := k) (t := t) (v := v) a b => by
    obtain ⟨kvs, r, p, q⟩ := repE_v (prog := prog) b
    have hk : (strKind prog w).is k (.str k t) = true := by show (Value.isStrOf k (.str k t)) = true; simp [Value.isStrOf]
    refine ⟨(k, v) :: kvs, .cons a r, .cons hk rfl p, fun e he => ?_⟩
    rcases List.mem_cons.mp he with rfl | he
    · exact ⟨k, hk, rfl⟩
    · exact q e he
theorem v_repE {prog : Program} {w : World} : ∀ {es : List DictEntry} {fs : List (Str × D)} {kvs : List (Str × Value)}, Pairs (strKind prog w) es kvs → (∀ e ∈ es, ∃ k, (strKind prog w).is k e.key = true ∧ e.hash = (strKind prog w).hash k) → RepV w.params h fs kvs → RepE w.params h fs es
  | [], _, _, p, _, r => by
    cases p
    cases r
    exact .nil
  | ⟨hash, key, val⟩ :: es, _, _, p, q, r => by
    cases p with
    | cons h1 h2 p =>
      cases r with
      | cons a b =>
        obtain ⟨k', e1, e2⟩ := q _ (List.mem_cons_self ..)
        obtain rfl := (strKind prog w).inj _ _ _ h1 e1
        obtain ⟨t, rfl⟩ := Value.isStrOf_shape h1
        dsimp only at e2 h2
        subst e2 h2
        exact .cons a (v_repE p (fun e he => q e (List.mem_cons_of_mem _ he)) b)
theorem repI_v {prog : Program} {w : World} : ∀ {fs : List (Int × D)} {es : List DictEntry}, RepI w.params h fs es → ∃ kvs, RepV w.params h fs kvs ∧ Pairs (intKind prog w) es kvs ∧ ∀ e ∈ es, ∃ k, (intKind prog w).is k e.key = true ∧ e.hash = (intKind prog w).hash k
  | _, _, .nil => ⟨[], .nil, .nil, fun _ q => by cases q⟩
  | _, _, .cons (k := k) (t := t) (v := v) a b => by
    obtain ⟨kvs, r, p, q⟩ := repI_v (prog := prog) b
    have hk : (intKind prog w).is k (.int k t) = true := by show (Value.isInt k (.int k t)) = true; simp [Value.isInt]
    refine ⟨(k, v) :: kvs, .cons a r, .cons hk rfl p, fun e he => ?_⟩
    rcases List.mem_cons.mp he with rfl | he
    · exact ⟨k, hk, rfl⟩
    · exact q e he
theorem v_repI {prog : Program} {w : World} : ∀ {es : List DictEntry} {fs : List (Int × D)} {kvs : List (Int × Value)}, Pairs (intKind prog w) es kvs → (∀ e ∈ es, ∃ k, (intKind prog w).is k e.key = true ∧ e.hash = (intKind prog w).hash k) → RepV w.params h fs kvs → RepI w.params h fs es
  | [], _, _, p, _, r => by
    cases p
    cases r
    exact .nil
  | ⟨hash, key, val⟩ :: es, _, _, p, q, r => by
    cases p with
    | cons h1 h2 p =>
      cases r with
      | cons a b =>
        obtain ⟨k', e1, e2⟩ := q _ (List.mem_cons_self ..)
        obtain rfl := (intKind prog w).inj _ _ _ h1 e1
        obtain ⟨t, rfl⟩ := Value.isInt_shape h1
        dsimp only at e2 h2
        subst e2 h2
        exact .cons a (v_repI p (fun e he => q e (List.mem_cons_of_mem _ he)) b)
/-- one thing for both: a dict with its keys -/
structure KT (c : Cx) (K : Type) [DecidableEq K] where
  knd : KeyKind c.prog c.w K
  mo : List (K × D) → MO
  key : K → D
  to : ∀ {H h : Heap} {a : Addr} {fs : List (K × D)}, MRep (Pr c) H h a (mo fs) → (fs.map (·.1)).Nodup → (a == sysModules) = false ∧ ∃ kvs, RepV (Pr c) H fs kvs ∧ h.DictOf knd a kvs
  of : ∀ {H h : Heap} {a : Addr} {fs : List (K × D)} {kvs : List (K × Value)}, (a == sysModules) = false → h.DictOf knd a kvs → RepV (Pr c) H fs kvs → MRep (Pr c) H h a (mo fs)
  isk : ∀ {H : Heap} {k : K} {v : Value}, Rep (Pr c) H (key k) v → knd.is k v = true
noncomputable def ktS (c : Cx) : KT c Str where
  knd := strKind c.prog c.w
  mo := .dct
  key := dS
  to := fun {H h a fs} m nd => by
    obtain ⟨es, n, e, r, z⟩ := m
    obtain ⟨kvs, rv, p, q⟩ := repE_v (prog := c.prog) r
    exact ⟨z, kvs, rv, ⟨_, es.toArray, n, e, ⟨rfl, rfl, rfl⟩, rfl, fun x hx => q x (by simpa using hx), by simpa using p, by rw [rv.keys]; exact nd⟩⟩
  of := fun {H h a fs kvs} z m rv => by
    obtain ⟨⟨oc, od, odat, os⟩, es, ep, e, ⟨h1, h2, h3⟩, h4, h5, h6, _⟩ := m
    dsimp only at h1 h2 h3 h4
    subst h1 h2 h3 h4
    exact ⟨es.toList, ep, by simpa using e, v_repE h6 (fun x hx => h5 x (by simpa using hx)) rv, z⟩
  isk := fun {H k v} r => by obtain ⟨t, rfl⟩ := rep_str r; show (Value.isStrOf k (.str k t)) = true; simp [Value.isStrOf]
noncomputable def ktI (c : Cx) : KT c Int where
  knd := intKind c.prog c.w
  mo := .tab
  key := dI
  to := fun {H h a fs} m nd => by
    obtain ⟨es, n, e, r, z⟩ := m
    obtain ⟨kvs, rv, p, q⟩ := repI_v (prog := c.prog) r
    exact ⟨z, kvs, rv, ⟨_, es.toArray, n, e, ⟨rfl, rfl, rfl⟩, rfl, fun x hx => q x (by simpa using hx), by simpa using p, by rw [rv.keys]; exact nd⟩⟩
  of := fun {H h a fs kvs} z m rv => by
    obtain ⟨⟨oc, od, odat, os⟩, es, ep, e, ⟨h1, h2, h3⟩, h4, h5, h6, _⟩ := m
    dsimp only at h1 h2 h3 h4
    subst h1 h2 h3 h4
    exact ⟨es.toList, ep, by simpa using e, v_repI h6 (fun x hx => h5 x (by simpa using hx)) rv, z⟩
  isk := fun {H k v} r => by obtain ⟨t, rfl⟩ := rep_int r; show (Value.isInt k (.int k t)) = true; simp [Value.isInt]
end
section
variable {c : Cx} {f : Fi} {n : Nat} {Γ Γ' : Ga} {μ μ' μ1 μ2 μ3 μ4 μa μb μr : Mu} {K : Type} [DecidableEq K]
theorem f_setdefault_old (κ : KT c K) {a : Addr} {fs : List (K × D)} {k : K} {d d' : D} (nd : (fs.map (·.1)).Nodup) (hz : fs.length ≤ sizeLine) (hv : valD fs k = some d') : Fn c (.builtin "dict.setdefault") n [.val (.ref a), κ.key k, d] [(a, κ.mo fs)] d' [(a, κ.mo fs)] :=
  fnMu fun A hs s vs Q Er R W bel m r q => by
    cases r with
    | cons r0 r => cases r with
      | cons r1 r => cases r with
        | cons r2 r =>
          cases r; obtain rfl := rep_val r0
          obtain ⟨z, kvs, rv, hd⟩ := κ.to m nd
          obtain ⟨v, e1, e2⟩ := rv.val hv
          refine call_meetsIn PySem.F.slot_dict_setdefault hd.typeIs PySem.F.entry_dict_setdefault (PySem.F.args_dict_setdefault_3 _ _ _) (kt_meets_setdefault κ.knd a (κ.isk r1) z _) ⟨kvs, hd, by rw [rv.len]; exact hz, fun u hu => ?_, fun hn => by rw [e1] at hn; cases hn⟩
          rw [e1] at hu; cases hu
          exact q v s.heap _ (LeX.refl _ _) (Le.refl _) m e2
theorem f_setdefault_new (κ : KT c K) {a : Addr} {fs : List (K × D)} {k : K} {d : D} (nd : (fs.map (·.1)).Nodup) (hz : fs.length ≤ sizeLine) (hv : valD fs k = none) : Fn c (.builtin "dict.setdefault") n [.val (.ref a), κ.key k, d] [(a, κ.mo fs)] d [(a, κ.mo (putD fs k d))] :=
  fnMu fun A hs s vs Q Er R W bel m r q => by
    cases r with
    | cons r0 r => cases r with
      | cons r1 r => cases r with
        | cons r2 r =>
          cases r; obtain rfl := rep_val r0
          obtain ⟨z, kvs, rv, hd⟩ := κ.to m nd
          have e1 := rv.val_none hv
          refine call_meetsIn PySem.F.slot_dict_setdefault hd.typeIs PySem.F.entry_dict_setdefault (PySem.F.args_dict_setdefault_3 _ _ _) (kt_meets_setdefault κ.knd a (κ.isk r1) z _) ⟨kvs, hd, by rw [rv.len]; exact hz, fun u hu => (by rw [e1] at hu; cases hu), fun hn h' hd' sb => ?_⟩
          exact q _ h' _ (sbX sb) (xLe (sbX sb)) (κ.of z hd' ((rv.put r2).keeps (xLe (sbX sb)))) (r2.keeps (xLe (sbX sb)))
theorem f_get (κ : KT c K) {a : Addr} {fs : List (K × D)} {k : K} (nd : (fs.map (·.1)).Nodup) : Fn c (.builtin "dict.get") n [.val (.ref a), κ.key k] [(a, κ.mo fs)] ((valD fs k).getD dN) [(a, κ.mo fs)] :=
  fnMu fun A hs s vs Q Er R W bel m r q => by
    cases r with
    | cons r0 r => cases r with
      | cons r1 r =>
          cases r; obtain rfl := rep_val r0
          obtain ⟨z, kvs, rv, hd⟩ := κ.to m nd
          refine call_meetsIn PySem.F.slot_dict_get hd.typeIs PySem.F.entry_dict_get (PySem.F.args_dict_get_2 _ _) (meets_dict_get κ.knd a (κ.isk r1) z) ⟨_, hd.mapOf, ?_⟩
          refine q _ s.heap _ (LeX.refl _ _) (Le.refl _) m ?_
          cases e : valD fs k with
          | none => rw [rv.val_none e]; exact rN
          | some d => obtain ⟨v, e1, e2⟩ := rv.val e; rw [e1]; exact e2
theorem f_get_default (κ : KT c K) {a : Addr} {fs : List (K × D)} {k : K} {d : D} (nd : (fs.map (·.1)).Nodup) : Fn c (.builtin "dict.get") n [.val (.ref a), κ.key k, d] [(a, κ.mo fs)] ((valD fs k).getD d) [(a, κ.mo fs)] :=
  fnMu fun A hs s vs Q Er R W bel m r q => by
    cases r with
    | cons r0 r => cases r with
      | cons r1 r => cases r with
        | cons r2 r =>
          cases r; obtain rfl := rep_val r0
          obtain ⟨z, kvs, rv, hd⟩ := κ.to m nd
          refine call_meetsIn PySem.F.slot_dict_get hd.typeIs PySem.F.entry_dict_get (PySem.F.args_dict_get_3 _ _ _) (meets_dict_get_default κ.knd a (κ.isk r1) z _) ⟨_, hd.mapOf, ?_⟩
          refine q _ s.heap _ (LeX.refl _ _) (Le.refl _) m ?_
          cases e : valD fs k with
          | none => rw [rv.val_none e]; exact r2
          | some d => obtain ⟨v, e1, e2⟩ := rv.val e; rw [e1]; exact e2
/-- of a dict that turns no more -/
theorem f_getDct {fs : List (Str × D)} {k : Str} (nd : (fs.map (·.1)).Nodup) : Fn c (.builtin "dict.get") n [.dct fs, dS k] [] ((valD fs k).getD dN) [] :=
  fn2 fun A hs s v1 v2 Q Er R bel W r1 r2 q => by
    cases r1 with
    | dct z ho he =>
      obtain ⟨z, kvs, rv, hd⟩ := (ktS c).to (H := hid s.heap hs) (h := s.heap) ⟨_, _, hid_le _ _ _ _ ho, he, z⟩ nd
      refine call_meetsIn PySem.F.slot_dict_get hd.typeIs PySem.F.entry_dict_get (PySem.F.args_dict_get_2 _ _) (meets_dict_get (ktS c).knd _ ((ktS c).isk r2) z) ⟨_, hd.mapOf, ?_⟩
      refine q _ s.heap _ (Le.refl _) ?_
      cases e : valD fs k with
      | none => rw [rv.val_none e]; exact rN
      | some d => obtain ⟨v, e1, e2⟩ := rv.val e; rw [e1]; exact e2
end
end Mine
namespace Mine
section
variable {c : Cx} {f : Fi} {n : Nat} {Γ Γ' : Ga} {μ μ' μ1 μ2 μ3 μ4 μa μb μr : Mu} {P : Out → Prop}

/-- one more thing that may turn -/
theorem Sat.new {E : Env} {hs : List Addr} {h h' : Heap} {a : Addr} {mo : MO} (S : Sat c f E hs Γ μ h) (l : Le h h') (hn : h.get? a = none) (hm : MRep (Pr c) (hid h' (T E ((a, mo) :: μ) hs)) h' a mo) : Sat c f E hs Γ ((a, mo) :: μ) h' := by
  have mem : ∀ z, z ∈ T E ((a, mo) :: μ) hs ↔ z = a ∨ z ∈ T E μ hs := fun z => by simp only [T, addrs, List.map_cons, List.mem_append, List.mem_cons]; grind
  have kk : Le (hid h (T E μ hs)) (hid h' (T E ((a, mo) :: μ) hs)) := hid_mono' (Y := []) l.x (fun z q => (List.not_mem_nil q).elim) fun z q => by
    rcases (mem z).mp q with rfl | q
    · exact .inr hn
    · exact .inl q
  have na : ∀ z ∈ T E μ hs, z ≠ a := fun z q e => by obtain ⟨o, x⟩ := S.belT z q; rw [e, hn] at x; cases x
  refine ⟨?_, fun x hx => ?_, fun x hx => (S.bel x hx).imp fun o e => l _ _ e, S.wd.keeps kk, ?_, ?_, ?_, fun p hp => ?_⟩
  · have nd := List.nodup_append.mp S.nd
    refine List.nodup_append.mpr ⟨nd.1, List.nodup_cons.mpr ⟨fun q => na _ (List.mem_append_left _ (List.mem_append_right _ q)) rfl, nd.2.1⟩, fun x hx y hy => ?_⟩
    rcases List.mem_cons.mp hy with rfl | hy
    · exact na _ (List.mem_append_left _ (List.mem_append_left _ hx))
    · exact nd.2.2 x hx y hy
  · rcases List.mem_append.mp hx with q | q
    · exact S.dis x (List.mem_append_left _ q)
    · rcases List.mem_cons.mp q with rfl | q
      · exact fun z => na _ (List.mem_append_right _ z) rfl
      · exact S.dis x (List.mem_append_right _ q)
  · obtain ⟨m, ⟨o, es, ep, e, r⟩, q⟩ := S.ns
    exact ⟨m, ⟨o, es, ep, l _ _ e, r⟩, fun i x d a b g => (q i x d a b g).imp fun v t => ⟨t.1, t.2.keeps kk⟩⟩
  · intro i x d a b g
    obtain ⟨z, v, p, ⟨o, e, t⟩, u⟩ := S.cl i x d a b g
    exact ⟨z, v, p, ⟨o, l _ _ e, t⟩, u.keeps kk⟩
  · intro p hp
    obtain ⟨v, o, e, t⟩ := S.ce p hp
    exact ⟨v, o, l _ _ e, t⟩
  · rcases List.mem_cons.mp hp with rfl | hp
    · exact hm
    · exact (S.mu p hp).keeps kk fun o e => l _ _ e
/-- and one less, its things unsaid -/
theorem Sat.drop {E : Env} {hs : List Addr} {h : Heap} {a : Addr} {mo : MO} (S : Sat c f E hs Γ ((a, mo) :: μ) h) : Sat c f E hs Γ μ h := by
  have sub : ∀ z ∈ T E μ hs, z ∈ T E ((a, mo) :: μ) hs := fun z q => by simp only [T, addrs, List.map_cons, List.mem_append, List.mem_cons] at q ⊢; grind
  have kk : Le (hid h (T E ((a, mo) :: μ) hs)) (hid h (T E μ hs)) := hid_same sub
  have nd := List.nodup_append.mp S.nd
  refine ⟨List.nodup_append.mpr ⟨nd.1, (List.nodup_cons.mp nd.2.1).2, fun x hx y hy => nd.2.2 x hx y (List.mem_cons_of_mem _ hy)⟩, fun x hx => S.dis x (by
    rcases List.mem_append.mp hx with q | q
    · exact List.mem_append_left _ q
    · exact List.mem_append_right _ (List.mem_cons_of_mem _ q)), S.bel, S.wd.keeps kk, ?_, ?_, S.ce, fun p hp => (S.mu p (List.mem_cons_of_mem _ hp)).keeps kk fun o e => e⟩
  · obtain ⟨m, hn, q⟩ := S.ns
    exact ⟨m, hn, fun i x d a b g => (q i x d a b g).imp fun v t => ⟨t.1, t.2.keeps kk⟩⟩
  · intro i x d a b g
    obtain ⟨z, v, p1, p2, p3⟩ := S.cl i x d a b g
    exact ⟨z, v, p1, p2, p3.keeps kk⟩

/-- an expression that makes a new thing -/
structure EvN (c : Cx) (f : Fi) (n : Nat) (Γ : Ga) (μ : Mu) (e : Expr) (mo : MO) (dd : Addr → D) (μ' : Mu) : Prop where
  ad : addrs μ' = addrs μ
  run : ∀ (A : Around) (E : Env) (hs : List Addr) (s : Shared) (Q : Value → Shared → Prop) (Er : Value → Shared → Prop), f.Ok → Room A n → EOk f E → Sat c f E hs Γ μ s.heap →
    (∀ v a h' tk, LeX (addrs μ) s.heap h' → s.heap.get? a = none → Sat c f E hs Γ ((a, mo) :: μ') h' → Rep (Pr c) (hid h' (T E ((a, mo) :: μ') hs)) (dd a) v → Q v { s with heap := h', toks := tk }) →
    wpAny (Md c) A (eval e E) Q Er s
noncomputable abbrev dA (a : Addr) : D := .val (.ref a)
theorem le_none {E : Env} {hs : List Addr} {h0 h : Heap} {a : Addr} (S : Sat c f E hs Γ μ h) (ad : addrs μ = addrs μ') (l : LeX (addrs μ') h0 h) (e : h.get? a = none) : h0.get? a = none :=
  le_fresh S (ad ▸ l) (fun z q => S.belT z (List.mem_append_left _ (List.mem_append_right _ q))) e
theorem EvN.list {es : List Expr} {pos : Pos} {ds : List D} (h1 : EvL c f n Γ μ es ds μ1) (hz : ds.length ≤ sizeLine := by decide) : EvN c f n Γ μ (.List es pos) (.lst ds) dA μ1 :=
  ⟨h1.ad, fun A E hs s Q Er ok R O S k => wpAny_List_spliced (h1.run A E hs s _ Er _ ok R O S fun vs ha t1 l1 S1 r1 => by
    refine ⟨by rw [← r1.length]; exact hz, ?_⟩
    have le := Le.push ha (lob vs 0)
    have nb : ha.get? ha.objs.size = Option.none := fresh_none (Nat.le_refl _)
    have kk : Le (hid ha (T E μ hs)) (hid (ha.push (lob vs 0)) (T E ((ha.objs.size, .lst ds) :: μ1) hs)) := hid_mono' (Y := []) le.x (fun z q => (List.not_mem_nil q).elim) fun z q => by
      have : z = ha.objs.size ∨ z ∈ T E μ1 hs := by simp only [T, addrs, List.map_cons, List.mem_append, List.mem_cons] at q ⊢; grind
      rw [T_ad h1.ad] at this
      rcases this with rfl | q
      · exact .inr nb
      · exact .inl q
    refine k _ ha.objs.size _ _ (l1.trans le.x) (le_none S1 h1.ad l1 nb) (S1.new le nb ⟨vs, ⟨_, Heap.get?_push_size _ rfl, 0, rfl⟩, r1.keeps kk⟩) (.val _))⟩
theorem not_sys {E : Env} {hs : List Addr} {h : Heap} {a : Addr} (S : Sat c f E hs Γ μ h) (e : h.get? a = none) (hsz : h.objs.size ≤ a) : (a == sysModules) = false := by
  obtain ⟨mg, o, _, _, q, _⟩ := S.wd.g
  have h3 := Heap.lt_size (hid_le _ _ _ _ q)
  refine beq_eq_false_iff_ne.mpr fun z => ?_
  subst z
  have h4 : (3 : Nat) < h.objs.size := h3
  have h5 : h.objs.size ≤ (1 : Nat) := hsz
  omega
theorem EvN.dict0 {pos : Pos} {K : Type} [DecidableEq K] (κ : KT c K) : EvN c f n Γ μ (.Dict [] [] pos) (κ.mo []) dA μ :=
  ⟨rfl, fun A E hs s Q Er ok R O S k => wpAny_Dict_empty (by
    have le := Le.push s.heap { cls := .type "dict", data := .dict #[] }
    have nb : s.heap.get? s.heap.objs.size = Option.none := fresh_none (Nat.le_refl _)
    exact k _ s.heap.objs.size _ _ le.x nb (S.new le nb (κ.of (not_sys S nb (Nat.le_refl _)) (Heap.DictOf.new _) .nil)) (.val _))⟩
/-- it turns no more -/
theorem EvN.ev {e : Expr} {mo : MO} {dd : Addr → D} {d : D} (h : EvN c f n Γ μ e mo dd μ1) (hd : ∀ H a v, MRep (Pr c) H H a mo → Rep (Pr c) H (dd a) v → Rep (Pr c) H d v) : Ev c f n Γ μ e d μ1 :=
  ⟨h.ad, fun A E hs s Q Er ok R O S k => h.run A E hs s Q Er ok R O S fun v a h' tk l hn S1 r => by
    have S2 := S1.drop
    refine k v h' tk l S2 ?_
    have na : a ∉ T E μ1 hs := fun q => by
      have nd := List.nodup_append.mp S1.nd
      rcases List.mem_append.mp q with q | q
      · rcases List.mem_append.mp q with q | q
        · exact nd.2.2 a q a (List.mem_cons_self ..) rfl
        · exact (List.nodup_cons.mp nd.2.1).1 q
      · exact S1.dis a (List.mem_append_right _ (List.mem_cons_self ..)) q
    have sub : ∀ z ∈ T E μ1 hs, z ∈ T E ((a, mo) :: μ1) hs := fun z q => by simp only [T, addrs, List.map_cons, List.mem_append, List.mem_cons] at q ⊢; grind
    rw [← T_ad h.ad]
    have m := S1.mu (a, mo) (List.mem_cons_self ..)
    exact hd _ a v (m.keeps (hid_same sub) fun o e => hid_get.mpr ⟨e, na⟩) (r.keeps (hid_same sub))⟩
theorem Ex1.assignN {x : Str} {px pos : Pos} {e : Expr} {mo : MO} {dd : Addr → D} (i : Nat) (h1 : EvN c f n Γ μ e mo dd μ1) (hp : ∀ a, P (.nxt (Γ.set i (some (dd a))) ((a, mo) :: μ1))) (hx : f.ks[i]? = some x := by rfl) (hc : noComp e = true := by rfl) : Ex1 c f n Γ μ (.Assign [.Name x px] e pos) P :=
  fun A E hs s Q Er ok R O S k => wpAny_Assign_Name (h1.run A E hs s _ Er ok R O S fun v a ha t1 l1 hn S1 r1 => stName i ok O S1 hx r1 fun h' tk l S2 =>
    k _ .next h' tk (hp a) (l1.addl.trans (l.addr)) (fun b q => by
      have q : b ∈ addrs ((a, mo) :: μ1) := q
      rcases List.mem_cons.mp q with rfl | q
      · exact .inr hn
      · exact .inl (by have : b ∈ addrs μ1 := q; rwa [h1.ad] at this)) S2) (swaps_no hc)
end
end Mine
namespace Mine
section
variable {c : Cx} {f : Fi} {n : Nat} {Γ Γ' : Ga} {μ μ' μ1 μ2 μ3 μ4 μa μb μr : Mu} {P : Out → Prop}

theorem mem_new {E : Env} {hs : List Addr} {a : Addr} {mo : MO} (z : Addr) : z ∈ T E ((a, mo) :: μ) hs ↔ z = a ∨ z ∈ T E μ hs := by simp only [T, addrs, List.map_cons, List.mem_append, List.mem_cons]; grind
theorem new_le {E : Env} {hs : List Addr} {a : Addr} {mo : MO} {h h' : Heap} (l : Le h h') (hn : h.get? a = none) : Le (hid h (T E μ hs)) (hid h' (T E ((a, mo) :: μ) hs)) :=
  hid_mono' (Y := []) l.x (fun z q => (List.not_mem_nil q).elim) fun z q => by
    rcases (mem_new z).mp q with rfl | q
    · exact .inr hn
    · exact .inl q
/-- x[:b], a new list that will turn -/
theorem EvN.sliceUp {e hi : Expr} {p pos : Pos} {d : D} {l : List D} {b : Nat} (h1 : Ev c f n Γ μ e d μ1) (h3 : Ev c f n Γ μ1 hi (dI b) μ2) (hd : LsOf c d l) (hz : l.length ≤ sizeLine) : EvN c f n Γ μ (.Subscript e (.Slice none (some hi) none p) pos) (.lst (l.take b)) dA μ2 :=
  ⟨h3.ad.trans h1.ad, fun A E hs s Q Er ok R O S k => by
    have e12 := h3.ad.trans h1.ad
    rw [eval_Subscript]
    refine wpAny_bind (h1.run A E hs s _ Er ok R O S fun v1 ha t1 l1 S1 r1 => wpAny_bind (wpAny_holding (wpAny_Slice (wpAny_pure (h3.run A E hs _ _ Er ok R O S1 fun vh hb t2 l2 S2 r2 => wpAny_pure (wpAny_bind (wpAny_standAt ?_)))))))
    obtain ⟨th, rfl⟩ := rep_int r2
    have l14 : LeX (addrs μ) ha hb := h1.ad ▸ l2
    have le := Le.push hb { cls := .type "slice", data := .fields #[.none, .int b th, .none] }
    have r1' := (r1.over l14).keeps (hid_le_of (X := T E μ hs) le)
    refine slTail (isT_ls hd _ _ r1' _ (hid_le _ _)) getT_list ?_
    obtain ⟨a, ws, rfl, hl, rl⟩ := hd _ _ r1'
    refine wpAny_getItem_list_slice (isList_keeps (hid_le _ _) hl) (Heap.IsSliceOf.new ..) .none (.int _ _) .none (by decide) ?_ (by rw [List.size_toArray, ← rl.length]; exact hz)
    rw [slicePick_upto']
    generalize hH : hb.push { cls := .type "slice", data := .fields #[.none, .int b th, .none] } = H2 at *
    have le2 : Le H2 (H2.push (lob (ws.take b) 0)) := Le.push _ _
    have S3 := S2.pure le
    have nb : H2.get? H2.objs.size = none := fresh_none (Nat.le_refl _)
    refine k _ H2.objs.size _ _ (((l1.trans l14).trans le.x).trans le2.x) ?_ (S3.new le2 nb ⟨_, ⟨_, Heap.get?_push_size _ rfl, 0, rfl⟩, ((rl.take b).keeps (hid_same fun z q => ?_)).keeps (new_le (E := E) (μ := μ2) (hs := hs) le2 nb)⟩) (.val _)
    · exact le_none S3 e12 ((l1.trans l14).trans le.x) nb
    · rw [T_ad e12] at q; exact q⟩

/-- a callable that gives a new thing -/
structure FnN (c : Cx) (fv : Value) (n : Nat) (ds : List D) (mo : MO) (dd : Addr → D) : Prop where
  run : ∀ (A : Around) (hs : List Addr) (s : Shared) (vs : List Value) (Q : Value → Shared → Prop) (Er : Value → Shared → Prop), Room A n → (∀ a ∈ hs, ∃ o, s.heap.get? a = some o) → Wd c (hid s.heap hs) → RepL (Pr c) (hid s.heap hs) ds vs →
    (∀ v a h' tk, Le s.heap h' → s.heap.get? a = none → MRep (Pr c) (hid h' (a :: hs)) h' a mo → Rep (Pr c) (hid h' (a :: hs)) (dd a) v → Q v { s with heap := h', toks := tk }) → wpAny (Md c) A (call fv vs) Q Er s
theorem EvN.call {id : Str} {p pos : Pos} {args : List Expr} {fv : Value} {m : Nat} {ds : List D} {mo : MO} {dd : Addr → D} (h1 : Ev c f n Γ μ (.Name id p) (.val fv) μ) (h2 : EvL c f n Γ μ args ds μ2) (hf : FnN c fv m ds mo dd) (hc : Callee c fv) (hm : m ≤ n := by decide) : EvN c f n Γ μ (.Call (.Name id p) args [] pos) mo dd μ2 :=
  ⟨h2.ad, fun A E hs s Q Er ok R O S k => by
    show wpAny (Md c) A (do callWith pos (← eval (.Name id p) E) [] (backTo pos (starEach args E)) (backToKw pos (keywordEach [] E))) Q Er s
    refine wpAny_bind (h1.run A E hs s _ Er ok R O S fun fv' ha t1 l1 S1 r1 => ?_)
    obtain rfl := rep_val r1
    refine callWith_ok hc h2.ns (h2.run A E hs _ _ Er pos ok R O S1 fun vs hb t2 l2 S2 r2 => ⟨S2.wd.keeps (hid_le _ _), ?_⟩)
    rw [← T_ad h2.ad] at r2
    refine hf.run A (T E μ2 hs) _ vs Q Er (R.le hm) S2.belT S2.wd r2 fun v a h' tk le hn mr rr => ?_
    have ss : ∀ z, z ∈ T E ((a, mo) :: μ2) hs → z ∈ a :: T E μ2 hs := fun z q => by
      rcases (mem_new z).mp q with rfl | q
      · exact List.mem_cons_self ..
      · exact List.mem_cons_of_mem _ q
    refine k v a h' tk ((l1.trans l2).trans le.x) (le_none S2 h2.ad (l1.trans l2) hn) (S2.new le hn (mr.keeps (hid_same ss) fun o e => e)) (rr.keeps (hid_same ss))⟩
theorem FnN.intro {a : Addr} {oc : Value} {od : Option Addr} {osl : Array (Option Value)} {fd : FuncData} {body : List Stmt} {ns rest : List Str} {ds dd : List D} {dv : List Value} {mo : MO} {dr : Addr → D}
    (ho : c.K.lookup a = some ⟨oc, od, .func fd, osl⟩) (hcd : codeIn c.K fd.code fd.qualname = true) (hbody : fd.body = .stmts body) (hst : fd.closure = [] ∧ fd.globals = mainGlobals ∧ fd.builtins = builtinsNs ∧ fd.scope.isCoroutine = false ∧ fd.scope.isGenerator = false)
    (ok : f.Ok) (hsc : f.cs = fd.scope) (hks : f.ks = ns ++ rest) (hlen : ns.length = (ds ++ dd).length)
    (hb : ∀ (s : Shared) (vs : List Value), Wd c s.heap → vs.length = ds.length → BindsTo s fd ⟨vs, []⟩ (ns.zip (vs ++ dv))) (hdv : ∀ P h, RepL P h dd dv)
    (hx : Ex c f n ((ds ++ dd).map some ++ List.replicate rest.length none) [] body (fun o => ∃ a, o = .ret (dr a) [(a, mo)])) : FnN c (.ref a) (n + 1) ds mo dr :=
  ⟨fun A hs s vs Q Er R bel W r k => wpAny_call (callGo ho hcd hbody hst ok hsc hks hlen hb hdv hx (fun o ⟨a, p⟩ => .inl ⟨_, _, p⟩) A hs s vs Q Er R bel List.nodup_nil (fun a q => (List.not_mem_nil q).elim) W (fun p q => (List.not_mem_nil q).elim) r
    (fun env o v h' tk ⟨a, p⟩ os lx fo fr => by
      subst p
      have hn : s.heap.get? a = none := (fr a (List.mem_cons_self ..)).elim (fun q => (List.not_mem_nil q).elim) fun q => q
      have sub : ∀ z, z ∈ a :: hs → z ∈ T env [(a, mo)] hs := fun z q => by
        rcases List.mem_cons.mp q with rfl | q
        · exact (mem_new _).mpr (.inl rfl)
        · exact List.mem_append_right _ q
      exact k v a h' tk lx.le hn ((os.1.mu _ (List.mem_cons_self ..)).keeps (hid_same sub) fun o e => e) (os.2.keeps (hid_same sub)))
    fun env o h' tk ⟨a, p⟩ os lx fo fr => by subst p; exact os.elim)⟩
end
end Mine
namespace Mine
section
variable {c : Cx} {f : Fi} {n : Nat} {Γ Γ' : Ga} {μ μ' μ1 μ2 μ3 μ4 μa μb μr : Mu} {P : Out → Prop}

/-- a read of a list that may turn -/
theorem Cal.lenMu {a : Addr} {l : List D} (hm : (a, .lst l) ∈ μ) (hz : l.length < 2 ^ 63) : Cal c f n Γ (.builtin "len") [dA a] μ (dI l.length) μ :=
  ⟨rfl, fun A E hs s vs Q Er R S r k => by
    cases r with
    | cons r0 r =>
      cases r; obtain rfl := rep_val r0
      obtain ⟨vs, hl, rl⟩ := S.mu _ hm
      have e := rl.length
      exact len_list hl.is (by simp; omega) (k _ s.heap _ (LeX.refl _ _) S (by simp; rw [← e]; exact rI))⟩
noncomputable abbrev hsBut (E : Env) (μ : Mu) (hs : List Addr) (a : Addr) : List Addr := (T E μ hs).filter fun z => z != a
theorem but_le {E : Env} {hs : List Addr} {a : Addr} {h : Heap} : Le (hid h (T E μ hs)) (hid h (hsBut E μ hs a)) := hid_same fun z q => (List.mem_filter.mp q).1
theorem but_rep {E : Env} {hs : List Addr} {h : Heap} {a : Addr} {l : List D} (S : Sat c f E hs Γ μ h) (hm : (a, .lst l) ∈ μ) : Rep (Pr c) (hid h (hsBut E μ hs a)) (.lst l) (.ref a) := by
  obtain ⟨vs, ⟨o, e, q⟩, rl⟩ := S.mu _ hm
  exact .lst ⟨o, hid_get.mpr ⟨e, fun q => by have := (List.mem_filter.mp q).2; simp at this⟩, q⟩ (rl.keeps but_le)
theorem Ev.cmpMu {l r : Expr} {op : CmpOp} {pos : Pos} {a : Addr} {xs : List D} {d2 : D} {b : Bool} (h1 : Ev c f n Γ μ l (dA a) μ1) (h2 : Ev c f n Γ μ1 r d2 μ2) (hm : (a, .lst xs) ∈ μ2) (hp : Pu2 c n (compareOp op) (.lst xs) d2 (dB b)) (hb : behindInMarks op r = false := by with_unfolding_all rfl) : Ev c f n Γ μ (.Compare l [op] [r] pos) (dB b) μ2 :=
  ⟨h2.ad.trans h1.ad, fun A E hs s Q Er ok R O S k => wpAny_Compare1 (h1.run A E hs s _ _ ok R O S fun v1 ha t1 l1 S1 r1 => h2.run A E hs _ _ _ ok R O S1 fun v2 hb t2 l2 S2 r2 => by
    obtain rfl := rep_val r1
    rw [← T_ad h2.ad] at r2
    have l2' : LeX (addrs μ) ha hb := h1.ad ▸ l2
    refine hp A (hsBut E μ2 hs a) _ _ v2 Q Er R (fun z q => S2.belT z (List.mem_filter.mp q).1) (S2.wd.keeps but_le) (but_rep S2 hm) (r2.keeps but_le) fun v h' tk le rr => ?_
    obtain rfl := rep_bool rr
    exact k _ h' tk ((l1.trans l2').trans le.x) (S2.pure le) rB) hb⟩
theorem Ts.cmpMu {l r : Expr} {op : CmpOp} {pos : Pos} {a : Addr} {xs : List D} {d2 : D} {b : Bool} (h1 : Ev c f n Γ μ l (dA a) μ1) (h2 : Ev c f n Γ μ1 r d2 μ2) (hm : (a, .lst xs) ∈ μ2) (hp : Pu2 c n (compareOp op) (.lst xs) d2 (dB b)) (hb : behindInMarks op r = false := by with_unfolding_all rfl) : Ts c f n Γ μ (.Compare l [op] [r] pos) b μ2 :=
  ⟨h2.ad.trans h1.ad, fun A E hs s Q Er ok R O S k => wpAny_isTrue_Compare1 (h1.run A E hs s _ _ ok R O S fun v1 ha t1 l1 S1 r1 => h2.run A E hs _ _ _ ok R O S1 fun v2 hb t2 l2 S2 r2 => by
    obtain rfl := rep_val r1
    rw [← T_ad h2.ad] at r2
    have l2' : LeX (addrs μ) ha hb := h1.ad ▸ l2
    refine hp A (hsBut E μ2 hs a) _ _ v2 _ Er R (fun z q => S2.belT z (List.mem_filter.mp q).1) (S2.wd.keeps but_le) (but_rep S2 hm) (r2.keeps but_le) fun v h' tk le rr => ?_
    obtain rfl := rep_bool rr
    exact wpAny_truthy_bool (k h' tk ((l1.trans l2').trans le.x) (S2.pure le))) hb⟩
theorem Ev.subMu {e i : Expr} {pos : Pos} {a : Addr} {l : List D} {kx : Int} {d : D} (h1 : Ev c f n Γ μ e (dA a) μ1) (h2 : Ev c f n Γ μ1 i (dI kx) μ2) (hm : (a, .lst l) ∈ μ2) (h0 : 0 ≤ kx) (h3 : kx < 2 ^ 63) (hd : l[kx.toNat]? = some d) (hi : noSlice i = true := by rfl) : Ev c f n Γ μ (.Subscript e i pos) d μ2 :=
  ⟨h2.ad.trans h1.ad, fun A E hs s Q Er ok R O S k => by
    rw [eval_Subscript]
    refine wpAny_bind (h1.run A E hs s _ Er ok R O S fun v1 ha t1 l1 S1 r1 => wpAny_bind (wpAny_holding (h2.run A E hs _ _ Er ok R O S1 fun v2 hb t2 l2 S2 r2 => wpAny_bind (wpAny_standAt ?_))))
    obtain rfl := rep_val r1
    obtain ⟨t, rfl⟩ := rep_int r2
    obtain ⟨vs, hl, rl⟩ := S2.mu _ hm
    obtain ⟨v, hv, r⟩ := rl.get hd
    refine subTail (T := "list") (let ⟨o, e, q⟩ := hl.is; ⟨o, e, q.1⟩) getT_list hi (wpAny_getItem_list hl.is h0 h3 (by simpa using hv) ?_)
    exact k v hb t2 (l1.trans (h1.ad ▸ l2)) S2 (by rw [← T_ad (h2.ad.trans h1.ad)]; exact r)⟩
section
variable {K : Type} [DecidableEq K]
theorem Ev.subK {e i : Expr} {pos : Pos} {a : Addr} (κ : KT c K) {fs : List (K × D)} {kx : K} {d : D} (h1 : Ev c f n Γ μ e (dA a) μ1) (h2 : Ev c f n Γ μ1 i (κ.key kx) μ2) (hm : (a, κ.mo fs) ∈ μ2) (nd : (fs.map (·.1)).Nodup) (hd : valD fs kx = some d) (hi : noSlice i = true := by rfl) : Ev c f n Γ μ (.Subscript e i pos) d μ2 :=
  ⟨h2.ad.trans h1.ad, fun A E hs s Q Er ok R O S k => by
    rw [eval_Subscript]
    refine wpAny_bind (h1.run A E hs s _ Er ok R O S fun v1 ha t1 l1 S1 r1 => wpAny_bind (wpAny_holding (h2.run A E hs _ _ Er ok R O S1 fun v2 hb t2 l2 S2 r2 => wpAny_bind (wpAny_standAt ?_))))
    obtain rfl := rep_val r1
    obtain ⟨z, kvs, rv, hD⟩ := κ.to (S2.mu _ hm) nd
    obtain ⟨v, e1, e2⟩ := rv.val hd
    refine subTail (T := "dict") hD.typeIs getT_dict hi (wpAny_getItem_of (κ.isk r2) hD.mapOf e1 ?_)
    exact k v hb _ (l1.trans (h1.ad ▸ l2)) S2 (by rw [← T_ad (h2.ad.trans h1.ad)]; exact e2)⟩
/-- a new dict, read at once -/
theorem Ev.subN {e i : Expr} {pos : Pos} (κ : KT c K) {fs : List (K × D)} {kx : K} {d : D} (h1 : EvN c f n Γ μ e (κ.mo fs) dA μ1) (h2 : ∀ a, Ev c f n Γ ((a, κ.mo fs) :: μ1) i (κ.key kx) ((a, κ.mo fs) :: μ2)) (nd : (fs.map (·.1)).Nodup) (hd : valD fs kx = some d) (hi : noSlice i = true := by rfl) : Ev c f n Γ μ (.Subscript e i pos) d μ2 := by
  have ad2 : addrs μ2 = addrs μ1 := (List.cons.inj (h2 0).ad).2
  refine ⟨ad2.trans h1.ad, fun A E hs s Q Er ok R O S k => ?_⟩
  rw [eval_Subscript]
  refine wpAny_bind (h1.run A E hs s _ Er ok R O S fun v1 a ha t1 l1 hn S1 r1 => wpAny_bind (wpAny_holding ((h2 a).run A E hs _ _ Er ok R O S1 fun v2 hb t2 l2 S2 r2 => wpAny_bind (wpAny_standAt ?_))))
  obtain rfl := rep_val r1
  obtain ⟨z, kvs, rv, hD⟩ := κ.to (S2.mu _ (List.mem_cons_self ..)) nd
  obtain ⟨v, e1, e2⟩ := rv.val hd
  refine subTail (T := "dict") hD.typeIs getT_dict hi (wpAny_getItem_of (κ.isk r2) hD.mapOf e1 ?_)
  refine k v hb _ (fun z o nz e => l2 z o (fun q => ?_) (l1 z o nz e)) S2.drop (e2.keeps (hid_same fun z q => (mem_new z).mpr (.inr (by rw [T_ad (ad2.trans h1.ad)]; exact q))))
  rcases List.mem_cons.mp q with rfl | q
  · rw [hn] at e; cases e
  · exact nz (by have : z ∈ addrs μ1 := q; rwa [h1.ad] at this)
theorem Ex1.setItem {o i e : Expr} {pos' pos : Pos} {a : Addr} (κ : KT c K) {fs : List (K × D)} {kx : K} {d : D} (l : Mu) {r : Mu} (h0 : Ev c f n Γ μ e d μ1) (h1 : Ev c f n Γ μ1 o (dA a) μ2) (h2 : Ev c f n Γ μ2 i (κ.key kx) (l ++ (a, κ.mo fs) :: r)) (nd : (fs.map (·.1)).Nodup) (hz : fs.length ≤ sizeLine)
    (hp : P (.nxt Γ (l ++ (a, κ.mo (putD fs kx d)) :: r))) (hc : noComp e = true := by rfl) : Ex1 c f n Γ μ (.Assign [.Subscript o i pos'] e pos) P :=
  fun A E hs s Q Er ok R O S k => by
    have e02 := h1.ad.trans h0.ad
    have e03 := h2.ad.trans e02
    refine wpAny_Assign_Subscript (h0.run A E hs s _ Er ok R O S fun v0 ha t0 l0 S0 r0 => h1.run A E hs _ _ Er ok R O S0 fun v1 hb t1 l1 S1 r1 => h2.run A E hs _ _ Er ok R O S1 fun v2 hc t2 l2 S2 r2 => ?_) (swaps_no hc)
    obtain rfl := rep_val r1
    have l1' : LeX (addrs μ) ha hb := h0.ad ▸ l1
    have l2' : LeX (addrs μ) hb hc := e02 ▸ l2
    have r0' := ((r0.over l1').over l2')
    rw [← T_ad e03] at r0'
    have hm : (a, κ.mo fs) ∈ l ++ (a, κ.mo fs) :: r := by simp
    obtain ⟨z, kvs, rv, hD⟩ := κ.to (S2.mu _ hm) nd
    have r2' := κ.isk r2
    refine wpAny_setItem_pairs r2' hD (fun h' hD' sb => ?_) (by rw [rv.len]; exact hz)
    have am : a ∈ addrs (l ++ (a, κ.mo fs) :: r) := by simp [addrs]
    have le : Le (hid hc (T E (l ++ (a, κ.mo fs) :: r) hs)) (hid h' (T E (l ++ (a, κ.mo fs) :: r) hs)) := hid_mono (sbX sb) (fun z q => by rw [List.mem_singleton.mp q]; exact List.mem_append_left _ (List.mem_append_right _ am)) fun _ q => q
    have ea : addrs (l ++ (a, κ.mo (putD fs kx d)) :: r) = addrs (l ++ (a, κ.mo fs) :: r) := by simp [addrs]
    have S3 : Sat c f E hs Γ (l ++ (a, κ.mo (putD fs kx d)) :: r) h' := by
      refine S2.step ((sbX sb).mono fun z q => by rw [List.mem_singleton.mp q]; exact am) ea fun p hp => ?_
      rw [T_ad ea]
      have nd2 := (List.nodup_append.mp S2.nd).2.1
      simp only [addrs, List.map_append, List.map_cons] at nd2
      have nd3 := List.nodup_append.mp nd2
      have other : ∀ p : Addr × MO, p ∈ l ++ (a, κ.mo fs) :: r → p.1 ≠ a → MRep (Pr c) (hid h' (T E (l ++ (a, κ.mo fs) :: r) hs)) h' p.1 p.2 := fun p hp ne => (S2.mu p hp).keeps le fun o e => by rw [sb.2 _ ne]; exact e
      rcases List.mem_append.mp hp with hp | hp
      · refine other p (List.mem_append_left _ hp) fun e => nd3.2.2 p.1 (List.mem_map_of_mem hp) a (List.mem_cons_self ..) e
      · rcases List.mem_cons.mp hp with rfl | hp
        · exact κ.of z hD' ((rv.put r0').keeps le)
        · refine other p (List.mem_append_right _ (List.mem_cons_of_mem _ hp)) fun e => (List.nodup_cons.mp nd3.2.1).1 (by rw [← e]; exact List.mem_map_of_mem hp)
    refine k (.nxt Γ _) .next h' _ hp (((l0.trans l1').trans l2').addl.trans ((sbX sb).mono fun z q => ?_)) (fun b q => .inl (by have : b ∈ addrs (l ++ (a, κ.mo (putD fs kx d)) :: r) := q; rwa [ea, e03] at this)) S3
    rw [List.mem_singleton.mp q]
    exact List.mem_append_left _ (by rw [← e03]; exact am)
end
/-- the keys of a dict of ints, in their order -/
theorem f_sorted {a : Addr} {fs : List (Int × D)} (nd : (fs.map (·.1)).Nodup) (hz : fs.length < 64) (hs : (fs.map (·.1)).Pairwise (· ≤ ·)) : Fn c (.builtin "sorted") n [dA a] [(a, .tab fs)] (.lst ((fs.map (·.1)).map dI)) [(a, .tab fs)] :=
  fnMu fun A hs' s vs Q Er R W bel m r q => by
    cases r with
    | cons r0 r =>
      cases r; obtain rfl := rep_val r0
      obtain ⟨z, kvs, rv, hD⟩ := (ktI c).to m nd
      obtain ⟨ep, hat⟩ := hD.dictAt
      have hlen := rv.len
      have hkeys := rv.keys
      refine Calls.call_function_entry kind_sorted plain_sorted entry_sorted (args_sorted1 _) ?_
      unfold Builtin.«sorted»
      refine wpAny_bind (m := checkCount "sorted" 1 1 _) (wpAny_pure ?_)
      refine wpAny_bind (kdu_collect (A := A.in1) (kdl_dict (knd := (ktI c).knd) (kvs := kvs) (ep := ep) z) R.hd hat (by rw [hlen, sizeLine_eq]; omega) fun h' tk acc hk hacc => ?_)
      have hl : acc.toList.length = kvs.length := by rw [Array.length_toList]; exact hacc.1
      refine wpAny_bind (wpAny_newList ?_ (by rw [hl, hlen, sizeLine_eq]; omega))
      have hI : IntsAre acc.toList (kvs.map (·.1)) := by
        have : ∀ (xs : List Value) (ks : List (Int × Value)), xs.length = ks.length → (∀ (j : Nat) (v : Value), xs[j]? = some v → ∃ k x, ks[j]? = some (k, x) ∧ (ktI c).knd.is k v = true) → IntsAre xs (ks.map (·.1)) := by
          intro xs
          induction xs with
          | nil => intro ks e _; cases ks with
            | nil => exact .nil
            | cons => cases e
          | cons v xs ih => intro ks e hh; cases ks with
            | nil => cases e
            | cons kx ks =>
              obtain ⟨k, x, e1, e2⟩ := hh 0 v rfl
              simp only [List.getElem?_cons_zero, Option.some.injEq] at e1
              obtain ⟨t, rfl⟩ := Value.isInt_shape e2
              rw [List.map_cons, e1]
              exact .cons _ _ (ih ks (by simpa using e) fun j v hj => hh (j + 1) v (by simpa using hj))
        exact this _ _ hl fun j v e => hacc.2 j v (by rw [← Array.getElem?_toList]; exact e)
      have hoL : (h'.push (seqObj "list" acc.toList.toArray 0)).get? h'.objs.size = some (seqObj "list" acc.toList.toArray 0) := Heap.get?_push_size _ rfl
      refine wpAny_bind (wpAny_holding (wpAny_call_entry PyProof.Rows.slot_list_sort ⟨_, hoL, rfl⟩ PyProof.Rows.entry_list_sort (list_sort_tree hoL hI (by rw [hl, hlen]; exact hz) fun out ns' a1 a2 a3 => ⟨_, rfl, ?_⟩) (PyProof.Rows.args_list_sort _)))
      refine wpAny_pure ⟨_, rfl, ?_⟩
      have en : ns' = fs.map (·.1) := List.Perm.eq_of_pairwise (fun a b _ _ h1 h2 => Int.le_antisymm h1 h2) a3 hs (by rw [← hkeys]; exact a2)
      generalize hH : (h'.push (seqObj "list" acc.toList.toArray 0)) = H1 at *
      have sz : H1.objs.size = h'.objs.size + 1 := by rw [← hH, size_push']
      have le1 : Le s.heap H1 := hH ▸ fun b o e => Heap.get?_push_of_some _ (hk b o e)
      have keepB : ∀ b o, b ≠ h'.objs.size → H1.get? b = some o → (sortedHeap H1 h'.objs.size acc.toList out).get? b = some o := fun b o nb e => by
        unfold sortedHeap
        have u1 := (Heap.SameBut.update H1 h'.objs.size (Obj.mapSeq fun _ => #[])).2 b nb
        have e1 : (H1.update h'.objs.size (Obj.mapSeq fun _ => #[])).get? b = some o := u1.trans e
        have e2 := Heap.get?_push_of_some (seqObj "list" #[] 0) (Heap.get?_push_of_some (seqObj "tuple" acc.toList.toArray 0) e1)
        exact ((Heap.SameBut.update _ h'.objs.size (Obj.mapSeq fun _ => out)).2 b nb).trans e2
      have new_ : h'.objs.size ∉ a :: hs' := fun mm => by
        obtain ⟨o, e⟩ := bel _ mm
        exact absurd (Heap.lt_size (hk _ _ e)) (Nat.lt_irrefl _)
      have le : Le s.heap (sortedHeap H1 h'.objs.size acc.toList out) := fun b o e => keepB b o (fun q => by have := Heap.lt_size (hk _ _ e); rw [q] at this; exact Nat.lt_irrefl _ this) (le1 b o e)
      have leH := hid_le_of (X := a :: hs') le
      obtain ⟨e9, hl9⟩ : ∃ cap, (sortedHeap H1 h'.objs.size acc.toList out).get? h'.objs.size = some (seqObj "list" out cap) := by
        unfold sortedHeap
        obtain ⟨e1, ho1⟩ : ∃ e1, (H1.update h'.objs.size (Obj.mapSeq fun _ => #[])).get? h'.objs.size = some (seqObj "list" #[] e1) := ⟨_, get?_update_seq hoL (fun _ => #[])⟩
        exact ⟨_, get?_update_seq (Heap.get?_push_of_some (seqObj "list" #[] 0) (Heap.get?_push_of_some (seqObj "tuple" acc.toList.toArray 0) ho1)) fun _ => out⟩
      have rl : ∀ {xs : List Value} {ns : List Int} {H : Heap}, IntsAre xs ns → RepL (Pr c) H (ns.map dI) xs := by
        intro xs ns H hx
        induction hx with
        | nil => exact .nil
        | cons n t h ih => exact .cons rI ih
      refine q _ _ _ le.x leH (m.keeps leH fun o e => le a o e) (.lst (vs := out.toList) ⟨_, hid_get.mpr ⟨hl9, new_⟩, e9, by simp [lob, seqObj]⟩ (en ▸ rl a1))
end
end Mine
namespace Mine
section
variable {c : Cx} {f : Fi} {n : Nat} {Γ Γ' : Ga} {μ μ' μ1 μ2 μ3 μ4 μa μb μr : Mu} {P : Out → Prop}

section
variable {K : Type} [DecidableEq K]
noncomputable def mergeD (fs more : List (K × D)) : List (K × D) := more.foldl (fun acc kv => putD acc kv.1 kv.2) fs
theorem repV_merge {P : Params} {h : Heap} : ∀ {more : List (K × D)} {mv : List (K × Value)} {fs : List (K × D)} {kvs : List (K × Value)}, RepV P h more mv → RepV P h fs kvs → RepV P h (mergeD fs more) (merged kvs mv)
  | _, _, _, _, .nil, r => r
  | _, _, fs, kvs, .cons (k := k) (d := d) (v := v) (fs := more) (kvs := mv) a b, r => by
    show RepV P h (mergeD (putD fs k d) more) (merged (stored kvs k v) mv)
    exact repV_merge b (r.put a)
/-- the pairs of a dict's display -/
structure EvKV (c : Cx) (f : Fi) (n : Nat) (Γ : Ga) (μ : Mu) (κ : KT c K) (ks : List (Option Expr)) (vs : List Expr) (fs : List (K × D)) (μ' : Mu) : Prop where
  ad : addrs μ' = addrs μ
  run : ∀ (A : Around) (E : Env) (hs : List Addr) (s : Shared) (Q : List (Value × Value) → Shared → Prop) (Er : Value → Shared → Prop) (pos : Pos), f.Ok → Room A n → EOk f E → Sat c f E hs Γ μ s.heap →
    (∀ vs kvs h' tk, LeX (addrs μ) s.heap h' → Sat c f E hs Γ μ' h' → Carries κ.knd vs kvs → RepV (Pr c) (hid h' (T E μ hs)) fs kvs → Q vs { s with heap := h', toks := tk }) →
    wpAny (Md c) A (evalPairs (pairTrees ks vs E pos)) Q Er s
theorem EvKV.nil {κ : KT c K} : EvKV c f n Γ μ κ [] [] [] μ := ⟨rfl, fun A E hs s Q Er pos ok R O S k => pairTrees_nil_walk (k [] [] s.heap s.toks (LeX.refl _ _) S trivial .nil)⟩
theorem RepV.over {P : Params} {E : Env} {hs : List Addr} {h h' : Heap} {d : List (K × D)} {v : List (K × Value)} (r : RepV P (hid h (T E μ hs)) d v) (l : LeX (addrs μ) h h') : RepV P (hid h' (T E μ hs)) d v :=
  r.keeps (hid_mono l (fun z m => by simp only [T, List.mem_append]; exact .inl (.inr m)) fun _ m => m)
theorem EvKV.cons {κ : KT c K} {k v : Expr} {ks : List (Option Expr)} {vs : List Expr} {kx : K} {d : D} {fs : List (K × D)} (h1 : Ev c f n Γ μ k (κ.key kx) μ1) (h2 : Ev c f n Γ μ1 v d μ2) (h3 : EvKV c f n Γ μ2 κ ks vs fs μ3) : EvKV c f n Γ μ κ (some k :: ks) (v :: vs) ((kx, d) :: fs) μ3 :=
  ⟨h3.ad.trans (h2.ad.trans h1.ad), fun A E hs s Q Er pos ok R O S kk => pairTrees_cons_walk (h1.run A E hs s _ Er ok R O S fun v1 ha t1 l1 S1 r1 => h2.run A E hs _ _ Er ok R O S1 fun v2 hb t2 l2 S2 r2 => h3.run A E hs _ _ Er pos ok R O S2 fun vs kvs hc t3 l3 S3 cr r3 => by
    have e12 := h2.ad.trans h1.ad
    have l2' : LeX (addrs μ) ha hb := h1.ad ▸ l2
    have l3' : LeX (addrs μ) hb hc := e12 ▸ l3
    rw [T_ad h1.ad] at r2
    rw [T_ad e12] at r3
    exact kk _ ((kx, v2) :: kvs) hc t3 ((l1.trans l2').trans l3') S3 ⟨κ.isk r1, rfl, cr⟩ (.cons (r2.over l3') r3))⟩
theorem EvN.dict {κ : KT c K} {ks : List (Option Expr)} {vs : List Expr} {pos : Pos} {fs : List (K × D)} (h : ∀ a, EvKV c f n Γ ((a, κ.mo []) :: μ) κ ks vs fs ((a, κ.mo []) :: μ1)) (hall : ks.all (·.isSome) = true := by rfl) (hl : ks.length = vs.length := by rfl) (h0 : ks ≠ [] := by simp) (hlen : ks.length ≤ 15 := by decide) (hz : fs.length ≤ sizeLine := by decide) :
    EvN c f n Γ μ (.Dict ks vs pos) (κ.mo (mergeD [] fs)) dA μ1 := by
  have ad1 : addrs μ1 = addrs μ := (List.cons.inj (h 0).ad).2
  refine ⟨ad1, fun A E hs s Q Er ok R O S k => wpAny_Dict_walk (knd := κ.knd) hall hl h0 hlen ?_⟩
  have le := Le.push s.heap { cls := .type "dict", data := .dict #[] }
  have nb : s.heap.get? s.heap.objs.size = none := fresh_none (Nat.le_refl _)
  have sys := not_sys S nb (Nat.le_refl _)
  have D0 := Heap.DictOf.new (knd := κ.knd) s.heap
  obtain ⟨a, ea⟩ : ∃ a, a = s.heap.objs.size := ⟨_, rfl⟩
  rw [← ea] at nb sys D0 ⊢
  have S1 : Sat c f E hs Γ ((a, κ.mo []) :: μ) (s.heap.push { cls := .type "dict", data := .dict #[] }) := S.new le nb (κ.of sys D0 .nil)
  refine (h a).run A E hs { s with heap := s.heap.push { cls := .type "dict", data := .dict #[] } } _ Er pos ok R O S1 fun vs kvs hb t2 l2 S2 cr rv => ?_
  obtain ⟨_, kv0, rv0, D2⟩ := κ.to (S2.mu _ (List.mem_cons_self ..)) List.nodup_nil
  cases rv0
  refine ⟨kvs, cr, D2, fun h' D3 sb => ?_⟩
  have am : a ∈ T E ((a, κ.mo []) :: μ1) hs := (mem_new a).mpr (.inl rfl)
  have le3 : Le (hid hb (T E ((a, κ.mo []) :: μ1) hs)) (hid h' (T E ((a, κ.mo []) :: μ1) hs)) := hid_mono (sbX sb) (fun z q => by rw [List.mem_singleton.mp q]; exact am) fun _ q => q
  have eT : T E ((a, κ.mo []) :: μ) hs = T E ((a, κ.mo []) :: μ1) hs := (T_ad (h a).ad).symm
  rw [eT] at rv
  have mo3 : MRep (Pr c) (hid h' (T E ((a, κ.mo []) :: μ1) hs)) h' a (κ.mo (mergeD [] fs)) := κ.of sys D3 (repV_merge (rv.keeps le3) .nil)
  have S3 : Sat c f E hs Γ ((a, κ.mo (mergeD [] fs)) :: μ1) h' := S2.step ((sbX sb).mono fun z q => by rw [List.mem_singleton.mp q]; exact List.mem_cons_self ..) rfl fun p hp => by
    rcases List.mem_cons.mp hp with rfl | hp
    · exact mo3
    · refine (S2.mu p (List.mem_cons_of_mem _ hp)).keeps le3 fun o e => ?_
      have nm : a ∉ addrs μ1 := (List.nodup_cons.mp (List.nodup_append.mp S2.nd).2.1).1
      rw [sb.2 _ fun q => nm (by have := addrs_mem hp; rwa [q] at this)]
      exact e
  refine k _ a h' _ (fun z o nz e => ?_) nb S3 (.val _)
  have nz2 : z ≠ a := fun q => by rw [q, nb] at e; cases e
  rw [sb.2 z nz2]
  exact l2 z o (fun q => by
    rcases List.mem_cons.mp q with q | q
    · exact nz2 q
    · exact nz q) (Heap.get?_push_of_some _ e)
end

/-- own attributes -/
noncomputable def putF : List (Str × D) → Str → D → List (Str × D)
  | [], k, d => [(k, d)]
  | (x, e) :: r, k, d => if x == k then (x, d) :: r else (x, e) :: putF r k d
theorem isStr_key {x k : Str} {t : Tok} : (Value.str x t).isStr k = (x == k) := rfl
theorem RepE.put {P : Params} {h : Heap} {k : Str} {d : D} {t : Tok} {v : Value} (r : Rep P h d v) : ∀ {fs : List (Str × D)} {es : List DictEntry}, RepE P h fs es → RepE P h (putF fs k d) (putL k (PyData.keyHash P k) (.str k t) v es)
  | _, _, .nil => .cons r .nil
  | _, _, .cons (k := x) (t := tx) a b => by
    unfold putF putL
    dsimp only
    rw [isStr_key]
    split
    · exact .cons r b
    · exact .cons a (b.put r)
theorem RepE.noRef {P : Params} {h : Heap} : ∀ {fs : List (Str × D)} {es : List DictEntry}, RepE P h fs es → es.any (·.refKey) = false
  | _, _, .nil => rfl
  | _, _, .cons a b => by rw [List.any_cons, b.noRef]; rfl
theorem RepE.look {P : Params} {h : Heap} {k : Str} : ∀ {fs : List (Str × D)} {es : List DictEntry}, RepE P h fs es → (getL k es).isSome = true := by
  intro fs es r
  have hr := r.noRef
  unfold getL
  split
  · rfl
  · rw [hr]; rfl
theorem RepE.len {P : Params} {h : Heap} : ∀ {fs : List (Str × D)} {es : List DictEntry}, RepE P h fs es → es.length = fs.length
  | _, _, .nil => rfl
  | _, _, .cons a b => by simp [b.len]
theorem putF_len {k : Str} {d : D} : ∀ {fs : List (Str × D)}, (putF fs k d).length ≤ fs.length + 1
  | [] => Nat.le_refl _
  | (x, e) :: r => by
    unfold putF
    split
    · simp
    · have := putF_len (k := k) (d := d) (fs := r); simp; omega
structure SetOk (K : Frag) (C : Addr) (name : Str) : Prop where
  sa : findIn K (.ref C) "__setattr__" = some (some (.builtin "object.__setattr__"))
  po : plainOver K C = true
  ta : takerIn K C name = some none
  hd : hasDictIn K C = true
theorem set_inst {A : Around} {s : Shared} {H : Heap} {C x dx : Addr} {fs : List (Str × D)} {es : List DictEntry} {n0 : Nat} {v : Value} {name : Str} {Q : Unit → Shared → Prop} {Er : Value → Shared → Prop} (X : c.K.In s.heap) (ok : SetOk c.K C name)
    (h1 : s.heap.get? x = some (instObj C dx)) (h2 : s.heap.get? dx = some (dictOf es n0)) (re : RepE (Pr c) H fs es) (hz : fs.length < 1000)
    (k : ∀ h', h'.get? dx = some (dictOf (putL name (PyData.keyHash c.w.params name) (.str name (s.toks + 1)) v es) (putN name es n0)) → LeX [dx] s.heap h' → Q () { s with heap := h', toks := s.toks + 1 + 1 }) :
    wpAny (Md c) A (setAttr (.ref x) name v) Q Er s := by
  have I : InstAt s.heap x (instObj C dx) C (some (dictOf es n0)) := instAt h1 h2
  refine set_plain X I ok.sa (osa_open (s := { s with toks := s.toks + 1 }) X I ok.po ok.ta fun b => ?_)
  obtain ⟨cd, hc, hd'⟩ := any_some ok.hd
  have D : ({ s with toks := s.toks + 1 } : Shared).heap.get? dx = some (dictOf es n0) := h2
  have hl := re.look (k := name)
  refine wpAny_bind (wpAny_pure (wpAny_bind (wpAny_bind (wpAny_loadPart h1 (wpAny_bind (Looks.here (s := { s with toks := s.toks + 1 }) (looks_clsIn X hc) ?_))))))
  rw [hd']
  refine wpAny_pure (a := some dx) (wpAny_bind (wpAny_pure (wpAny_bind ?_)))
  unfold nsSet
  refine wpAny_bind (wpAny_bind (wpAny_askSetting (wpAny_pure (wpAny_bind (wpAny_mkText (wpAny_bind (wpAny_loadPart D ?_)))))))
  dsimp only
  have cc : (!es.toArray.any (·.key.isStr name) && es.toArray.any (·.refKey)) = false := by
    have : es.toArray.any (fun x => x.refKey) = false := by rw [List.any_toArray]; exact re.noRef
    rw [this, Bool.and_false]
  rw [aRefKeyMayBeTheName_at, cc]
  have D' : (s.heap.update dx (Obj.putName name (PyData.keyHash c.w.params name) (.str name (s.toks + 1)) v)).get? dx = some (dictOf (putL name (PyData.keyHash c.w.params name) (.str name (s.toks + 1)) v es) (putN name es n0)) := by
    rw [← putName_dict]
    refine Heap.get?_update_self _ h2 ?_
    rw [putName_dict]; rfl
  refine wpAny_updatePart D ?_
  have e9 : (putL name (PyData.keyHash c.w.params name) (.str name (s.toks + 1)) v es).length = (putF fs name (.val v)).length := (RepE.put (k := name) (t := s.toks + 1) (v := v) (d := .val v) (.val v) re).len
  have e10 := putF_len (k := name) (d := .val v) (fs := fs)
  refine wpAny_bind (wpAny_lookBehind (s := { s with heap := _, toks := _ }) D' (pastItsLine_dict (by rw [List.size_toArray, sizeLine_eq]; omega)) ?_)
  exact wpAny_pure (k _ D' (sbX (Heap.SameBut.update ..)))
end
end Mine
namespace Mine
section
variable {c : Cx} {f : Fi} {n : Nat} {Γ Γ' : Ga} {μ μ' μ1 μ2 μ3 μ4 μa μb μr : Mu} {P : Out → Prop}

theorem Ex1.setAttr {o e : Expr} {name : Str} {apos pos : Pos} {C dx : Addr} {fs : List (Str × D)} {d : D} (l : Mu) {r : Mu} (h0 : Ev c f n Γ μ e d μ1) (h1 : Ev c f n Γ μ1 o (.obj C dx) (l ++ (dx, .dct fs) :: r)) (ok' : SetOk c.K C name) (hz : fs.length < 1000)
    (hp : P (.nxt Γ (l ++ (dx, .dct (putF fs name d)) :: r))) (hc : noComp e = true := by rfl) : Ex1 c f n Γ μ (.Assign [.Attribute o name apos] e pos) P :=
  fun A E hs s Q Er ok R O S k => by
    have e02 := h1.ad.trans h0.ad
    refine plainObj_wpAny_Assign_Attribute (h0.run A E hs s _ Er ok R O S fun v0 ha t0 l0 S0 r0 => h1.run A E hs _ _ Er ok R O S0 fun v1 hb t1 l1 S1 r1 => ?_) (swaps_no hc)
    have l1' : LeX (addrs μ) ha hb := h0.ad ▸ l1
    have r0' := r0.over l1'
    rw [← T_ad e02] at r0'
    cases r1 with
    | obj hx =>
      rename_i x
      have hm : (dx, MO.dct fs) ∈ l ++ (dx, MO.dct fs) :: r := by simp
      obtain ⟨es, n0, hD, re, sys⟩ := S1.mu _ hm
      refine set_inst (S1.wd.keeps (hid_le _ _)).k ok' (hid_le _ _ _ _ hx) hD re hz fun h' hD' lx => ?_
      have am : dx ∈ addrs (l ++ (dx, .dct fs) :: r) := by simp [addrs]
      have le : Le (hid hb (T E (l ++ (dx, .dct fs) :: r) hs)) (hid h' (T E (l ++ (dx, .dct fs) :: r) hs)) := hid_mono lx (fun z q => by rw [List.mem_singleton.mp q]; exact List.mem_append_left _ (List.mem_append_right _ am)) fun _ q => q
      have ea : addrs (l ++ (dx, .dct (putF fs name d)) :: r) = addrs (l ++ (dx, .dct fs) :: r) := by simp [addrs]
      have S3 : Sat c f E hs Γ (l ++ (dx, .dct (putF fs name d)) :: r) h' := by
        refine S1.step (lx.mono fun z q => by rw [List.mem_singleton.mp q]; exact am) ea fun p hp => ?_
        rw [T_ad ea]
        have nd2 := (List.nodup_append.mp S1.nd).2.1
        simp only [addrs, List.map_append, List.map_cons] at nd2
        have nd3 := List.nodup_append.mp nd2
        have other : ∀ p : Addr × MO, p ∈ l ++ (dx, MO.dct fs) :: r → p.1 ≠ dx → MRep (Pr c) (hid h' (T E (l ++ (dx, .dct fs) :: r) hs)) h' p.1 p.2 := fun p hp ne => (S1.mu p hp).keeps le fun o e => lx _ _ (fun q => ne (List.mem_singleton.mp q)) e
        rcases List.mem_append.mp hp with hp | hp
        · exact other p (List.mem_append_left _ hp) fun e => nd3.2.2 p.1 (List.mem_map_of_mem hp) dx (List.mem_cons_self ..) e
        · rcases List.mem_cons.mp hp with rfl | hp
          · exact ⟨_, _, hD', RepE.put (r0'.keeps le) (re.keeps le), sys⟩
          · exact other p (List.mem_append_right _ (List.mem_cons_of_mem _ hp)) fun e => (List.nodup_cons.mp nd3.2.1).1 (by rw [← e]; exact List.mem_map_of_mem hp)
      refine k (.nxt Γ _) .next h' _ hp ((l0.trans l1').addl.trans (lx.mono fun z q => ?_)) (fun b q => .inl (by have : b ∈ addrs (l ++ (dx, .dct (putF fs name d)) :: r) := q; rwa [ea, e02] at this)) S3
      rw [List.mem_singleton.mp q]
      exact List.mem_append_left _ (by rw [← e02]; exact am)
theorem not_sys' {h : Heap} {X : List Addr} (W : Wd c (hid h X)) {a : Addr} (hsz : h.objs.size ≤ a) : (a == sysModules) = false := by
  obtain ⟨mg, o, _, _, q, _⟩ := W.g
  have h3 := Heap.lt_size (hid_le _ _ _ _ q)
  refine beq_eq_false_iff_ne.mpr fun z => ?_
  subst z
  have h4 : (3 : Nat) < h.objs.size := h3
  have h5 : h.objs.size ≤ (1 : Nat) := hsz
  omega
theorem Room.make {A : Around} {C : Addr} {vs : List Value} {kw : List (Str × Value)} (r : Room A (n + 1)) : Room (A.under (.builtin "type.__call__" ⟨.ref C :: vs, kw⟩)) n := by
  refine ⟨r.hd, ?_, ?_⟩
  · have := r.dp
    rw [depth_under_kw]; omega
  · have := r.un
    show A.units + 1 + 16 * n + 200 < cLine
    omega
theorem FnN.make {C fI : Addr} {ds : List D} {fs : List (Str × D)} (hm : makesIn c.K C = true) (hi : findIn c.K (.ref C) "__init__" = some (some (.ref fI))) (hf : typeIn c.K (.ref fI) = some (.type "function"))
    (h : ∀ dx, FnK c (.ref fI) n (.obj C dx :: ds) [(dx, .dct [])] dN [(dx, .dct fs)]) : FnN c (.ref C) (n + 1) ds (.dct fs) (fun dx => .obj C dx) :=
  ⟨fun A hs s vs Q Er R bel W r k => by
    have X := (W.keeps (hid_le _ _)).k
    obtain ⟨hh, g, dr, t, os⟩ := s
    dsimp only at *
    refine wpAny_call (make_core (makes_of X hm) (looks_findIn X hi) (fun self => bind_fn X self hf) (.inl rfl) ?_)
    have sys := not_sys' W (Nat.le_refl hh.objs.size)
    have nb : hh.get? hh.objs.size = none := fresh_none (Nat.le_refl _)
    have le1 : Le hh (hh.push emptyDict) := Le.push _ _
    have le2 : Le (hh.push emptyDict) ((hh.push emptyDict).push (instObj C hh.objs.size)) := Le.push _ _
    have sz : (hh.push emptyDict).objs.size = hh.objs.size + 1 := Heap.size_push ..
    have g1 : ((hh.push emptyDict).push (instObj C hh.objs.size)).get? hh.objs.size = some (dictOf [] 0) := Heap.get?_push_of_some _ (Heap.get?_push_size _ rfl)
    have g2 : ((hh.push emptyDict).push (instObj C hh.objs.size)).get? (hh.objs.size + 1) = some (instObj C hh.objs.size) := by rw [← sz]; exact Heap.get?_push_size _ rfl
    obtain ⟨dx, edx⟩ : ∃ dx, dx = hh.objs.size := ⟨_, rfl⟩
    rw [← edx] at sys nb g1 g2 ⊢
    generalize hH : (hh.push emptyDict).push (instObj C dx) = H2 at *
    have le : Le hh H2 := by
      have := le1.trans le2
      rw [← edx, hH] at this
      exact this
    have nh : dx ∉ hs := fun q => by obtain ⟨o, e⟩ := bel _ q; rw [nb] at e; cases e
    have nx : (dx + 1 : Addr) ∉ dx :: hs := fun q => by
      rcases List.mem_cons.mp q with q | q
      · exact absurd q (Nat.succ_ne_self dx)
      · obtain ⟨o, e⟩ := bel _ q
        have h1 : (dx + 1 : Nat) < hh.objs.size := Heap.lt_size e
        have h2 : (dx : Nat) = hh.objs.size := edx
        omega
    have leH : Le (hid hh hs) (hid H2 (dx :: hs)) := hid_mono' (Y := []) le.x (fun z q => (List.not_mem_nil q).elim) fun z q => by
      rcases List.mem_cons.mp q with rfl | q
      · exact .inr nb
      · exact .inl q
    refine codeAny_mono ((h dx).run _ hs { heap := H2, gens := g, drawn := dr, toks := t, os := os } (.ref (dx + 1) :: vs) (fun v s' => v = .none ∧ Q (.ref (dx + 1)) s') Er R.make (fun a ha => (bel a ha).imp fun o e => le _ _ e) (List.nodup_cons.mpr ⟨List.not_mem_nil, List.nodup_nil⟩) (fun a ha => by rw [List.mem_singleton.mp ha]; exact nh) (W.keeps leH) (fun p hp => ?_) (.cons ?_ (r.keeps leH)) fun v h' tk lx mu rr => ?_) fun r' s' z => ?_
    · rw [List.mem_singleton.mp hp]
      exact ⟨[], 0, g1, .nil, sys⟩
    · exact .obj (hid_get.mpr ⟨g2, nx⟩)
    · obtain rfl := rep_none rr
      refine ⟨rfl, k _ dx h' tk (fun b o e => lx b o (fun q => by rw [List.mem_singleton.mp q, nb] at e; cases e) (le _ _ e)) nb (mu _ (List.mem_cons_self ..)) (.obj (hid_get.mpr ⟨lx _ _ (fun q => ?_) g2, nx⟩))⟩
      exact nx (List.mem_cons.mpr (.inl (List.mem_singleton.mp q)))
    · rcases r' with e | (v | _ | _ | _) <;> first | exact z | exact z.elim⟩
/-- it turns no more -/
theorem inst_of {C : Addr} {fs : List (Str × D)} : ∀ H a v, MRep (Pr c) H H a (.dct fs) → Rep (Pr c) H (.obj C a) v → Rep (Pr c) H (.inst C fs) v := fun H a v m r => by
  cases r with
  | obj hx =>
    obtain ⟨es, n, e, re, _⟩ := m
    exact .inst hx e re
theorem EvN.inst {e : Expr} {C : Addr} {fs : List (Str × D)} (h : EvN c f n Γ μ e (.dct fs) (fun dx => .obj C dx) μ1) : Ev c f n Γ μ e (.inst C fs) μ1 := h.ev inst_of
theorem Sat.freezeG {E : Env} {hs : List Addr} {h : Heap} {a : Addr} {mo : MO} {d0 d : D} (i : Nat) (S : Sat c f E hs Γ ((a, mo) :: μ) h) (hi : Γ[i]? = some (some d0))
    (hd : ∀ H v, MRep (Pr c) H H a mo → Rep (Pr c) H d0 v → Rep (Pr c) H d v) : Sat c f E hs (Γ.set i (some d)) μ h := by
  have nd := S.nd
  simp only [addrs, List.map_cons] at nd
  have sub : ∀ z ∈ T E μ hs, z ∈ T E ((a, mo) :: μ) hs := fun z q => by simp only [T, addrs, List.map_cons, List.mem_append, List.mem_cons] at q ⊢; grind
  have kk : Le (hid h (T E ((a, mo) :: μ) hs)) (hid h (T E μ hs)) := hid_mono (LeX.refl [] h) (fun z q => (List.not_mem_nil q).elim) sub
  have na : a ∉ T E μ hs := fun q => by
    have h1 : a ∉ hs := S.dis a (by simp [addrs])
    have h2 := List.nodup_append.mp nd
    have h3 := List.nodup_cons.mp h2.2.1
    rcases List.mem_append.mp q with q | q
    · rcases List.mem_append.mp q with q | q
      · exact h2.2.2 a q a (List.mem_cons_self ..) rfl
      · exact h3.1 q
    · exact h1 q
  have hf : MRep (Pr c) (hid h (T E μ hs)) (hid h (T E μ hs)) a mo := by
    have m := S.mu (a, mo) (List.mem_cons_self ..)
    have ag : ∀ o, h.get? a = some o → (hid h (T E μ hs)).get? a = some o := fun o e => hid_get.mpr ⟨e, na⟩
    exact m.keeps kk ag
  have at_ : ∀ (j : Nat) (d' : D), (Γ.set i (some d))[j]? = some (some d') → (j = i ∧ d' = d) ∨ Γ[j]? = some (some d') := fun j d' e => by
    rw [List.getElem?_set] at e
    split at e
    · rename_i q
      split at e
      · exact .inl ⟨q.symm, by simpa using e.symm⟩
      · cases e
    · exact .inr e
  refine ⟨(List.nodup_append.mpr ⟨(List.nodup_append.mp nd).1, (List.nodup_cons.mp (List.nodup_append.mp nd).2.1).2, fun x hx y hy => (List.nodup_append.mp nd).2.2 x hx y (List.mem_cons_of_mem _ hy)⟩), fun x hx => S.dis x (by
    rcases List.mem_append.mp hx with q | q
    · exact List.mem_append_left _ q
    · exact List.mem_append_right _ (List.mem_cons_of_mem _ q)), S.bel, S.wd.keeps kk, ?_, ?_, S.ce, fun p hp => (S.mu p (List.mem_cons_of_mem _ hp)).keeps kk fun o e => e⟩
  · obtain ⟨m, hn, q⟩ := S.ns
    refine ⟨m, hn, fun j x d' hx hj hl => ?_⟩
    rcases at_ j d' hj with ⟨rfl, rfl⟩ | hj
    · obtain ⟨v, hv, r⟩ := q j x _ hx hi hl
      exact ⟨v, hv, hd _ v hf (r.keeps kk)⟩
    · obtain ⟨v, hv, r⟩ := q j x d' hx hj hl
      exact ⟨v, hv, r.keeps kk⟩
  · intro j x d' hx hj hl
    rcases at_ j d' hj with ⟨rfl, rfl⟩ | hj
    · obtain ⟨b, v, hb, hc, r⟩ := S.cl j x _ hx hi hl
      exact ⟨b, v, hb, hc, hd _ v hf (r.keeps kk)⟩
    · obtain ⟨b, v, hb, hc, r⟩ := S.cl j x d' hx hj hl
      exact ⟨b, v, hb, hc, r.keeps kk⟩
theorem Ex.frzO {ss : List Stmt} {C dx : Addr} {fs : List (Str × D)} (i : Nat) (h : Ex c f n (Γ.set i (some (.inst C fs))) μ ss P) (hi : Γ[i]? = some (some (.obj C dx))) : Ex c f n Γ ((dx, .dct fs) :: μ) ss P :=
  h.sub (fun b q => List.mem_cons_of_mem _ q) fun E hs h S => S.freezeG i hi fun H v m r => inst_of H dx v m r
/-- freezing, for a def's own names -/
theorem Ex.frz {ss : List Stmt} {a : Addr} {mo : MO} {d0 d : D} (i : Nat) (h : Ex c f n (Γ.set i (some d)) μ ss P) (hi : Γ[i]? = some (some (dA a))) (hd : ∀ H, MRep (Pr c) H H a mo → Rep (Pr c) H d (.ref a)) : Ex c f n Γ ((a, mo) :: μ) ss P :=
  h.sub (fun b q => List.mem_cons_of_mem _ q) fun E hs h S => S.freeze i hi hd
theorem frz_lst {a : Addr} {l : List D} : ∀ H, MRep (Pr c) H H a (.lst l) → Rep (Pr c) H (.lst l) (.ref a) := fun H ⟨vs, x, y⟩ => .lst x y
theorem frz_dct {a : Addr} {l : List (Str × D)} : ∀ H, MRep (Pr c) H H a (.dct l) → Rep (Pr c) H (.dct l) (.ref a) := fun H ⟨vs, n, x, y, z⟩ => .dct z x y
theorem Ex.drop {ss : List Stmt} {a : Addr} {mo : MO} (h : Ex c f n Γ μ ss P) : Ex c f n Γ ((a, mo) :: μ) ss P := h.sub (fun b q => List.mem_cons_of_mem _ q) fun E hs h S => S.drop
theorem Ex.perm {ss : List Stmt} (h : Ex c f n Γ μ' ss P) (p : μ.Perm μ') : Ex c f n Γ μ ss P := h.sub (fun b q => (p.map (·.1)).mem_iff.mpr q) fun E hs h S => S.perm p
end
end Mine
namespace Mine
section
variable {c : Cx} {f : Fi} {n : Nat} {Γ Γ' : Ga} {μ μ' μ1 μ2 μ3 μ4 μa μb μr : Mu} {P : Out → Prop}
theorem tr_bool {b : Bool} : Tr c (dB b) b := fun A H s v Q Er R le r k => by
  obtain rfl := rep_bool r
  exact wpAny_truthy_bool (k s.toks)
-- tests joined
theorem Ts.and {e : Expr} {es : List Expr} {pos : Pos} {b1 b2 : Bool} (h1 : Ts c f n Γ μ e b1 μ) (h2 : b1 = true → Ts c f n Γ μ (.BoolOp .And es pos) b2 μ) : Ts c f n Γ μ (.BoolOp .And (e :: es) pos) (b1 && b2) μ := by
  cases b1
  · exact .and_f h1
  · exact .and_t h1 (h2 rfl)
theorem Ts.or {e : Expr} {es : List Expr} {pos : Pos} {b1 b2 : Bool} (h1 : Ts c f n Γ μ e b1 μ) (h2 : b1 = false → Ts c f n Γ μ (.BoolOp .Or es pos) b2 μ) : Ts c f n Γ μ (.BoolOp .Or (e :: es) pos) (b1 || b2) μ := by
  cases b1
  · exact .or_f h1 (h2 rfl)
  · exact .or_t h1
theorem Ts.re {e : Expr} {b b' : Bool} (h : Ts c f n Γ μ e b μ1) (q : b = b') : Ts c f n Γ μ e b' μ1 := q ▸ h
theorem Ev.eq {e : Expr} {d d' : D} (h : Ev c f n Γ μ e d μ1) (q : d = d') : Ev c f n Γ μ e d' μ1 := q ▸ h
theorem Bo.and {e e2 : Expr} {es : List Expr} {b1 b2 : Bool} (h1 : Ev c f n Γ μ e (dB b1) μ) (h2 : b1 = true → Bo c f n Γ μ .And (e2 :: es) b2 μ) : Bo c f n Γ μ .And (e :: e2 :: es) (b1 && b2) μ := by
  cases b1
  · exact .stop h1 rfl
  · exact .next h1 rfl (h2 rfl)
theorem Bo.or {e e2 : Expr} {es : List Expr} {b1 b2 : Bool} (h1 : Ev c f n Γ μ e (dB b1) μ) (h2 : b1 = false → Bo c f n Γ μ .Or (e2 :: es) b2 μ) : Bo c f n Γ μ .Or (e :: e2 :: es) (b1 || b2) μ := by
  cases b1
  · exact .next h1 rfl (h2 rfl)
  · exact .stop h1 rfl
theorem Ev.ife {t b o : Expr} {pos : Pos} {d1 d2 : D} {q : Bool} (h1 : Ts c f n Γ μ t q μ1) (ht : q = true → Ev c f n Γ μ1 b d1 μ2) (hf : q = false → Ev c f n Γ μ1 o d2 μ2) : Ev c f n Γ μ (.IfExp t b o pos) (if q then d1 else d2) μ2 := by
  cases q
  · exact .ifexp_f h1 (hf rfl)
  · exact .ifexp_t h1 (ht rfl)
/-- what a frame knows, and less -/
noncomputable def Sub (a b : Ga) : Prop := ∀ (i : Nat) (d : D), a[i]? = some (some d) → b[i]? = some (some d)
theorem Sub.nil {b : Ga} : Sub [] b := fun i d h => by simp at h
theorem Sub.none {a b : Ga} {y : Option D} (h : Sub a b) : Sub (Option.none :: a) (y :: b)
  | 0, d, e => by simp at e
  | i + 1, d, e => by simpa using h i d (by simpa using e)
theorem Sub.some {a b : Ga} {d d' : D} (h : Sub a b) (e : d = d' := by rfl) : Sub (Option.some d :: a) (Option.some d' :: b)
  | 0, x, g => by simpa [e] using g
  | i + 1, x, g => by simpa using h i x (by simpa using g)
theorem Turn.nx {Γ1 : Ga} {μ1 : Mu} (h : Sub Γ1 Γ) (e : μ = μ1 := by rfl) : Turn Γ1 μ1 P (.nxt Γ μ) := ⟨h, e⟩
theorem Ex.thin {ss : List Stmt} (Γ' : Ga) (h : Ex c f n Γ' μ ss P) (s : Sub Γ' Γ) : Ex c f n Γ μ ss P := h.weak s
/-- an item, by default -/
theorem o_itG {l : List D} {k : Int} (h0 : 0 ≤ k) (h1 : k < l.length) (hz : l.length < 2 ^ 63 := by decide) : Pu2 c n getItem (.lst l) (dI k) (l.getD k.toNat dN) :=
  o_itL h0 (by omega) (by rw [List.getD_eq_getElem?_getD, List.getElem?_eq_getElem (by omega)]; rfl)
/-- a name stored: what the frame knows then -/
inductive AsgR (d : D) : List Str → Str → Ga → Ga → Prop
  | here {x : Str} {ks : List Str} {g : Option D} {Γ : Ga} : AsgR d (x :: ks) x (g :: Γ) (some d :: Γ)
  | there {y x : Str} {ks : List Str} {g : Option D} {Γ Γ2 : Ga} : AsgR d ks x Γ Γ2 → AsgR d (y :: ks) x (g :: Γ) (g :: Γ2)
theorem AsgR.ix {d : D} {x : Str} : ∀ {ks : List Str} {Γ Γ2 : Ga}, AsgR d ks x Γ Γ2 → ∃ i : Nat, ks[i]? = some x ∧ Γ2 = Γ.set i (some d)
  | _, _, _, .here => ⟨0, rfl, rfl⟩
  | _, _, _, .there h => let ⟨i, a, b⟩ := h.ix; ⟨i + 1, by simpa using a, by rw [b]; rfl⟩
theorem Ex1.asg {x : Str} {px pos : Pos} {e : Expr} {d : D} {Γ2 : Ga} (h1 : Ev c f n Γ μ e d μ1) (hs : AsgR d f.ks x Γ Γ2) (hp : P (.nxt Γ2 μ1)) (hc : noComp e = true := by rfl) : Ex1 c f n Γ μ (.Assign [.Name x px] e pos) P := by
  obtain ⟨i, a, rfl⟩ := hs.ix
  exact Ex1.assign i h1 hp a hc
theorem Ex1.asgS {x : Str} {px pos : Pos} {e : Expr} {d : D} {Γ2 : Ga} (h1 : Ev c f n Γ μ e d μ1) (hs : AsgR d f.ks x Γ Γ2) (hp : P (.nxt Γ2 μ1)) (hc : ∀ E : Env, E.scope = f.cs → swapsWith e (some (.Name x px)) pos.line E = pure false) : Ex1 c f n Γ μ (.Assign [.Name x px] e pos) P := by
  obtain ⟨i, a, rfl⟩ := hs.ix
  exact Ex1.assignS i h1 hp hc a
theorem Ex1.augR {x : Str} {px pos : Pos} {e : Expr} {op : Operator} {d0 d1 d : D} {Γ2 : Ga} (hd : at_ f.ks Γ x = some d0) (h1 : Ev c f n Γ μ e d1 μ1) (hop : Pu2 c n (inplaceOp op) d0 d1 d) (hs : AsgR d f.ks x Γ Γ2) (hp : P (.nxt Γ2 μ1)) (nd : f.ks.Nodup := by decide) (hb : (x == ("__classdict__" : Str)) = false := by decide) :
    Ex1 c f n Γ μ (.AugAssign (.Name x px) op e pos) P := by
  obtain ⟨i, a, rfl⟩ := hs.ix
  obtain ⟨j, b, g⟩ := at_some hd
  have : j = i := (List.getElem?_inj (by have := List.getElem?_eq_some_iff.mp b; exact this.1) nd).mp (b.trans a.symm)
  subst this
  exact Ex1.aug j g h1 hop hp hb a
theorem Ex1.asgN {x : Str} {px pos : Pos} {e : Expr} {mo : MO} {dd : Addr → D} {Γ2 : Addr → Ga} (h1 : EvN c f n Γ μ e mo dd μ1) (hs : ∀ a, AsgR (dd a) f.ks x Γ (Γ2 a)) (hp : ∀ a, P (.nxt (Γ2 a) ((a, mo) :: μ1))) (nd : f.ks.Nodup := by decide) (hc : noComp e = true := by rfl) : Ex1 c f n Γ μ (.Assign [.Name x px] e pos) P := by
  obtain ⟨i, a, _⟩ := (hs 0).ix
  refine Ex1.assignN i h1 (fun b => ?_) a hc
  obtain ⟨j, a', e'⟩ := (hs b).ix
  have : i = j := (List.getElem?_inj (by have := List.getElem?_eq_some_iff.mp a; exact this.1) nd).mp (a.trans a'.symm)
  subst this
  rw [← e']; exact hp b
theorem Ex.nilT {ss : List Stmt} (h : Ex c f n Γ μ ss P) : Ex c f n Γ μ [] (Then c f n ss P) := Ex.nil h
/-- a comprehension that turns nothing: what it keeps, what it makes of it -/
theorem CompSt.fm {α : Type} {f2 : Fi} {g : Ga} {ifs : List Expr} {elt : Expr} (xs : List α) (di : α → D) (p : α → Bool) (y : α → D) (hz : xs.length ≤ sizeLine)
    (h1 : ∀ x ∈ xs, Ifs c f2 n (some (di x) :: g) μ ifs (p x) μ) (h2 : ∀ x ∈ xs, p x = true → Ev c f2 n (some (di x) :: g) μ elt (y x) μ) : CompSt c f2 n g (xs.map di) ifs elt (fun k => ((xs.take k).filter p).map y) (fun _ => μ) μ := by
  refine ⟨rfl, rfl, fun _ => rfl, fun k _ => ?_, fun k d hd => ?_⟩
  · rw [List.length_map]
    exact Nat.le_trans (List.length_filter_le _ _) (Nat.le_trans (by rw [List.length_take]; omega) hz)
  · rw [List.getElem?_map] at hd
    obtain ⟨x, hx, rfl⟩ := Option.map_eq_some_iff.mp hd
    have hm : x ∈ xs := List.mem_of_getElem? hx
    have et : xs.take (k + 1) = xs.take k ++ [x] := by rw [List.take_add_one, hx]; rfl
    refine ⟨p x, μ, h1 x hm, fun b => ⟨y x, h2 x hm b, ?_⟩, fun b => ⟨rfl, ?_⟩⟩
    · simp only [et, List.filter_append, List.filter_cons, b, if_true, List.filter_nil, List.map_append, List.map_cons, List.map_nil]
    · simp only [et, List.filter_append, List.filter_cons, b, Bool.false_eq_true, if_false, List.filter_nil, List.append_nil]
theorem CompSt.mp {α : Type} {f2 : Fi} {g : Ga} {elt : Expr} (xs : List α) (di : α → D) (y : α → D) (hz : xs.length ≤ sizeLine)
    (h2 : ∀ x ∈ xs, Ev c f2 n (some (di x) :: g) μ elt (y x) μ) : CompSt c f2 n g (xs.map di) [] elt (fun k => (xs.take k).map y) (fun _ => μ) μ := by
  have := CompSt.fm (c := c) (f2 := f2) (n := n) (g := g) (μ := μ) (ifs := []) (elt := elt) xs di (fun _ => true) y hz (fun _ _ => .nil) fun x h _ => h2 x h
  have e : ∀ l : List α, l.filter (fun _ => true) = l := fun l => List.filter_eq_self.mpr fun _ _ => rfl
  simpa only [e] using this
theorem Ev.compF {α : Type} {scope : Scope} {x : Str} {px pos : Pos} {ks : List Str} {g : Ga} {elt iter : Expr} {ifs : List Expr} {d0 : D} {xs : List α} {di y : α → D} {p : α → Bool}
    (h1 : Ev c f n Γ μ iter d0 μ1) (hI : IterD c d0 (xs.map di)) (cap : Cap f.ks Γ ks g) (hz : xs.length ≤ sizeLine) (h2 : ∀ x_ ∈ xs, Ifs c (compFi f scope x ks) n (some (di x_) :: g) μ1 ifs (p x_) μ1) (h3 : ∀ x_ ∈ xs, p x_ = true → Ev c (compFi f scope x ks) n (some (di x_) :: g) μ1 elt (y x_) μ1)
    (hok : compOkb f scope x ks = true := by kernel_rfl) (ok2 : (compFi f scope x ks).Ok := by exact ⟨by kernel_rfl, by decide +kernel, by kernel_rfl, by decide +kernel⟩)
    (hf : ∀ (E : Env) (v : Value), foldedSetIterable iter E v = Pure.pure v := by intro _ _; rfl) : Ev c f n Γ μ (.ListComp elt [⟨.Name x px, iter, ifs, 0⟩] scope pos) (.lst ((xs.filter p).map y)) μ1 := by
  have := Ev.comp (c := c) (pos := pos) (px := px) h1 hI hok ok2 cap (CompSt.fm xs di p y hz h2 h3) hf
  simpa only [List.length_map, List.take_length] using this
theorem Ev.compM {α : Type} {scope : Scope} {x : Str} {px pos : Pos} {ks : List Str} {g : Ga} {elt iter : Expr} {d0 : D} {xs : List α} {di y : α → D}
    (h1 : Ev c f n Γ μ iter d0 μ1) (hI : IterD c d0 (xs.map di)) (cap : Cap f.ks Γ ks g) (hz : xs.length ≤ sizeLine) (h3 : ∀ x_ ∈ xs, Ev c (compFi f scope x ks) n (some (di x_) :: g) μ1 elt (y x_) μ1)
    (hok : compOkb f scope x ks = true := by kernel_rfl) (ok2 : (compFi f scope x ks).Ok := by exact ⟨by kernel_rfl, by decide +kernel, by kernel_rfl, by decide +kernel⟩)
    (hf : ∀ (E : Env) (v : Value), foldedSetIterable iter E v = Pure.pure v := by intro _ _; rfl) : Ev c f n Γ μ (.ListComp elt [⟨.Name x px, iter, [], 0⟩] scope pos) (.lst (xs.map y)) μ1 := by
  have := Ev.comp (c := c) (pos := pos) (px := px) h1 hI hok ok2 cap (CompSt.mp xs di y hz h3) hf
  simpa only [List.length_map, List.take_length] using this
theorem Ex1.asgC {scope : Scope} {x y : Str} {px py pos spos : Pos} {ks : List Str} {g : Ga} {elt iter : Expr} {ifs : List Expr} {d0 : D} {xs : List D} {Rr : Nat → List D} {J : Nat → Mu} {Γ2 : Ga}
    (h1 : Ev c f n Γ μ iter d0 μ1) (hI : IterD c d0 xs) (cap : Cap f.ks Γ ks g) (st : CompSt c (compFi f scope x ks) n g xs ifs elt Rr J μ1) (hs : AsgR (.lst (Rr xs.length)) f.ks y Γ Γ2)
    (hp : P (.nxt Γ2 (J xs.length))) (hsw : ∀ E : Env, E.scope = f.cs → swapsWith (.ListComp elt [⟨.Name x px, iter, ifs, 0⟩] scope pos) (some (.Name y py)) spos.line E = pure true)
    (hok : compOkb f scope x ks = true := by kernel_rfl) (ok2 : (compFi f scope x ks).Ok := by exact ⟨by kernel_rfl, by decide +kernel, by kernel_rfl, by decide +kernel⟩)
    (hf : ∀ (E : Env) (v : Value), foldedSetIterable iter E v = pure v := by intro _ _; rfl) : Ex1 c f n Γ μ (.Assign [.Name y py] (.ListComp elt [⟨.Name x px, iter, ifs, 0⟩] scope pos) spos) P := by
  obtain ⟨i, a, rfl⟩ := hs.ix
  exact Ex1.assignC i h1 hI hok ok2 cap st hp hsw a hf
end
end Mine
namespace Mine
open PySem.SeqAt
theorem tuple_indexAt (l : Addr) (items : Array Value) (n : Nat) (dd : Option Addr) (sl : Array (Option Value)) (x : Value) (e : Value → Bool) (j : Nat) (hj : j < items.size)
    (hit : e items[j] = true) (hno : ∀ m (hm : m < items.size), m < j → e items[m] = false) :
    Meets (Builtin.«tuple.index» ⟨[.ref l, x], []⟩)
      (fun A R s => s.heap.get? l = some { cls := .type "tuple", dict := dd, data := .seq items n, slots := sl } ∧ (∀ y, y ∈ items → EqAt A.in1 s y x (e y)) ∧ R (.ok (.ret (.int j s.toks))) { s with toks := s.toks + 1 }) :=
  .of_wp fun prog w A R s h => by
    obtain ⟨hp, g, d, tk, os⟩ := s; obtain ⟨hl, he, h⟩ := h
    unfold Builtin.«tuple.index»
    simp only [Std.Legacy.Range.forIn_eq_forIn_range']
    have hsz : ([:min items.size items.size] : Std.Legacy.Range).size = items.size := by simp [Std.Legacy.Range.size]
    wp_walk using wpAny_loadPart' hl, wpAny_forIn_list _ (fun rest b s' => b.1 = none ∧ s' = ⟨hp, g, d, tk, os⟩ ∧ ∃ i, i ≤ j ∧ rest = List.range' i (items.size - i)) _
    case turn =>
      rintro z rest b s' ⟨hb, rfl, i, hij, hr⟩
      have hi : i < items.size := by omega
      rw [show items.size - i = (items.size - (i + 1)) + 1 by omega, List.range'_succ] at hr
      injection hr with h1 h2
      subst h1
      rw [Array.getElem?_eq_getElem hi]
      refine wpAny_bind (he _ (Array.getElem_mem hi) prog w _ _ ?_)
      by_cases q : z = j
      · subst q
        rw [hit]
        wp_walk
        exact ⟨_, rfl, by simpa using h⟩
      · rw [hno z hi (by omega)]
        wp_walk
        exact ⟨rfl, rfl, z + 1, by omega, h2⟩
    case fin =>
      rintro b s' ⟨hb, rfl, i, hij, hr⟩
      exfalso
      have := congrArg List.length hr
      simp at this
      omega
    case h => exact ⟨rfl, rfl, 0, Nat.zero_le _, by rw [hsz]; rfl⟩
section
variable {c : Cx} {n : Nat}
theorem f_tindex {l : List D} {xs : List PyData} {d : PyData} {j : Nat} (hl : toDat.toDats l = some xs) (hx : PyData.canLayAll0 xs = true) (hd : d.canLay0 = true) (h1 : d.depth ≤ 1) (hj : j < xs.length) (hit : PyData.eqv xs[j] d = true) (hno : ∀ m (hm : m < xs.length), m < j → PyData.eqv xs[m] d = false) :
    Fn c (.builtin "tuple.index") n [.tup l, .dat d] [] (dI j) [] :=
  fn2 fun A hs s v1 v2 Q Er R bel W r1 r2 k => by
    cases r1 with
    | tup h b =>
      rename_i a vs
      obtain ⟨o, e, cap, rfl⟩ := h
      obtain ⟨as, ra⟩ := readsAll_of (rep_toDats b hl)
      obtain ⟨bs, q2⟩ := rep_reads r2
      have ra' := readsAll_le (hid_le s.heap hs) ra
      have e' := hid_le _ _ _ _ e
      have em := SeqAt.readsAll_map xs vs as hx ra'
      have el : vs.length = xs.length := by rw [← em, List.length_map]
      have ei : ∀ m (hm : m < vs.length), SeqAt.readOf s.heap vs[m] = xs[m]'(el ▸ hm) := fun m hm => by
        have : (vs.map (SeqAt.readOf s.heap))[m]'(by simpa using hm) = xs[m]'(el ▸ hm) := by simp only [em]
        simpa using this
      refine call_meets PySem.F.slot_tuple_index ⟨_, e', rfl⟩ PySem.F.entry_tuple_index (PySem.F.args_tuple_index_2 _ _) (tuple_indexAt a vs.toArray cap none #[] v2 (fun y => PyData.eqv (SeqAt.readOf s.heap y) d) j (by simpa [el] using hj) ?_ ?_) ⟨e', SeqAt.items_eqAt (xs := xs) (by simpa using ra') q2 hx hd (roomIn R h1), ?_⟩
      · simp only [List.getElem_toArray]
        rw [ei j (by omega)]; exact hit
      · intro m hm hmj
        have hm' : m < vs.length := by simpa using hm
        simp only [List.getElem_toArray]
        rw [ei m hm']; exact hno m (by omega) hmj
      · exact k _ s.heap _ (Le.refl _) rI
end
end Mine
open PySem.SeqAt (shaped)
namespace Mine
section
variable {c : Cx} {f : Fi} {n : Nat} {Γ Γ' : Ga} {μ μ' μ1 μ2 μ3 : Mu} {P : Out → Prop}
theorem Ex.lit {ss rest : List Stmt} {st : Stmt} (h : ss = st :: rest) (k : Ex c f n Γ μ (st :: rest) P) : Ex c f n Γ μ ss P := h ▸ k
theorem Ex1.asgM {α : Type} {scope : Scope} {x z : Str} {px pz pos spos : Pos} {ks : List Str} {g : Ga} {elt iter : Expr} {d0 : D} {xs : List α} {di y : α → D} {Γ2 : Ga}
    (h1 : Ev c f n Γ μ iter d0 μ1) (hI : IterD c d0 (xs.map di)) (cap : Cap f.ks Γ ks g) (hz : xs.length ≤ sizeLine) (h3 : ∀ x_ ∈ xs, Ev c (compFi f scope x ks) n (some (di x_) :: g) μ1 elt (y x_) μ1) (hs : AsgR (.lst (xs.map y)) f.ks z Γ Γ2)
    (hp : P (.nxt Γ2 μ1)) (hsw : ∀ E : Env, E.scope = f.cs → swapsWith (.ListComp elt [⟨.Name x px, iter, [], 0⟩] scope pos) (some (.Name z pz)) spos.line E = pure true)
    (hok : compOkb f scope x ks = true := by kernel_rfl) (ok2 : (compFi f scope x ks).Ok := by exact ⟨by kernel_rfl, by decide +kernel, by kernel_rfl, by decide +kernel⟩)
    (hf : ∀ (E : Env) (v : Value), foldedSetIterable iter E v = pure v := by intro _ _; rfl) : Ex1 c f n Γ μ (.Assign [.Name z pz] (.ListComp elt [⟨.Name x px, iter, [], 0⟩] scope pos) spos) P := by
  refine Ex1.asgC (Γ2 := Γ2) h1 hI cap (CompSt.mp xs di y hz h3) ?_ ?_ hsw hok ok2 hf
  · rw [List.length_map, List.take_length]; exact hs
  · exact hp
theorem Ex1.asgF {α : Type} {scope : Scope} {x z : Str} {px pz pos spos : Pos} {ks : List Str} {g : Ga} {elt iter : Expr} {ifs : List Expr} {d0 : D} {xs : List α} {di y : α → D} {p : α → Bool} {Γ2 : Ga}
    (h1 : Ev c f n Γ μ iter d0 μ1) (hI : IterD c d0 (xs.map di)) (cap : Cap f.ks Γ ks g) (hz : xs.length ≤ sizeLine) (h2 : ∀ x_ ∈ xs, Ifs c (compFi f scope x ks) n (some (di x_) :: g) μ1 ifs (p x_) μ1) (h3 : ∀ x_ ∈ xs, p x_ = true → Ev c (compFi f scope x ks) n (some (di x_) :: g) μ1 elt (y x_) μ1) (hs : AsgR (.lst ((xs.filter p).map y)) f.ks z Γ Γ2)
    (hp : P (.nxt Γ2 μ1)) (hsw : ∀ E : Env, E.scope = f.cs → swapsWith (.ListComp elt [⟨.Name x px, iter, ifs, 0⟩] scope pos) (some (.Name z pz)) spos.line E = pure true)
    (hok : compOkb f scope x ks = true := by kernel_rfl) (ok2 : (compFi f scope x ks).Ok := by exact ⟨by kernel_rfl, by decide +kernel, by kernel_rfl, by decide +kernel⟩)
    (hf : ∀ (E : Env) (v : Value), foldedSetIterable iter E v = pure v := by intro _ _; rfl) : Ex1 c f n Γ μ (.Assign [.Name z pz] (.ListComp elt [⟨.Name x px, iter, ifs, 0⟩] scope pos) spos) P := by
  refine Ex1.asgC (Γ2 := Γ2) h1 hI cap (CompSt.fm xs di p y hz h2 h3) ?_ ?_ hsw hok ok2 hf
  · rw [List.length_map, List.take_length]; exact hs
  · exact hp
theorem Cal.b0 {fv : Value} {ds : List D} {d : D} (hf : Fn c fv n ds [] d []) : Cal c f n Γ fv ds μ d μ := Cal.of0 hf (Nat.le_refl _)
theorem Cal.b1 {fv : Value} {ds : List D} {d : D} {a : Addr} {mo mo' : MO} (l : Mu) {r : Mu} (hf : Fn c fv n ds [(a, mo)] d [(a, mo')]) : Cal c f n Γ fv ds (l ++ (a, mo) :: r) d (l ++ (a, mo') :: r) := Cal.at1 l hf (Nat.le_refl _)
theorem Cal.b1h {fv : Value} {ds : List D} {d : D} {a : Addr} {mo mo' : MO} {r : Mu} (hf : Fn c fv n ds [(a, mo)] d [(a, mo')]) : Cal c f n Γ fv ds ((a, mo) :: r) d ((a, mo') :: r) := Cal.b1 [] hf
theorem Cal.h1 {fv : Value} {m : Nat} {ds : List D} {d : D} {a : Addr} {mo mo' : MO} {r : Mu} (hf : Fn c fv m ds [(a, mo)] d [(a, mo')]) (hm : m ≤ n := by decide) : Cal c f n Γ fv ds ((a, mo) :: r) d ((a, mo') :: r) := Cal.at1 [] hf hm
theorem x_eqI {d1 d2 : D} {a b : Int} (h1 : d1 = dI a) (h2 : d2 = dI b) : Pu2 c n (compareOp .Eq) d1 d2 (dB (a == b)) := by subst h1 h2; exact o_eqI
theorem x_neI {d1 d2 : D} {a b : Int} (h1 : d1 = dI a) (h2 : d2 = dI b) : Pu2 c n (compareOp .NotEq) d1 d2 (dB (a != b)) := by subst h1 h2; exact o_neI
theorem x_ltI {d1 d2 : D} {a b : Int} (h1 : d1 = dI a) (h2 : d2 = dI b) : Pu2 c n (compareOp .Lt) d1 d2 (dB (decide (a < b))) := by subst h1 h2; exact o_ltI
theorem x_leI {d1 d2 : D} {a b : Int} (h1 : d1 = dI a) (h2 : d2 = dI b) : Pu2 c n (compareOp .LtE) d1 d2 (dB (decide (a ≤ b))) := by subst h1 h2; exact o_leI
theorem x_gtI {d1 d2 : D} {a b : Int} (h1 : d1 = dI a) (h2 : d2 = dI b) : Pu2 c n (compareOp .Gt) d1 d2 (dB (decide (b < a))) := by subst h1 h2; exact o_gtI
theorem x_geI {d1 d2 : D} {a b : Int} (h1 : d1 = dI a) (h2 : d2 = dI b) : Pu2 c n (compareOp .GtE) d1 d2 (dB (decide (b ≤ a))) := by subst h1 h2; exact o_geI
theorem x_eqS {d1 d2 : D} {a b : Str} (h1 : d1 = dS a) (h2 : d2 = dS b) : Pu2 c n (compareOp .Eq) d1 d2 (dB (a == b)) := by subst h1 h2; exact o_eqS
theorem x_neS {d1 d2 : D} {a b : Str} (h1 : d1 = dS a) (h2 : d2 = dS b) : Pu2 c n (compareOp .NotEq) d1 d2 (dB (a != b)) := by subst h1 h2; exact o_neS
theorem x_addI {d1 d2 : D} {a b : Int} (h1 : d1 = dI a) (h2 : d2 = dI b) : Pu2 c n (binaryOp .Add) d1 d2 (dI (a + b)) := by subst h1 h2; exact o_addI
theorem x_subI {d1 d2 : D} {a b : Int} (h1 : d1 = dI a) (h2 : d2 = dI b) : Pu2 c n (binaryOp .Sub) d1 d2 (dI (a - b)) := by subst h1 h2; exact o_subI
theorem x_iaddI {d1 d2 : D} {a b : Int} (h1 : d1 = dI a) (h2 : d2 = dI b) : Pu2 c n (inplaceOp .Add) d1 d2 (dI (a + b)) := by subst h1 h2; exact o_iaddI
theorem x_isubI {d1 d2 : D} {a b : Int} (h1 : d1 = dI a) (h2 : d2 = dI b) : Pu2 c n (inplaceOp .Sub) d1 d2 (dI (a - b)) := by subst h1 h2; exact o_isubI
theorem x_modI {d1 d2 : D} {a b : Int} (h1 : d1 = dI a) (h2 : d2 = dI b) (hb : b ≠ 0) : Pu2 c n (binaryOp .Mod) d1 d2 (dI (a.fmod b)) := by subst h1 h2; exact o_modI hb
theorem small_div {a b : Int} (h1 : 0 < b) (h2 : b < 2 ^ 300) : Builtin.divisionGoesByPylong a b = false := by
  have e : (if b == 0 then 0 else b.natAbs.log2 / 30 + 1) ≤ 300 := by
    split
    · omega
    · have : b.natAbs.log2 < 300 := (Nat.log2_lt (by omega)).mpr (by omega)
      omega
  unfold Builtin.divisionGoesByPylong
  simp only [Bool.and_eq_false_iff, decide_eq_false_iff_not]
  left
  have e' : (if (b == 0) = true then 0 else b.natAbs.log2 / 30 + 1) ≤ 300 := e
  omega
theorem x_divI {d1 d2 : D} {a b : Int} (h1 : d1 = dI a) (h2 : d2 = dI b) (hb : 0 < b) (hz : b < 2 ^ 300) : Pu2 c n (binaryOp .FloorDiv) d1 d2 (dI (a.fdiv b)) := by subst h1 h2; exact o_divI (by omega) (small_div hb hz)
theorem x_mulI {d1 d2 : D} {a b : Int} (h1 : d1 = dI a) (h2 : d2 = dI b) (h : Builtin.Int.intBits a ≤ 64 ∨ Builtin.Int.intBits b ≤ 64) : Pu2 c n (binaryOp .Mult) d1 d2 (dI (a * b)) := by subst h1 h2; exact o_mulI (h.elim IntMulOk.of_left IntMulOk.of_right)
theorem x_powI {d1 d2 : D} {a b : Int} (h1 : d1 = dI a) (h2 : d2 = dI b) (hb : 0 ≤ b) (h : (Builtin.Int.intBits a : Int) * b ≤ 2 ^ 27) : Pu2 c n (binaryOp .Pow) d1 d2 (dI (a ^ b.toNat)) := by subst h1 h2; exact o_powI hb h
theorem len_app {a b : Str} : (a ++ b).length = a.length + b.length := Array.size_append
theorem o_addT {a b : Str} (h1 : a.length ≤ 1000) (h2 : b.length ≤ 1000) : Pu2 c n (binaryOp .Add) (dS a) (dS b) (dS (a ++ b)) := o_addS (Nat.le_trans (Nat.add_le_add h1 h2) (by decide))
theorem x_addT {d1 d2 : D} {a b : Str} (e1 : d1 = dS a) (e2 : d2 = dS b) (h1 : a.length ≤ 1000) (h2 : b.length ≤ 1000) : Pu2 c n (binaryOp .Add) d1 d2 (dS (a ++ b)) := by subst e1 e2; exact o_addT h1 h2
theorem o_addLT {a b : List D} (h1 : a.length ≤ 1000) (h2 : b.length ≤ 1000) : Pu2 c n (binaryOp .Add) (.lst a) (.lst b) (.lst (a ++ b)) := o_addL (Nat.le_trans (Nat.add_le_add h1 h2) (by decide))
theorem f_listT {l : List D} (h : l.length ≤ 1000) : Fn c (.type "list") n [.lst l] [] (.lst l) [] := f_list (Nat.le_trans h (by decide))
theorem f_lenT {l : List D} (h : l.length ≤ 1000) : Fn c (.builtin "len") n [.lst l] [] (dI l.length) [] := f_lenL (Nat.lt_of_le_of_lt h (by decide))
theorem f_lenX {x : Str} (h : x.length ≤ 1000) : Fn c (.builtin "len") n [dS x] [] (dI x.length) [] := f_lenS (by omega)
end
noncomputable abbrev It := Option (Nat × Int × Int × Str)
noncomputable abbrev iI (i : Int) : It := some (0, i, 0, "")
noncomputable abbrev iS (s : Str) : It := some (1, 0, 0, s)
noncomputable abbrev iR (n d : Int) : It := some (2, n, d, "")
noncomputable abbrev iP : It → PyData
  | none => .none
  | some (0, i, _, _) => .int i
  | some (1, _, _, s) => .str s
  | some (_, n, d, _) => .tuple [.int n, .int d]
noncomputable abbrev iD (x : It) : D := .dat (iP x)
noncomputable def kn : Nat → Str
  | 0 => "logical"
  | 1 => "integer"
  | 2 => "double"
  | _ => "character"
noncomputable def okR (n d : Int) : Bool := (d == 0 && (n == 0 || n == 1 || n == -1)) || ((d == 1 || d == 2 || d == 4) && decide (-100 ≤ n) && decide (n < 200) && (Int.gcd n d == 1))
/-- an item of its kind -/
noncomputable def okI : Nat → It → Bool
  | _, none => true
  | 0, some (0, i, d, s) => (i == 0 || i == 1) && d == 0 && s == ""
  | 1, some (0, i, d, s) => decide (-15 ≤ i) && decide (i < 25) && d == 0 && s == ""
  | 2, some (2, n, d, s) => okR n d && s == ""
  | 3, some (1, n, d, s) => decide (s.length ≤ 40) && PyData.strOk s && n == 0 && d == 0
  | _, _ => false
/-- the text by which an item is known -/
noncomputable def key : It → Str
  | none => "NA"
  | some (0, i, _, _) => (toString i : String)
  | some (1, _, _, s) => "=" ++ s
  | some (_, n, d, _) => ((toString n : String) : Str) ++ "/" ++ ((toString d : String) : Str)
theorem oi0 {x : It} (h : okI 0 x = true) : x = none ∨ x = iI 0 ∨ x = iI 1 := by
  match x, h with
  | none, _ => exact .inl rfl
  | some (0, i, d, s), h =>
    have h : ((i == 0 || i == 1) && d == 0 && s == "") = true := h
    simp only [Bool.and_eq_true, Bool.or_eq_true, beq_iff_eq] at h
    obtain ⟨⟨rfl | rfl, rfl⟩, rfl⟩ := h
    · exact .inr (.inl rfl)
    · exact .inr (.inr rfl)
  | some (1, i, d, s), h => exact absurd h Bool.false_ne_true
  | some (2, i, d, s), h => exact absurd h Bool.false_ne_true
  | some (_ + 3, i, d, s), h => exact absurd h Bool.false_ne_true
theorem oi1 {x : It} (h : okI 1 x = true) : x = none ∨ ∃ i : Int, x = iI i ∧ -15 ≤ i ∧ i < 25 := by
  match x, h with
  | none, _ => exact .inl rfl
  | some (0, i, d, s), h =>
    have h : (decide (-15 ≤ i) && decide (i < 25) && d == 0 && s == "") = true := h
    simp only [Bool.and_eq_true, beq_iff_eq, decide_eq_true_eq] at h
    obtain ⟨⟨⟨h1, h2⟩, rfl⟩, rfl⟩ := h
    exact .inr ⟨i, rfl, h1, h2⟩
  | some (1, i, d, s), h => exact absurd h Bool.false_ne_true
  | some (2, i, d, s), h => exact absurd h Bool.false_ne_true
  | some (_ + 3, i, d, s), h => exact absurd h Bool.false_ne_true
theorem oi2 {x : It} (h : okI 2 x = true) : x = none ∨ ∃ n d : Int, x = iR n d ∧ okR n d = true := by
  match x, h with
  | none, _ => exact .inl rfl
  | some (2, n, d, s), h =>
    have h : (okR n d && s == "") = true := h
    simp only [Bool.and_eq_true, beq_iff_eq] at h
    obtain ⟨h1, rfl⟩ := h
    exact .inr ⟨n, d, rfl, h1⟩
  | some (0, i, d, s), h => exact absurd h Bool.false_ne_true
  | some (1, i, d, s), h => exact absurd h Bool.false_ne_true
  | some (_ + 3, i, d, s), h => exact absurd h Bool.false_ne_true
theorem oi3 {x : It} (h : okI 3 x = true) : x = none ∨ ∃ s : Str, x = iS s ∧ s.length ≤ 40 ∧ PyData.strOk s = true := by
  match x, h with
  | none, _ => exact .inl rfl
  | some (1, n, d, s), h =>
    have h : (decide (s.length ≤ 40) && PyData.strOk s && n == 0 && d == 0) = true := h
    simp only [Bool.and_eq_true, beq_iff_eq, decide_eq_true_eq] at h
    obtain ⟨⟨⟨h1, h2⟩, rfl⟩, rfl⟩ := h
    exact .inr ⟨s, rfl, h1, h2⟩
  | some (0, i, d, s), h => exact absurd h Bool.false_ne_true
  | some (2, i, d, s), h => exact absurd h Bool.false_ne_true
  | some (_ + 3, i, d, s), h => exact absurd h Bool.false_ne_true
theorem okR_b {n d : Int} (h : okR n d = true) : -100 ≤ n ∧ n < 200 ∧ 0 ≤ d ∧ d ≤ 4 := by
  simp only [okR, Bool.or_eq_true, Bool.and_eq_true, beq_iff_eq, decide_eq_true_eq] at h
  omega
theorem small_log {a : Int} (h1 : -1000 ≤ a) (h2 : a ≤ 1000) : a.natAbs.log2 < 1920 := by
  have h : a.natAbs < 2 ^ 1920 := Nat.lt_of_lt_of_le (show a.natAbs < 2 ^ 10 by omega) (Nat.pow_le_pow_right (by decide) (by decide))
  by_cases q : a.natAbs = 0
  · rw [q]; decide
  · exact (Nat.log2_lt q).mpr h

-- items as data
theorem idx_min {α : Type} [BEq α] [LawfulBEq α] {xs : List α} {x : α} {m : Nat} (h : m < xs.idxOf x) : ∀ hm : m < xs.length, xs[m] ≠ x := fun hm => by
  have := List.not_of_lt_findIdx (p := (· == x)) (xs := xs) h
  simpa using this
noncomputable def sOk : It → Bool
  | none => true
  | some (0, i, d, s) => d == 0 && s == ""
  | some (1, n, d, s) => PyData.strOk s && n == 0 && d == 0
  | some (2, n, d, s) => s == ""
  | _ => false
theorem sOk_c {x : It} (h : sOk x = true) : x = none ∨ (∃ i, x = iI i) ∨ (∃ s, x = iS s ∧ PyData.strOk s = true) ∨ ∃ n d, x = iR n d := by
  match x, h with
  | none, _ => exact .inl rfl
  | some (0, i, d, s), h =>
    have h : (d == 0 && s == "") = true := h
    simp only [Bool.and_eq_true, beq_iff_eq] at h
    obtain ⟨rfl, rfl⟩ := h
    exact .inr (.inl ⟨i, rfl⟩)
  | some (1, n, d, s), h =>
    have h1 : (PyData.strOk s && n == 0 && d == 0) = true := h
    simp only [Bool.and_eq_true, beq_iff_eq] at h1
    obtain ⟨⟨h1, rfl⟩, rfl⟩ := h1
    exact .inr (.inr (.inl ⟨s, rfl, h1⟩))
  | some (2, n, d, s), h =>
    have h : s = "" := beq_iff_eq.mp h
    subst h
    exact .inr (.inr (.inr ⟨n, d, rfl⟩))
theorem sOk_s {x : Str} (h : PyData.strOk x = true) : sOk (iS x) = true := by
  show (PyData.strOk x && (0 : Int) == 0 && (0 : Int) == 0) = true
  rw [h]; rfl
theorem sOk_of {k : Nat} {x : It} (hk : k < 4) (h : okI k x = true) : sOk x = true := by
  match k, hk with
  | 0, _ => rcases oi0 h with rfl | rfl | rfl <;> rfl
  | 1, _ => rcases oi1 h with rfl | ⟨i, rfl, _⟩ <;> rfl
  | 2, _ => rcases oi2 h with rfl | ⟨n, d, rfl, _⟩ <;> rfl
  | 3, _ =>
    rcases oi3 h with rfl | ⟨s, rfl, _, h⟩
    · rfl
    · exact sOk_s h
theorem canLay_iP {x : It} (h : sOk x = true) : (iP x).canLay0 = true := by
  rcases sOk_c h with rfl | ⟨i, rfl⟩ | ⟨s, rfl, h'⟩ | ⟨n, d, rfl⟩
  · rfl
  · rfl
  · exact h'
  · rfl
theorem depth_iP {x : It} : (iP x).depth ≤ 1 := by
  unfold iP; split <;> simp [PyData.depth, PyData.depthAll]
theorem eqv_iP {x y : It} (hx : sOk x = true) (hy : sOk y = true) : PyData.eqv (iP x) (iP y) = decide (x = y) := by
  rcases sOk_c hx with rfl | ⟨i, rfl⟩ | ⟨s, rfl, _⟩ | ⟨n, d, rfl⟩ <;> rcases sOk_c hy with rfl | ⟨j, rfl⟩ | ⟨t, rfl, _⟩ | ⟨m, e, rfl⟩ <;> simp [iP, PyData.eqv, PyData.eqvAll, Bool.beq_eq_decide_eq]
theorem canLays_iP : ∀ {xs : List It}, (∀ x ∈ xs, sOk x = true) → PyData.canLayAll0 (xs.map iP) = true
  | [], _ => by simp [PyData.canLayAll0]
  | x :: xs, h => by
    simp only [List.map_cons, PyData.canLayAll0, Bool.and_eq_true]
    exact ⟨canLay_iP (h x (List.mem_cons_self ..)), canLays_iP fun y m => h y (List.mem_cons_of_mem _ m)⟩
theorem toDats_fm {α : Type} {f : α → D} {g : α → PyData} (h : ∀ x, toDat (f x) = some (g x)) : ∀ xs : List α, toDat.toDats (xs.map f) = some (xs.map g)
  | [] => rfl
  | x :: xs => by simp only [List.map_cons, toDat.toDats, h x, toDats_fm h xs]
theorem toDats_fm' {α : Type} {f : α → D} {g : α → PyData} : ∀ xs : List α, (∀ x ∈ xs, toDat (f x) = some (g x)) → toDat.toDats (xs.map f) = some (xs.map g)
  | [], _ => rfl
  | x :: xs, h => by simp only [List.map_cons, toDat.toDats, h x (List.mem_cons_self ..), toDats_fm' xs fun y m => h y (List.mem_cons_of_mem _ m)]
theorem toDats_iD (xs : List It) : toDat.toDats (xs.map iD) = some (xs.map iP) := toDats_fm (fun _ => rfl) xs
theorem any_iP {x : It} (h : sOk x = true) : ∀ {xs : List It}, (∀ y ∈ xs, sOk y = true) → ((xs.map iP).any fun y => PyData.eqv y (iP x)) = xs.contains x
  | [], _ => rfl
  | y :: ys, hx => by
    have : decide (y = x) = (x == y) := by rw [Bool.beq_eq_decide_eq]; exact decide_eq_decide.mpr ⟨Eq.symm, Eq.symm⟩
    simp only [List.map_cons, List.any_cons, eqv_iP (hx y (List.mem_cons_self ..)) h, List.contains_cons, any_iP h fun z m => hx z (List.mem_cons_of_mem _ m), this]
section
variable {c : Cx} {n : Nat}
theorem o_inI {x : It} {xs : List It} (hx : ∀ y ∈ xs, sOk y = true) (h : sOk x = true) : Pu2 c n (compareOp .In) (iD x) (.lst (xs.map iD)) (dB (xs.contains x)) := by
  have := o_inG (c := c) (n := n) (d := iP x) (d2 := .lst (xs.map iD)) (xs := xs.map iP) (by simp only [toDat, toDats_iD, Option.map_some]) (canLays_iP hx) (canLay_iP h) depth_iP
  rwa [any_iP h hx] at this
theorem o_ninI {x : It} {xs : List It} (hx : ∀ y ∈ xs, sOk y = true) (h : sOk x = true) : Pu2 c n (compareOp .NotIn) (iD x) (.lst (xs.map iD)) (dB (!xs.contains x)) := by
  have := o_ninG (c := c) (n := n) (d := iP x) (d2 := .lst (xs.map iD)) (xs := xs.map iP) (by simp only [toDat, toDats_iD, Option.map_some]) (canLays_iP hx) (canLay_iP h) depth_iP
  rwa [any_iP h hx] at this
theorem count_iP {x : It} (h : sOk x = true) : ∀ {xs : List It}, (∀ y ∈ xs, sOk y = true) → ((xs.map iP).countP fun y => PyData.eqv y (iP x)) = xs.count x
  | [], _ => rfl
  | y :: ys, hx => by
    have : decide (y = x) = (y == x) := by rw [Bool.beq_eq_decide_eq]
    simp only [List.map_cons, List.countP_cons, eqv_iP (hx y (List.mem_cons_self ..)) h, List.count_cons, count_iP h fun z m => hx z (List.mem_cons_of_mem _ m), this]
theorem f_countI {x : It} {xs : List It} (hx : ∀ y ∈ xs, sOk y = true) (h : sOk x = true) : Fn c (.builtin "list.count") n [.lst (xs.map iD), iD x] [] (dI (xs.count x)) [] := by
  have := f_count (c := c) (n := n) (toDats_iD xs) (canLays_iP hx) (canLay_iP h) depth_iP
  rwa [count_iP h hx] at this
theorem f_indexI {x : It} {xs : List It} (hx : ∀ y ∈ xs, sOk y = true) (h : x ∈ xs) (hz : xs.length ≤ 1000) : Fn c (.builtin "list.index") n [.lst (xs.map iD), iD x] [] (dI (xs.idxOf x)) [] := by
  have hj : xs.idxOf x < xs.length := List.idxOf_lt_length_iff.mpr h
  refine f_index (c := c) (n := n) (toDats_iD xs) (canLays_iP hx) (canLay_iP (hx x h)) depth_iP (by simpa using hj) (by omega) ?_ fun m hm hlt => ?_
  · simp only [List.getElem_map]
    rw [eqv_iP (hx _ (List.getElem_mem _)) (hx x h), decide_eq_true_eq]
    exact List.getElem_idxOf hj
  · simp only [List.getElem_map]
    rw [eqv_iP (hx _ (List.getElem_mem _)) (hx x h), decide_eq_false_iff_not]
    intro e
    exact idx_min hlt (by simpa using hm) e
/-- texts -/
noncomputable def strsOf : List D → Option (List Str)
  | [] => some []
  | .dat (.str x) :: r => (strsOf r).map (x :: ·)
  | _ => none
theorem strs_map : ∀ {l : List D} {xs : List Str}, strsOf l = some xs → l = xs.map dS
  | [], xs, h => by simp [strsOf] at h; subst h; rfl
  | .dat (.str x) :: r, xs, h => by
    simp only [strsOf, Option.map_eq_some_iff] at h
    obtain ⟨ys, h, rfl⟩ := h
    rw [strs_map h]; rfl
theorem map_iS {xs : List Str} : xs.map dS = (xs.map fun x => iS x).map iD := by rw [List.map_map]; rfl
theorem contains_iS {x : Str} : ∀ {xs : List Str}, (xs.map fun x => iS x).contains (iS x) = xs.contains x
  | [] => rfl
  | y :: ys => by
    have : (iS x == iS y) = (x == y) := by rw [Bool.beq_eq_decide_eq, Bool.beq_eq_decide_eq]; exact decide_eq_decide.mpr ⟨fun e => by simpa using e, fun e => e ▸ rfl⟩
    simp only [List.map_cons, List.contains_cons, contains_iS, this]
theorem allS {xs : List Str} (h : xs.all PyData.strOk = true) : ∀ y ∈ xs.map fun x => iS x, sOk y = true := by
  intro y hy
  obtain ⟨s, hs, rfl⟩ := List.mem_map.mp hy
  exact sOk_s (List.all_eq_true.mp h s hs)
theorem o_inS {l : List D} {x : Str} {xs : List Str} (e : strsOf l = some xs) (hx : xs.all PyData.strOk = true) (h : PyData.strOk x = true) : Pu2 c n (compareOp .In) (dS x) (.lst l) (dB (xs.contains x)) := by
  have := o_inI (c := c) (n := n) (x := iS x) (allS hx) (sOk_s h)
  rw [contains_iS, ← map_iS, ← strs_map e] at this
  exact this
theorem o_inST {l : List D} {x : Str} {xs : List Str} (e : strsOf l = some xs) (hx : xs.all PyData.strOk = true) (h : PyData.strOk x = true) : Pu2 c n (compareOp .In) (dS x) (.tup l) (dB (xs.contains x)) := by
  have := o_inGT (c := c) (n := n) (d := iP (iS x)) (d2 := .tup l) (xs := (xs.map fun x => iS x).map iP) (by rw [strs_map e, map_iS]; simp only [toDat, toDats_iD, Option.map_some]) (canLays_iP (allS hx)) (canLay_iP (sOk_s h)) depth_iP
  rwa [any_iP (sOk_s h) (allS hx), contains_iS] at this
theorem f_tindexS {l : List D} {x : Str} {xs : List Str} (e : strsOf l = some xs) (hx : xs.all PyData.strOk = true) (h : x ∈ xs) : Fn c (.builtin "tuple.index") n [.tup l, dS x] [] (dI (xs.idxOf x)) [] := by
  have hj : xs.idxOf x < xs.length := List.idxOf_lt_length_iff.mpr h
  refine f_tindex (c := c) (n := n) (d := iP (iS x)) (xs := (xs.map fun x => iS x).map iP) (by rw [strs_map e, map_iS]; exact toDats_iD _) (canLays_iP (allS hx)) (canLay_iP (sOk_s (List.all_eq_true.mp hx x h))) depth_iP (by simpa using hj) ?_ fun m hm hlt => ?_
  · simp only [List.getElem_map]
    rw [eqv_iP (sOk_s (List.all_eq_true.mp hx _ (List.getElem_mem _))) (sOk_s (List.all_eq_true.mp hx x h)), decide_eq_true_eq, List.getElem_idxOf hj]
  · simp only [List.getElem_map]
    rw [eqv_iP (sOk_s (List.all_eq_true.mp hx _ (List.getElem_mem _))) (sOk_s (List.all_eq_true.mp hx x h)), decide_eq_false_iff_not]
    intro e
    have hm' : m < xs.length := by simpa using hm
    have e' : xs[m] = x := by simpa using e
    exact idx_min hlt hm' e'
-- the same on both sides
theorem o_neSame {d1 d2 : D} {a : PyData} (h1 : toDat d1 = some a) (e : d2 = d1) (h : a.canLay0 = true) (hd : a.depth ≤ 64) : Pu2 c n (compareOp .NotEq) d1 d2 (dB false) := by
  subst e
  have hs : shaped a = true := Bool.and_eq_true_iff.mpr ⟨h, decide_eq_true hd⟩
  have := o_neG (c := c) (n := n) h1 h1 hs hs
  rwa [PySem.SeqAt.eqv_refl a h] at this
theorem o_eqSame {d1 d2 : D} {a : PyData} (h1 : toDat d1 = some a) (e : d2 = d1) (h : a.canLay0 = true) (hd : a.depth ≤ 64) : Pu2 c n (compareOp .Eq) d1 d2 (dB true) := by
  subst e
  have hs : shaped a = true := Bool.and_eq_true_iff.mpr ⟨h, decide_eq_true hd⟩
  have := o_eqG (c := c) (n := n) h1 h1 hs hs
  rwa [PySem.SeqAt.eqv_refl a h] at this
end
end Mine
namespace Mine
noncomputable def absI (a : Int) : Int := if a < 0 then -a else a
noncomputable def strI (i : Int) : Str := (toString i : String)
/-- a double's text -/
noncomputable def ntx (n d : Int) : Str :=
  if d == 0 then (if n == 0 then "NaN" else if n == 1 then "Inf" else "-Inf")
  else ((if n < 0 then ("-" : Str) else "") ++ strI ((absI n).fdiv d)) ++ (if d == 1 then ("" : Str) else if d == 2 then ".5" else "." ++ strI (25 * (absI n).fmod 4))
/-- an item's text -/
noncomputable def tx (k : Nat) : It → It
  | none => none
  | some (_, n, d, s) => if k == 0 then iS (if n == 1 then "TRUE" else "FALSE") else if k == 1 then iS (strI n) else iS (ntx n d)
/-- an item in another kind -/
noncomputable def cv (k t : Nat) (x : It) : It :=
  if k == t then x else if t == 3 then tx k x else if t == 2 then x.map fun y => (2, y.2.1, 1, "") else x
theorem fmodb (a : Int) {b : Int} (h : 0 < b) : 0 ≤ a.fmod b ∧ a.fmod b < b := by
  rw [Int.fmod_eq_emod_of_nonneg _ (by omega)]
  exact ⟨Int.emod_nonneg _ (by omega), Int.emod_lt_of_pos _ h⟩
theorem absI_b {n : Int} : 0 ≤ absI n ∧ (absI n = n ∨ absI n = -n) := by unfold absI; split <;> omega
theorem fdivb {a d : Int} (h : 0 ≤ a) (hd : 0 < d) : 0 ≤ a.fdiv d ∧ a.fdiv d ≤ a := by
  rw [Int.fdiv_eq_ediv_of_nonneg _ (by omega)]
  exact ⟨Int.ediv_nonneg h (by omega), Int.ediv_le_self _ h⟩
-- whole numbers' texts
noncomputable def prs (s : Str) : Int := match s.cps.toList with
  | 45 :: r => -(r.foldl (fun (a : Int) (c : Nat) => a * 10 + ((c : Int) - 48)) 0)
  | l => l.foldl (fun (a : Int) (c : Nat) => a * 10 + ((c : Int) - 48)) 0
noncomputable def siOk (i : Int) : Bool := PyData.strOk (strI i) && decide ((strI i).length ≤ 5) && prs (strI i) == i && !((strI i).cps.toList.contains 47) && !(strI i == "NA")
theorem si_all : ((List.range 601).all fun i => siOk ((i : Int) - 300)) = true := by decide +kernel
theorem si {i : Int} (h1 : -300 ≤ i) (h2 : i ≤ 300) : PyData.strOk (strI i) = true ∧ (strI i).length ≤ 5 ∧ prs (strI i) = i ∧ 47 ∉ (strI i).cps.toList ∧ strI i ≠ "NA" := by
  have := List.all_eq_true.mp si_all (i + 300).toNat (List.mem_range.mpr (by omega))
  rw [show (((i + 300).toNat : Int) - 300) = i by omega] at this
  simpa [siOk, and_assoc] using this
theorem len_int {a : Int} (h1 : -300 ≤ a) (h2 : a ≤ 300) : ((toString a : String) : Str).length ≤ 40 := Nat.le_trans (si h1 h2).2.1 (by decide)
theorem strOk_app {a b : Str} (h1 : PyData.strOk a = true) (h2 : PyData.strOk b = true) : PyData.strOk (a ++ b) = true := by
  unfold PyData.strOk at *
  show ((a.cps ++ b.cps).all _) = true
  rw [Array.all_append, h1, h2]; rfl
theorem okR_c {n d : Int} (h : okR n d = true) : (d = 0 ∧ (n = 0 ∨ n = 1 ∨ n = -1)) ∨ ((d = 1 ∨ d = 2 ∨ d = 4) ∧ -100 ≤ n ∧ n < 200) := by
  simp only [okR, Bool.or_eq_true, Bool.and_eq_true, beq_iff_eq, decide_eq_true_eq, or_assoc] at h
  exact h.imp id fun q => ⟨q.1.1.1, q.1.1.2, q.1.2⟩
theorem pairs6 {t k : Nat} (ht : t < 4) (hk : k ≤ t) (e : k ≠ t) : (t = 1 ∧ k = 0) ∨ (t = 2 ∧ k = 0) ∨ (t = 2 ∧ k = 1) ∨ (t = 3 ∧ k = 0) ∨ (t = 3 ∧ k = 1) ∨ (t = 3 ∧ k = 2) := by omega
theorem ntx_ok {n d : Int} (h : okR n d = true) : (ntx n d).length ≤ 40 ∧ PyData.strOk (ntx n d) = true := by
  rcases okR_c h with ⟨rfl, rfl | rfl | rfl⟩ | ⟨hd, h1, h2⟩
  · decide +kernel
  · decide +kernel
  · decide +kernel
  · have hz : (d == 0) = false := by simp; omega
    have ha := absI_b (n := n)
    have hq := fdivb ha.1 (d := d) (by omega)
    have hm := fmodb (absI n) (b := 4) (by decide)
    have s1 := si (i := (absI n).fdiv d) (by omega) (by omega)
    have s2 := si (i := 25 * (absI n).fmod 4) (by omega) (by omega)
    have hs : ((if n < 0 then ("-" : Str) else "").length ≤ 1) ∧ PyData.strOk (if n < 0 then ("-" : Str) else "") = true := by split <;> decide +kernel
    have ht : ((if d == 1 then ("" : Str) else if d == 2 then ".5" else "." ++ strI (25 * (absI n).fmod 4)).length ≤ 10) ∧ PyData.strOk (if d == 1 then ("" : Str) else if d == 2 then ".5" else "." ++ strI (25 * (absI n).fmod 4)) = true := by
      split
      · decide +kernel
      · split
        · decide +kernel
        · refine ⟨?_, strOk_app (by decide +kernel) s2.1⟩
          rw [len_app]
          have : (("." : Str)).length = 1 := by decide +kernel
          omega
    unfold ntx
    rw [hz]
    simp only [Bool.false_eq_true, if_false]
    refine ⟨?_, strOk_app (strOk_app hs.2 s1.1) ht.2⟩
    rw [len_app, len_app]; omega
theorem iI_ok {i : Int} (h1 : -15 ≤ i) (h2 : i < 25) : okI 1 (iI i) = true := by
  show (decide (-15 ≤ i) && decide (i < 25) && (0 : Int) == 0 && ("" : Str) == "") = true
  simp only [h1, h2, decide_true]; rfl
theorem iR_ok {n d : Int} (h : okR n d = true) : okI 2 (iR n d) = true := by
  show (okR n d && ("" : Str) == "") = true
  rw [h]; rfl
theorem iS_ok {s : Str} (h1 : s.length ≤ 40) (h2 : PyData.strOk s = true) : okI 3 (iS s) = true := by
  show (decide (s.length ≤ 40) && PyData.strOk s && (0 : Int) == 0 && (0 : Int) == 0) = true
  simp only [h1, h2, decide_true]; rfl
theorem ok_none (k : Nat) : okI k none = true := by cases k <;> rfl
theorem tx_ok {k : Nat} {x : It} (hk : k < 3) (h : okI k x = true) : okI 3 (tx k x) = true := by
  match k, hk with
  | 0, _ =>
    rcases oi0 h with rfl | rfl | rfl
    · rfl
    · exact iS_ok (by decide +kernel) (by decide +kernel)
    · exact iS_ok (by decide +kernel) (by decide +kernel)
  | 1, _ =>
    rcases oi1 h with rfl | ⟨i, rfl, h1, h2⟩
    · rfl
    · have := si (i := i) (by omega) (by omega)
      exact iS_ok (Nat.le_trans this.2.1 (by decide)) this.1
  | 2, _ =>
    rcases oi2 h with rfl | ⟨n, d, rfl, hr⟩
    · rfl
    · exact iS_ok (ntx_ok hr).1 (ntx_ok hr).2
theorem okR_1 {i : Int} (h1 : -15 ≤ i) (h2 : i < 25) : okR i 1 = true := by
  simp [okR]; omega
theorem cv_ok {a m : Nat} {x : It} (h1 : a ≤ m) (h2 : m < 4) (h : okI a x = true) : okI m (cv a m x) = true := by
  unfold cv
  by_cases e : a = m
  · subst e; rw [if_pos (beq_self_eq_true a)]; exact h
  · rw [if_neg (by simpa using e)]
    by_cases e3 : m = 3
    · subst e3; exact tx_ok (by omega) h
    · rw [if_neg (by simpa using e3)]
      by_cases e2 : m = 2
      · subst e2
        rw [if_pos (beq_self_eq_true 2)]
        have : a = 0 ∨ a = 1 := by omega
        rcases this with rfl | rfl
        · rcases oi0 h with rfl | rfl | rfl
          · rfl
          · decide +kernel
          · decide +kernel
        · rcases oi1 h with rfl | ⟨i, rfl, q1, q2⟩
          · rfl
          · exact iR_ok (okR_1 q1 q2)
      · rw [if_neg (by simpa using e2)]
        have : a = 0 ∧ m = 1 := by omega
        obtain ⟨rfl, rfl⟩ := this
        rcases oi0 h with rfl | rfl | rfl <;> decide +kernel
-- the keys part the items
noncomputable def Inj (k : Nat) : Prop := ∀ x y : It, okI k x = true → okI k y = true → key x = key y → x = y
theorem split47 : ∀ {a b c d : List Nat}, 47 ∉ a → 47 ∉ c → a ++ 47 :: b = c ++ 47 :: d → a = c ∧ b = d
  | [], b, [], d, _, _, h => ⟨rfl, by simpa using h⟩
  | [], b, y :: c, d, _, hc, h => by
    simp only [List.nil_append, List.cons_append, List.cons.injEq] at h
    exact absurd (List.mem_cons.mpr (.inl h.1)) hc
  | x :: a, b, [], d, ha, _, h => by
    simp only [List.nil_append, List.cons_append, List.cons.injEq] at h
    exact absurd (List.mem_cons.mpr (.inl h.1.symm)) ha
  | x :: a, b, y :: c, d, ha, hc, h => by
    simp only [List.cons_append, List.cons.injEq] at h
    obtain ⟨e1, e2⟩ := split47 (fun q => ha (List.mem_cons_of_mem _ q)) (fun q => hc (List.mem_cons_of_mem _ q)) h.2
    exact ⟨by rw [h.1, e1], e2⟩
theorem cps_app (a b : Str) : (a ++ b).cps.toList = a.cps.toList ++ b.cps.toList := by
  show (a.cps ++ b.cps).toList = _
  exact Array.toList_append
theorem str_ext {a b : Str} (h : a.cps.toList = b.cps.toList) : a = b := by
  cases a; cases b
  simp only [Array.toList_inj] at h
  exact congrArg _ h
theorem key_R (n d : Int) : (key (iR n d)).cps.toList = (strI n).cps.toList ++ 47 :: (strI d).cps.toList := by
  show ((strI n ++ "/") ++ strI d).cps.toList = _
  rw [cps_app, cps_app, show (("/" : Str)).cps.toList = [47] by decide +kernel, List.append_assoc]; rfl
theorem key_S (s : Str) : (key (iS s)).cps.toList = 61 :: s.cps.toList := by
  show ("=" ++ s : Str).cps.toList = _
  rw [cps_app, show (("=" : Str)).cps.toList = [61] by decide +kernel]; rfl
theorem key_N : (key none).cps.toList = [78, 65] := by decide +kernel
theorem key_inj (k : Nat) : Inj k := by
  intro x y hx hy e
  match k, hx, hy with
  | 0, hx, hy =>
    rcases oi0 hx with rfl | rfl | rfl <;> rcases oi0 hy with rfl | rfl | rfl <;> first | rfl | (exact absurd e (by decide +kernel))
  | 1, hx, hy =>
    rcases oi1 hx with rfl | ⟨i, rfl, h1, h2⟩ <;> rcases oi1 hy with rfl | ⟨j, rfl, h3, h4⟩
    · rfl
    · exact absurd e.symm (si (i := j) (by omega) (by omega)).2.2.2.2
    · exact absurd e (si (i := i) (by omega) (by omega)).2.2.2.2
    · have e' : strI i = strI j := e
      have a := (si (i := i) (by omega) (by omega)).2.2.1
      have b := (si (i := j) (by omega) (by omega)).2.2.1
      rw [← a, ← b, e']
  | 2, hx, hy =>
    rcases oi2 hx with rfl | ⟨n, d, rfl, h1⟩ <;> rcases oi2 hy with rfl | ⟨m, q, rfl, h2⟩
    · rfl
    · have e' := congrArg (fun s : Str => s.cps.toList) e
      rw [key_N, key_R] at e'
      have : (47 : Nat) ∈ [78, 65] := by rw [e']; simp
      simp at this
    · have e' := congrArg (fun s : Str => s.cps.toList) e
      rw [key_N, key_R] at e'
      have : (47 : Nat) ∈ [78, 65] := by rw [← e']; simp
      simp at this
    · have b1 := okR_b h1
      have b2 := okR_b h2
      have s1 := si (i := n) (by omega) (by omega)
      have s2 := si (i := d) (by omega) (by omega)
      have s3 := si (i := m) (by omega) (by omega)
      have s4 := si (i := q) (by omega) (by omega)
      have e' := congrArg (fun s : Str => s.cps.toList) e
      rw [key_R, key_R] at e'
      obtain ⟨e1, e2⟩ := split47 s1.2.2.2.1 s3.2.2.2.1 e'
      have e1 := str_ext e1
      have e2 := str_ext e2
      have c1 : n = m := by rw [← s1.2.2.1, ← s3.2.2.1, e1]
      have c2 : d = q := by rw [← s2.2.2.1, ← s4.2.2.1, e2]
      rw [c1, c2]
  | 3, hx, hy =>
    rcases oi3 hx with rfl | ⟨s, rfl, _⟩ <;> rcases oi3 hy with rfl | ⟨t, rfl, _⟩
    · rfl
    · have e' := congrArg (fun s : Str => s.cps.toList) e
      rw [key_N, key_S] at e'
      simp at e'
    · have e' := congrArg (fun s : Str => s.cps.toList) e
      rw [key_N, key_S] at e'
      simp at e'
    · have e' := congrArg (fun s : Str => s.cps.toList) e
      rw [key_S, key_S] at e'
      have : s = t := str_ext (by simpa using e')
      rw [this]
  | k + 4, hx, hy =>
    have h : ∀ z : It, okI (k + 4) z = true → z = none := fun z hz => by
      match z, hz with
      | none, _ => rfl
      | some (0, n, d, s), hz => exact absurd hz Bool.false_ne_true
      | some (1, n, d, s), hz => exact absurd hz Bool.false_ne_true
      | some (2, n, d, s), hz => exact absurd hz Bool.false_ne_true
      | some (_ + 3, n, d, s), hz => exact absurd hz Bool.false_ne_true
    rw [h x hx, h y hy]
end Mine
namespace Mine
noncomputable def mxI (a b : Int) : Int := if b > a then b else a
/-- the nearest whole number, a tie to the even one -/
noncomputable def nwI (n d : Int) : Int := if decide (d < 2 * (n - n.fdiv d * d)) || ((2 * (n - n.fdiv d * d) == d) && ((n.fdiv d).fmod 2 == 1)) then n.fdiv d + 1 else n.fdiv d
noncomputable def exA (a d : Int) : Nat := if 100 * d ≤ a then 2 else if 10 * d ≤ a then 1 else 0
noncomputable def exB (a d : Int) : Nat := if a < d then 1 else 0
noncomputable def exI (a d : Int) : Int := (exA a d : Int) - (exB a d : Int)
noncomputable def sgI (a d : Int) : Int := nwI (a * 10 ^ (14 - exI a d).toNat) d
/-- how many zeros a number ends in -/
noncomputable def sz : Nat → Nat → Nat
  | 0, _ => 0
  | f + 1, m => if m % 10 == 0 then sz f (m / 10) + 1 else 0
noncomputable def plD (d : Int) : Int := if d == 1 then 0 else if d == 2 then 1 else 2
noncomputable def nOk (a d : Int) : Bool :=
  ((List.range (exA a d)).all fun k => decide (10 * (d * 10 ^ k) ≤ a)) && !decide (10 * (d * 10 ^ exA a d) ≤ a) &&
  ((List.range (exB a d)).all fun k => decide (a * 10 ^ k < d * 10 ^ exA a d)) && !decide (a * 10 ^ exB a d < d * 10 ^ exA a d) && decide (-2 ≤ exI a d) && decide (exI a d ≤ 4) && (d == 1 || a.emod 2 == 1)
noncomputable def mOk (a d : Int) : Bool :=
  decide ((10 : Int) ^ 14 ≤ sgI a d) && decide (sgI a d < 10 ^ 15) && (((sgI a d).toNat / 10 ^ sz 14 (sgI a d).toNat * 10 ^ sz 14 (sgI a d).toNat == (sgI a d).toNat) && !((sgI a d).toNat / 10 ^ sz 14 (sgI a d).toNat % 10 == 0)) &&
  decide (sz 14 (sgI a d).toNat ≤ 14) && (mxI 0 (mxI ((15 - (sz 14 (sgI a d).toNat : Int)) - 1 - exI a d) 0) == plD d) &&
  decide (mxI (exI a d) 0 + 1 + (if plD d > 0 then plD d + 1 else 0) ≤ (if mxI 1 (15 - (sz 14 (sgI a d).toNat : Int)) > 1 then mxI 1 (15 - (sz 14 (sgI a d).toNat : Int)) + 1 else 1) + 4)
theorem n_all : ((List.range 200).all fun i => [1, 2, 4].all fun d => !(decide (Int.gcd (i : Int) d = 1)) || ((i : Int) == 0) || (nOk i d && mOk i d)) = true := by decide +kernel
theorem n_ok {a d : Int} (h0 : 0 < a) (h1 : a < 200) (hd : d = 1 ∨ d = 2 ∨ d = 4) (hg : Int.gcd a d = 1) : nOk a d = true ∧ mOk a d = true := by
  have := List.all_eq_true.mp n_all a.toNat (List.mem_range.mpr (by omega))
  have := List.all_eq_true.mp this d (by simp; omega)
  rw [show ((a.toNat : Nat) : Int) = a by omega, decide_eq_true hg] at this
  have hz : (a == 0) = false := by simp; omega
  rw [hz] at this
  simpa using this
-- texts of numbers
theorem strI_nat (m : Nat) : (strI (m : Int)).cps.toList = (Nat.toDigits 10 m).map Char.toNat := PySem.W.KIN.signs_num m
theorem digs_zeros {v : Nat} (hv : 0 < v) : ∀ j : Nat, (Nat.toDigits 10 (v * 10 ^ j)).map Char.toNat = (Nat.toDigits 10 v).map Char.toNat ++ List.replicate j 48
  | 0 => by simp
  | j + 1 => by
    have hp : 0 < v * 10 ^ j := Nat.mul_pos hv (Nat.pow_pos (by decide))
    have t := Nat.toDigits_append_toDigits (b := 10) (n := v * 10 ^ j) (d := 0) (by decide) hp (by decide)
    rw [show v * 10 ^ (j + 1) = 10 * (v * 10 ^ j) + 0 by rw [Nat.pow_succ, ← Nat.mul_assoc]; omega, ← t, List.map_append, digs_zeros hv j, List.append_assoc, List.replicate_succ']
    rfl
theorem last_digit {v : Nat} (h : v % 10 ≠ 0) : ∃ A c, (Nat.toDigits 10 v).map Char.toNat = A ++ [c] ∧ c ≠ 48 := by
  have hm : v % 10 < 10 := Nat.mod_lt v (by decide)
  have hc : ∀ d : Nat, d < 10 → d ≠ 0 → (Nat.digitChar d).toNat ≠ 48 := by decide
  by_cases q : v < 10
  · rw [Nat.toDigits_of_lt_base q]
    exact ⟨[], _, rfl, hc v q (by omega)⟩
  · have t : Nat.toDigits 10 (v / 10) ++ Nat.toDigits 10 (v % 10) = Nat.toDigits 10 (10 * (v / 10) + v % 10) := Nat.toDigits_append_toDigits (by decide) (by omega) hm
    rw [Nat.div_add_mod] at t
    rw [← t, List.map_append, Nat.toDigits_of_lt_base hm]
    exact ⟨_, _, rfl, hc _ hm h⟩
theorem strI_len {m k : Nat} (h1 : 10 ^ k ≤ m) (h2 : m < 10 ^ (k + 1)) : (strI (m : Int)).length = k + 1 := by
  have e : (strI (m : Int)).length = (Nat.toDigits 10 m).length := by
    have := congrArg List.length (strI_nat m)
    rw [List.length_map] at this
    exact this
  have a := (Nat.length_toDigits_le_iff (b := 10) (n := m) (k := k + 1) (by decide) (by omega)).mpr h2
  have b : ¬ (Nat.toDigits 10 m).length ≤ k := by
    by_cases hk : k = 0
    · subst hk
      intro q
      have : 0 < (Nat.toDigits 10 m).length := Nat.length_toDigits_pos
      omega
    · intro q
      have := (Nat.length_toDigits_le_iff (b := 10) (n := m) (k := k) (by decide) (by omega)).mp q
      omega
  omega
/-- a text that ends in so many zeros -/
structure Tail (s : Str) (N : Nat) : Prop where
  len : N < s.length
  z : ∀ k, k < N → s.cps.toList[s.length - k - 1]? = some 48
  e : s.length - N ≤ 1 ∨ ∃ c, c ≠ 48 ∧ s.cps.toList[s.length - N - 1]? = some c
theorem tail_of {s : Str} {A : List Nat} {c N : Nat} (h : s.cps.toList = (A ++ [c]) ++ List.replicate N 48) (hc : c ≠ 48) : Tail s N := by
  have hl : s.length = A.length + 1 + N := by
    have : s.length = s.cps.toList.length := rfl
    rw [this, h]; simp; omega
  refine ⟨by omega, fun k hk => ?_, .inr ⟨c, hc, ?_⟩⟩
  · rw [h, List.getElem?_append_right (by simp; omega), List.getElem?_replicate, if_pos (by simp; omega)]
  · rw [h, List.getElem?_append_left (by simp; omega), List.getElem?_append_right (by omega)]
    rw [show s.length - N - 1 - A.length = 0 by omega]; rfl
theorem tail_sg {a d : Int} (h : mOk a d = true) : (strI (sgI a d)).length = 15 ∧ Tail (strI (sgI a d)) (sz 14 (sgI a d).toNat) := by
  simp only [mOk, Bool.and_eq_true, decide_eq_true_eq, beq_iff_eq, Bool.not_eq_true', beq_eq_false_iff_ne, ne_eq] at h
  obtain ⟨⟨⟨⟨⟨h1, h2⟩, h3, h4⟩, h5⟩, h6⟩, h7⟩ := h
  obtain ⟨m, hm⟩ := Int.eq_ofNat_of_zero_le (show 0 ≤ sgI a d by omega)
  have hmt : (sgI a d).toNat = m := by omega
  rw [hmt] at h3 h4 h5 ⊢
  rw [hm] at h1 h2 ⊢
  refine ⟨strI_len (k := 14) (by omega) (by omega), ?_⟩
  generalize hj : sz 14 m = j at *
  generalize hv : m / 10 ^ j = v at *
  obtain ⟨A, c, e1, e2⟩ := last_digit h4
  refine tail_of (A := A) (c := c) ?_ e2
  have h0 : 0 < v := by
    rcases Nat.eq_zero_or_pos v with q | q
    · rw [q] at h4; simp at h4
    · exact q
  rw [strI_nat, ← h3, digs_zeros h0, e1]
-- cuts of texts
theorem sl_to {x : Str} {j : Int} (h0 : 0 ≤ j) (h1 : j ≤ x.length) : (Txt.slice x none (some j)).cps.toList = x.cps.toList.take j.toNat := by
  have := PySem.StrLaws.sliceText_to (x := x) (j := j) ⟨h0, h1⟩
  show (PySem.StrLaws.sliceText x none (some j)).cps.toList = _
  rw [this]; simp
theorem sl_fr {x : Str} {i : Int} (h0 : 0 ≤ i) (h1 : i ≤ x.length) : (Txt.slice x (some i) none).cps.toList = x.cps.toList.drop i.toNat := by
  have := PySem.StrLaws.sliceText_from (x := x) (i := i) ⟨h0, h1⟩
  show (PySem.StrLaws.sliceText x (some i) none).cps.toList = _
  rw [this]
  show (x.cps.toList.drop i.toNat).take _ = _
  rw [List.take_of_length_le]
  rw [List.length_drop]; omega
theorem sl_to_len {x : Str} {j : Int} (h0 : 0 ≤ j) (h1 : j ≤ x.length) : ((Txt.slice x none (some j)).length : Int) = j := by
  have : (Txt.slice x none (some j)).length = (Txt.slice x none (some j)).cps.toList.length := rfl
  rw [this, sl_to h0 h1, List.length_take]
  have : x.length = x.cps.toList.length := rfl
  omega
-- the fixed form
noncomputable def fxI (a d p : Int) : Int := nwI (a * 10 ^ p.toNat) d
noncomputable def fxT0 (a d p : Int) : Str := Txt.rjustF (strI (fxI a d p)) (p + 1) 48
noncomputable def fxT1 (a d p : Int) : Str := if p > 0 then (Txt.slice (fxT0 a d p) none (some ((fxT0 a d p).length - p)) ++ ".") ++ Txt.slice (fxT0 a d p) (some ((fxT0 a d p).length - p)) none else fxT0 a d p
noncomputable def ntx1 (a d : Int) : Str := strI (a.fdiv d) ++ (if d == 1 then ("" : Str) else if d == 2 then ".5" else "." ++ strI (25 * a.fmod 4))
noncomputable def fOk0 (a : Int) : Bool := decide (0 ≤ fxI a 1 0) && decide (fxI a 1 0 < 1000) && ((fxT0 a 1 0).cps.toList == (ntx1 a 1).cps.toList)
noncomputable def fOk (a d p : Int) : Bool := decide (0 ≤ fxI a d p) && decide (fxI a d p < 100000) && decide (p.toNat ≤ (fxT0 a d p).cps.toList.length) && decide ((fxT0 a d p).cps.toList.length ≤ 100) && ((fxT0 a d p).cps.toList.take ((fxT0 a d p).cps.toList.length - p.toNat) ++ 46 :: (fxT0 a d p).cps.toList.drop ((fxT0 a d p).cps.toList.length - p.toNat) == (ntx1 a d).cps.toList)
theorem f_all1 : ((List.range 200).all fun i => fOk0 i) = true := by decide +kernel
theorem f_all2 : ((List.range 100).all fun i => fOk (2 * (i : Int) + 1) 2 1) = true := by decide +kernel
theorem f_all4 : ((List.range 100).all fun i => fOk (2 * (i : Int) + 1) 4 2) = true := by decide +kernel

theorem ntx_sgn {n d : Int} (hd : (d == 0) = false) : ntx n d = (if n < 0 then ("-" : Str) else "") ++ ntx1 (absI n) d := by
  unfold ntx ntx1
  rw [hd]
  show ((if n < 0 then ("-" : Str) else "") ++ strI _) ++ _ = (if n < 0 then ("-" : Str) else "") ++ (strI _ ++ _)
  exact str_ext (by rw [cps_app, cps_app, cps_app, cps_app, List.append_assoc])
theorem odd_of {a : Int} (h0 : 0 < a) (h : a.emod 2 = 1) : a = 2 * (((a - 1) / 2).toNat : Int) + 1 := by
  have q : a % 2 = 1 := h
  omega
theorem fx_ok {a d : Int} (h0 : 0 < a) (h1 : a < 200) (hd : d = 1 ∨ d = 2 ∨ d = 4) (hg : Int.gcd a d = 1) :
    fxT1 a d (plD d) = ntx1 a d ∧ 0 ≤ fxI a d (plD d) ∧ fxI a d (plD d) < 100000 ∧ (plD d : Int) ≤ (fxT0 a d (plD d)).length ∧ (fxT0 a d (plD d)).length ≤ 100 := by
  have hn := (n_ok h0 h1 hd hg).1
  simp only [nOk, Bool.and_eq_true, Bool.or_eq_true, beq_iff_eq] at hn
  have hodd := hn.2
  rcases hd with rfl | rfl | rfl
  · have := List.all_eq_true.mp f_all1 a.toNat (List.mem_range.mpr (by omega))
    rw [show ((a.toNat : Nat) : Int) = a by omega] at this
    simp only [fOk0, Bool.and_eq_true, decide_eq_true_eq, beq_iff_eq] at this
    have e : fxT1 a 1 0 = fxT0 a 1 0 := rfl
    have e2 : fxT0 a 1 0 = ntx1 a 1 := str_ext this.2
    refine ⟨e.trans e2, this.1.1, ?_, ?_, ?_⟩
    · have := this.1.2; show fxI a 1 0 < _; omega
    · show (0 : Int) ≤ _; omega
    · show (fxT0 a 1 0).length ≤ 100
      rw [e2]
      have hs := si (i := a.fdiv 1) (by have := fdivb (a := a) (d := 1) (by omega) (by decide); omega) (by have := fdivb (a := a) (d := 1) (by omega) (by decide); omega)
      unfold ntx1
      rw [len_app]
      have : ((if (1 : Int) == 1 then ("" : Str) else if (1 : Int) == 2 then ".5" else "." ++ strI (25 * a.fmod 4))).length = 0 := rfl
      omega
  · have ho := odd_of h0 (hodd.resolve_left (by decide))
    have := List.all_eq_true.mp f_all2 ((a - 1) / 2).toNat (List.mem_range.mpr (by omega))
    rw [← ho] at this
    simp only [fOk, Bool.and_eq_true, decide_eq_true_eq, beq_iff_eq] at this
    obtain ⟨⟨⟨⟨q1, q2⟩, q3⟩, q4⟩, q5⟩ := this
    have hl : (fxT0 a 2 1).length = (fxT0 a 2 1).cps.toList.length := rfl
    have q3' : 1 ≤ (fxT0 a 2 1).cps.toList.length := q3
    refine ⟨str_ext ?_, q1, q2, by show (1 : Int) ≤ (fxT0 a 2 1).length; omega, q4⟩
    rw [← q5]
    show (((Txt.slice (fxT0 a 2 1) none (some ((fxT0 a 2 1).length - 1)) ++ ".") ++ Txt.slice (fxT0 a 2 1) (some ((fxT0 a 2 1).length - 1)) none)).cps.toList = _
    rw [cps_app, cps_app, sl_to (by omega) (by omega), sl_fr (by omega) (by omega), show (("." : Str)).cps.toList = [46] by decide +kernel, List.append_assoc]
    rw [show (((fxT0 a 2 1).length : Int) - 1).toNat = (fxT0 a 2 1).cps.toList.length - (1 : Int).toNat by rw [hl]; omega]
    rfl
  · have ho := odd_of h0 (hodd.resolve_left (by decide))
    have := List.all_eq_true.mp f_all4 ((a - 1) / 2).toNat (List.mem_range.mpr (by omega))
    rw [← ho] at this
    simp only [fOk, Bool.and_eq_true, decide_eq_true_eq, beq_iff_eq] at this
    obtain ⟨⟨⟨⟨q1, q2⟩, q3⟩, q4⟩, q5⟩ := this
    have hl : (fxT0 a 4 2).length = (fxT0 a 4 2).cps.toList.length := rfl
    have q3' : 2 ≤ (fxT0 a 4 2).cps.toList.length := q3
    refine ⟨str_ext ?_, q1, q2, by show (2 : Int) ≤ (fxT0 a 4 2).length; omega, q4⟩
    rw [← q5]
    show (((Txt.slice (fxT0 a 4 2) none (some ((fxT0 a 4 2).length - 2)) ++ ".") ++ Txt.slice (fxT0 a 4 2) (some ((fxT0 a 4 2).length - 2)) none)).cps.toList = _
    rw [cps_app, cps_app, sl_to (by omega) (by omega), sl_fr (by omega) (by omega), show (("." : Str)).cps.toList = [46] by decide +kernel, List.append_assoc]
    rw [show (((fxT0 a 4 2).length : Int) - 2).toNat = (fxT0 a 4 2).cps.toList.length - (2 : Int).toNat by rw [hl]; omega]
    rfl
theorem bits_small {a : Int} (h : a.natAbs < 2 ^ 60) : Builtin.Int.intBits a ≤ 64 := by
  unfold Builtin.Int.intBits
  split
  · omega
  · rename_i q
    have : a.natAbs.log2 < 60 := (Nat.log2_lt (by simpa using q)).mpr h
    omega
theorem fx_0 : fxT1 0 1 0 = ntx1 0 1 ∧ 0 ≤ fxI 0 1 0 ∧ fxI 0 1 0 < 100000 ∧ ((0 : Int) ≤ (fxT0 0 1 0).length) ∧ (fxT0 0 1 0).length ≤ 100 := by decide +kernel
theorem tail_0 : Tail "000000000000000" 14 := by
  have e : (("000000000000000" : Str)).cps.toList = List.replicate 15 48 := by decide +kernel
  have hl : (("000000000000000" : Str)).length = 15 := by decide +kernel
  refine ⟨by rw [hl]; decide, fun k hk => ?_, .inl (by rw [hl]; decide)⟩
  rw [e, hl, List.getElem?_replicate, if_pos (by omega)]
end Mine
namespace Mine
noncomputable abbrev cx (w : World) : Cx := ⟨pw, w, K0 w.params⟩
noncomputable abbrev fi (i : Nat) (ks : List Str) : Fi := ⟨hS i, ks⟩
noncomputable abbrev fim (i j : Nat) (ks : List Str) : Fi := ⟨mS i j, ks⟩
section
variable {fd : FuncData} {ns : List Str} {dv : List Value} {ds : List D} {s : Shared} {vs : List Value} {c : Cx}
theorem len1 {α : Type} {l : List α} {n : Nat} (e : l.length = n + 1) : ∃ v t, l = v :: t ∧ t.length = n := by
  cases l with
  | nil => cases e
  | cons v t => exact ⟨v, t, rfl, by simpa using e⟩
theorem len2 {α : Type} {l : List α} (e : l.length = 2) : ∃ v u, l = [v, u] := by
  obtain ⟨v, t, h, e1⟩ := len1 e
  obtain ⟨u, t2, h2, e2⟩ := len1 e1
  exact ⟨v, u, by rw [h, h2, List.length_eq_zero_iff.mp e2]⟩
theorem len3 {α : Type} {l : List α} (e : l.length = 3) : ∃ v u x, l = [v, u, x] := by
  obtain ⟨v, t, h, e1⟩ := len1 e
  obtain ⟨u, x, h2⟩ := len2 e1
  exact ⟨v, u, x, by rw [h, h2]⟩
theorem len4 {α : Type} {l : List α} (e : l.length = 4) : ∃ v u x y, l = [v, u, x, y] := by
  obtain ⟨v, t, h, e1⟩ := len1 e
  obtain ⟨u, x, y, h2⟩ := len3 e1
  exact ⟨v, u, x, y, by rw [h, h2]⟩
theorem bind1 (h : ∀ s v, Wd c s.heap → BindsTo s fd ⟨[v], []⟩ (ns.zip ([v] ++ dv))) : ∀ (s : Shared) (vs : List Value), Wd c s.heap → vs.length = 1 → BindsTo s fd ⟨vs, []⟩ (ns.zip (vs ++ dv)) := fun s vs W e => by
  obtain ⟨v, rfl⟩ := List.length_eq_one_iff.mp e; exact h s v W
theorem bind2 (h : ∀ s v u, Wd c s.heap → BindsTo s fd ⟨[v, u], []⟩ (ns.zip ([v, u] ++ dv))) : ∀ (s : Shared) (vs : List Value), Wd c s.heap → vs.length = 2 → BindsTo s fd ⟨vs, []⟩ (ns.zip (vs ++ dv)) := fun s vs W e => by
  obtain ⟨v, u, rfl⟩ := len2 e
  exact h s v u W
theorem bind3 (h : ∀ s v u x, Wd c s.heap → BindsTo s fd ⟨[v, u, x], []⟩ (ns.zip ([v, u, x] ++ dv))) : ∀ (s : Shared) (vs : List Value), Wd c s.heap → vs.length = 3 → BindsTo s fd ⟨vs, []⟩ (ns.zip (vs ++ dv)) := fun s vs W e => by
  obtain ⟨v, u, x, rfl⟩ := len3 e
  exact h s v u x W
theorem bind4 (h : ∀ s v u x y, Wd c s.heap → BindsTo s fd ⟨[v, u, x, y], []⟩ (ns.zip ([v, u, x, y] ++ dv))) : ∀ (s : Shared) (vs : List Value), Wd c s.heap → vs.length = 4 → BindsTo s fd ⟨vs, []⟩ (ns.zip (vs ++ dv)) := fun s vs W e => by
  obtain ⟨v, u, x, y, rfl⟩ := len4 e
  exact h s v u x y W
end
section
variable {c : Cx} {f : Fi} {n : Nat} {Γ : Ga} {μ μ2 μ3 : Mu}
theorem nm {x : Str} {pos : Pos} {d : D} (h : at_ f.ks Γ x = some d) (hb : (x == ("__debug__" : Str) || x == ("__classdict__" : Str)) = false := by decide) : Ev c f n Γ μ (.Name x pos) d μ := Ev.nm h hb
theorem Ev.cg {id : Str} {p pos : Pos} {args : List Expr} {fv : Value} {ds : List D} {d : D} (hv : nsIn c.K mainGlobals id = some (some fv) ∧ keepIn c.K fv = true) (h2 : EvL c f n Γ μ args ds μ2) (hf : Cal c f n Γ fv ds μ2 d μ3)
    (hk : f.cs.names.lookup id = some .globalImplicit := by kernel_rfl) (hb : (id == ("__debug__" : Str)) = false := by decide) : Ev c f n Γ μ (.Call (.Name id p) args [] pos) d μ3 := Ev.callC (Ev.glob hv.1 hk hb) h2 hf (.inl hv.2)
theorem EvN.cg {id : Str} {p pos : Pos} {args : List Expr} {fv : Value} {ds : List D} {m : Nat} {mo : MO} {dd : Addr → D} (hv : nsIn c.K mainGlobals id = some (some fv) ∧ keepIn c.K fv = true) (h2 : EvL c f n Γ μ args ds μ2) (hf : FnN c fv m ds mo dd) (hm : m ≤ n := by decide)
    (hk : f.cs.names.lookup id = some .globalImplicit := by kernel_rfl) (hb : (id == ("__debug__" : Str)) = false := by decide) : EvN c f n Γ μ (.Call (.Name id p) args [] pos) mo dd μ2 := EvN.call (Ev.glob hv.1 hk hb) h2 hf (.inl hv.2) hm
theorem Ev.cb {id : Str} {p pos : Pos} {args : List Expr} {fv : Value} {ds : List D} {d : D} (hv : nsIn c.K mainGlobals id = some Option.none ∧ bootBuiltins id = some fv ∧ id ≠ "__name__" ∧ ((∃ i, fv = .builtin i) ∨ ∃ t, fv = .type t)) (h2 : EvL c f n Γ μ args ds μ2) (hf : Cal c f n Γ fv ds μ2 d μ3)
    (hk : f.cs.names.lookup id = some .globalImplicit := by kernel_rfl) (hb : (id == ("__debug__" : Str)) = false := by decide) : Ev c f n Γ μ (.Call (.Name id p) args [] pos) d μ3 := Ev.callC (Ev.blt hv.1 hv.2.1 hv.2.2.1 hk hb) h2 hf (.inr hv.2.2.2)
theorem Ev.gv {id : Str} {p : Pos} {fv : Value} (hv : nsIn c.K mainGlobals id = some (some fv)) (hk : f.cs.names.lookup id = some .globalImplicit := by kernel_rfl) (hb : (id == ("__debug__" : Str)) = false := by decide) : Ev c f n Γ μ (.Name id p) (.val fv) μ := Ev.glob hv hk hb
end
noncomputable def okB (f : Fi) : Bool := f.cs.kind == .function && decide f.ks.Nodup && kindsOk f && decide (f.cs.names.map (·.1)).Nodup
theorem Fi.Ok.of {f : Fi} (h : okB f = true) : f.Ok := by
  simp only [okB, Bool.and_eq_true, decide_eq_true_eq, beq_iff_eq] at h
  exact ⟨h.1.1.1, h.1.1.2, h.1.2, h.2⟩
noncomputable abbrev Gl (P : Params) (x : Str) (a : Addr) : Prop := nsIn (K0 P) mainGlobals x = some (some (.ref a)) ∧ keepIn (K0 P) (.ref a) = true
noncomputable abbrev Bl (P : Params) (x : Str) (v : Value) : Prop := nsIn (K0 P) mainGlobals x = some none ∧ bootBuiltins x = some v ∧ x ≠ "__name__" ∧ ((∃ i, v = .builtin i) ∨ ∃ t, v = .type t)
noncomputable abbrev En (w : World) (n : Nat) (f : Fi) (Γ : Ga) (μ : Mu) (b : List Stmt) (d : D) (μ' : Mu) : Prop := Ex (cx w) f n Γ μ b (fun o => o = .ret d μ' ∨ ∃ Γ', d = dN ∧ o = .nxt Γ' μ')
section
variable {P : Params} {w : World} {n : Nat} {d0 d1 d2 d3 d : D} {f : Fi} {Γ : Ga} {μ μ' μ2 μ3 : Mu} {p pos : Pos} {args : List Expr} {ds : List D}
noncomputable abbrev F_item_key : Fi := fi 84 ["kind", "item"]
theorem ok_item_key : F_item_key.Ok := .of (by kernel_rfl)
theorem k_item_key : (K0 P).lookup 557 = some (o557 P) := by kernel_rfl
theorem c_item_key : codeIn (K0 P) (.ref 556) "item_key" = true := by kernel_rfl
theorem g_item_key : Gl P "item_key" 557 := ⟨by kernel_rfl, by kernel_rfl⟩
theorem C_item_key (h2 : EvL (cx w) f n Γ μ args ds μ2) (hf : Cal (cx w) f n Γ (.ref 557) ds μ2 d μ3) (hk : f.cs.names.lookup ("item_key" : Str) = some .globalImplicit) : Ev (cx w) f n Γ μ (.Call (.Name "item_key" p) args [] pos) d μ3 := Ev.cg g_item_key h2 hf hk
theorem in_item_key (ad : addrs μ' = addrs μ) (hx : En w n F_item_key [some d0, some d1] μ (sB (nth bd 84)) d μ') : Fn (cx w) (.ref 557) (n + 1) [d0, d1] μ d μ' :=
  Fn.intro (f := F_item_key) (ns := ["kind", "item"]) (rest := []) (dd := []) (dv := []) (k_item_key (P := w.params)) c_item_key rfl ⟨rfl, rfl, rfl, by kernel_rfl, by kernel_rfl⟩ ok_item_key rfl rfl rfl (bind2 fun _ _ _ _ => .of_eq (by rfl)) (fun _ _ => .nil) ad hx
noncomputable abbrev F_is_listed : Fi := fi 40 ["v"]
theorem ok_is_listed : F_is_listed.Ok := .of (by kernel_rfl)
theorem k_is_listed : (K0 P).lookup 564 = some (o564 P) := by kernel_rfl
theorem c_is_listed : codeIn (K0 P) (.ref 563) "is_listed" = true := by kernel_rfl
theorem g_is_listed : Gl P "is_listed" 564 := ⟨by kernel_rfl, by kernel_rfl⟩
theorem C_is_listed (h2 : EvL (cx w) f n Γ μ args ds μ2) (hf : Cal (cx w) f n Γ (.ref 564) ds μ2 d μ3) (hk : f.cs.names.lookup ("is_listed" : Str) = some .globalImplicit) : Ev (cx w) f n Γ μ (.Call (.Name "is_listed" p) args [] pos) d μ3 := Ev.cg g_is_listed h2 hf hk
theorem in_is_listed (ad : addrs μ' = addrs μ) (hx : En w n F_is_listed [some d0] μ (sB (nth bd 85)) d μ') : Fn (cx w) (.ref 564) (n + 1) [d0] μ d μ' :=
  Fn.intro (f := F_is_listed) (ns := ["v"]) (rest := []) (dd := []) (dv := []) (k_is_listed (P := w.params)) c_is_listed rfl ⟨rfl, rfl, rfl, by kernel_rfl, by kernel_rfl⟩ ok_is_listed rfl rfl rfl (bind1 fun _ _ _ => .of_eq (by rfl)) (fun _ _ => .nil) ad hx
noncomputable abbrev F_first_places : Fi := fi 87 ["v", "kept", "found", "place", "first", "known"]
theorem ok_first_places : F_first_places.Ok := .of (by kernel_rfl)
theorem k_first_places : (K0 P).lookup 578 = some (o578 P) := by kernel_rfl
theorem c_first_places : codeIn (K0 P) (.ref 577) "first_places" = true := by kernel_rfl
theorem g_first_places : Gl P "first_places" 578 := ⟨by kernel_rfl, by kernel_rfl⟩
theorem C_first_places (h2 : EvL (cx w) f n Γ μ args ds μ2) (hf : Cal (cx w) f n Γ (.ref 578) ds μ2 d μ3) (hk : f.cs.names.lookup ("first_places" : Str) = some .globalImplicit) : Ev (cx w) f n Γ μ (.Call (.Name "first_places" p) args [] pos) d μ3 := Ev.cg g_first_places h2 hf hk
theorem in_first_places (ad : addrs μ' = addrs μ) (hx : En w n F_first_places [some d0, none, none, none, none, none] μ (sB (nth bd 87)) d μ') : Fn (cx w) (.ref 578) (n + 1) [d0] μ d μ' :=
  Fn.intro (f := F_first_places) (ns := ["v"]) (rest := ["kept", "found", "place", "first", "known"]) (dd := []) (dv := []) (k_first_places (P := w.params)) c_first_places rfl ⟨rfl, rfl, rfl, by kernel_rfl, by kernel_rfl⟩ ok_first_places rfl rfl rfl (bind1 fun _ _ _ => .of_eq (by rfl)) (fun _ _ => .nil) ad hx
noncomputable abbrev F_unique_places : Fi := fi 88 ["v", "firsts"]
theorem ok_unique_places : F_unique_places.Ok := .of (by kernel_rfl)
theorem k_unique_places : (K0 P).lookup 583 = some (o583 P) := by kernel_rfl
theorem c_unique_places : codeIn (K0 P) (.ref 582) "unique_places" = true := by kernel_rfl
theorem g_unique_places : Gl P "unique_places" 583 := ⟨by kernel_rfl, by kernel_rfl⟩
theorem C_unique_places (h2 : EvL (cx w) f n Γ μ args ds μ2) (hf : Cal (cx w) f n Γ (.ref 583) ds μ2 d μ3) (hk : f.cs.names.lookup ("unique_places" : Str) = some .globalImplicit) : Ev (cx w) f n Γ μ (.Call (.Name "unique_places" p) args [] pos) d μ3 := Ev.cg g_unique_places h2 hf hk
theorem in_unique_places (ad : addrs μ' = addrs μ) (hx : En w n F_unique_places [some d0, none] μ (sB (nth bd 88)) d μ') : Fn (cx w) (.ref 583) (n + 1) [d0] μ d μ' :=
  Fn.intro (f := F_unique_places) (ns := ["v"]) (rest := ["firsts"]) (dd := []) (dv := []) (k_unique_places (P := w.params)) c_unique_places rfl ⟨rfl, rfl, rfl, by kernel_rfl, by kernel_rfl⟩ ok_unique_places rfl rfl rfl (bind1 fun _ _ _ => .of_eq (by rfl)) (fun _ _ => .nil) ad hx
noncomputable abbrev F_turned : Fi := fi 89 ["v"]
theorem ok_turned : F_turned.Ok := .of (by kernel_rfl)
theorem k_turned : (K0 P).lookup 590 = some (o590 P) := by kernel_rfl
theorem c_turned : codeIn (K0 P) (.ref 589) "turned" = true := by kernel_rfl
theorem g_turned : Gl P "turned" 590 := ⟨by kernel_rfl, by kernel_rfl⟩
theorem C_turned (h2 : EvL (cx w) f n Γ μ args ds μ2) (hf : Cal (cx w) f n Γ (.ref 590) ds μ2 d μ3) (hk : f.cs.names.lookup ("turned" : Str) = some .globalImplicit) : Ev (cx w) f n Γ μ (.Call (.Name "turned" p) args [] pos) d μ3 := Ev.cg g_turned h2 hf hk
theorem in_turned (ad : addrs μ' = addrs μ) (hx : En w n F_turned [some d0] μ (sB (nth bd 89)) d μ') : Fn (cx w) (.ref 590) (n + 1) [d0] μ d μ' :=
  Fn.intro (f := F_turned) (ns := ["v"]) (rest := []) (dd := []) (dv := []) (k_turned (P := w.params)) c_turned rfl ⟨rfl, rfl, rfl, by kernel_rfl, by kernel_rfl⟩ ok_turned rfl rfl rfl (bind1 fun _ _ _ => .of_eq (by rfl)) (fun _ _ => .nil) ad hx
noncomputable abbrev F_duplicated_flags : Fi := fi 90 ["v", "from_last", "side", "firsts", "flags"]
theorem ok_duplicated_flags : F_duplicated_flags.Ok := .of (by kernel_rfl)
theorem k_duplicated_flags : (K0 P).lookup 596 = some (o596 P) := by kernel_rfl
theorem c_duplicated_flags : codeIn (K0 P) (.ref 595) "duplicated_flags" = true := by kernel_rfl
theorem g_duplicated_flags : Gl P "duplicated_flags" 596 := ⟨by kernel_rfl, by kernel_rfl⟩
theorem C_duplicated_flags (h2 : EvL (cx w) f n Γ μ args ds μ2) (hf : Cal (cx w) f n Γ (.ref 596) ds μ2 d μ3) (hk : f.cs.names.lookup ("duplicated_flags" : Str) = some .globalImplicit) : Ev (cx w) f n Γ μ (.Call (.Name "duplicated_flags" p) args [] pos) d μ3 := Ev.cg g_duplicated_flags h2 hf hk
theorem in_duplicated_flags (ad : addrs μ' = addrs μ) (hx : En w n F_duplicated_flags [some d0, some d1, none, none, none] μ (sB (nth bd 90)) d μ') : Fn (cx w) (.ref 596) (n + 1) [d0, d1] μ d μ' :=
  Fn.intro (f := F_duplicated_flags) (ns := ["v", "from_last"]) (rest := ["side", "firsts", "flags"]) (dd := []) (dv := []) (k_duplicated_flags (P := w.params)) c_duplicated_flags rfl ⟨rfl, rfl, rfl, by kernel_rfl, by kernel_rfl⟩ ok_duplicated_flags rfl rfl rfl (bind2 fun _ _ _ W => binds_K W.k rfl (o := o591 w.params) (by kernel_rfl) rfl rfl rfl) (fun _ _ => .nil) ad hx
theorem in_duplicated_flags_d (ad : addrs μ' = addrs μ) (hx : En w n F_duplicated_flags [some d0, some (dB false), none, none, none] μ (sB (nth bd 90)) d μ') : Fn (cx w) (.ref 596) (n + 1) [d0] μ d μ' :=
  Fn.intro (f := F_duplicated_flags) (ns := ["v", "from_last"]) (rest := ["side", "firsts", "flags"]) (dd := [dB false]) (dv := [.bool false]) (k_duplicated_flags (P := w.params)) c_duplicated_flags rfl ⟨rfl, rfl, rfl, by kernel_rfl, by kernel_rfl⟩ ok_duplicated_flags rfl rfl rfl (bind1 fun _ _ W => binds_K W.k rfl (o := o591 w.params) (by kernel_rfl) rfl rfl rfl) (fun _ _ => .cons rB .nil) ad hx
noncomputable abbrev F_plain : Fi := fi 91 ["v"]
theorem ok_plain : F_plain.Ok := .of (by kernel_rfl)
theorem k_plain : (K0 P).lookup 603 = some (o603 P) := by kernel_rfl
theorem c_plain : codeIn (K0 P) (.ref 602) "plain" = true := by kernel_rfl
theorem g_plain : Gl P "plain" 603 := ⟨by kernel_rfl, by kernel_rfl⟩
theorem C_plain (h2 : EvL (cx w) f n Γ μ args ds μ2) (hf : Cal (cx w) f n Γ (.ref 603) ds μ2 d μ3) (hk : f.cs.names.lookup ("plain" : Str) = some .globalImplicit) : Ev (cx w) f n Γ μ (.Call (.Name "plain" p) args [] pos) d μ3 := Ev.cg g_plain h2 hf hk
theorem in_plain (ad : addrs μ' = addrs μ) (hx : En w n F_plain [some d0] μ (sB (nth bd 91)) d μ') : Fn (cx w) (.ref 603) (n + 1) [d0] μ d μ' :=
  Fn.intro (f := F_plain) (ns := ["v"]) (rest := []) (dd := []) (dv := []) (k_plain (P := w.params)) c_plain rfl ⟨rfl, rfl, rfl, by kernel_rfl, by kernel_rfl⟩ ok_plain rfl rfl rfl (bind1 fun _ _ _ => .of_eq (by rfl)) (fun _ _ => .nil) ad hx
noncomputable abbrev F_both_kinds : Fi := fi 92 ["u", "v", "left", "right", "kind"]
theorem ok_both_kinds : F_both_kinds.Ok := .of (by kernel_rfl)
theorem k_both_kinds : (K0 P).lookup 610 = some (o610 P) := by kernel_rfl
theorem c_both_kinds : codeIn (K0 P) (.ref 609) "both_kinds" = true := by kernel_rfl
theorem g_both_kinds : Gl P "both_kinds" 610 := ⟨by kernel_rfl, by kernel_rfl⟩
theorem C_both_kinds (h2 : EvL (cx w) f n Γ μ args ds μ2) (hf : Cal (cx w) f n Γ (.ref 610) ds μ2 d μ3) (hk : f.cs.names.lookup ("both_kinds" : Str) = some .globalImplicit) : Ev (cx w) f n Γ μ (.Call (.Name "both_kinds" p) args [] pos) d μ3 := Ev.cg g_both_kinds h2 hf hk
theorem in_both_kinds (ad : addrs μ' = addrs μ) (hx : En w n F_both_kinds [some d0, some d1, none, none, none] μ (sB (nth bd 92)) d μ') : Fn (cx w) (.ref 610) (n + 1) [d0, d1] μ d μ' :=
  Fn.intro (f := F_both_kinds) (ns := ["u", "v"]) (rest := ["left", "right", "kind"]) (dd := []) (dv := []) (k_both_kinds (P := w.params)) c_both_kinds rfl ⟨rfl, rfl, rfl, by kernel_rfl, by kernel_rfl⟩ ok_both_kinds rfl rfl rfl (bind2 fun _ _ _ _ => .of_eq (by rfl)) (fun _ _ => .nil) ad hx
noncomputable abbrev F_match_places : Fi := fi 93 ["u", "v", "left", "right", "places", "known", "place"]
theorem ok_match_places : F_match_places.Ok := .of (by kernel_rfl)
theorem k_match_places : (K0 P).lookup 615 = some (o615 P) := by kernel_rfl
theorem c_match_places : codeIn (K0 P) (.ref 614) "match_places" = true := by kernel_rfl
theorem g_match_places : Gl P "match_places" 615 := ⟨by kernel_rfl, by kernel_rfl⟩
theorem C_match_places (h2 : EvL (cx w) f n Γ μ args ds μ2) (hf : Cal (cx w) f n Γ (.ref 615) ds μ2 d μ3) (hk : f.cs.names.lookup ("match_places" : Str) = some .globalImplicit) : Ev (cx w) f n Γ μ (.Call (.Name "match_places" p) args [] pos) d μ3 := Ev.cg g_match_places h2 hf hk
theorem in_match_places (ad : addrs μ' = addrs μ) (hx : En w n F_match_places [some d0, some d1, none, none, none, none, none] μ (sB (nth bd 93)) d μ') : Fn (cx w) (.ref 615) (n + 1) [d0, d1] μ d μ' :=
  Fn.intro (f := F_match_places) (ns := ["u", "v"]) (rest := ["left", "right", "places", "known", "place"]) (dd := []) (dv := []) (k_match_places (P := w.params)) c_match_places rfl ⟨rfl, rfl, rfl, by kernel_rfl, by kernel_rfl⟩ ok_match_places rfl rfl rfl (bind2 fun _ _ _ _ => .of_eq (by rfl)) (fun _ _ => .nil) ad hx
noncomputable abbrev F_distinct : Fi := fi 94 ["v"]
theorem ok_distinct : F_distinct.Ok := .of (by kernel_rfl)
theorem k_distinct : (K0 P).lookup 620 = some (o620 P) := by kernel_rfl
theorem c_distinct : codeIn (K0 P) (.ref 619) "distinct" = true := by kernel_rfl
theorem g_distinct : Gl P "distinct" 620 := ⟨by kernel_rfl, by kernel_rfl⟩
theorem C_distinct (h2 : EvL (cx w) f n Γ μ args ds μ2) (hf : Cal (cx w) f n Γ (.ref 620) ds μ2 d μ3) (hk : f.cs.names.lookup ("distinct" : Str) = some .globalImplicit) : Ev (cx w) f n Γ μ (.Call (.Name "distinct" p) args [] pos) d μ3 := Ev.cg g_distinct h2 hf hk
theorem in_distinct (ad : addrs μ' = addrs μ) (hx : En w n F_distinct [some d0] μ (sB (nth bd 94)) d μ') : Fn (cx w) (.ref 620) (n + 1) [d0] μ d μ' :=
  Fn.intro (f := F_distinct) (ns := ["v"]) (rest := []) (dd := []) (dv := []) (k_distinct (P := w.params)) c_distinct rfl ⟨rfl, rfl, rfl, by kernel_rfl, by kernel_rfl⟩ ok_distinct rfl rfl rfl (bind1 fun _ _ _ => .of_eq (by rfl)) (fun _ _ => .nil) ad hx
noncomputable abbrev F_union_of : Fi := fi 95 ["u", "v", "left", "right"]
theorem ok_union_of : F_union_of.Ok := .of (by kernel_rfl)
theorem k_union_of : (K0 P).lookup 627 = some (o627 P) := by kernel_rfl
theorem c_union_of : codeIn (K0 P) (.ref 626) "union_of" = true := by kernel_rfl
theorem g_union_of : Gl P "union_of" 627 := ⟨by kernel_rfl, by kernel_rfl⟩
theorem C_union_of (h2 : EvL (cx w) f n Γ μ args ds μ2) (hf : Cal (cx w) f n Γ (.ref 627) ds μ2 d μ3) (hk : f.cs.names.lookup ("union_of" : Str) = some .globalImplicit) : Ev (cx w) f n Γ μ (.Call (.Name "union_of" p) args [] pos) d μ3 := Ev.cg g_union_of h2 hf hk
theorem in_union_of (ad : addrs μ' = addrs μ) (hx : En w n F_union_of [some d0, some d1, none, none] μ (sB (nth bd 95)) d μ') : Fn (cx w) (.ref 627) (n + 1) [d0, d1] μ d μ' :=
  Fn.intro (f := F_union_of) (ns := ["u", "v"]) (rest := ["left", "right"]) (dd := []) (dv := []) (k_union_of (P := w.params)) c_union_of rfl ⟨rfl, rfl, rfl, by kernel_rfl, by kernel_rfl⟩ ok_union_of rfl rfl rfl (bind2 fun _ _ _ _ => .of_eq (by rfl)) (fun _ _ => .nil) ad hx
noncomputable abbrev F_intersect_of : Fi := fi 96 ["u", "v", "left", "right", "places"]
theorem ok_intersect_of : F_intersect_of.Ok := .of (by kernel_rfl)
theorem k_intersect_of : (K0 P).lookup 632 = some (o632 P) := by kernel_rfl
theorem c_intersect_of : codeIn (K0 P) (.ref 631) "intersect_of" = true := by kernel_rfl
theorem g_intersect_of : Gl P "intersect_of" 632 := ⟨by kernel_rfl, by kernel_rfl⟩
theorem C_intersect_of (h2 : EvL (cx w) f n Γ μ args ds μ2) (hf : Cal (cx w) f n Γ (.ref 632) ds μ2 d μ3) (hk : f.cs.names.lookup ("intersect_of" : Str) = some .globalImplicit) : Ev (cx w) f n Γ μ (.Call (.Name "intersect_of" p) args [] pos) d μ3 := Ev.cg g_intersect_of h2 hf hk
theorem in_intersect_of (ad : addrs μ' = addrs μ) (hx : En w n F_intersect_of [some d0, some d1, none, none, none] μ (sB (nth bd 96)) d μ') : Fn (cx w) (.ref 632) (n + 1) [d0, d1] μ d μ' :=
  Fn.intro (f := F_intersect_of) (ns := ["u", "v"]) (rest := ["left", "right", "places"]) (dd := []) (dv := []) (k_intersect_of (P := w.params)) c_intersect_of rfl ⟨rfl, rfl, rfl, by kernel_rfl, by kernel_rfl⟩ ok_intersect_of rfl rfl rfl (bind2 fun _ _ _ _ => .of_eq (by rfl)) (fun _ _ => .nil) ad hx
noncomputable abbrev F_setdiff_of : Fi := fi 97 ["u", "v", "left", "places"]
theorem ok_setdiff_of : F_setdiff_of.Ok := .of (by kernel_rfl)
theorem k_setdiff_of : (K0 P).lookup 637 = some (o637 P) := by kernel_rfl
theorem c_setdiff_of : codeIn (K0 P) (.ref 636) "setdiff_of" = true := by kernel_rfl
theorem g_setdiff_of : Gl P "setdiff_of" 637 := ⟨by kernel_rfl, by kernel_rfl⟩
theorem C_setdiff_of (h2 : EvL (cx w) f n Γ μ args ds μ2) (hf : Cal (cx w) f n Γ (.ref 637) ds μ2 d μ3) (hk : f.cs.names.lookup ("setdiff_of" : Str) = some .globalImplicit) : Ev (cx w) f n Γ μ (.Call (.Name "setdiff_of" p) args [] pos) d μ3 := Ev.cg g_setdiff_of h2 hf hk
theorem in_setdiff_of (ad : addrs μ' = addrs μ) (hx : En w n F_setdiff_of [some d0, some d1, none, none] μ (sB (nth bd 97)) d μ') : Fn (cx w) (.ref 637) (n + 1) [d0, d1] μ d μ' :=
  Fn.intro (f := F_setdiff_of) (ns := ["u", "v"]) (rest := ["left", "places"]) (dd := []) (dv := []) (k_setdiff_of (P := w.params)) c_setdiff_of rfl ⟨rfl, rfl, rfl, by kernel_rfl, by kernel_rfl⟩ ok_setdiff_of rfl rfl rfl (bind2 fun _ _ _ _ => .of_eq (by rfl)) (fun _ _ => .nil) ad hx
noncomputable abbrev F_same_sets : Fi := fi 98 ["u", "v"]
theorem ok_same_sets : F_same_sets.Ok := .of (by kernel_rfl)
theorem k_same_sets : (K0 P).lookup 644 = some (o644 P) := by kernel_rfl
theorem c_same_sets : codeIn (K0 P) (.ref 643) "same_sets" = true := by kernel_rfl
theorem g_same_sets : Gl P "same_sets" 644 := ⟨by kernel_rfl, by kernel_rfl⟩
theorem C_same_sets (h2 : EvL (cx w) f n Γ μ args ds μ2) (hf : Cal (cx w) f n Γ (.ref 644) ds μ2 d μ3) (hk : f.cs.names.lookup ("same_sets" : Str) = some .globalImplicit) : Ev (cx w) f n Γ μ (.Call (.Name "same_sets" p) args [] pos) d μ3 := Ev.cg g_same_sets h2 hf hk
theorem in_same_sets (ad : addrs μ' = addrs μ) (hx : En w n F_same_sets [some d0, some d1] μ (sB (nth bd 98)) d μ') : Fn (cx w) (.ref 644) (n + 1) [d0, d1] μ d μ' :=
  Fn.intro (f := F_same_sets) (ns := ["u", "v"]) (rest := []) (dd := []) (dv := []) (k_same_sets (P := w.params)) c_same_sets rfl ⟨rfl, rfl, rfl, by kernel_rfl, by kernel_rfl⟩ ok_same_sets rfl rfl rfl (bind2 fun _ _ _ _ => .of_eq (by rfl)) (fun _ _ => .nil) ad hx
noncomputable abbrev F_tabulate_keys : Fi := fi 99 ["v", "counts", "place"]
theorem ok_tabulate_keys : F_tabulate_keys.Ok := .of (by kernel_rfl)
theorem k_tabulate_keys : (K0 P).lookup 649 = some (o649 P) := by kernel_rfl
theorem c_tabulate_keys : codeIn (K0 P) (.ref 648) "tabulate_keys" = true := by kernel_rfl
theorem g_tabulate_keys : Gl P "tabulate_keys" 649 := ⟨by kernel_rfl, by kernel_rfl⟩
theorem C_tabulate_keys (h2 : EvL (cx w) f n Γ μ args ds μ2) (hf : Cal (cx w) f n Γ (.ref 649) ds μ2 d μ3) (hk : f.cs.names.lookup ("tabulate_keys" : Str) = some .globalImplicit) : Ev (cx w) f n Γ μ (.Call (.Name "tabulate_keys" p) args [] pos) d μ3 := Ev.cg g_tabulate_keys h2 hf hk
theorem in_tabulate_keys (ad : addrs μ' = addrs μ) (hx : En w n F_tabulate_keys [some d0, none, none] μ (sB (nth bd 99)) d μ') : Fn (cx w) (.ref 649) (n + 1) [d0] μ d μ' :=
  Fn.intro (f := F_tabulate_keys) (ns := ["v"]) (rest := ["counts", "place"]) (dd := []) (dv := []) (k_tabulate_keys (P := w.params)) c_tabulate_keys rfl ⟨rfl, rfl, rfl, by kernel_rfl, by kernel_rfl⟩ ok_tabulate_keys rfl rfl rfl (bind1 fun _ _ _ => .of_eq (by rfl)) (fun _ _ => .nil) ad hx
noncomputable abbrev F_law_row : Fi := fi 101 ["script", "row", "cell", "figure", "lap"]
theorem ok_law_row : F_law_row.Ok := .of (by kernel_rfl)
theorem k_law_row : (K0 P).lookup 656 = some (o656 P) := by kernel_rfl
theorem c_law_row : codeIn (K0 P) (.ref 655) "_law_row" = true := by kernel_rfl
theorem g_law_row : Gl P "_law_row" 656 := ⟨by kernel_rfl, by kernel_rfl⟩
theorem inN_law_row {mo : MO} {dr : Addr → D} (hx : Ex (cx w) F_law_row n [some d0, none, none, none, none] [] (sB (nth bd 101)) (fun o => ∃ a, o = .ret (dr a) [(a, mo)])) : FnN (cx w) (.ref 656) (n + 1) [d0] mo dr :=
  FnN.intro (f := F_law_row) (ns := ["script"]) (rest := ["row", "cell", "figure", "lap"]) (dd := []) (dv := []) (k_law_row (P := w.params)) c_law_row rfl ⟨rfl, rfl, rfl, by kernel_rfl, by kernel_rfl⟩ ok_law_row rfl rfl rfl (bind1 fun _ _ _ => .of_eq (by rfl)) (fun _ _ => .nil) hx
noncomputable abbrev F_law_next : Fi := fi 102 ["row"]
theorem ok_law_next : F_law_next.Ok := .of (by kernel_rfl)
theorem k_law_next : (K0 P).lookup 663 = some (o663 P) := by kernel_rfl
theorem c_law_next : codeIn (K0 P) (.ref 662) "_law_next" = true := by kernel_rfl
theorem g_law_next : Gl P "_law_next" 663 := ⟨by kernel_rfl, by kernel_rfl⟩
theorem C_law_next (h2 : EvL (cx w) f n Γ μ args ds μ2) (hf : Cal (cx w) f n Γ (.ref 663) ds μ2 d μ3) (hk : f.cs.names.lookup ("_law_next" : Str) = some .globalImplicit) : Ev (cx w) f n Γ μ (.Call (.Name "_law_next" p) args [] pos) d μ3 := Ev.cg g_law_next h2 hf hk
theorem in_law_next (ad : addrs μ' = addrs μ) (hx : En w n F_law_next [some d0] μ (sB (nth bd 102)) d μ') : Fn (cx w) (.ref 663) (n + 1) [d0] μ d μ' :=
  Fn.intro (f := F_law_next) (ns := ["row"]) (rest := []) (dd := []) (dv := []) (k_law_next (P := w.params)) c_law_next rfl ⟨rfl, rfl, rfl, by kernel_rfl, by kernel_rfl⟩ ok_law_next rfl rfl rfl (bind1 fun _ _ _ => .of_eq (by rfl)) (fun _ _ => .nil) ad hx
noncomputable abbrev F_law_reduced : Fi := fi 103 ["n", "d", "a", "b"]
theorem ok_law_reduced : F_law_reduced.Ok := .of (by kernel_rfl)
theorem k_law_reduced : (K0 P).lookup 670 = some (o670 P) := by kernel_rfl
theorem c_law_reduced : codeIn (K0 P) (.ref 669) "_law_reduced" = true := by kernel_rfl
theorem g_law_reduced : Gl P "_law_reduced" 670 := ⟨by kernel_rfl, by kernel_rfl⟩
theorem C_law_reduced (h2 : EvL (cx w) f n Γ μ args ds μ2) (hf : Cal (cx w) f n Γ (.ref 670) ds μ2 d μ3) (hk : f.cs.names.lookup ("_law_reduced" : Str) = some .globalImplicit) : Ev (cx w) f n Γ μ (.Call (.Name "_law_reduced" p) args [] pos) d μ3 := Ev.cg g_law_reduced h2 hf hk
theorem in_law_reduced (ad : addrs μ' = addrs μ) (hx : En w n F_law_reduced [some d0, some d1, none, none] μ (sB (nth bd 103)) d μ') : Fn (cx w) (.ref 670) (n + 1) [d0, d1] μ d μ' :=
  Fn.intro (f := F_law_reduced) (ns := ["n", "d"]) (rest := ["a", "b"]) (dd := []) (dv := []) (k_law_reduced (P := w.params)) c_law_reduced rfl ⟨rfl, rfl, rfl, by kernel_rfl, by kernel_rfl⟩ ok_law_reduced rfl rfl rfl (bind2 fun _ _ _ _ => .of_eq (by rfl)) (fun _ _ => .nil) ad hx
noncomputable abbrev F_law_item : Fi := fi 104 ["row", "kind", "draw"]
theorem ok_law_item : F_law_item.Ok := .of (by kernel_rfl)
theorem k_law_item : (K0 P).lookup 677 = some (o677 P) := by kernel_rfl
theorem c_law_item : codeIn (K0 P) (.ref 676) "_law_item" = true := by kernel_rfl
theorem g_law_item : Gl P "_law_item" 677 := ⟨by kernel_rfl, by kernel_rfl⟩
theorem C_law_item (h2 : EvL (cx w) f n Γ μ args ds μ2) (hf : Cal (cx w) f n Γ (.ref 677) ds μ2 d μ3) (hk : f.cs.names.lookup ("_law_item" : Str) = some .globalImplicit) : Ev (cx w) f n Γ μ (.Call (.Name "_law_item" p) args [] pos) d μ3 := Ev.cg g_law_item h2 hf hk
theorem in_law_item (ad : addrs μ' = addrs μ) (hx : En w n F_law_item [some d0, some d1, none] μ (sB (nth bd 104)) d μ') : Fn (cx w) (.ref 677) (n + 1) [d0, d1] μ d μ' :=
  Fn.intro (f := F_law_item) (ns := ["row", "kind"]) (rest := ["draw"]) (dd := []) (dv := []) (k_law_item (P := w.params)) c_law_item rfl ⟨rfl, rfl, rfl, by kernel_rfl, by kernel_rfl⟩ ok_law_item rfl rfl rfl (bind2 fun _ _ _ _ => .of_eq (by rfl)) (fun _ _ => .nil) ad hx
noncomputable abbrev F_law_plain_text : Fi := fi 105 ["kind", "item", "size", "words"]
theorem ok_law_plain_text : F_law_plain_text.Ok := .of (by kernel_rfl)
theorem k_law_plain_text : (K0 P).lookup 684 = some (o684 P) := by kernel_rfl
theorem c_law_plain_text : codeIn (K0 P) (.ref 683) "_law_plain_text" = true := by kernel_rfl
theorem g_law_plain_text : Gl P "_law_plain_text" 684 := ⟨by kernel_rfl, by kernel_rfl⟩
theorem C_law_plain_text (h2 : EvL (cx w) f n Γ μ args ds μ2) (hf : Cal (cx w) f n Γ (.ref 684) ds μ2 d μ3) (hk : f.cs.names.lookup ("_law_plain_text" : Str) = some .globalImplicit) : Ev (cx w) f n Γ μ (.Call (.Name "_law_plain_text" p) args [] pos) d μ3 := Ev.cg g_law_plain_text h2 hf hk
theorem in_law_plain_text (ad : addrs μ' = addrs μ) (hx : En w n F_law_plain_text [some d0, some d1, none, none] μ (sB (nth bd 105)) d μ') : Fn (cx w) (.ref 684) (n + 1) [d0, d1] μ d μ' :=
  Fn.intro (f := F_law_plain_text) (ns := ["kind", "item"]) (rest := ["size", "words"]) (dd := []) (dv := []) (k_law_plain_text (P := w.params)) c_law_plain_text rfl ⟨rfl, rfl, rfl, by kernel_rfl, by kernel_rfl⟩ ok_law_plain_text rfl rfl rfl (bind2 fun _ _ _ _ => .of_eq (by rfl)) (fun _ _ => .nil) ad hx
noncomputable abbrev F_law_as : Fi := fi 106 ["kind", "item", "to"]
theorem ok_law_as : F_law_as.Ok := .of (by kernel_rfl)
theorem k_law_as : (K0 P).lookup 691 = some (o691 P) := by kernel_rfl
theorem c_law_as : codeIn (K0 P) (.ref 690) "_law_as" = true := by kernel_rfl
theorem g_law_as : Gl P "_law_as" 691 := ⟨by kernel_rfl, by kernel_rfl⟩
theorem C_law_as (h2 : EvL (cx w) f n Γ μ args ds μ2) (hf : Cal (cx w) f n Γ (.ref 691) ds μ2 d μ3) (hk : f.cs.names.lookup ("_law_as" : Str) = some .globalImplicit) : Ev (cx w) f n Γ μ (.Call (.Name "_law_as" p) args [] pos) d μ3 := Ev.cg g_law_as h2 hf hk
theorem in_law_as (ad : addrs μ' = addrs μ) (hx : En w n F_law_as [some d0, some d1, some d2] μ (sB (nth bd 106)) d μ') : Fn (cx w) (.ref 691) (n + 1) [d0, d1, d2] μ d μ' :=
  Fn.intro (f := F_law_as) (ns := ["kind", "item", "to"]) (rest := []) (dd := []) (dv := []) (k_law_as (P := w.params)) c_law_as rfl ⟨rfl, rfl, rfl, by kernel_rfl, by kernel_rfl⟩ ok_law_as rfl rfl rfl (bind3 fun _ _ _ _ _ => .of_eq (by rfl)) (fun _ _ => .nil) ad hx
noncomputable abbrev F_law_vector : Fi := fi 107 ["row", "kind", "many", "v", "lap", "name", "items", "again"]
theorem ok_law_vector : F_law_vector.Ok := .of (by kernel_rfl)
theorem k_law_vector : (K0 P).lookup 696 = some (o696 P) := by kernel_rfl
theorem c_law_vector : codeIn (K0 P) (.ref 695) "_law_vector" = true := by kernel_rfl
theorem g_law_vector : Gl P "_law_vector" 696 := ⟨by kernel_rfl, by kernel_rfl⟩
theorem C_law_vector (h2 : EvL (cx w) f n Γ μ args ds μ2) (hf : Cal (cx w) f n Γ (.ref 696) ds μ2 d μ3) (hk : f.cs.names.lookup ("_law_vector" : Str) = some .globalImplicit) : Ev (cx w) f n Γ μ (.Call (.Name "_law_vector" p) args [] pos) d μ3 := Ev.cg g_law_vector h2 hf hk
theorem in_law_vector (ad : addrs μ' = addrs μ) (hx : En w n F_law_vector [some d0, none, none, none, none, none, none, none] μ (sB (nth bd 107)) d μ') : Fn (cx w) (.ref 696) (n + 1) [d0] μ d μ' :=
  Fn.intro (f := F_law_vector) (ns := ["row"]) (rest := ["kind", "many", "v", "lap", "name", "items", "again"]) (dd := []) (dv := []) (k_law_vector (P := w.params)) c_law_vector rfl ⟨rfl, rfl, rfl, by kernel_rfl, by kernel_rfl⟩ ok_law_vector rfl rfl rfl (bind1 fun _ _ _ => .of_eq (by rfl)) (fun _ _ => .nil) ad hx
noncomputable abbrev F_law_plain : Fi := fi 108 ["v"]
theorem ok_law_plain : F_law_plain.Ok := .of (by kernel_rfl)
theorem k_law_plain : (K0 P).lookup 701 = some (o701 P) := by kernel_rfl
theorem c_law_plain : codeIn (K0 P) (.ref 700) "_law_plain" = true := by kernel_rfl
theorem g_law_plain : Gl P "_law_plain" 701 := ⟨by kernel_rfl, by kernel_rfl⟩
theorem C_law_plain (h2 : EvL (cx w) f n Γ μ args ds μ2) (hf : Cal (cx w) f n Γ (.ref 701) ds μ2 d μ3) (hk : f.cs.names.lookup ("_law_plain" : Str) = some .globalImplicit) : Ev (cx w) f n Γ μ (.Call (.Name "_law_plain" p) args [] pos) d μ3 := Ev.cg g_law_plain h2 hf hk
theorem in_law_plain (ad : addrs μ' = addrs μ) (hx : En w n F_law_plain [some d0] μ (sB (nth bd 108)) d μ') : Fn (cx w) (.ref 701) (n + 1) [d0] μ d μ' :=
  Fn.intro (f := F_law_plain) (ns := ["v"]) (rest := []) (dd := []) (dv := []) (k_law_plain (P := w.params)) c_law_plain rfl ⟨rfl, rfl, rfl, by kernel_rfl, by kernel_rfl⟩ ok_law_plain rfl rfl rfl (bind1 fun _ _ _ => .of_eq (by rfl)) (fun _ _ => .nil) ad hx
noncomputable abbrev F_law_spots : Fi := fi 109 ["items"]
theorem ok_law_spots : F_law_spots.Ok := .of (by kernel_rfl)
theorem k_law_spots : (K0 P).lookup 706 = some (o706 P) := by kernel_rfl
theorem c_law_spots : codeIn (K0 P) (.ref 705) "_law_spots" = true := by kernel_rfl
theorem g_law_spots : Gl P "_law_spots" 706 := ⟨by kernel_rfl, by kernel_rfl⟩
theorem C_law_spots (h2 : EvL (cx w) f n Γ μ args ds μ2) (hf : Cal (cx w) f n Γ (.ref 706) ds μ2 d μ3) (hk : f.cs.names.lookup ("_law_spots" : Str) = some .globalImplicit) : Ev (cx w) f n Γ μ (.Call (.Name "_law_spots" p) args [] pos) d μ3 := Ev.cg g_law_spots h2 hf hk
theorem in_law_spots (ad : addrs μ' = addrs μ) (hx : En w n F_law_spots [some d0] μ (sB (nth bd 109)) d μ') : Fn (cx w) (.ref 706) (n + 1) [d0] μ d μ' :=
  Fn.intro (f := F_law_spots) (ns := ["items"]) (rest := []) (dd := []) (dv := []) (k_law_spots (P := w.params)) c_law_spots rfl ⟨rfl, rfl, rfl, by kernel_rfl, by kernel_rfl⟩ ok_law_spots rfl rfl rfl (bind1 fun _ _ _ => .of_eq (by rfl)) (fun _ _ => .nil) ad hx
noncomputable abbrev F_law : Fi := fi 110 ["script", "row", "u", "v", "side", "items", "spots", "order", "left", "one", "right", "two", "kind", "first", "second", "joined_x", "told", "due", "met", "alone", "same"]
theorem ok_law : F_law.Ok := .of (by kernel_rfl)
theorem k_law : (K0 P).lookup 711 = some (o711 P) := by kernel_rfl
theorem c_law : codeIn (K0 P) (.ref 710) "law" = true := by kernel_rfl
theorem g_law : Gl P "law" 711 := ⟨by kernel_rfl, by kernel_rfl⟩
theorem in_law (ad : addrs μ' = addrs μ) (hx : En w n F_law [some d0, none, none, none, none, none, none, none, none, none, none, none, none, none, none, none, none, none, none, none, none] μ (sB (nth bd 110)) d μ') : Fn (cx w) (.ref 711) (n + 1) [d0] μ d μ' :=
  Fn.intro (f := F_law) (ns := ["script"]) (rest := ["row", "u", "v", "side", "items", "spots", "order", "left", "one", "right", "two", "kind", "first", "second", "joined_x", "told", "due", "met", "alone", "same"]) (dd := []) (dv := []) (k_law (P := w.params)) c_law rfl ⟨rfl, rfl, rfl, by kernel_rfl, by kernel_rfl⟩ ok_law rfl rfl rfl (bind1 fun _ _ _ => .of_eq (by rfl)) (fun _ _ => .nil) ad hx
noncomputable abbrev F_from_int : Fi := fi 7 ["n"]
theorem ok_from_int : F_from_int.Ok := .of (by kernel_rfl)
theorem k_from_int : (K0 P).lookup 45 = some (o45 P) := by kernel_rfl
theorem c_from_int : codeIn (K0 P) (.ref 44) "from_int" = true := by kernel_rfl
theorem g_from_int : Gl P "from_int" 45 := ⟨by kernel_rfl, by kernel_rfl⟩
theorem C_from_int (h2 : EvL (cx w) f n Γ μ args ds μ2) (hf : Cal (cx w) f n Γ (.ref 45) ds μ2 d μ3) (hk : f.cs.names.lookup ("from_int" : Str) = some .globalImplicit) : Ev (cx w) f n Γ μ (.Call (.Name "from_int" p) args [] pos) d μ3 := Ev.cg g_from_int h2 hf hk
theorem in_from_int (ad : addrs μ' = addrs μ) (hx : En w n F_from_int [some d0] μ (sB (nth bd 7)) d μ') : Fn (cx w) (.ref 45) (n + 1) [d0] μ d μ' :=
  Fn.intro (f := F_from_int) (ns := ["n"]) (rest := []) (dd := []) (dv := []) (k_from_int (P := w.params)) c_from_int rfl ⟨rfl, rfl, rfl, by kernel_rfl, by kernel_rfl⟩ ok_from_int rfl rfl rfl (bind1 fun _ _ _ => .of_eq (by rfl)) (fun _ _ => .nil) ad hx
noncomputable abbrev F_nearest_whole : Fi := fi 12 ["n", "d", "low", "rest"]
theorem ok_nearest_whole : F_nearest_whole.Ok := .of (by kernel_rfl)
theorem k_nearest_whole : (K0 P).lookup 80 = some (o80 P) := by kernel_rfl
theorem c_nearest_whole : codeIn (K0 P) (.ref 79) "nearest_whole" = true := by kernel_rfl
theorem g_nearest_whole : Gl P "nearest_whole" 80 := ⟨by kernel_rfl, by kernel_rfl⟩
theorem C_nearest_whole (h2 : EvL (cx w) f n Γ μ args ds μ2) (hf : Cal (cx w) f n Γ (.ref 80) ds μ2 d μ3) (hk : f.cs.names.lookup ("nearest_whole" : Str) = some .globalImplicit) : Ev (cx w) f n Γ μ (.Call (.Name "nearest_whole" p) args [] pos) d μ3 := Ev.cg g_nearest_whole h2 hf hk
theorem in_nearest_whole (ad : addrs μ' = addrs μ) (hx : En w n F_nearest_whole [some d0, some d1, none, none] μ (sB (nth bd 12)) d μ') : Fn (cx w) (.ref 80) (n + 1) [d0, d1] μ d μ' :=
  Fn.intro (f := F_nearest_whole) (ns := ["n", "d"]) (rest := ["low", "rest"]) (dd := []) (dv := []) (k_nearest_whole (P := w.params)) c_nearest_whole rfl ⟨rfl, rfl, rfl, by kernel_rfl, by kernel_rfl⟩ ok_nearest_whole rfl rfl rfl (bind2 fun _ _ _ _ => .of_eq (by rfl)) (fun _ _ => .nil) ad hx
noncomputable abbrev F_exponent : Fi := fi 13 ["x", "n", "d", "e"]
theorem ok_exponent : F_exponent.Ok := .of (by kernel_rfl)
theorem k_exponent : (K0 P).lookup 87 = some (o87 P) := by kernel_rfl
theorem c_exponent : codeIn (K0 P) (.ref 86) "exponent" = true := by kernel_rfl
theorem g_exponent : Gl P "exponent" 87 := ⟨by kernel_rfl, by kernel_rfl⟩
theorem C_exponent (h2 : EvL (cx w) f n Γ μ args ds μ2) (hf : Cal (cx w) f n Γ (.ref 87) ds μ2 d μ3) (hk : f.cs.names.lookup ("exponent" : Str) = some .globalImplicit) : Ev (cx w) f n Γ μ (.Call (.Name "exponent" p) args [] pos) d μ3 := Ev.cg g_exponent h2 hf hk
theorem in_exponent (ad : addrs μ' = addrs μ) (hx : En w n F_exponent [some d0, none, none, none] μ (sB (nth bd 13)) d μ') : Fn (cx w) (.ref 87) (n + 1) [d0] μ d μ' :=
  Fn.intro (f := F_exponent) (ns := ["x"]) (rest := ["n", "d", "e"]) (dd := []) (dv := []) (k_exponent (P := w.params)) c_exponent rfl ⟨rfl, rfl, rfl, by kernel_rfl, by kernel_rfl⟩ ok_exponent rfl rfl rfl (bind1 fun _ _ _ => .of_eq (by rfl)) (fun _ _ => .nil) ad hx
noncomputable abbrev F_whole_text : Fi := fi 16 ["n", "rest", "row", "part"]
theorem ok_whole_text : F_whole_text.Ok := .of (by kernel_rfl)
theorem k_whole_text : (K0 P).lookup 94 = some (o94 P) := by kernel_rfl
theorem c_whole_text : codeIn (K0 P) (.ref 93) "whole_text" = true := by kernel_rfl
theorem g_whole_text : Gl P "whole_text" 94 := ⟨by kernel_rfl, by kernel_rfl⟩
theorem C_whole_text (h2 : EvL (cx w) f n Γ μ args ds μ2) (hf : Cal (cx w) f n Γ (.ref 94) ds μ2 d μ3) (hk : f.cs.names.lookup ("whole_text" : Str) = some .globalImplicit) : Ev (cx w) f n Γ μ (.Call (.Name "whole_text" p) args [] pos) d μ3 := Ev.cg g_whole_text h2 hf hk
theorem in_whole_text (ad : addrs μ' = addrs μ) (hx : En w n F_whole_text [some d0, none, none, none] μ (sB (nth bd 16)) d μ') : Fn (cx w) (.ref 94) (n + 1) [d0] μ d μ' :=
  Fn.intro (f := F_whole_text) (ns := ["n"]) (rest := ["rest", "row", "part"]) (dd := []) (dv := []) (k_whole_text (P := w.params)) c_whole_text rfl ⟨rfl, rfl, rfl, by kernel_rfl, by kernel_rfl⟩ ok_whole_text rfl rfl rfl (bind1 fun _ _ _ => .of_eq (by rfl)) (fun _ _ => .nil) ad hx
noncomputable abbrev F_special_text : Fi := fi 8 ["x"]
theorem ok_special_text : F_special_text.Ok := .of (by kernel_rfl)
theorem k_special_text : (K0 P).lookup 101 = some (o101 P) := by kernel_rfl
theorem c_special_text : codeIn (K0 P) (.ref 100) "special_text" = true := by kernel_rfl
theorem g_special_text : Gl P "special_text" 101 := ⟨by kernel_rfl, by kernel_rfl⟩
theorem C_special_text (h2 : EvL (cx w) f n Γ μ args ds μ2) (hf : Cal (cx w) f n Γ (.ref 101) ds μ2 d μ3) (hk : f.cs.names.lookup ("special_text" : Str) = some .globalImplicit) : Ev (cx w) f n Γ μ (.Call (.Name "special_text" p) args [] pos) d μ3 := Ev.cg g_special_text h2 hf hk
theorem in_special_text (ad : addrs μ' = addrs μ) (hx : En w n F_special_text [some d0] μ (sB (nth bd 17)) d μ') : Fn (cx w) (.ref 101) (n + 1) [d0] μ d μ' :=
  Fn.intro (f := F_special_text) (ns := ["x"]) (rest := []) (dd := []) (dv := []) (k_special_text (P := w.params)) c_special_text rfl ⟨rfl, rfl, rfl, by kernel_rfl, by kernel_rfl⟩ ok_special_text rfl rfl rfl (bind1 fun _ _ _ => .of_eq (by rfl)) (fun _ _ => .nil) ad hx
noncomputable abbrev F_scaled : Fi := fi 18 ["x", "e", "digits", "shift"]
theorem ok_scaled : F_scaled.Ok := .of (by kernel_rfl)
theorem k_scaled : (K0 P).lookup 108 = some (o108 P) := by kernel_rfl
theorem c_scaled : codeIn (K0 P) (.ref 107) "scaled" = true := by kernel_rfl
theorem g_scaled : Gl P "scaled" 108 := ⟨by kernel_rfl, by kernel_rfl⟩
theorem C_scaled (h2 : EvL (cx w) f n Γ μ args ds μ2) (hf : Cal (cx w) f n Γ (.ref 108) ds μ2 d μ3) (hk : f.cs.names.lookup ("scaled" : Str) = some .globalImplicit) : Ev (cx w) f n Γ μ (.Call (.Name "scaled" p) args [] pos) d μ3 := Ev.cg g_scaled h2 hf hk
theorem in_scaled (ad : addrs μ' = addrs μ) (hx : En w n F_scaled [some d0, some d1, some d2, none] μ (sB (nth bd 18)) d μ') : Fn (cx w) (.ref 108) (n + 1) [d0, d1, d2] μ d μ' :=
  Fn.intro (f := F_scaled) (ns := ["x", "e", "digits"]) (rest := ["shift"]) (dd := []) (dv := []) (k_scaled (P := w.params)) c_scaled rfl ⟨rfl, rfl, rfl, by kernel_rfl, by kernel_rfl⟩ ok_scaled rfl rfl rfl (bind3 fun _ _ _ _ _ => .of_eq (by rfl)) (fun _ _ => .nil) ad hx
noncomputable abbrev F_significant : Fi := fi 19 ["x", "digits", "e", "n"]
theorem ok_significant : F_significant.Ok := .of (by kernel_rfl)
theorem k_significant : (K0 P).lookup 115 = some (o115 P) := by kernel_rfl
theorem c_significant : codeIn (K0 P) (.ref 114) "significant" = true := by kernel_rfl
theorem g_significant : Gl P "significant" 115 := ⟨by kernel_rfl, by kernel_rfl⟩
theorem C_significant (h2 : EvL (cx w) f n Γ μ args ds μ2) (hf : Cal (cx w) f n Γ (.ref 115) ds μ2 d μ3) (hk : f.cs.names.lookup ("significant" : Str) = some .globalImplicit) : Ev (cx w) f n Γ μ (.Call (.Name "significant" p) args [] pos) d μ3 := Ev.cg g_significant h2 hf hk
theorem in_significant (ad : addrs μ' = addrs μ) (hx : En w n F_significant [some d0, some d1, none, none] μ (sB (nth bd 19)) d μ') : Fn (cx w) (.ref 115) (n + 1) [d0, d1] μ d μ' :=
  Fn.intro (f := F_significant) (ns := ["x", "digits"]) (rest := ["e", "n"]) (dd := []) (dv := []) (k_significant (P := w.params)) c_significant rfl ⟨rfl, rfl, rfl, by kernel_rfl, by kernel_rfl⟩ ok_significant rfl rfl rfl (bind2 fun _ _ _ _ => .of_eq (by rfl)) (fun _ _ => .nil) ad hx
noncomputable abbrev F_without_tail : Fi := fi 20 ["text", "end"]
theorem ok_without_tail : F_without_tail.Ok := .of (by kernel_rfl)
theorem k_without_tail : (K0 P).lookup 122 = some (o122 P) := by kernel_rfl
theorem c_without_tail : codeIn (K0 P) (.ref 121) "without_tail" = true := by kernel_rfl
theorem g_without_tail : Gl P "without_tail" 122 := ⟨by kernel_rfl, by kernel_rfl⟩
theorem C_without_tail (h2 : EvL (cx w) f n Γ μ args ds μ2) (hf : Cal (cx w) f n Γ (.ref 122) ds μ2 d μ3) (hk : f.cs.names.lookup ("without_tail" : Str) = some .globalImplicit) : Ev (cx w) f n Γ μ (.Call (.Name "without_tail" p) args [] pos) d μ3 := Ev.cg g_without_tail h2 hf hk
theorem in_without_tail (ad : addrs μ' = addrs μ) (hx : En w n F_without_tail [some d0, none] μ (sB (nth bd 20)) d μ') : Fn (cx w) (.ref 122) (n + 1) [d0] μ d μ' :=
  Fn.intro (f := F_without_tail) (ns := ["text"]) (rest := ["end"]) (dd := []) (dv := []) (k_without_tail (P := w.params)) c_without_tail rfl ⟨rfl, rfl, rfl, by kernel_rfl, by kernel_rfl⟩ ok_without_tail rfl rfl rfl (bind1 fun _ _ _ => .of_eq (by rfl)) (fun _ _ => .nil) ad hx
noncomputable abbrev F_fixed_text : Fi := fi 22 ["x", "places", "n", "text"]
theorem ok_fixed_text : F_fixed_text.Ok := .of (by kernel_rfl)
theorem k_fixed_text : (K0 P).lookup 136 = some (o136 P) := by kernel_rfl
theorem c_fixed_text : codeIn (K0 P) (.ref 135) "fixed_text" = true := by kernel_rfl
theorem g_fixed_text : Gl P "fixed_text" 136 := ⟨by kernel_rfl, by kernel_rfl⟩
theorem C_fixed_text (h2 : EvL (cx w) f n Γ μ args ds μ2) (hf : Cal (cx w) f n Γ (.ref 136) ds μ2 d μ3) (hk : f.cs.names.lookup ("fixed_text" : Str) = some .globalImplicit) : Ev (cx w) f n Γ μ (.Call (.Name "fixed_text" p) args [] pos) d μ3 := Ev.cg g_fixed_text h2 hf hk
theorem in_fixed_text (ad : addrs μ' = addrs μ) (hx : En w n F_fixed_text [some d0, some d1, none, none] μ (sB (nth bd 22)) d μ') : Fn (cx w) (.ref 136) (n + 1) [d0, d1] μ d μ' :=
  Fn.intro (f := F_fixed_text) (ns := ["x", "places"]) (rest := ["n", "text"]) (dd := []) (dv := []) (k_fixed_text (P := w.params)) c_fixed_text rfl ⟨rfl, rfl, rfl, by kernel_rfl, by kernel_rfl⟩ ok_fixed_text rfl rfl rfl (bind2 fun _ _ _ _ => .of_eq (by rfl)) (fun _ _ => .nil) ad hx
noncomputable abbrev F_measures : Fi := fi 23 ["x", "digits", "side", "text", "e", "count", "left"]
theorem ok_measures : F_measures.Ok := .of (by kernel_rfl)
theorem k_measures : (K0 P).lookup 143 = some (o143 P) := by kernel_rfl
theorem c_measures : codeIn (K0 P) (.ref 142) "measures" = true := by kernel_rfl
theorem g_measures : Gl P "measures" 143 := ⟨by kernel_rfl, by kernel_rfl⟩
theorem C_measures (h2 : EvL (cx w) f n Γ μ args ds μ2) (hf : Cal (cx w) f n Γ (.ref 143) ds μ2 d μ3) (hk : f.cs.names.lookup ("measures" : Str) = some .globalImplicit) : Ev (cx w) f n Γ μ (.Call (.Name "measures" p) args [] pos) d μ3 := Ev.cg g_measures h2 hf hk
theorem in_measures (ad : addrs μ' = addrs μ) (hx : En w n F_measures [some d0, some d1, none, none, none, none, none] μ (sB (nth bd 23)) d μ') : Fn (cx w) (.ref 143) (n + 1) [d0, d1] μ d μ' :=
  Fn.intro (f := F_measures) (ns := ["x", "digits"]) (rest := ["side", "text", "e", "count", "left"]) (dd := []) (dv := []) (k_measures (P := w.params)) c_measures rfl ⟨rfl, rfl, rfl, by kernel_rfl, by kernel_rfl⟩ ok_measures rfl rfl rfl (bind2 fun _ _ _ _ => .of_eq (by rfl)) (fun _ _ => .nil) ad hx
noncomputable abbrev F_chosen_form : Fi := fi 24 ["xs", "digits", "count", "left", "places", "wide", "minus", "x", "row", "fixed_width", "scientific_width"]
theorem ok_chosen_form : F_chosen_form.Ok := .of (by kernel_rfl)
theorem k_chosen_form : (K0 P).lookup 150 = some (o150 P) := by kernel_rfl
theorem c_chosen_form : codeIn (K0 P) (.ref 149) "chosen_form" = true := by kernel_rfl
theorem g_chosen_form : Gl P "chosen_form" 150 := ⟨by kernel_rfl, by kernel_rfl⟩
theorem C_chosen_form (h2 : EvL (cx w) f n Γ μ args ds μ2) (hf : Cal (cx w) f n Γ (.ref 150) ds μ2 d μ3) (hk : f.cs.names.lookup ("chosen_form" : Str) = some .globalImplicit) : Ev (cx w) f n Γ μ (.Call (.Name "chosen_form" p) args [] pos) d μ3 := Ev.cg g_chosen_form h2 hf hk
theorem in_chosen_form (ad : addrs μ' = addrs μ) (hx : En w n F_chosen_form [some d0, some d1, none, none, none, none, none, none, none, none, none] μ (sB (nth bd 24)) d μ') : Fn (cx w) (.ref 150) (n + 1) [d0, d1] μ d μ' :=
  Fn.intro (f := F_chosen_form) (ns := ["xs", "digits"]) (rest := ["count", "left", "places", "wide", "minus", "x", "row", "fixed_width", "scientific_width"]) (dd := []) (dv := []) (k_chosen_form (P := w.params)) c_chosen_form rfl ⟨rfl, rfl, rfl, by kernel_rfl, by kernel_rfl⟩ ok_chosen_form rfl rfl rfl (bind2 fun _ _ _ _ => .of_eq (by rfl)) (fun _ _ => .nil) ad hx
noncomputable abbrev F_formed : Fi := fi 25 ["x", "form", "text"]
theorem ok_formed : F_formed.Ok := .of (by kernel_rfl)
theorem k_formed : (K0 P).lookup 157 = some (o157 P) := by kernel_rfl
theorem c_formed : codeIn (K0 P) (.ref 156) "formed" = true := by kernel_rfl
theorem g_formed : Gl P "formed" 157 := ⟨by kernel_rfl, by kernel_rfl⟩
theorem C_formed (h2 : EvL (cx w) f n Γ μ args ds μ2) (hf : Cal (cx w) f n Γ (.ref 157) ds μ2 d μ3) (hk : f.cs.names.lookup ("formed" : Str) = some .globalImplicit) : Ev (cx w) f n Γ μ (.Call (.Name "formed" p) args [] pos) d μ3 := Ev.cg g_formed h2 hf hk
theorem in_formed (ad : addrs μ' = addrs μ) (hx : En w n F_formed [some d0, some d1, none] μ (sB (nth bd 25)) d μ') : Fn (cx w) (.ref 157) (n + 1) [d0, d1] μ d μ' :=
  Fn.intro (f := F_formed) (ns := ["x", "form"]) (rest := ["text"]) (dd := []) (dv := []) (k_formed (P := w.params)) c_formed rfl ⟨rfl, rfl, rfl, by kernel_rfl, by kernel_rfl⟩ ok_formed rfl rfl rfl (bind2 fun _ _ _ _ => .of_eq (by rfl)) (fun _ _ => .nil) ad hx
noncomputable abbrev F_common_texts : Fi := fi 26 ["xs", "digits", "fractions", "form"]
theorem ok_common_texts : F_common_texts.Ok := .of (by kernel_rfl)
theorem k_common_texts : (K0 P).lookup 162 = some (o162 P) := by kernel_rfl
theorem c_common_texts : codeIn (K0 P) (.ref 161) "common_texts" = true := by kernel_rfl
theorem g_common_texts : Gl P "common_texts" 162 := ⟨by kernel_rfl, by kernel_rfl⟩
theorem C_common_texts (h2 : EvL (cx w) f n Γ μ args ds μ2) (hf : Cal (cx w) f n Γ (.ref 162) ds μ2 d μ3) (hk : f.cs.names.lookup ("common_texts" : Str) = some .globalImplicit) : Ev (cx w) f n Γ μ (.Call (.Name "common_texts" p) args [] pos) d μ3 := Ev.cg g_common_texts h2 hf hk
theorem in_common_texts (ad : addrs μ' = addrs μ) (hx : En w n F_common_texts [some d0, some d1, none, none] μ (sB (nth bd 26)) d μ') : Fn (cx w) (.ref 162) (n + 1) [d0, d1] μ d μ' :=
  Fn.intro (f := F_common_texts) (ns := ["xs", "digits"]) (rest := ["fractions", "form"]) (dd := []) (dv := []) (k_common_texts (P := w.params)) c_common_texts rfl ⟨rfl, rfl, rfl, by kernel_rfl, by kernel_rfl⟩ ok_common_texts rfl rfl rfl (bind2 fun _ _ _ _ => .of_eq (by rfl)) (fun _ _ => .nil) ad hx
noncomputable abbrev F_number_text : Fi := fi 27 ["x", "digits"]
theorem ok_number_text : F_number_text.Ok := .of (by kernel_rfl)
theorem k_number_text : (K0 P).lookup 170 = some (o170 P) := by kernel_rfl
theorem c_number_text : codeIn (K0 P) (.ref 169) "number_text" = true := by kernel_rfl
theorem g_number_text : Gl P "number_text" 170 := ⟨by kernel_rfl, by kernel_rfl⟩
theorem C_number_text (h2 : EvL (cx w) f n Γ μ args ds μ2) (hf : Cal (cx w) f n Γ (.ref 170) ds μ2 d μ3) (hk : f.cs.names.lookup ("number_text" : Str) = some .globalImplicit) : Ev (cx w) f n Γ μ (.Call (.Name "number_text" p) args [] pos) d μ3 := Ev.cg g_number_text h2 hf hk
theorem in_number_text (ad : addrs μ' = addrs μ) (hx : En w n F_number_text [some d0, some d1] μ (sB (nth bd 27)) d μ') : Fn (cx w) (.ref 170) (n + 1) [d0, d1] μ d μ' :=
  Fn.intro (f := F_number_text) (ns := ["x", "digits"]) (rest := []) (dd := []) (dv := []) (k_number_text (P := w.params)) c_number_text rfl ⟨rfl, rfl, rfl, by kernel_rfl, by kernel_rfl⟩ ok_number_text rfl rfl rfl (bind2 fun _ _ _ W => binds_K W.k rfl (o := o163 w.params) (by kernel_rfl) rfl rfl rfl) (fun _ _ => .nil) ad hx
noncomputable abbrev F_Null_init : Fi := fim 35 0 ["self"]
theorem ok_Null_init : F_Null_init.Ok := .of (by kernel_rfl)
theorem k_Null_init : (K0 P).lookup 226 = some (o226 P) := by kernel_rfl
theorem c_Null_init : codeIn (K0 P) (.ref 225) "Null.__init__" = true := by kernel_rfl
theorem inK_Null_init (ad : addrs μ' = addrs μ) (hx : En w n F_Null_init [some d0] μ (sB (nth (sB (nth bd 35)) 0)) d μ') : FnK (cx w) (.ref 226) (n + 1) [d0] μ d μ' :=
  FnK.intro (f := F_Null_init) (ns := ["self"]) (rest := []) (dd := []) (dv := []) (k_Null_init (P := w.params)) c_Null_init rfl ⟨rfl, rfl, rfl, by kernel_rfl, by kernel_rfl⟩ ok_Null_init rfl rfl rfl (bind1 fun _ _ _ => .of_eq (by rfl)) (fun _ _ => .nil) ad hx
noncomputable abbrev F_Vector_init : Fi := fim 36 0 ["self", "kind", "items", "attrs"]
theorem ok_Vector_init : F_Vector_init.Ok := .of (by kernel_rfl)
theorem k_Vector_init : (K0 P).lookup 248 = some (o248 P) := by kernel_rfl
theorem c_Vector_init : codeIn (K0 P) (.ref 247) "Vector.__init__" = true := by kernel_rfl
theorem inK_Vector_init_d (ad : addrs μ' = addrs μ) (hx : En w n F_Vector_init [some d0, some d1, some d2, some (dN)] μ (sB (nth (sB (nth bd 36)) 0)) d μ') : FnK (cx w) (.ref 248) (n + 1) [d0, d1, d2] μ d μ' :=
  FnK.intro (f := F_Vector_init) (ns := ["self", "kind", "items", "attrs"]) (rest := []) (dd := [dN]) (dv := [.none]) (k_Vector_init (P := w.params)) c_Vector_init rfl ⟨rfl, rfl, rfl, by kernel_rfl, by kernel_rfl⟩ ok_Vector_init rfl rfl rfl (bind3 fun _ _ _ _ W => binds_K W.k rfl (o := o241 w.params) (by kernel_rfl) rfl rfl rfl) (fun _ _ => .cons rN .nil) ad hx
noncomputable abbrev F_is_vector : Fi := fi 39 ["v"]
theorem ok_is_vector : F_is_vector.Ok := .of (by kernel_rfl)
theorem k_is_vector : (K0 P).lookup 283 = some (o283 P) := by kernel_rfl
theorem c_is_vector : codeIn (K0 P) (.ref 282) "is_vector" = true := by kernel_rfl
theorem g_is_vector : Gl P "is_vector" 283 := ⟨by kernel_rfl, by kernel_rfl⟩
theorem C_is_vector (h2 : EvL (cx w) f n Γ μ args ds μ2) (hf : Cal (cx w) f n Γ (.ref 283) ds μ2 d μ3) (hk : f.cs.names.lookup ("is_vector" : Str) = some .globalImplicit) : Ev (cx w) f n Γ μ (.Call (.Name "is_vector" p) args [] pos) d μ3 := Ev.cg g_is_vector h2 hf hk
theorem in_is_vector (ad : addrs μ' = addrs μ) (hx : En w n F_is_vector [some d0] μ (sB (nth bd 39)) d μ') : Fn (cx w) (.ref 283) (n + 1) [d0] μ d μ' :=
  Fn.intro (f := F_is_vector) (ns := ["v"]) (rest := []) (dd := []) (dv := []) (k_is_vector (P := w.params)) c_is_vector rfl ⟨rfl, rfl, rfl, by kernel_rfl, by kernel_rfl⟩ ok_is_vector rfl rfl rfl (bind1 fun _ _ _ => .of_eq (by rfl)) (fun _ _ => .nil) ad hx
noncomputable abbrev F_is_atomic : Fi := fi 40 ["v"]
theorem ok_is_atomic : F_is_atomic.Ok := .of (by kernel_rfl)
theorem k_is_atomic : (K0 P).lookup 290 = some (o290 P) := by kernel_rfl
theorem c_is_atomic : codeIn (K0 P) (.ref 289) "is_atomic" = true := by kernel_rfl
theorem g_is_atomic : Gl P "is_atomic" 290 := ⟨by kernel_rfl, by kernel_rfl⟩
theorem C_is_atomic (h2 : EvL (cx w) f n Γ μ args ds μ2) (hf : Cal (cx w) f n Γ (.ref 290) ds μ2 d μ3) (hk : f.cs.names.lookup ("is_atomic" : Str) = some .globalImplicit) : Ev (cx w) f n Γ μ (.Call (.Name "is_atomic" p) args [] pos) d μ3 := Ev.cg g_is_atomic h2 hf hk
theorem in_is_atomic (ad : addrs μ' = addrs μ) (hx : En w n F_is_atomic [some d0] μ (sB (nth bd 40)) d μ') : Fn (cx w) (.ref 290) (n + 1) [d0] μ d μ' :=
  Fn.intro (f := F_is_atomic) (ns := ["v"]) (rest := []) (dd := []) (dv := []) (k_is_atomic (P := w.params)) c_is_atomic rfl ⟨rfl, rfl, rfl, by kernel_rfl, by kernel_rfl⟩ ok_is_atomic rfl rfl rfl (bind1 fun _ _ _ => .of_eq (by rfl)) (fun _ _ => .nil) ad hx
noncomputable abbrev F_get_attr : Fi := fi 43 ["v", "name"]
theorem ok_get_attr : F_get_attr.Ok := .of (by kernel_rfl)
theorem k_get_attr : (K0 P).lookup 304 = some (o304 P) := by kernel_rfl
theorem c_get_attr : codeIn (K0 P) (.ref 303) "get_attr" = true := by kernel_rfl
theorem g_get_attr : Gl P "get_attr" 304 := ⟨by kernel_rfl, by kernel_rfl⟩
theorem C_get_attr (h2 : EvL (cx w) f n Γ μ args ds μ2) (hf : Cal (cx w) f n Γ (.ref 304) ds μ2 d μ3) (hk : f.cs.names.lookup ("get_attr" : Str) = some .globalImplicit) : Ev (cx w) f n Γ μ (.Call (.Name "get_attr" p) args [] pos) d μ3 := Ev.cg g_get_attr h2 hf hk
theorem in_get_attr (ad : addrs μ' = addrs μ) (hx : En w n F_get_attr [some d0, some d1] μ (sB (nth bd 43)) d μ') : Fn (cx w) (.ref 304) (n + 1) [d0, d1] μ d μ' :=
  Fn.intro (f := F_get_attr) (ns := ["v", "name"]) (rest := []) (dd := []) (dv := []) (k_get_attr (P := w.params)) c_get_attr rfl ⟨rfl, rfl, rfl, by kernel_rfl, by kernel_rfl⟩ ok_get_attr rfl rfl rfl (bind2 fun _ _ _ _ => .of_eq (by rfl)) (fun _ _ => .nil) ad hx
noncomputable abbrev F_label_text : Fi := fi 44 ["kind", "item"]
theorem ok_label_text : F_label_text.Ok := .of (by kernel_rfl)
theorem k_label_text : (K0 P).lookup 311 = some (o311 P) := by kernel_rfl
theorem c_label_text : codeIn (K0 P) (.ref 310) "label_text" = true := by kernel_rfl
theorem g_label_text : Gl P "label_text" 311 := ⟨by kernel_rfl, by kernel_rfl⟩
theorem C_label_text (h2 : EvL (cx w) f n Γ μ args ds μ2) (hf : Cal (cx w) f n Γ (.ref 311) ds μ2 d μ3) (hk : f.cs.names.lookup ("label_text" : Str) = some .globalImplicit) : Ev (cx w) f n Γ μ (.Call (.Name "label_text" p) args [] pos) d μ3 := Ev.cg g_label_text h2 hf hk
theorem in_label_text (ad : addrs μ' = addrs μ) (hx : En w n F_label_text [some d0, some d1] μ (sB (nth bd 44)) d μ') : Fn (cx w) (.ref 311) (n + 1) [d0, d1] μ d μ' :=
  Fn.intro (f := F_label_text) (ns := ["kind", "item"]) (rest := []) (dd := []) (dv := []) (k_label_text (P := w.params)) c_label_text rfl ⟨rfl, rfl, rfl, by kernel_rfl, by kernel_rfl⟩ ok_label_text rfl rfl rfl (bind2 fun _ _ _ _ => .of_eq (by rfl)) (fun _ _ => .nil) ad hx
noncomputable abbrev F_level_at : Fi := fi 45 ["texts", "code"]
theorem ok_level_at : F_level_at.Ok := .of (by kernel_rfl)
theorem k_level_at : (K0 P).lookup 318 = some (o318 P) := by kernel_rfl
theorem c_level_at : codeIn (K0 P) (.ref 317) "level_at" = true := by kernel_rfl
theorem g_level_at : Gl P "level_at" 318 := ⟨by kernel_rfl, by kernel_rfl⟩
theorem C_level_at (h2 : EvL (cx w) f n Γ μ args ds μ2) (hf : Cal (cx w) f n Γ (.ref 318) ds μ2 d μ3) (hk : f.cs.names.lookup ("level_at" : Str) = some .globalImplicit) : Ev (cx w) f n Γ μ (.Call (.Name "level_at" p) args [] pos) d μ3 := Ev.cg g_level_at h2 hf hk
theorem in_level_at (ad : addrs μ' = addrs μ) (hx : En w n F_level_at [some d0, some d1] μ (sB (nth bd 45)) d μ') : Fn (cx w) (.ref 318) (n + 1) [d0, d1] μ d μ' :=
  Fn.intro (f := F_level_at) (ns := ["texts", "code"]) (rest := []) (dd := []) (dv := []) (k_level_at (P := w.params)) c_level_at rfl ⟨rfl, rfl, rfl, by kernel_rfl, by kernel_rfl⟩ ok_level_at rfl rfl rfl (bind2 fun _ _ _ _ => .of_eq (by rfl)) (fun _ _ => .nil) ad hx
noncomputable abbrev F_label_texts : Fi := fi 46 ["value", "levels", "texts"]
theorem ok_label_texts : F_label_texts.Ok := .of (by kernel_rfl)
theorem k_label_texts : (K0 P).lookup 323 = some (o323 P) := by kernel_rfl
theorem c_label_texts : codeIn (K0 P) (.ref 322) "label_texts" = true := by kernel_rfl
theorem g_label_texts : Gl P "label_texts" 323 := ⟨by kernel_rfl, by kernel_rfl⟩
theorem C_label_texts (h2 : EvL (cx w) f n Γ μ args ds μ2) (hf : Cal (cx w) f n Γ (.ref 323) ds μ2 d μ3) (hk : f.cs.names.lookup ("label_texts" : Str) = some .globalImplicit) : Ev (cx w) f n Γ μ (.Call (.Name "label_texts" p) args [] pos) d μ3 := Ev.cg g_label_texts h2 hf hk
theorem in_label_texts (ad : addrs μ' = addrs μ) (hx : En w n F_label_texts [some d0, none, none] μ (sB (nth bd 46)) d μ') : Fn (cx w) (.ref 323) (n + 1) [d0] μ d μ' :=
  Fn.intro (f := F_label_texts) (ns := ["value"]) (rest := ["levels", "texts"]) (dd := []) (dv := []) (k_label_texts (P := w.params)) c_label_texts rfl ⟨rfl, rfl, rfl, by kernel_rfl, by kernel_rfl⟩ ok_label_texts rfl rfl rfl (bind1 fun _ _ _ => .of_eq (by rfl)) (fun _ _ => .nil) ad hx
noncomputable abbrev F_names_of : Fi := fi 47 ["v", "tag", "dims", "rows", "names"]
theorem ok_names_of : F_names_of.Ok := .of (by kernel_rfl)
theorem k_names_of : (K0 P).lookup 328 = some (o328 P) := by kernel_rfl
theorem c_names_of : codeIn (K0 P) (.ref 327) "names_of" = true := by kernel_rfl
theorem g_names_of : Gl P "names_of" 328 := ⟨by kernel_rfl, by kernel_rfl⟩
theorem C_names_of (h2 : EvL (cx w) f n Γ μ args ds μ2) (hf : Cal (cx w) f n Γ (.ref 328) ds μ2 d μ3) (hk : f.cs.names.lookup ("names_of" : Str) = some .globalImplicit) : Ev (cx w) f n Γ μ (.Call (.Name "names_of" p) args [] pos) d μ3 := Ev.cg g_names_of h2 hf hk
theorem in_names_of (ad : addrs μ' = addrs μ) (hx : En w n F_names_of [some d0, none, none, none, none] μ (sB (nth bd 47)) d μ') : Fn (cx w) (.ref 328) (n + 1) [d0] μ d μ' :=
  Fn.intro (f := F_names_of) (ns := ["v"]) (rest := ["tag", "dims", "rows", "names"]) (dd := []) (dv := []) (k_names_of (P := w.params)) c_names_of rfl ⟨rfl, rfl, rfl, by kernel_rfl, by kernel_rfl⟩ ok_names_of rfl rfl rfl (bind1 fun _ _ _ => .of_eq (by rfl)) (fun _ _ => .nil) ad hx
noncomputable abbrev F_dim_of : Fi := fi 48 ["v", "dims"]
theorem ok_dim_of : F_dim_of.Ok := .of (by kernel_rfl)
theorem k_dim_of : (K0 P).lookup 335 = some (o335 P) := by kernel_rfl
theorem c_dim_of : codeIn (K0 P) (.ref 334) "dim_of" = true := by kernel_rfl
theorem g_dim_of : Gl P "dim_of" 335 := ⟨by kernel_rfl, by kernel_rfl⟩
theorem C_dim_of (h2 : EvL (cx w) f n Γ μ args ds μ2) (hf : Cal (cx w) f n Γ (.ref 335) ds μ2 d μ3) (hk : f.cs.names.lookup ("dim_of" : Str) = some .globalImplicit) : Ev (cx w) f n Γ μ (.Call (.Name "dim_of" p) args [] pos) d μ3 := Ev.cg g_dim_of h2 hf hk
theorem in_dim_of (ad : addrs μ' = addrs μ) (hx : En w n F_dim_of [some d0, none] μ (sB (nth bd 48)) d μ') : Fn (cx w) (.ref 335) (n + 1) [d0] μ d μ' :=
  Fn.intro (f := F_dim_of) (ns := ["v"]) (rest := ["dims"]) (dd := []) (dv := []) (k_dim_of (P := w.params)) c_dim_of rfl ⟨rfl, rfl, rfl, by kernel_rfl, by kernel_rfl⟩ ok_dim_of rfl rfl rfl (bind1 fun _ _ _ => .of_eq (by rfl)) (fun _ _ => .nil) ad hx
noncomputable abbrev F_class_attr : Fi := fi 50 ["v", "found"]
theorem ok_class_attr : F_class_attr.Ok := .of (by kernel_rfl)
theorem k_class_attr : (K0 P).lookup 347 = some (o347 P) := by kernel_rfl
theorem c_class_attr : codeIn (K0 P) (.ref 346) "class_attr" = true := by kernel_rfl
theorem g_class_attr : Gl P "class_attr" 347 := ⟨by kernel_rfl, by kernel_rfl⟩
theorem C_class_attr (h2 : EvL (cx w) f n Γ μ args ds μ2) (hf : Cal (cx w) f n Γ (.ref 347) ds μ2 d μ3) (hk : f.cs.names.lookup ("class_attr" : Str) = some .globalImplicit) : Ev (cx w) f n Γ μ (.Call (.Name "class_attr" p) args [] pos) d μ3 := Ev.cg g_class_attr h2 hf hk
theorem in_class_attr (ad : addrs μ' = addrs μ) (hx : En w n F_class_attr [some d0, none] μ (sB (nth bd 50)) d μ') : Fn (cx w) (.ref 347) (n + 1) [d0] μ d μ' :=
  Fn.intro (f := F_class_attr) (ns := ["v"]) (rest := ["found"]) (dd := []) (dv := []) (k_class_attr (P := w.params)) c_class_attr rfl ⟨rfl, rfl, rfl, by kernel_rfl, by kernel_rfl⟩ ok_class_attr rfl rfl rfl (bind1 fun _ _ _ => .of_eq (by rfl)) (fun _ _ => .nil) ad hx
noncomputable abbrev F_kind_order : Fi := fi 56 ["kind", "kinds"]
theorem ok_kind_order : F_kind_order.Ok := .of (by kernel_rfl)
theorem k_kind_order : (K0 P).lookup 386 = some (o386 P) := by kernel_rfl
theorem c_kind_order : codeIn (K0 P) (.ref 385) "kind_order" = true := by kernel_rfl
theorem g_kind_order : Gl P "kind_order" 386 := ⟨by kernel_rfl, by kernel_rfl⟩
theorem C_kind_order (h2 : EvL (cx w) f n Γ μ args ds μ2) (hf : Cal (cx w) f n Γ (.ref 386) ds μ2 d μ3) (hk : f.cs.names.lookup ("kind_order" : Str) = some .globalImplicit) : Ev (cx w) f n Γ μ (.Call (.Name "kind_order" p) args [] pos) d μ3 := Ev.cg g_kind_order h2 hf hk
theorem in_kind_order (ad : addrs μ' = addrs μ) (hx : En w n F_kind_order [some d0, none] μ (sB (nth bd 56)) d μ') : Fn (cx w) (.ref 386) (n + 1) [d0] μ d μ' :=
  Fn.intro (f := F_kind_order) (ns := ["kind"]) (rest := ["kinds"]) (dd := []) (dv := []) (k_kind_order (P := w.params)) c_kind_order rfl ⟨rfl, rfl, rfl, by kernel_rfl, by kernel_rfl⟩ ok_kind_order rfl rfl rfl (bind1 fun _ _ _ => .of_eq (by rfl)) (fun _ _ => .nil) ad hx
noncomputable abbrev F_common_kind : Fi := fi 57 ["kinds", "names", "most", "kind"]
theorem ok_common_kind : F_common_kind.Ok := .of (by kernel_rfl)
theorem k_common_kind : (K0 P).lookup 393 = some (o393 P) := by kernel_rfl
theorem c_common_kind : codeIn (K0 P) (.ref 392) "common_kind" = true := by kernel_rfl
theorem g_common_kind : Gl P "common_kind" 393 := ⟨by kernel_rfl, by kernel_rfl⟩
theorem C_common_kind (h2 : EvL (cx w) f n Γ μ args ds μ2) (hf : Cal (cx w) f n Γ (.ref 393) ds μ2 d μ3) (hk : f.cs.names.lookup ("common_kind" : Str) = some .globalImplicit) : Ev (cx w) f n Γ μ (.Call (.Name "common_kind" p) args [] pos) d μ3 := Ev.cg g_common_kind h2 hf hk
theorem in_common_kind (ad : addrs μ' = addrs μ) (hx : En w n F_common_kind [some d0, none, none, none] μ (sB (nth bd 57)) d μ') : Fn (cx w) (.ref 393) (n + 1) [d0] μ d μ' :=
  Fn.intro (f := F_common_kind) (ns := ["kinds"]) (rest := ["names", "most", "kind"]) (dd := []) (dv := []) (k_common_kind (P := w.params)) c_common_kind rfl ⟨rfl, rfl, rfl, by kernel_rfl, by kernel_rfl⟩ ok_common_kind rfl rfl rfl (bind1 fun _ _ _ => .of_eq (by rfl)) (fun _ _ => .nil) ad hx
noncomputable abbrev F_to_integer : Fi := fi 63 ["kind", "item", "notes"]
theorem ok_to_integer : F_to_integer.Ok := .of (by kernel_rfl)
theorem k_to_integer : (K0 P).lookup 435 = some (o435 P) := by kernel_rfl
theorem c_to_integer : codeIn (K0 P) (.ref 434) "to_integer" = true := by kernel_rfl
theorem g_to_integer : Gl P "to_integer" 435 := ⟨by kernel_rfl, by kernel_rfl⟩
theorem C_to_integer (h2 : EvL (cx w) f n Γ μ args ds μ2) (hf : Cal (cx w) f n Γ (.ref 435) ds μ2 d μ3) (hk : f.cs.names.lookup ("to_integer" : Str) = some .globalImplicit) : Ev (cx w) f n Γ μ (.Call (.Name "to_integer" p) args [] pos) d μ3 := Ev.cg g_to_integer h2 hf hk
theorem in_to_integer (ad : addrs μ' = addrs μ) (hx : En w n F_to_integer [some d0, some d1, some d2] μ (sB (nth bd 63)) d μ') : Fn (cx w) (.ref 435) (n + 1) [d0, d1, d2] μ d μ' :=
  Fn.intro (f := F_to_integer) (ns := ["kind", "item", "notes"]) (rest := []) (dd := []) (dv := []) (k_to_integer (P := w.params)) c_to_integer rfl ⟨rfl, rfl, rfl, by kernel_rfl, by kernel_rfl⟩ ok_to_integer rfl rfl rfl (bind3 fun _ _ _ _ _ => .of_eq (by rfl)) (fun _ _ => .nil) ad hx
noncomputable abbrev F_to_double : Fi := fi 64 ["kind", "item", "notes"]
theorem ok_to_double : F_to_double.Ok := .of (by kernel_rfl)
theorem k_to_double : (K0 P).lookup 442 = some (o442 P) := by kernel_rfl
theorem c_to_double : codeIn (K0 P) (.ref 441) "to_double" = true := by kernel_rfl
theorem g_to_double : Gl P "to_double" 442 := ⟨by kernel_rfl, by kernel_rfl⟩
theorem C_to_double (h2 : EvL (cx w) f n Γ μ args ds μ2) (hf : Cal (cx w) f n Γ (.ref 442) ds μ2 d μ3) (hk : f.cs.names.lookup ("to_double" : Str) = some .globalImplicit) : Ev (cx w) f n Γ μ (.Call (.Name "to_double" p) args [] pos) d μ3 := Ev.cg g_to_double h2 hf hk
theorem in_to_double (ad : addrs μ' = addrs μ) (hx : En w n F_to_double [some d0, some d1, some d2] μ (sB (nth bd 64)) d μ') : Fn (cx w) (.ref 442) (n + 1) [d0, d1, d2] μ d μ' :=
  Fn.intro (f := F_to_double) (ns := ["kind", "item", "notes"]) (rest := []) (dd := []) (dv := []) (k_to_double (P := w.params)) c_to_double rfl ⟨rfl, rfl, rfl, by kernel_rfl, by kernel_rfl⟩ ok_to_double rfl rfl rfl (bind3 fun _ _ _ _ _ => .of_eq (by rfl)) (fun _ _ => .nil) ad hx
noncomputable abbrev F_to_text : Fi := fi 44 ["kind", "item"]
theorem ok_to_text : F_to_text.Ok := .of (by kernel_rfl)
theorem k_to_text : (K0 P).lookup 449 = some (o449 P) := by kernel_rfl
theorem c_to_text : codeIn (K0 P) (.ref 448) "to_text" = true := by kernel_rfl
theorem g_to_text : Gl P "to_text" 449 := ⟨by kernel_rfl, by kernel_rfl⟩
theorem C_to_text (h2 : EvL (cx w) f n Γ μ args ds μ2) (hf : Cal (cx w) f n Γ (.ref 449) ds μ2 d μ3) (hk : f.cs.names.lookup ("to_text" : Str) = some .globalImplicit) : Ev (cx w) f n Γ μ (.Call (.Name "to_text" p) args [] pos) d μ3 := Ev.cg g_to_text h2 hf hk
theorem in_to_text (ad : addrs μ' = addrs μ) (hx : En w n F_to_text [some d0, some d1] μ (sB (nth bd 65)) d μ') : Fn (cx w) (.ref 449) (n + 1) [d0, d1] μ d μ' :=
  Fn.intro (f := F_to_text) (ns := ["kind", "item"]) (rest := []) (dd := []) (dv := []) (k_to_text (P := w.params)) c_to_text rfl ⟨rfl, rfl, rfl, by kernel_rfl, by kernel_rfl⟩ ok_to_text rfl rfl rfl (bind2 fun _ _ _ _ => .of_eq (by rfl)) (fun _ _ => .nil) ad hx
noncomputable abbrev F_item_as : Fi := fi 66 ["kind", "item", "to", "notes"]
theorem ok_item_as : F_item_as.Ok := .of (by kernel_rfl)
theorem k_item_as : (K0 P).lookup 456 = some (o456 P) := by kernel_rfl
theorem c_item_as : codeIn (K0 P) (.ref 455) "item_as" = true := by kernel_rfl
theorem g_item_as : Gl P "item_as" 456 := ⟨by kernel_rfl, by kernel_rfl⟩
theorem C_item_as (h2 : EvL (cx w) f n Γ μ args ds μ2) (hf : Cal (cx w) f n Γ (.ref 456) ds μ2 d μ3) (hk : f.cs.names.lookup ("item_as" : Str) = some .globalImplicit) : Ev (cx w) f n Γ μ (.Call (.Name "item_as" p) args [] pos) d μ3 := Ev.cg g_item_as h2 hf hk
theorem in_item_as (ad : addrs μ' = addrs μ) (hx : En w n F_item_as [some d0, some d1, some d2, some d3] μ (sB (nth bd 66)) d μ') : Fn (cx w) (.ref 456) (n + 1) [d0, d1, d2, d3] μ d μ' :=
  Fn.intro (f := F_item_as) (ns := ["kind", "item", "to", "notes"]) (rest := []) (dd := []) (dv := []) (k_item_as (P := w.params)) c_item_as rfl ⟨rfl, rfl, rfl, by kernel_rfl, by kernel_rfl⟩ ok_item_as rfl rfl rfl (bind4 fun _ _ _ _ _ _ => .of_eq (by rfl)) (fun _ _ => .nil) ad hx
noncomputable abbrev F_is_atomic_kind : Fi := fi 67 ["kind"]
theorem ok_is_atomic_kind : F_is_atomic_kind.Ok := .of (by kernel_rfl)
theorem k_is_atomic_kind : (K0 P).lookup 463 = some (o463 P) := by kernel_rfl
theorem c_is_atomic_kind : codeIn (K0 P) (.ref 462) "is_atomic_kind" = true := by kernel_rfl
theorem g_is_atomic_kind : Gl P "is_atomic_kind" 463 := ⟨by kernel_rfl, by kernel_rfl⟩
theorem C_is_atomic_kind (h2 : EvL (cx w) f n Γ μ args ds μ2) (hf : Cal (cx w) f n Γ (.ref 463) ds μ2 d μ3) (hk : f.cs.names.lookup ("is_atomic_kind" : Str) = some .globalImplicit) : Ev (cx w) f n Γ μ (.Call (.Name "is_atomic_kind" p) args [] pos) d μ3 := Ev.cg g_is_atomic_kind h2 hf hk
theorem in_is_atomic_kind (ad : addrs μ' = addrs μ) (hx : En w n F_is_atomic_kind [some d0] μ (sB (nth bd 67)) d μ') : Fn (cx w) (.ref 463) (n + 1) [d0] μ d μ' :=
  Fn.intro (f := F_is_atomic_kind) (ns := ["kind"]) (rest := []) (dd := []) (dv := []) (k_is_atomic_kind (P := w.params)) c_is_atomic_kind rfl ⟨rfl, rfl, rfl, by kernel_rfl, by kernel_rfl⟩ ok_is_atomic_kind rfl rfl rfl (bind1 fun _ _ _ => .of_eq (by rfl)) (fun _ _ => .nil) ad hx
noncomputable abbrev F_with_names : Fi := fi 71 ["v", "names"]
theorem ok_with_names : F_with_names.Ok := .of (by kernel_rfl)
theorem k_with_names : (K0 P).lookup 489 = some (o489 P) := by kernel_rfl
theorem c_with_names : codeIn (K0 P) (.ref 488) "with_names" = true := by kernel_rfl
theorem g_with_names : Gl P "with_names" 489 := ⟨by kernel_rfl, by kernel_rfl⟩
theorem C_with_names (h2 : EvL (cx w) f n Γ μ args ds μ2) (hf : Cal (cx w) f n Γ (.ref 489) ds μ2 d μ3) (hk : f.cs.names.lookup ("with_names" : Str) = some .globalImplicit) : Ev (cx w) f n Γ μ (.Call (.Name "with_names" p) args [] pos) d μ3 := Ev.cg g_with_names h2 hf hk
theorem in_with_names (ad : addrs μ' = addrs μ) (hx : En w n F_with_names [some d0, some d1] μ (sB (nth bd 71)) d μ') : Fn (cx w) (.ref 489) (n + 1) [d0, d1] μ d μ' :=
  Fn.intro (f := F_with_names) (ns := ["v", "names"]) (rest := []) (dd := []) (dv := []) (k_with_names (P := w.params)) c_with_names rfl ⟨rfl, rfl, rfl, by kernel_rfl, by kernel_rfl⟩ ok_with_names rfl rfl rfl (bind2 fun _ _ _ _ => .of_eq (by rfl)) (fun _ _ => .nil) ad hx
noncomputable abbrev F_as_kind : Fi := fi 72 ["v", "kind", "notes", "items"]
theorem ok_as_kind : F_as_kind.Ok := .of (by kernel_rfl)
theorem k_as_kind : (K0 P).lookup 494 = some (o494 P) := by kernel_rfl
theorem c_as_kind : codeIn (K0 P) (.ref 493) "as_kind" = true := by kernel_rfl
theorem g_as_kind : Gl P "as_kind" 494 := ⟨by kernel_rfl, by kernel_rfl⟩
theorem C_as_kind (h2 : EvL (cx w) f n Γ μ args ds μ2) (hf : Cal (cx w) f n Γ (.ref 494) ds μ2 d μ3) (hk : f.cs.names.lookup ("as_kind" : Str) = some .globalImplicit) : Ev (cx w) f n Γ μ (.Call (.Name "as_kind" p) args [] pos) d μ3 := Ev.cg g_as_kind h2 hf hk
theorem in_as_kind (ad : addrs μ' = addrs μ) (hx : En w n F_as_kind [some d0, some d1, some d2, none] μ (sB (nth bd 72)) d μ') : Fn (cx w) (.ref 494) (n + 1) [d0, d1, d2] μ d μ' :=
  Fn.intro (f := F_as_kind) (ns := ["v", "kind", "notes"]) (rest := ["items"]) (dd := []) (dv := []) (k_as_kind (P := w.params)) c_as_kind rfl ⟨rfl, rfl, rfl, by kernel_rfl, by kernel_rfl⟩ ok_as_kind rfl rfl rfl (bind3 fun _ _ _ _ _ => .of_eq (by rfl)) (fun _ _ => .nil) ad hx
noncomputable abbrev F_is_factor : Fi := fi 82 ["v"]
theorem ok_is_factor : F_is_factor.Ok := .of (by kernel_rfl)
theorem k_is_factor : (K0 P).lookup 550 = some (o550 P) := by kernel_rfl
theorem c_is_factor : codeIn (K0 P) (.ref 549) "is_factor" = true := by kernel_rfl
theorem g_is_factor : Gl P "is_factor" 550 := ⟨by kernel_rfl, by kernel_rfl⟩
theorem C_is_factor (h2 : EvL (cx w) f n Γ μ args ds μ2) (hf : Cal (cx w) f n Γ (.ref 550) ds μ2 d μ3) (hk : f.cs.names.lookup ("is_factor" : Str) = some .globalImplicit) : Ev (cx w) f n Γ μ (.Call (.Name "is_factor" p) args [] pos) d μ3 := Ev.cg g_is_factor h2 hf hk
theorem in_is_factor (ad : addrs μ' = addrs μ) (hx : En w n F_is_factor [some d0] μ (sB (nth bd 82)) d μ') : Fn (cx w) (.ref 550) (n + 1) [d0] μ d μ' :=
  Fn.intro (f := F_is_factor) (ns := ["v"]) (rest := []) (dd := []) (dv := []) (k_is_factor (P := w.params)) c_is_factor rfl ⟨rfl, rfl, rfl, by kernel_rfl, by kernel_rfl⟩ ok_is_factor rfl rfl rfl (bind1 fun _ _ _ => .of_eq (by rfl)) (fun _ _ => .nil) ad hx
theorem b_len : Bl P "len" (.builtin "len") := ⟨by kernel_rfl, by kernel_rfl, by decide +kernel, .inl ⟨_, rfl⟩⟩
theorem b_range : Bl P "range" (.type "range") := ⟨by kernel_rfl, by kernel_rfl, by decide +kernel, .inr ⟨_, rfl⟩⟩
theorem b_abs : Bl P "abs" (.builtin "abs") := ⟨by kernel_rfl, by kernel_rfl, by decide +kernel, .inl ⟨_, rfl⟩⟩
theorem b_max : Bl P "max" (.builtin "max") := ⟨by kernel_rfl, by kernel_rfl, by decide +kernel, .inl ⟨_, rfl⟩⟩
theorem b_str : Bl P "str" (.type "str") := ⟨by kernel_rfl, by kernel_rfl, by decide +kernel, .inr ⟨_, rfl⟩⟩
theorem b_chr : Bl P "chr" (.builtin "chr") := ⟨by kernel_rfl, by kernel_rfl, by decide +kernel, .inl ⟨_, rfl⟩⟩
theorem b_list : Bl P "list" (.type "list") := ⟨by kernel_rfl, by kernel_rfl, by decide +kernel, .inr ⟨_, rfl⟩⟩
theorem b_isinstance : Bl P "isinstance" (.builtin "isinstance") := ⟨by kernel_rfl, by kernel_rfl, by decide +kernel, .inl ⟨_, rfl⟩⟩
theorem b_sorted : Bl P "sorted" (.builtin "sorted") := ⟨by kernel_rfl, by kernel_rfl, by decide +kernel, .inl ⟨_, rfl⟩⟩
theorem B_len (h2 : EvL (cx w) f n Γ μ args ds μ2) (hf : Cal (cx w) f n Γ (.builtin "len") ds μ2 d μ3) (hk : f.cs.names.lookup ("len" : Str) = some .globalImplicit) : Ev (cx w) f n Γ μ (.Call (.Name "len" p) args [] pos) d μ3 := Ev.cb b_len h2 hf hk
theorem B_range (h2 : EvL (cx w) f n Γ μ args ds μ2) (hf : Cal (cx w) f n Γ (.type "range") ds μ2 d μ3) (hk : f.cs.names.lookup ("range" : Str) = some .globalImplicit) : Ev (cx w) f n Γ μ (.Call (.Name "range" p) args [] pos) d μ3 := Ev.cb b_range h2 hf hk
theorem B_abs (h2 : EvL (cx w) f n Γ μ args ds μ2) (hf : Cal (cx w) f n Γ (.builtin "abs") ds μ2 d μ3) (hk : f.cs.names.lookup ("abs" : Str) = some .globalImplicit) : Ev (cx w) f n Γ μ (.Call (.Name "abs" p) args [] pos) d μ3 := Ev.cb b_abs h2 hf hk
theorem B_max (h2 : EvL (cx w) f n Γ μ args ds μ2) (hf : Cal (cx w) f n Γ (.builtin "max") ds μ2 d μ3) (hk : f.cs.names.lookup ("max" : Str) = some .globalImplicit) : Ev (cx w) f n Γ μ (.Call (.Name "max" p) args [] pos) d μ3 := Ev.cb b_max h2 hf hk
theorem B_str (h2 : EvL (cx w) f n Γ μ args ds μ2) (hf : Cal (cx w) f n Γ (.type "str") ds μ2 d μ3) (hk : f.cs.names.lookup ("str" : Str) = some .globalImplicit) : Ev (cx w) f n Γ μ (.Call (.Name "str" p) args [] pos) d μ3 := Ev.cb b_str h2 hf hk
theorem B_chr (h2 : EvL (cx w) f n Γ μ args ds μ2) (hf : Cal (cx w) f n Γ (.builtin "chr") ds μ2 d μ3) (hk : f.cs.names.lookup ("chr" : Str) = some .globalImplicit) : Ev (cx w) f n Γ μ (.Call (.Name "chr" p) args [] pos) d μ3 := Ev.cb b_chr h2 hf hk
theorem B_list (h2 : EvL (cx w) f n Γ μ args ds μ2) (hf : Cal (cx w) f n Γ (.type "list") ds μ2 d μ3) (hk : f.cs.names.lookup ("list" : Str) = some .globalImplicit) : Ev (cx w) f n Γ μ (.Call (.Name "list" p) args [] pos) d μ3 := Ev.cb b_list h2 hf hk
theorem B_isinstance (h2 : EvL (cx w) f n Γ μ args ds μ2) (hf : Cal (cx w) f n Γ (.builtin "isinstance") ds μ2 d μ3) (hk : f.cs.names.lookup ("isinstance" : Str) = some .globalImplicit) : Ev (cx w) f n Γ μ (.Call (.Name "isinstance" p) args [] pos) d μ3 := Ev.cb b_isinstance h2 hf hk
theorem B_sorted (h2 : EvL (cx w) f n Γ μ args ds μ2) (hf : Cal (cx w) f n Γ (.builtin "sorted") ds μ2 d μ3) (hk : f.cs.names.lookup ("sorted" : Str) = some .globalImplicit) : Ev (cx w) f n Γ μ (.Call (.Name "sorted" p) args [] pos) d μ3 := Ev.cb b_sorted h2 hf hk
theorem g_Null : Gl P "Null" 229 := ⟨by kernel_rfl, by kernel_rfl⟩
theorem mk_Null : makesIn (K0 P) 229 = true := by kernel_rfl
theorem ini_Null : findIn (K0 P) (.ref 229) "__init__" = some (some (.ref 226)) ∧ typeIn (K0 P) (.ref 226) = some (.type "function") := ⟨by kernel_rfl, by kernel_rfl⟩
theorem co_Null : ClsOk (K0 P) 229 := ⟨by kernel_rfl, by kernel_rfl⟩
theorem so_Null_kind : SetOk (K0 P) 229 "kind" := ⟨by kernel_rfl, by kernel_rfl, by kernel_rfl, by kernel_rfl⟩
theorem fo_Null_kind : findIn (K0 P) (.ref 229) "kind" = some none := by kernel_rfl
theorem so_Null_attrs : SetOk (K0 P) 229 "attrs" := ⟨by kernel_rfl, by kernel_rfl, by kernel_rfl, by kernel_rfl⟩
theorem fo_Null_attrs : findIn (K0 P) (.ref 229) "attrs" = some none := by kernel_rfl
theorem g_Vector : Gl P "Vector" 258 := ⟨by kernel_rfl, by kernel_rfl⟩
theorem mk_Vector : makesIn (K0 P) 258 = true := by kernel_rfl
theorem ini_Vector : findIn (K0 P) (.ref 258) "__init__" = some (some (.ref 248)) ∧ typeIn (K0 P) (.ref 248) = some (.type "function") := ⟨by kernel_rfl, by kernel_rfl⟩
theorem co_Vector : ClsOk (K0 P) 258 := ⟨by kernel_rfl, by kernel_rfl⟩
theorem so_Vector_kind : SetOk (K0 P) 258 "kind" := ⟨by kernel_rfl, by kernel_rfl, by kernel_rfl, by kernel_rfl⟩
theorem fo_Vector_kind : findIn (K0 P) (.ref 258) "kind" = some none := by kernel_rfl
theorem so_Vector_items : SetOk (K0 P) 258 "items" := ⟨by kernel_rfl, by kernel_rfl, by kernel_rfl, by kernel_rfl⟩
theorem fo_Vector_items : findIn (K0 P) (.ref 258) "items" = some none := by kernel_rfl
theorem so_Vector_attrs : SetOk (K0 P) 258 "attrs" := ⟨by kernel_rfl, by kernel_rfl, by kernel_rfl, by kernel_rfl⟩
theorem fo_Vector_attrs : findIn (K0 P) (.ref 258) "attrs" = some none := by kernel_rfl
theorem so_Vector_shared : SetOk (K0 P) 258 "shared" := ⟨by kernel_rfl, by kernel_rfl, by kernel_rfl, by kernel_rfl⟩
theorem so_Vector_loose : SetOk (K0 P) 258 "loose" := ⟨by kernel_rfl, by kernel_rfl, by kernel_rfl, by kernel_rfl⟩
end
end Mine
namespace Mine
local macro_rules | `(tactic| walk_at "m:len") => `(tactic| first | assumption | omega | (simp only [List.length_map, List.length_reverse, List.length_append, List.length_cons, List.length_nil, List.length_range, len_app]; omega) | decide)
local macro_rules | `(tactic| walk_at "m:le") => `(tactic| first | omega | decide)
local macro_rules | `(tactic| walk_at "m:q") => `(tactic| first | decide +kernel | assumption | rfl)
local macro_rules | `(tactic| walk_at "m:small") => `(tactic| refine small_log ?_ ?_ <;> omega)
local macro_rules | `(tactic| walk_at "m:s") => `(tactic| first | assumption | omega | decide | walk_at "m:len" | decide +kernel | rfl)
local macro_rules | `(tactic| walk_at "m:d") => `(tactic| first | decide | omega)
local macro_rules | `(tactic| walk_at "m:op") => `(tactic| first
  | ((with_reducible first | apply o_is | apply o_isNot); rfl)
  | ((with_reducible first | apply x_eqI | apply x_ltI | apply x_leI | apply x_gtI | apply x_geI | apply x_neI | apply x_addI | apply x_subI | apply x_iaddI | apply x_isubI); rfl; rfl)
  | ((with_reducible first | apply x_eqS | apply x_neS); rfl; rfl)
  | ((with_reducible apply x_modI); rfl; rfl; walk_at "m:d")
  | ((with_reducible apply x_divI); rfl; rfl; walk_at "m:d"; walk_at "m:d")
  | ((with_reducible apply x_addT); rfl; rfl; walk_at "m:len"; walk_at "m:len")
  | ((with_reducible apply o_addLT); walk_at "m:len"; walk_at "m:len")
  | ((with_reducible first | apply o_inST | apply o_inS); rfl; decide +kernel; decide +kernel)
  | ((with_reducible first | apply o_inI | apply o_ninI); walk_at "m:sOks"; walk_at "m:sOk"))
local macro_rules | `(tactic| walk_at "m:sOk") => `(tactic| assumption)
local macro_rules | `(tactic| walk_at "m:sOks") => `(tactic| assumption)
local macro_rules | `(tactic| walk_at "m:it") => `(tactic| first
  | exact o_itDT (by decide) (by decide) rfl rfl
  | exact o_itT (by decide) (by decide) rfl rfl
  | exact o_itG (by walk_at "m:le") (by walk_at "m:len"))
local macro_rules | `(tactic| walk_at "m:isT") => `(tactic| first
  | exact isT_dT
  | exact isT_tup
  | exact isT_lst
  | exact isT_dL
  | exact isT_str)
local macro_rules | `(tactic| walk_at "m:getT") => `(tactic| first
  | exact getT_tuple
  | exact getT_list
  | exact getT_str)
local macro_rules | `(tactic| walk_at "m:evl") => `(tactic| first
  | exact EvL.nil
  | (apply EvL.cons; walk_at "m:ev"; walk_at "m:evl"; rfl))
local macro_rules | `(tactic| walk_at "m:fb") => `(tactic| first
  | exact f_range
  | exact f_abs
  | exact f_max
  | (apply f_str; walk_at "m:small")
  | ((first | apply f_lenT | apply f_lenX | apply f_listT | apply f_chr) <;> walk_at "m:len"))
local macro_rules | `(tactic| walk_at "m:call") => `(tactic| first
  | ((with_reducible first | apply C_item_key | apply C_is_vector | apply C_is_listed | apply C_is_atomic | apply C_is_atomic_kind | apply C_get_attr | apply C_class_attr | apply C_is_factor | apply C_level_at | apply C_label_text | apply C_label_texts | apply C_dim_of | apply C_names_of | apply C_with_names | apply C_turned | apply C_kind_order | apply C_common_kind | apply C_to_text | apply C_item_as | apply C_as_kind | apply C_first_places | apply C_unique_places | apply C_duplicated_flags | apply C_law_reduced | apply C_law_plain_text | apply C_law_as | apply C_law_spots | apply C_number_text | apply C_law_next | apply C_law_vector | apply C_law_item | apply C_from_int | apply C_to_integer | apply C_to_double | apply C_distinct); walk_at "m:evl"; walk_at "m:fn"; kernel_rfl)
  | ((with_reducible first | apply B_len | apply B_str | apply B_range | apply B_list | apply B_abs | apply B_max | apply B_chr); walk_at "m:evl"; (apply Cal.b0; walk_at "m:fb"); kernel_rfl)
  | ((with_reducible apply B_isinstance); (exact EvL.cons (by walk_at "m:ev") (EvL.cons (Ev.gv g_Vector.1) EvL.nil rfl) rfl); (apply Cal.b0; apply f_isi; kernel_rfl); kernel_rfl))
local macro_rules | `(tactic| walk_at "m:attr") => `(tactic| first
  | exact fo_Vector_kind
  | exact fo_Vector_items
  | exact fo_Vector_attrs)
local macro_rules | `(tactic| walk_at "m:ev") => `(tactic| first
  | exact nm (by rfl)
  | exact Ev.int
  | exact Ev.str
  | exact Ev.none
  | exact Ev.bool
  | (apply Ev.attr; walk_at "m:ev"; (first | (exact co_Vector; walk_at "m:attr") | (exact co_Null; first | exact fo_Null_kind | exact fo_Null_attrs)); rfl; (first | rfl | assumption); intro _ _; rfl)
  | (apply Ev.sub; walk_at "m:ev"; walk_at "m:ev"; walk_at "m:isT"; walk_at "m:getT"; walk_at "m:it"; rfl)
  | (apply Ev.cmp; walk_at "m:ev"; walk_at "m:ev"; walk_at "m:op"; with_unfolding_all rfl)
  | (apply Ev.binop; walk_at "m:ev"; walk_at "m:ev"; walk_at "m:op")
  | ((first | apply Ev.tuple | apply Ev.list); walk_at "m:evl"; walk_at "m:disp")
  | ((with_reducible apply Ev.ifexp_t); (apply Ts.re; walk_at "m:ts"; walk_at "m:q"); walk_at "m:ev")
  | ((with_reducible apply Ev.ifexp_f); (apply Ts.re; walk_at "m:ts"; walk_at "m:q"); walk_at "m:ev")
  | ((with_reducible apply Ev.ife); walk_at "m:ts"; (intro _; walk_at "m:ev"); (intro _; walk_at "m:ev"))
  | (apply Ev.neg; walk_at "m:ev")
  | (apply Ev.boolop; walk_at "m:bo")
  | walk_at "m:call")
local macro_rules | `(tactic| walk_at "m:tindex") => `(tactic| (refine' Ev.methC ?a ?b kd_tup m_tindex (Cal.b0 ?c); (case a => walk_at "m:ev"); (case b => walk_at "m:evl"); (case c => (refine' f_tindexS ?x ?y ?z; (case x => rfl); (case y => decide +kernel); (case z => decide +kernel)))))
local macro_rules | `(tactic| walk_at "m:disp") => `(tactic| first | decide | (simp only [List.length_cons, List.length_nil]; decide))
local macro_rules | `(tactic| walk_at "m:bo") => `(tactic| first
  | (apply Bo.one; walk_at "m:ev")
  | ((first | apply Bo.and | apply Bo.or); walk_at "m:ev"; intro _; walk_at "m:bo"))
local macro_rules | `(tactic| walk_at "m:ts") => `(tactic| first
  | (apply Ts.cmp; walk_at "m:ev"; walk_at "m:ev"; walk_at "m:op"; with_unfolding_all rfl)
  | (apply Ts.not; walk_at "m:ts")
  | exact Ts.and_nil
  | exact Ts.or_nil
  | ((first | apply Ts.and_f | apply Ts.or_t); apply Ts.re; walk_at "m:ts"; walk_at "m:q")
  | ((first | apply Ts.and | apply Ts.or); walk_at "m:ts"; intro _; walk_at "m:ts")
  | (apply Ts.val; walk_at "m:ev"; exact tr_bool; rfl))
local macro_rules | `(tactic| walk_at "m:asg") => `(tactic| first
  | exact AsgR.here
  | (refine' AsgR.there ?a; (case a => walk_at "m:asg")))
local macro_rules | `(tactic| walk_at "m:go") => `(tactic| ((with_reducible refine' Ex.lit ?h ?k); (case h => rfl)))
local macro_rules | `(tactic| walk_at "m:as") => `(tactic| ((with_reducible refine' Ex.cons (Ex1.asg ?a ?s ?b ?c)); (case c => rfl); (case a => walk_at "m:ev"); (case s => walk_at "m:asg"); show Ex _ _ _ _ _ _ _))
local macro_rules | `(tactic| walk_at "m:aug") => `(tactic| ((with_reducible refine' Ex.cons (Ex1.augR ?d ?a ?o ?s ?b ?nd ?hb)); (case nd => decide); (case hb => decide); (case d => rfl); (case a => walk_at "m:ev"); (case o => walk_at "m:op"); (case s => walk_at "m:asg"); show Ex _ _ _ _ _ _ _))
local macro_rules | `(tactic| walk_at "m:ret0") => `(tactic| (with_reducible refine' Ex.cons (Ex1.ret ?a ?b)))
local macro_rules | `(tactic| walk_at "m:ret") => `(tactic| ((with_reducible refine' Ex.cons (Ex1.ret ?a ?b)); (case a => walk_at "m:ev"); (first | exact Or.inl rfl | show _ ∨ _)))
local macro_rules | `(tactic| walk_at "m:yes") => `(tactic| ((with_reducible refine' Ex.cons (Ex1.if_t (Ts.re ?a ?q) ?b)); (case a => walk_at "m:ts"); (case q => walk_at "m:q")))
local macro_rules | `(tactic| walk_at "m:no") => `(tactic| ((with_reducible refine' Ex.cons (Ex1.if_f (Ts.re ?a ?q) (Ex.nilT ?b))); (case a => walk_at "m:ts"); (case q => walk_at "m:q")))
local macro_rules | `(tactic| walk_at "m:else") => `(tactic| ((with_reducible refine' Ex.cons (Ex1.if_f (Ts.re ?a ?q) ?b)); (case a => walk_at "m:ts"); (case q => walk_at "m:q")))
local macro_rules | `(tactic| walk_at "m:if") => `(tactic| ((with_reducible refine' Ex.cons (Ex1.iff ?a ?b ?c)); (case a => walk_at "m:ts")))
local macro_rules | `(tactic| walk_at "m:setA") => `(tactic| ((with_reducible refine' Ex.cons (Ex1.setAttr [] ?a ?b ?c ?d ?e ?hc)); (case hc => rfl); (case a => walk_at "m:ev"); (case b => exact nm (by rfl)); (case c => first | exact so_Vector_kind | exact so_Vector_items | exact so_Vector_attrs | exact so_Vector_shared | exact so_Vector_loose | exact so_Null_kind | exact so_Null_attrs); (case d => walk_at "m:disp")))
local macro_rules | `(tactic| walk_at "m:sub") => `(tactic| first | exact Sub.nil | (refine' Sub.none ?a; (case a => walk_at "m:sub")) | (refine' Sub.some ?a ?e; (case e => first | rfl | assumption); (case a => walk_at "m:sub")))
local macro_rules | `(tactic| walk_at "m:end") => `(tactic| exact Ex.nil (Or.inr ⟨_, rfl, rfl⟩))
local macro_rules | `(tactic| walk_at "m:swap") => `(tactic| (intro E h; cases E; cases h; kernel_rfl))
variable {w : World}
theorem fn_item_key {k : Nat} {x : It} (hk : k < 4) (h : okI k x = true) : Fn (cx w) (.ref 557) 2 [dS (kn k), iD x] [] (dS (key x)) [] := by
  match k, hk with
  | 0, _ =>
    rcases oi0 h with rfl | rfl | rfl
    all_goals refine in_item_key rfl ?_
    all_goals walk_at "m:go"
    · walk_at "m:yes"
      walk_at "m:ret"
    all_goals walk_at "m:no"
    all_goals walk_at "m:no"
    all_goals walk_at "m:no"
    all_goals walk_at "m:ret"
  | 1, _ =>
    rcases oi1 h with rfl | ⟨i, rfl, h1, h2⟩
    all_goals refine in_item_key rfl ?_
    all_goals walk_at "m:go"
    · walk_at "m:yes"
      walk_at "m:ret"
    all_goals walk_at "m:no"
    all_goals walk_at "m:no"
    all_goals walk_at "m:no"
    all_goals walk_at "m:ret"
  | 2, _ =>
    rcases oi2 h with rfl | ⟨n, d, rfl, hr⟩
    all_goals refine in_item_key rfl ?_
    all_goals walk_at "m:go"
    · walk_at "m:yes"
      walk_at "m:ret"
    obtain ⟨h1, h2, h3, h4⟩ := okR_b hr
    have l1 := len_int (a := n) (by omega) (by omega)
    have l2 := len_int (a := d) (by omega) (by omega)
    have l3 : ("/" : Str).length = 1 := by decide
    walk_at "m:no"
    walk_at "m:no"
    walk_at "m:yes"
    walk_at "m:ret"
  | 3, _ =>
    rcases oi3 h with rfl | ⟨s, rfl, hs⟩
    all_goals refine in_item_key rfl ?_
    all_goals walk_at "m:go"
    · walk_at "m:yes"
      walk_at "m:ret"
    have l3 : ("=" : Str).length = 1 := by decide
    all_goals walk_at "m:no"
    all_goals walk_at "m:yes"
    all_goals walk_at "m:ret"
local macro_rules | `(tactic| walk_at "m:fn") => `(tactic| refine Cal.of0 (fn_item_key ?_ ?_) ?_ <;> walk_at "m:s")
section
variable {w : World}
theorem mkVec {n : Nat} {dk di : D} : FnN (cx w) (.ref 258) (n + 2) [dk, di] (.dct [("kind", dk), ("items", di), ("attrs", dN), ("shared", dB false), ("loose", dB false)]) (fun dx => .obj 258 dx) := by
  refine FnN.make mk_Vector ini_Vector.1 ini_Vector.2 fun dx => inK_Vector_init_d rfl ?_
  walk_at "m:go"
  walk_at "m:setA"
  show Ex _ _ _ _ [(dx, .dct [("kind", _)])] _ _
  walk_at "m:setA"
  show Ex _ _ _ _ [(dx, .dct [("kind", _), ("items", _)])] _ _
  walk_at "m:setA"
  show Ex _ _ _ _ [(dx, .dct [("kind", _), ("items", _), ("attrs", _)])] _ _
  walk_at "m:setA"
  show Ex _ _ _ _ [(dx, .dct [("kind", _), ("items", _), ("attrs", _), ("shared", _)])] _ _
  walk_at "m:setA"
  show Ex _ _ _ _ [(dx, .dct [("kind", _), ("items", _), ("attrs", _), ("shared", _), ("loose", _)])] _ _
  walk_at "m:end"
theorem mkNull {n : Nat} : FnN (cx w) (.ref 229) (n + 2) [] (.dct [("kind", dS "NULL"), ("attrs", dN)]) (fun dx => .obj 229 dx) := by
  refine FnN.make mk_Null ini_Null.1 ini_Null.2 fun dx => inK_Null_init rfl ?_
  walk_at "m:go"
  walk_at "m:setA"
  show Ex _ _ _ _ [(dx, .dct [("kind", _)])] _ _
  walk_at "m:setA"
  show Ex _ _ _ _ [(dx, .dct [("kind", _), ("attrs", _)])] _ _
  walk_at "m:end"
noncomputable abbrev vI (dk di da : D) : D := .inst 258 [("kind", dk), ("items", di), ("attrs", da), ("shared", dB false), ("loose", dB false)]
noncomputable abbrev nullD : D := .inst 229 [("kind", dS "NULL"), ("attrs", dN)]
theorem Ev.vec {f : Fi} {n : Nat} {Γ : Ga} {μ μ1 : Mu} {p pos : Pos} {e1 e2 : Expr} {dk di : D} (h : EvL (cx w) f (n + 2) Γ μ [e1, e2] [dk, di] μ1) (hk : f.cs.names.lookup ("Vector" : Str) = some .globalImplicit := by kernel_rfl) :
    Ev (cx w) f (n + 2) Γ μ (.Call (.Name "Vector" p) [e1, e2] [] pos) (vI dk di dN) μ1 := (EvN.cg g_Vector h mkVec (Nat.le_refl _) hk).inst
theorem Ev.null {f : Fi} {n : Nat} {Γ : Ga} {μ : Mu} {p pos : Pos} (hk : f.cs.names.lookup ("Null" : Str) = some .globalImplicit := by kernel_rfl) :
    Ev (cx w) f (n + 2) Γ μ (.Call (.Name "Null" p) [] [] pos) nullD μ := (EvN.cg g_Null .nil mkNull (Nat.le_refl _) hk).inst
end
local macro_rules | `(tactic| walk_at "m:call") => `(tactic| first | ((with_reducible apply Ev.vec); walk_at "m:evl"; kernel_rfl) | ((with_reducible apply Ev.null); kernel_rfl))
section
variable {w : World}
noncomputable abbrev vec (k : Nat) (xs : List It) : D := vI (dS (kn k)) (.lst (xs.map iD)) dN
noncomputable abbrev levs : List It := [iS "a", iS "10", iS "b"]
noncomputable abbrev facA : List (Str × D) := [("levels", vec 3 levs), ("class", vec 3 [iS "factor"])]
noncomputable abbrev fac (xs : List It) : D := vI (dS "integer") (.lst (xs.map iD)) (.dct facA)
theorem fn_is_listed {k : Nat} {di da : D} (hk : k < 4) : Fn (cx w) (.ref 564) 2 [vI (dS (kn k)) di da] [] (dB false) [] := by
  match k, hk with
  | 0, _ | 1, _ | 2, _ | 3, _ =>
    refine in_is_listed rfl ?_
    walk_at "m:go"
    walk_at "m:ret"
theorem fn_is_atomic {k : Nat} {di da : D} (hk : k < 4) : Fn (cx w) (.ref 290) 2 [vI (dS (kn k)) di da] [] (dB true) [] := by
  match k, hk with
  | 0, _ | 1, _ | 2, _ | 3, _ =>
    refine in_is_atomic rfl ?_
    walk_at "m:go"
    walk_at "m:ret"
theorem fn_is_atomic_kind {k : Nat} (hk : k < 4) : Fn (cx w) (.ref 463) 2 [dS (kn k)] [] (dB true) [] := by
  match k, hk with
  | 0, _ | 1, _ | 2, _ | 3, _ =>
    refine in_is_atomic_kind rfl ?_
    walk_at "m:go"
    walk_at "m:ret"
theorem fn_is_vector {dk di da : D} : Fn (cx w) (.ref 283) 2 [vI dk di da] [] (dB true) [] := by
  refine in_is_vector rfl ?_
  walk_at "m:go"
  refine' Ex.cons (Ex1.ret (Ev.cb b_isinstance (.cons (nm (by rfl)) (.cons (Ev.gv g_Vector.1) .nil)) (Cal.b0 (f_isi ?_))) (.inl rfl))
  kernel_rfl
theorem fn_get_attr_none {dk di : D} {x : Str} : Fn (cx w) (.ref 304) 2 [vI dk di dN, dS x] [] dN [] := by
  refine in_get_attr rfl ?_
  walk_at "m:go"
  walk_at "m:yes"
  walk_at "m:ret"
theorem fn_get_attr_dct {dk di : D} {x : Str} {fs : List (Str × D)} {d : D} (nd : (fs.map (·.1)).Nodup) (e : (valD fs x).getD dN = d) : Fn (cx w) (.ref 304) 2 [vI dk di (.dct fs), dS x] [] d [] := by
  subst e
  refine in_get_attr rfl ?_
  walk_at "m:go"
  walk_at "m:no"
  refine' Ex.cons (Ex1.ret (Ev.methC ?q_a ?q_b kd_dct m_get (Cal.b0 (f_getDct nd))) (.inl rfl))
  · walk_at "m:ev"
  · walk_at "m:evl"
end
local macro_rules | `(tactic| walk_at "m:fn") => `(tactic| exact Cal.of0 fn_is_vector (by decide))
local macro_rules | `(tactic| walk_at "m:fn") => `(tactic| refine Cal.of0 (fn_is_listed ?_) ?_ <;> walk_at "m:s")
local macro_rules | `(tactic| walk_at "m:fn") => `(tactic| refine Cal.of0 (fn_is_atomic ?_) ?_ <;> walk_at "m:s")
local macro_rules | `(tactic| walk_at "m:fn") => `(tactic| refine Cal.of0 (fn_is_atomic_kind ?_) ?_ <;> walk_at "m:s")
local macro_rules | `(tactic| walk_at "m:fn") => `(tactic| first | exact Cal.of0 fn_get_attr_none (by decide) | exact Cal.of0 (fn_get_attr_dct (by decide +kernel) rfl) (by decide))
section
variable {w : World}
theorem fn_class_attr_none {dk di : D} : Fn (cx w) (.ref 347) 3 [vI dk di dN] [] (.lst []) [] := by
  refine in_class_attr rfl ?_
  walk_at "m:go"
  walk_at "m:as"
  walk_at "m:yes"
  walk_at "m:ret"
theorem fn_class_attr_fac {xs : List It} : Fn (cx w) (.ref 347) 3 [fac xs] [] (.lst [dS "factor"]) [] := by
  refine in_class_attr rfl ?_
  walk_at "m:go"
  walk_at "m:as"
  walk_at "m:no"
  walk_at "m:ret"

local macro_rules | `(tactic| walk_at "m:fn") => `(tactic| first | exact Cal.of0 fn_class_attr_none (by decide) | exact Cal.of0 fn_class_attr_fac (by decide))
theorem fn_is_factor_none {k : Nat} {di : D} (hk : k < 4) : Fn (cx w) (.ref 550) 4 [vI (dS (kn k)) di dN] [] (dB false) [] := by
  match k, hk with
  | 0, _ | 2, _ | 3, _ =>
    refine in_is_factor rfl ?_
    walk_at "m:go"
    refine' Ex.cons (Ex1.ret (Ev.boolop (Bo.stop (b := false) (Ev.eq ?q_a1 ?q_c1) rfl)) (.inl rfl))
    (case q_a1 => walk_at "m:ev")
    (case q_c1 => rfl)
  | 1, _ =>
    refine in_is_factor rfl ?_
    walk_at "m:go"
    refine' Ex.cons (Ex1.ret (Ev.boolop (Bo.next (b := true) (Ev.eq ?q_a2 ?q_c2) rfl (Bo.stop (b := false) (Ev.eq ?q_b3 ?q_d3) rfl))) (.inl rfl))
    (case q_a2 => walk_at "m:ev")
    (case q_c2 => rfl)
    (case q_b3 => walk_at "m:ev")
    (case q_d3 => rfl)
theorem fn_is_factor_fac {xs : List It} : Fn (cx w) (.ref 550) 4 [fac xs] [] (dB true) [] := by
  refine in_is_factor rfl ?_
  walk_at "m:go"
  walk_at "m:ret"
noncomputable def lev : It → It
  | some (0, i, _, _) => iS (["a", "10", "b"].getD (i - 1).toNat "")
  | _ => none
noncomputable def okF : It → Bool
  | none => true
  | some (0, i, d, s) => (i == 1 || i == 2 || i == 3) && d == 0 && s == ""
  | _ => false
theorem oiF {x : It} (h : okF x = true) : x = none ∨ x = iI 1 ∨ x = iI 2 ∨ x = iI 3 := by
  match x, h with
  | none, _ => exact .inl rfl
  | some (0, i, d, s), h =>
    have h : ((i == 1 || i == 2 || i == 3) && d == 0 && s == "") = true := h
    simp only [Bool.and_eq_true, Bool.or_eq_true, beq_iff_eq] at h
    obtain ⟨⟨(rfl | rfl) | rfl, rfl⟩, rfl⟩ := h
    · exact .inr (.inl rfl)
    · exact .inr (.inr (.inl rfl))
    · exact .inr (.inr (.inr rfl))
  | some (_ + 1, i, d, s), h => exact absurd h Bool.false_ne_true
theorem fn_level_at {x : It} (h : okF x = true) : Fn (cx w) (.ref 318) 2 [.lst (levs.map iD), iD x] [] (iD (lev x)) [] := by
  rcases oiF h with rfl | rfl | rfl | rfl
  all_goals refine in_level_at rfl ?_
  all_goals walk_at "m:go"
  · walk_at "m:yes"
    walk_at "m:ret"
  all_goals walk_at "m:no"
  all_goals walk_at "m:ret"
theorem fn_label_text_ch {x : It} (h : okI 3 x = true) : Fn (cx w) (.ref 311) 2 [dS "character", iD x] [] (iD x) [] := by
  rcases oi3 h with rfl | ⟨s, rfl, _⟩
  all_goals refine in_label_text rfl ?_
  all_goals walk_at "m:go"
  all_goals walk_at "m:yes"
  all_goals walk_at "m:ret"
end
local macro_rules | `(tactic| walk_at "m:fn") => `(tactic| first | exact Cal.of0 fn_class_attr_none (by decide) | exact Cal.of0 fn_class_attr_fac (by decide))
local macro_rules | `(tactic| walk_at "m:fn") => `(tactic| first | refine Cal.of0 (fn_is_factor_none ?_) ?_ <;> walk_at "m:s" | exact Cal.of0 fn_is_factor_fac (by decide))
local macro_rules | `(tactic| walk_at "m:fn") => `(tactic| refine Cal.of0 (fn_level_at ?_) ?_ <;> walk_at "m:s")
local macro_rules | `(tactic| walk_at "m:fn") => `(tactic| refine Cal.of0 (fn_label_text_ch ?_) ?_ <;> walk_at "m:s")
section
variable {w : World}
theorem sl1000 {n : Nat} (h : n ≤ 1000) : n ≤ sizeLine := Nat.le_trans h (by decide)
theorem fn_label_texts_ch {xs : List It} (h : ∀ x ∈ xs, okI 3 x = true) (hz : xs.length ≤ 1000) : Fn (cx w) (.ref 323) 4 [vec 3 xs] [] (.lst (xs.map iD)) [] := by
  refine in_label_texts rfl ?_
  walk_at "m:go"
  walk_at "m:as"
  walk_at "m:no"
  refine' Ex.cons (Ex1.ret (Ev.compM (ks := ["value"]) ?q_a iter_lst (.cons 0 rfl rfl .nil) (sl1000 hz) ?q_b) (.inl rfl))
  case q_a => walk_at "m:ev"
  case q_b =>
    intro x hx
    have h1 := h x hx
    walk_at "m:ev"
theorem fn_label_texts_fac {xs : List It} (h : ∀ x ∈ xs, okF x = true) (hz : xs.length ≤ 1000) : Fn (cx w) (.ref 323) 5 [fac xs] [] (.lst ((xs.map lev).map iD)) [] := by
  refine in_label_texts rfl ?_
  walk_at "m:go"
  walk_at "m:as"
  walk_at "m:yes"
  have hl := fn_label_texts_ch (w := w) (xs := levs) (by decide +kernel) (by decide)
  refine' Ex.cons (Ex1.asg (Ev.ifexp_t (Ts.re ?q_a ?q_b) (C_label_texts ?q_c (Cal.of0 hl) ?q_d)) ?q_e ?q_f)
  case q_a => walk_at "m:ts"
  case q_b => rfl
  case q_c => walk_at "m:evl"
  case q_d => kernel_rfl
  case q_e => walk_at "m:asg"
  show Ex _ _ _ _ _ _ _
  rw [List.map_map]
  refine' Ex.cons (Ex1.ret (Ev.compM (y := fun x => iD (lev x)) (ks := ["texts"]) ?q_g iter_lst (.cons 2 rfl rfl .nil) (sl1000 hz) ?q_i) (.inl rfl))
  case q_g => walk_at "m:ev"
  case q_i =>
    intro x hx
    have h1 := h x hx
    walk_at "m:ev"
end
local macro_rules | `(tactic| walk_at "m:fn") => `(tactic| first | refine Cal.of0 (fn_label_texts_ch ?_ ?_) ?_ <;> walk_at "m:s" | refine Cal.of0 (fn_label_texts_fac ?_ ?_) ?_ <;> walk_at "m:s")
section
variable {w : World}
theorem fn_dim_of {dk di : D} : Fn (cx w) (.ref 335) 3 [vI dk di dN] [] dN [] := by
  refine in_dim_of rfl ?_
  walk_at "m:go"
  walk_at "m:as"
  walk_at "m:yes"
  walk_at "m:ret"
local macro_rules | `(tactic| walk_at "m:fn") => `(tactic| exact Cal.of0 fn_dim_of (by decide))
theorem fn_names_of {k : Nat} {di : D} (hk : k < 4) : Fn (cx w) (.ref 328) 4 [vI (dS (kn k)) di dN] [] dN [] := by
  match k, hk with
  | 0, _ | 1, _ | 2, _ | 3, _ =>
    refine in_names_of rfl ?_
    walk_at "m:go"
    walk_at "m:no"
    walk_at "m:no"
    walk_at "m:as"
    walk_at "m:no"
    walk_at "m:as"
    walk_at "m:yes"
    walk_at "m:ret"
theorem fn_with_names {d : D} : Fn (cx w) (.ref 489) 2 [d, dN] [] d [] := by
  refine in_with_names rfl ?_
  walk_at "m:go"
  walk_at "m:no"
  walk_at "m:ret"
theorem fn_turned {k : Nat} {xs : List It} {da : D} (hz : xs.length ≤ 1000) : Fn (cx w) (.ref 590) 4 [vI (dS (kn k)) (.lst (xs.map iD)) da] [] (vec k xs.reverse) [] := by
  refine in_turned rfl ?_
  walk_at "m:go"
  refine' Ex.cons (Ex1.ret (Ev.vec (.cons ?q_a (.cons (Ev.slice ?q_b .none .none (.some (Ev.neg Ev.int)) ?q_c ?q_g (sl_rev lsOf_lst ?q_d)) .nil)) ?q_e) (.inl ?q_f))
  case q_a => walk_at "m:ev"
  case q_b => walk_at "m:ev"
  case q_c => exact isT_lst
  case q_g => exact getT_list
  case q_d => exact sl1000 (by simpa using hz)
  case q_e => kernel_rfl
  case q_f => rw [← List.map_reverse]
theorem fn_kind_order {k : Nat} (hk : k < 4) : Fn (cx w) (.ref 386) 2 [dS (kn k)] [] (dI (k + 1)) [] := by
  match k, hk with
  | 0, _ | 1, _ | 2, _ | 3, _ =>
    refine in_kind_order rfl ?_
    walk_at "m:go"
    walk_at "m:as"
    walk_at "m:yes"
    refine' Ex.cons (Ex1.ret (Ev.eq ?_ ?_) (.inl rfl))
    rotate_left
    · walk_at "m:tindex"
    · exact congrArg dI (by decide +kernel)
end
local macro_rules | `(tactic| walk_at "m:fn") => `(tactic| exact Cal.of0 fn_dim_of (by decide))
local macro_rules | `(tactic| walk_at "m:fn") => `(tactic| refine Cal.of0 (fn_names_of ?_) ?_ <;> walk_at "m:s")
local macro_rules | `(tactic| walk_at "m:fn") => `(tactic| exact Cal.of0 fn_with_names (by decide))
local macro_rules | `(tactic| walk_at "m:fn") => `(tactic| refine Cal.of0 (fn_turned ?_) ?_ <;> walk_at "m:s")
local macro_rules | `(tactic| walk_at "m:fn") => `(tactic| refine Cal.of0 (fn_kind_order ?_) ?_ <;> walk_at "m:s")
section
variable {w : World}
noncomputable abbrev kdsD : D := .tup [dS "NULL", dS "logical", dS "integer", dS "double", dS "character", dS "list", dS "expression"]
theorem fn_common_kind {a b : Nat} (ha : a < 4) (hb : b < 4) : Fn (cx w) (.ref 393) 3 [.lst [dS (kn a), dS (kn b)]] [] (dS (kn (max a b))) [] := by
  refine in_common_kind rfl ?_
  walk_at "m:go"
  walk_at "m:as"
  walk_at "m:as"
  have ka := fn_kind_order (w := w) ha
  have kb := fn_kind_order (w := w) hb
  (with_reducible refine' Ex.cons (Ex1.forIn 3 ?q_h1 iter_lst (fun k => match k with
    | 0 => [some (.lst [dS (kn a), dS (kn b)]), some kdsD, some (dI 0), none]
    | 1 => [some (.lst [dS (kn a), dS (kn b)]), some kdsD, some (dI (a + 1)), none]
    | _ => [some (.lst [dS (kn a), dS (kn b)]), some kdsD, some (dI ((max a b : Nat) + 1)), none]) (fun _ => []) ?q_I0 ?q_J0 ?q_hJ ?q_step ?q_hp ?q_hx ?q_hs))
  case q_hx => rfl
  case q_hs => intro _ _; rfl
  case q_h1 => walk_at "m:ev"
  case q_I0 =>
    show Sub _ _
    walk_at "m:sub"
  case q_J0 => rfl
  case q_hJ => intro _; rfl
  case q_step =>
    intro k d hd
    match k, hd with
    | 0, hd =>
      simp at hd; subst hd
      show Ex _ _ _ [_, _, _, _] _ _ _
      walk_at "m:as"
      refine Ex.nil (Turn.nx ?_)
      refine .some (.some (.some (.none .nil) ?_))
      exact congrArg dI (by split <;> omega)
    | 1, hd =>
      simp at hd; subst hd
      show Ex _ _ _ [_, _, _, _] _ _ _
      walk_at "m:as"
      refine Ex.nil (Turn.nx ?_)
      refine .some (.some (.some (.none .nil) ?_))
      exact congrArg dI (by split <;> omega)
    | k + 2, hd => simp at hd
  case q_hp =>
    show Ex _ _ _ _ _ _ _
    have e : (max a b : Nat) < 4 := by omega
    refine' Ex.cons (Ex1.ret (Ev.sub (d := dS (kn (max a b))) (nm (by rfl)) (nm (by rfl)) isT_tup getT_tuple (o_itT (j := max a b + 1) (by omega) (by omega) ?_ ?_) rfl) (.inl rfl))
    · unfold seqIndex?; simp; omega
    · generalize max a b = m at e
      match m, e with
      | 0, _ | 1, _ | 2, _ | 3, _ => rfl
end
local macro_rules | `(tactic| walk_at "m:fn") => `(tactic| refine Cal.of0 (fn_common_kind ?_ ?_) ?_ <;> walk_at "m:s")
theorem kd_muL {c : Cx} {μ : Mu} {a : Addr} {l : List D} (h : (a, MO.lst l) ∈ μ) : Kd c μ (dA a) "list" := kd_mu h
theorem kd_muD {c : Cx} {μ : Mu} {a : Addr} {l : List (Str × D)} (h : (a, MO.dct l) ∈ μ) : Kd c μ (dA a) "dict" := kd_mu h
theorem kd_muT {c : Cx} {μ : Mu} {a : Addr} {l : List (Int × D)} (h : (a, MO.tab l) ∈ μ) : Kd c μ (dA a) "dict" := kd_mu h
theorem Ex1.unpack2 {c : Cx} {f : Fi} {n : Nat} {Γ Γ2 Γ3 : Ga} {μ μ1 : Mu} {P : Out → Prop} {x y : Str} {px py pt pos : Pos} {k0 : Nat} {e : Expr} {d1 d2 : D} (h1 : Ev c f n Γ μ e (.tup [d1, d2]) μ1) (s1 : AsgR d1 f.ks x Γ Γ2) (s2 : AsgR d2 f.ks y Γ2 Γ3) (hp : P (.nxt Γ3 μ1))
    (hc : noComp e = true) (hw : ∀ E : Env, swappedStores [.Tuple [.Name x px, .Name y py] k0 pt] e E = pure none) : Ex1 c f n Γ μ (.Assign [.Tuple [.Name x px, .Name y py] k0 pt] e pos) P := by
  obtain ⟨i, a, rfl⟩ := s1.ix
  obtain ⟨j, b, rfl⟩ := s2.ix
  exact Ex1.unpack (ts := [⟨x, px, i⟩, ⟨y, py, j⟩]) h1 hp (fun t m => by
    rcases List.mem_cons.mp m with rfl | m
    · exact a
    · rw [List.mem_singleton.mp m]; exact b) rfl hc hw
theorem Ex1.unpack3 {c : Cx} {f : Fi} {n : Nat} {Γ Γ2 Γ3 Γ4 : Ga} {μ μ1 : Mu} {P : Out → Prop} {x y z : Str} {px py pz pt pos : Pos} {k0 : Nat} {e : Expr} {d1 d2 d3 : D} (h1 : Ev c f n Γ μ e (.tup [d1, d2, d3]) μ1) (s1 : AsgR d1 f.ks x Γ Γ2) (s2 : AsgR d2 f.ks y Γ2 Γ3) (s3 : AsgR d3 f.ks z Γ3 Γ4) (hp : P (.nxt Γ4 μ1))
    (hc : noComp e = true) (hw : ∀ E : Env, swappedStores [.Tuple [.Name x px, .Name y py, .Name z pz] k0 pt] e E = pure none) : Ex1 c f n Γ μ (.Assign [.Tuple [.Name x px, .Name y py, .Name z pz] k0 pt] e pos) P := by
  obtain ⟨i, a, rfl⟩ := s1.ix
  obtain ⟨j, b, rfl⟩ := s2.ix
  obtain ⟨l, c', rfl⟩ := s3.ix
  exact Ex1.unpack (ts := [⟨x, px, i⟩, ⟨y, py, j⟩, ⟨z, pz, l⟩]) h1 hp (fun t m => by
    rcases List.mem_cons.mp m with rfl | m
    · exact a
    · rcases List.mem_cons.mp m with rfl | m
      · exact b
      · rw [List.mem_singleton.mp m]; exact c') rfl hc hw
section
variable {w : World}
theorem bits_le {a : Int} (h0 : -(2 ^ 60) < a) (h1 : a < 2 ^ 60) : Builtin.Int.intBits a ≤ 64 := bits_small (by omega)
theorem fn_nearest {n d : Int} (hd : 0 < d) (hd4 : d ≤ 4) : Fn (cx w) (.ref 80) 2 [dI n, dI d] [] (dI (nwI n d)) [] := by
  have hdz : d < 2 ^ 300 := by omega
  have hbd : Builtin.Int.intBits d ≤ 64 := bits_le (by omega) (by omega)
  refine in_nearest_whole rfl ?_
  walk_at "m:go"
  (with_reducible refine' Ex.cons (Ex1.asg (Ev.binop (nm ?q_a1) (nm ?q_a2) (x_divI rfl rfl hd hdz)) ?q_a3 ?q_a4 ?q_a5))
  case q_a5 => rfl
  case q_a1 => rfl
  case q_a2 => rfl
  case q_a3 => walk_at "m:asg"
  show Ex _ _ _ _ _ _ _
  (with_reducible refine' Ex.cons (Ex1.asg (d := dI (2 * (n - n.fdiv d * d))) (Ev.binop Ev.int (Ev.binop (nm ?q_b1) (Ev.binop (nm ?q_b2) (nm ?q_b3) (x_mulI rfl rfl (.inr hbd))) o_subI) (x_mulI rfl rfl (.inl ?q_b6))) ?q_b4 ?q_b5 ?q_b7))
  case q_b7 => rfl
  case q_b1 => rfl
  case q_b2 => rfl
  case q_b3 => rfl
  case q_b6 => decide
  case q_b4 => walk_at "m:asg"
  show Ex _ _ _ _ _ _ _
  unfold nwI
  generalize n.fdiv d = q at *
  generalize 2 * (n - q * d) = r at *
  have hc : (decide (d < r) || (r == d && (q.fmod 2 == 1 && true) || false)) = (decide (d < r) || (r == d && q.fmod 2 == 1)) := by simp
  by_cases hq : (decide (d < r) || (r == d && q.fmod 2 == 1)) = true
  · rw [if_pos hq]
    have hq' := hc.trans hq
    walk_at "m:yes"
    walk_at "m:ret"
  · rw [if_neg hq]
    have hq' := hc.trans (by simpa using hq : (decide (d < r) || (r == d && q.fmod 2 == 1)) = false)
    walk_at "m:no"
    walk_at "m:ret"
theorem ev_abs {f : Fi} {n : Nat} {Γ : Ga} {x d : Int} {v : Str} {p p2 p3 : Pos} (h : at_ f.ks Γ v = some (iD (iR x d))) (hk : f.cs.names.lookup ("abs" : Str) = some .globalImplicit) (hb : (v == ("__debug__" : Str) || v == ("__classdict__" : Str)) = false) {k : Nat} {p4 p5 : Pos} :
    Ev (cx w) f n Γ [] (.Call (.Name "abs" p) [.Subscript (.Name v p2) (.Constant (.int 0) k p3) p4] [] p5) (dI (absI x)) [] := by
  refine B_abs (.cons (Ev.sub (d := dI x) (nm h hb) Ev.int isT_dT getT_tuple (o_itDT (by decide) (by decide) rfl rfl) rfl) .nil) (Cal.b0 f_abs) hk
theorem fn_exponent {n d : Int} (hd : d = 1 ∨ d = 2 ∨ d = 4) (h : nOk (absI n) d = true) : Fn (cx w) (.ref 87) 2 [iD (iR n d)] [] (dI (exI (absI n) d)) [] := by
  simp only [nOk, Bool.and_eq_true, decide_eq_true_eq, Bool.not_eq_true'] at h
  obtain ⟨⟨⟨⟨⟨⟨h1, h2⟩, h3⟩, h4⟩, h5⟩, h6⟩, h7⟩ := h
  have hA : exA (absI n) d ≤ 2 := by unfold exA; split <;> (try split) <;> omega
  refine in_exponent rfl ?_
  walk_at "m:go"
  (with_reducible refine' Ex.cons (Ex1.asg (ev_abs ?q_a1 ?q_a2 ?q_a3) ?q_a4 ?q_a5 ?q_a6))
  case q_a6 => rfl
  case q_a1 => rfl
  case q_a2 => kernel_rfl
  case q_a3 => decide
  case q_a4 => walk_at "m:asg"
  show Ex _ _ _ _ _ _ _
  walk_at "m:as"
  walk_at "m:as"
  unfold exI
  generalize exA (absI n) d = A at *
  generalize exB (absI n) d = B at *
  generalize absI n = a at *
  (with_reducible refine' Ex.cons (Ex1.while A (fun k => [some (iD (iR n d)), some (dI a), some (dI (d * 10 ^ k)), some (dI k)]) (fun _ => []) ?q_I0 ?q_J0 ?q_hJ ?q_step ?q_fin ?q_hp))
  case q_I0 =>
    show Sub _ [_, _, _, _]
    refine .some (.some (.some (.some .nil rfl) ?_) rfl) rfl
    rw [show d * 10 ^ 0 = d by rw [Int.pow_zero, Int.mul_one]]
  case q_J0 => rfl
  case q_hJ => intro _; rfl
  case q_step =>
    intro k hk
    have hb : decide (10 * (d * 10 ^ k) ≤ a) = true := List.all_eq_true.mp h1 k (List.mem_range.mpr hk)
    refine ⟨[], Ts.re (Ts.cmp (nm (by rfl)) (Ev.binop Ev.int (nm (by rfl)) (x_mulI rfl rfl (.inl (by decide)))) o_geI) hb, ?_⟩
    (with_reducible refine' Ex.cons (Ex1.asg (Ev.binop (nm ?q_b1) Ev.int (x_mulI rfl rfl (.inr ?q_b2))) ?q_b3 ?q_b4 ?q_b5))
    case q_b5 => rfl
    case q_b1 => rfl
    case q_b2 => decide
    case q_b3 => walk_at "m:asg"
    show Ex _ _ _ _ _ _ _
    walk_at "m:aug"
    refine Ex.nil (Turn.nx ?_ rfl)
    refine .some (.some (.some (.some .nil rfl) ?_) rfl) rfl
    rw [Int.pow_succ, Int.mul_assoc]
  case q_fin =>
    exact Ts.re (Ts.cmp (nm (by rfl)) (Ev.binop Ev.int (nm (by rfl)) (x_mulI rfl rfl (.inl (by decide)))) o_geI) h2
  show Ex _ _ _ _ _ _ _
  (with_reducible refine' Ex.cons (Ex1.while B (fun k => [some (iD (iR n d)), some (dI (a * 10 ^ k)), some (dI (d * 10 ^ A)), some (dI ((A : Int) - k))]) (fun _ => []) ?q_I1 ?q_J1 ?q_hJ1 ?q_step1 ?q_fin1 ?q_hp1))
  case q_I1 =>
    show Sub _ [_, _, _, _]
    refine .some (.some (.some (.some .nil ?_) rfl) ?_) rfl
    · exact congrArg dI (by omega)
    · rw [Int.pow_zero, Int.mul_one]
  case q_J1 => rfl
  case q_hJ1 => intro _; rfl
  case q_step1 =>
    intro k hk
    have hb : decide (a * 10 ^ k < d * 10 ^ A) = true := List.all_eq_true.mp h3 k (List.mem_range.mpr hk)
    refine ⟨[], Ts.re (Ts.cmp (nm (by rfl)) (nm (by rfl)) o_ltI) hb, ?_⟩
    (with_reducible refine' Ex.cons (Ex1.asg (Ev.binop (nm ?q_c1) Ev.int (x_mulI rfl rfl (.inr ?q_c2))) ?q_c3 ?q_c4 ?q_c5))
    case q_c5 => rfl
    case q_c1 => rfl
    case q_c2 => decide
    case q_c3 => walk_at "m:asg"
    show Ex _ _ _ _ _ _ _
    walk_at "m:aug"
    refine Ex.nil (Turn.nx ?_ rfl)
    refine .some (.some (.some (.some .nil ?_) rfl) ?_) rfl
    · exact congrArg dI (by omega)
    · rw [Int.pow_succ, Int.mul_assoc]
  case q_fin1 =>
    exact Ts.re (Ts.cmp (nm (by rfl)) (nm (by rfl)) o_ltI) h4
  show Ex _ _ _ _ _ _ _
  walk_at "m:ret"
theorem fn_scaled {n d e : Int} (hd : 0 < d) (hd4 : d ≤ 4) (hn : absI n < 1000) (he : e ≤ 14) (he2 : -10 ≤ e) : Fn (cx w) (.ref 108) 3 [iD (iR n d), dI e, dI 15] [] (dI (nwI (absI n * 10 ^ (14 - e).toNat) d)) [] := by
  have ha := absI_b (n := n)
  have hq : decide (0 ≤ (15 : Int) - 1 - e) = true := decide_eq_true (by omega)
  refine in_scaled rfl ?_
  walk_at "m:go"
  walk_at "m:as"
  walk_at "m:yes"
  (with_reducible refine' Ex.cons (Ex1.ret (C_nearest_whole (.cons (Ev.binop (ev_abs ?q_a1 ?q_a2 ?q_a3) (Ev.binop Ev.int (nm ?q_a4) (x_powI rfl rfl ?q_a5 ?q_a6)) (x_mulI rfl rfl (.inl ?q_a7))) (.cons (Ev.sub (d := dI d) (nm ?q_b1) Ev.int isT_dT getT_tuple (o_itDT ?q_b2 ?q_b3 ?q_b4 ?q_b5) ?q_b6) .nil ?q_b7) ?q_b8) (Cal.of0 (fn_nearest hd hd4) ?q_b9) ?q_c1) ?q_c2))
  case q_a1 => rfl
  case q_a2 => kernel_rfl
  case q_a3 => decide
  case q_a4 => rfl
  case q_a5 => omega
  case q_a6 =>
    have : Builtin.Int.intBits 10 = 4 := by decide
    rw [this]; omega
  case q_a7 => exact bits_le (by omega) (by omega)
  case q_b1 => rfl
  case q_b2 => decide
  case q_b3 => decide
  case q_b4 => rfl
  case q_b5 => rfl
  case q_b6 => rfl
  case q_b7 => rfl
  case q_b8 => rfl
  case q_b9 => decide
  case q_c1 => kernel_rfl
  case q_c2 =>
    refine Or.inl ?_
    rw [show (15 : Int) - 1 - e = 14 - e by omega]
theorem log_big {a : Int} (h0 : 0 ≤ a) (h1 : a < 10 ^ 15) : a.natAbs.log2 < 1920 := by
  have h : a.natAbs < 2 ^ 1920 := Nat.lt_of_lt_of_le (show a.natAbs < 2 ^ 50 by omega) (Nat.pow_le_pow_right (by decide) (by decide))
  by_cases q : a.natAbs = 0
  · rw [q]; decide
  · exact (Nat.log2_lt q).mpr h
theorem fn_significant {n d : Int} (hd : d = 1 ∨ d = 2 ∨ d = 4) (h0 : n ≠ 0) (hn : absI n < 200) (h : nOk (absI n) d = true) (hm : mOk (absI n) d = true) : ∃ s : Int, Fn (cx w) (.ref 115) 4 [iD (iR n d), dI 15] [] (.tup [dI s, dS (strI (sgI (absI n) d)), dI (exI (absI n) d)]) [] := by
  have h' := h
  simp only [nOk, Bool.and_eq_true, decide_eq_true_eq, Bool.not_eq_true'] at h'
  obtain ⟨⟨⟨h'', h5⟩, h6⟩, h7⟩ := h'
  have hm' := hm
  simp only [mOk, Bool.and_eq_true, decide_eq_true_eq] at hm'
  have m1 := hm'.1.1.1.1.1
  have m2 := hm'.1.1.1.1.2
  have hsc := fn_scaled (w := w) (n := n) (d := d) (e := exI (absI n) d) (by omega) (by omega) (by omega) (by omega) (by omega)
  have hex := fn_exponent (w := w) hd h
  have hz : ((n : Int) == 0) = false := by simpa using h0
  have hlt : decide ((10 : Int) ^ (15 : Int).toNat ≤ sgI (absI n) d) = false := decide_eq_false (by
    have : (10 : Int) ^ (15 : Int).toNat = 10 ^ 15 := rfl
    omega)
  refine ⟨if decide (0 < n) then 1 else -1, ?_⟩
  refine in_significant rfl ?_
  walk_at "m:go"
  walk_at "m:no"
  (with_reducible refine' Ex.cons (Ex1.asg (C_exponent ?q_a1 (Cal.of0 hex ?q_a2) ?q_a3) ?q_a4 ?q_a5 ?q_a6))
  case q_a6 => rfl
  case q_a1 => walk_at "m:evl"
  case q_a2 => decide
  case q_a3 => kernel_rfl
  case q_a4 => walk_at "m:asg"
  show Ex _ _ _ _ _ _ _
  (with_reducible refine' Ex.cons (Ex1.asg (C_scaled ?q_b1 (Cal.of0 hsc ?q_b2) ?q_b3) ?q_b4 ?q_b5 ?q_b6))
  case q_b6 => rfl
  case q_b1 => walk_at "m:evl"
  case q_b2 => decide
  case q_b3 => kernel_rfl
  case q_b4 => walk_at "m:asg"
  show Ex _ _ _ [_, _, _, some (dI (sgI (absI n) d))] _ _ _
  (with_reducible refine' Ex.cons (Ex1.if_f (Ts.re (Ts.cmp (nm ?q_c1) (Ev.binop Ev.int (nm ?q_c2) (x_powI rfl rfl ?q_c3 ?q_c4)) (x_geI rfl rfl) ?q_c6) ?q_c7) (Ex.nilT ?q_c5)))
  case q_c1 => rfl
  case q_c2 => rfl
  case q_c3 => decide
  case q_c4 => decide
  case q_c6 => with_unfolding_all rfl
  case q_c7 => exact hlt
  (with_reducible refine' Ex.cons (Ex1.ret (Ev.tuple (.cons (Ev.ifexp (q := decide (0 < n)) (d := dI (if decide (0 < n) then 1 else -1)) ?q_d1 ?q_d2 ?q_d3) (.cons (B_str (.cons (nm ?q_d4) .nil ?q_d5) (Cal.b0 (f_str ?q_d6)) ?q_d7) (.cons (nm ?q_d8) .nil ?q_d9) ?q_d10) ?q_d11) ?q_d12) ?q_d13))
  case q_d1 => walk_at "m:ts"
  case q_d2 => intro q; rw [q]; exact Ev.int
  case q_d3 => intro q; rw [q]; exact Ev.neg Ev.int
  case q_d4 => rfl
  case q_d5 => rfl
  case q_d6 => exact log_big (by omega) m2
  case q_d7 => kernel_rfl
  case q_d8 => rfl
  case q_d9 => rfl
  case q_d10 => rfl
  case q_d11 => rfl
  case q_d12 => walk_at "m:disp"
  case q_d13 => exact Or.inl rfl
theorem mul_z : Txt.mul "0" 15 = "000000000000000" := by decide +kernel
theorem fn_significant0 : Fn (cx w) (.ref 115) 4 [iD (iR 0 1), dI 15] [] (.tup [dI 0, dS "000000000000000", dI 0]) [] := by
  refine in_significant rfl ?_
  walk_at "m:go"
  walk_at "m:yes"
  (with_reducible refine' Ex.cons (Ex1.ret (Ev.tuple (.cons Ev.int (.cons (Ev.binop Ev.str (nm ?q_d4) (o_mulS ?q_d6)) (.cons Ev.int .nil ?q_d9) ?q_d10) ?q_d11) ?q_d12) ?q_d13))
  case q_d4 => rfl
  case q_d6 => exact ⟨by decide, fun _ _ => by decide, fun _ _ => by decide +kernel⟩
  case q_d9 => rfl
  case q_d10 => rfl
  case q_d11 => rfl
  case q_d12 => walk_at "m:disp"
  case q_d13 => rw [mul_z]; exact Or.inl rfl
theorem fn_without_tail {s : Str} {N : Nat} (h : Tail s N) (hl : s.length ≤ 100) : Fn (cx w) (.ref 122) 2 [dS s] [] (dS (Txt.slice s none (some ((s.length : Int) - N)))) [] := by
  have hN := h.len
  refine in_without_tail rfl ?_
  walk_at "m:go"
  walk_at "m:as"
  have itm : ∀ (k ch : Nat), k < s.length → s.cps.toList[s.length - k - 1]? = some ch → Pu2 (cx w) 1 getItem (dS s) (dI ((s.length : Int) - k - 1)) (dS ⟨#[ch]⟩) := fun k ch hk hc => by
    refine o_itS ?_ ?_
    · rw [Bool.or_eq_false_iff]
      exact ⟨decide_eq_false (by omega), decide_eq_false (by omega)⟩
    · have e : seqIndex? ((s.length : Int) - k - 1) s.length = some (s.length - k - 1) := by
        have h0 : ¬ ((s.length : Int) - k - 1 < 0) := by omega
        have h1 : ((decide (0 ≤ (s.length : Int) - k - 1)) && (decide ((s.length : Int) - k - 1 < s.length))) = true := by simp; omega
        unfold seqIndex?
        simp only [if_neg h0]
        rw [if_pos h1]
        congr 1; omega
      rw [e]
      simpa using hc
  (with_reducible refine' Ex.cons (Ex1.while N (fun k => [some (dS s), some (dI ((s.length : Int) - k))]) (fun _ => []) ?q_I0 ?q_J0 ?q_hJ ?q_step ?q_fin ?q_hp))
  case q_I0 =>
    show Sub _ [_, _]
    exact .some (.some .nil (congrArg dI (by omega))) rfl
  case q_J0 => rfl
  case q_hJ => intro _; rfl
  case q_step =>
    intro k hk
    have hz := h.z k hk
    have hb1 : decide (1 < (s.length : Int) - k) = true := decide_eq_true (by omega)
    have hb : (decide (1 < (s.length : Int) - k) && ((⟨#[48]⟩ : Str) == "0" && true)) = true := by rw [hb1]; decide +kernel
    refine ⟨[], Ts.re (Ts.and (Ts.cmp (nm (by rfl)) Ev.int o_gtI) fun _ => Ts.and (Ts.cmp (Ev.sub (nm (by rfl)) (Ev.binop (nm (by rfl)) Ev.int o_subI) isT_str getT_str (itm k 48 (by omega) hz) rfl) Ev.str o_eqS) fun _ => Ts.and_nil) hb, ?_⟩
    walk_at "m:aug"
    refine Ex.nil (Turn.nx ?_ rfl)
    exact .some (.some .nil (congrArg dI (by omega))) rfl
  case q_fin =>
    by_cases q : 1 < (s.length : Int) - N
    · obtain ⟨ch, hc, hz⟩ := h.e.resolve_left (by omega)
      have hb : (decide (1 < (s.length : Int) - N) && ((⟨#[ch]⟩ : Str) == "0" && true)) = false := by
        rw [decide_eq_true q]
        have : ((⟨#[ch]⟩ : Str) == "0") = false := by
          rw [beq_eq_false_iff_ne]
          intro e
          have e2 := congrArg (fun x : Str => x.cps.toList) e
          have e3 : [ch] = [48] := e2.trans (by decide +kernel)
          exact hc (by simpa using e3)
        rw [this]; rfl
      exact Ts.re (Ts.and (Ts.cmp (nm (by rfl)) Ev.int o_gtI) fun _ => Ts.and (Ts.cmp (Ev.sub (nm (by rfl)) (Ev.binop (nm (by rfl)) Ev.int o_subI) isT_str getT_str (itm N ch hN hz) rfl) Ev.str o_eqS) fun _ => Ts.and_nil) hb
    · exact Ts.and_f (Ts.re (Ts.cmp (nm (by rfl)) Ev.int o_gtI) (decide_eq_false q))
  show Ex _ _ _ _ _ _ _
  refine Ex.cons (Ex1.ret (Ev.slice (nm (by rfl)) .none (.some (nm (by rfl))) .none isT_str getT_str (sl_str (sl1000 (by omega)))) (.inl rfl))
end
/-- what is measured of a number -/
structure Me (n d c l p e : Int) : Prop where
  pl : mxI 0 p = plD d
  e1 : -50 ≤ e
  e2 : e ≤ 50
  w : mxI 1 l + (if mxI 0 p > 0 then mxI 0 p + 1 else 0) ≤ (if n < 0 then 1 else 0) + (if mxI 1 c > 1 then mxI 1 c + 1 else 1) + 4
section
variable {w : World}
theorem fn_measures_of {n d e s : Int} {T : Str} {N : Nat} (hs : Fn (cx w) (.ref 115) 4 [iD (iR n d), dI 15] [] (.tup [dI s, dS T, dI e]) []) (hT : Tail T N) (hl : T.length = 15) :
    Fn (cx w) (.ref 143) 5 [iD (iR n d), dI 15] [] (.tup [dI (15 - (N : Int)), dI (if n < 0 then mxI e 0 + 1 + 1 else mxI e 0 + 1), dI (mxI (15 - (N : Int) - 1 - e) 0), dI e]) [] := by
  have hN := hT.len
  have hw := fn_without_tail (w := w) hT (by omega)
  have hc : ((Txt.slice T none (some ((T.length : Int) - N))).length : Int) = 15 - N := by
    rw [sl_to_len (by omega) (by omega), hl]; rfl
  refine in_measures rfl ?_
  walk_at "m:go"
  (with_reducible refine' Ex.cons (Ex1.unpack3 (C_significant ?q_a1 (Cal.of0 hs ?q_a2) ?q_a3) ?q_a4 ?q_a5 ?q_a6 ?q_a7 ?q_a8 ?q_a9))
  case q_a1 => walk_at "m:evl"
  case q_a2 => decide
  case q_a3 => kernel_rfl
  case q_a4 => walk_at "m:asg"
  case q_a5 => walk_at "m:asg"
  case q_a6 => walk_at "m:asg"
  case q_a8 => rfl
  case q_a9 => intro _; rfl
  show Ex _ _ _ _ _ _ _
  (with_reducible refine' Ex.cons (Ex1.asg (d := dI (15 - (N : Int))) (Ev.eq (B_len (.cons (C_without_tail ?q_b1 (Cal.of0 hw ?q_b2) ?q_b3) .nil ?q_b4) (Cal.b0 (f_lenX ?q_b5)) ?q_b6) ?q_b7) ?q_b8 ?q_b9 ?q_b10))
  case q_b10 => rfl
  case q_b1 => walk_at "m:evl"
  case q_b2 => decide
  case q_b3 => kernel_rfl
  case q_b4 => rfl
  case q_b5 => omega
  case q_b6 => kernel_rfl
  case q_b7 => exact congrArg dI hc
  case q_b8 => walk_at "m:asg"
  show Ex _ _ _ _ _ _ _
  walk_at "m:as"
  by_cases q : n < 0
  · have q1 : decide (n < 0) = true := decide_eq_true q
    rw [if_pos q]
    walk_at "m:yes"
    walk_at "m:aug"
    refine Ex.nil ?_
    show Ex _ _ _ _ _ _ _
    walk_at "m:ret"
  · have q1 : decide (n < 0) = false := decide_eq_false q
    rw [if_neg q]
    walk_at "m:no"
    walk_at "m:ret"
theorem fn_measures {n d : Int} (hd : d = 1 ∨ d = 2 ∨ d = 4) (hn : absI n < 200) (hg : Int.gcd n d = 1) : ∃ c l p e : Int, Fn (cx w) (.ref 143) 5 [iD (iR n d), dI 15] [] (.tup [dI c, dI l, dI p, dI e]) [] ∧ Me n d c l p e := by
  have ha := absI_b (n := n)
  by_cases h0 : n = 0
  · subst h0
    have hd1 : d = 1 := by
      rcases hd with rfl | rfl | rfl
      · rfl
      · exact absurd hg (by decide)
      · exact absurd hg (by decide)
    subst hd1
    refine ⟨_, _, _, _, fn_measures_of (N := 14) (fn_significant0 (w := w)) tail_0 (by decide +kernel), ?_⟩
    · exact ⟨by decide, by decide, by decide, by decide⟩
  · have hg' : Int.gcd (absI n) d = 1 := by
      rcases ha.2 with e | e
      · rw [e]; exact hg
      · rw [e, Int.neg_gcd]; exact hg
    obtain ⟨k1, k2⟩ := n_ok (a := absI n) (by omega) hn hd hg'
    obtain ⟨t1, t2⟩ := tail_sg k2
    obtain ⟨s, hs⟩ := fn_significant (w := w) hd h0 hn k1 k2
    refine ⟨_, _, _, _, fn_measures_of hs t2 t1, ?_⟩
    simp only [mOk, Bool.and_eq_true, decide_eq_true_eq, beq_iff_eq] at k2
    obtain ⟨⟨⟨_, _⟩, k3⟩, k4⟩ := k2
    simp only [nOk, Bool.and_eq_true, decide_eq_true_eq] at k1
    obtain ⟨⟨⟨_, k5⟩, k6⟩, _⟩ := k1
    refine ⟨k3, by omega, by omega, ?_⟩
    rw [k3]
    have hm : ∀ x : Int, 0 ≤ mxI x 0 := fun x => by unfold mxI; split <;> omega
    have hm1 : ∀ x : Int, 1 ≤ x → mxI 1 x = x := fun x h => by unfold mxI; split <;> omega
    have := hm (exI (absI n) d)
    by_cases q : n < 0
    · rw [if_pos q, if_pos q, hm1 _ (by omega)]; omega
    · rw [if_neg q, if_neg q, hm1 _ (by omega)]; omega
end
section
variable {w : World}
noncomputable abbrev cfG (xs : List D) (c l p m : Int) : Ga := [some (.lst xs), some (dI 15), some (dI c), some (dI l), some (dI p), some (dI 0), some (dI m), none, none, none, none]
theorem fn_chosen {xs : List D} {c l p m : Int} (hx : (xs = [] ∧ c = 1 ∧ l = 1 ∧ p = 0 ∧ m = 0) ∨ ∃ n d c0 l0 p0 e : Int, xs = [iD (iR n d)] ∧ Fn (cx w) (.ref 143) 5 [iD (iR n d), dI 15] [] (.tup [dI c0, dI l0, dI p0, dI e]) [] ∧ -50 ≤ e ∧ e ≤ 50 ∧ c = mxI 1 c0 ∧ l = mxI 1 l0 ∧ p = mxI 0 p0 ∧ m = if n < 0 then 1 else 0)
    (hw : l + (if p > 0 then p + 1 else 0) ≤ m + (if c > 1 then c + 1 else 1) + 4) : Fn (cx w) (.ref 150) 6 [.lst xs, dI 15] [] (.tup [dS "fixed", dI p]) [] := by
  refine in_chosen_form rfl ?_
  walk_at "m:go"
  walk_at "m:as"
  walk_at "m:as"
  walk_at "m:as"
  walk_at "m:as"
  walk_at "m:as"
  (with_reducible refine' Ex.cons (Ex1.forIn 7 (d0 := .lst xs) (nm ?q_h1) iter_lst (fun k => if k < xs.length then cfG xs 1 1 0 0 else cfG xs c l p m) (fun _ => []) ?q_I0 ?q_J0 ?q_hJ ?q_step ?q_hp ?q_hx ?q_hs))
  case q_hx => rfl
  case q_hs => intro _ _; rfl
  case q_h1 => rfl
  case q_I0 =>
    rcases hx with ⟨rfl, rfl, rfl, rfl, rfl⟩ | ⟨n, d, c0, l0, p0, e, rfl, _⟩
    · show Sub (cfG [] 1 1 0 0) _
      walk_at "m:sub"
    · show Sub (cfG _ 1 1 0 0) _
      walk_at "m:sub"
  case q_J0 => rfl
  case q_hJ => intro _; rfl
  case q_step =>
    intro k dd hk
    rcases hx with ⟨rfl, _⟩ | ⟨n, d, c0, l0, p0, e, rfl, hme, e1, e2, rfl, rfl, rfl, rfl⟩
    · simp at hk
    · match k, hk with
      | 0, hk =>
        simp at hk; subst hk
        show Ex _ _ _ [_, _, _, _, _, _, _, some (iD (iR n d)), _, _, _] _ _ (Turn (cfG _ _ _ _ _) _ _)
        (with_reducible refine' Ex.cons (Ex1.asg (C_measures ?q_a1 (Cal.of0 hme ?q_a2) ?q_a3) ?q_a4 ?q_a5 ?q_a6))
        case q_a6 => rfl
        case q_a1 => walk_at "m:evl"
        case q_a2 => decide
        case q_a3 => kernel_rfl
        case q_a4 => walk_at "m:asg"
        show Ex _ _ _ _ _ _ _
        walk_at "m:as"
        walk_at "m:as"
        walk_at "m:as"
        have hb : decide (100 ≤ (if e < 0 then -e else e)) = false := decide_eq_false (by split <;> omega)
        walk_at "m:no"
        by_cases q : n < 0
        · have q1 : decide (n < 0) = true := decide_eq_true q
          rw [if_pos q]
          walk_at "m:yes"
          walk_at "m:as"
          refine Ex.nil ?_
          show Ex _ _ _ _ _ _ _
          refine Ex.nil (Turn.nx ?_ rfl)
          walk_at "m:sub"
        · have q1 : decide (n < 0) = false := decide_eq_false q
          rw [if_neg q]
          walk_at "m:no"
          refine Ex.nil (Turn.nx ?_ rfl)
          walk_at "m:sub"
      | k + 1, hk => simp at hk
  rw [if_neg (by omega)]
  show Ex _ _ _ [_, _, _, _, _, _, _, _, _, _, _] _ _ _
  (with_reducible refine' Ex.cons (Ex1.asg (Ev.binop (nm ?q_b1) (Ev.ifexp (q := decide (0 < p)) (d := dI (if p > 0 then p + 1 else 0)) ?q_b2 ?q_b3 ?q_b4) o_addI) ?q_b5 ?q_b6 ?q_b7))
  case q_b7 => rfl
  case q_b1 => rfl
  case q_b2 => walk_at "m:ts"
  case q_b3 => intro q; rw [if_pos (of_decide_eq_true q)]; walk_at "m:ev"
  case q_b4 => intro q; rw [if_neg (of_decide_eq_false q)]; walk_at "m:ev"
  case q_b5 => walk_at "m:asg"
  show Ex _ _ _ _ _ _ _
  (with_reducible refine' Ex.cons (Ex1.asg (d := dI (m + (if c > 1 then c + 1 else 1) + 4 + 0)) (Ev.binop (Ev.binop (Ev.binop (nm ?q_c1) (Ev.ifexp (q := decide (1 < c)) (d := dI (if c > 1 then c + 1 else 1)) ?q_c2 ?q_c3 ?q_c4) o_addI) Ev.int o_addI) (nm ?q_c8) o_addI) ?q_c5 ?q_c6 ?q_c7))
  case q_c7 => rfl
  case q_c1 => rfl
  case q_c8 => rfl
  case q_c2 => walk_at "m:ts"
  case q_c3 => intro q; rw [if_pos (of_decide_eq_true q)]; walk_at "m:ev"
  case q_c4 => intro q; rw [if_neg (of_decide_eq_false q)]; walk_at "m:ev"
  case q_c5 => walk_at "m:asg"
  show Ex _ _ _ _ _ _ _
  have hq : decide (l + (if p > 0 then p + 1 else 0) ≤ m + (if c > 1 then c + 1 else 1) + 4 + 0) = true := decide_eq_true (by omega)
  walk_at "m:yes"
  walk_at "m:ret"
theorem fn_special_fin {n d : Int} (hd : 0 < d) : Fn (cx w) (.ref 101) 2 [iD (iR n d)] [] dN [] := by
  have hq : decide (0 < d) = true := decide_eq_true hd
  refine in_special_text rfl ?_
  walk_at "m:go"
  walk_at "m:no"
  walk_at "m:yes"
  walk_at "m:ret"
theorem fn_special_inf {n : Int} (hn : n = 0 ∨ n = 1 ∨ n = -1) : Fn (cx w) (.ref 101) 2 [iD (iR n 0)] [] (dS (ntx n 0)) [] := by
  rcases hn with rfl | rfl | rfl
  · refine in_special_text rfl ?_
    walk_at "m:go"
    walk_at "m:no"
    walk_at "m:no"
    walk_at "m:yes"
    walk_at "m:ret"
  · refine in_special_text rfl ?_
    walk_at "m:go"
    walk_at "m:no"
    walk_at "m:no"
    walk_at "m:no"
    walk_at "m:ret"
  · refine in_special_text rfl ?_
    walk_at "m:go"
    walk_at "m:no"
    walk_at "m:no"
    walk_at "m:no"
    walk_at "m:ret"
theorem abs_pos {v : Int} (h : 0 ≤ v) : (if v < 0 then -v else v) = v := if_neg (by omega)
theorem join1 (s : Str) : Txt.join "" [s] = s := rfl
theorem fn_whole_text {v : Int} (h0 : 0 ≤ v) (h1 : v < 100000) : Fn (cx w) (.ref 94) 3 [dI v] [] (dS (strI v)) [] := by
  have hs : (strI v).length ≤ 20 := by
    obtain ⟨k, rfl⟩ := Int.eq_ofNat_of_zero_le h0
    have e : (strI (k : Int)).length = (Nat.toDigits 10 k).length := by
      have := congrArg List.length (strI_nat k)
      rw [List.length_map] at this
      exact this
    rw [e]
    have := (Nat.length_toDigits_le_iff (b := 10) (n := k) (k := 5) (by decide) (by omega)).mpr (by omega)
    omega
  refine in_whole_text rfl ?_
  walk_at "m:go"
  walk_at "m:as"
  rw [abs_pos h0]
  (with_reducible refine' Ex.cons (Ex1.asgN (EvN.list .nil ?q_az) ?q_as ?q_ap ?q_an ?q_ac))
  case q_az => decide
  case q_an => decide
  case q_ac => rfl
  case q_as => intro b; walk_at "m:asg"
  intro b
  show Ex _ _ _ [_, _, _, _] [(b, .lst [])] _ _
  have hw : decide ((10 : Int) ^ (18 : Int).toNat ≤ v) = false := decide_eq_false (by
    have : (10 : Int) ^ (18 : Int).toNat = 10 ^ 18 := rfl
    omega)
  (with_reducible refine' Ex.cons (Ex1.while 0 (fun _ => [some (dI v), some (dI v), some (dA b), none]) (fun _ => [(b, .lst [])]) ?q_I0 ?q_J0 ?q_hJ ?q_step ?q_fin ?q_hp))
  case q_I0 =>
    show Sub _ [_, _, _, _]
    walk_at "m:sub"
  case q_J0 => rfl
  case q_hJ => intro _; rfl
  case q_step => intro k hk; omega
  case q_fin => exact Ts.re (Ts.cmp (nm (by rfl)) (Ev.binop Ev.int Ev.int (o_powI (by decide) (by decide))) o_geI) hw
  show Ex _ _ _ _ _ _ _
  have happ := f_append (c := cx w) (n := 2) (a := b) (l := []) (d := dS (strI v)) (by decide)
  (with_reducible refine' Ex.cons (Ex1.expr (Ev.methC (d0 := dA b) (nm ?q_d1) (.cons (B_str (.cons (nm ?q_d2) .nil ?q_d3) (Cal.b0 (f_str ?q_d4)) ?q_d11) .nil ?q_d12) (kd_muL (l := []) ?q_d5) m_append (Cal.b1 [] happ) ?q_d6 ?q_d7 ?q_d8) ?q_d9 ?q_d10))
  case q_d10 => rfl
  case q_d1 => rfl
  case q_d2 => rfl
  case q_d3 => rfl
  case q_d4 => exact log_big h0 (by omega)
  case q_d11 => kernel_rfl
  case q_d12 => rfl
  case q_d5 => exact List.mem_cons_self ..
  case q_d6 => decide
  case q_d7 => rfl
  case q_d8 => intro _ _; rfl
  show Ex _ _ _ _ [(b, .lst [dS (strI v)])] _ _
  have hq : decide (v < 0) = false := decide_eq_false (by omega)
  walk_at "m:no"
  have hrv := f_reverse (c := cx w) (n := 2) (a := b) (l := [dS (strI v)]) (by simp only [List.length_cons, List.length_nil]; decide)
  (with_reducible refine' Ex.cons (Ex1.expr (Ev.methC (d0 := dA b) (nm ?q_h1) .nil (kd_muL (l := [dS (strI v)]) ?q_h5) m_reverse (Cal.b1 [] hrv) ?q_h6 ?q_h7 ?q_h8) ?q_h9 ?q_h10))
  case q_h10 => rfl
  case q_h1 => rfl
  case q_h5 => exact List.mem_cons_self ..
  case q_h6 => decide
  case q_h7 => rfl
  case q_h8 => intro _ _; rfl
  show Ex _ _ _ _ [(b, .lst [dS (strI v)])] _ _
  refine Ex.frz (d0 := dN) 2 ?_ rfl frz_lst
  have hj := f_join (c := cx w) (n := 2) (sep := "") (xs := [strI v]) (by
    unfold JoinOk Builtin.Str.tooLong
    simp
    have : (("" : Str)).length = 0 := rfl
    have h2 : (20 : Nat) ≤ sizeLine := by decide
    omega)
  rw [join1] at hj
  (with_reducible refine' Ex.cons (Ex1.ret (Ev.methC (d0 := dS "") Ev.str (.cons (nm ?q_k1) .nil ?q_k2) kd_str m_join (Cal.b0 hj) ?q_k6 ?q_k7 ?q_k8) ?q_k9))
  case q_k1 => rfl
  case q_k2 => rfl
  case q_k6 => decide
  case q_k7 => rfl
  case q_k8 => intro _ _; rfl
  case q_k9 => exact Or.inl rfl
end
theorem nil_app (s : Str) : ("" : Str) ++ s = s := str_ext (by rw [cps_app]; rfl)
section
variable {w : World}
theorem fn_fixed_text {n d p : Int} (hd : d = 1 ∨ d = 2 ∨ d = 4) (hn : absI n < 200) (hp : p = plD d) (h1 : fxT1 (absI n) d p = ntx1 (absI n) d) (h2 : 0 ≤ fxI (absI n) d p) (h3 : fxI (absI n) d p < 100000) (h4 : p ≤ (fxT0 (absI n) d p).length) (h5 : (fxT0 (absI n) d p).length ≤ 100) :
    Fn (cx w) (.ref 136) 4 [iD (iR n d), dI p] [] (dS (ntx n d)) [] := by
  have ha := absI_b (n := n)
  have hp2 : 0 ≤ p ∧ p ≤ 2 := by rw [hp]; rcases hd with rfl | rfl | rfl <;> decide
  have hz : (d == 0) = false := by simp; omega
  have hr := f_rjust (c := cx w) (n := 3) (x := strI (fxI (absI n) d p)) (i := p + 1) (y := "0") (by
    have : p = 0 ∨ p = 1 ∨ p = 2 := by omega
    rcases this with e | e | e <;> rw [e] <;> decide) (by decide +kernel)
  rw [ntx_sgn hz, ← h1]
  refine in_fixed_text rfl ?_
  walk_at "m:go"
  (with_reducible refine' Ex.cons (Ex1.asg (C_nearest_whole (.cons (Ev.binop (ev_abs ?q_a1 ?q_a2 ?q_a3) (Ev.binop Ev.int (nm ?q_a4) (x_powI rfl rfl ?q_a5 ?q_a6)) (x_mulI rfl rfl (.inl ?q_a7))) (.cons (Ev.sub (d := dI d) (nm ?q_b1) Ev.int isT_dT getT_tuple (o_itDT ?q_b2 ?q_b3 ?q_b4 ?q_b5) ?q_b6) .nil ?q_b7) ?q_b8) (Cal.of0 (fn_nearest ?q_b10 ?q_b11) ?q_b9) ?q_c1) ?q_c2 ?q_c3 ?q_c4))
  case q_c4 => rfl
  case q_a1 => rfl
  case q_a2 => kernel_rfl
  case q_a3 => decide
  case q_a4 => rfl
  case q_a5 => omega
  case q_a6 =>
    have : Builtin.Int.intBits 10 = 4 := by decide
    rw [this]; omega
  case q_a7 => exact bits_le (by omega) (by omega)
  case q_b1 => rfl
  case q_b2 => decide
  case q_b3 => decide
  case q_b4 => rfl
  case q_b5 => rfl
  case q_b6 => rfl
  case q_b7 => rfl
  case q_b8 => rfl
  case q_b10 => omega
  case q_b11 => omega
  case q_b9 => decide
  case q_c1 => kernel_rfl
  case q_c2 => walk_at "m:asg"
  show Ex _ _ _ [_, _, some (dI (fxI (absI n) d p)), _] _ _ _
  (with_reducible refine' Ex.cons (Ex1.asg (d := dS (fxT0 (absI n) d p)) (Ev.methC (C_whole_text (.cons (nm ?q_d1) .nil ?q_d2) (Cal.of0 (fn_whole_text h2 h3) ?q_d3) ?q_d4) (.cons (Ev.binop (nm ?q_d5) Ev.int o_addI) (.cons Ev.str .nil ?q_d6) ?q_d7) kd_str m_rjust (Cal.b0 hr) ?q_d8 ?q_d9 ?q_d10) ?q_d11 ?q_d12 ?q_d13))
  case q_d13 => rfl
  case q_d1 => rfl
  case q_d2 => rfl
  case q_d3 => decide
  case q_d4 => kernel_rfl
  case q_d5 => rfl
  case q_d6 => rfl
  case q_d7 => rfl
  case q_d8 => decide
  case q_d9 => rfl
  case q_d10 => intro _ _; rfl
  case q_d11 => walk_at "m:asg"
  show Ex _ _ _ _ _ _ _
  have hl1 : (fxT1 (absI n) d p).length ≤ 300 := by
    unfold fxT1
    split
    · rw [len_app, len_app]
      have e1 := Txt.slice_le (fxT0 (absI n) d p) none (some ((fxT0 (absI n) d p).length - p))
      have e2 := Txt.slice_le (fxT0 (absI n) d p) (some ((fxT0 (absI n) d p).length - p)) none
      have e3 : (("." : Str)).length = 1 := by decide
      omega
    · omega
  by_cases q : p > 0
  · have q1 : decide (0 < p) = true := decide_eq_true q
    have e : fxT1 (absI n) d p = (Txt.slice (fxT0 (absI n) d p) none (some ((fxT0 (absI n) d p).length - p)) ++ ".") ++ Txt.slice (fxT0 (absI n) d p) (some ((fxT0 (absI n) d p).length - p)) none := if_pos q
    have e1 := Txt.slice_le (fxT0 (absI n) d p) none (some ((fxT0 (absI n) d p).length - p))
    have e2 := Txt.slice_le (fxT0 (absI n) d p) (some ((fxT0 (absI n) d p).length - p)) none
    have e3 : (("." : Str)).length = 1 := by decide
    walk_at "m:yes"
    (with_reducible refine' Ex.cons (Ex1.asg (d := dS (fxT1 (absI n) d p)) (Ev.eq (Ev.binop (Ev.binop (Ev.slice (nm ?q_s1) .none (.some (Ev.binop (B_len (.cons (nm ?q_s2) .nil ?q_s3) (Cal.b0 (f_lenX ?q_s4)) ?q_s5) (nm ?q_s6) o_subI)) .none isT_str getT_str (sl_str ?q_s7)) Ev.str (o_addT ?q_s8 ?q_s9)) (Ev.slice (nm ?q_t1) (.some (Ev.binop (B_len (.cons (nm ?q_t2) .nil ?q_t3) (Cal.b0 (f_lenX ?q_t4)) ?q_t5) (nm ?q_t6) o_subI)) .none .none isT_str getT_str (sl_str ?q_t7)) (o_addT ?q_t8 ?q_t9)) ?q_u4) ?q_u1 ?q_u2 ?q_u3))
    case q_u3 => rfl
    case q_s1 => rfl
    case q_s2 => rfl
    case q_s3 => rfl
    case q_s4 => omega
    case q_s5 => kernel_rfl
    case q_s6 => rfl
    case q_s7 => exact sl1000 (by omega)
    case q_s8 => omega
    case q_s9 => omega
    case q_t1 => rfl
    case q_t2 => rfl
    case q_t3 => rfl
    case q_t4 => omega
    case q_t5 => kernel_rfl
    case q_t6 => rfl
    case q_t7 => exact sl1000 (by omega)
    case q_t8 => rw [len_app]; omega
    case q_t9 => omega
    case q_u4 => exact congrArg dS e.symm
    case q_u1 => walk_at "m:asg"
    show Ex _ _ _ _ _ _ _
    refine Ex.nil ?_
    show Ex _ _ _ _ _ _ _
    by_cases q2 : n < 0
    · have q3 : decide (n < 0) = true := decide_eq_true q2
      rw [if_pos q2]
      walk_at "m:yes"
      (with_reducible refine' Ex.cons (Ex1.ret (Ev.binop Ev.str (nm ?q_yr1) (o_addT ?q_yr2 ?q_yr3)) ?q_yr4))
      case q_yr1 => rfl
      case q_yr2 => decide
      case q_yr3 => omega
      case q_yr4 => exact Or.inl rfl
    · have q3 : decide (n < 0) = false := decide_eq_false q2
      rw [if_neg q2, nil_app]
      walk_at "m:no"
      walk_at "m:ret"
  · have q1 : decide (0 < p) = false := decide_eq_false q
    have e : fxT1 (absI n) d p = fxT0 (absI n) d p := if_neg q
    rw [e]
    rw [e] at hl1
    walk_at "m:no"
    by_cases q2 : n < 0
    · have q3 : decide (n < 0) = true := decide_eq_true q2
      rw [if_pos q2]
      walk_at "m:yes"
      (with_reducible refine' Ex.cons (Ex1.ret (Ev.binop Ev.str (nm ?q_zr1) (o_addT ?q_zr2 ?q_zr3)) ?q_zr4))
      case q_zr1 => rfl
      case q_zr2 => decide
      case q_zr3 => omega
      case q_zr4 => exact Or.inl rfl
    · have q3 : decide (n < 0) = false := decide_eq_false q2
      rw [if_neg q2, nil_app]
      walk_at "m:no"
      walk_at "m:ret"
theorem fn_formed_inf {n p : Int} (hn : n = 0 ∨ n = 1 ∨ n = -1) : Fn (cx w) (.ref 157) 5 [iD (iR n 0), .tup [dS "fixed", dI p]] [] (dS (ntx n 0)) [] := by
  have hs := fn_special_inf (w := w) hn
  refine in_formed rfl ?_
  walk_at "m:go"
  (with_reducible refine' Ex.cons (Ex1.asg (C_special_text ?q_a1 (Cal.of0 hs ?q_a2) ?q_a3) ?q_a4 ?q_a5 ?q_a6))
  case q_a6 => rfl
  case q_a1 => walk_at "m:evl"
  case q_a2 => decide
  case q_a3 => kernel_rfl
  case q_a4 => walk_at "m:asg"
  show Ex _ _ _ _ _ _ _
  walk_at "m:yes"
  walk_at "m:ret"
theorem fn_formed_fin {n d p : Int} (hd : 0 < d) (hf : Fn (cx w) (.ref 136) 4 [iD (iR n d), dI p] [] (dS (ntx n d)) []) : Fn (cx w) (.ref 157) 5 [iD (iR n d), .tup [dS "fixed", dI p]] [] (dS (ntx n d)) [] := by
  have hs := fn_special_fin (w := w) (n := n) hd
  refine in_formed rfl ?_
  walk_at "m:go"
  (with_reducible refine' Ex.cons (Ex1.asg (C_special_text ?q_a1 (Cal.of0 hs ?q_a2) ?q_a3) ?q_a4 ?q_a5 ?q_a6))
  case q_a6 => rfl
  case q_a1 => walk_at "m:evl"
  case q_a2 => decide
  case q_a3 => kernel_rfl
  case q_a4 => walk_at "m:asg"
  show Ex _ _ _ _ _ _ _
  walk_at "m:no"
  walk_at "m:yes"
  (with_reducible refine' Ex.cons (Ex1.ret (C_fixed_text ?q_b1 (Cal.of0 hf ?q_b2) ?q_b3) ?q_b4))
  case q_b1 => walk_at "m:evl"
  case q_b2 => decide
  case q_b3 => kernel_rfl
  case q_b4 => exact Or.inl rfl
theorem fn_common_texts {n d p : Int} (b : Bool) (hb : decide (0 < d) = b) (hc : Fn (cx w) (.ref 150) 6 [.lst (if b then [iD (iR n d)] else []), dI 15] [] (.tup [dS "fixed", dI p]) []) (hf : Fn (cx w) (.ref 157) 5 [iD (iR n d), .tup [dS "fixed", dI p]] [] (dS (ntx n d)) []) :
    Fn (cx w) (.ref 162) 7 [.lst [iD (iR n d)], dI 15] [] (.lst [dS (ntx n d)]) [] := by
  refine in_common_texts rfl ?_
  walk_at "m:go"
  (with_reducible refine' Ex.cons (Ex1.asgF (xs := [iR n d]) (di := iD) (y := iD) (p := fun _ => b) (g := []) (ks := []) ?q_h1 iter_lst ?q_cap ?q_hz ?q_h2 ?q_h3 ?q_hs ?q_hp ?q_sw ?q_hok ?q_ok2 ?q_hf))
  case q_h1 => exact nm (by rfl)
  case q_cap => exact .nil
  case q_hz => walk_at "m:disp"
  case q_hs => walk_at "m:asg"
  case q_sw => walk_at "m:swap"
  case q_hok => kernel_rfl
  case q_ok2 => exact .of (by kernel_rfl)
  case q_hf => intro _ _; rfl
  case q_h2 =>
    intro x hx
    rw [List.mem_singleton.mp hx]
    have hb' : (decide (0 < d) && true) = b := by rw [hb, Bool.and_true]
    refine .one (Ts.re (Ts.and (b1 := true) (Ts.re (Ts.cmp (nm (by rfl)) Ev.none o_isNot) rfl) fun _ => Ts.and (Ts.cmp (Ev.sub (d := dI d) (nm (by rfl)) Ev.int isT_dT getT_tuple (o_itDT (by decide) (by decide) rfl rfl) rfl) Ev.int o_gtI) fun _ => Ts.and_nil) (by rw [hb']; rfl))
  case q_h3 =>
    intro x hx _
    exact nm (by rfl)
  show Ex _ _ _ _ _ _ _
  have e : ([iR n d].filter fun _ => b).map iD = if b then [iD (iR n d)] else [] := by cases b <;> rfl
  rw [e]
  (with_reducible refine' Ex.cons (Ex1.asg (C_chosen_form ?q_a1 (Cal.of0 hc ?q_a2) ?q_a3) ?q_a4 ?q_a5 ?q_a6))
  case q_a6 => rfl
  case q_a1 => walk_at "m:evl"
  case q_a2 => decide
  case q_a3 => kernel_rfl
  case q_a4 => walk_at "m:asg"
  show Ex _ _ _ _ _ _ _
  (with_reducible refine' Ex.cons (Ex1.ret (Ev.compM (xs := [iR n d]) (di := iD) (y := fun _ => dS (ntx n d)) (ks := ["form"]) ?q_b1 iter_lst ?q_b2 ?q_b3 ?q_b4 ?q_b5 ?q_b6 ?q_b7) ?q_b8))
  case q_b1 => exact nm (by rfl)
  case q_b2 => exact .cons 3 rfl rfl .nil
  case q_b3 => walk_at "m:disp"
  case q_b5 => kernel_rfl
  case q_b6 => exact .of (by kernel_rfl)
  case q_b7 => intro _ _; rfl
  case q_b8 => exact Or.inl rfl
  case q_b4 =>
    intro x hx
    rw [List.mem_singleton.mp hx]
    exact C_formed (.cons (nm (by rfl)) (.cons (nm (by rfl)) .nil)) (Cal.of0 hf) (by kernel_rfl)
theorem fn_number_of {n d : Int} (h : Fn (cx w) (.ref 162) 7 [.lst [iD (iR n d)], dI 15] [] (.lst [dS (ntx n d)]) []) : Fn (cx w) (.ref 170) 12 [iD (iR n d), dI 15] [] (dS (ntx n d)) [] := by
  refine in_number_text rfl ?_
  walk_at "m:go"
  (with_reducible refine' Ex.cons (Ex1.ret (Ev.sub (C_common_texts (.cons (Ev.list (.cons (nm ?q_a1) .nil ?q_a2) ?q_a3) (.cons (nm ?q_a4) .nil ?q_a5) ?q_a6) (Cal.of0 h ?q_a7) ?q_a8) Ev.int isT_lst getT_list (o_itL (d := dS (ntx n d)) ?q_b1 ?q_b2 ?q_b3) ?q_b4) ?q_b5))
  case q_a1 => rfl
  case q_a2 => rfl
  case q_a3 => walk_at "m:disp"
  case q_a4 => rfl
  case q_a5 => rfl
  case q_a6 => rfl
  case q_a7 => decide
  case q_a8 => kernel_rfl
  case q_b1 => decide
  case q_b2 => decide
  case q_b3 => rfl
  case q_b4 => rfl
  case q_b5 => exact Or.inl rfl
theorem fn_number_text {n d : Int} (h : okR n d = true) : Fn (cx w) (.ref 170) 12 [iD (iR n d), dI 15] [] (dS (ntx n d)) [] := by
  refine fn_number_of ?_
  rcases okR_c h with ⟨rfl, hn⟩ | ⟨hd, h1, h2⟩
  · exact fn_common_texts (p := 0) false rfl (fn_chosen (.inl ⟨rfl, rfl, rfl, rfl, rfl⟩) (by decide)) (fn_formed_inf hn)
  · have hg : Int.gcd n d = 1 := by
      simp only [okR, Bool.or_eq_true, Bool.and_eq_true, beq_iff_eq, decide_eq_true_eq] at h
      rcases h with h | h
      · omega
      · exact h.2
    have ha := absI_b (n := n)
    have hab : absI n < 200 := by omega
    obtain ⟨c, l, p, e, hm, me⟩ := fn_measures (w := w) hd hab hg
    have hfx : fxT1 (absI n) d (plD d) = ntx1 (absI n) d ∧ 0 ≤ fxI (absI n) d (plD d) ∧ fxI (absI n) d (plD d) < 100000 ∧ (plD d : Int) ≤ (fxT0 (absI n) d (plD d)).length ∧ (fxT0 (absI n) d (plD d)).length ≤ 100 := by
      by_cases h0 : absI n = 0
      · have hn0 : n = 0 := by omega
        subst hn0
        have hd1 : d = 1 := by
          rcases hd with rfl | rfl | rfl
          · rfl
          · exact absurd hg (by decide)
          · exact absurd hg (by decide)
        subst hd1
        exact fx_0
      · refine fx_ok (by omega) hab hd ?_
        rcases ha.2 with q | q
        · rw [q]; exact hg
        · rw [q, Int.neg_gcd]; exact hg
    have hw := me.w
    rw [me.pl] at hw
    refine fn_common_texts (p := plD d) true (decide_eq_true (by omega)) (fn_chosen (.inr ⟨n, d, c, l, p, e, rfl, hm, me.e1, me.e2, rfl, rfl, me.pl.symm, rfl⟩) hw) (fn_formed_fin (by omega) (fn_fixed_text hd hab rfl hfx.1 hfx.2.1 hfx.2.2.1 hfx.2.2.2.1 hfx.2.2.2.2))
end
local macro_rules | `(tactic| walk_at "m:fn") => `(tactic| refine Cal.of0 (fn_number_text ?_) ?_ <;> walk_at "m:s")
theorem kn_eq {k t : Nat} (hk : k < 4) (ht : t < 4) : (kn k == kn t) = decide (k = t) := by
  match k, hk with
  | 0, _ | 1, _ | 2, _ | 3, _ =>
    match t, ht with
    | 0, _ | 1, _ | 2, _ | 3, _ => decide +kernel
theorem kn_ne {k t : Nat} (hk : k < 4) (ht : t < 4) : (kn k != kn t) = decide (k ≠ t) := by
  rw [bne, kn_eq hk ht]; simp
section
variable {w : World}
theorem fn_to_text {k : Nat} {x : It} (hk : k < 3) (h : okI k x = true) : Fn (cx w) (.ref 449) 13 [dS (kn k), iD x] [] (iD (tx k x)) [] := by
  match k, hk with
  | 0, _ =>
    rcases oi0 h with rfl | rfl | rfl
    all_goals refine in_to_text rfl ?_
    all_goals walk_at "m:go"
    · walk_at "m:yes"
      walk_at "m:ret"
    all_goals walk_at "m:no"
    all_goals walk_at "m:yes"
    all_goals walk_at "m:ret"
  | 1, _ =>
    rcases oi1 h with rfl | ⟨i, rfl, h1, h2⟩
    all_goals refine in_to_text rfl ?_
    all_goals walk_at "m:go"
    · walk_at "m:yes"
      walk_at "m:ret"
    walk_at "m:no"
    walk_at "m:no"
    walk_at "m:yes"
    walk_at "m:ret"
  | 2, _ =>
    rcases oi2 h with rfl | ⟨n, d, rfl, hr⟩
    all_goals refine in_to_text rfl ?_
    all_goals walk_at "m:go"
    · walk_at "m:yes"
      walk_at "m:ret"
    walk_at "m:no"
    walk_at "m:no"
    walk_at "m:no"
    walk_at "m:ret"
end
local macro_rules | `(tactic| walk_at "m:fn") => `(tactic| refine Cal.of0 (fn_to_text ?_ ?_) ?_ <;> walk_at "m:s")
section
variable {w : World}
theorem fn_to_integer {x : It} {dn : D} (h : okI 0 x = true) : Fn (cx w) (.ref 435) 2 [dS "logical", iD x, dn] [] (iD x) [] := by
  rcases oi0 h with rfl | rfl | rfl
  all_goals refine in_to_integer rfl ?_
  all_goals walk_at "m:go"
  · walk_at "m:yes"
    walk_at "m:ret"
  all_goals walk_at "m:no"
  all_goals walk_at "m:no"
  all_goals walk_at "m:no"
  all_goals walk_at "m:ret"
theorem fn_from_int {i : Int} : Fn (cx w) (.ref 45) 2 [dI i] [] (iD (iR i 1)) [] := by
  refine in_from_int rfl ?_
  walk_at "m:go"
  walk_at "m:no"
  (with_reducible refine' Ex.cons (Ex1.ret (Ev.re ?q_a ?q_b) ?q_c))
  case q_c => exact Or.inl rfl
  case q_a => walk_at "m:ev"
  case q_b => exact ofT (xs := [.int i, .int 1])
local macro_rules | `(tactic| walk_at "m:fn") => `(tactic| exact Cal.of0 fn_from_int (by decide))
theorem fn_to_double0 {x : It} {dn : D} (h : okI 0 x = true) : Fn (cx w) (.ref 442) 3 [dS "logical", iD x, dn] [] (iD (cv 0 2 x)) [] := by
  rcases oi0 h with rfl | rfl | rfl
  all_goals refine in_to_double rfl ?_
  all_goals walk_at "m:go"
  · walk_at "m:yes"
    walk_at "m:ret"
  all_goals walk_at "m:no"
  all_goals walk_at "m:no"
  all_goals walk_at "m:ret"
theorem fn_to_double1 {x : It} {dn : D} (h : okI 1 x = true) : Fn (cx w) (.ref 442) 3 [dS "integer", iD x, dn] [] (iD (cv 1 2 x)) [] := by
  rcases oi1 h with rfl | ⟨i, rfl, _⟩
  all_goals refine in_to_double rfl ?_
  all_goals walk_at "m:go"
  · walk_at "m:yes"
    walk_at "m:ret"
  all_goals walk_at "m:no"
  all_goals walk_at "m:no"
  all_goals walk_at "m:ret"
local macro_rules | `(tactic| walk_at "m:fn") => `(tactic| first | refine Cal.of0 (fn_to_integer ?_) ?_ <;> walk_at "m:s" | refine Cal.of0 (fn_to_double0 ?_) ?_ <;> walk_at "m:s" | refine Cal.of0 (fn_to_double1 ?_) ?_ <;> walk_at "m:s")
theorem fn_item_as {k t : Nat} {x : It} {dn : D} (hk : k ≤ t) (ht : t < 4) (h : okI k x = true) : Fn (cx w) (.ref 456) 14 [dS (kn k), iD x, dS (kn t), dn] [] (iD (cv k t x)) [] := by
  by_cases e : k = t
  · subst e
    have q : (kn k == kn k) = true := beq_self_eq_true _
    have q2 : cv k k x = x := by unfold cv; rw [if_pos (beq_self_eq_true k)]
    rw [q2]
    refine in_item_as rfl ?_
    walk_at "m:go"
    walk_at "m:yes"
    walk_at "m:ret"
  · have c := pairs6 ht hk e
    clear ht hk e
    rcases c with ⟨rfl, rfl⟩ | ⟨rfl, rfl⟩ | ⟨rfl, rfl⟩ | ⟨rfl, rfl⟩ | ⟨rfl, rfl⟩ | ⟨rfl, rfl⟩
    all_goals refine in_item_as rfl ?_
    all_goals walk_at "m:go"
    all_goals walk_at "m:no"
    all_goals walk_at "m:no"
    all_goals walk_at "m:no"
    all_goals walk_at "m:no"
    all_goals first | walk_at "m:yes" | (walk_at "m:no"; walk_at "m:yes") | (walk_at "m:no"; walk_at "m:no")
    all_goals walk_at "m:ret"
end
local macro_rules | `(tactic| walk_at "m:fn") => `(tactic| refine Cal.of0 (fn_item_as ?_ ?_ ?_) ?_ <;> walk_at "m:s")
section
variable {w : World}
theorem fn_as_kind {k t : Nat} {xs : List It} {dn : D} (hk : k ≤ t) (ht : t < 4) (h : ∀ x ∈ xs, okI k x = true) (hz : xs.length ≤ 1000) : Fn (cx w) (.ref 494) 15 [vec k xs, dS (kn t), dn] [] (vec t (xs.map (cv k t))) [] := by
  have hk4 : k < 4 := by omega
  refine in_as_kind rfl ?_
  walk_at "m:go"
  walk_at "m:no"
  walk_at "m:as"
  by_cases e : k = t
  · subst e
    have q : (kn k != kn k) = false := by simp [bne]
    have q2 : xs.map (cv k k) = xs := by
      have : cv k k = id := by funext x; unfold cv; rw [if_pos (beq_self_eq_true k)]; rfl
      rw [this, List.map_id]
    rw [q2]
    walk_at "m:no"
    walk_at "m:ret"
  · have q : (kn k != kn t) = true := by rw [kn_ne hk4 ht]; simpa using e
    walk_at "m:yes"
    (with_reducible refine' Ex.cons (Ex1.asgM (y := fun x => iD (cv k t x)) (ks := ["v", "kind", "notes"]) ?q_h1 iter_lst ?q_cap ?q_hz ?q_h3 ?q_hs ?q_hp ?q_sw ?q_hok ?q_ok2 ?q_hf))
    case q_h1 => walk_at "m:ev"
    case q_cap => exact .cons 0 rfl rfl (.cons 1 rfl rfl (.cons 2 rfl rfl .nil))
    case q_hz => exact sl1000 hz
    case q_hs => walk_at "m:asg"
    case q_sw => walk_at "m:swap"
    case q_hok => kernel_rfl
    case q_ok2 => exact .of (by kernel_rfl)
    case q_hf => intro _ _; rfl
    case q_h3 =>
      intro x hx
      have h1 := h x hx
      walk_at "m:ev"
    case q_hp =>
      show Ex _ _ _ _ _ _ _
      refine Ex.nilT ?_
      have hz2 : (xs.map fun x => iD (cv k t x)).length ≤ 1000 := by simpa using hz
      walk_at "m:ret"
      refine .inl ?_
      show _ = Out.ret (vI _ (.lst ((xs.map (cv k t)).map iD)) _) _
      rw [List.map_map]; rfl
end
local macro_rules | `(tactic| walk_at "m:fn") => `(tactic| refine Cal.of0 (fn_as_kind ?_ ?_ ?_ ?_) ?_ <;> walk_at "m:s")
section
variable {w : World}
theorem fn_plain_vec {k : Nat} {xs : List It} (hk : k < 4) : Fn (cx w) (.ref 603) 7 [vec k xs] [] (vec k xs) [] := by
  match k, hk with
  | 0, _ | 1, _ | 2, _ | 3, _ =>
    refine in_plain rfl ?_
    walk_at "m:go"
    walk_at "m:no"
    walk_at "m:no"
    walk_at "m:no"
    walk_at "m:ret"
theorem fn_plain_fac {xs : List It} (h : ∀ x ∈ xs, okF x = true) (hz : xs.length ≤ 1000) : Fn (cx w) (.ref 603) 7 [fac xs] [] (vec 3 (xs.map lev)) [] := by
  refine in_plain rfl ?_
  walk_at "m:go"
  walk_at "m:no"
  walk_at "m:no"
  walk_at "m:yes"
  walk_at "m:ret"
theorem fn_plain_null : Fn (cx w) (.ref 603) 7 [nullD] [] (vec 0 []) [] := by
  refine in_plain rfl ?_
  walk_at "m:go"
  walk_at "m:yes"
  walk_at "m:ret"
theorem fn_both_kinds {du dv : D} {a b : Nat} {xs ys : List It} (hu : Fn (cx w) (.ref 603) 7 [du] [] (vec a xs) []) (hv : Fn (cx w) (.ref 603) 7 [dv] [] (vec b ys) []) (ha : a < 4) (hb : b < 4)
    (h1 : ∀ x ∈ xs, okI a x = true) (h2 : ∀ x ∈ ys, okI b x = true) (z1 : xs.length ≤ 1000) (z2 : ys.length ≤ 1000) :
    Fn (cx w) (.ref 610) 16 [du, dv] [] (.tup [vec (max a b) (xs.map (cv a (max a b))), vec (max a b) (ys.map (cv b (max a b)))]) [] := by
  have l1 : a ≤ max a b := Nat.le_max_left a b
  have l2 : b ≤ max a b := Nat.le_max_right a b
  have l3 : max a b < 4 := by omega
  generalize hm : max a b = m at *
  have hck : Fn (cx w) (.ref 393) 3 [.lst [dS (kn a), dS (kn b)]] [] (dS (kn m)) [] := hm ▸ fn_common_kind ha hb
  refine in_both_kinds rfl ?_
  walk_at "m:go"
  (with_reducible refine' Ex.cons (Ex1.asg (C_plain ?q_a (Cal.of0 hu ?q_m) ?q_h) ?q_s ?q_b ?q_c))
  case q_c => rfl
  case q_a => walk_at "m:evl"
  case q_m => decide
  case q_h => kernel_rfl
  case q_s => walk_at "m:asg"
  show Ex _ _ _ _ _ _ _
  (with_reducible refine' Ex.cons (Ex1.asg (C_plain ?q_a1 (Cal.of0 hv ?q_m1) ?q_h1) ?q_s1 ?q_b1 ?q_c1))
  case q_c1 => rfl
  case q_a1 => walk_at "m:evl"
  case q_m1 => decide
  case q_h1 => kernel_rfl
  case q_s1 => walk_at "m:asg"
  show Ex _ _ _ _ _ _ _
  (with_reducible refine' Ex.cons (Ex1.asg (C_common_kind ?q_a2 (Cal.of0 hck ?q_m2) ?q_h2) ?q_s2 ?q_b2 ?q_c2))
  case q_c2 => rfl
  case q_a2 => walk_at "m:evl"
  case q_m2 => decide
  case q_h2 => kernel_rfl
  case q_s2 => walk_at "m:asg"
  show Ex _ _ _ _ _ _ _
  walk_at "m:ret"
end
/-- what is known after so many items -/
noncomputable def knw (xs : List It) : Nat → List (Str × D)
  | 0 => []
  | k + 1 => match xs[k]? with
    | none => knw xs k
    | some x => if x ∈ xs.take k then knw xs k else knw xs k ++ [(key x, dI k)]
theorem idx_take {xs : List It} {x : It} {k : Nat} (h : x ∈ xs.take k) : (xs.take k).idxOf x = xs.idxOf x := by
  have : xs = xs.take k ++ xs.drop k := (List.take_append_drop k xs).symm
  conv => rhs; rw [this]
  rw [List.idxOf_append, if_pos h]
theorem idx_here {xs : List It} {x : It} {k : Nat} (hk : xs[k]? = some x) (h : x ∉ xs.take k) : xs.idxOf x = k := by
  have hlt : k < xs.length := (List.getElem?_eq_some_iff.mp hk).1
  have e : xs[k] = x := (List.getElem?_eq_some_iff.mp hk).2
  have : xs = xs.take k ++ xs.drop k := (List.take_append_drop k xs).symm
  rw [this, List.idxOf_append, if_neg h, List.drop_eq_getElem_cons hlt, List.idxOf_cons, e]
  simp; omega
theorem mem_take_succ {xs : List It} {x y : It} {k : Nat} (hk : xs[k]? = some x) : y ∈ xs.take (k + 1) ↔ y ∈ xs.take k ∨ y = x := by
  rw [List.take_add_one, hk]; simp
theorem valD_snoc {K : Type} [DecidableEq K] {fs : List (K × D)} {k q : K} {d : D} : valD (fs ++ [(k, d)]) q = match valD fs q with | some z => some z | none => if k = q then some d else none := by
  unfold valD
  rw [List.find?_append]
  cases e : fs.find? (fun kv => decide (kv.1 = q)) with
  | some z => simp
  | none =>
    simp only [Option.none_or, Option.map_none]
    by_cases h : k = q <;> simp [h]
theorem knw_val {m : Nat} (hi : Inj m) {xs : List It} (hx : ∀ x ∈ xs, okI m x = true) {y : It} (hy : okI m y = true) : ∀ k, k ≤ xs.length → valD (knw xs k) (key y) = if y ∈ xs.take k then some (dI (xs.idxOf y : Nat)) else none
  | 0, _ => by simp [knw, valD]
  | k + 1, hk => by
    have hlt : k < xs.length := by omega
    have ih := knw_val hi hx hy k (by omega)
    have e : xs[k]? = some xs[k] := List.getElem?_eq_getElem hlt
    unfold knw
    rw [e]
    dsimp only
    by_cases q : xs[k] ∈ xs.take k
    · rw [if_pos q, ih]
      by_cases r : y ∈ xs.take k
      · rw [if_pos r, if_pos ((mem_take_succ e).mpr (.inl r))]
      · rw [if_neg r, if_neg fun z => ((mem_take_succ e).mp z).elim r fun z => r (z ▸ q)]
    · rw [if_neg q, valD_snoc, ih]
      by_cases r : y ∈ xs.take k
      · rw [if_pos r, if_pos ((mem_take_succ e).mpr (.inl r))]
      · rw [if_neg r]
        dsimp only
        by_cases z : y = xs[k]
        · subst z
          rw [if_pos rfl, if_pos ((mem_take_succ e).mpr (.inr rfl)), idx_here e r]
        · rw [if_neg fun h => z (hi _ _ (hx _ (List.getElem_mem _)) hy h).symm, if_neg fun h => ((mem_take_succ e).mp h).elim r z]
theorem knw_len (xs : List It) : ∀ k, (knw xs k).length ≤ k
  | 0 => Nat.le_refl _
  | k + 1 => by
    have := knw_len xs k
    unfold knw
    split
    · omega
    · split
      · omega
      · rw [List.length_append, List.length_singleton]; omega
theorem valD_mem {K : Type} [DecidableEq K] {fs : List (K × D)} {q : K} : valD fs q = none ↔ q ∉ fs.map (·.1) := by
  unfold valD
  simp only [Option.map_eq_none_iff, List.find?_eq_none, decide_eq_true_eq, List.mem_map, not_exists, not_and]
theorem knw_nd {m : Nat} (hi : Inj m) {xs : List It} (hx : ∀ x ∈ xs, okI m x = true) : ∀ k, k ≤ xs.length → ((knw xs k).map (·.1)).Nodup
  | 0, _ => List.nodup_nil
  | k + 1, hk => by
    have ih := knw_nd hi hx k (by omega)
    have hlt : k < xs.length := by omega
    have e : xs[k]? = some xs[k] := List.getElem?_eq_getElem hlt
    have hv := knw_val hi hx (hx _ (List.getElem_mem hlt)) k (by omega)
    unfold knw
    rw [e]
    dsimp only
    split
    · exact ih
    · rename_i q
      rw [if_neg q] at hv
      rw [List.map_append, List.map_singleton]
      exact List.nodup_append.mpr ⟨ih, List.nodup_cons.mpr ⟨List.not_mem_nil, List.nodup_nil⟩, fun a ha b hb e => by
        rw [List.mem_singleton.mp hb] at e
        subst e
        exact valD_mem.mp hv ha⟩
theorem putD_new {K : Type} [DecidableEq K] {fs : List (K × D)} {k : K} {d : D} (h : valD fs k = none) : putD fs k d = fs ++ [(k, d)] := by
  unfold putD
  rw [if_neg]
  intro q
  obtain ⟨kv, m, e⟩ := List.any_eq_true.mp q
  have e := of_decide_eq_true e
  exact valD_mem.mp h (e ▸ List.mem_map_of_mem m)
/-- each item's first place -/
noncomputable def fst (xs : List It) : List Nat := xs.map fun x => xs.idxOf x
noncomputable abbrev nD (i : Nat) : D := dI i
section
variable {w : World}
theorem setd {f : Fi} {n : Nat} {Γ : Ga} {m : Nat} (hi : Inj m) {xs : List It} (hx : ∀ x ∈ xs, okI m x = true) {k : Nat} (hk : k < xs.length) (hz : xs.length ≤ 1000) {a : Addr} {l r : Mu} :
    Cal (cx w) f n Γ (.builtin "dict.setdefault") [dA a, dS (key xs[k]), dI k] (l ++ (a, .dct (knw xs k)) :: r) (nD (xs.idxOf xs[k])) (l ++ (a, .dct (knw xs (k + 1))) :: r) := by
  have hv := knw_val hi hx (hx _ (List.getElem_mem hk)) k (by omega)
  have nd := knw_nd hi hx k (by omega)
  have hl := knw_len xs k
  have e : xs[k]? = some xs[k] := List.getElem?_eq_getElem hk
  by_cases q : xs[k] ∈ xs.take k
  · rw [if_pos q] at hv
    have e2 : knw xs (k + 1) = knw xs k := by
      conv => lhs; unfold knw
      rw [e]; dsimp only; rw [if_pos q]
    rw [e2]
    exact Cal.b1 l (f_setdefault_old (ktS (cx w)) nd (sl1000 (by omega)) hv)
  · rw [if_neg q] at hv
    have e2 : knw xs (k + 1) = putD (knw xs k) (key xs[k]) (dI k) := by
      rw [putD_new hv]
      conv => lhs; unfold knw
      rw [e]; dsimp only; rw [if_neg q]
    rw [e2, idx_here e q]
    exact Cal.b1 l (f_setdefault_new (ktS (cx w)) nd (sl1000 (by omega)) hv)
theorem fn_first_places {k : Nat} {xs : List It} {da : D} (hi : Inj k) (hk : k < 4) (hx : ∀ x ∈ xs, okI k x = true) (hz : xs.length ≤ 1000) : Fn (cx w) (.ref 578) 4 [vI (dS (kn k)) (.lst (xs.map iD)) da] [] (.lst ((fst xs).map nD)) [] := by
  refine in_first_places rfl ?_
  walk_at "m:go"
  walk_at "m:no"
  (with_reducible refine' Ex.cons (Ex1.asgN (EvN.dict0 (ktS (cx w))) ?q_s1 ?q_p1 ?q_n1 ?q_c1))
  case q_n1 => decide
  case q_c1 => rfl
  case q_s1 => intro a; walk_at "m:asg"
  intro a
  show Ex _ _ _ _ _ _ _
  (with_reducible refine' Ex.cons (Ex1.asgN (EvN.list .nil ?q_z2) ?q_s2 ?q_p2 ?q_n2 ?q_c2))
  case q_z2 => decide
  case q_n2 => decide
  case q_c2 => rfl
  case q_s2 => intro a; walk_at "m:asg"
  intro b
  show Ex _ _ _ _ [(b, .lst []), (a, .dct [])] _ _
  (with_reducible refine' Ex.cons (Ex1.forIn 3 ?q_h1 ?q_hI (fun _ => [some (vI (dS (kn k)) (.lst (xs.map iD)) da), none, some (dA b), none, none, some (dA a)]) (fun j => [(b, .lst (((fst xs).take j).map nD)), (a, .dct (knw xs j))]) ?q_I0 ?q_J0 ?q_hJ ?q_step ?q_hp ?q_hx ?q_hs))
  case q_hx => rfl
  case q_hs => intro _ _; rfl
  case q_h1 => walk_at "m:ev"
  case q_hI => exact iter_rng (by rw [List.length_map]; omega)
  case q_I0 =>
    show Sub _ _
    walk_at "m:sub"
  case q_J0 => rfl
  case q_hJ => intro _; rfl
  case q_step =>
    intro j d hd
    have hj : j < xs.length := by
      have := (List.getElem?_eq_some_iff.mp hd).1
      simpa using this
    have hd' : d = dI j := by
      rw [List.getElem?_map, List.getElem?_range (by simpa using hj)] at hd
      simpa using hd.symm
    subst hd'
    show Ex _ _ _ [_, _, _, _, _, _] _ _ _
    have h3 := hx _ (List.getElem_mem hj)
    (with_reducible refine' Ex.cons (Ex1.expr (Ev.methC (d0 := dA b) ?q_a1 (.cons ?q_b1 .nil ?q_b2) (kd_muL (l := ((fst xs).take j).map nD) ?q_c1) m_append (Cal.b1 [] (f_append ?q_d1)) ?q_e1 ?q_e2 ?q_e3) ?q_f1 ?q_f2))
    case q_f2 => rfl
    case q_e1 => decide
    case q_e2 => rfl
    case q_e3 => intro _ _; rfl
    case q_a1 => exact nm (by rfl)
    case q_b2 => rfl
    case q_c1 => exact List.mem_cons_self ..
    case q_b1 =>
      refine' Ev.methC (d0 := dA a) ?_ ?_ (kd_muD (l := knw xs j) ?_) m_setdefault (setd (l := [(b, .lst (((fst xs).take j).map nD))]) (r := []) hi hx hj hz)
      · exact nm (by rfl)
      · refine' .cons ?_ (.cons (nm (by rfl)) .nil)
        refine' C_item_key (.cons ?_ (.cons ?_ .nil)) (Cal.of0 (fn_item_key hk h3)) ?_
        · walk_at "m:ev"
        · refine' Ev.sub ?_ (nm (by rfl)) isT_lst getT_list (o_itL (by omega) (by omega) ?_) rfl
          · walk_at "m:ev"
          · simp [hj]
        · kernel_rfl
      · exact List.mem_cons_of_mem _ (List.mem_cons_self ..)
    case q_d1 => exact sl1000 (by simp; omega)
    refine Ex.nil (Turn.nx ?_ ?_)
    · walk_at "m:sub"
    · have : (fst xs).take (j + 1) = (fst xs).take j ++ [xs.idxOf xs[j]] := by
        rw [List.take_add_one]; simp [fst, hj]
      rw [this, List.map_append]; rfl
  case q_hp =>
    have e1 : (fst xs).take ((List.range (xs.map iD).length).map fun (i : Nat) => dI i).length = fst xs := by
      rw [List.take_of_length_le]; simp [fst]
    rw [e1]
    show Ex _ _ _ _ _ _ _
    refine Ex.frz (d0 := dN) 2 ?_ rfl frz_lst
    refine Ex.drop ?_
    walk_at "m:ret"
end
local macro_rules | `(tactic| walk_at "m:fn") => `(tactic| refine Cal.of0 (fn_first_places ?_ ?_ ?_ ?_) ?_ <;> walk_at "m:s")
/-- first of its like -/
noncomputable def sp (xs : List It) (i : Nat) : Bool := !(xs.take i).contains (xs.getD i none)
noncomputable def spots (xs : List It) : List Nat := (List.range xs.length).filter (sp xs)
noncomputable def dups (xs : List It) : List Int := (List.range xs.length).map fun i => if sp xs i then 0 else 1
theorem fst_len (xs : List It) : (fst xs).length = xs.length := List.length_map ..
theorem fst_get {xs : List It} {i : Nat} (h : i < xs.length) : (fst xs)[i]'(by rw [fst_len]; exact h) = xs.idxOf xs[i] := by simp [fst]
theorem sp_eq {xs : List It} {i : Nat} (h : i < xs.length) : sp xs i = decide (xs.idxOf xs[i] = i) := by
  have e : xs[i]? = some xs[i] := List.getElem?_eq_getElem h
  have g : xs.getD i none = xs[i] := by rw [List.getD_eq_getElem?_getD, e]; rfl
  unfold sp
  rw [g]
  by_cases q : xs[i] ∈ xs.take i
  · have h1 : (xs.take i).contains xs[i] = true := List.contains_iff_mem.mpr q
    rw [h1]
    have h2 : xs.idxOf xs[i] < i := by
      rw [← idx_take q]
      have := List.idxOf_lt_length_iff.mpr q
      rw [List.length_take] at this; omega
    simp; omega
  · have h1 : (xs.take i).contains xs[i] = false := by
      rw [← Bool.not_eq_true]; exact fun z => q (List.contains_iff_mem.mp z)
    rw [h1, idx_here e q]; simp
section
variable {w : World}
theorem fget {c : Cx} {n : Nat} {xs : List It} {i : Nat} (h : i < xs.length) (hz : xs.length ≤ 1000) : Pu2 c n getItem (.lst ((fst xs).map nD)) (dI i) (nD (xs.idxOf xs[i])) :=
  o_itL (by omega) (by omega) (by simp [fst, h])
theorem fn_unique_places {k : Nat} {xs : List It} {da : D} (hi : Inj k) (hk : k < 4) (hx : ∀ x ∈ xs, okI k x = true) (hz : xs.length ≤ 1000) : Fn (cx w) (.ref 583) 5 [vI (dS (kn k)) (.lst (xs.map iD)) da] [] (.lst ((spots xs).map nD)) [] := by
  refine in_unique_places rfl ?_
  walk_at "m:go"
  walk_at "m:as"
  have e0 : ((fst xs).map nD).length = xs.length := by rw [List.length_map, fst_len]
  (with_reducible refine' Ex.cons (Ex1.ret (Ev.compF (xs := List.range xs.length) (di := nD) (y := nD) (p := sp xs) (ks := ["firsts"]) ?q_a ?q_b ?q_c ?q_d ?q_e ?q_f ?q_hok ?q_ok2 ?q_hf) ?q_g))
  case q_a => walk_at "m:ev"
  case q_b => rw [e0]; exact iter_rng (by omega)
  case q_c => exact .cons 1 rfl rfl .nil
  case q_d => exact sl1000 (by simpa using hz)
  case q_hok => kernel_rfl
  case q_ok2 => exact .of (by kernel_rfl)
  case q_hf => intro _ _; rfl
  case q_g => exact Or.inl rfl
  case q_e =>
    intro i hm
    have h := List.mem_range.mp hm
    refine' .one (Ts.re (Ts.cmp (Ev.sub (nm (by rfl)) (nm (by rfl)) isT_lst getT_list (fget h hz) rfl) (nm (by rfl)) o_eqI) ?_)
    rw [sp_eq h]
    exact (Bool.beq_eq_decide_eq ..).trans (decide_eq_decide.mpr (by omega))
  case q_f =>
    intro i hm _
    exact nm (by rfl)
theorem fn_dup_core {k : Nat} {xs : List It} {da d1 : D} {b : Bool} (hi : Inj k) (hk : k < 4) (hx : ∀ x ∈ xs, okI k x = true) (hz : xs.length ≤ 1000) (hb : d1 = dB b) :
    Ex (cx w) F_duplicated_flags 5 [some (vI (dS (kn k)) (.lst (xs.map iD)) da), some d1, none, none, none] [] (sB (nth bd 90)) (fun o => o = .ret (.lst ((if b then (dups xs.reverse).reverse else dups xs).map dI)) [] ∨ ∃ Γ', (.lst ((if b then (dups xs.reverse).reverse else dups xs).map dI)) = dN ∧ o = .nxt Γ' []) := by
  subst hb
  walk_at "m:go"
  obtain ⟨ys, hys, hzy, hxy⟩ : ∃ ys, (if b then xs.reverse else xs) = ys ∧ ys.length ≤ 1000 ∧ ∀ x ∈ ys, okI k x = true := by
    cases b
    · exact ⟨xs, rfl, hz, hx⟩
    · exact ⟨xs.reverse, rfl, by simpa using hz, fun x m => hx x (List.mem_reverse.mp m)⟩
  (with_reducible refine' Ex.cons (Ex1.asg (d := vI (dS (kn k)) (.lst (ys.map iD)) (if b then dN else da)) ?q_a ?q_s ?q_p ?q_c))
  case q_c => rfl
  case q_s => walk_at "m:asg"
  case q_a =>
    cases b
    · subst hys; walk_at "m:ev"
    · subst hys; walk_at "m:ev"
  show Ex _ _ _ _ _ _ _
  walk_at "m:as"
  have e0 : ((fst ys).map nD).length = ys.length := by rw [List.length_map, fst_len]
  (with_reducible refine' Ex.cons (Ex1.asgM (xs := List.range ys.length) (di := nD) (y := fun i => dI (if sp ys i then 0 else 1)) (ks := ["firsts"]) ?q_h1 ?q_hI ?q_cap ?q_hz ?q_h3 ?q_hs ?q_hp ?q_sw ?q_hok ?q_ok2 ?q_hf))
  case q_h1 => walk_at "m:ev"
  case q_hI => rw [e0]; exact iter_rng (by omega)
  case q_cap => exact .cons 3 rfl rfl .nil
  case q_hz => exact sl1000 (by simpa using hzy)
  case q_hs => walk_at "m:asg"
  case q_sw => walk_at "m:swap"
  case q_hok => kernel_rfl
  case q_ok2 => exact .of (by kernel_rfl)
  case q_hf => intro _ _; rfl
  case q_h3 =>
    intro i hm
    have h := List.mem_range.mp hm
    refine' Ev.ifexp (q := !sp ys i) (Ts.re (Ts.cmp (Ev.sub (nm (by rfl)) (nm (by rfl)) isT_lst getT_list (fget h hzy) rfl) (nm (by rfl)) o_neI) ?_) (fun q => ?_) (fun q => ?_)
    · rw [sp_eq h]
      simp only [bne, Bool.beq_eq_decide_eq]
      congr 1
      exact decide_eq_decide.mpr (by omega)
    · have q' : sp ys i = false := by simpa using q
      rw [q']; exact Ev.int
    · have q' : sp ys i = true := by simpa using q
      rw [q']; exact Ev.int
  show Ex _ _ _ _ _ _ _
  have e2 : (List.range ys.length).map (fun i => dI (if sp ys i then 0 else 1)) = (dups ys).map dI := by rw [dups, List.map_map]; rfl
  rw [e2]
  have lz : ((dups ys).map dI).length ≤ 1000 := by simpa [dups] using hzy
  cases b
  · subst hys
    walk_at "m:no"
    walk_at "m:ret"
  · subst hys
    walk_at "m:yes"
    (with_reducible refine' Ex.cons (Ex1.ret (Ev.slice ?q_b .none .none (.some (Ev.neg Ev.int)) ?q_c ?q_g (sl_rev lsOf_lst ?q_d)) ?q_f))
    case q_b => walk_at "m:ev"
    case q_c => exact isT_lst
    case q_g => exact getT_list
    case q_d => exact sl1000 lz
    case q_f => refine Or.inl ?_; rw [← List.map_reverse]; rfl
theorem fn_dup {k : Nat} {xs : List It} {da : D} (hi : Inj k) (hk : k < 4) (hx : ∀ x ∈ xs, okI k x = true) (hz : xs.length ≤ 1000) : Fn (cx w) (.ref 596) 6 [vI (dS (kn k)) (.lst (xs.map iD)) da] [] (.lst ((dups xs).map dI)) [] :=
  in_duplicated_flags_d rfl (fn_dup_core (b := false) hi hk hx hz rfl)
theorem fn_dup_last {k : Nat} {xs : List It} {da : D} (hi : Inj k) (hk : k < 4) (hx : ∀ x ∈ xs, okI k x = true) (hz : xs.length ≤ 1000) : Fn (cx w) (.ref 596) 6 [vI (dS (kn k)) (.lst (xs.map iD)) da, dB true] [] (.lst ((dups xs.reverse).reverse.map dI)) [] :=
  in_duplicated_flags rfl (fn_dup_core (b := true) hi hk hx hz rfl)
end
local macro_rules | `(tactic| walk_at "m:fn") => `(tactic| refine Cal.of0 (fn_unique_places ?_ ?_ ?_ ?_) ?_ <;> walk_at "m:s")
local macro_rules | `(tactic| walk_at "m:fn") => `(tactic| first | refine Cal.of0 (fn_dup ?_ ?_ ?_ ?_) ?_ <;> walk_at "m:s" | refine Cal.of0 (fn_dup_last ?_ ?_ ?_ ?_) ?_ <;> walk_at "m:s")
theorem Ex1.retD {c : Cx} {f : Fi} {n : Nat} {Γ : Ga} {μ μ1 : Mu} {P : Out → Prop} {a : Addr} {mo mo' : MO} {pos : Pos} {e : Expr} {d : D} (h1 : Ev c f n Γ ((a, mo) :: μ) e d ((a, mo') :: μ1)) (hp : P (.ret d μ1)) : Ex1 c f n Γ ((a, mo) :: μ) (.Return (some e) pos) P :=
  fun A E hs s Q Er ok R O S k => wpAny_Return_some (h1.run A E hs s _ Er ok R O S fun v ha t1 l1 S1 r1 => k (.ret d μ1) (.ret v) ha t1 hp l1.addl (fun b q => .inl (by
    rw [← h1.ad]; exact List.mem_cons_of_mem _ q)) ⟨S1.drop.weak fun i d q => by simp at q, by
    rw [← T_ad h1.ad] at r1
    exact r1.keeps (hid_same fun z q => (mem_new z).mpr (.inr q))⟩)
/-- the places of a left side's items in a right side -/
noncomputable def mpl (L R : List It) : List (Option Nat) := L.map fun x => if x ∈ R then some (R.idxOf x) else none
noncomputable def oD : Option Nat → D
  | some i => nD i
  | none => dN
section
variable {w : World}
theorem fn_match {du dv : D} {a b : Nat} {xs ys : List It} (inj : ∀ k, Inj k) (hu : Fn (cx w) (.ref 603) 7 [du] [] (vec a xs) []) (hv : Fn (cx w) (.ref 603) 7 [dv] [] (vec b ys) []) (ha : a < 4) (hb : b < 4)
    (h1 : ∀ x ∈ xs, okI a x = true) (h2 : ∀ x ∈ ys, okI b x = true) (z1 : xs.length ≤ 1000) (z2 : ys.length ≤ 1000) :
    Fn (cx w) (.ref 615) 17 [du, dv] [] (.lst ((mpl (xs.map (cv a (max a b))) (ys.map (cv b (max a b)))).map oD)) [] := by
  have l1 : a ≤ max a b := Nat.le_max_left a b
  have l2 : b ≤ max a b := Nat.le_max_right a b
  have hm : max a b < 4 := by omega
  have hbk := fn_both_kinds hu hv ha hb h1 h2 z1 z2
  have o1 : ∀ x ∈ xs.map (cv a (max a b)), okI (max a b) x = true := fun x m => by
    obtain ⟨y, hy, rfl⟩ := List.mem_map.mp m; exact cv_ok l1 hm (h1 y hy)
  have o2 : ∀ x ∈ ys.map (cv b (max a b)), okI (max a b) x = true := fun x m => by
    obtain ⟨y, hy, rfl⟩ := List.mem_map.mp m; exact cv_ok l2 hm (h2 y hy)
  have z3 : (xs.map (cv a (max a b))).length ≤ 1000 := by simpa using z1
  have z4 : (ys.map (cv b (max a b))).length ≤ 1000 := by simpa using z2
  generalize xs.map (cv a (max a b)) = L at *
  generalize ys.map (cv b (max a b)) = R at *
  generalize max a b = m at *
  have hi := inj m
  refine in_match_places rfl ?_
  walk_at "m:go"
  (with_reducible refine' Ex.cons (Ex1.unpack2 (C_both_kinds ?q_a (Cal.of0 hbk ?q_m) ?q_h) ?q_s ?q_s2 ?q_hp9 ?q_c ?q_w))
  case q_a => walk_at "m:evl"
  case q_m => decide
  case q_h => kernel_rfl
  case q_s => walk_at "m:asg"
  case q_s2 => walk_at "m:asg"
  case q_c => rfl
  case q_w => intro _; rfl
  show Ex _ _ _ _ _ _ _
  walk_at "m:no"
  (with_reducible refine' Ex.cons (Ex1.asgN (EvN.dict0 (ktS (cx w))) ?q_s1 ?q_p1 ?q_n1 ?q_c1))
  case q_n1 => decide
  case q_c1 => rfl
  case q_s1 => intro a; walk_at "m:asg"
  intro ad
  show Ex _ _ _ _ [(ad, .dct [])] _ _
  (with_reducible refine' Ex.cons (Ex1.forIn 6 ?q_h1 ?q_hI (fun _ => [none, none, some (vec m L), some (vec m R), none, some (dA ad), none]) (fun j => [(ad, .dct (knw R j))]) ?q_I0 ?q_J0 ?q_hJ ?q_step ?q_hp ?q_hx ?q_hs))
  case q_hx => rfl
  case q_hs => intro _ _; rfl
  case q_h1 => walk_at "m:ev"
  case q_hI => exact iter_rng (by rw [List.length_map]; omega)
  case q_I0 =>
    show Sub _ _
    walk_at "m:sub"
  case q_J0 => rfl
  case q_hJ => intro _; rfl
  case q_step =>
    intro j d hd
    have hj : j < R.length := by
      have := (List.getElem?_eq_some_iff.mp hd).1
      simpa using this
    have hd' : d = dI j := by
      rw [List.getElem?_map, List.getElem?_range (by simpa using hj)] at hd
      simpa using hd.symm
    subst hd'
    show Ex _ _ _ [_, _, _, _, _, _, _] _ _ _
    have h3 := o2 _ (List.getElem_mem hj)
    (with_reducible refine' Ex.cons (Ex1.expr (Ev.methC (d0 := dA ad) ?q_a1 (.cons ?q_b1 (.cons ?q_b2 .nil ?q_b3) ?q_b4) (kd_muD (l := knw R j) ?q_c1) m_setdefault (setd (l := []) (r := []) hi o2 hj z4) ?q_e1 ?q_e2 ?q_e3) ?q_f1 ?q_f2))
    case q_f2 => rfl
    case q_e1 => decide
    case q_e2 => rfl
    case q_e3 => intro _ _; rfl
    case q_a1 => exact nm (by rfl)
    case q_b3 => rfl
    case q_b4 => rfl
    case q_c1 => exact List.mem_cons_self ..
    case q_b2 => exact nm (by rfl)
    case q_b1 =>
      refine' C_item_key (.cons ?_ (.cons ?_ .nil)) (Cal.of0 (fn_item_key hm h3)) ?_
      · walk_at "m:ev"
      · refine' Ev.sub ?_ (nm (by rfl)) isT_lst getT_list (o_itL (by omega) (by omega) ?_) rfl
        · walk_at "m:ev"
        · simp [hj]
      · kernel_rfl
    refine Ex.nil (Turn.nx ?_ rfl)
    walk_at "m:sub"
  case q_hp =>
    rw [show ((List.range (R.map iD).length).map fun (i : Nat) => dI i).length = R.length by simp]
    show Ex _ _ _ _ _ _ _
    (with_reducible refine' Ex.cons (Ex1.retD (Ev.compM (xs := L) (di := iD) (y := fun x => oD (if x ∈ R then some (R.idxOf x) else none)) (ks := ["known", "left"]) ?q_a5 iter_lst ?q_c5 ?q_d5 ?q_e5 ?q_hok ?q_ok2 ?q_hf) ?q_r5))
    case q_a5 => walk_at "m:ev"
    case q_c5 => exact .cons 5 rfl rfl (.cons 2 rfl rfl .nil)
    case q_d5 => exact sl1000 z3
    case q_hok => kernel_rfl
    case q_ok2 => exact .of (by kernel_rfl)
    case q_hf => intro _ _; rfl
    case q_e5 =>
      intro x hx
      have hx1 := o1 x hx
      have e6 := f_get (c := cx w) (n := 16) (a := ad) (ktS (cx w)) (k := key x) (knw_nd hi o2 R.length (Nat.le_refl _))
      have hv := knw_val hi o2 hx1 R.length (Nat.le_refl _)
      rw [List.take_length] at hv
      have e7 : (valD (knw R R.length) (key x)).getD dN = oD (if x ∈ R then some (R.idxOf x) else none) := by
        rw [hv]; split <;> rfl
      rw [e7] at e6
      refine' Ev.methC (d0 := dA ad) (nm (by rfl)) (.cons ?_ .nil) (kd_muD (l := knw R R.length) (List.mem_cons_self ..)) m_get (Cal.b1h e6)
      refine' C_item_key (.cons ?_ (.cons (nm (by rfl)) .nil)) (Cal.of0 (fn_item_key hm hx1)) ?_
      · walk_at "m:ev"
      · kernel_rfl
    case q_r5 =>
      refine Or.inl ?_
      rw [mpl, List.map_map]; rfl
end
noncomputable def uq (xs : List It) : List It := (spots xs).map fun i => xs.getD i none
theorem getD_eq {xs : List It} {i : Nat} (h : i < xs.length) : xs.getD i none = xs[i] := by simp [h]
theorem spots_mem {xs : List It} {i : Nat} (h : i ∈ spots xs) : i < xs.length := List.mem_range.mp (List.mem_filter.mp h).1
theorem spots_len (xs : List It) : (spots xs).length ≤ xs.length := Nat.le_trans (List.length_filter_le _ _) (by simp)
theorem cv_id (k : Nat) : cv k k = id := by funext x; unfold cv; rw [if_pos (beq_self_eq_true k)]; rfl
theorem range_getD : ∀ (xs : List It), xs = (List.range xs.length).map fun i => xs.getD i none := fun xs => by
  refine List.ext_getElem (by simp) fun i h1 h2 => ?_
  simp [h1]
theorem pick {xs : List It} (p : It → Bool) : ((List.range xs.length).filter fun i => p (xs.getD i none)).map (fun i => xs.getD i none) = xs.filter p := by
  conv => rhs; rw [range_getD xs]
  rw [List.filter_map]; rfl
section
variable {c : Cx} {n : Nat}
theorem o_isO {o : Option Nat} : Pu2 c n (compareOp .Is) (oD o) dN (dB (!o.isSome)) := by cases o <;> exact o_is
theorem o_isNotO {o : Option Nat} : Pu2 c n (compareOp .IsNot) (oD o) dN (dB o.isSome) := by cases o <;> exact o_isNot
noncomputable def oP : Option Nat → PyData
  | some i => .int i
  | none => .none
theorem canLay_oP : ∀ l : List (Option Nat), PyData.canLayAll0 (l.map oP) = true
  | [] => by simp [PyData.canLayAll0]
  | x :: xs => by
    simp only [List.map_cons, PyData.canLayAll0, Bool.and_eq_true]
    exact ⟨by cases x <;> simp [oP, PyData.canLay0], canLay_oP xs⟩
theorem any_oP : ∀ l : List (Option Nat), ((l.map oP).any fun y => PyData.eqv y .none) = !l.all Option.isSome
  | [] => rfl
  | x :: xs => by
    simp only [List.map_cons, List.any_cons, List.all_cons, any_oP xs, Bool.not_and]
    cases x <;> simp [oP, PyData.eqv]
theorem o_ninO {l : List (Option Nat)} : Pu2 c n (compareOp .NotIn) dN (.lst (l.map oD)) (dB (l.all Option.isSome)) := by
  have := o_ninG (c := c) (n := n) (d := .none) (d2 := .lst (l.map oD)) (xs := l.map oP) (by simp only [toDat, toDats_fm (f := oD) (g := oP) (fun x => by cases x <;> rfl), Option.map_some]) (canLay_oP l) (by simp [PyData.canLay0]) (by simp [PyData.depth])
  rwa [any_oP, Bool.not_not] at this
end
section
variable {w : World}
theorem fn_distinct {k : Nat} {xs : List It} (hi : Inj k) (hk : k < 4) (hx : ∀ x ∈ xs, okI k x = true) (hz : xs.length ≤ 1000) : Fn (cx w) (.ref 620) 6 [vec k xs] [] (vec k (uq xs)) [] := by
  refine in_distinct rfl ?_
  walk_at "m:go"
  have hsl := spots_len xs
  (with_reducible refine' Ex.cons (Ex1.ret (Ev.vec (.cons ?q_a0 (.cons (Ev.compM (xs := spots xs) (di := nD) (y := fun i => iD (xs.getD i none)) (ks := ["v"]) ?q_a5 iter_lst ?q_c5 ?q_d5 ?q_e5 ?q_hok ?q_ok2 ?q_hf) .nil ?q_n1) ?q_n2) ?q_hh) ?q_r5))
  case q_n1 => rfl
  case q_n2 => rfl
  case q_hh => kernel_rfl
  case q_a0 => walk_at "m:ev"
  case q_a5 => walk_at "m:ev"
  case q_c5 => exact .cons 0 rfl rfl .nil
  case q_d5 => exact sl1000 (by omega)
  case q_hok => kernel_rfl
  case q_ok2 => exact .of (by kernel_rfl)
  case q_hf => intro _ _; rfl
  case q_e5 =>
    intro i hm
    have h := spots_mem hm
    refine' Ev.sub ?_ (nm (by rfl)) isT_lst getT_list (o_itL (by omega) (by omega) ?_) rfl
    · walk_at "m:ev"
    · simp [h]
  case q_r5 =>
    refine Or.inl ?_
    show _ = Out.ret (vI _ (.lst ((uq xs).map iD)) _) _
    rw [uq, List.map_map]; rfl
local macro_rules | `(tactic| walk_at "m:fn") => `(tactic| refine Cal.of0 (fn_distinct ?_ ?_ ?_ ?_) ?_ <;> walk_at "m:s")
theorem fn_union {du dv : D} {a b : Nat} {xs ys : List It} (inj : ∀ k, Inj k) (hu : Fn (cx w) (.ref 603) 7 [du] [] (vec a xs) []) (hv : Fn (cx w) (.ref 603) 7 [dv] [] (vec b ys) []) (ha : a < 4) (hb : b < 4)
    (h1 : ∀ x ∈ xs, okI a x = true) (h2 : ∀ x ∈ ys, okI b x = true) (z1 : xs.length ≤ 400) (z2 : ys.length ≤ 400) :
    Fn (cx w) (.ref 627) 17 [du, dv] [] (vec (max a b) (uq (xs.map (cv a (max a b)) ++ ys.map (cv b (max a b))))) [] := by
  have l1 : a ≤ max a b := Nat.le_max_left a b
  have l2 : b ≤ max a b := Nat.le_max_right a b
  have hm : max a b < 4 := by omega
  have hbk := fn_both_kinds hu hv ha hb h1 h2 (by omega) (by omega)
  have o1 : ∀ x ∈ xs.map (cv a (max a b)), okI (max a b) x = true := fun x m => by
    obtain ⟨y, hy, rfl⟩ := List.mem_map.mp m; exact cv_ok l1 hm (h1 y hy)
  have o2 : ∀ x ∈ ys.map (cv b (max a b)), okI (max a b) x = true := fun x m => by
    obtain ⟨y, hy, rfl⟩ := List.mem_map.mp m; exact cv_ok l2 hm (h2 y hy)
  have z3 : (xs.map (cv a (max a b))).length ≤ 400 := by simpa using z1
  have z4 : (ys.map (cv b (max a b))).length ≤ 400 := by simpa using z2
  generalize xs.map (cv a (max a b)) = L at *
  generalize ys.map (cv b (max a b)) = R at *
  generalize max a b = m at *
  have hi := inj m
  refine in_union_of rfl ?_
  walk_at "m:go"
  (with_reducible refine' Ex.cons (Ex1.unpack2 (C_both_kinds ?q_a (Cal.of0 hbk ?q_m) ?q_h) ?q_s ?q_s2 ?q_hp9 ?q_c ?q_w))
  case q_a => walk_at "m:evl"
  case q_m => decide
  case q_h => kernel_rfl
  case q_s => walk_at "m:asg"
  case q_s2 => walk_at "m:asg"
  case q_c => rfl
  case q_w => intro _; rfl
  show Ex _ _ _ _ _ _ _
  have o3 : ∀ x ∈ L ++ R, okI m x = true := fun x q => (List.mem_append.mp q).elim (o1 x) (o2 x)
  have z5 : (L ++ R).length ≤ 1000 := by rw [List.length_append]; omega
  have hv : Ev (cx w) F_union_of 16 [some du, some dv, some (vec m L), some (vec m R)] [] (.Call (.Name "Vector" ⟨0,0,0,0⟩) [] [] ⟨0,0,0,0⟩) dN [] → True := fun _ => trivial
  clear hv
  (with_reducible refine' Ex.cons (Ex1.ret (C_distinct (.cons (Ev.vec (.cons ?q_a1 (.cons (Ev.eq (Ev.binop ?q_b1 ?q_b2 (o_addLT ?q_b3 ?q_b4)) ?q_b5) .nil ?q_n1) ?q_n2) ?q_n3) .nil ?q_n4) (Cal.of0 (fn_distinct hi hm o3 z5) ?q_n5) ?q_n6) ?q_n7))
  case q_n1 => rfl
  case q_n2 => rfl
  case q_n3 => kernel_rfl
  case q_n4 => rfl
  case q_n5 => decide
  case q_n6 => kernel_rfl
  case q_n7 => exact Or.inl rfl
  case q_a1 => walk_at "m:ev"
  case q_b1 => walk_at "m:ev"
  case q_b2 => walk_at "m:ev"
  case q_b3 => rw [List.length_map]; omega
  case q_b4 => rw [List.length_map]; omega
  case q_b5 => rw [List.map_append]
theorem pget {c : Cx} {n : Nat} {L R : List It} {i : Nat} (h : i < L.length) (hz : L.length ≤ 1000) : Pu2 c n getItem (.lst ((mpl L R).map oD)) (dI i) (oD (if L.getD i none ∈ R then some (R.idxOf (L.getD i none)) else none)) :=
  o_itL (by omega) (by omega) (by rw [getD_eq h]; simp [mpl, h])
theorem fn_intersect {du dv : D} {a b : Nat} {xs ys : List It} (inj : ∀ k, Inj k) (hu : Fn (cx w) (.ref 603) 7 [du] [] (vec a xs) []) (hv : Fn (cx w) (.ref 603) 7 [dv] [] (vec b ys) []) (ha : a < 4) (hb : b < 4)
    (h1 : ∀ x ∈ xs, okI a x = true) (h2 : ∀ x ∈ ys, okI b x = true) (z1 : xs.length ≤ 400) (z2 : ys.length ≤ 400) :
    Fn (cx w) (.ref 632) 18 [du, dv] [] (vec (max a b) (uq ((xs.map (cv a (max a b))).filter fun x => decide (x ∈ ys.map (cv b (max a b)))))) [] := by
  have l1 : a ≤ max a b := Nat.le_max_left a b
  have l2 : b ≤ max a b := Nat.le_max_right a b
  have hm : max a b < 4 := by omega
  have hbk := fn_both_kinds hu hv ha hb h1 h2 (by omega) (by omega)
  have o1 : ∀ x ∈ xs.map (cv a (max a b)), okI (max a b) x = true := fun x m => by
    obtain ⟨y, hy, rfl⟩ := List.mem_map.mp m; exact cv_ok l1 hm (h1 y hy)
  have o2 : ∀ x ∈ ys.map (cv b (max a b)), okI (max a b) x = true := fun x m => by
    obtain ⟨y, hy, rfl⟩ := List.mem_map.mp m; exact cv_ok l2 hm (h2 y hy)
  have z3 : (xs.map (cv a (max a b))).length ≤ 400 := by simpa using z1
  have z4 : (ys.map (cv b (max a b))).length ≤ 400 := by simpa using z2
  generalize xs.map (cv a (max a b)) = L at *
  generalize ys.map (cv b (max a b)) = R at *
  generalize max a b = m at *
  have hi := inj m
  have hma := fn_match (w := w) inj (fn_plain_vec (xs := L) hm) (fn_plain_vec (xs := R) hm) hm hm o1 o2 (by omega) (by omega)
  rw [Nat.max_self, cv_id, List.map_id, List.map_id] at hma
  refine in_intersect_of rfl ?_
  walk_at "m:go"
  (with_reducible refine' Ex.cons (Ex1.unpack2 (C_both_kinds ?q_a (Cal.of0 hbk ?q_m) ?q_h) ?q_s ?q_s2 ?q_hp9 ?q_c ?q_w))
  case q_a => walk_at "m:evl"
  case q_m => decide
  case q_h => kernel_rfl
  case q_s => walk_at "m:asg"
  case q_s2 => walk_at "m:asg"
  case q_c => rfl
  case q_w => intro _; rfl
  show Ex _ _ _ _ _ _ _
  (with_reducible refine' Ex.cons (Ex1.asg (C_match_places ?q_a1 (Cal.of0 hma ?q_m1) ?q_h3) ?q_s3 ?q_hp8 ?q_c1))
  case q_c1 => rfl
  case q_a1 => walk_at "m:evl"
  case q_m1 => decide
  case q_h3 => kernel_rfl
  case q_s3 => walk_at "m:asg"
  show Ex _ _ _ _ _ _ _
  have hml : ((mpl L R).map oD).length = L.length := by simp [mpl]
  have o3 : ∀ x ∈ L.filter (fun x => decide (x ∈ R)), okI m x = true := fun x q => o1 x (List.mem_filter.mp q).1
  have z5 : (L.filter (fun x => decide (x ∈ R))).length ≤ 1000 := Nat.le_trans (List.length_filter_le _ _) (by omega)
  (with_reducible refine' Ex.cons (Ex1.ret (C_distinct (.cons (Ev.vec (.cons ?q_a1 (.cons (Ev.eq (Ev.compF (xs := List.range L.length) (di := nD) (y := fun i => iD (L.getD i none)) (p := fun i => decide (L.getD i none ∈ R)) (ks := ["left", "places"]) ?q_a5 ?q_b5 ?q_c5 ?q_d5 ?q_e5 ?q_f5 ?q_hok ?q_ok2 ?q_hf) ?q_e9) .nil ?q_n1) ?q_n2) ?q_n3) .nil ?q_n4) (Cal.of0 (fn_distinct hi hm o3 z5) ?q_n5) ?q_n6) ?q_n7))
  case q_n1 => rfl
  case q_n2 => rfl
  case q_n3 => kernel_rfl
  case q_n4 => rfl
  case q_n5 => decide
  case q_n6 => kernel_rfl
  case q_n7 => exact Or.inl rfl
  case q_a1 => walk_at "m:ev"
  case q_a5 =>
    have z7 : ((mpl L R).map oD).length ≤ 1000 := by omega
    walk_at "m:ev"
  case q_b5 => rw [hml]; exact iter_rng (by omega)
  case q_c5 => exact .cons 2 rfl rfl (.cons 4 rfl rfl .nil)
  case q_d5 => exact sl1000 (by simp; omega)
  case q_hok => kernel_rfl
  case q_ok2 => exact .of (by kernel_rfl)
  case q_hf => intro _ _; rfl
  case q_e5 =>
    intro i hq
    have h := List.mem_range.mp hq
    refine' .one (Ts.re (Ts.cmp (Ev.sub (nm (by rfl)) (nm (by rfl)) isT_lst getT_list (pget h (by omega)) rfl) Ev.none o_isNotO) ?_)
    split
    · rename_i q; exact (decide_eq_true q).symm
    · rename_i q; exact (decide_eq_false q).symm
  case q_f5 =>
    intro i hq _
    have h := List.mem_range.mp hq
    refine' Ev.sub ?_ (nm (by rfl)) isT_lst getT_list (o_itL (by omega) (by omega) ?_) rfl
    · walk_at "m:ev"
    · simp [h]
  case q_e9 =>
    have := pick (xs := L) (fun x => decide (x ∈ R))
    rw [← this, List.map_map]; rfl
theorem fn_setdiff {du dv : D} {a b : Nat} {xs ys : List It} (inj : ∀ k, Inj k) (hu : Fn (cx w) (.ref 603) 7 [du] [] (vec a xs) []) (hv : Fn (cx w) (.ref 603) 7 [dv] [] (vec b ys) []) (ha : a < 4) (hb : b < 4)
    (h1 : ∀ x ∈ xs, okI a x = true) (h2 : ∀ x ∈ ys, okI b x = true) (z1 : xs.length ≤ 400) (z2 : ys.length ≤ 400) :
    Fn (cx w) (.ref 637) 18 [du, dv] [] (vec a (uq (xs.filter fun x => decide (cv a (max a b) x ∉ ys.map (cv b (max a b)))))) [] := by
  have hma := fn_match (w := w) inj (fn_plain_vec (xs := xs) ha) hv ha hb h1 h2 (by omega) (by omega)
  have hi := inj a
  have hml : ((mpl (xs.map (cv a (max a b))) (ys.map (cv b (max a b)))).map oD).length = xs.length := by simp [mpl]
  refine in_setdiff_of rfl ?_
  walk_at "m:go"
  (with_reducible refine' Ex.cons (Ex1.asg (C_plain ?q_a (Cal.of0 hu ?q_m) ?q_h) ?q_s ?q_hp9 ?q_c))
  case q_a => walk_at "m:evl"
  case q_m => decide
  case q_h => kernel_rfl
  case q_s => walk_at "m:asg"
  case q_c => rfl
  show Ex _ _ _ _ _ _ _
  (with_reducible refine' Ex.cons (Ex1.asg (C_match_places ?q_a1 (Cal.of0 hma ?q_m1) ?q_h3) ?q_s3 ?q_hp8 ?q_c1))
  case q_c1 => rfl
  case q_a1 => walk_at "m:evl"
  case q_m1 => decide
  case q_h3 => kernel_rfl
  case q_s3 => walk_at "m:asg"
  show Ex _ _ _ _ _ _ _
  have e0 : ∀ i, i < xs.length → (xs.map (cv a (max a b))).getD i none = cv a (max a b) (xs.getD i none) := fun i h => by simp [h]
  generalize hR : ys.map (cv b (max a b)) = R at *
  generalize hL : xs.map (cv a (max a b)) = L at *
  have hLl : L.length = xs.length := by rw [← hL, List.length_map]
  have o3 : ∀ x ∈ xs.filter (fun x => decide (cv a (max a b) x ∉ R)), okI a x = true := fun x q => h1 x (List.mem_filter.mp q).1
  have z5 : (xs.filter (fun x => decide (cv a (max a b) x ∉ R))).length ≤ 1000 := Nat.le_trans (List.length_filter_le _ _) (by omega)
  (with_reducible refine' Ex.cons (Ex1.ret (C_distinct (.cons (Ev.vec (.cons ?q_a1 (.cons (Ev.eq (Ev.compF (xs := List.range xs.length) (di := nD) (y := fun i => iD (xs.getD i none)) (p := fun i => decide (cv a (max a b) (xs.getD i none) ∉ R)) (ks := ["left", "places"]) ?q_a5 ?q_b5 ?q_c5 ?q_d5 ?q_e5 ?q_f5 ?q_hok ?q_ok2 ?q_hf) ?q_e9) .nil ?q_n1) ?q_n2) ?q_n3) .nil ?q_n4) (Cal.of0 (fn_distinct hi ha o3 z5) ?q_n5) ?q_n6) ?q_n7))
  case q_n1 => rfl
  case q_n2 => rfl
  case q_n3 => kernel_rfl
  case q_n4 => rfl
  case q_n5 => decide
  case q_n6 => kernel_rfl
  case q_n7 => exact Or.inl rfl
  case q_a1 => walk_at "m:ev"
  case q_a5 =>
    have z7 : ((mpl L R).map oD).length ≤ 1000 := by omega
    walk_at "m:ev"
  case q_b5 => rw [hml]; exact iter_rng (by omega)
  case q_c5 => exact .cons 2 rfl rfl (.cons 3 rfl rfl .nil)
  case q_d5 => exact sl1000 (by simp; omega)
  case q_hok => kernel_rfl
  case q_ok2 => exact .of (by kernel_rfl)
  case q_hf => intro _ _; rfl
  case q_e5 =>
    intro i hq
    have h := List.mem_range.mp hq
    refine' .one (Ts.re (Ts.cmp (Ev.sub (nm (by rfl)) (nm (by rfl)) isT_lst getT_list (pget (L := L) (by omega) (by omega)) rfl) Ev.none o_isO) ?_)
    rw [e0 i h]
    split
    · rename_i q; exact (decide_eq_false fun z => z q).symm
    · rename_i q; exact (decide_eq_true q).symm
  case q_f5 =>
    intro i hq _
    have h := List.mem_range.mp hq
    refine' Ev.sub ?_ (nm (by rfl)) isT_lst getT_list (o_itL (by omega) (by omega) ?_) rfl
    · walk_at "m:ev"
    · simp [h]
  case q_e9 =>
    have := pick (xs := xs) (fun x => decide (cv a (max a b) x ∉ R))
    rw [← this, List.map_map]; rfl
theorem fn_same_sets {du dv : D} {a b : Nat} {xs ys : List It} (inj : ∀ k, Inj k) (hu : Fn (cx w) (.ref 603) 7 [du] [] (vec a xs) []) (hv : Fn (cx w) (.ref 603) 7 [dv] [] (vec b ys) []) (ha : a < 4) (hb : b < 4)
    (h1 : ∀ x ∈ xs, okI a x = true) (h2 : ∀ x ∈ ys, okI b x = true) (z1 : xs.length ≤ 400) (z2 : ys.length ≤ 400) :
    Fn (cx w) (.ref 644) 18 [du, dv] [] (dB ((mpl (xs.map (cv a (max a b))) (ys.map (cv b (max a b)))).all Option.isSome && (mpl (ys.map (cv b (max a b))) (xs.map (cv a (max a b)))).all Option.isSome)) [] := by
  have hma := fn_match (w := w) inj hu hv ha hb h1 h2 (by omega) (by omega)
  have hmb := fn_match (w := w) inj hv hu hb ha h2 h1 (by omega) (by omega)
  rw [Nat.max_comm b a] at hmb
  refine in_same_sets rfl ?_
  walk_at "m:go"
  (with_reducible refine' Ex.cons (Ex1.ret (Ev.boolop (Bo.and (Ev.cmp Ev.none (C_match_places ?q_a1 (Cal.of0 hma ?q_m1) ?q_h3) o_ninO ?q_h4) ?q_b2)) ?q_r5))
  case q_h4 => with_unfolding_all rfl
  case q_r5 => exact Or.inl rfl
  case q_a1 => walk_at "m:evl"
  case q_m1 => decide
  case q_h3 => kernel_rfl
  case q_b2 =>
    intro _
    refine' Bo.one (Ev.cmp Ev.none (C_match_places ?_ (Cal.of0 hmb ?_) ?_) o_ninO)
    · walk_at "m:evl"
    · decide
    · kernel_rfl
end
/-- the counts after so many places -/
noncomputable def tbl (xs : List It) (k : Nat) : List (Int × D) := ((List.range k).filter (sp xs)).map fun (s : Nat) => ((s : Int), dI (((fst xs).take k).count s : Nat))
theorem valD_map {g : Nat → D} {p : Nat} : ∀ {l : List Nat}, valD (l.map fun (s : Nat) => ((s : Int), g s)) (p : Int) = if p ∈ l then some (g p) else none
  | [] => by simp [valD]
  | s :: l => by
    have ih := valD_map (g := g) (p := p) (l := l)
    unfold valD at ih ⊢
    simp only [List.map_cons, List.find?_cons, List.mem_cons]
    by_cases h : s = p
    · subst h; simp
    · have h' : decide ((s : Int) = (p : Int)) = false := decide_eq_false (by omega)
      have h'' : ¬ p = s := fun e => h e.symm
      rw [h']
      dsimp only
      rw [ih]
      simp only [h'', false_or]
theorem putD_map {g : Nat → D} {p : Nat} {d : D} {l : List Nat} (h : p ∈ l) : putD (l.map fun (s : Nat) => ((s : Int), g s)) (p : Int) d = l.map fun (s : Nat) => ((s : Int), if s = p then d else g s) := by
  unfold putD
  rw [if_pos]
  · rw [List.map_map]
    refine List.map_congr_left fun s _ => ?_
    show (if (s : Int) = (p : Int) then ((s : Int), d) else ((s : Int), g s)) = _
    by_cases q : s = p
    · rw [if_pos (by omega), if_pos q]
    · rw [if_neg (by omega), if_neg q]
  · rw [List.any_map]
    exact List.any_eq_true.mpr ⟨p, h, by simp⟩
theorem fst_take {xs : List It} {k : Nat} (hk : k < xs.length) : (fst xs).take (k + 1) = (fst xs).take k ++ [xs.idxOf xs[k]] := by
  rw [List.take_add_one]; simp [fst, hk]
theorem idx_le {xs : List It} {k : Nat} (hk : k < xs.length) : xs.idxOf xs[k] ≤ k := by
  by_cases q : xs[k] ∈ xs.take k
  · rw [← idx_take q]
    have := List.idxOf_lt_length_iff.mpr q
    rw [List.length_take] at this; omega
  · exact Nat.le_of_eq (idx_here (List.getElem?_eq_getElem hk) q)
theorem cnt0 {xs : List It} {k : Nat} (hk : k ≤ xs.length) : ((fst xs).take k).count k = 0 := by
  rw [List.count_eq_zero]
  intro h
  obtain ⟨i, hi, e⟩ := List.getElem_of_mem h
  rw [List.length_take, fst_len] at hi
  rw [List.getElem_take, fst_get (by omega)] at e
  have := idx_le (xs := xs) (k := i) (by omega)
  omega
theorem sp_idx {xs : List It} {k : Nat} (hk : k < xs.length) : sp xs (xs.idxOf xs[k]) = true := by
  have h1 : xs.idxOf xs[k] < xs.length := List.idxOf_lt_length_iff.mpr (List.getElem_mem hk)
  rw [sp_eq h1, List.getElem_idxOf h1]; simp
theorem tbl_val {xs : List It} {k : Nat} (hk : k < xs.length) : valD (tbl xs k) (xs.idxOf xs[k] : Nat) = if xs.idxOf xs[k] < k then some (dI (((fst xs).take k).count (xs.idxOf xs[k]) : Nat)) else none := by
  unfold tbl
  rw [valD_map (g := fun s => dI (((fst xs).take k).count s : Nat))]
  by_cases h : xs.idxOf xs[k] < k
  · rw [if_pos h, if_pos (List.mem_filter.mpr ⟨List.mem_range.mpr h, sp_idx hk⟩)]
  · rw [if_neg h, if_neg fun q => h (List.mem_range.mp (List.mem_filter.mp q).1)]
theorem tbl_get {xs : List It} {k : Nat} (hk : k < xs.length) : (valD (tbl xs k) (xs.idxOf xs[k] : Nat)).getD (dI 0) = dI (((fst xs).take k).count (xs.idxOf xs[k]) : Nat) := by
  rw [tbl_val hk]
  by_cases h : xs.idxOf xs[k] < k
  · rw [if_pos h]; rfl
  · have e : xs.idxOf xs[k] = k := Nat.le_antisymm (idx_le hk) (by omega)
    rw [if_neg h, e, cnt0 (by omega)]; rfl
theorem tbl_step {xs : List It} {k : Nat} (hk : k < xs.length) : putD (tbl xs k) (xs.idxOf xs[k] : Nat) (dI (((fst xs).take k).count (xs.idxOf xs[k]) + 1 : Nat)) = tbl xs (k + 1) := by
  have hs := sp_eq hk
  by_cases h : xs.idxOf xs[k] < k
  · have hm : xs.idxOf xs[k] ∈ (List.range k).filter (sp xs) := List.mem_filter.mpr ⟨List.mem_range.mpr h, sp_idx hk⟩
    have hne : sp xs k = false := by rw [hs]; exact decide_eq_false (by omega)
    have e : tbl xs (k + 1) = ((List.range k).filter (sp xs)).map fun (s : Nat) => ((s : Int), dI (((fst xs).take (k + 1)).count s : Nat)) := by
      unfold tbl; rw [List.range_succ, List.filter_append, List.filter_cons, hne]; simp
    rw [e]
    unfold tbl
    rw [putD_map hm]
    refine List.map_congr_left fun s _ => ?_
    rw [fst_take hk, List.count_append, List.count_singleton]
    by_cases q : s = xs.idxOf xs[k]
    · subst q; simp
    · have q' : (xs.idxOf xs[k] == s) = false := by simpa using fun z => q z.symm
      rw [if_neg q, q']; simp
  · have e : xs.idxOf xs[k] = k := Nat.le_antisymm (idx_le hk) (by omega)
    have hne : sp xs k = true := by rw [hs]; exact decide_eq_true e
    have hv : valD (tbl xs k) (xs.idxOf xs[k] : Nat) = none := by rw [tbl_val hk, if_neg h]
    rw [putD_new hv]
    unfold tbl
    rw [List.range_succ, List.filter_append, List.filter_cons, hne]
    simp only [List.filter_nil, if_true, List.map_append, List.map_cons, List.map_nil]
    congr 1
    · refine List.map_congr_left fun s hm => ?_
      have hlt := List.mem_range.mp (List.mem_filter.mp hm).1
      have q' : (xs.idxOf xs[k] == s) = false := by simp; omega
      rw [fst_take hk, List.count_append, List.count_singleton, q']; simp
    · rw [e, fst_take hk, e, List.count_append]; simp
theorem tbl_keys (xs : List It) (k : Nat) : (tbl xs k).map (·.1) = ((List.range k).filter (sp xs)).map fun (s : Nat) => (s : Int) := by unfold tbl; rw [List.map_map]; rfl
theorem tbl_nd (xs : List It) (k : Nat) : ((tbl xs k).map (·.1)).Nodup := by
  rw [tbl_keys]
  exact List.pairwise_map.mpr ((List.nodup_range.filter _).imp fun h e => h (by omega))
theorem tbl_sorted (xs : List It) (k : Nat) : ((tbl xs k).map (·.1)).Pairwise (· ≤ ·) := by
  rw [tbl_keys]
  exact List.pairwise_map.mpr ((List.pairwise_lt_range.filter _).imp fun h => by omega)
theorem tbl_len (xs : List It) (k : Nat) : (tbl xs k).length ≤ k := by
  unfold tbl; rw [List.length_map]; exact Nat.le_trans (List.length_filter_le _ _) (by simp)
theorem cnt_spot {xs : List It} {s : Nat} (h : s ∈ spots xs) : (fst xs).count s = xs.count (xs.getD s none) := by
  have hlt := spots_mem h
  have hsp := (List.mem_filter.mp h).2
  rw [sp_eq hlt] at hsp
  have hs := of_decide_eq_true hsp
  rw [getD_eq hlt]
  unfold fst
  rw [List.count_eq_countP, List.countP_map, List.count_eq_countP]
  refine List.countP_congr fun y hy => ?_
  simp only [Function.comp, beq_iff_eq]
  constructor
  · intro e
    have hy' : xs.idxOf y < xs.length := List.idxOf_lt_length_iff.mpr hy
    have := List.getElem_idxOf hy'
    simp only [e] at this
    exact this.symm
  · rintro rfl; exact hs
section
variable {w : World}
theorem fn_tabulate {k : Nat} {xs : List It} {da : D} (hi : Inj k) (hk : k < 4) (hx : ∀ x ∈ xs, okI k x = true) (hz : xs.length ≤ 60) : Fn (cx w) (.ref 649) 6 [vI (dS (kn k)) (.lst (xs.map iD)) da] [] (.lst ((spots xs).map fun s => .lst [nD s, nD (xs.count (xs.getD s none))])) [] := by
  refine in_tabulate_keys rfl ?_
  walk_at "m:go"
  (with_reducible refine' Ex.cons (Ex1.asgN (EvN.dict0 (ktI (cx w))) ?q_s1 ?q_p1 ?q_n1 ?q_c1))
  case q_n1 => decide
  case q_c1 => rfl
  case q_s1 => intro a; walk_at "m:asg"
  intro ad
  show Ex _ _ _ _ [(ad, .tab [])] _ _
  (with_reducible refine' Ex.cons (Ex1.forIn 2 ?q_h1 iter_lst (fun _ => [some (vI (dS (kn k)) (.lst (xs.map iD)) da), some (dA ad), none]) (fun j => [(ad, .tab (tbl xs j))]) ?q_I0 ?q_J0 ?q_hJ ?q_step ?q_hp ?q_hx ?q_hs))
  case q_hx => rfl
  case q_hs => intro _ _; rfl
  case q_h1 => walk_at "m:ev"
  case q_I0 =>
    show Sub _ _
    walk_at "m:sub"
  case q_J0 => rfl
  case q_hJ => intro _; rfl
  case q_step =>
    intro j d hd
    have hj : j < xs.length := by
      have := (List.getElem?_eq_some_iff.mp hd).1
      simpa [fst] using this
    have hd' : d = nD (xs.idxOf xs[j]) := by
      rw [List.getElem?_map] at hd
      simpa [fst, hj] using hd.symm
    subst hd'
    show Ex _ _ _ [_, _, _] _ _ _
    have hl := tbl_len xs j
    have e6 := f_get_default (c := cx w) (n := 5) (a := ad) (ktI (cx w)) (fs := tbl xs j) (k := ((xs.idxOf xs[j] : Nat) : Int)) (d := dI 0) (tbl_nd xs j)
    rw [tbl_get hj] at e6
    (with_reducible refine' Ex.cons (Ex1.setItem (ktI (cx w)) (fs := tbl xs j) (kx := ((xs.idxOf xs[j] : Nat) : Int)) (d := nD (((fst xs).take j).count (xs.idxOf xs[j]) + 1)) [] (r := []) ?q_g0 ?q_g1 ?q_g2 ?q_gnd ?q_gz ?q_gp ?q_gc))
    case q_gc => rfl
    case q_gnd => exact tbl_nd xs j
    case q_gz => exact sl1000 (by omega)
    case q_g0 =>
      refine' Ev.eq (Ev.binop (Ev.methC (d0 := dA ad) (nm (by rfl)) (.cons (nm (by rfl)) (.cons Ev.int .nil)) (kd_muT (l := tbl xs j) (List.mem_cons_self ..)) m_get (Cal.b1h e6)) Ev.int o_addI) ?_
      exact congrArg dI (by omega)
    case q_g1 => exact nm (by rfl)
    case q_g2 => exact nm (by rfl)
    have := tbl_step hj
    show Ex _ _ _ _ [(ad, .tab (putD (tbl xs j) _ _))] _ _
    rw [this]
    refine Ex.nil (Turn.nx ?_ rfl)
    walk_at "m:sub"
  case q_hp =>
    have e1 : ((fst xs).map nD).length = xs.length := by rw [List.length_map, fst_len]
    rw [e1]
    show Ex _ _ _ _ _ _ _
    have es : (List.range xs.length).filter (sp xs) = spots xs := rfl
    have hl := tbl_len xs xs.length
    have fs := f_sorted (c := cx w) (n := 5) (a := ad) (tbl_nd xs xs.length) (by omega) (tbl_sorted xs xs.length)
    rw [tbl_keys, es, List.map_map] at fs
    (with_reducible refine' Ex.cons (Ex1.retD (Ev.compM (xs := spots xs) (di := nD) (y := fun s => .lst [nD s, nD (xs.count (xs.getD s none))]) (ks := ["counts"]) (B_sorted (.cons (nm ?q_a6) .nil ?q_a7) (Cal.b1h fs) ?q_a8) iter_lst ?q_c5 ?q_d5 ?q_e5 ?q_hok ?q_ok2 ?q_hf) ?q_r5))
    case q_a6 => rfl
    case q_a7 => rfl
    case q_a8 => kernel_rfl
    case q_c5 => exact .cons 1 rfl rfl .nil
    case q_d5 =>
      have := spots_len xs
      exact sl1000 (by omega)
    case q_hok => kernel_rfl
    case q_ok2 => exact .of (by kernel_rfl)
    case q_hf => intro _ _; rfl
    case q_r5 => exact Or.inl rfl
    case q_e5 =>
      intro s hm
      have hv : valD (tbl xs xs.length) (s : Int) = some (nD (xs.count (xs.getD s none))) := by
        unfold tbl
        rw [valD_map (g := fun s => dI (((fst xs).take xs.length).count s : Nat)), es, if_pos hm, ← cnt_spot hm, List.take_of_length_le (Nat.le_of_eq (fst_len xs))]
      refine' Ev.list (.cons (nm (by rfl)) (.cons (Ev.subK (ktI (cx w)) (a := ad) (fs := tbl xs xs.length) (kx := (s : Int)) (nm (by rfl)) (nm (by rfl)) (List.mem_cons_self ..) (tbl_nd xs xs.length) hv rfl) .nil)) (by simp only [List.length_cons, List.length_nil]; decide)
end
/-- the law's row of draws, the next first -/
noncomputable abbrev Rw := {r : List Int // r.length ≤ 160}
noncomputable abbrev rM (r : Rw) : MO := .lst (r.1.reverse.map dI)
noncomputable def nx : Rw → Int × Rw
  | ⟨[], h⟩ => (0, ⟨[], h⟩)
  | ⟨x :: l, h⟩ => (x, ⟨l, Nat.le_of_succ_le h⟩)
theorem Bo.and' {c : Cx} {f : Fi} {n : Nat} {Γ : Ga} {μ μ1 : Mu} {e e2 : Expr} {es : List Expr} {b1 b2 : Bool} (h1 : Ev c f n Γ μ e (dB b1) μ1) (h2 : b1 = true → Bo c f n Γ μ1 .And (e2 :: es) b2 μ1) : Bo c f n Γ μ .And (e :: e2 :: es) (b1 && b2) μ1 := by
  cases b1
  · exact .stop h1 rfl
  · exact .next h1 rfl (h2 rfl)
theorem canLays_i : ∀ l : List Int, PyData.canLayAll0 (l.map .int) = true
  | [] => by simp [PyData.canLayAll0]
  | x :: xs => by simp only [List.map_cons, PyData.canLayAll0, PyData.canLay0, canLays_i xs, Bool.and_self]
theorem depths_i : ∀ l : List Int, PyData.depthAll (l.map .int) = 0
  | [] => by simp [PyData.depthAll]
  | x :: xs => by simp only [List.map_cons, PyData.depthAll, PyData.depth, depths_i xs, Nat.max_self]
theorem depths_I : ∀ l : List It, PyData.depthAll (l.map iP) ≤ 1
  | [] => by simp [PyData.depthAll]
  | x :: xs => by
    simp only [List.map_cons, PyData.depthAll]
    exact Nat.max_le.mpr ⟨depth_iP, depths_I xs⟩
theorem shaped_list {l : List PyData} (h : PyData.canLayAll0 l = true) (hd : PyData.depthAll l ≤ 63) : PySem.SeqAt.shaped (.list l) = true := by
  refine Bool.and_eq_true_iff.mpr ⟨by simp only [PyData.canLay0, h], decide_eq_true ?_⟩
  simp only [PyData.depth]
  omega
theorem eqv_nil (l : List PyData) : PyData.eqv (.list l) (.list []) = l.isEmpty := by cases l <;> simp [PyData.eqv, PyData.eqvAll]
section
variable {c : Cx} {n : Nat}
theorem o_neNil {l : List Int} : Pu2 c n (compareOp .NotEq) (.lst (l.map dI)) (.lst []) (dB (!l.isEmpty)) := by
  have := o_neG (c := c) (n := n) (d1 := .lst (l.map dI)) (d2 := .lst []) (a := .list (l.map .int)) (b := .list []) (by simp only [toDat, toDats_fm (f := dI) (g := .int) (fun _ => rfl), Option.map_some]) rfl (shaped_list (canLays_i l) (by rw [depths_i]; decide)) (shaped_list rfl (by decide))
  rw [eqv_nil] at this
  simpa using this
theorem o_neNilI {l : List It} (h : ∀ x ∈ l, sOk x = true) : Pu2 c n (compareOp .NotEq) (.lst (l.map iD)) (.lst []) (dB (!l.isEmpty)) := by
  have := o_neG (c := c) (n := n) (d1 := .lst (l.map iD)) (d2 := .lst []) (a := .list (l.map iP)) (b := .list []) (by simp only [toDat, toDats_iD, Option.map_some]) rfl (shaped_list (canLays_iP h) (by have := depths_I l; omega)) (shaped_list rfl (by decide))
  rw [eqv_nil] at this
  simpa using this
theorem o_eqNilI {l : List It} (h : ∀ x ∈ l, sOk x = true) : Pu2 c n (compareOp .Eq) (.lst (l.map iD)) (.lst []) (dB l.isEmpty) := by
  have := o_eqG (c := c) (n := n) (d1 := .lst (l.map iD)) (d2 := .lst []) (a := .list (l.map iP)) (b := .list []) (by simp only [toDat, toDats_iD, Option.map_some]) rfl (shaped_list (canLays_iP h) (by have := depths_I l; omega)) (shaped_list rfl (by decide))
  rw [eqv_nil] at this
  simpa using this
end
section
variable {w : World}
theorem fn_law_next {a : Addr} {r : Rw} : Fn (cx w) (.ref 663) 2 [dA a] [(a, rM r)] (dI (nx r).1) [(a, rM (nx r).2)] := by
  refine in_law_next rfl ?_
  walk_at "m:go"
  obtain ⟨r, h⟩ := r
  cases r with
  | nil =>
    (with_reducible refine' Ex.cons (Ex1.ret (Ev.ifexp_f (Ts.re (Ts.cmpMu (nm ?q_a1) (Ev.list .nil ?q_z1) ?q_m1 (o_neNil (l := [])) ?q_b1) ?q_q1) Ev.int) ?q_r1))
    case q_a1 => rfl
    case q_z1 => decide
    case q_m1 => exact List.mem_cons_self ..
    case q_b1 => with_unfolding_all rfl
    case q_q1 => rfl
    case q_r1 => exact Or.inl rfl
  | cons x l =>
    have e : rM ⟨x :: l, h⟩ = .lst (l.reverse.map dI ++ [dI x]) := by simp [rM]
    rw [e]
    have hp := f_pop (c := cx w) (n := 1) (a := a) (l := l.reverse.map dI) (d := dI x) (by
      have h1 : l.length + 1 ≤ 160 := h
      have h2 : (160 : Nat) < sizeLine := by decide
      rw [List.length_map, List.length_reverse]; omega)
    have hq := o_neNil (c := cx w) (n := 1) (l := (x :: l).reverse)
    rw [List.reverse_cons, List.map_append] at hq
    (with_reducible refine' Ex.cons (Ex1.ret (Ev.ifexp_t (Ts.re (Ts.cmpMu (nm ?q_a1) (Ev.list .nil ?q_z1) ?q_m1 hq ?q_b1) ?q_q1) (Ev.methC (d0 := dA a) (nm ?q_a2) .nil (kd_muL ?q_m2) m_pop (Cal.b1h hp) ?q_e1 ?q_e2 ?q_e3)) ?q_r1))
    case q_a1 => rfl
    case q_z1 => decide
    case q_m1 => exact List.mem_cons_self ..
    case q_b1 => with_unfolding_all rfl
    case q_q1 => simp
    case q_a2 => rfl
    case q_m2 => exact List.mem_cons_self ..
    case q_e1 => decide
    case q_e2 => rfl
    case q_e3 => intro _ _; rfl
    case q_r1 => exact Or.inl rfl
end
local macro_rules | `(tactic| walk_at "m:fn") => `(tactic| exact Cal.h1 fn_law_next (by decide))
noncomputable def gsi : Nat → Int → Int → Int × Int
  | 0, a, b => (a, b)
  | k + 1, a, b => ((gsi k a b).2, (gsi k a b).1.fmod (gsi k a b).2)
noncomputable def nst : Nat → Int → Int → Nat
  | 0, _, _ => 0
  | f + 1, a, b => if 0 < b then nst f b (a.fmod b) + 1 else 0
/-- a fraction brought to its least form -/
noncomputable def rdc (n d : Int) : It := iR (n.fdiv (gsi (nst 5 (absI n) d) (absI n) d).1) (d.fdiv (gsi (nst 5 (absI n) d) (absI n) d).1)
noncomputable def rdOk (n d : Int) : Bool :=
  (gsi (nst 5 (absI n) d) (absI n) d).2 == 0 && (List.range (nst 5 (absI n) d)).all (fun k => decide (0 < (gsi k (absI n) d).2)) && decide (0 < (gsi (nst 5 (absI n) d) (absI n) d).1) && decide ((gsi (nst 5 (absI n) d) (absI n) d).1 < 1000) && okI 2 (rdc n d)
theorem rd_all : ((List.range 300).all fun i => rdOk ((i : Int) - 100) 1 && rdOk ((i : Int) - 100) 2 && rdOk ((i : Int) - 100) 4) = true := by decide +kernel
theorem rd_ok {n d : Int} (h1 : -100 ≤ n) (h2 : n < 200) (hd : d = 1 ∨ d = 2 ∨ d = 4) : rdOk n d = true := by
  have := List.all_eq_true.mp rd_all (n + 100).toNat (List.mem_range.mpr (by omega))
  rw [show (((n + 100).toNat : Int) - 100) = n by omega] at this
  simp only [Bool.and_eq_true] at this
  rcases hd with rfl | rfl | rfl
  · exact this.1.1
  · exact this.1.2
  · exact this.2
section
variable {w : World}
theorem fn_law_reduced {n d : Int} (h1 : -100 ≤ n) (h2 : n < 200) (hd : d = 1 ∨ d = 2 ∨ d = 4) : Fn (cx w) (.ref 670) 2 [dI n, dI d] [] (iD (rdc n d)) [] := by
  have hr := rd_ok h1 h2 hd
  simp only [rdOk, Bool.and_eq_true, beq_iff_eq, decide_eq_true_eq] at hr
  obtain ⟨⟨⟨⟨e0, e1⟩, e2⟩, e3⟩, e4⟩ := hr
  unfold rdc
  generalize hN : nst 5 (absI n) d = N at *
  refine in_law_reduced rfl ?_
  walk_at "m:go"
  walk_at "m:as"
  walk_at "m:as"
  show Ex _ _ _ [_, _, some (dI (absI n)), _] _ _ _
  (with_reducible refine' Ex.cons (Ex1.while N (fun k => [some (dI n), some (dI d), some (dI (gsi k (absI n) d).1), some (dI (gsi k (absI n) d).2)]) (fun _ => []) ?q_I0 ?q_J0 ?q_hJ ?q_step ?q_fin ?q_hp))
  case q_I0 =>
    show Sub _ _
    walk_at "m:sub"
  case q_J0 => rfl
  case q_hJ => intro _; rfl
  case q_step =>
    intro k hk
    have hb : decide (0 < (gsi k (absI n) d).2) = true := List.all_eq_true.mp e1 k (List.mem_range.mpr hk)
    have hb' := of_decide_eq_true hb
    refine ⟨[], by refine' Ts.re ?_ hb; walk_at "m:ts", ?_⟩
    refine Ex.cons (Ex1.swap2 2 3 (d1 := dI (gsi k (absI n) d).2) (d2 := dI ((gsi k (absI n) d).1.fmod (gsi k (absI n) d).2)) (.cons (nm (by rfl)) (.cons (Ev.binop (nm (by rfl)) (nm (by rfl)) (o_modI (by omega))) .nil)) ?_ rfl rfl ?_)
    · refine Ex.nil (Turn.nx ?_ rfl)
      show Sub _ [_, _, _, _]
      walk_at "m:sub"
    · intro E h
      simp only [swappedStores, Env.blockKind, Env.kindOf, h]
      kernel_rfl
  case q_fin =>
    refine' Ts.re (Ts.cmp (nm (by rfl)) Ev.int o_gtI) ?_
    rw [e0]; rfl
  show Ex _ _ _ _ _ _ _
  (with_reducible refine' Ex.cons (Ex1.ret (Ev.re (Ev.tuple (.cons (Ev.binop (nm ?q_a1) (nm ?q_a2) (x_divI rfl rfl e2 ?q_a3)) (.cons (Ev.binop (nm ?q_b1) (nm ?q_b2) (x_divI rfl rfl e2 ?q_b3)) .nil ?q_n1) ?q_n2) ?q_z1) ?q_r2) ?q_r1))
  case q_a1 => rfl
  case q_a2 => rfl
  case q_a3 => omega
  case q_b1 => rfl
  case q_b2 => rfl
  case q_b3 => omega
  case q_n1 => rfl
  case q_n2 => rfl
  case q_z1 => walk_at "m:disp"
  case q_r2 => exact ofT (xs := [.int _, .int _])
  case q_r1 => exact Or.inl rfl
end
local macro_rules | `(tactic| walk_at "m:fn") => `(tactic| refine Cal.of0 (fn_law_reduced ?_ ?_ ?_) ?_ <;> walk_at "m:s")
noncomputable abbrev chS (i : Int) : Str := ⟨#[(32 + i.fmod 90).toNat]⟩
/-- one item drawn -/
noncomputable def drawI (k : Nat) (r : Rw) : It × Rw :=
  if (nx r).1.fmod 6 == 5 then (none, (nx r).2)
  else if k == 0 then (iI ((nx (nx r).2).1.fmod 2), (nx (nx r).2).2)
  else if k == 1 then (iI ((nx (nx r).2).1.fmod 40 - 15), (nx (nx r).2).2)
  else if k == 3 then (([iS "", iS "a", iS "b", iS "10", iS "TRUE", iS "2.5", iS (chS (nx (nx r).2).1)] : List It).getD ((nx (nx (nx r).2).2).1.fmod 7).toNat none, (nx (nx (nx r).2).2).2)
  else if (nx (nx r).2).1.fmod 10 == 9 then (([iR 0 0, iR 1 0, iR (-1) 0] : List It).getD ((nx (nx (nx r).2).2).1.fmod 3).toNat none, (nx (nx (nx r).2).2).2)
  else (rdc ((nx (nx (nx r).2).2).1.fmod 300 - 100) (([1, 1, 2, 4] : List Int).getD (((nx (nx r).2).1.fmod 10).fmod 4).toNat 1), (nx (nx (nx r).2).2).2)
theorem menu {i : Int} (h : 0 ≤ i) (h2 : i < 4) : ([1, 1, 2, 4] : List Int).getD i.toNat 1 = 1 ∨ ([1, 1, 2, 4] : List Int).getD i.toNat 1 = 2 ∨ ([1, 1, 2, 4] : List Int).getD i.toNat 1 = 4 := by
  have : i = 0 ∨ i = 1 ∨ i = 2 ∨ i = 3 := by omega
  rcases this with rfl | rfl | rfl | rfl <;> simp
theorem strOk_ch {i : Int} : PyData.strOk (chS i) = true := by
  have := fmodb i (b := 90) (by decide)
  simp [PyData.strOk]
  omega
theorem drawI_ok {k : Nat} (hk : k < 4) (r : Rw) : okI k (drawI k r).1 = true := by
  unfold drawI
  split
  · exact ok_none k
  · match k, hk with
    | 0, _ =>
      have := fmodb (nx (nx r).2).1 (b := 2) (by decide)
      generalize (nx (nx r).2).1.fmod 2 = i at *
      have : i = 0 ∨ i = 1 := by omega
      rcases this with rfl | rfl <;> rfl
    | 1, _ =>
      have := fmodb (nx (nx r).2).1 (b := 40) (by decide)
      exact iI_ok (by omega) (by omega)
    | 2, _ =>
      simp only [show ((2 : Nat) == 0) = false by decide, show ((2 : Nat) == 1) = false by decide, show ((2 : Nat) == 3) = false by decide, Bool.false_eq_true, if_false]
      split
      · have := fmodb (nx (nx (nx r).2).2).1 (b := 3) (by decide)
        generalize (nx (nx (nx r).2).2).1.fmod 3 = i at *
        have : i = 0 ∨ i = 1 ∨ i = 2 := by omega
        rcases this with rfl | rfl | rfl
        · show okI 2 (iR 0 0) = true
          decide +kernel
        · show okI 2 (iR 1 0) = true
          decide +kernel
        · show okI 2 (iR (-1) 0) = true
          decide +kernel
      · have h1 := fmodb (nx (nx (nx r).2).2).1 (b := 300) (by decide)
        have h2 := fmodb ((nx (nx r).2).1.fmod 10) (b := 4) (by decide)
        have := rd_ok (n := (nx (nx (nx r).2).2).1.fmod 300 - 100) (by omega) (by omega) (menu h2.1 h2.2)
        simp only [rdOk, Bool.and_eq_true] at this
        exact this.2
    | 3, _ =>
      simp only [show ((3 : Nat) == 0) = false by decide, show ((3 : Nat) == 1) = false by decide, show ((3 : Nat) == 3) = true by decide, Bool.false_eq_true, if_false, if_true]
      have := fmodb (nx (nx (nx r).2).2).1 (b := 7) (by decide)
      generalize (nx (nx (nx r).2).2).1.fmod 7 = i at *
      have : i = 0 ∨ i = 1 ∨ i = 2 ∨ i = 3 ∨ i = 4 ∨ i = 5 ∨ i = 6 := by omega
      have hc := strOk_ch (i := (nx (nx r).2).1)
      rcases this with rfl | rfl | rfl | rfl | rfl | rfl | rfl
      · show okI 3 (iS "") = true
        decide +kernel
      · show okI 3 (iS "a") = true
        decide +kernel
      · show okI 3 (iS "b") = true
        decide +kernel
      · show okI 3 (iS "10") = true
        decide +kernel
      · show okI 3 (iS "TRUE") = true
        decide +kernel
      · show okI 3 (iS "2.5") = true
        decide +kernel
      · show okI 3 (iS _) = true
        exact iS_ok (Nat.le_of_ble_eq_true rfl) hc
section
variable {w : World}
theorem o_itM {c : Cx} {n : Nat} {l : List It} {k : Int} (h0 : 0 ≤ k) (h1 : k < l.length) (hz : l.length ≤ 1000) : Pu2 c n getItem (.lst (l.map iD)) (dI k) (iD (l.getD k.toNat none)) :=
  o_itL h0 (by omega) (by
    have : k.toNat < l.length := by omega
    simp [this])
theorem fn_law_item {a : Addr} {k : Nat} {r : Rw} (hk : k < 4) : Fn (cx w) (.ref 677) 3 [dA a, dS (kn k)] [(a, rM r)] (iD (drawI k r).1) [(a, rM (drawI k r).2)] := by
  unfold drawI
  by_cases h5 : ((nx r).1.fmod 6 == 5) = true
  · rw [if_pos h5]
    refine in_law_item rfl ?_
    walk_at "m:go"
    walk_at "m:yes"
    walk_at "m:ret"
  · have h5' : ((nx r).1.fmod 6 == 5) = false := by simpa using h5
    rw [if_neg h5]
    match k, hk with
    | 0, _ =>
      refine in_law_item rfl ?_
      walk_at "m:go"
      walk_at "m:no"
      walk_at "m:yes"
      walk_at "m:ret"
    | 1, _ =>
      refine in_law_item rfl ?_
      walk_at "m:go"
      walk_at "m:no"
      walk_at "m:no"
      walk_at "m:yes"
      walk_at "m:ret"
    | 3, _ =>
      have hb := fmodb (nx (nx r).2).1 (b := 90) (by decide)
      have hc := fmodb (nx (nx (nx r).2).2).1 (b := 7) (by decide)
      refine in_law_item rfl ?_
      walk_at "m:go"
      walk_at "m:no"
      walk_at "m:no"
      walk_at "m:no"
      walk_at "m:yes"
      (with_reducible refine' Ex.cons (Ex1.ret (Ev.sub (d1 := .lst (([iS "", iS "a", iS "b", iS "10", iS "TRUE", iS "2.5", iS (chS (nx (nx r).2).1)] : List It).map iD)) (Ev.eq ?q_a1 ?q_a2) ?q_b1 isT_lst getT_list (o_itM ?q_p1 ?q_p2 ?q_p3) ?q_i1) ?q_r1))
      case q_i1 => rfl
      case q_a1 => walk_at "m:ev"
      case q_a2 => rfl
      case q_b1 => walk_at "m:ev"
      case q_p1 => exact hc.1
      case q_p2 => exact hc.2
      case q_p3 => walk_at "m:disp"
      case q_r1 => exact Or.inl rfl
    | 2, _ =>
      have hc := fmodb (nx (nx (nx r).2).2).1 (b := 3) (by decide)
      have hd := fmodb ((nx (nx r).2).1.fmod 10) (b := 4) (by decide)
      have he := fmodb (nx (nx (nx r).2).2).1 (b := 300) (by decide)
      refine in_law_item rfl ?_
      walk_at "m:go"
      walk_at "m:no"
      walk_at "m:no"
      walk_at "m:no"
      walk_at "m:no"
      walk_at "m:as"
      by_cases h9 : ((nx (nx r).2).1.fmod 10 == 9) = true
      · rw [if_neg (by decide), if_neg (by decide), if_neg (by decide), if_pos h9]
        walk_at "m:yes"
        (with_reducible refine' Ex.cons (Ex1.ret (Ev.sub (d1 := .lst (([iR 0 0, iR 1 0, iR (-1) 0] : List It).map iD)) (Ev.re (d := .lst [.tup [dI 0, dI 0], .tup [dI 1, dI 0], .tup [dI (-1), dI 0]]) ?q_a1 ?q_a2) ?q_b1 isT_lst getT_list (o_itM ?q_p1 ?q_p2 ?q_p3) ?q_i1) ?q_r1))
        case q_i1 => rfl
        case q_a1 => walk_at "m:ev"
        case q_a2 =>
          intro P H v rr
          cases rr with
          | lst h1 h2 =>
            refine .lst h1 ?_
            cases h2 with
            | cons x1 h2 => cases h2 with
              | cons x2 h2 => cases h2 with
                | cons x3 h2 =>
                  cases h2
                  exact .cons (ofT (xs := [.int 0, .int 0]) _ _ _ x1) (.cons (ofT (xs := [.int 1, .int 0]) _ _ _ x2) (.cons (ofT (xs := [.int (-1), .int 0]) _ _ _ x3) .nil))
        case q_b1 => walk_at "m:ev"
        case q_p1 => exact hc.1
        case q_p2 => exact hc.2
        case q_p3 => walk_at "m:disp"
        case q_r1 => exact Or.inl rfl
      · have h9' : ((nx (nx r).2).1.fmod 10 == 9) = false := by simpa using h9
        rw [if_neg (by decide), if_neg (by decide), if_neg (by decide), if_neg h9]
        have hm := menu hd.1 hd.2
        walk_at "m:no"
        (with_reducible refine' Ex.cons (Ex1.ret (C_law_reduced (.cons ?q_a1 (.cons (Ev.eq (Ev.sub (d1 := .lst [dI 1, dI 1, dI 2, dI 4]) ?q_b1 ?q_b2 isT_lst getT_list (o_itG ?q_b3 ?q_b4 ?q_b6) ?q_b5) ?q_c1) .nil ?q_n1) ?q_n2) (Cal.of0 (fn_law_reduced ?q_f1 ?q_f2 hm) ?q_m1) ?q_h1) ?q_r1))
        case q_n1 => rfl
        case q_n2 => rfl
        case q_m1 => decide
        case q_h1 => kernel_rfl
        case q_a1 => walk_at "m:ev"
        case q_b1 => walk_at "m:ev"
        case q_b2 => walk_at "m:ev"
        case q_b3 => exact hd.1
        case q_b4 => exact hd.2
        case q_b5 => rfl
        case q_b6 => walk_at "m:disp"
        case q_c1 =>
          generalize ((nx (nx r).2).1.fmod 10).fmod 4 = i at *
          have : i = 0 ∨ i = 1 ∨ i = 2 ∨ i = 3 := by omega
          rcases this with rfl | rfl | rfl | rfl <;> rfl
        case q_f1 => omega
        case q_f2 => omega
        case q_r1 => exact Or.inl rfl
end
local macro_rules | `(tactic| walk_at "m:fn") => `(tactic| refine Cal.h1 (fn_law_item ?_) ?_ <;> walk_at "m:s")
/-- a factor's items drawn -/
noncomputable def facL : Nat → Rw → List It × Rw
  | 0, r => ([], r)
  | n + 1, r => ((facL n r).1 ++ [([none, iI 1, iI 2, iI 3] : List It).getD ((nx (facL n r).2).1.fmod 4).toNat none], (nx (facL n r).2).2)
/-- a vector's items drawn, many alike -/
noncomputable def vecL (k : Nat) : Nat → Rw → List It × Rw
  | 0, r => ([], r)
  | n + 1, r =>
    if (nx (vecL k n r).2).1.fmod 3 == 2 && !(vecL k n r).1.isEmpty then ((vecL k n r).1 ++ [(vecL k n r).1.getD ((nx (nx (vecL k n r).2).2).1.fmod (vecL k n r).1.length).toNat none], (nx (nx (vecL k n r).2).2).2)
    else ((vecL k n r).1 ++ [(drawI k (nx (vecL k n r).2).2).1], (drawI k (nx (vecL k n r).2).2).2)
/-- a vector drawn: its kind (4: a factor, 5: NULL), its items -/
noncomputable def drawV (r : Rw) : (Nat × List It) × Rw :=
  if (nx r).1.fmod 6 == 5 then ((5, []), (nx (nx r).2).2)
  else if (nx r).1.fmod 6 == 4 then ((4, (facL ((nx (nx r).2).1.fmod 11).toNat (nx (nx r).2).2).1), (facL ((nx (nx r).2).1.fmod 11).toNat (nx (nx r).2).2).2)
  else ((((nx r).1.fmod 6).toNat, (vecL ((nx r).1.fmod 6).toNat ((nx (nx r).2).1.fmod 11).toNat (nx (nx r).2).2).1), (vecL ((nx r).1.fmod 6).toNat ((nx (nx r).2).1.fmod 11).toNat (nx (nx r).2).2).2)
noncomputable abbrev vD : Nat × List It → D
  | (4, xs) => fac xs
  | (5, _) => nullD
  | (k, xs) => vec k xs
theorem facL_len (n : Nat) (r : Rw) : (facL n r).1.length = n := by
  induction n with
  | zero => rfl
  | succ n ih => simp only [facL, List.length_append, List.length_singleton, ih]
theorem facL_ok (n : Nat) (r : Rw) : ∀ x ∈ (facL n r).1, okF x = true := by
  induction n with
  | zero => intro x h; cases h
  | succ n ih =>
    intro x h
    simp only [facL] at h
    rcases List.mem_append.mp h with h | h
    · exact ih x h
    · rw [List.mem_singleton.mp h]
      have := fmodb (nx (facL n r).2).1 (b := 4) (by decide)
      generalize (nx (facL n r).2).1.fmod 4 = i at *
      have : i = 0 ∨ i = 1 ∨ i = 2 ∨ i = 3 := by omega
      rcases this with rfl | rfl | rfl | rfl <;> decide +kernel
theorem vecL_len (k n : Nat) (r : Rw) : (vecL k n r).1.length = n := by
  induction n with
  | zero => rfl
  | succ n ih => unfold vecL; split <;> simp only [List.length_append, List.length_singleton, ih]
theorem vecL_ok {k : Nat} (hk : k < 4) (n : Nat) (r : Rw) : ∀ x ∈ (vecL k n r).1, okI k x = true := by
  induction n with
  | zero => intro x h; cases h
  | succ n ih =>
    intro x h
    unfold vecL at h
    split at h
    · rename_i q
      rcases List.mem_append.mp h with h | h
      · exact ih x h
      · rw [List.mem_singleton.mp h]
        have hne : (vecL k n r).1 ≠ [] := by
          intro e; rw [e] at q; simp at q
        have hl := List.length_pos_iff.mpr hne
        have := fmodb (nx (nx (vecL k n r).2).2).1 (b := (vecL k n r).1.length) (by omega)
        rw [List.getD_eq_getElem?_getD, List.getElem?_eq_getElem (by omega)]
        exact ih _ (List.getElem_mem _)
    · rcases List.mem_append.mp h with h | h
      · exact ih x h
      · rw [List.mem_singleton.mp h]; exact drawI_ok hk _
theorem at1_2 {c : Cx} {f : Fi} {n m : Nat} {Γ : Ga} {fv : Value} {ds : List D} {d : D} {a b : Addr} {mo mo' mb : MO} (hf : Fn c fv m ds [(a, mo)] d [(a, mo')]) (hm : m ≤ n) : Cal c f n Γ fv ds [(b, mb), (a, mo)] d [(b, mb), (a, mo')] := Cal.at1 [(b, mb)] hf hm
section
variable {w : World}
theorem fn_law_vector {a : Addr} {r : Rw} : Fn (cx w) (.ref 696) 4 [dA a] [(a, rM r)] (vD (drawV r).1) [(a, rM (drawV r).2)] := by
  have hk := fmodb (nx r).1 (b := 6) (by decide)
  have hn := fmodb (nx (nx r).2).1 (b := 11) (by decide)
  have en : (nx (nx r).2).1.fmod 11 = (((nx (nx r).2).1.fmod 11).toNat : Int) := by omega
  unfold drawV
  refine in_law_vector rfl ?_
  walk_at "m:go"
  walk_at "m:as"
  walk_at "m:as"
  by_cases h5 : ((nx r).1.fmod 6 == 5) = true
  · rw [if_pos h5]
    walk_at "m:yes"
    walk_at "m:ret"
  have h5' : ((nx r).1.fmod 6 == 5) = false := by simpa using h5
  rw [if_neg h5]
  walk_at "m:no"
  by_cases h4 : ((nx r).1.fmod 6 == 4) = true
  · rw [if_pos h4]
    rw [en]
    generalize ((nx (nx r).2).1.fmod 11).toNat = n at *
    generalize (nx (nx r).2).2 = r2 at *
    walk_at "m:yes"
    (with_reducible refine' Ex.cons (Ex1.asgN (EvN.cg g_Vector (.cons ?q_a1 (.cons (Ev.comp (xs := (List.range n).map fun (i : Nat) => dI i) (Rr := fun j => ((facL j r2).1.map iD)) (J := fun j => [(a, rM (facL j r2).2)]) (g := [some (dA a)]) (ks := ["row"]) ?q_b1 ?q_b2 ?q_b3 ?q_b4 ?q_b5 ?q_b6 ?q_b7) .nil ?q_n1) ?q_n2) (mkVec (n := 1)) ?q_n3 ?q_n4 ?q_n5) ?q_s1 ?q_p1 ?q_nd1 ?q_c1))
    case q_n1 => rfl
    case q_n2 => rfl
    case q_n3 => decide
    case q_n4 => kernel_rfl
    case q_n5 => decide
    case q_nd1 => decide
    case q_c1 => rfl
    case q_a1 => exact Ev.str
    case q_b1 => walk_at "m:ev"
    case q_b2 => exact iter_rng (by omega)
    case q_b3 => kernel_rfl
    case q_b4 => exact .of (by kernel_rfl)
    case q_b5 => exact .cons 0 rfl rfl .nil
    case q_b7 => intro _ _; rfl
    case q_b6 =>
      refine ⟨rfl, rfl, fun _ => rfl, fun j hj => ?_, fun j d hd => ?_⟩
      · rw [List.length_map, facL_len]; exact sl1000 (by simp at hj; omega)
      · have hc := fmodb (nx (facL j r2).2).1 (b := 4) (by decide)
        refine ⟨true, _, .nil, fun _ => ⟨iD (([none, iI 1, iI 2, iI 3] : List It).getD ((nx (facL j r2).2).1.fmod 4).toNat none), ?_, ?_⟩, fun q => by cases q⟩
        · show Ev _ _ _ _ _ _ _ [(a, rM (nx (facL j r2).2).2)]
          (with_reducible refine' Ev.sub (d1 := .lst (([none, iI 1, iI 2, iI 3] : List It).map iD)) (Ev.eq ?q_x1 ?q_x2) ?q_x3 isT_lst getT_list (o_itM hc.1 ?q_x6 ?q_x4) ?q_x5)
          case q_x5 => rfl
          case q_x6 => exact hc.2
          case q_x4 => walk_at "m:disp"
          case q_x1 => walk_at "m:ev"
          case q_x2 => rfl
          case q_x3 => walk_at "m:ev"
        · show (facL (j + 1) r2).1.map iD = _
          simp only [facL, List.map_append, List.map_cons, List.map_nil]
    case q_s1 => intro b; walk_at "m:asg"
    intro dx
    rw [show ((List.range n).map fun (i : Nat) => dI i).length = n by simp]
    show Ex _ _ _ _ _ _ _
    (with_reducible refine' Ex.cons (Ex1.setAttr (d := .dct facA) [] (EvN.ev (dd := dA) (mo := .dct facA) (EvN.dict (κ := ktS (cx w)) (fs := facA) ?q_k1 ?q_k2 ?q_k3 ?q_k4 ?q_k5 ?q_k6) ?q_k7) ?q_b8 ?q_c8 ?q_d8 ?q_e8 ?q_hc8))
    case q_hc8 => rfl
    case q_k2 => rfl
    case q_k3 => rfl
    case q_k4 => simp
    case q_k5 => decide
    case q_k6 => decide
    case q_k7 => exact fun H a v m r => by cases rep_val r; exact frz_dct H m
    case q_k1 =>
      intro z
      refine' EvKV.cons (κ := ktS (cx w)) Ev.str ?q_y1 (EvKV.cons (κ := ktS (cx w)) Ev.str ?q_y2 EvKV.nil)
      case q_y1 => walk_at "m:ev"
      case q_y2 => walk_at "m:ev"
    case q_b8 => exact nm (by rfl)
    case q_c8 => exact so_Vector_attrs
    case q_d8 => simp only [List.length_cons, List.length_nil]; decide
    show Ex _ _ _ _ [(dx, .dct [("kind", _), ("items", _), ("attrs", _), ("shared", _), ("loose", _)]), (a, _)] _ _
    refine Ex.frzO 3 ?_ rfl
    walk_at "m:ret"
  have h4' : ((nx r).1.fmod 6 == 4) = false := by simpa using h4
  rw [if_neg h4]
  rw [en]
  have hk4 : ((nx r).1.fmod 6).toNat < 4 := by
    simp only [beq_eq_false_iff_ne, ne_eq] at h4' h5'
    omega
  walk_at "m:no"
  have ek : (nx r).1.fmod 6 = (((nx r).1.fmod 6).toNat : Int) := by omega
  rw [ek, Int.toNat_natCast]
  generalize ((nx r).1.fmod 6).toNat = k at *
  generalize ((nx (nx r).2).1.fmod 11).toNat = n at *
  generalize (nx (nx r).2).2 = r2 at *
  (with_reducible refine' Ex.cons (Ex1.asg (Ev.sub (d1 := .lst [dS "logical", dS "integer", dS "double", dS "character"]) (d := dS (kn k)) ?q_va1 ?q_vb1 isT_lst getT_list (o_itL ?q_vp1 ?q_vp2 ?q_vp3) ?q_vi1) ?q_vs1 ?q_vq1 ?q_vc1))
  case q_vi1 => rfl
  case q_vc1 => rfl
  case q_va1 => walk_at "m:ev"
  case q_vb1 => walk_at "m:ev"
  case q_vp1 => omega
  case q_vp2 => omega
  case q_vp3 =>
    match k, hk4 with
    | 0, _ | 1, _ | 2, _ | 3, _ => rfl
  case q_vs1 => walk_at "m:asg"
  show Ex _ _ _ _ _ _ _
  (with_reducible refine' Ex.cons (Ex1.asgN (EvN.list .nil ?q_vz2) ?q_vs2 ?q_vp2 ?q_vn2 ?q_vc2))
  case q_vz2 => decide
  case q_vn2 => decide
  case q_vc2 => rfl
  case q_vs2 => intro b; walk_at "m:asg"
  intro b
  show Ex _ _ _ _ [(b, .lst []), (a, _)] _ _
  (with_reducible refine' Ex.cons (Ex1.forIn 4 ?q_vh1 ?q_vhI (fun _ => [some (dA a), none, none, none, none, some (dS (kn k)), some (dA b), none]) (fun j => [(b, .lst ((vecL k j r2).1.map iD)), (a, rM (vecL k j r2).2)]) ?q_vI0 ?q_vJ0 ?q_vhJ ?q_vstep ?q_vhp ?q_vhx ?q_vhs))
  case q_vhx => rfl
  case q_vhs => intro _ _; rfl
  case q_vh1 => walk_at "m:ev"
  case q_vhI => exact iter_rng (by omega)
  case q_vI0 =>
    show Sub _ _
    walk_at "m:sub"
  case q_vJ0 => rfl
  case q_vhJ => intro _; rfl
  case q_vstep =>
    intro j d hd
    have hj : j < n := by
      have := (List.getElem?_eq_some_iff.mp hd).1
      simpa using this
    clear hd
    have hok := vecL_ok hk4 j r2
    have hln := vecL_len k j r2
    have e1 : vecL k (j + 1) r2 = if (nx (vecL k j r2).2).1.fmod 3 == 2 && !(vecL k j r2).1.isEmpty then ((vecL k j r2).1 ++ [(vecL k j r2).1.getD ((nx (nx (vecL k j r2).2).2).1.fmod (vecL k j r2).1.length).toNat none], (nx (nx (vecL k j r2).2).2).2)
      else ((vecL k j r2).1 ++ [(drawI k (nx (vecL k j r2).2).2).1], (drawI k (nx (vecL k j r2).2).2).2) := rfl
    rw [e1]
    generalize (vecL k j r2).1 = xs at *
    generalize (vecL k j r2).2 = r3 at *
    have hsx : ∀ x ∈ xs, sOk x = true := fun x m => sOk_of hk4 (hok x m)
    have hzx : xs.length ≤ 1000 := by omega
    show Ex _ _ _ [_, _, _, _, _, _, _, _] _ _ _
    (with_reducible refine' Ex.cons (Ex1.asg (Ev.boolop (Bo.and' (Ev.cmp (Ev.binop (C_law_next (.cons (nm ?q_ua1) .nil ?q_ua2) (at1_2 fn_law_next ?q_ua3) ?q_ua4) Ev.int (x_modI rfl rfl ?q_ua5)) Ev.int (x_eqI rfl rfl) ?q_ua6) ?q_ub1)) ?q_us1 ?q_uq1 ?q_uc1))
    case q_ua1 => rfl
    case q_ua2 => rfl
    case q_ua3 => decide
    case q_ua4 => kernel_rfl
    case q_ua5 => decide
    case q_ua6 => with_unfolding_all rfl
    case q_uc1 => rfl
    case q_ub1 =>
      intro _
      exact Bo.one (Ev.cmpMu (nm (by rfl)) (Ev.list .nil (by decide)) (List.mem_cons_self ..) (o_neNilI hsx))
    case q_us1 => walk_at "m:asg"
    show Ex _ _ _ _ _ _ _
    by_cases hq : ((nx r3).1.fmod 3 == 2 && !xs.isEmpty) = true
    · rw [if_pos hq]
      have hne : xs ≠ [] := by
        intro e; rw [e] at hq; simp at hq
      have hl := List.length_pos_iff.mpr hne
      have hm := fmodb (nx (nx r3).2).1 (b := xs.length) (by omega)
      have hlt : ((nx (nx r3).2).1.fmod xs.length).toNat < xs.length := by omega
      (with_reducible refine' Ex.cons (Ex1.expr (Ev.methC (d0 := dA b) (nm ?q_uf1) (.cons (Ev.ifexp_t (Ts.re (Ts.val (nm ?q_uf2) tr_bool ?q_uf3) hq) (Ev.subMu (a := b) (l := xs.map iD) (d := iD (xs.getD ((nx (nx r3).2).1.fmod xs.length).toNat none)) (nm ?q_ug1) (Ev.binop (C_law_next (.cons (nm ?q_ug2) .nil ?q_ug3) (at1_2 fn_law_next ?q_ug4) ?q_ug5) (B_len (.cons (nm ?q_ug6) .nil ?q_ug7) (Cal.lenMu (l := xs.map iD) ?q_ug8 ?q_ug9) ?q_ug10) (x_modI rfl ?q_ug11 ?q_ug12)) ?q_ug13 hm.1 ?q_ug14 ?q_ug15 ?q_ug16)) .nil ?q_uf4) (kd_muL (l := xs.map iD) ?q_uf5) m_append (Cal.b1 [] (f_append ?q_uf6)) ?q_ue1 ?q_ue2 ?q_ue3) ?q_uq2 ?q_uc2))
      case q_uc2 => rfl
      case q_ue1 => decide
      case q_ue2 => rfl
      case q_ue3 => intro _ _; rfl
      case q_uf1 => rfl
      case q_uf2 => rfl
      case q_uf3 => rfl
      case q_uf4 => rfl
      case q_uf5 => exact List.mem_cons_self ..
      case q_uf6 => exact sl1000 (by simpa using hzx)
      case q_ug1 => rfl
      case q_ug2 => rfl
      case q_ug3 => rfl
      case q_ug4 => decide
      case q_ug5 => kernel_rfl
      case q_ug6 => rfl
      case q_ug7 => rfl
      case q_ug8 => exact List.mem_cons_self ..
      case q_ug9 => simp; omega
      case q_ug10 => kernel_rfl
      case q_ug11 => rw [List.length_map]
      case q_ug12 => omega
      case q_ug13 => exact List.mem_cons_self ..
      case q_ug14 => omega
      case q_ug15 => simp [hlt]
      case q_ug16 => rfl
      refine Ex.nil (Turn.nx ?_ ?_)
      · walk_at "m:sub"
      · simp only [List.nil_append, List.map_append, List.map_cons, List.map_nil]
    · have hq' : ((nx r3).1.fmod 3 == 2 && !xs.isEmpty) = false := by simpa using hq
      rw [if_neg hq]
      have hit := fn_law_item (w := w) (a := a) (r := (nx r3).2) hk4
      (with_reducible refine' Ex.cons (Ex1.expr (Ev.methC (d0 := dA b) (nm ?q_tf1) (.cons (Ev.ifexp_f (Ts.re (Ts.val (nm ?q_tf2) tr_bool ?q_tf3) hq') (C_law_item (.cons (nm ?q_tg1) (.cons (nm ?q_tg2) .nil ?q_tg3) ?q_tg4) (at1_2 hit ?q_tg5) ?q_tg6)) .nil ?q_tf4) (kd_muL (l := xs.map iD) ?q_tf5) m_append (Cal.b1 [] (f_append ?q_tf6)) ?q_te1 ?q_te2 ?q_te3) ?q_tq2 ?q_tc2))
      case q_tc2 => rfl
      case q_te1 => decide
      case q_te2 => rfl
      case q_te3 => intro _ _; rfl
      case q_tf1 => rfl
      case q_tf2 => rfl
      case q_tf3 => rfl
      case q_tf4 => rfl
      case q_tf5 => exact List.mem_cons_self ..
      case q_tf6 => exact sl1000 (by simpa using hzx)
      case q_tg1 => rfl
      case q_tg2 => rfl
      case q_tg3 => rfl
      case q_tg4 => rfl
      case q_tg5 => decide
      case q_tg6 => kernel_rfl
      refine Ex.nil (Turn.nx ?_ ?_)
      · walk_at "m:sub"
      · simp only [List.nil_append, List.map_append, List.map_cons, List.map_nil]
  case q_vhp =>
    rw [show ((List.range n).map fun (i : Nat) => dI i).length = n by simp]
    show Ex _ _ _ _ _ _ _
    refine Ex.frz (d0 := dN) 6 ?_ rfl frz_lst
    have ev : vD (k, (vecL k n r2).1) = vec k (vecL k n r2).1 := by
      match k, hk4 with
      | 0, _ | 1, _ | 2, _ | 3, _ => rfl
    show Ex _ _ _ _ _ _ (fun o => o = Out.ret (vD (k, (vecL k n r2).1)) [(a, rM (vecL k n r2).2)] ∨ ∃ Γ', vD (k, (vecL k n r2).1) = dN ∧ o = .nxt Γ' [(a, rM (vecL k n r2).2)])
    rw [ev]
    walk_at "m:ret"
end
local macro_rules | `(tactic| walk_at "m:fn") => `(tactic| exact Cal.h1 fn_law_vector (by decide))
noncomputable def digs (f : Int) : Nat → List Int × Int
  | 0 => ([], f)
  | n + 1 => if 0 < (digs f n).2 then ((digs f n).1 ++ [(digs f n).2.fmod 1024], (digs f n).2.fdiv 1024) else digs f n
noncomputable abbrev fig (x : Int) : Int := if 0 ≤ x then x else 7 - x
noncomputable def cellR (x : Int) : List Int := (fig x).fmod 1024 :: (digs ((fig x).fdiv 1024) 30).1
/-- what the cells make -/
noncomputable def rowL (xs : List Int) : List Int := xs.flatMap cellR
noncomputable def rowOf (xs : List Int) : Rw := ⟨(rowL (xs.take 40)).take 160, by rw [List.length_take]; omega⟩
theorem digs_len (f : Int) (n : Nat) : (digs f n).1.length ≤ n := by
  induction n with
  | zero => exact Nat.le_refl _
  | succ n ih =>
    unfold digs
    split
    · rw [List.length_append, List.length_singleton]; omega
    · omega
theorem rowL_len (xs : List Int) : (rowL xs).length ≤ 31 * xs.length := by
  induction xs with
  | nil => exact Nat.le_refl _
  | cons x xs ih =>
    unfold rowL at ih ⊢
    rw [List.flatMap_cons, List.length_append, List.length_cons]
    have : (cellR x).length ≤ 31 := by
      have := digs_len ((fig x).fdiv 1024) 30
      unfold cellR; rw [List.length_cons]; omega
    omega
theorem sl_big {n : Nat} (h : n ≤ 100000) : n ≤ sizeLine := Nat.le_trans h (by decide)
section
variable {w : World}
theorem fn_law_row {xs : List Int} (hz : xs.length ≤ 63) : FnN (cx w) (.ref 656) 2 [dL (xs.map .int)] (rM (rowOf xs)) dA := by
  refine inN_law_row ?_
  walk_at "m:go"
  (with_reducible refine' Ex.cons (Ex1.asgN (EvN.list .nil ?q_az) ?q_as ?q_ap ?q_an ?q_ac))
  case q_az => decide
  case q_an => decide
  case q_ac => rfl
  case q_as => intro b; walk_at "m:asg"
  intro b
  show Ex _ _ _ _ _ _ _
  have hml : (xs.take 40).length ≤ 40 := by rw [List.length_take]; omega
  have hsl : Ev (cx w) F_law_row 1 [some (dL (xs.map .int)), some (dA b), none, none, none] [(b, .lst [])] (.Constant (.int 0) 0 ⟨0,0,0,0⟩) (dI 0) [(b, .lst [])] := Ev.int
  clear hsl
  (with_reducible refine' Ex.cons (Ex1.forIn 2 (Ev.eq (Ev.slice (nm ?q_b1) .none (.some Ev.int) .none isT_dL getT_list (sl_up (b := 40) lsOf_dL ?q_b2)) ?q_b3) iter_lst (fun _ => [none, some (dA b), none, none, none]) (fun j => [(b, .lst ((rowL ((xs.take 40).take j)).map dI))]) ?q_bI ?q_bJ ?q_bhJ ?q_bstep ?q_bhp ?q_bhx ?q_bhs))
  case q_bhx => rfl
  case q_bhs => intro _ _; rfl
  case q_b1 => rfl
  case q_b2 => exact sl_big (by simp; omega)
  case q_b3 => exact (show D.lst (((xs.map PyData.int).map D.dat).take 40) = D.lst ((xs.take 40).map dI) by rw [List.map_map, ← List.map_take]; rfl)
  case q_bI =>
    show Sub _ _
    walk_at "m:sub"
  case q_bJ => rfl
  case q_bhJ => intro _; rfl
  case q_bstep =>
    intro j d hd
    generalize xs.take 40 = ys at *
    have hj : j < ys.length := by
      have := (List.getElem?_eq_some_iff.mp hd).1
      simpa using this
    have hd' : d = dI ys[j] := by
      rw [List.getElem?_map] at hd
      simpa [hj] using hd.symm
    subst hd'
    have et : ys.take (j + 1) = ys.take j ++ [ys[j]] := by rw [List.take_add_one]; simp [hj]
    have er : rowL (ys.take (j + 1)) = rowL (ys.take j) ++ cellR ys[j] := by
      rw [et]
      show (ys.take j ++ [ys[j]]).flatMap cellR = _
      rw [List.flatMap_append, List.flatMap_cons, List.flatMap_nil, List.append_nil]; rfl
    rw [er]
    have hrl := rowL_len (ys.take j)
    rw [List.length_take] at hrl
    generalize rowL (ys.take j) = rs at *
    generalize ys[j] = x at *
    show Ex _ _ _ [_, _, _, _, _] _ _ _
    (with_reducible refine' Ex.cons (Ex1.asg (d := dI (fig x)) ?q_ca ?q_cs ?q_cp ?q_cc))
    case q_cc => rfl
    case q_cs => walk_at "m:asg"
    case q_ca =>
      refine' Ev.ifexp (μ2 := [(b, .lst (rs.map dI))]) (q := decide (0 ≤ x)) (Ts.cmp (nm (by rfl)) Ev.int o_geI) (fun q => ?_) (fun q => ?_)
      · have q := of_decide_eq_true q
        have e : fig x = x := if_pos q
        rw [e]; exact nm (by rfl)
      · have q := of_decide_eq_false q
        have e : fig x = 7 - x := if_neg q
        rw [e]; walk_at "m:ev"
    show Ex _ _ _ _ _ _ _
    have happ := f_append (c := cx w) (n := 1) (a := b) (l := rs.map dI) (d := dI ((fig x).fmod 1024)) (sl_big (by simp; omega))
    (with_reducible refine' Ex.cons (Ex1.expr (Ev.methC (d0 := dA b) (nm ?q_d1) (.cons (Ev.binop (nm ?q_d2) Ev.int (x_modI rfl rfl ?q_d3)) .nil ?q_d4) (kd_muL (l := rs.map dI) ?q_d5) m_append (Cal.b1 [] happ) ?q_d6 ?q_d7 ?q_d8) ?q_d9 ?q_d10))
    case q_d10 => rfl
    case q_d1 => rfl
    case q_d2 => rfl
    case q_d3 => decide
    case q_d4 => rfl
    case q_d5 => exact List.mem_cons_self ..
    case q_d6 => decide
    case q_d7 => rfl
    case q_d8 => intro _ _; rfl
    show Ex _ _ _ _ [(b, .lst (rs.map dI ++ [dI ((fig x).fmod 1024)]))] _ _
    walk_at "m:as"
    have hf : ((fig x).fdiv 1024) = ((fig x).fdiv 1024) := rfl
    (with_reducible refine' Ex.cons (Ex1.forIn 4 ?q_eh (iter_rng (n := 30) ?q_en) (fun k => [none, some (dA b), none, some (dI (digs ((fig x).fdiv 1024) k).2), none]) (fun k => [(b, .lst ((rs ++ (fig x).fmod 1024 :: (digs ((fig x).fdiv 1024) k).1).map dI))]) ?q_eI ?q_eJ ?q_ehJ ?q_estep ?q_ehp ?q_ehx ?q_ehs))
    case q_ehx => rfl
    case q_ehs => intro _ _; rfl
    case q_en => decide
    case q_eh => exact B_range (.cons Ev.int .nil) (Cal.b0 (f_range (m := 30))) (by kernel_rfl)
    case q_eI =>
      show Sub _ _
      walk_at "m:sub"
    case q_eJ => simp [digs]
    case q_ehJ => intro _; rfl
    case q_estep =>
      intro k d hd
      have hk : k < 30 := by
        have := (List.getElem?_eq_some_iff.mp hd).1
        simpa using this
      clear hd
      have hdl := digs_len ((fig x).fdiv 1024) k
      have ed : digs ((fig x).fdiv 1024) (k + 1) = if 0 < (digs ((fig x).fdiv 1024) k).2 then ((digs ((fig x).fdiv 1024) k).1 ++ [(digs ((fig x).fdiv 1024) k).2.fmod 1024], (digs ((fig x).fdiv 1024) k).2.fdiv 1024) else digs ((fig x).fdiv 1024) k := rfl
      rw [ed]
      generalize digs ((fig x).fdiv 1024) k = p at *
      show Ex _ _ _ [_, _, _, _, _] _ _ _
      by_cases hq : 0 < p.2
      · rw [if_pos hq]
        have hq' : decide (0 < p.2) = true := decide_eq_true hq
        have happ2 := f_append (c := cx w) (n := 1) (a := b) (l := (rs ++ (fig x).fmod 1024 :: p.1).map dI) (d := dI (p.2.fmod 1024)) (sl_big (by simp; omega))
        walk_at "m:yes"
        (with_reducible refine' Ex.cons (Ex1.expr (Ev.methC (d0 := dA b) (nm ?q_f1) (.cons (Ev.binop (nm ?q_f2) Ev.int (x_modI rfl rfl ?q_f3)) .nil ?q_f4) (kd_muL (l := (rs ++ (fig x).fmod 1024 :: p.1).map dI) ?q_f5) m_append (Cal.b1 [] happ2) ?q_f6 ?q_f7 ?q_f8) ?q_f9 ?q_f10))
        case q_f10 => rfl
        case q_f1 => rfl
        case q_f2 => rfl
        case q_f3 => decide
        case q_f4 => rfl
        case q_f5 => exact List.mem_cons_self ..
        case q_f6 => decide
        case q_f7 => rfl
        case q_f8 => intro _ _; rfl
        show Ex _ _ _ _ _ _ _
        walk_at "m:as"
        refine Ex.nil ?_
        show Ex _ _ _ _ _ _ _
        refine Ex.nil (Turn.nx ?_ ?_)
        · walk_at "m:sub"
        · simp
      · rw [if_neg hq]
        have hq' : decide (0 < p.2) = false := decide_eq_false hq
        walk_at "m:no"
        refine Ex.nil (Turn.nx ?_ rfl)
        walk_at "m:sub"
    case q_ehp =>
      rw [show ((List.range 30).map fun (i : Nat) => dI i).length = 30 by simp]
      show Ex _ _ _ _ _ _ _
      refine Ex.nil (Turn.nx ?_ rfl)
      walk_at "m:sub"
  case q_bhp =>
    rw [show (xs.take 40).take ((xs.take 40).map dI).length = xs.take 40 by rw [List.length_map, List.take_length]]
    have hrl := rowL_len (xs.take 40)
    show Ex _ _ _ _ _ _ _
    refine Ex.frz (d0 := dN) 1 ?_ rfl frz_lst
    (with_reducible refine' Ex.cons (Ex1.asgN (EvN.sliceUp (b := 160) (nm ?q_g1) Ev.int lsOf_lst ?q_g2) ?q_gs ?q_gp ?q_gn ?q_gc))
    case q_g1 => rfl
    case q_g2 => exact sl_big (by simp; omega)
    case q_gn => decide
    case q_gc => rfl
    case q_gs => intro b; exact .there .here
    intro a
    show Ex _ _ _ [_, _, _, _, _] _ _ _
    have hrv := f_reverse (c := cx w) (n := 1) (a := a) (l := ((rowL (xs.take 40)).map dI).take 160) (sl_big (by simp; omega))
    (with_reducible refine' Ex.cons (Ex1.expr (Ev.methC (d0 := dA a) (nm ?q_h1) .nil (kd_muL (l := ((rowL (xs.take 40)).map dI).take 160) ?q_h5) m_reverse (Cal.b1 [] hrv) ?q_h6 ?q_h7 ?q_h8) ?q_h9 ?q_h10))
    case q_h10 => rfl
    case q_h1 => rfl
    case q_h5 => exact List.mem_cons_self ..
    case q_h6 => decide
    case q_h7 => rfl
    case q_h8 => intro _ _; rfl
    show Ex _ _ _ _ _ _ _
    refine Ex.cons (Ex1.ret (d := dA a) (nm (by rfl)) ?_)
    refine ⟨a, ?_⟩
    have e : (((rowL (xs.take 40)).map dI).take 160).reverse = (rowOf xs).1.reverse.map dI := by
      rw [← List.map_take, ← List.map_reverse]; rfl
    show Out.ret _ [(a, .lst _)] = _
    rw [e]
end
section
variable {w : World}
theorem fn_law_plain_text {k : Nat} {x : It} (hk : k < 3) (h : okI k x = true) : Fn (cx w) (.ref 684) 3 [dS (kn k), iD x] [] (iD (tx k x)) [] := by
  match k, hk with
  | 0, _ =>
    rcases oi0 h with rfl | rfl | rfl
    all_goals refine in_law_plain_text rfl ?_
    all_goals walk_at "m:go"
    · walk_at "m:yes"
      walk_at "m:ret"
    all_goals walk_at "m:no"
    all_goals walk_at "m:yes"
    all_goals walk_at "m:ret"
  | 1, _ =>
    rcases oi1 h with rfl | ⟨i, rfl, h1, h2⟩
    all_goals refine in_law_plain_text rfl ?_
    all_goals walk_at "m:go"
    · walk_at "m:yes"
      walk_at "m:ret"
    walk_at "m:no"
    walk_at "m:no"
    walk_at "m:yes"
    walk_at "m:ret"
  | 2, _ =>
    rcases oi2 h with rfl | ⟨n, d, rfl, hr⟩
    · refine in_law_plain_text rfl ?_
      walk_at "m:go"
      walk_at "m:yes"
      walk_at "m:ret"
    · rcases okR_c hr with ⟨rfl, rfl | rfl | rfl⟩ | ⟨hd, h1, h2⟩
      · refine in_law_plain_text rfl ?_
        walk_at "m:go"
        walk_at "m:no"
        walk_at "m:no"
        walk_at "m:no"
        walk_at "m:yes"
        walk_at "m:ret"
      · refine in_law_plain_text rfl ?_
        walk_at "m:go"
        walk_at "m:no"
        walk_at "m:no"
        walk_at "m:no"
        walk_at "m:yes"
        walk_at "m:ret"
      · refine in_law_plain_text rfl ?_
        walk_at "m:go"
        walk_at "m:no"
        walk_at "m:no"
        walk_at "m:no"
        walk_at "m:yes"
        (with_reducible refine' Ex.cons (Ex1.ret (Ev.sub ?q_a1 ?q_a2 isT_lst getT_list (o_itLn (d := dS "-Inf") ?q_a3 ?q_a4 ?q_a5 ?q_a6) ?q_a7) ?q_a8))
        case q_a1 => walk_at "m:ev"
        case q_a2 => walk_at "m:ev"
        case q_a3 => decide
        case q_a4 => decide
        case q_a5 => decide
        case q_a6 => rfl
        case q_a7 => rfl
        case q_a8 => exact Or.inl rfl
      · have hz : ((d : Int) == 0) = false := by simp; omega
        have ha := absI_b (n := n)
        have hq := fdivb ha.1 (d := d) (by omega)
        have hm := fmodb (absI n) (b := 4) (by decide)
        have s1 := si (i := (absI n).fdiv d) (by omega) (by omega)
        have s2 := si (i := 25 * (absI n).fmod 4) (by omega) (by omega)
        have hdp : 0 < d := by omega
        have hdz : d < 2 ^ 300 := by omega
        refine in_law_plain_text rfl ?_
        walk_at "m:go"
        walk_at "m:no"
        walk_at "m:no"
        walk_at "m:no"
        walk_at "m:no"
        walk_at "m:as"
        show Ex _ _ _ [_, _, some (dI (absI n)), _] _ _ _
        (with_reducible refine' Ex.cons (Ex1.asg (d := dS ((if n < 0 then ("-" : Str) else "") ++ strI ((absI n).fdiv d))) (Ev.binop (Ev.ifexp (q := decide (n < 0)) (d := dS (if n < 0 then ("-" : Str) else "")) ?q_b1 ?q_b2 ?q_b3) (B_str (.cons (Ev.binop (nm ?q_b4) ?q_b5 (x_divI rfl rfl hdp hdz)) .nil ?q_b6) (Cal.b0 (f_str ?q_b7)) ?q_b8) (o_addT ?q_b9 ?q_b10)) ?q_bs ?q_bp ?q_bc))
        case q_bc => rfl
        case q_bs => walk_at "m:asg"
        case q_b1 => walk_at "m:ts"
        case q_b2 => intro q; rw [if_pos (of_decide_eq_true q)]; exact Ev.str
        case q_b3 => intro q; rw [if_neg (of_decide_eq_false q)]; exact Ev.str
        case q_b4 => rfl
        case q_b5 => walk_at "m:ev"
        case q_b6 => rfl
        case q_b7 => exact small_log (by omega) (by omega)
        case q_b8 => kernel_rfl
        case q_b9 => split <;> decide
        case q_b10 => exact Nat.le_trans s1.2.1 (by decide)
        show Ex _ _ _ [_, _, _, _] _ _ _
        have hlen : ((if n < 0 then ("-" : Str) else "") ++ strI ((absI n).fdiv d)).length ≤ 1000 := by
          rw [len_app]
          have : (if n < 0 then ("-" : Str) else "").length ≤ 1 := by split <;> decide
          omega
        have hlen2 : (("." : Str) ++ strI (25 * (absI n).fmod 4)).length ≤ 1000 := by
          rw [len_app]
          have : (("." : Str)).length = 1 := by decide
          omega
        have hv : valD (mergeD [] [((1 : Int), dS ""), ((2 : Int), dS ".5"), ((4 : Int), dS ("." ++ strI (25 * (absI n).fmod 4)))]) d = some (dS (if d == 1 then ("" : Str) else if d == 2 then ".5" else "." ++ strI (25 * (absI n).fmod 4))) := by
          rcases hd with rfl | rfl | rfl <;> rfl
        have hl3 : (if d == 1 then ("" : Str) else if d == 2 then ".5" else "." ++ strI (25 * (absI n).fmod 4)).length ≤ 1000 := by
          rcases hd with rfl | rfl | rfl
          · show (("" : Str)).length ≤ 1000
            decide
          · show ((".5" : Str)).length ≤ 1000
            decide
          · exact hlen2
        (with_reducible refine' Ex.cons (Ex1.ret (Ev.binop (nm ?q_c1) (Ev.subN (ktI (cx w)) (kx := d) (EvN.dict (κ := ktI (cx w)) (fs := [((1 : Int), dS ""), ((2 : Int), dS ".5"), ((4 : Int), dS ("." ++ strI (25 * (absI n).fmod 4)))]) ?q_k1 ?q_k2 ?q_k3 ?q_k4 ?q_k5 ?q_k6) ?q_c2 ?q_c3 hv ?q_c4) (o_addT hlen hl3)) ?q_c5))
        case q_c1 => rfl
        case q_k2 => rfl
        case q_k3 => rfl
        case q_k4 => simp
        case q_k5 => decide
        case q_k6 => walk_at "m:disp"
        case q_k1 =>
          intro z
          refine' EvKV.cons (κ := ktI (cx w)) (kx := (1 : Int)) Ev.int Ev.str (EvKV.cons (κ := ktI (cx w)) (kx := (2 : Int)) Ev.int Ev.str (EvKV.cons (κ := ktI (cx w)) (kx := (4 : Int)) Ev.int ?q_y1 EvKV.nil))
          case q_y1 =>
            refine' Ev.binop Ev.str (B_str (.cons (Ev.binop Ev.int (Ev.binop (nm (by rfl)) Ev.int (o_modI (by decide))) (x_mulI rfl rfl (.inl (by decide)))) .nil) (Cal.b0 (f_str ?_)) (by kernel_rfl)) (o_addT ?_ ?_)
            · exact small_log (by omega) (by omega)
            · decide
            · exact Nat.le_trans s2.2.1 (by decide)
        case q_c2 => intro z; walk_at "m:ev"
        case q_c3 =>
          show ([1, 2, 4] : List Int).Nodup
          decide
        case q_c4 => rfl
        case q_c5 =>
          refine Or.inl ?_
          have e : ntx n d = ((if n < 0 then ("-" : Str) else "") ++ strI ((absI n).fdiv d)) ++ (if d == 1 then ("" : Str) else if d == 2 then ".5" else "." ++ strI (25 * (absI n).fmod 4)) := by
            unfold ntx; rw [hz]; rfl
          show _ = Out.ret (dS (ntx n d)) _
          rw [e]
end
local macro_rules | `(tactic| walk_at "m:fn") => `(tactic| refine Cal.of0 (fn_law_plain_text ?_ ?_) ?_ <;> walk_at "m:s")
section
variable {w : World}
theorem fn_law_as {k t : Nat} {x : It} (hk : k ≤ t) (ht : t < 4) (h : okI k x = true) : Fn (cx w) (.ref 691) 4 [dS (kn k), iD x, dS (kn t)] [] (iD (cv k t x)) [] := by
  by_cases e : k = t
  · subst e
    have q : (kn k == kn k) = true := beq_self_eq_true _
    have q2 : cv k k x = x := by unfold cv; rw [if_pos (beq_self_eq_true k)]
    rw [q2]
    refine in_law_as rfl ?_
    walk_at "m:go"
    walk_at "m:yes"
    walk_at "m:ret"
  · have c := pairs6 ht hk e
    clear ht hk e
    rcases c with ⟨rfl, rfl⟩ | ⟨rfl, rfl⟩ | ⟨rfl, rfl⟩ | ⟨rfl, rfl⟩ | ⟨rfl, rfl⟩ | ⟨rfl, rfl⟩
    · refine in_law_as rfl ?_
      walk_at "m:go"
      walk_at "m:no"
      walk_at "m:no"
      walk_at "m:no"
      walk_at "m:ret"
    · rcases oi0 h with rfl | rfl | rfl
      · refine in_law_as rfl ?_
        walk_at "m:go"
        walk_at "m:no"
        walk_at "m:no"
        walk_at "m:yes"
        walk_at "m:ret"
      · refine in_law_as rfl ?_
        walk_at "m:go"
        walk_at "m:no"
        walk_at "m:no"
        walk_at "m:yes"
        (with_reducible refine' Ex.cons (Ex1.ret (Ev.re ?q_a1 ?q_b1) ?q_c1))
        case q_c1 => exact Or.inl rfl
        case q_a1 => walk_at "m:ev"
        case q_b1 => exact ofT (xs := [.int 0, .int 1])
      · refine in_law_as rfl ?_
        walk_at "m:go"
        walk_at "m:no"
        walk_at "m:no"
        walk_at "m:yes"
        (with_reducible refine' Ex.cons (Ex1.ret (Ev.re ?q_a2 ?q_b2) ?q_c2))
        case q_c2 => exact Or.inl rfl
        case q_a2 => walk_at "m:ev"
        case q_b2 => exact ofT (xs := [.int 1, .int 1])
    · rcases oi1 h with rfl | ⟨i, rfl, _⟩
      · refine in_law_as rfl ?_
        walk_at "m:go"
        walk_at "m:no"
        walk_at "m:no"
        walk_at "m:yes"
        walk_at "m:ret"
      · refine in_law_as rfl ?_
        walk_at "m:go"
        walk_at "m:no"
        walk_at "m:no"
        walk_at "m:yes"
        (with_reducible refine' Ex.cons (Ex1.ret (Ev.re ?q_a3 ?q_b3) ?q_c3))
        case q_c3 => exact Or.inl rfl
        case q_a3 => walk_at "m:ev"
        case q_b3 => exact ofT (xs := [.int i, .int 1])
    all_goals refine in_law_as rfl ?_
    all_goals walk_at "m:go"
    all_goals walk_at "m:no"
    all_goals walk_at "m:yes"
    all_goals walk_at "m:ret"
theorem fn_law_spots {xs : List It} (hx : ∀ x ∈ xs, sOk x = true) (hz : xs.length ≤ 1000) : Fn (cx w) (.ref 706) 2 [.lst (xs.map iD)] [] (.lst ((spots xs).map nD)) [] := by
  refine in_law_spots rfl ?_
  walk_at "m:go"
  have e0 : (xs.map iD).length = xs.length := List.length_map ..
  (with_reducible refine' Ex.cons (Ex1.ret (Ev.compF (xs := List.range xs.length) (di := nD) (y := nD) (p := sp xs) (ks := ["items"]) ?q_a ?q_b ?q_c ?q_d ?q_e ?q_f ?q_hok ?q_ok2 ?q_hf) ?q_g))
  case q_a => walk_at "m:ev"
  case q_b => rw [e0]; exact iter_rng (by omega)
  case q_c => exact .cons 0 rfl rfl .nil
  case q_d => exact sl1000 (by simpa using hz)
  case q_hok => kernel_rfl
  case q_ok2 => exact .of (by kernel_rfl)
  case q_hf => intro _ _; rfl
  case q_g => exact Or.inl rfl
  case q_f => intro i _ _; exact nm (by rfl)
  case q_e =>
    intro i hm
    have h := List.mem_range.mp hm
    refine' .one (Ts.cmp (d1 := iD (xs.getD i none)) (d2 := .lst ((xs.take i).map iD)) (Ev.sub (nm (by rfl)) (nm (by rfl)) isT_lst getT_list (o_itL (by omega) (by omega) ?_) rfl) (Ev.eq (Ev.slice (nm (by rfl)) .none (.some (i := (i : Int)) (nm (by rfl))) .none isT_lst getT_list (sl_up lsOf_lst (sl1000 (by omega)))) ?_) (o_ninI ?_ ?_))
    · simp [h]
    · rw [← List.map_take]
    · exact fun y hy => hx y (List.mem_of_mem_take hy)
    · rw [getD_eq h]; exact hx _ (List.getElem_mem h)
/-- a drawn vector's own kind and items -/
theorem fn_law_plain_null : Fn (cx w) (.ref 701) 3 [nullD] [] (.tup [dS (kn 0), .lst []]) [] := by
  refine in_law_plain rfl ?_
  walk_at "m:go"
  walk_at "m:yes"
  walk_at "m:ret"
theorem fn_law_plain_vec {k : Nat} {xs : List It} (hk : k < 4) (hz : xs.length ≤ 1000) : Fn (cx w) (.ref 701) 3 [vec k xs] [] (.tup [dS (kn k), .lst (xs.map iD)]) [] := by
  match k, hk with
  | 0, _ | 1, _ | 2, _ | 3, _ =>
    refine in_law_plain rfl ?_
    walk_at "m:go"
    walk_at "m:no"
    walk_at "m:no"
    walk_at "m:ret"
theorem fn_law_plain_fac {xs : List It} (h : ∀ x ∈ xs, okF x = true) (hz : xs.length ≤ 1000) : Fn (cx w) (.ref 701) 3 [fac xs] [] (.tup [dS (kn 3), .lst ((xs.map lev).map iD)]) [] := by
  refine in_law_plain rfl ?_
  walk_at "m:go"
  walk_at "m:no"
  walk_at "m:yes"
  rw [List.map_map]
  (with_reducible refine' Ex.cons (Ex1.ret (Ev.tuple (.cons Ev.str (.cons (Ev.compM (xs := xs) (di := iD) (y := iD ∘ lev) (g := []) (ks := []) ?q_a5 iter_lst ?q_c5 ?q_d5 ?q_e5 ?q_hok ?q_ok2 ?q_hf) .nil ?q_n1) ?q_n2) ?q_n3) ?q_r5))
  case q_n1 => rfl
  case q_n2 => rfl
  case q_n3 => walk_at "m:disp"
  case q_a5 => walk_at "m:ev"
  case q_c5 => exact .nil
  case q_d5 => exact sl1000 hz
  case q_hok => kernel_rfl
  case q_ok2 => exact .of (by kernel_rfl)
  case q_hf => intro _ _; rfl
  case q_r5 => exact Or.inl rfl
  case q_e5 =>
    intro x hx
    rcases oiF (h x hx) with rfl | rfl | rfl | rfl
    · show Ev _ _ _ _ _ _ (iD none) _
      walk_at "m:ev"
    · show Ev _ _ _ _ _ _ (iD (iS "a")) _
      walk_at "m:ev"
    · show Ev _ _ _ _ _ _ (iD (iS "10")) _
      walk_at "m:ev"
    · show Ev _ _ _ _ _ _ (iD (iS "b")) _
      walk_at "m:ev"
end
local macro_rules | `(tactic| walk_at "m:fn") => `(tactic| refine Cal.of0 (fn_law_as ?_ ?_ ?_) ?_ <;> walk_at "m:s")
local macro_rules | `(tactic| walk_at "m:fn") => `(tactic| refine Cal.of0 (fn_law_spots ?_ ?_) ?_ <;> walk_at "m:s")
noncomputable def fB : Stmt → List Stmt
  | .For _ _ b _ _ => b
  | _ => []
theorem flags_back (xs : List It) : (dups xs.reverse).reverse = (List.range xs.length).map fun i => if (xs.drop (i + 1)).contains (xs.getD i none) then (1 : Int) else 0 := by
  refine List.ext_getElem (by simp [dups]) fun i h1 h2 => ?_
  have hi : i < xs.length := by simpa using h2
  rw [List.getElem_reverse, List.getElem_map, List.getElem_range]
  simp only [dups, List.getElem_map, List.getElem_range, List.length_map, List.length_range, List.length_reverse]
  have e1 : xs.reverse.getD (xs.length - 1 - i) none = xs.getD i none := by
    rw [getD_eq (by simp; omega), getD_eq hi, List.getElem_reverse]
    congr 1; omega
  have e2 : xs.reverse.take (xs.length - 1 - i) = (xs.drop (i + 1)).reverse := by
    rw [List.take_reverse]
    congr 2; omega
  unfold sp
  rw [e1, e2]
  have e3 : ((xs.drop (i + 1)).reverse).contains (xs.getD i none) = (xs.drop (i + 1)).contains (xs.getD i none) := by
    rw [Bool.eq_iff_iff, List.contains_iff_mem, List.contains_iff_mem, List.mem_reverse]
  rw [e3]
  cases (xs.drop (i + 1)).contains (xs.getD i none) <;> rfl
theorem spots_in {xs : List It} {i : Nat} (h : i < xs.length) : (spots xs).contains i = sp xs i := by
  rw [Bool.eq_iff_iff, List.contains_iff_mem, spots, List.mem_filter, List.mem_range]
  exact ⟨fun q => q.2, fun q => ⟨h, q⟩⟩
noncomputable def iN (i : Nat) : PyData := .int i
theorem canLays_N : ∀ l : List Nat, PyData.canLayAll0 (l.map iN) = true
  | [] => by simp [PyData.canLayAll0]
  | x :: xs => by simp only [List.map_cons, PyData.canLayAll0, iN, PyData.canLay0, canLays_N xs, Bool.and_self]
theorem any_N {i : Nat} : ∀ l : List Nat, ((l.map iN).any fun y => PyData.eqv y (.int i)) = l.contains i
  | [] => rfl
  | x :: xs => by
    have : ((x : Int) == (i : Int)) = (i == x) := by rw [Bool.beq_eq_decide_eq, Bool.beq_eq_decide_eq]; exact decide_eq_decide.mpr (by omega)
    simp only [List.map_cons, List.any_cons, any_N xs, List.contains_cons, iN, PyData.eqv, this]
section
variable {c : Cx} {n : Nat}
theorem toDats_N (l : List Nat) : toDat.toDats (l.map nD) = some (l.map iN) := toDats_fm (f := nD) (g := iN) (fun _ => rfl) l
theorem o_inN {i : Nat} {l : List Nat} : Pu2 c n (compareOp .In) (nD i) (.lst (l.map nD)) (dB (l.contains i)) := by
  have := o_inG (c := c) (n := n) (d := .int i) (d2 := .lst (l.map nD)) (xs := l.map iN) (by simp only [toDat, toDats_N, Option.map_some]) (canLays_N l) (by simp [PyData.canLay0]) (by simp [PyData.depth])
  rwa [any_N] at this
theorem canLays_of {l : List PyData} (h : ∀ x ∈ l, x.canLay0 = true) : PyData.canLayAll0 l = true := by
  induction l with
  | nil => simp [PyData.canLayAll0]
  | cons x l ih => simp only [PyData.canLayAll0, h x (List.mem_cons_self ..), ih fun y m => h y (List.mem_cons_of_mem _ m), Bool.and_self]
theorem depths_of {k : Nat} {l : List PyData} (h : ∀ x ∈ l, x.depth ≤ k) : PyData.depthAll l ≤ k := by
  induction l with
  | nil => simp [PyData.depthAll]
  | cons x l ih =>
    simp only [PyData.depthAll]
    exact Nat.max_le.mpr ⟨h x (List.mem_cons_self ..), ih fun y m => h y (List.mem_cons_of_mem _ m)⟩
/-- two lists made alike -/
theorem o_neL {α : Type} {l : List α} {f1 f2 : α → D} {g : α → PyData} (h : ∀ x ∈ l, toDat (f1 x) = some (g x)) (e : ∀ x ∈ l, f2 x = f1 x) (hc : ∀ x ∈ l, (g x).canLay0 = true) (hd : ∀ x ∈ l, (g x).depth ≤ 8) : Pu2 c n (compareOp .NotEq) (.lst (l.map f1)) (.lst (l.map f2)) (dB false) := by
  refine o_neSame (a := .list (l.map g)) ?_ ?_ ?_ ?_
  · simp only [toDat, toDats_fm' l h, Option.map_some]
  · rw [List.map_congr_left e]
  · simp only [PyData.canLay0]
    exact canLays_of fun x m => by
      obtain ⟨y, hy, rfl⟩ := List.mem_map.mp m
      exact hc y hy
  · have : PyData.depthAll (l.map g) ≤ 8 := depths_of fun x m => by
      obtain ⟨y, hy, rfl⟩ := List.mem_map.mp m
      exact hd y hy
    simp only [PyData.depth]; omega
end
section
variable {w : World}
theorem side_ok {du dv da : D} {k : Nat} {xs : List It} {P : Out → Prop} (hk : k < 4) (hx : ∀ x ∈ xs, okI k x = true) (hz : xs.length ≤ 10) :
    Ex (cx w) F_law 20 [none, none, some du, some dv, some (vI (dS (kn k)) (.lst (xs.map iD)) da), none, none, none, none, none, none, none, none, none, none, none, none, none, none, none, none] [] (fB (nth (sB (nth bd 110)) 3))
      (Turn [none, none, some du, some dv, none, none, none, none, none, none, none, none, none, none, none, none, none, none, none, none, none] [] P) := by
  have hi := key_inj k
  have hs : ∀ x ∈ xs, sOk x = true := fun x m => sOk_of hk (hx x m)
  have e0 : (xs.map iD).length = xs.length := List.length_map ..
  have hn : (kn k == ("NULL" : Str)) = false := by
    match k, hk with
    | 0, _ | 1, _ | 2, _ | 3, _ => decide +kernel
  walk_at "m:go"
  walk_at "m:no"
  walk_at "m:as"
  walk_at "m:as"
  have hup := fn_unique_places (w := w) (da := da) hi hk hx (by omega)
  (with_reducible refine' Ex.cons (Ex1.if_f (Ts.cmp (C_unique_places ?q_a1 (Cal.of0 hup ?q_a2) ?q_a3) (nm ?q_a4) (o_neL (g := iN) ?q_a5 ?q_a6 ?q_a7 ?q_a8) ?q_a9) (Ex.nilT ?q_a10)))
  case q_a1 => walk_at "m:evl"
  case q_a2 => decide
  case q_a3 => kernel_rfl
  case q_a4 => rfl
  case q_a5 => intro _ _; rfl
  case q_a6 => intro _ _; rfl
  case q_a7 => intro _ _; simp [iN, PyData.canLay0]
  case q_a8 => intro _ _; simp [iN, PyData.depth]
  case q_a9 => with_unfolding_all rfl
  have hdp := fn_dup (w := w) (da := da) hi hk hx (by omega)
  (with_reducible refine' Ex.cons (Ex1.if_f (Ts.cmp (C_duplicated_flags ?q_b1 (Cal.of0 hdp ?q_b2) ?q_b3) (Ev.compM (xs := List.range xs.length) (di := nD) (y := fun i => dI (if sp xs i then 0 else 1)) (ks := ["spots"]) ?q_c1 ?q_c2 ?q_c3 ?q_c4 ?q_c5 ?q_c6 ?q_c7 ?q_c8) ?q_b4 ?q_b9) (Ex.nilT ?q_b10)))
  case q_b1 => walk_at "m:evl"
  case q_b2 => decide
  case q_b3 => kernel_rfl
  case q_c1 => walk_at "m:ev"
  case q_c2 => rw [e0]; exact iter_rng (by omega)
  case q_c3 => exact .cons 6 rfl rfl .nil
  case q_c4 => exact sl1000 (by simp; omega)
  case q_c6 => kernel_rfl
  case q_c7 => exact .of (by kernel_rfl)
  case q_c8 => intro _ _; rfl
  case q_b9 => with_unfolding_all rfl
  case q_c5 =>
    intro i hm
    have h := List.mem_range.mp hm
    refine' Ev.ifexp (q := sp xs i) (Ts.re (Ts.cmp (nm (by rfl)) (nm (by rfl)) o_inN) (spots_in h)) (fun q => ?_) (fun q => ?_)
    · rw [q]; exact Ev.int
    · rw [q]; exact Ev.int
  case q_b4 =>
    have e : (dups xs).map dI = (List.range xs.length).map fun i => dI (if sp xs i then 0 else 1) := by rw [dups, List.map_map]; rfl
    rw [e]
    exact o_neL (g := fun i => .int (if sp xs i then 0 else 1)) (fun _ _ => rfl) (fun _ _ => rfl) (fun _ _ => by simp [PyData.canLay0]) (fun _ _ => by simp [PyData.depth])
  have hdl := fn_dup_last (w := w) (da := da) hi hk hx (by omega)
  (with_reducible refine' Ex.cons (Ex1.if_f (Ts.cmp (C_duplicated_flags ?q_d1 (Cal.of0 hdl ?q_d2) ?q_d3) (Ev.compM (xs := List.range xs.length) (di := nD) (y := fun i => dI (if (xs.drop (i + 1)).contains (xs.getD i none) then 1 else 0)) (ks := ["items"]) ?q_e1 ?q_e2 ?q_e3 ?q_e4 ?q_e5 ?q_e6 ?q_e7 ?q_e8) ?q_d4 ?q_d9) (Ex.nilT ?q_d10)))
  case q_d1 => walk_at "m:evl"
  case q_d2 => decide
  case q_d3 => kernel_rfl
  case q_e1 => walk_at "m:ev"
  case q_e2 => rw [e0]; exact iter_rng (by omega)
  case q_e3 => exact .cons 5 rfl rfl .nil
  case q_e4 => exact sl1000 (by simp; omega)
  case q_e6 => kernel_rfl
  case q_e7 => exact .of (by kernel_rfl)
  case q_e8 => intro _ _; rfl
  case q_d9 => with_unfolding_all rfl
  case q_e5 =>
    intro i hm
    have h := List.mem_range.mp hm
    refine' Ev.ifexp (q := (xs.drop (i + 1)).contains (xs.getD i none)) (Ts.cmp (d1 := iD (xs.getD i none)) (d2 := .lst ((xs.drop (i + 1)).map iD)) (Ev.sub (nm (by rfl)) (nm (by rfl)) isT_lst getT_list (o_itL (by omega) (by omega) ?_) rfl) (Ev.eq (Ev.slice (nm (by rfl)) (.some (i := ((i + 1 : Nat) : Int)) (Ev.eq (Ev.binop (nm (by rfl)) Ev.int o_addI) ?_)) .none .none isT_lst getT_list (sl_from lsOf_lst (sl1000 (by omega)))) ?_) (o_inI ?_ ?_)) (fun q => ?_) (fun q => ?_)
    · simp [h]
    · exact congrArg dI (by omega)
    · rw [← List.map_drop]
    · exact fun y hy => hs y (List.mem_of_mem_drop hy)
    · rw [getD_eq h]; exact hs _ (List.getElem_mem h)
    · rw [q]; exact Ev.int
    · rw [q]; exact Ev.int
  case q_d4 =>
    have e : (dups xs.reverse).reverse.map dI = (List.range xs.length).map fun i => dI (if (xs.drop (i + 1)).contains (xs.getD i none) then 1 else 0) := by rw [flags_back, List.map_map]; rfl
    rw [e]
    exact o_neL (g := fun i => .int (if (xs.drop (i + 1)).contains (xs.getD i none) then 1 else 0)) (fun _ _ => rfl) (fun _ _ => rfl) (fun _ _ => by simp [PyData.canLay0]) (fun _ _ => by simp [PyData.depth])
  have htb := fn_tabulate (w := w) (da := da) hi hk hx (by omega)
  have hsl := spots_len xs
  (with_reducible refine' Ex.cons (Ex1.if_f (Ts.cmp (Ev.compM (xs := spots xs) (di := fun s => .lst [nD s, nD (xs.count (xs.getD s none))]) (y := fun s => .lst [nD s, nD (xs.count (xs.getD s none))]) (g := []) (ks := []) (C_tabulate_keys ?q_f1 (Cal.of0 htb ?q_f2) ?q_f3) iter_lst ?q_g3 ?q_g4 ?q_g5 ?q_g6 ?q_g7 ?q_g8) (Ev.compM (xs := spots xs) (di := nD) (y := fun s => .lst [nD s, nD (xs.count (xs.getD s none))]) (ks := ["items"]) ?q_h1 iter_lst ?q_h3 ?q_h4 ?q_h5 ?q_h6 ?q_h7 ?q_h8) ?q_f4 ?q_f9) (Ex.nilT ?q_f10)))
  case q_f1 => walk_at "m:evl"
  case q_f2 => decide
  case q_f3 => kernel_rfl
  case q_g3 => exact .nil
  case q_g4 => exact sl1000 (by omega)
  case q_g6 => kernel_rfl
  case q_g7 => exact .of (by kernel_rfl)
  case q_g8 => intro _ _; rfl
  case q_h1 => walk_at "m:ev"
  case q_h3 => exact .cons 5 rfl rfl .nil
  case q_h4 => exact sl1000 (by omega)
  case q_h6 => kernel_rfl
  case q_h7 => exact .of (by kernel_rfl)
  case q_h8 => intro _ _; rfl
  case q_f9 => with_unfolding_all rfl
  case q_g5 =>
    intro s hm
    exact B_list (.cons (nm (by rfl)) .nil) (Cal.b0 (f_listT (by simp))) (by kernel_rfl)
  case q_h5 =>
    intro s hm
    have h := spots_mem hm
    refine' Ev.list (.cons (nm (by rfl)) (.cons (Ev.methC (nm (by rfl)) (.cons (Ev.sub (d := iD (xs.getD s none)) (nm (by rfl)) (nm (by rfl)) isT_lst getT_list (o_itL (by omega) (by omega) ?_) rfl) .nil) kd_lst m_count (Cal.b0 (f_countI hs ?_))) .nil)) (by simp only [List.length_cons, List.length_nil]; decide)
    · simp [h]
    · rw [getD_eq h]; exact hs _ (List.getElem_mem h)
  case q_f4 =>
    exact o_neL (g := fun s => .list [iN s, iN (xs.count (xs.getD s none))]) (fun _ _ => rfl) (fun _ _ => rfl) (fun _ _ => by simp [iN, PyData.canLay0, PyData.canLayAll0]) (fun _ _ => by simp [iN, PyData.depth, PyData.depthAll])
  refine Ex.nil (Turn.nx ?_ rfl)
  walk_at "m:sub"
end
/-- a drawn vector, as the two sides see it -/
structure PlV (w : World) (v : Nat × List It) (k : Nat) (xs : List It) : Prop where
  hp : Fn (cx w) (.ref 603) 7 [vD v] [] (vec k xs) []
  hl : Fn (cx w) (.ref 701) 3 [vD v] [] (.tup [dS (kn k), .lst (xs.map iD)]) []
  hk : k < 4
  hx : ∀ x ∈ xs, okI k x = true
  hz : xs.length ≤ 10
  side : vD v = nullD ∨ ∃ (kk : Nat) (ys : List It) (da : D), vD v = vI (dS (kn kk)) (.lst (ys.map iD)) da ∧ kk < 4 ∧ (∀ x ∈ ys, okI kk x = true) ∧ ys.length ≤ 10
theorem okF_1 {x : It} (h : okF x = true) : okI 1 x = true := by
  rcases oiF h with rfl | rfl | rfl | rfl <;> decide +kernel
theorem lev_ok {x : It} (h : okF x = true) : okI 3 (lev x) = true := by
  rcases oiF h with rfl | rfl | rfl | rfl <;> decide +kernel
theorem drawV_pl (w : World) (r : Rw) : ∃ k xs, PlV w (drawV r).1 k xs := by
  have hk := fmodb (nx r).1 (b := 6) (by decide)
  have hn := fmodb (nx (nx r).2).1 (b := 11) (by decide)
  unfold drawV
  split
  · exact ⟨0, [], fn_plain_null, fn_law_plain_null, by decide, fun _ h => (List.not_mem_nil h).elim, by decide, .inl rfl⟩
  · split
    · have hl := facL_len ((nx (nx r).2).1.fmod 11).toNat (nx (nx r).2).2
      have ho := facL_ok ((nx (nx r).2).1.fmod 11).toNat (nx (nx r).2).2
      generalize facL ((nx (nx r).2).1.fmod 11).toNat (nx (nx r).2).2 = p at *
      refine ⟨3, p.1.map lev, fn_plain_fac ho (by omega), fn_law_plain_fac ho (by omega), by decide, fun x h => ?_, by rw [List.length_map]; omega, .inr ⟨1, p.1, _, rfl, by decide, fun x h => okF_1 (ho x h), by omega⟩⟩
      obtain ⟨y, hy, rfl⟩ := List.mem_map.mp h
      exact lev_ok (ho y hy)
    · rename_i h5 h4
      have hk4 : ((nx r).1.fmod 6).toNat < 4 := by
        simp only [beq_iff_eq] at h4 h5
        omega
      generalize ((nx r).1.fmod 6).toNat = k at *
      have hl := vecL_len k ((nx (nx r).2).1.fmod 11).toNat (nx (nx r).2).2
      have ho := vecL_ok hk4 ((nx (nx r).2).1.fmod 11).toNat (nx (nx r).2).2
      generalize vecL k ((nx (nx r).2).1.fmod 11).toNat (nx (nx r).2).2 = p at *
      have ev : vD (k, p.1) = vec k p.1 := by
        match k, hk4 with
        | 0, _ | 1, _ | 2, _ | 3, _ => rfl
      refine ⟨k, p.1, ?_, ?_, hk4, ho, by omega, .inr ⟨k, p.1, dN, ev, hk4, ho, by omega⟩⟩
      · rw [ev]; exact fn_plain_vec hk4
      · rw [ev]; exact fn_law_plain_vec hk4 (by omega)
noncomputable abbrev ordD : D := .lst [dS "logical", dS "integer", dS "double", dS "character"]
theorem f_order {c : Cx} {n : Nat} {k : Nat} (hk : k < 4) : Fn c (.builtin "list.index") n [ordD, dS (kn k)] [] (dI k) [] := by
  have e : ordD = .lst (([iS "logical", iS "integer", iS "double", iS "character"] : List It).map iD) := rfl
  have h := f_indexI (c := c) (n := n) (x := iS (kn k)) (xs := [iS "logical", iS "integer", iS "double", iS "character"]) (by decide +kernel) (by
    match k, hk with
    | 0, _ | 1, _ | 2, _ | 3, _ => decide +kernel) (by decide)
  have e2 : ([iS "logical", iS "integer", iS "double", iS "character"] : List It).idxOf (iS (kn k)) = k := by
    match k, hk with
    | 0, _ | 1, _ | 2, _ | 3, _ => decide +kernel
  rw [e2] at h
  exact h
theorem mpl_all {L R : List It} : (mpl L R).all Option.isSome = (L.filter fun x => !R.contains x).isEmpty := by
  induction L with
  | nil => rfl
  | cons x L ih =>
    simp only [mpl, List.map_cons, List.all_cons, List.filter_cons] at ih ⊢
    by_cases q : x ∈ R
    · have h1 : R.contains x = true := List.contains_iff_mem.mpr q
      rw [h1, if_pos q, ih]
      simp
    · have h1 : R.contains x = false := by rw [← Bool.not_eq_true]; exact fun z => q (List.contains_iff_mem.mp z)
      rw [h1, if_neg q]
      simp
/-- what is told, what is due -/
noncomputable abbrev fnd (p : Nat × List It) : D := .tup [dS (kn p.1), .lst (p.2.map iD)]
noncomputable def fndP (p : Nat × List It) : PyData := .tuple [.str (kn p.1), .list (p.2.map iP)]
theorem uq_map (xs : List It) : (spots xs).map (fun i => iD (xs.getD i none)) = (uq xs).map iD := by rw [uq, List.map_map]; rfl
theorem uq_ok {k : Nat} {xs : List It} (h : ∀ x ∈ xs, okI k x = true) : ∀ x ∈ uq xs, okI k x = true := fun x m => by
  obtain ⟨i, hi, rfl⟩ := List.mem_map.mp m
  rw [getD_eq (spots_mem hi)]; exact h _ (List.getElem_mem _)
theorem kn_ok {k : Nat} (hk : k < 4) : PyData.strOk (kn k) = true := by
  match k, hk with
  | 0, _ | 1, _ | 2, _ | 3, _ => decide +kernel
section
variable {w : World}
theorem Ev.pickU {f : Fi} {n : Nat} {Γ : Ga} {μ : Mu} {v x : Str} {pv p1 p2 p3 p4 p5 p6 pos : Pos} {scope : Scope} {xs : List It} {i : Nat} (hv : at_ f.ks Γ v = some (.lst (xs.map iD))) (hi : f.ks[i]? = some v) (hg : Γ[i]? = some (some (.lst (xs.map iD)))) (hs : ∀ x ∈ xs, sOk x = true) (hz : xs.length ≤ 100) (hn : 2 ≤ n)
    (hb : (v == ("__debug__" : Str) || v == ("__classdict__" : Str)) = false) (hb2 : (x == ("__debug__" : Str) || x == ("__classdict__" : Str)) = false) (hxv : (x == v) = false) (hk : f.cs.names.lookup ("_law_spots" : Str) = some .globalImplicit)
    (hok : compOkb f scope x [v] = true) (ok2 : (compFi f scope x [v]).Ok) :
    Ev (cx w) f n Γ μ (.ListComp (.Subscript (.Name v p1) (.Name x p2) p3) [⟨.Name x pv, .Call (.Name "_law_spots" p4) [.Name v p5] [] p6, [], 0⟩] scope pos) (.lst ((uq xs).map iD)) μ := by
  rw [← uq_map]
  refine Ev.compM (xs := spots xs) (di := nD) (ks := [v]) (C_law_spots (.cons (nm hv hb) .nil) (Cal.of0 (fn_law_spots hs (by omega)) hn) hk) iter_lst (.cons i hi hg .nil) (sl1000 ?_) (fun s hm => ?_) hok ok2
  · have := spots_len xs; omega
  · have h := spots_mem hm
    have a1 : at_ (compFi f scope x [v]).ks [some (nD s), some (.lst (xs.map iD))] v = some (.lst (xs.map iD)) := by
      show (if x == v then _ else (if v == v then _ else _)) = _
      rw [hxv, beq_self_eq_true]; rfl
    have a2 : at_ (compFi f scope x [v]).ks [some (nD s), some (.lst (xs.map iD))] x = some (nD s) := by
      show (if x == x then _ else _) = _
      rw [beq_self_eq_true]; rfl
    exact Ev.sub (nm a1 hb) (nm a2 hb2) isT_lst getT_list (o_itL (by omega) (by omega) (by simp [h])) rfl
end
section
variable {w : World}
theorem fn_law_core {u v : Nat × List It} {a b : Nat} {xs ys : List It} (U : PlV w u a xs) (V : PlV w v b ys) {μ : Mu} :
    Ex (cx w) F_law 20 [none, none, some (vD u), some (vD v), none, none, none, none, none, none, none, none, none, none, none, none, none, none, none, none, none] [] ((sB (nth bd 110)).drop 3) (fun o => o = .ret (dB true) []) := by
  walk_at "m:go"
  (with_reducible refine' Ex.cons (Ex1.forIn 4 (d0 := .lst [vD u, vD v]) ?q_h1 iter_lst (fun _ => [none, none, some (vD u), some (vD v), none, none, none, none, none, none, none, none, none, none, none, none, none, none, none, none, none]) (fun _ => []) ?q_I0 ?q_J0 ?q_hJ ?q_step ?q_hp ?q_hx ?q_hs))
  case q_hx => rfl
  case q_hs => intro _ _; rfl
  case q_h1 => exact Ev.list (.cons (nm (by rfl)) (.cons (nm (by rfl)) .nil)) (by simp only [List.length_cons, List.length_nil]; decide)
  case q_I0 => exact fun _ _ h => h
  case q_J0 => rfl
  case q_hJ => intro _; rfl
  case q_step =>
    have one : ∀ {v0 : Nat × List It} {k0 : Nat} {zs : List It} (Z : PlV w v0 k0 zs), Ex (cx w) F_law 20 [none, none, some (vD u), some (vD v), some (vD v0), none, none, none, none, none, none, none, none, none, none, none, none, none, none, none, none] [] (fB (nth (sB (nth bd 110)) 3))
        (Turn [none, none, some (vD u), some (vD v), none, none, none, none, none, none, none, none, none, none, none, none, none, none, none, none, none] [] (Then (cx w) F_law 20 ((sB (nth bd 110)).drop 4) fun o => o = .ret (dB true) [])) := fun {v0 k0 zs} Z => by
      rcases Z.side with e | ⟨kk, zz, da, e, hkk, hzz, hz⟩
      · rw [e]
        walk_at "m:go"
        walk_at "m:yes"
        have hsub : Sub [none, none, some (vD u), some (vD v), none, none, none, none, none, none, none, none, none, none, none, none, none, none, none, none, none] [none, none, some (vD u), some (vD v), some nullD, none, none, none, none, none, none, none, none, none, none, none, none, none, none, none, none] := by walk_at "m:sub"
        exact Ex.cons (Ex1.cont ⟨hsub, rfl⟩)
      · rw [e]
        exact side_ok hkk hzz hz
    intro k d hd
    match k, hd with
    | 0, hd =>
      simp at hd; subst hd
      exact one U
    | 1, hd =>
      simp at hd; subst hd
      exact one V
    | k + 2, hd => simp at hd
  show Ex _ _ _ _ _ _ _
  have l1 : a ≤ max a b := Nat.le_max_left a b
  have l2 : b ≤ max a b := Nat.le_max_right a b
  have ha := U.hk
  have hb := V.hk
  have hm4 : max a b < 4 := by omega
  have ux := U.hx
  have vx := V.hx
  have uz := U.hz
  have vz := V.hz
  walk_at "m:as"
  (with_reducible refine' Ex.cons (Ex1.unpack2 (C_law_plain ?q_a1 (Cal.of0 U.hl ?q_a2) ?q_a3) ?q_a4 ?q_a5 ?q_a6 ?q_a7 ?q_a8))
  case q_a1 => walk_at "m:evl"
  case q_a2 => decide
  case q_a3 => kernel_rfl
  case q_a4 => walk_at "m:asg"
  case q_a5 => walk_at "m:asg"
  case q_a7 => rfl
  case q_a8 => intro _; rfl
  show Ex _ _ _ _ _ _ _
  (with_reducible refine' Ex.cons (Ex1.unpack2 (C_law_plain ?q_b1 (Cal.of0 V.hl ?q_b2) ?q_b3) ?q_b4 ?q_b5 ?q_b6 ?q_b7 ?q_b8))
  case q_b1 => walk_at "m:evl"
  case q_b2 => decide
  case q_b3 => kernel_rfl
  case q_b4 => walk_at "m:asg"
  case q_b5 => walk_at "m:asg"
  case q_b7 => rfl
  case q_b8 => intro _; rfl
  show Ex _ _ _ _ _ _ _
  (with_reducible refine' Ex.cons (Ex1.asg (d := dS (kn (max a b))) (Ev.sub (d1 := ordD) (nm ?q_c1) (B_max (.cons (Ev.methC (nm ?q_c2) (.cons (nm ?q_c3) .nil ?q_c4) kd_lst m_index (Cal.b0 (f_order ha)) ?q_c5 ?q_c6 ?q_c7) (.cons (Ev.methC (nm ?q_c8) (.cons (nm ?q_c9) .nil ?q_c10) kd_lst m_index (Cal.b0 (f_order hb)) ?q_c11 ?q_c12 ?q_c13) .nil ?q_c14) ?q_c15) (Cal.b0 f_max) ?q_c16) isT_lst getT_list (o_itL ?q_c17 ?q_c18 ?q_c19) ?q_c20) ?q_c21 ?q_c22 ?q_c23))
  case q_c23 => rfl
  case q_c1 => rfl
  case q_c2 => rfl
  case q_c3 => rfl
  case q_c4 => rfl
  case q_c5 => decide
  case q_c6 => rfl
  case q_c7 => intro _ _; rfl
  case q_c8 => rfl
  case q_c9 => rfl
  case q_c10 => rfl
  case q_c11 => decide
  case q_c12 => rfl
  case q_c13 => intro _ _; rfl
  case q_c14 => rfl
  case q_c15 => rfl
  case q_c16 => kernel_rfl
  case q_c17 => split <;> omega
  case q_c18 => split <;> omega
  case q_c19 =>
    have e : (if (b : Int) > (a : Int) then (b : Int) else (a : Int)) = ((max a b : Nat) : Int) := by split <;> omega
    rw [e, Int.toNat_natCast]
    generalize max a b = m at hm4
    match m, hm4 with
    | 0, _ | 1, _ | 2, _ | 3, _ => rfl
  case q_c20 => rfl
  case q_c21 => walk_at "m:asg"
  show Ex _ _ _ _ _ _ _
  have fmt := fn_match (w := w) key_inj U.hp V.hp ha hb ux vx (by omega) (by omega)
  have fun_ := fn_union (w := w) key_inj U.hp V.hp ha hb ux vx (by omega) (by omega)
  have fin := fn_intersect (w := w) key_inj U.hp V.hp ha hb ux vx (by omega) (by omega)
  have fsd := fn_setdiff (w := w) key_inj U.hp V.hp ha hb ux vx (by omega) (by omega)
  have fss := fn_same_sets (w := w) key_inj U.hp V.hp ha hb ux vx (by omega) (by omega)
  have o1 : ∀ x ∈ xs.map (cv a (max a b)), okI (max a b) x = true := fun x m => by
    obtain ⟨y, hy, rfl⟩ := List.mem_map.mp m; exact cv_ok l1 hm4 (ux y hy)
  have o2 : ∀ x ∈ ys.map (cv b (max a b)), okI (max a b) x = true := fun x m => by
    obtain ⟨y, hy, rfl⟩ := List.mem_map.mp m; exact cv_ok l2 hm4 (vx y hy)
  have z3 : (xs.map (cv a (max a b))).length ≤ 10 := by simpa using uz
  have z4 : (ys.map (cv b (max a b))).length ≤ 10 := by simpa using vz
  have cvL : ∀ i, i < xs.length → (xs.map (cv a (max a b))).getD i none = cv a (max a b) (xs.getD i none) := fun i h => by simp [h]
  have lL : (xs.map (cv a (max a b))).length = xs.length := List.length_map ..
  (with_reducible refine' Ex.cons (Ex1.asgS (Ev.eq (Ev.compM (xs := xs) (di := iD) (y := fun x => iD (cv a (max a b) x)) (ks := ["left", "kind"]) (nm ?q_d1) iter_lst ?q_d3 ?q_d4 ?q_d5 ?q_d6 ?q_d7 ?q_d8) ?q_d9) ?q_d10 ?q_d11 ?q_d12))
  case q_d1 => rfl
  case q_d3 => exact .cons 8 rfl rfl (.cons 12 rfl rfl .nil)
  case q_d4 => exact sl1000 (by omega)
  case q_d6 => kernel_rfl
  case q_d7 => exact .of (by kernel_rfl)
  case q_d8 => intro _ _; rfl
  case q_d5 =>
    intro x hx
    exact C_law_as (.cons (nm (by rfl)) (.cons (nm (by rfl)) (.cons (nm (by rfl)) .nil))) (Cal.of0 (fn_law_as l1 hm4 (ux x hx))) (by kernel_rfl)
  case q_d9 => exact (show D.lst _ = D.lst ((xs.map (cv a (max a b))).map iD) by rw [List.map_map]; rfl)
  case q_d10 => walk_at "m:asg"
  case q_d12 => walk_at "m:swap"
  show Ex _ _ _ _ _ _ _
  (with_reducible refine' Ex.cons (Ex1.asgS (Ev.eq (Ev.compM (xs := ys) (di := iD) (y := fun x => iD (cv b (max a b) x)) (ks := ["right", "kind"]) (nm ?q_e1) iter_lst ?q_e3 ?q_e4 ?q_e5 ?q_e6 ?q_e7 ?q_e8) ?q_e9) ?q_e10 ?q_e11 ?q_e12))
  case q_e1 => rfl
  case q_e3 => exact .cons 10 rfl rfl (.cons 12 rfl rfl .nil)
  case q_e4 => exact sl1000 (by omega)
  case q_e6 => kernel_rfl
  case q_e7 => exact .of (by kernel_rfl)
  case q_e8 => intro _ _; rfl
  case q_e5 =>
    intro x hx
    exact C_law_as (.cons (nm (by rfl)) (.cons (nm (by rfl)) (.cons (nm (by rfl)) .nil))) (Cal.of0 (fn_law_as l2 hm4 (vx x hx))) (by kernel_rfl)
  case q_e9 => exact (show D.lst _ = D.lst ((ys.map (cv b (max a b))).map iD) by rw [List.map_map]; rfl)
  case q_e10 => walk_at "m:asg"
  case q_e12 => walk_at "m:swap"
  show Ex _ _ _ _ _ _ _
  generalize hL : xs.map (cv a (max a b)) = L at *
  generalize ys.map (cv b (max a b)) = R at *
  have sL : ∀ x ∈ L, sOk x = true := fun x m => sOk_of hm4 (o1 x m)
  have sR : ∀ x ∈ R, sOk x = true := fun x m => sOk_of hm4 (o2 x m)
  have sX : ∀ x ∈ xs, sOk x = true := fun x m => sOk_of ha (ux x m)
  (with_reducible refine' Ex.cons (Ex1.if_f (Ts.cmp (C_match_places ?q_f1 (Cal.of0 fmt ?q_f2) ?q_f3) (Ev.compM (xs := L) (di := iD) (y := fun x => oD (if x ∈ R then some (R.idxOf x) else none)) (ks := ["second"]) (nm ?q_g1) iter_lst ?q_g3 ?q_g4 ?q_g5 ?q_g6 ?q_g7 ?q_g8) ?q_f4 ?q_f5) (Ex.nilT ?q_f6)))
  case q_f1 => walk_at "m:evl"
  case q_f2 => decide
  case q_f3 => kernel_rfl
  case q_f5 => with_unfolding_all rfl
  case q_g1 => rfl
  case q_g3 => exact .cons 14 rfl rfl .nil
  case q_g4 => exact sl1000 (by omega)
  case q_g6 => kernel_rfl
  case q_g7 => exact .of (by kernel_rfl)
  case q_g8 => intro _ _; rfl
  case q_g5 =>
    intro x hx
    refine' Ev.ifexp (q := R.contains x) (Ts.cmp (nm (by rfl)) (nm (by rfl)) (o_inI sR (sL x hx))) (fun q => ?_) (fun q => ?_)
    · have q := List.contains_iff_mem.mp q
      rw [if_pos q]
      exact Ev.methC (nm (by rfl)) (.cons (nm (by rfl)) .nil) kd_lst m_index (Cal.b0 (f_indexI sR q (by omega)))
    · have q' : x ∉ R := fun z => by rw [List.contains_iff_mem.mpr z] at q; cases q
      rw [if_neg q']
      exact Ev.none
  case q_f4 =>
    rw [mpl, List.map_map]
    exact o_neL (g := fun x => oP (if x ∈ R then some (R.idxOf x) else none)) (fun x _ => by show toDat (oD (if x ∈ R then some (R.idxOf x) else none)) = _; split <;> rfl) (fun _ _ => rfl) (fun x _ => by split <;> simp [oP, PyData.canLay0]) (fun x _ => by split <;> simp [oP, PyData.depth])
  (with_reducible refine' Ex.cons (Ex1.asg (d := .lst ((L ++ R).map iD)) (Ev.eq (Ev.binop (nm ?q_h2) (nm ?q_h3) (o_addLT ?q_h4 ?q_h5)) ?q_h6) ?q_h7 ?q_h8 ?q_h9))
  case q_h9 => rfl
  case q_h2 => rfl
  case q_h3 => rfl
  case q_h4 => rw [List.length_map]; omega
  case q_h5 => rw [List.length_map]; omega
  case q_h6 => rw [List.map_append]
  case q_h7 => walk_at "m:asg"
  show Ex _ _ _ _ _ _ _
  (with_reducible refine' Ex.cons (Ex1.asg (d := .lst [vec (max a b) (uq (L ++ R)), vec (max a b) (uq (L.filter fun x => decide (x ∈ R))), vec a (uq (xs.filter fun x => decide (cv a (max a b) x ∉ R)))]) (Ev.list (.cons (C_union_of ?q_i1 (Cal.of0 fun_ ?q_i2) ?q_i3) (.cons (C_intersect_of ?q_i4 (Cal.of0 fin ?q_i5) ?q_i6) (.cons (C_setdiff_of ?q_i7 (Cal.of0 fsd ?q_i8) ?q_i9) .nil ?q_i10) ?q_i11) ?q_i12) ?q_i13) ?q_i14 ?q_i15 ?q_i16))
  case q_i16 => rfl
  case q_i1 => walk_at "m:evl"
  case q_i2 => decide
  case q_i3 => kernel_rfl
  case q_i4 => walk_at "m:evl"
  case q_i5 => decide
  case q_i6 => kernel_rfl
  case q_i7 => walk_at "m:evl"
  case q_i8 => decide
  case q_i9 => kernel_rfl
  case q_i10 => rfl
  case q_i11 => rfl
  case q_i12 => rfl
  case q_i13 => walk_at "m:disp"
  case q_i14 => walk_at "m:asg"
  show Ex _ _ _ _ _ _ _
  have sJ : ∀ x ∈ L ++ R, sOk x = true := fun x q => (List.mem_append.mp q).elim (sL x) (sR x)
  have zJ : (L ++ R).length ≤ 100 := by rw [List.length_append]; omega
  have zM : (L.filter fun x => decide (x ∈ R)).length ≤ 100 := Nat.le_trans (List.length_filter_le _ _) (by omega)
  have zA : (xs.filter fun x => decide (cv a (max a b) x ∉ R)).length ≤ 100 := Nat.le_trans (List.length_filter_le _ _) (by omega)
  have sM : ∀ x ∈ L.filter fun x => decide (x ∈ R), sOk x = true := fun x q => sL x (List.mem_filter.mp q).1
  have sA : ∀ x ∈ xs.filter fun x => decide (cv a (max a b) x ∉ R), sOk x = true := fun x q => sX x (List.mem_filter.mp q).1
  (with_reducible refine' Ex.cons (Ex1.asgN (EvN.list (ds := [fnd (max a b, uq (L ++ R))]) (.cons (Ev.tuple (.cons (nm ?q_j1) (.cons (Ev.pickU (i := 15) ?q_j2 ?q_j3 ?q_j4 sJ zJ ?q_j5 ?q_j6 ?q_j7 ?q_j8 ?q_j9 ?q_j10 ?q_j11) .nil ?q_j12) ?q_j13) ?q_j14) .nil ?q_j15) ?q_j16) ?q_j17 ?q_j18 ?q_j19 ?q_j20))
  case q_j20 => rfl
  case q_j19 => decide
  case q_j1 => rfl
  case q_j2 => rfl
  case q_j3 => rfl
  case q_j4 => rfl
  case q_j5 => decide
  case q_j6 => decide
  case q_j7 => decide
  case q_j8 => decide
  case q_j9 => kernel_rfl
  case q_j10 => kernel_rfl
  case q_j11 => exact .of (by kernel_rfl)
  case q_j12 => rfl
  case q_j13 => rfl
  case q_j14 => walk_at "m:disp"
  case q_j15 => rfl
  case q_j16 => walk_at "m:disp"
  case q_j17 => intro z; walk_at "m:asg"
  intro z
  show Ex _ _ _ _ [(z, .lst [fnd (max a b, uq (L ++ R))])] _ _
  (with_reducible refine' Ex.cons (Ex1.asgS (Ev.compF (xs := L) (di := iD) (y := iD) (p := fun x => decide (x ∈ R)) (ks := ["second"]) (nm ?q_k1) iter_lst ?q_k2 ?q_k3 ?q_k4 ?q_k5 ?q_k6 ?q_k7 ?q_k8) ?q_k9 ?q_k10 ?q_k11))
  case q_k1 => rfl
  case q_k2 => exact .cons 14 rfl rfl .nil
  case q_k3 => exact sl1000 (by omega)
  case q_k4 =>
    intro x hx
    refine .one (Ts.re (Ts.cmp (nm (by rfl)) (nm (by rfl)) (o_inI sR (sL x hx))) ?_)
    rw [Bool.eq_iff_iff, List.contains_iff_mem, decide_eq_true_iff]
  case q_k5 => intro x _ _; exact nm (by rfl)
  case q_k6 => kernel_rfl
  case q_k7 => exact .of (by kernel_rfl)
  case q_k8 => intro _ _; rfl
  case q_k9 => walk_at "m:asg"
  case q_k11 => walk_at "m:swap"
  show Ex _ _ _ _ _ _ _
  have ap1 := f_append (c := cx w) (n := 20) (a := z) (l := [fnd (max a b, uq (L ++ R))]) (d := fnd (max a b, uq (L.filter fun x => decide (x ∈ R)))) (by simp only [List.length_cons, List.length_nil]; decide)
  (with_reducible refine' Ex.cons (Ex1.expr (Ev.methC (d0 := dA z) (nm ?q_l1) (.cons (Ev.tuple (.cons (nm ?q_l2) (.cons (Ev.pickU (i := 18) ?q_l3 ?q_l4 ?q_l5 sM zM ?q_l6 ?q_l7 ?q_l8 ?q_l9 ?q_l10 ?q_l11 ?q_l12) .nil ?q_l13) ?q_l14) ?q_l15) .nil ?q_l16) (kd_muL (l := [fnd (max a b, uq (L ++ R))]) ?q_l17) m_append (Cal.b1 [] ap1) ?q_l18 ?q_l19 ?q_l20) ?q_l21 ?q_l22))
  case q_l22 => rfl
  case q_l1 => rfl
  case q_l2 => rfl
  case q_l3 => rfl
  case q_l4 => rfl
  case q_l5 => rfl
  case q_l6 => decide
  case q_l7 => decide
  case q_l8 => decide
  case q_l9 => decide
  case q_l10 => kernel_rfl
  case q_l11 => kernel_rfl
  case q_l12 => exact .of (by kernel_rfl)
  case q_l13 => rfl
  case q_l14 => rfl
  case q_l15 => walk_at "m:disp"
  case q_l16 => rfl
  case q_l17 => exact List.mem_cons_self ..
  case q_l18 => decide
  case q_l19 => rfl
  case q_l20 => intro _ _; rfl
  show Ex _ _ _ _ [(z, .lst [fnd (max a b, uq (L ++ R)), fnd (max a b, uq (L.filter fun x => decide (x ∈ R)))])] _ _
  have e0 : (xs.map iD).length = xs.length := List.length_map ..
  have zX : (xs.map iD).length ≤ 1000 := by omega
  (with_reducible refine' Ex.cons (Ex1.asgS (d := .lst ((xs.filter fun x => decide (cv a (max a b) x ∉ R)).map iD)) (Ev.eq (Ev.compF (xs := List.range xs.length) (di := nD) (y := fun i => iD (xs.getD i none)) (p := fun i => decide (cv a (max a b) (xs.getD i none) ∉ R)) (ks := ["one", "first", "second"]) ?q_n1 ?q_n2 ?q_n3 ?q_n4 ?q_n5 ?q_n6 ?q_n7 ?q_n8 ?q_n9) ?q_n10) ?q_n11 ?q_n12 ?q_n13))
  case q_n1 => walk_at "m:ev"
  case q_n2 => rw [e0]; exact iter_rng (by omega)
  case q_n3 => exact .cons 9 rfl rfl (.cons 13 rfl rfl (.cons 14 rfl rfl .nil))
  case q_n4 => exact sl1000 (by simp; omega)
  case q_n7 => kernel_rfl
  case q_n8 => exact .of (by kernel_rfl)
  case q_n9 => intro _ _; rfl
  case q_n5 =>
    intro i hq
    have h := List.mem_range.mp hq
    have hc := cvL i h
    have hi : i < L.length := by omega
    refine .one (Ts.re (Ts.cmp (d1 := iD (L.getD i none)) (Ev.sub (nm (by rfl)) (nm (by rfl)) isT_lst getT_list (o_itL (by omega) (by omega) ?_) rfl) (nm (by rfl)) (o_ninI sR ?_)) ?_)
    · simp [hi]
    · rw [getD_eq hi]; exact sL _ (List.getElem_mem hi)
    · rw [hc, Bool.eq_iff_iff, Bool.not_eq_true', ← Bool.not_eq_true, List.contains_iff_mem, decide_eq_true_iff]
  case q_n6 =>
    intro i hq _
    have h := List.mem_range.mp hq
    refine' Ev.sub (nm (by rfl)) (nm (by rfl)) isT_lst getT_list (o_itL (by omega) (by omega) ?_) rfl
    simp [h]
  case q_n10 =>
    have := pick (xs := xs) (fun x => decide (cv a (max a b) x ∉ R))
    rw [← this, List.map_map]; rfl
  case q_n11 => walk_at "m:asg"
  case q_n13 => walk_at "m:swap"
  show Ex _ _ _ _ _ _ _
  have ap2 := f_append (c := cx w) (n := 20) (a := z) (l := [fnd (max a b, uq (L ++ R)), fnd (max a b, uq (L.filter fun x => decide (x ∈ R)))]) (d := fnd (a, uq (xs.filter fun x => decide (cv a (max a b) x ∉ R)))) (by simp only [List.length_cons, List.length_nil]; decide)
  (with_reducible refine' Ex.cons (Ex1.expr (Ev.methC (d0 := dA z) (nm ?q_m1) (.cons (Ev.tuple (.cons (nm ?q_m2) (.cons (Ev.pickU (i := 19) ?q_m3 ?q_m4 ?q_m5 sA zA ?q_m6 ?q_m7 ?q_m8 ?q_m9 ?q_m10 ?q_m11 ?q_m12) .nil ?q_m13) ?q_m14) ?q_m15) .nil ?q_m16) (kd_muL (l := [fnd (max a b, uq (L ++ R)), fnd (max a b, uq (L.filter fun x => decide (x ∈ R)))]) ?q_m17) m_append (Cal.b1 [] ap2) ?q_m18 ?q_m19 ?q_m20) ?q_m21 ?q_m22))
  case q_m22 => rfl
  case q_m1 => rfl
  case q_m2 => rfl
  case q_m3 => rfl
  case q_m4 => rfl
  case q_m5 => rfl
  case q_m6 => decide
  case q_m7 => decide
  case q_m8 => decide
  case q_m9 => decide
  case q_m10 => kernel_rfl
  case q_m11 => kernel_rfl
  case q_m12 => exact .of (by kernel_rfl)
  case q_m13 => rfl
  case q_m14 => rfl
  case q_m15 => walk_at "m:disp"
  case q_m16 => rfl
  case q_m17 => exact List.mem_cons_self ..
  case q_m18 => decide
  case q_m19 => rfl
  case q_m20 => intro _ _; rfl
  show Ex _ _ _ _ [(z, .lst [fnd (max a b, uq (L ++ R)), fnd (max a b, uq (L.filter fun x => decide (x ∈ R))), fnd (a, uq (xs.filter fun x => decide (cv a (max a b) x ∉ R)))])] _ _
  refine Ex.frz (d0 := dN) 17 ?_ rfl frz_lst
  have okm : ∀ p ∈ [(max a b, uq (L ++ R)), (max a b, uq (L.filter fun x => decide (x ∈ R))), (a, uq (xs.filter fun x => decide (cv a (max a b) x ∉ R)))], p.1 < 4 ∧ ∀ x ∈ p.2, okI p.1 x = true := by
    intro p hp
    rcases List.mem_cons.mp hp with rfl | hp
    · exact ⟨hm4, uq_ok fun x q => (List.mem_append.mp q).elim (o1 x) (o2 x)⟩
    · rcases List.mem_cons.mp hp with rfl | hp
      · exact ⟨hm4, uq_ok fun x q => o1 x (List.mem_filter.mp q).1⟩
      · rw [List.mem_singleton.mp hp]
        exact ⟨ha, uq_ok fun x q => ux x (List.mem_filter.mp q).1⟩
  have hneq : Pu2 (cx w) 20 (compareOp .NotEq) (.lst ([(max a b, uq (L ++ R)), (max a b, uq (L.filter fun x => decide (x ∈ R))), (a, uq (xs.filter fun x => decide (cv a (max a b) x ∉ R)))].map fnd)) (.lst [fnd (max a b, uq (L ++ R)), fnd (max a b, uq (L.filter fun x => decide (x ∈ R))), fnd (a, uq (xs.filter fun x => decide (cv a (max a b) x ∉ R)))]) (dB false) := by
    refine o_neL (f2 := fnd) (g := fndP) (fun p _ => ?_) (fun _ _ => rfl) (fun p hp => ?_) (fun p _ => ?_)
    · show toDat (.tup [dS (kn p.1), .lst (p.2.map iD)]) = _
      simp only [toDat, toDat.toDats, toDats_iD, Option.map_some, fndP]
    · obtain ⟨q1, q2⟩ := okm p hp
      simp only [fndP, PyData.canLay0, PyData.canLayAll0, kn_ok q1, canLays_iP fun x m => sOk_of q1 (q2 x m), Bool.and_self]
    · have := depths_I p.2
      simp only [fndP, PyData.depth, PyData.depthAll]
      omega
  (with_reducible refine' Ex.cons (Ex1.if_f (Ts.cmp (Ev.compM (xs := [(max a b, uq (L ++ R)), (max a b, uq (L.filter fun x => decide (x ∈ R))), (a, uq (xs.filter fun x => decide (cv a (max a b) x ∉ R)))]) (di := fun p => vec p.1 p.2) (y := fnd) (g := []) (ks := []) (nm ?q_o1) iter_lst ?q_o3 ?q_o4 ?q_o5 ?q_o6 ?q_o7 ?q_o8) (nm ?q_o9) hneq ?q_o10) (Ex.nilT ?q_o11)))
  case q_o1 => rfl
  case q_o9 => rfl
  case q_o10 => with_unfolding_all rfl
  case q_o3 => exact .nil
  case q_o4 => walk_at "m:disp"
  case q_o6 => kernel_rfl
  case q_o7 => exact .of (by kernel_rfl)
  case q_o8 => intro _ _; rfl
  case q_o5 =>
    intro p hp
    refine' Ev.tuple (.cons ?_ (.cons ?_ .nil)) (by simp only [List.length_cons, List.length_nil]; decide)
    · walk_at "m:ev"
    · walk_at "m:ev"
  (with_reducible refine' Ex.cons (Ex1.asg (d := dB ((L.filter fun x => !R.contains x).isEmpty && (R.filter fun x => !L.contains x).isEmpty)) (Ev.boolop (Bo.and (Ev.cmp (Ev.compF (xs := L) (di := iD) (y := iD) (p := fun x => !R.contains x) (ks := ["second"]) (nm ?q_p1) iter_lst ?q_p2 ?q_p3 ?q_p4 ?q_p5 ?q_p6 ?q_p7 ?q_p8) (Ev.list .nil ?q_p9) (o_eqNilI ?q_p10) ?q_p11) ?q_p12)) ?q_p13 ?q_p14 ?q_p15))
  case q_p15 => rfl
  case q_p1 => rfl
  case q_p2 => exact .cons 14 rfl rfl .nil
  case q_p3 => exact sl1000 (by omega)
  case q_p4 =>
    intro x hx
    exact .one (Ts.cmp (nm (by rfl)) (nm (by rfl)) (o_ninI sR (sL x hx)))
  case q_p5 => intro x _ _; exact nm (by rfl)
  case q_p6 => kernel_rfl
  case q_p7 => exact .of (by kernel_rfl)
  case q_p8 => intro _ _; rfl
  case q_p9 => decide
  case q_p10 => exact fun x q => sL x (List.mem_filter.mp q).1
  case q_p11 => with_unfolding_all rfl
  case q_p12 =>
    intro _
    refine Bo.one (Ev.cmp (Ev.compF (xs := R) (di := iD) (y := iD) (p := fun x => !L.contains x) (ks := ["first"]) (nm (by rfl)) iter_lst (.cons 13 rfl rfl .nil) (sl1000 (by omega)) (fun x hx => .one (Ts.cmp (nm (by rfl)) (nm (by rfl)) (o_ninI sL (sR x hx)))) (fun x _ _ => nm (by rfl))) (Ev.list .nil (by decide)) (o_eqNilI fun x q => sR x (List.mem_filter.mp q).1))
  case q_p13 => walk_at "m:asg"
  show Ex _ _ _ _ _ _ _
  rw [mpl_all, mpl_all] at fss
  have hfin : Pu2 (cx w) 20 (compareOp .Eq) (dB ((L.filter fun x => !R.contains x).isEmpty && (R.filter fun x => !L.contains x).isEmpty)) (dB ((L.filter fun x => !R.contains x).isEmpty && (R.filter fun x => !L.contains x).isEmpty)) (dB true) := o_eqSame rfl rfl (by simp [PyData.canLay0]) (by simp [PyData.depth])
  (with_reducible refine' Ex.cons (Ex1.ret (Ev.cmp (C_same_sets ?q_q1 (Cal.of0 fss ?q_q2) ?q_q3) (nm ?q_q4) hfin ?q_q5) ?q_q6))
  case q_q1 => walk_at "m:evl"
  case q_q2 => decide
  case q_q3 => kernel_rfl
  case q_q4 => rfl
  case q_q5 => with_unfolding_all rfl
  case q_q6 => exact rfl
end
section
variable {w : World}
theorem fn_law {xs : List Int} (hz : xs.length ≤ 63) : Fn (cx w) (.ref 711) 21 [dL (xs.map .int)] [] (dB true) [] := by
  refine in_law rfl ?_
  walk_at "m:go"
  (with_reducible refine' Ex.cons (Ex1.asgN (EvN.cg g_law_row (.cons (nm ?q_a1) .nil ?q_a2) (fn_law_row hz) ?q_a3 ?q_a4 ?q_a5) ?q_a6 ?q_a7 ?q_a8 ?q_a9))
  case q_a9 => rfl
  case q_a8 => decide
  case q_a1 => rfl
  case q_a2 => rfl
  case q_a3 => decide
  case q_a4 => kernel_rfl
  case q_a5 => decide
  case q_a6 => intro a; walk_at "m:asg"
  intro a
  show Ex _ _ _ _ [(a, rM (rowOf xs))] _ _
  generalize rowOf xs = r
  walk_at "m:as"
  walk_at "m:as"
  obtain ⟨k1, x1, P1⟩ := drawV_pl w r
  obtain ⟨k2, x2, P2⟩ := drawV_pl w (drawV r).2
  refine Ex.drop ?_
  refine Ex.mono (Ex.thin [none, none, some (vD (drawV r).1), some (vD (drawV (drawV r).2).1), none, none, none, none, none, none, none, none, none, none, none, none, none, none, none, none, none] (fn_law_core P1 P2 (μ := [])) ?_) fun o h => .inl h
  walk_at "m:sub"
end
end Mine
namespace Mine
theorem le_hid0 (h : Heap) : Le h (hid h (addrs ([] : Mu) ++ [])) := fun b o e => hid_get.mpr ⟨e, List.not_mem_nil⟩
theorem room0 : Room callerA 21 := ⟨rfl, by decide, by decide⟩
theorem good0 {w : World} {s₀ s₁ : Shared} {xs : List Int} {h' : Heap} {tk : Tok} (l : Le s₁.heap h') (hg : s₁.gens = #[]) :
    GoodWG row0.claim (classAt s₀.heap) (ExcName.means s₀.heap) [ofPy (.list (xs.map .int))] s₁ (.ok (.ret (.bool true))) { s₁ with heap := h', toks := tk } := by
  refine GoodW.toG ⟨.inl ⟨_, .bool true, [], rfl, fun _ => rfl, .bool true, ?_, fun _ => ⟨List.nodup_nil, fun a h => (List.not_mem_nil h).elim⟩⟩, l, rfl, hg⟩
  wrow_post
theorem call0 : WalkO qv loose (XL qv []) (Hook.says hook) row0.toRowW lawD [] fun f vs => PySem.call f vs := by
  intro w s₀ s₁ mg mb G Y fa o pm cd doc dV kV ho hd hcd hD hmg hg args vals as hpre hlay hrd hwl hlo
  have KX : (K0 w.params).In s₁.heap := kIn_of Y
  have e : fa = 711 := by
    have h1 := mg_of KX G.T.g (g_law (P := w.params)).1
    have h2 : some (Value.ref fa) = some (Value.ref 711) := hmg.symm.trans h1
    simpa using h2
  subst e
  have WD : Wd (cx w) s₁.heap := ⟨KX, ⟨mg, G.T.g⟩, ⟨mb, G.T.b, G.T.builtins⟩, G.T.nolimit⟩
  wrow_args hpre hlay hrd hwl hlo
  rename_i ns hs0 hl0 hL1 hr1 hl2 w4 w3 a vs w0 hL0 ra0 w1 r0 hI0 hr0 hlen hT
  have hz : ns.length ≤ 63 := by omega
  refine (fn_law (w := w) hz).run callerA [] s₁ [.ref a] _ _ room0 (fun a h => (List.not_mem_nil h).elim) List.nodup_nil (fun a h => (List.not_mem_nil h).elim) (WD.keeps (le_hid0 _)) (fun p h => (List.not_mem_nil h).elim) (.cons (.dat (Reads.keeps (le_hid0 _) r0)) .nil) fun v h' tk l mu rr => ?_
  obtain rfl := rep_bool rr
  exact good0 (w := w) l.le hg
end Mine
theorem PySem.Challenge.cw_nz0511_01_holds : PySem.Challenge.rw_nz0511_01.Holds :=
  Mine.holds0 Mine.call0
