import PyProof.Rows.All
import Wide.All
import OpenK.AllK
import Wide.FinOn
import Lean
import PySem.Challenge.RW_pf0240_01
set_option Elab.async false
set_option maxRecDepth 100000
set_option linter.unusedVariables false
set_option linter.unusedSimpArgs false
namespace Mine
open PySem PySem.W PySem.Calls PyProof.Rows
/- our own head: the state behind the top, written out; the bodies are taken from the given program by their places -/
noncomputable abbrev sv (s : String) (t : Nat) : Value := .str (Str.ofString s) t
noncomputable abbrev de (P : Params) (s : String) (t : Nat) (v : Value) : DictEntry := ⟨PyData.keyHash P (Str.ofString s), .str (Str.ofString s) t, v⟩
noncomputable def stA (i : Nat) : Stmt := PySem.Challenge.pw_pf0240_01.main.body.getD i default
noncomputable def fnA {st : Stmt} {n : Str} {a : Arguments} {b : List Stmt} {d : List Expr} {r : Option Expr} {t : List TypeParam} {s : Scope} {ts : Option Scope} {bd : Str} {p : Pos} (_h : st = .FunctionDef n a b d r t s ts bd p) (f : Arguments → List Stmt → Scope → Obj) : Obj := f a b s
noncomputable def mtA {st : Stmt} {cn : Str} {bs : List Expr} {kw : List Keyword} {body : List Stmt} {dl : List Expr} {tp : List TypeParam} {sc : Scope} {tsc : Option Scope} {bnd : Str} {sa : List Str} {pos : Pos} (_h : st = .ClassDef cn bs kw body dl tp sc tsc bnd sa pos) (j : Nat)
  {n : Str} {a : Arguments} {b : List Stmt} {d : List Expr} {r : Option Expr} {t : List TypeParam} {s : Scope} {ts : Option Scope} {bd : Str} {p : Pos} (_h' : body.getD j st = .FunctionDef n a b d r t s ts bd p) (f : Arguments → List Stmt → Scope → Obj) : Obj := f a b s
noncomputable def o3 (P : Params) : Obj := { cls := .type "dict", data := .dict #[de P "__name__" 165 (sv "law_pf0240_01" 1283), de P "__doc__" 166 (.none), de P "__package__" 167 (.none), de P "__loader__" 168 (.builtin "__main__.__loader__#opaque"), de P "__spec__" 169 (.none), de P "__annotations__" 170 (.ref 6), de P "__builtins__" 171 (.ref 4), de P "__file__" 173 (sv "/claim/cut.py" 172), de P "__cached__" 174 (.none), de P "_wall" 193 (.ref 21), de P "Grid" 245 (.ref 50), de P "copied" 257 (.ref 61), de P "zigzag_places" 272 (.ref 68), de P "ORDER_8" 865 (.ref 286), de P "order" 872 (.ref 293), de P "ranks" 882 (.ref 300), de P "UNKNOWN" 887 (.int (-1) 886), de P "PATTERNS" 959 (.ref 311), de P "known_bits" 971 (.ref 318), de P "guessed_ranks" 985 (.ref 325), de P "is_worth" 994 (.ref 332), de P "guessed" 1004 (.ref 339), de P "weighed" 1010 (.ref 344), de P "smoothed_row" 1031 (.ref 351), de P "kept_in" 1039 (.ref 358), de P "nine_of" 1054 (.ref 365), de P "smooth_component" 1073 (.ref 372), de P "smoothed_grid" 1086 (.ref 379), de P "parts" 1096 (.ref 386), de P "Component" 1131 (.ref 403), de P "Frame" 1225 (.ref 469), de P "Scan" 1282 (.ref 504), de P "_law_keg" 1293 (.ref 515), de P "_law_tap" 1302 (.ref 522), de P "_law_ranks" 1308 (.ref 527), de P "_law_rules" 1319 (.ref 534), de P "_law_lows" 1331 (.ref 541), de P "_law_due_row" 1337 (.ref 546), de P "_law_is_worth" 1343 (.ref 551), de P "_law_drawn" 1349 (.ref 556), de P "_law_seen" 1355 (.ref 561), de P "_law_right" 1361 (.ref 566), de P "law" 1367 (.ref 571)] 43 }
noncomputable def o15 (P : Params) : Obj := { cls := .type "tuple", data := .seq #[] }
noncomputable def o17 (P : Params) : Obj := { cls := .type "tuple", data := .seq #[sv "k" 190] }
noncomputable def o18 (P : Params) : Obj := { cls := .type "tuple", data := .seq #[] }
noncomputable def o19 (P : Params) : Obj := fnA (st := stA 0) rfl fun a b s => { cls := .none, data := .func { name := Str.ofString "_wall", qualname := Str.ofString "_wall", params := a, body := .stmts b, scope := s, globals := 0, closure := [], defaults := .none, kwdefaults := .none } }
noncomputable def o20 (P : Params) : Obj := { cls := .type "code", data := .fields #[sv "_wall" 187, sv "_wall" 188, sv "/claim/cut.py" 189, .int 1 0, .int 1 0, .int 0 0, .int 0 0, .int 3 0, .ref 15, .bool true, .int 181 0, .ref 16, .none, .ref 17, .ref 18, .ref 19, .int 191 0, .int 1 0, sv "/claim/cut.py" 192] }
noncomputable def o21 (P : Params) : Obj := fnA (st := stA 0) rfl fun a b s => { cls := .type "function", data := .func { name := Str.ofString "_wall", qualname := Str.ofString "_wall", params := a, body := .stmts b, scope := s, globals := 3, closure := [], defaults := .none, kwdefaults := .none, pyModule := sv "__main__" 164, code := .ref 20 } }
noncomputable def o29 (P : Params) : Obj := { cls := .type "tuple", data := .seq #[] }
noncomputable def o31 (P : Params) : Obj := mtA (st := stA 2) rfl 0 rfl fun a b s => { cls := .none, data := .func { name := Str.ofString "__init__", qualname := Str.ofString "Grid.__init__", params := a, body := .stmts b, scope := s, globals := 0, closure := [], defaults := .none, kwdefaults := .none } }
noncomputable def o32 (P : Params) : Obj := { cls := .type "code", data := .fields #[sv "__init__" 208, sv "Grid.__init__" 209, sv "/claim/cut.py" 210, .int 7 0, .int 2 0, .int 0 0, .int 0 0, .int 3 0, .ref 29, .bool true, .int 181 0, .ref 30, .none, .none, .none, .ref 31, .int 211 0, .int 7 0, sv "/claim/cut.py" 212] }
noncomputable def o33 (P : Params) : Obj := mtA (st := stA 2) rfl 0 rfl fun a b s => { cls := .type "function", data := .func { name := Str.ofString "__init__", qualname := Str.ofString "Grid.__init__", params := a, body := .stmts b, scope := s, globals := 3, closure := [], defaults := .none, kwdefaults := .none, pyModule := sv "pixelpress.grid" 194, code := .ref 32 } }
noncomputable def o34 (P : Params) : Obj := { cls := .type "tuple", data := .seq #[] }
noncomputable def o36 (P : Params) : Obj := { cls := .type "tuple", data := .seq #[sv "self" 217, sv "place" 218, sv "x" 219, sv "y" 220, sv "row" 221] }
noncomputable def o37 (P : Params) : Obj := { cls := .type "tuple", data := .seq #[] }
noncomputable def o38 (P : Params) : Obj := mtA (st := stA 2) rfl 1 rfl fun a b s => { cls := .none, data := .func { name := Str.ofString "get", qualname := Str.ofString "Grid.get", params := a, body := .stmts b, scope := s, globals := 0, closure := [], defaults := .none, kwdefaults := .none } }
noncomputable def o39 (P : Params) : Obj := { cls := .type "code", data := .fields #[sv "get" 214, sv "Grid.get" 215, sv "/claim/cut.py" 216, .int 14 0, .int 4 0, .int 0 0, .int 0 0, .int 3 0, .ref 34, .bool true, .int 181 0, .ref 35, .none, .ref 36, .ref 37, .ref 38, .int 222 0, .int 14 0, sv "/claim/cut.py" 223] }
noncomputable def o40 (P : Params) : Obj := mtA (st := stA 2) rfl 1 rfl fun a b s => { cls := .type "function", data := .func { name := Str.ofString "get", qualname := Str.ofString "Grid.get", params := a, body := .stmts b, scope := s, globals := 3, closure := [], defaults := .none, kwdefaults := .none, pyModule := sv "pixelpress.grid" 194, code := .ref 39 } }
noncomputable def o41 (P : Params) : Obj := { cls := .type "tuple", data := .seq #[] }
noncomputable def o43 (P : Params) : Obj := { cls := .type "tuple", data := .seq #[sv "self" 228, sv "place" 229, sv "x" 230, sv "y" 231, sv "row" 232] }
noncomputable def o44 (P : Params) : Obj := { cls := .type "tuple", data := .seq #[] }
noncomputable def o45 (P : Params) : Obj := mtA (st := stA 2) rfl 2 rfl fun a b s => { cls := .none, data := .func { name := Str.ofString "put", qualname := Str.ofString "Grid.put", params := a, body := .stmts b, scope := s, globals := 0, closure := [], defaults := .none, kwdefaults := .none } }
noncomputable def o46 (P : Params) : Obj := { cls := .type "code", data := .fields #[sv "put" 225, sv "Grid.put" 226, sv "/claim/cut.py" 227, .int 18 0, .int 5 0, .int 0 0, .int 0 0, .int 3 0, .ref 41, .bool true, .int 181 0, .ref 42, .none, .ref 43, .ref 44, .ref 45, .int 233 0, .int 18 0, sv "/claim/cut.py" 234] }
noncomputable def o47 (P : Params) : Obj := mtA (st := stA 2) rfl 2 rfl fun a b s => { cls := .type "function", data := .func { name := Str.ofString "put", qualname := Str.ofString "Grid.put", params := a, body := .stmts b, scope := s, globals := 3, closure := [], defaults := .none, kwdefaults := .none, pyModule := sv "pixelpress.grid" 194, code := .ref 46 } }
noncomputable def o48 (P : Params) : Obj := { cls := .type "tuple", data := .seq #[sv "many" 236, sv "planes" 237] }
noncomputable def o49 (P : Params) : Obj := { cls := .type "dict", data := .dict #[de P "__module__" 203 (sv "pixelpress.grid" 194), de P "__firstlineno__" 207 (.int 5 206), de P "__init__" 213 (.ref 33), de P "get" 224 (.ref 40), de P "put" 235 (.ref 47), de P "__static_attributes__" 238 (.ref 48), de P "__dict__" 240 (.ref 51), de P "__weakref__" 242 (.ref 52), de P "__doc__" 243 (.none)] 4 }
noncomputable def o50 (P : Params) : Obj := { cls := .type "type", data := .cls { name := Str.ofString "Grid", bases := [.type "object"], mro := [.ref 50, .type "object"], ns := 49, qualname := Str.ofString "Grid" }, slots := #[none, none, some (sv "Grid" 196), some (sv "Grid" 204), some (.builtin "object.__new__"), some (.bool true)] }
noncomputable def o51 (P : Params) : Obj := { cls := .type "getset_descriptor", data := .fields #[sv "__dict__" 239, .ref 50, .builtin "function.__dict__", .builtin "function.__dict__#set"] }
noncomputable def o52 (P : Params) : Obj := { cls := .type "getset_descriptor", data := .fields #[sv "__weakref__" 241, .ref 50, .builtin "ExceptionGroup.__weakref__", .none] }
noncomputable def o55 (P : Params) : Obj := { cls := .type "tuple", data := .seq #[] }
noncomputable def o57 (P : Params) : Obj := { cls := .type "tuple", data := .seq #[sv "grid" 249, sv "frame" 250, sv "found" 251, sv "place" 252, sv "y" 253, sv "x" 254] }
noncomputable def o58 (P : Params) : Obj := { cls := .type "tuple", data := .seq #[] }
noncomputable def o59 (P : Params) : Obj := fnA (st := stA 3) rfl fun a b s => { cls := .none, data := .func { name := Str.ofString "copied", qualname := Str.ofString "copied", params := a, body := .stmts b, scope := s, globals := 0, closure := [], defaults := .none, kwdefaults := .none } }
noncomputable def o60 (P : Params) : Obj := { cls := .type "code", data := .fields #[sv "copied" 246, sv "copied" 247, sv "/claim/cut.py" 248, .int 20 0, .int 2 0, .int 0 0, .int 0 0, .int 3 0, .ref 55, .bool true, .int 181 0, .ref 56, .none, .ref 57, .ref 58, .ref 59, .int 255 0, .int 20 0, sv "/claim/cut.py" 256] }
noncomputable def o61 (P : Params) : Obj := fnA (st := stA 3) rfl fun a b s => { cls := .type "function", data := .func { name := Str.ofString "copied", qualname := Str.ofString "copied", params := a, body := .stmts b, scope := s, globals := 3, closure := [], defaults := .none, kwdefaults := .none, pyModule := sv "pixelpress.grid" 194, code := .ref 60 } }
noncomputable def o62 (P : Params) : Obj := { cls := .type "tuple", data := .seq #[] }
noncomputable def o64 (P : Params) : Obj := { cls := .type "tuple", data := .seq #[sv "n" 263, sv "found" 264, sv "total" 265, sv "low" 266, sv "high" 267, sv "rows" 268, sv "y" 269] }
noncomputable def o65 (P : Params) : Obj := { cls := .type "tuple", data := .seq #[] }
noncomputable def o66 (P : Params) : Obj := fnA (st := stA 5) rfl fun a b s => { cls := .none, data := .func { name := Str.ofString "zigzag_places", qualname := Str.ofString "zigzag_places", params := a, body := .stmts b, scope := s, globals := 0, closure := [], defaults := .none, kwdefaults := .none } }
noncomputable def o67 (P : Params) : Obj := { cls := .type "code", data := .fields #[sv "zigzag_places" 260, sv "zigzag_places" 261, sv "/claim/cut.py" 262, .int 29 0, .int 1 0, .int 0 0, .int 0 0, .int 3 0, .ref 62, .bool true, .int 181 0, .ref 63, .none, .ref 64, .ref 65, .ref 66, .int 270 0, .int 29 0, sv "/claim/cut.py" 271] }
noncomputable def o68 (P : Params) : Obj := fnA (st := stA 5) rfl fun a b s => { cls := .type "function", data := .func { name := Str.ofString "zigzag_places", qualname := Str.ofString "zigzag_places", params := a, body := .stmts b, scope := s, globals := 3, closure := [], defaults := .none, kwdefaults := .none, pyModule := sv "pixelpress.zigzag" 258, code := .ref 67 } }
noncomputable def o286 (P : Params) : Obj := { cls := .type "tuple", data := .seq #[.int 0 304, .int 1 326, .int 8 331, .int 16 354, .int 9 359, .int 2 364, .int 3 386, .int 10 391, .int 17 396, .int 24 401, .int 32 424, .int 25 429, .int 18 434, .int 11 439, .int 4 444, .int 5 466, .int 12 471, .int 19 476, .int 26 481, .int 33 486, .int 40 491, .int 48 514, .int 41 519, .int 34 524, .int 27 529, .int 20 534, .int 13 539, .int 6 544, .int 7 566, .int 14 571, .int 21 576, .int 28 581, .int 35 586, .int 42 591, .int 49 596, .int 56 601, .int 57 624, .int 50 629, .int 43 634, .int 36 639, .int 29 644, .int 22 649, .int 15 654, .int 23 676, .int 30 681, .int 37 686, .int 44 691, .int 51 696, .int 58 701, .int 59 724, .int 52 729, .int 45 734, .int 38 739, .int 31 744, .int 39 766, .int 46 771, .int 53 776, .int 60 781, .int 61 804, .int 54 809, .int 47 814, .int 55 836, .int 62 841, .int 63 864] }
noncomputable def o287 (P : Params) : Obj := { cls := .type "tuple", data := .seq #[] }
noncomputable def o289 (P : Params) : Obj := { cls := .type "tuple", data := .seq #[sv "n" 869] }
noncomputable def o290 (P : Params) : Obj := { cls := .type "tuple", data := .seq #[] }
noncomputable def o291 (P : Params) : Obj := fnA (st := stA 7) rfl fun a b s => { cls := .none, data := .func { name := Str.ofString "order", qualname := Str.ofString "order", params := a, body := .stmts b, scope := s, globals := 0, closure := [], defaults := .none, kwdefaults := .none } }
noncomputable def o292 (P : Params) : Obj := { cls := .type "code", data := .fields #[sv "order" 866, sv "order" 867, sv "/claim/cut.py" 868, .int 39 0, .int 1 0, .int 0 0, .int 0 0, .int 3 0, .ref 287, .bool true, .int 181 0, .ref 288, .none, .ref 289, .ref 290, .ref 291, .int 870 0, .int 39 0, sv "/claim/cut.py" 871] }
noncomputable def o293 (P : Params) : Obj := fnA (st := stA 7) rfl fun a b s => { cls := .type "function", data := .func { name := Str.ofString "order", qualname := Str.ofString "order", params := a, body := .stmts b, scope := s, globals := 3, closure := [], defaults := .none, kwdefaults := .none, pyModule := sv "pixelpress.zigzag" 258, code := .ref 292 } }
noncomputable def o294 (P : Params) : Obj := { cls := .type "tuple", data := .seq #[] }
noncomputable def o296 (P : Params) : Obj := { cls := .type "tuple", data := .seq #[sv "n" 876, sv "found" 877, sv "rank" 878, sv "place" 879] }
noncomputable def o297 (P : Params) : Obj := { cls := .type "tuple", data := .seq #[] }
noncomputable def o298 (P : Params) : Obj := fnA (st := stA 8) rfl fun a b s => { cls := .none, data := .func { name := Str.ofString "ranks", qualname := Str.ofString "ranks", params := a, body := .stmts b, scope := s, globals := 0, closure := [], defaults := .none, kwdefaults := .none } }
noncomputable def o299 (P : Params) : Obj := { cls := .type "code", data := .fields #[sv "ranks" 873, sv "ranks" 874, sv "/claim/cut.py" 875, .int 41 0, .int 1 0, .int 0 0, .int 0 0, .int 3 0, .ref 294, .bool true, .int 181 0, .ref 295, .none, .ref 296, .ref 297, .ref 298, .int 880 0, .int 41 0, sv "/claim/cut.py" 881] }
noncomputable def o300 (P : Params) : Obj := fnA (st := stA 8) rfl fun a b s => { cls := .type "function", data := .func { name := Str.ofString "ranks", qualname := Str.ofString "ranks", params := a, body := .stmts b, scope := s, globals := 3, closure := [], defaults := .none, kwdefaults := .none, pyModule := sv "pixelpress.zigzag" 258, code := .ref 299 } }
noncomputable def o301 (P : Params) : Obj := { cls := .type "tuple", data := .seq #[.int 0 892, .int 0 893, .int 0 894, .int 1 895, .int 0 896, .int (-1) 898, .int 0 899, .int 0 900, .int 0 901] }
noncomputable def o302 (P : Params) : Obj := { cls := .type "tuple", data := .seq #[.int 1 888, .int 0 889, .int 32 890, .int 36 891, .ref 301] }
noncomputable def o303 (P : Params) : Obj := { cls := .type "tuple", data := .seq #[.int 0 906, .int 1 907, .int 0 908, .int 0 909, .int 0 910, .int 0 911, .int 0 912, .int (-1) 914, .int 0 915] }
noncomputable def o304 (P : Params) : Obj := { cls := .type "tuple", data := .seq #[.int 0 902, .int 1 903, .int 32 904, .int 36 905, .ref 303] }
noncomputable def o305 (P : Params) : Obj := { cls := .type "tuple", data := .seq #[.int 0 920, .int 1 921, .int 0 922, .int 0 923, .int (-2) 925, .int 0 926, .int 0 927, .int 1 928, .int 0 929] }
noncomputable def o306 (P : Params) : Obj := { cls := .type "tuple", data := .seq #[.int 0 916, .int 2 917, .int 0 918, .int 9 919, .ref 305] }
noncomputable def o307 (P : Params) : Obj := { cls := .type "tuple", data := .seq #[.int 1 934, .int 0 935, .int (-1) 937, .int 0 938, .int 0 939, .int 0 940, .int (-1) 942, .int 0 943, .int 1 944] }
noncomputable def o308 (P : Params) : Obj := { cls := .type "tuple", data := .seq #[.int 1 930, .int 1 931, .int 4 932, .int 5 933, .ref 307] }
noncomputable def o309 (P : Params) : Obj := { cls := .type "tuple", data := .seq #[.int 0 949, .int 0 950, .int 0 951, .int 1 952, .int (-2) 954, .int 1 955, .int 0 956, .int 0 957, .int 0 958] }
noncomputable def o310 (P : Params) : Obj := { cls := .type "tuple", data := .seq #[.int 2 945, .int 0 946, .int 0 947, .int 9 948, .ref 309] }
noncomputable def o311 (P : Params) : Obj := { cls := .type "tuple", data := .seq #[.ref 302, .ref 304, .ref 306, .ref 308, .ref 310] }
noncomputable def o312 (P : Params) : Obj := { cls := .type "tuple", data := .seq #[] }
noncomputable def o314 (P : Params) : Obj := { cls := .type "tuple", data := .seq #[sv "scans" 963, sv "place" 964, sv "many" 965, sv "known" 966, sv "scan" 967, sv "rank" 968] }
noncomputable def o315 (P : Params) : Obj := { cls := .type "tuple", data := .seq #[] }
noncomputable def o316 (P : Params) : Obj := fnA (st := stA 12) rfl fun a b s => { cls := .none, data := .func { name := Str.ofString "known_bits", qualname := Str.ofString "known_bits", params := a, body := .stmts b, scope := s, globals := 0, closure := [], defaults := .none, kwdefaults := .none } }
noncomputable def o317 (P : Params) : Obj := { cls := .type "code", data := .fields #[sv "known_bits" 960, sv "known_bits" 961, sv "/claim/cut.py" 962, .int 51 0, .int 3 0, .int 0 0, .int 0 0, .int 3 0, .ref 312, .bool true, .int 181 0, .ref 313, .none, .ref 314, .ref 315, .ref 316, .int 969 0, .int 51 0, sv "/claim/cut.py" 970] }
noncomputable def o318 (P : Params) : Obj := fnA (st := stA 12) rfl fun a b s => { cls := .type "function", data := .func { name := Str.ofString "known_bits", qualname := Str.ofString "known_bits", params := a, body := .stmts b, scope := s, globals := 3, closure := [], defaults := .none, kwdefaults := .none, pyModule := sv "pixelpress.smoothing" 883, code := .ref 317 } }
noncomputable def o319 (P : Params) : Obj := { cls := .type "tuple", data := .seq #[] }
noncomputable def o321 (P : Params) : Obj := { cls := .type "tuple", data := .seq #[sv "n" 975, sv "told" 976, sv "found" 977, sv "across" 978, sv "down" 979, sv "few" 980, sv "many" 981, sv "weights" 982] }
noncomputable def o322 (P : Params) : Obj := { cls := .type "tuple", data := .seq #[] }
noncomputable def o323 (P : Params) : Obj := fnA (st := stA 13) rfl fun a b s => { cls := .none, data := .func { name := Str.ofString "guessed_ranks", qualname := Str.ofString "guessed_ranks", params := a, body := .stmts b, scope := s, globals := 0, closure := [], defaults := .none, kwdefaults := .none } }
noncomputable def o324 (P : Params) : Obj := { cls := .type "code", data := .fields #[sv "guessed_ranks" 972, sv "guessed_ranks" 973, sv "/claim/cut.py" 974, .int 58 0, .int 1 0, .int 0 0, .int 0 0, .int 3 0, .ref 319, .bool true, .int 181 0, .ref 320, .none, .ref 321, .ref 322, .ref 323, .int 983 0, .int 58 0, sv "/claim/cut.py" 984] }
noncomputable def o325 (P : Params) : Obj := fnA (st := stA 13) rfl fun a b s => { cls := .type "function", data := .func { name := Str.ofString "guessed_ranks", qualname := Str.ofString "guessed_ranks", params := a, body := .stmts b, scope := s, globals := 3, closure := [], defaults := .none, kwdefaults := .none, pyModule := sv "pixelpress.smoothing" 883, code := .ref 324 } }
noncomputable def o326 (P : Params) : Obj := { cls := .type "tuple", data := .seq #[] }
noncomputable def o328 (P : Params) : Obj := { cls := .type "tuple", data := .seq #[sv "known" 989, sv "n" 990, sv "rank" 991] }
noncomputable def o329 (P : Params) : Obj := { cls := .type "tuple", data := .seq #[] }
noncomputable def o330 (P : Params) : Obj := fnA (st := stA 14) rfl fun a b s => { cls := .none, data := .func { name := Str.ofString "is_worth", qualname := Str.ofString "is_worth", params := a, body := .stmts b, scope := s, globals := 0, closure := [], defaults := .none, kwdefaults := .none } }
noncomputable def o331 (P : Params) : Obj := { cls := .type "code", data := .fields #[sv "is_worth" 986, sv "is_worth" 987, sv "/claim/cut.py" 988, .int 64 0, .int 2 0, .int 0 0, .int 0 0, .int 3 0, .ref 326, .bool true, .int 181 0, .ref 327, .none, .ref 328, .ref 329, .ref 330, .int 992 0, .int 64 0, sv "/claim/cut.py" 993] }
noncomputable def o332 (P : Params) : Obj := fnA (st := stA 14) rfl fun a b s => { cls := .type "function", data := .func { name := Str.ofString "is_worth", qualname := Str.ofString "is_worth", params := a, body := .stmts b, scope := s, globals := 3, closure := [], defaults := .none, kwdefaults := .none, pyModule := sv "pixelpress.smoothing" 883, code := .ref 331 } }
noncomputable def o333 (P : Params) : Obj := { cls := .type "tuple", data := .seq #[] }
noncomputable def o335 (P : Params) : Obj := { cls := .type "tuple", data := .seq #[sv "number" 998, sv "divisor" 999, sv "known" 1000, sv "found" 1001] }
noncomputable def o336 (P : Params) : Obj := { cls := .type "tuple", data := .seq #[] }
noncomputable def o337 (P : Params) : Obj := fnA (st := stA 15) rfl fun a b s => { cls := .none, data := .func { name := Str.ofString "guessed", qualname := Str.ofString "guessed", params := a, body := .stmts b, scope := s, globals := 0, closure := [], defaults := .none, kwdefaults := .none } }
noncomputable def o338 (P : Params) : Obj := { cls := .type "code", data := .fields #[sv "guessed" 995, sv "guessed" 996, sv "/claim/cut.py" 997, .int 71 0, .int 3 0, .int 0 0, .int 0 0, .int 3 0, .ref 333, .bool true, .int 181 0, .ref 334, .none, .ref 335, .ref 336, .ref 337, .int 1002 0, .int 71 0, sv "/claim/cut.py" 1003] }
noncomputable def o339 (P : Params) : Obj := fnA (st := stA 15) rfl fun a b s => { cls := .type "function", data := .func { name := Str.ofString "guessed", qualname := Str.ofString "guessed", params := a, body := .stmts b, scope := s, globals := 3, closure := [], defaults := .none, kwdefaults := .none, pyModule := sv "pixelpress.smoothing" 883, code := .ref 338 } }
noncomputable def o340 (P : Params) : Obj := { cls := .type "tuple", data := .seq #[] }
noncomputable def o342 (P : Params) : Obj := fnA (st := stA 16) rfl fun a b s => { cls := .none, data := .func { name := Str.ofString "weighed", qualname := Str.ofString "weighed", params := a, body := .stmts b, scope := s, globals := 0, closure := [], defaults := .none, kwdefaults := .none } }
noncomputable def o343 (P : Params) : Obj := { cls := .type "code", data := .fields #[sv "weighed" 1005, sv "weighed" 1006, sv "/claim/cut.py" 1007, .int 76 0, .int 2 0, .int 0 0, .int 0 0, .int 3 0, .ref 340, .bool true, .int 181 0, .ref 341, .none, .none, .none, .ref 342, .int 1008 0, .int 76 0, sv "/claim/cut.py" 1009] }
noncomputable def o344 (P : Params) : Obj := fnA (st := stA 16) rfl fun a b s => { cls := .type "function", data := .func { name := Str.ofString "weighed", qualname := Str.ofString "weighed", params := a, body := .stmts b, scope := s, globals := 3, closure := [], defaults := .none, kwdefaults := .none, pyModule := sv "pixelpress.smoothing" 883, code := .ref 343 } }
noncomputable def o345 (P : Params) : Obj := { cls := .type "tuple", data := .seq #[] }
noncomputable def o347 (P : Params) : Obj := { cls := .type "tuple", data := .seq #[sv "row" 1014, sv "nine" 1015, sv "qtable" 1016, sv "known" 1017, sv "n" 1018, sv "found" 1019, sv "places" 1020, sv "at" 1021, sv "across" 1022, sv "down" 1023, sv "few" 1024, sv "many" 1025, sv "weights" 1026, sv "rank" 1027, sv "number" 1028] }
noncomputable def o348 (P : Params) : Obj := { cls := .type "tuple", data := .seq #[] }
noncomputable def o349 (P : Params) : Obj := fnA (st := stA 17) rfl fun a b s => { cls := .none, data := .func { name := Str.ofString "smoothed_row", qualname := Str.ofString "smoothed_row", params := a, body := .stmts b, scope := s, globals := 0, closure := [], defaults := .none, kwdefaults := .none } }
noncomputable def o350 (P : Params) : Obj := { cls := .type "code", data := .fields #[sv "smoothed_row" 1011, sv "smoothed_row" 1012, sv "/claim/cut.py" 1013, .int 78 0, .int 5 0, .int 0 0, .int 0 0, .int 3 0, .ref 345, .bool true, .int 181 0, .ref 346, .none, .ref 347, .ref 348, .ref 349, .int 1029 0, .int 78 0, sv "/claim/cut.py" 1030] }
noncomputable def o351 (P : Params) : Obj := fnA (st := stA 17) rfl fun a b s => { cls := .type "function", data := .func { name := Str.ofString "smoothed_row", qualname := Str.ofString "smoothed_row", params := a, body := .stmts b, scope := s, globals := 3, closure := [], defaults := .none, kwdefaults := .none, pyModule := sv "pixelpress.smoothing" 883, code := .ref 350 } }
noncomputable def o352 (P : Params) : Obj := { cls := .type "tuple", data := .seq #[] }
noncomputable def o354 (P : Params) : Obj := { cls := .type "tuple", data := .seq #[sv "place" 1035, sv "size" 1036] }
noncomputable def o355 (P : Params) : Obj := { cls := .type "tuple", data := .seq #[] }
noncomputable def o356 (P : Params) : Obj := fnA (st := stA 18) rfl fun a b s => { cls := .none, data := .func { name := Str.ofString "kept_in", qualname := Str.ofString "kept_in", params := a, body := .stmts b, scope := s, globals := 0, closure := [], defaults := .none, kwdefaults := .none } }
noncomputable def o357 (P : Params) : Obj := { cls := .type "code", data := .fields #[sv "kept_in" 1032, sv "kept_in" 1033, sv "/claim/cut.py" 1034, .int 88 0, .int 2 0, .int 0 0, .int 0 0, .int 3 0, .ref 352, .bool true, .int 181 0, .ref 353, .none, .ref 354, .ref 355, .ref 356, .int 1037 0, .int 88 0, sv "/claim/cut.py" 1038] }
noncomputable def o358 (P : Params) : Obj := fnA (st := stA 18) rfl fun a b s => { cls := .type "function", data := .func { name := Str.ofString "kept_in", qualname := Str.ofString "kept_in", params := a, body := .stmts b, scope := s, globals := 3, closure := [], defaults := .none, kwdefaults := .none, pyModule := sv "pixelpress.smoothing" 883, code := .ref 357 } }
noncomputable def o359 (P : Params) : Obj := { cls := .type "tuple", data := .seq #[] }
noncomputable def o361 (P : Params) : Obj := { cls := .type "tuple", data := .seq #[sv "grid" 1043, sv "place" 1044, sv "x" 1045, sv "y" 1046, sv "across" 1047, sv "down" 1048, sv "found" 1049, sv "step" 1050, sv "turn" 1051] }
noncomputable def o362 (P : Params) : Obj := { cls := .type "tuple", data := .seq #[] }
noncomputable def o363 (P : Params) : Obj := fnA (st := stA 19) rfl fun a b s => { cls := .none, data := .func { name := Str.ofString "nine_of", qualname := Str.ofString "nine_of", params := a, body := .stmts b, scope := s, globals := 0, closure := [], defaults := .none, kwdefaults := .none } }
noncomputable def o364 (P : Params) : Obj := { cls := .type "code", data := .fields #[sv "nine_of" 1040, sv "nine_of" 1041, sv "/claim/cut.py" 1042, .int 90 0, .int 6 0, .int 0 0, .int 0 0, .int 3 0, .ref 359, .bool true, .int 181 0, .ref 360, .none, .ref 361, .ref 362, .ref 363, .int 1052 0, .int 90 0, sv "/claim/cut.py" 1053] }
noncomputable def o365 (P : Params) : Obj := fnA (st := stA 19) rfl fun a b s => { cls := .type "function", data := .func { name := Str.ofString "nine_of", qualname := Str.ofString "nine_of", params := a, body := .stmts b, scope := s, globals := 3, closure := [], defaults := .none, kwdefaults := .none, pyModule := sv "pixelpress.smoothing" 883, code := .ref 364 } }
noncomputable def o366 (P : Params) : Obj := { cls := .type "tuple", data := .seq #[] }
noncomputable def o368 (P : Params) : Obj := { cls := .type "tuple", data := .seq #[sv "grid" 1058, sv "found" 1059, sv "place" 1060, sv "size" 1061, sv "qtable" 1062, sv "known" 1063, sv "n" 1064, sv "across" 1065, sv "down" 1066, sv "y" 1067, sv "x" 1068, sv "row" 1069, sv "nine" 1070] }
noncomputable def o369 (P : Params) : Obj := { cls := .type "tuple", data := .seq #[] }
noncomputable def o370 (P : Params) : Obj := fnA (st := stA 20) rfl fun a b s => { cls := .none, data := .func { name := Str.ofString "smooth_component", qualname := Str.ofString "smooth_component", params := a, body := .stmts b, scope := s, globals := 0, closure := [], defaults := .none, kwdefaults := .none } }
noncomputable def o371 (P : Params) : Obj := { cls := .type "code", data := .fields #[sv "smooth_component" 1055, sv "smooth_component" 1056, sv "/claim/cut.py" 1057, .int 96 0, .int 7 0, .int 0 0, .int 0 0, .int 3 0, .ref 366, .bool true, .int 181 0, .ref 367, .none, .ref 368, .ref 369, .ref 370, .int 1071 0, .int 96 0, sv "/claim/cut.py" 1072] }
noncomputable def o372 (P : Params) : Obj := fnA (st := stA 20) rfl fun a b s => { cls := .type "function", data := .func { name := Str.ofString "smooth_component", qualname := Str.ofString "smooth_component", params := a, body := .stmts b, scope := s, globals := 3, closure := [], defaults := .none, kwdefaults := .none, pyModule := sv "pixelpress.smoothing" 883, code := .ref 371 } }
noncomputable def o373 (P : Params) : Obj := { cls := .type "tuple", data := .seq #[] }
noncomputable def o375 (P : Params) : Obj := { cls := .type "tuple", data := .seq #[sv "grid" 1077, sv "frame" 1078, sv "qtables" 1079, sv "scans" 1080, sv "found" 1081, sv "place" 1082, sv "known" 1083] }
noncomputable def o376 (P : Params) : Obj := { cls := .type "tuple", data := .seq #[] }
noncomputable def o377 (P : Params) : Obj := fnA (st := stA 21) rfl fun a b s => { cls := .none, data := .func { name := Str.ofString "smoothed_grid", qualname := Str.ofString "smoothed_grid", params := a, body := .stmts b, scope := s, globals := 0, closure := [], defaults := .none, kwdefaults := .none } }
noncomputable def o378 (P : Params) : Obj := { cls := .type "code", data := .fields #[sv "smoothed_grid" 1074, sv "smoothed_grid" 1075, sv "/claim/cut.py" 1076, .int 103 0, .int 4 0, .int 0 0, .int 0 0, .int 3 0, .ref 373, .bool true, .int 181 0, .ref 374, .none, .ref 375, .ref 376, .ref 377, .int 1084 0, .int 103 0, sv "/claim/cut.py" 1085] }
noncomputable def o379 (P : Params) : Obj := fnA (st := stA 21) rfl fun a b s => { cls := .type "function", data := .func { name := Str.ofString "smoothed_grid", qualname := Str.ofString "smoothed_grid", params := a, body := .stmts b, scope := s, globals := 3, closure := [], defaults := .none, kwdefaults := .none, pyModule := sv "pixelpress.smoothing" 883, code := .ref 378 } }
noncomputable def o380 (P : Params) : Obj := { cls := .type "tuple", data := .seq #[] }
noncomputable def o382 (P : Params) : Obj := { cls := .type "tuple", data := .seq #[sv "many" 1092, sv "size" 1093] }
noncomputable def o383 (P : Params) : Obj := { cls := .type "tuple", data := .seq #[] }
noncomputable def o384 (P : Params) : Obj := fnA (st := stA 23) rfl fun a b s => { cls := .none, data := .func { name := Str.ofString "parts", qualname := Str.ofString "parts", params := a, body := .stmts b, scope := s, globals := 0, closure := [], defaults := .none, kwdefaults := .none } }
noncomputable def o385 (P : Params) : Obj := { cls := .type "code", data := .fields #[sv "parts" 1089, sv "parts" 1090, sv "/claim/cut.py" 1091, .int 111 0, .int 2 0, .int 0 0, .int 0 0, .int 3 0, .ref 380, .bool true, .int 181 0, .ref 381, .none, .ref 382, .ref 383, .ref 384, .int 1094 0, .int 111 0, sv "/claim/cut.py" 1095] }
noncomputable def o386 (P : Params) : Obj := fnA (st := stA 23) rfl fun a b s => { cls := .type "function", data := .func { name := Str.ofString "parts", qualname := Str.ofString "parts", params := a, body := .stmts b, scope := s, globals := 3, closure := [], defaults := .none, kwdefaults := .none, pyModule := sv "pixelpress.frames" 1087, code := .ref 385 } }
noncomputable def o394 (P : Params) : Obj := { cls := .type "tuple", data := .seq #[] }
noncomputable def o396 (P : Params) : Obj := { cls := .type "tuple", data := .seq #[sv "self" 1112, sv "ident" 1113, sv "across" 1114, sv "down" 1115, sv "quant" 1116] }
noncomputable def o397 (P : Params) : Obj := { cls := .type "tuple", data := .seq #[] }
noncomputable def o398 (P : Params) : Obj := mtA (st := stA 24) rfl 0 rfl fun a b s => { cls := .none, data := .func { name := Str.ofString "__init__", qualname := Str.ofString "Component.__init__", params := a, body := .stmts b, scope := s, globals := 0, closure := [], defaults := .none, kwdefaults := .none } }
noncomputable def o399 (P : Params) : Obj := { cls := .type "code", data := .fields #[sv "__init__" 1109, sv "Component.__init__" 1110, sv "/claim/cut.py" 1111, .int 115 0, .int 5 0, .int 0 0, .int 0 0, .int 3 0, .ref 394, .bool true, .int 181 0, .ref 395, .none, .ref 396, .ref 397, .ref 398, .int 1117 0, .int 115 0, sv "/claim/cut.py" 1118] }
noncomputable def o400 (P : Params) : Obj := mtA (st := stA 24) rfl 0 rfl fun a b s => { cls := .type "function", data := .func { name := Str.ofString "__init__", qualname := Str.ofString "Component.__init__", params := a, body := .stmts b, scope := s, globals := 3, closure := [], defaults := .none, kwdefaults := .none, pyModule := sv "pixelpress.frames" 1087, code := .ref 399 } }
noncomputable def o401 (P : Params) : Obj := { cls := .type "tuple", data := .seq #[sv "across" 1120, sv "down" 1121, sv "ident" 1122, sv "quant" 1123] }
noncomputable def o402 (P : Params) : Obj := { cls := .type "dict", data := .dict #[de P "__module__" 1104 (sv "pixelpress.frames" 1087), de P "__firstlineno__" 1108 (.int 113 1107), de P "__init__" 1119 (.ref 400), de P "__static_attributes__" 1124 (.ref 401), de P "__dict__" 1126 (.ref 404), de P "__weakref__" 1128 (.ref 405), de P "__doc__" 1129 (.none)] 4 }
noncomputable def o403 (P : Params) : Obj := { cls := .type "type", data := .cls { name := Str.ofString "Component", bases := [.type "object"], mro := [.ref 403, .type "object"], ns := 402, qualname := Str.ofString "Component" }, slots := #[none, none, some (sv "Component" 1097), some (sv "Component" 1105), some (.builtin "object.__new__"), some (.bool true)] }
noncomputable def o404 (P : Params) : Obj := { cls := .type "getset_descriptor", data := .fields #[sv "__dict__" 1125, .ref 403, .builtin "function.__dict__", .builtin "function.__dict__#set"] }
noncomputable def o405 (P : Params) : Obj := { cls := .type "getset_descriptor", data := .fields #[sv "__weakref__" 1127, .ref 403, .builtin "ExceptionGroup.__weakref__", .none] }
noncomputable def o415 (P : Params) : Obj := { cls := .type "tuple", data := .seq #[] }
noncomputable def o417 (P : Params) : Obj := { cls := .type "tuple", data := .seq #[sv "self" 1147, sv "kind" 1148, sv "precision" 1149, sv "height" 1150, sv "width" 1151, sv "components" 1152, sv "n" 1153] }
noncomputable def o418 (P : Params) : Obj := { cls := .type "tuple", data := .seq #[] }
noncomputable def o419 (P : Params) : Obj := mtA (st := stA 25) rfl 0 rfl fun a b s => { cls := .none, data := .func { name := Str.ofString "__init__", qualname := Str.ofString "Frame.__init__", params := a, body := .stmts b, scope := s, globals := 0, closure := [], defaults := .none, kwdefaults := .none } }
noncomputable def o420 (P : Params) : Obj := { cls := .type "code", data := .fields #[sv "__init__" 1144, sv "Frame.__init__" 1145, sv "/claim/cut.py" 1146, .int 122 0, .int 7 0, .int 0 0, .int 0 0, .int 3 0, .ref 415, .bool true, .int 181 0, .ref 416, .none, .ref 417, .ref 418, .ref 419, .int 1154 0, .int 122 0, sv "/claim/cut.py" 1155] }
noncomputable def o421 (P : Params) : Obj := mtA (st := stA 25) rfl 0 rfl fun a b s => { cls := .type "function", data := .func { name := Str.ofString "__init__", qualname := Str.ofString "Frame.__init__", params := a, body := .stmts b, scope := s, globals := 3, closure := [], defaults := .none, kwdefaults := .none, pyModule := sv "pixelpress.frames" 1087, code := .ref 420 } }
noncomputable def o422 (P : Params) : Obj := { cls := .type "tuple", data := .seq #[] }
noncomputable def o424 (P : Params) : Obj := mtA (st := stA 25) rfl 1 rfl fun a b s => { cls := .none, data := .func { name := Str.ofString "most_across", qualname := Str.ofString "Frame.most_across", params := a, body := .stmts b, scope := s, globals := 0, closure := [], defaults := .none, kwdefaults := .none } }
noncomputable def o425 (P : Params) : Obj := { cls := .type "code", data := .fields #[sv "most_across" 1157, sv "Frame.most_across" 1158, sv "/claim/cut.py" 1159, .int 130 0, .int 1 0, .int 0 0, .int 0 0, .int 3 0, .ref 422, .bool true, .int 181 0, .ref 423, .none, .none, .none, .ref 424, .int 1160 0, .int 130 0, sv "/claim/cut.py" 1161] }
noncomputable def o426 (P : Params) : Obj := mtA (st := stA 25) rfl 1 rfl fun a b s => { cls := .type "function", data := .func { name := Str.ofString "most_across", qualname := Str.ofString "Frame.most_across", params := a, body := .stmts b, scope := s, globals := 3, closure := [], defaults := .none, kwdefaults := .none, pyModule := sv "pixelpress.frames" 1087, code := .ref 425 } }
noncomputable def o427 (P : Params) : Obj := { cls := .type "tuple", data := .seq #[] }
noncomputable def o429 (P : Params) : Obj := mtA (st := stA 25) rfl 2 rfl fun a b s => { cls := .none, data := .func { name := Str.ofString "most_down", qualname := Str.ofString "Frame.most_down", params := a, body := .stmts b, scope := s, globals := 0, closure := [], defaults := .none, kwdefaults := .none } }
noncomputable def o430 (P : Params) : Obj := { cls := .type "code", data := .fields #[sv "most_down" 1163, sv "Frame.most_down" 1164, sv "/claim/cut.py" 1165, .int 133 0, .int 1 0, .int 0 0, .int 0 0, .int 3 0, .ref 427, .bool true, .int 181 0, .ref 428, .none, .none, .none, .ref 429, .int 1166 0, .int 133 0, sv "/claim/cut.py" 1167] }
noncomputable def o431 (P : Params) : Obj := mtA (st := stA 25) rfl 2 rfl fun a b s => { cls := .type "function", data := .func { name := Str.ofString "most_down", qualname := Str.ofString "Frame.most_down", params := a, body := .stmts b, scope := s, globals := 3, closure := [], defaults := .none, kwdefaults := .none, pyModule := sv "pixelpress.frames" 1087, code := .ref 430 } }
noncomputable def o432 (P : Params) : Obj := { cls := .type "tuple", data := .seq #[] }
noncomputable def o434 (P : Params) : Obj := { cls := .type "tuple", data := .seq #[sv "self" 1172] }
noncomputable def o435 (P : Params) : Obj := { cls := .type "tuple", data := .seq #[] }
noncomputable def o436 (P : Params) : Obj := mtA (st := stA 25) rfl 3 rfl fun a b s => { cls := .none, data := .func { name := Str.ofString "mcus_across", qualname := Str.ofString "Frame.mcus_across", params := a, body := .stmts b, scope := s, globals := 0, closure := [], defaults := .none, kwdefaults := .none } }
noncomputable def o437 (P : Params) : Obj := { cls := .type "code", data := .fields #[sv "mcus_across" 1169, sv "Frame.mcus_across" 1170, sv "/claim/cut.py" 1171, .int 136 0, .int 1 0, .int 0 0, .int 0 0, .int 3 0, .ref 432, .bool true, .int 181 0, .ref 433, .none, .ref 434, .ref 435, .ref 436, .int 1173 0, .int 136 0, sv "/claim/cut.py" 1174] }
noncomputable def o438 (P : Params) : Obj := mtA (st := stA 25) rfl 3 rfl fun a b s => { cls := .type "function", data := .func { name := Str.ofString "mcus_across", qualname := Str.ofString "Frame.mcus_across", params := a, body := .stmts b, scope := s, globals := 3, closure := [], defaults := .none, kwdefaults := .none, pyModule := sv "pixelpress.frames" 1087, code := .ref 437 } }
noncomputable def o439 (P : Params) : Obj := { cls := .type "tuple", data := .seq #[] }
noncomputable def o441 (P : Params) : Obj := { cls := .type "tuple", data := .seq #[sv "self" 1179] }
noncomputable def o442 (P : Params) : Obj := { cls := .type "tuple", data := .seq #[] }
noncomputable def o443 (P : Params) : Obj := mtA (st := stA 25) rfl 4 rfl fun a b s => { cls := .none, data := .func { name := Str.ofString "mcus_down", qualname := Str.ofString "Frame.mcus_down", params := a, body := .stmts b, scope := s, globals := 0, closure := [], defaults := .none, kwdefaults := .none } }
noncomputable def o444 (P : Params) : Obj := { cls := .type "code", data := .fields #[sv "mcus_down" 1176, sv "Frame.mcus_down" 1177, sv "/claim/cut.py" 1178, .int 139 0, .int 1 0, .int 0 0, .int 0 0, .int 3 0, .ref 439, .bool true, .int 181 0, .ref 440, .none, .ref 441, .ref 442, .ref 443, .int 1180 0, .int 139 0, sv "/claim/cut.py" 1181] }
noncomputable def o445 (P : Params) : Obj := mtA (st := stA 25) rfl 4 rfl fun a b s => { cls := .type "function", data := .func { name := Str.ofString "mcus_down", qualname := Str.ofString "Frame.mcus_down", params := a, body := .stmts b, scope := s, globals := 3, closure := [], defaults := .none, kwdefaults := .none, pyModule := sv "pixelpress.frames" 1087, code := .ref 444 } }
noncomputable def o446 (P : Params) : Obj := { cls := .type "tuple", data := .seq #[] }
noncomputable def o448 (P : Params) : Obj := { cls := .type "tuple", data := .seq #[sv "self" 1186, sv "place" 1187, sv "component" 1188, sv "width" 1189] }
noncomputable def o449 (P : Params) : Obj := { cls := .type "tuple", data := .seq #[] }
noncomputable def o450 (P : Params) : Obj := mtA (st := stA 25) rfl 5 rfl fun a b s => { cls := .none, data := .func { name := Str.ofString "plane_size", qualname := Str.ofString "Frame.plane_size", params := a, body := .stmts b, scope := s, globals := 0, closure := [], defaults := .none, kwdefaults := .none } }
noncomputable def o451 (P : Params) : Obj := { cls := .type "code", data := .fields #[sv "plane_size" 1183, sv "Frame.plane_size" 1184, sv "/claim/cut.py" 1185, .int 142 0, .int 2 0, .int 0 0, .int 0 0, .int 3 0, .ref 446, .bool true, .int 181 0, .ref 447, .none, .ref 448, .ref 449, .ref 450, .int 1190 0, .int 142 0, sv "/claim/cut.py" 1191] }
noncomputable def o452 (P : Params) : Obj := mtA (st := stA 25) rfl 5 rfl fun a b s => { cls := .type "function", data := .func { name := Str.ofString "plane_size", qualname := Str.ofString "Frame.plane_size", params := a, body := .stmts b, scope := s, globals := 3, closure := [], defaults := .none, kwdefaults := .none, pyModule := sv "pixelpress.frames" 1087, code := .ref 451 } }
noncomputable def o453 (P : Params) : Obj := { cls := .type "tuple", data := .seq #[] }
noncomputable def o455 (P : Params) : Obj := { cls := .type "tuple", data := .seq #[sv "self" 1196, sv "place" 1197, sv "width" 1198, sv "height" 1199] }
noncomputable def o456 (P : Params) : Obj := { cls := .type "tuple", data := .seq #[] }
noncomputable def o457 (P : Params) : Obj := mtA (st := stA 25) rfl 6 rfl fun a b s => { cls := .none, data := .func { name := Str.ofString "blocks", qualname := Str.ofString "Frame.blocks", params := a, body := .stmts b, scope := s, globals := 0, closure := [], defaults := .none, kwdefaults := .none } }
noncomputable def o458 (P : Params) : Obj := { cls := .type "code", data := .fields #[sv "blocks" 1193, sv "Frame.blocks" 1194, sv "/claim/cut.py" 1195, .int 147 0, .int 2 0, .int 0 0, .int 0 0, .int 3 0, .ref 453, .bool true, .int 181 0, .ref 454, .none, .ref 455, .ref 456, .ref 457, .int 1200 0, .int 147 0, sv "/claim/cut.py" 1201] }
noncomputable def o459 (P : Params) : Obj := mtA (st := stA 25) rfl 6 rfl fun a b s => { cls := .type "function", data := .func { name := Str.ofString "blocks", qualname := Str.ofString "Frame.blocks", params := a, body := .stmts b, scope := s, globals := 3, closure := [], defaults := .none, kwdefaults := .none, pyModule := sv "pixelpress.frames" 1087, code := .ref 458 } }
noncomputable def o460 (P : Params) : Obj := { cls := .type "tuple", data := .seq #[] }
noncomputable def o462 (P : Params) : Obj := { cls := .type "tuple", data := .seq #[sv "self" 1206, sv "place" 1207, sv "component" 1208] }
noncomputable def o463 (P : Params) : Obj := { cls := .type "tuple", data := .seq #[] }
noncomputable def o464 (P : Params) : Obj := mtA (st := stA 25) rfl 7 rfl fun a b s => { cls := .none, data := .func { name := Str.ofString "padded", qualname := Str.ofString "Frame.padded", params := a, body := .stmts b, scope := s, globals := 0, closure := [], defaults := .none, kwdefaults := .none } }
noncomputable def o465 (P : Params) : Obj := { cls := .type "code", data := .fields #[sv "padded" 1203, sv "Frame.padded" 1204, sv "/claim/cut.py" 1205, .int 151 0, .int 2 0, .int 0 0, .int 0 0, .int 3 0, .ref 460, .bool true, .int 181 0, .ref 461, .none, .ref 462, .ref 463, .ref 464, .int 1209 0, .int 151 0, sv "/claim/cut.py" 1210] }
noncomputable def o466 (P : Params) : Obj := mtA (st := stA 25) rfl 7 rfl fun a b s => { cls := .type "function", data := .func { name := Str.ofString "padded", qualname := Str.ofString "Frame.padded", params := a, body := .stmts b, scope := s, globals := 3, closure := [], defaults := .none, kwdefaults := .none, pyModule := sv "pixelpress.frames" 1087, code := .ref 465 } }
noncomputable def o467 (P : Params) : Obj := { cls := .type "tuple", data := .seq #[sv "components" 1212, sv "height" 1213, sv "kind" 1214, sv "n" 1215, sv "precision" 1216, sv "width" 1217] }
noncomputable def o468 (P : Params) : Obj := { cls := .type "dict", data := .dict #[de P "__module__" 1139 (sv "pixelpress.frames" 1087), de P "__firstlineno__" 1143 (.int 120 1142), de P "__init__" 1156 (.ref 421), de P "most_across" 1162 (.ref 426), de P "most_down" 1168 (.ref 431), de P "mcus_across" 1175 (.ref 438), de P "mcus_down" 1182 (.ref 445), de P "plane_size" 1192 (.ref 452), de P "blocks" 1202 (.ref 459), de P "padded" 1211 (.ref 466), de P "__static_attributes__" 1218 (.ref 467), de P "__dict__" 1220 (.ref 470), de P "__weakref__" 1222 (.ref 471), de P "__doc__" 1223 (.none)] 4 }
noncomputable def o469 (P : Params) : Obj := { cls := .type "type", data := .cls { name := Str.ofString "Frame", bases := [.type "object"], mro := [.ref 469, .type "object"], ns := 468, qualname := Str.ofString "Frame" }, slots := #[none, none, some (sv "Frame" 1132), some (sv "Frame" 1140), some (.builtin "object.__new__"), some (.bool true)] }
noncomputable def o470 (P : Params) : Obj := { cls := .type "getset_descriptor", data := .fields #[sv "__dict__" 1219, .ref 469, .builtin "function.__dict__", .builtin "function.__dict__#set"] }
noncomputable def o471 (P : Params) : Obj := { cls := .type "getset_descriptor", data := .fields #[sv "__weakref__" 1221, .ref 469, .builtin "ExceptionGroup.__weakref__", .none] }
noncomputable def o481 (P : Params) : Obj := { cls := .type "tuple", data := .seq #[] }
noncomputable def o483 (P : Params) : Obj := { cls := .type "tuple", data := .seq #[sv "self" 1243, sv "places" 1244, sv "dc_slots" 1245, sv "ac_slots" 1246, sv "start" 1247, sv "end" 1248, sv "high" 1249, sv "low" 1250] }
noncomputable def o484 (P : Params) : Obj := { cls := .type "tuple", data := .seq #[] }
noncomputable def o485 (P : Params) : Obj := mtA (st := stA 27) rfl 0 rfl fun a b s => { cls := .none, data := .func { name := Str.ofString "__init__", qualname := Str.ofString "Scan.__init__", params := a, body := .stmts b, scope := s, globals := 0, closure := [], defaults := .none, kwdefaults := .none } }
noncomputable def o486 (P : Params) : Obj := { cls := .type "code", data := .fields #[sv "__init__" 1240, sv "Scan.__init__" 1241, sv "/claim/cut.py" 1242, .int 157 0, .int 8 0, .int 0 0, .int 0 0, .int 3 0, .ref 481, .bool true, .int 181 0, .ref 482, .none, .ref 483, .ref 484, .ref 485, .int 1251 0, .int 157 0, sv "/claim/cut.py" 1252] }
noncomputable def o487 (P : Params) : Obj := mtA (st := stA 27) rfl 0 rfl fun a b s => { cls := .type "function", data := .func { name := Str.ofString "__init__", qualname := Str.ofString "Scan.__init__", params := a, body := .stmts b, scope := s, globals := 3, closure := [], defaults := .none, kwdefaults := .none, pyModule := sv "pixelpress.scans" 1226, code := .ref 486 } }
noncomputable def o488 (P : Params) : Obj := { cls := .type "tuple", data := .seq #[] }
noncomputable def o490 (P : Params) : Obj := { cls := .type "tuple", data := .seq #[sv "self" 1257] }
noncomputable def o491 (P : Params) : Obj := { cls := .type "tuple", data := .seq #[] }
noncomputable def o492 (P : Params) : Obj := mtA (st := stA 27) rfl 1 rfl fun a b s => { cls := .none, data := .func { name := Str.ofString "is_alone", qualname := Str.ofString "Scan.is_alone", params := a, body := .stmts b, scope := s, globals := 0, closure := [], defaults := .none, kwdefaults := .none } }
noncomputable def o493 (P : Params) : Obj := { cls := .type "code", data := .fields #[sv "is_alone" 1254, sv "Scan.is_alone" 1255, sv "/claim/cut.py" 1256, .int 166 0, .int 1 0, .int 0 0, .int 0 0, .int 3 0, .ref 488, .bool true, .int 181 0, .ref 489, .none, .ref 490, .ref 491, .ref 492, .int 1258 0, .int 166 0, sv "/claim/cut.py" 1259] }
noncomputable def o494 (P : Params) : Obj := mtA (st := stA 27) rfl 1 rfl fun a b s => { cls := .type "function", data := .func { name := Str.ofString "is_alone", qualname := Str.ofString "Scan.is_alone", params := a, body := .stmts b, scope := s, globals := 3, closure := [], defaults := .none, kwdefaults := .none, pyModule := sv "pixelpress.scans" 1226, code := .ref 493 } }
noncomputable def o495 (P : Params) : Obj := { cls := .type "tuple", data := .seq #[] }
noncomputable def o497 (P : Params) : Obj := { cls := .type "tuple", data := .seq #[sv "self" 1264] }
noncomputable def o498 (P : Params) : Obj := { cls := .type "tuple", data := .seq #[] }
noncomputable def o499 (P : Params) : Obj := mtA (st := stA 27) rfl 2 rfl fun a b s => { cls := .none, data := .func { name := Str.ofString "is_finer", qualname := Str.ofString "Scan.is_finer", params := a, body := .stmts b, scope := s, globals := 0, closure := [], defaults := .none, kwdefaults := .none } }
noncomputable def o500 (P : Params) : Obj := { cls := .type "code", data := .fields #[sv "is_finer" 1261, sv "Scan.is_finer" 1262, sv "/claim/cut.py" 1263, .int 169 0, .int 1 0, .int 0 0, .int 0 0, .int 3 0, .ref 495, .bool true, .int 181 0, .ref 496, .none, .ref 497, .ref 498, .ref 499, .int 1265 0, .int 169 0, sv "/claim/cut.py" 1266] }
noncomputable def o501 (P : Params) : Obj := mtA (st := stA 27) rfl 2 rfl fun a b s => { cls := .type "function", data := .func { name := Str.ofString "is_finer", qualname := Str.ofString "Scan.is_finer", params := a, body := .stmts b, scope := s, globals := 3, closure := [], defaults := .none, kwdefaults := .none, pyModule := sv "pixelpress.scans" 1226, code := .ref 500 } }
noncomputable def o502 (P : Params) : Obj := { cls := .type "tuple", data := .seq #[sv "ac_slots" 1268, sv "dc_slots" 1269, sv "end" 1270, sv "high" 1271, sv "low" 1272, sv "places" 1273, sv "start" 1274] }
noncomputable def o503 (P : Params) : Obj := { cls := .type "dict", data := .dict #[de P "__module__" 1235 (sv "pixelpress.scans" 1226), de P "__firstlineno__" 1239 (.int 155 1238), de P "__init__" 1253 (.ref 487), de P "is_alone" 1260 (.ref 494), de P "is_finer" 1267 (.ref 501), de P "__static_attributes__" 1275 (.ref 502), de P "__dict__" 1277 (.ref 505), de P "__weakref__" 1279 (.ref 506), de P "__doc__" 1280 (.none)] 4 }
noncomputable def o504 (P : Params) : Obj := { cls := .type "type", data := .cls { name := Str.ofString "Scan", bases := [.type "object"], mro := [.ref 504, .type "object"], ns := 503, qualname := Str.ofString "Scan" }, slots := #[none, none, some (sv "Scan" 1228), some (sv "Scan" 1236), some (.builtin "object.__new__"), some (.bool true)] }
noncomputable def o505 (P : Params) : Obj := { cls := .type "getset_descriptor", data := .fields #[sv "__dict__" 1276, .ref 504, .builtin "function.__dict__", .builtin "function.__dict__#set"] }
noncomputable def o506 (P : Params) : Obj := { cls := .type "getset_descriptor", data := .fields #[sv "__weakref__" 1278, .ref 504, .builtin "ExceptionGroup.__weakref__", .none] }
noncomputable def o509 (P : Params) : Obj := { cls := .type "tuple", data := .seq #[] }
noncomputable def o511 (P : Params) : Obj := { cls := .type "tuple", data := .seq #[sv "script" 1288, sv "k" 1289, sv "number" 1290] }
noncomputable def o512 (P : Params) : Obj := { cls := .type "tuple", data := .seq #[] }
noncomputable def o513 (P : Params) : Obj := fnA (st := stA 29) rfl fun a b s => { cls := .none, data := .func { name := Str.ofString "_law_keg", qualname := Str.ofString "_law_keg", params := a, body := .stmts b, scope := s, globals := 0, closure := [], defaults := .none, kwdefaults := .none } }
noncomputable def o514 (P : Params) : Obj := { cls := .type "code", data := .fields #[sv "_law_keg" 1285, sv "_law_keg" 1286, sv "/claim/cut.py" 1287, .int 172 0, .int 2 0, .int 0 0, .int 0 0, .int 3 0, .ref 509, .bool true, .int 181 0, .ref 510, .none, .ref 511, .ref 512, .ref 513, .int 1291 0, .int 172 0, sv "/claim/cut.py" 1292] }
noncomputable def o515 (P : Params) : Obj := fnA (st := stA 29) rfl fun a b s => { cls := .type "function", data := .func { name := Str.ofString "_law_keg", qualname := Str.ofString "_law_keg", params := a, body := .stmts b, scope := s, globals := 3, closure := [], defaults := .none, kwdefaults := .none, pyModule := sv "law_pf0240_01" 1283, code := .ref 514 } }
noncomputable def o516 (P : Params) : Obj := { cls := .type "tuple", data := .seq #[] }
noncomputable def o518 (P : Params) : Obj := { cls := .type "tuple", data := .seq #[sv "keg" 1297, sv "many" 1298, sv "got" 1299] }
noncomputable def o519 (P : Params) : Obj := { cls := .type "tuple", data := .seq #[] }
noncomputable def o520 (P : Params) : Obj := fnA (st := stA 30) rfl fun a b s => { cls := .none, data := .func { name := Str.ofString "_law_tap", qualname := Str.ofString "_law_tap", params := a, body := .stmts b, scope := s, globals := 0, closure := [], defaults := .none, kwdefaults := .none } }
noncomputable def o521 (P : Params) : Obj := { cls := .type "code", data := .fields #[sv "_law_tap" 1294, sv "_law_tap" 1295, sv "/claim/cut.py" 1296, .int 175 0, .int 2 0, .int 0 0, .int 0 0, .int 3 0, .ref 516, .bool true, .int 181 0, .ref 517, .none, .ref 518, .ref 519, .ref 520, .int 1300 0, .int 175 0, sv "/claim/cut.py" 1301] }
noncomputable def o522 (P : Params) : Obj := fnA (st := stA 30) rfl fun a b s => { cls := .type "function", data := .func { name := Str.ofString "_law_tap", qualname := Str.ofString "_law_tap", params := a, body := .stmts b, scope := s, globals := 3, closure := [], defaults := .none, kwdefaults := .none, pyModule := sv "law_pf0240_01" 1283, code := .ref 521 } }
noncomputable def o523 (P : Params) : Obj := { cls := .type "tuple", data := .seq #[] }
noncomputable def o525 (P : Params) : Obj := fnA (st := stA 31) rfl fun a b s => { cls := .none, data := .func { name := Str.ofString "_law_ranks", qualname := Str.ofString "_law_ranks", params := a, body := .stmts b, scope := s, globals := 0, closure := [], defaults := .none, kwdefaults := .none } }
noncomputable def o526 (P : Params) : Obj := { cls := .type "code", data := .fields #[sv "_law_ranks" 1303, sv "_law_ranks" 1304, sv "/claim/cut.py" 1305, .int 180 0, .int 1 0, .int 0 0, .int 0 0, .int 3 0, .ref 523, .bool true, .int 181 0, .ref 524, .none, .none, .none, .ref 525, .int 1306 0, .int 180 0, sv "/claim/cut.py" 1307] }
noncomputable def o527 (P : Params) : Obj := fnA (st := stA 31) rfl fun a b s => { cls := .type "function", data := .func { name := Str.ofString "_law_ranks", qualname := Str.ofString "_law_ranks", params := a, body := .stmts b, scope := s, globals := 3, closure := [], defaults := .none, kwdefaults := .none, pyModule := sv "law_pf0240_01" 1283, code := .ref 526 } }
noncomputable def o528 (P : Params) : Obj := { cls := .type "tuple", data := .seq #[] }
noncomputable def o530 (P : Params) : Obj := { cls := .type "tuple", data := .seq #[sv "n" 1312, sv "slope" 1313, sv "bend" 1314, sv "twist" 1315, sv "rules" 1316] }
noncomputable def o531 (P : Params) : Obj := { cls := .type "tuple", data := .seq #[] }
noncomputable def o532 (P : Params) : Obj := fnA (st := stA 32) rfl fun a b s => { cls := .none, data := .func { name := Str.ofString "_law_rules", qualname := Str.ofString "_law_rules", params := a, body := .stmts b, scope := s, globals := 0, closure := [], defaults := .none, kwdefaults := .none } }
noncomputable def o533 (P : Params) : Obj := { cls := .type "code", data := .fields #[sv "_law_rules" 1309, sv "_law_rules" 1310, sv "/claim/cut.py" 1311, .int 186 0, .int 1 0, .int 0 0, .int 0 0, .int 3 0, .ref 528, .bool true, .int 181 0, .ref 529, .none, .ref 530, .ref 531, .ref 532, .int 1317 0, .int 186 0, sv "/claim/cut.py" 1318] }
noncomputable def o534 (P : Params) : Obj := fnA (st := stA 32) rfl fun a b s => { cls := .type "function", data := .func { name := Str.ofString "_law_rules", qualname := Str.ofString "_law_rules", params := a, body := .stmts b, scope := s, globals := 3, closure := [], defaults := .none, kwdefaults := .none, pyModule := sv "law_pf0240_01" 1283, code := .ref 533 } }
noncomputable def o535 (P : Params) : Obj := { cls := .type "tuple", data := .seq #[] }
noncomputable def o537 (P : Params) : Obj := { cls := .type "tuple", data := .seq #[sv "scans" 1323, sv "place" 1324, sv "many" 1325, sv "lows" 1326, sv "scan" 1327, sv "rank" 1328] }
noncomputable def o538 (P : Params) : Obj := { cls := .type "tuple", data := .seq #[] }
noncomputable def o539 (P : Params) : Obj := fnA (st := stA 33) rfl fun a b s => { cls := .none, data := .func { name := Str.ofString "_law_lows", qualname := Str.ofString "_law_lows", params := a, body := .stmts b, scope := s, globals := 0, closure := [], defaults := .none, kwdefaults := .none } }
noncomputable def o540 (P : Params) : Obj := { cls := .type "code", data := .fields #[sv "_law_lows" 1320, sv "_law_lows" 1321, sv "/claim/cut.py" 1322, .int 194 0, .int 3 0, .int 0 0, .int 0 0, .int 3 0, .ref 535, .bool true, .int 181 0, .ref 536, .none, .ref 537, .ref 538, .ref 539, .int 1329 0, .int 194 0, sv "/claim/cut.py" 1330] }
noncomputable def o541 (P : Params) : Obj := fnA (st := stA 33) rfl fun a b s => { cls := .type "function", data := .func { name := Str.ofString "_law_lows", qualname := Str.ofString "_law_lows", params := a, body := .stmts b, scope := s, globals := 3, closure := [], defaults := .none, kwdefaults := .none, pyModule := sv "law_pf0240_01" 1283, code := .ref 540 } }
noncomputable def o542 (P : Params) : Obj := { cls := .type "tuple", data := .seq #[] }
noncomputable def o544 (P : Params) : Obj := fnA (st := stA 34) rfl fun a b s => { cls := .none, data := .func { name := Str.ofString "_law_due_row", qualname := Str.ofString "_law_due_row", params := a, body := .stmts b, scope := s, globals := 0, closure := [], defaults := .none, kwdefaults := .none } }
noncomputable def o545 (P : Params) : Obj := { cls := .type "code", data := .fields #[sv "_law_due_row" 1332, sv "_law_due_row" 1333, sv "/claim/cut.py" 1334, .int 201 0, .int 5 0, .int 0 0, .int 0 0, .int 3 0, .ref 542, .bool true, .int 181 0, .ref 543, .none, .none, .none, .ref 544, .int 1335 0, .int 201 0, sv "/claim/cut.py" 1336] }
noncomputable def o546 (P : Params) : Obj := fnA (st := stA 34) rfl fun a b s => { cls := .type "function", data := .func { name := Str.ofString "_law_due_row", qualname := Str.ofString "_law_due_row", params := a, body := .stmts b, scope := s, globals := 3, closure := [], defaults := .none, kwdefaults := .none, pyModule := sv "law_pf0240_01" 1283, code := .ref 545 } }
noncomputable def o547 (P : Params) : Obj := { cls := .type "tuple", data := .seq #[] }
noncomputable def o549 (P : Params) : Obj := fnA (st := stA 35) rfl fun a b s => { cls := .none, data := .func { name := Str.ofString "_law_is_worth", qualname := Str.ofString "_law_is_worth", params := a, body := .stmts b, scope := s, globals := 0, closure := [], defaults := .none, kwdefaults := .none } }
noncomputable def o550 (P : Params) : Obj := { cls := .type "code", data := .fields #[sv "_law_is_worth" 1338, sv "_law_is_worth" 1339, sv "/claim/cut.py" 1340, .int 213 0, .int 2 0, .int 0 0, .int 0 0, .int 3 0, .ref 547, .bool true, .int 181 0, .ref 548, .none, .none, .none, .ref 549, .int 1341 0, .int 213 0, sv "/claim/cut.py" 1342] }
noncomputable def o551 (P : Params) : Obj := fnA (st := stA 35) rfl fun a b s => { cls := .type "function", data := .func { name := Str.ofString "_law_is_worth", qualname := Str.ofString "_law_is_worth", params := a, body := .stmts b, scope := s, globals := 3, closure := [], defaults := .none, kwdefaults := .none, pyModule := sv "law_pf0240_01" 1283, code := .ref 550 } }
noncomputable def o552 (P : Params) : Obj := { cls := .type "tuple", data := .seq #[] }
noncomputable def o554 (P : Params) : Obj := fnA (st := stA 36) rfl fun a b s => { cls := .none, data := .func { name := Str.ofString "_law_drawn", qualname := Str.ofString "_law_drawn", params := a, body := .stmts b, scope := s, globals := 0, closure := [], defaults := .none, kwdefaults := .none } }
noncomputable def o555 (P : Params) : Obj := { cls := .type "code", data := .fields #[sv "_law_drawn" 1344, sv "_law_drawn" 1345, sv "/claim/cut.py" 1346, .int 216 0, .int 1 0, .int 0 0, .int 0 0, .int 3 0, .ref 552, .bool true, .int 181 0, .ref 553, .none, .none, .none, .ref 554, .int 1347 0, .int 216 0, sv "/claim/cut.py" 1348] }
noncomputable def o556 (P : Params) : Obj := fnA (st := stA 36) rfl fun a b s => { cls := .type "function", data := .func { name := Str.ofString "_law_drawn", qualname := Str.ofString "_law_drawn", params := a, body := .stmts b, scope := s, globals := 3, closure := [], defaults := .none, kwdefaults := .none, pyModule := sv "law_pf0240_01" 1283, code := .ref 555 } }
noncomputable def o557 (P : Params) : Obj := { cls := .type "tuple", data := .seq #[] }
noncomputable def o559 (P : Params) : Obj := fnA (st := stA 37) rfl fun a b s => { cls := .none, data := .func { name := Str.ofString "_law_seen", qualname := Str.ofString "_law_seen", params := a, body := .stmts b, scope := s, globals := 0, closure := [], defaults := .none, kwdefaults := .none } }
noncomputable def o560 (P : Params) : Obj := { cls := .type "code", data := .fields #[sv "_law_seen" 1350, sv "_law_seen" 1351, sv "/claim/cut.py" 1352, .int 234 0, .int 1 0, .int 0 0, .int 0 0, .int 3 0, .ref 557, .bool true, .int 181 0, .ref 558, .none, .none, .none, .ref 559, .int 1353 0, .int 234 0, sv "/claim/cut.py" 1354] }
noncomputable def o561 (P : Params) : Obj := fnA (st := stA 37) rfl fun a b s => { cls := .type "function", data := .func { name := Str.ofString "_law_seen", qualname := Str.ofString "_law_seen", params := a, body := .stmts b, scope := s, globals := 3, closure := [], defaults := .none, kwdefaults := .none, pyModule := sv "law_pf0240_01" 1283, code := .ref 560 } }
noncomputable def o562 (P : Params) : Obj := { cls := .type "tuple", data := .seq #[] }
noncomputable def o564 (P : Params) : Obj := fnA (st := stA 38) rfl fun a b s => { cls := .none, data := .func { name := Str.ofString "_law_right", qualname := Str.ofString "_law_right", params := a, body := .stmts b, scope := s, globals := 0, closure := [], defaults := .none, kwdefaults := .none } }
noncomputable def o565 (P : Params) : Obj := { cls := .type "code", data := .fields #[sv "_law_right" 1356, sv "_law_right" 1357, sv "/claim/cut.py" 1358, .int 236 0, .int 1 0, .int 0 0, .int 0 0, .int 3 0, .ref 562, .bool true, .int 181 0, .ref 563, .none, .none, .none, .ref 564, .int 1359 0, .int 236 0, sv "/claim/cut.py" 1360] }
noncomputable def o566 (P : Params) : Obj := fnA (st := stA 38) rfl fun a b s => { cls := .type "function", data := .func { name := Str.ofString "_law_right", qualname := Str.ofString "_law_right", params := a, body := .stmts b, scope := s, globals := 3, closure := [], defaults := .none, kwdefaults := .none, pyModule := sv "law_pf0240_01" 1283, code := .ref 565 } }
noncomputable def o567 (P : Params) : Obj := { cls := .type "tuple", data := .seq #[] }
noncomputable def o569 (P : Params) : Obj := fnA (st := stA 39) rfl fun a b s => { cls := .none, data := .func { name := Str.ofString "law", qualname := Str.ofString "law", params := a, body := .stmts b, scope := s, globals := 0, closure := [], defaults := .none, kwdefaults := .none } }
noncomputable def o570 (P : Params) : Obj := { cls := .type "code", data := .fields #[sv "law" 1362, sv "law" 1363, sv "/claim/cut.py" 1364, .int 258 0, .int 1 0, .int 0 0, .int 0 0, .int 3 0, .ref 567, .bool true, .int 181 0, .ref 568, .none, .none, .none, .ref 569, .int 1365 0, .int 258 0, sv "/claim/cut.py" 1366] }
noncomputable def o571 (P : Params) : Obj := fnA (st := stA 39) rfl fun a b s => { cls := .type "function", data := .func { name := Str.ofString "law", qualname := Str.ofString "law", params := a, body := .stmts b, scope := s, globals := 3, closure := [], defaults := .none, kwdefaults := .none, pyModule := sv "law_pf0240_01" 1283, code := .ref 570 } }
noncomputable def hd.heap_39 (P : Params) : Frag := [(2, (boot_o_2 P)), (3, (o3 P)), (15, (o15 P)), (17, (o17 P)), (18, (o18 P)), (20, (o20 P)), (21, (o21 P)), (29, (o29 P)), (32, (o32 P)), (33, (o33 P)), (34, (o34 P)), (36, (o36 P)), (37, (o37 P)), (39, (o39 P)), (40, (o40 P)), (41, (o41 P)), (43, (o43 P)), (44, (o44 P)), (46, (o46 P)), (47, (o47 P)), (48, (o48 P)), (49, (o49 P)), (50, (o50 P)), (51, (o51 P)), (52, (o52 P)), (55, (o55 P)), (57, (o57 P)), (58, (o58 P)), (60, (o60 P)), (61, (o61 P)), (62, (o62 P)), (64, (o64 P)), (65, (o65 P)), (67, (o67 P)), (68, (o68 P)), (286, (o286 P)), (287, (o287 P)), (289, (o289 P)), (290, (o290 P)), (292, (o292 P)), (293, (o293 P)), (294, (o294 P)), (296, (o296 P)), (297, (o297 P)), (299, (o299 P)), (300, (o300 P)), (301, (o301 P)), (302, (o302 P)), (303, (o303 P)), (304, (o304 P)), (305, (o305 P)), (306, (o306 P)), (307, (o307 P)), (308, (o308 P)), (309, (o309 P)), (310, (o310 P)), (311, (o311 P)), (312, (o312 P)), (314, (o314 P)), (315, (o315 P)), (317, (o317 P)), (318, (o318 P)), (319, (o319 P)), (321, (o321 P)), (322, (o322 P)), (324, (o324 P)), (325, (o325 P)), (326, (o326 P)), (328, (o328 P)), (329, (o329 P)), (331, (o331 P)), (332, (o332 P)), (333, (o333 P)), (335, (o335 P)), (336, (o336 P)), (338, (o338 P)), (339, (o339 P)), (340, (o340 P)), (343, (o343 P)), (344, (o344 P)), (345, (o345 P)), (347, (o347 P)), (348, (o348 P)), (350, (o350 P)), (351, (o351 P)), (352, (o352 P)), (354, (o354 P)), (355, (o355 P)), (357, (o357 P)), (358, (o358 P)), (359, (o359 P)), (361, (o361 P)), (362, (o362 P)), (364, (o364 P)), (365, (o365 P)), (366, (o366 P)), (368, (o368 P)), (369, (o369 P)), (371, (o371 P)), (372, (o372 P)), (373, (o373 P)), (375, (o375 P)), (376, (o376 P)), (378, (o378 P)), (379, (o379 P)), (380, (o380 P)), (382, (o382 P)), (383, (o383 P)), (385, (o385 P)), (386, (o386 P)), (394, (o394 P)), (396, (o396 P)), (397, (o397 P)), (399, (o399 P)), (400, (o400 P)), (401, (o401 P)), (402, (o402 P)), (403, (o403 P)), (404, (o404 P)), (405, (o405 P)), (415, (o415 P)), (417, (o417 P)), (418, (o418 P)), (420, (o420 P)), (421, (o421 P)), (422, (o422 P)), (425, (o425 P)), (426, (o426 P)), (427, (o427 P)), (430, (o430 P)), (431, (o431 P)), (432, (o432 P)), (434, (o434 P)), (435, (o435 P)), (437, (o437 P)), (438, (o438 P)), (439, (o439 P)), (441, (o441 P)), (442, (o442 P)), (444, (o444 P)), (445, (o445 P)), (446, (o446 P)), (448, (o448 P)), (449, (o449 P)), (451, (o451 P)), (452, (o452 P)), (453, (o453 P)), (455, (o455 P)), (456, (o456 P)), (458, (o458 P)), (459, (o459 P)), (460, (o460 P)), (462, (o462 P)), (463, (o463 P)), (465, (o465 P)), (466, (o466 P)), (467, (o467 P)), (468, (o468 P)), (469, (o469 P)), (470, (o470 P)), (471, (o471 P)), (481, (o481 P)), (483, (o483 P)), (484, (o484 P)), (486, (o486 P)), (487, (o487 P)), (488, (o488 P)), (490, (o490 P)), (491, (o491 P)), (493, (o493 P)), (494, (o494 P)), (495, (o495 P)), (497, (o497 P)), (498, (o498 P)), (500, (o500 P)), (501, (o501 P)), (502, (o502 P)), (503, (o503 P)), (504, (o504 P)), (505, (o505 P)), (506, (o506 P)), (509, (o509 P)), (511, (o511 P)), (512, (o512 P)), (514, (o514 P)), (515, (o515 P)), (516, (o516 P)), (518, (o518 P)), (519, (o519 P)), (521, (o521 P)), (522, (o522 P)), (523, (o523 P)), (526, (o526 P)), (527, (o527 P)), (528, (o528 P)), (530, (o530 P)), (531, (o531 P)), (533, (o533 P)), (534, (o534 P)), (535, (o535 P)), (537, (o537 P)), (538, (o538 P)), (540, (o540 P)), (541, (o541 P)), (542, (o542 P)), (545, (o545 P)), (546, (o546 P)), (547, (o547 P)), (550, (o550 P)), (551, (o551 P)), (552, (o552 P)), (555, (o555 P)), (556, (o556 P)), (557, (o557 P)), (560, (o560 P)), (561, (o561 P)), (562, (o562 P)), (565, (o565 P)), (566, (o566 P)), (567, (o567 P)), (570, (o570 P)), (571, (o571 P))]
noncomputable def hd.at : List Addr := [2, 3, 15, 17, 18, 20, 21, 29, 32, 33, 34, 36, 37, 39, 40, 41, 43, 44, 46, 47, 48, 49, 50, 51, 52, 55, 57, 58, 60, 61, 62, 64, 65, 67, 68, 286, 287, 289, 290, 292, 293, 294, 296, 297, 299, 300, 301, 302, 303, 304, 305, 306, 307, 308, 309, 310, 311, 312, 314, 315, 317, 318, 319, 321, 322, 324, 325, 326, 328, 329, 331, 332, 333, 335, 336, 338, 339, 340, 343, 344, 345, 347, 348, 350, 351, 352, 354, 355, 357, 358, 359, 361, 362, 364, 365, 366, 368, 369, 371, 372, 373, 375, 376, 378, 379, 380, 382, 383, 385, 386, 394, 396, 397, 399, 400, 401, 402, 403, 404, 405, 415, 417, 418, 420, 421, 422, 425, 426, 427, 430, 431, 432, 434, 435, 437, 438, 439, 441, 442, 444, 445, 446, 448, 449, 451, 452, 453, 455, 456, 458, 459, 460, 462, 463, 465, 466, 467, 468, 469, 470, 471, 481, 483, 484, 486, 487, 488, 490, 491, 493, 494, 495, 497, 498, 500, 501, 502, 503, 504, 505, 506, 509, 511, 512, 514, 515, 516, 518, 519, 521, 522, 523, 526, 527, 528, 530, 531, 533, 534, 535, 537, 538, 540, 541, 542, 545, 546, 547, 550, 551, 552, 555, 556, 557, 560, 561, 562, 565, 566, 567, 570, 571]
noncomputable def tE0 (P : Params) : BT := .node (o15 P) (.node (o31 P) (.node ({ cls := .none, data := .fields #[] }) (.node ({ cls := .type "tuple", data := .seq #[] }) (.node ({ cls := .type "tuple", data := .seq #[.int 0 817, .int 6 820] }) (.node (o511 P) .nil .nil) .nil) (.node (o383 P) .nil .nil)) (.node ({ cls := .type "tuple_iterator", data := .fields #[.none, .int 2 0] }) (.node (o319 P) .nil .nil) (.node ({ cls := .none, data := .fields #[] }) .nil .nil))) (.node ({ cls := .type "tuple", data := .seq #[] }) (.node ({ cls := .type "list", data := .seq #[] 2 }) (.node (o287 P) (.node ({ cls := .none, data := .fields #[] }) .nil .nil) .nil) (.node (o415 P) .nil .nil)) (.node ({ cls := .type "range", data := .fields #[.int 7 710, .int 2 716, .int (-1) 718] }) (.node (o351 P) .nil .nil) (.node ({ cls := .type "code", data := .fields #[sv "Scan" 1230, sv "Scan" 1231, sv "/claim/cut.py" 1232, .int 155 0, .int 0 0, .int 0 0, .int 0 0, .int 0 0, .ref 477, .bool false, .int 181 0, .ref 478, .none, .none, .none, .none, .int 1233 0, .int 155 0, sv "/claim/cut.py" 1234] }) .nil .nil)))) (.node (o47 P) (.node ({ cls := .type "tuple_iterator", data := .fields #[.none, .int 2 0] }) (.node ({ cls := .type "tuple", data := .seq #[.int 0 447, .int (-2) 450] }) (.node ({ cls := .type "list", data := .seq #[] 2 }) (.node (o527 P) .nil .nil) .nil) (.node (o399 P) .nil .nil)) (.node ({ cls := .type "tuple", data := .seq #[] }) (.node (o335 P) .nil .nil) (.node (o463 P) .nil .nil))) (.node ({ cls := .type "range", data := .fields #[.int 2 332, .int (-1) 346, .int (-1) 348] }) (.node ({ cls := .type "StopIteration", data := .fields #[.ref 174, .none, .none, .none, .bool false, .none] }) (.node (o303 P) (.node (o559 P) .nil .nil) .nil) (.node (o431 P) .nil .nil)) (.node ({ cls := .type "tuple", data := .seq #[] }) (.node ({ cls := .none, data := .fields #[] }) .nil .nil) (.node (o495 P) .nil .nil))))
noncomputable def tE1 (P : Params) : BT := .node ({ cls := .type "builtin_function_or_method", data := .fields #[.builtin "type.__prepare__", .type "type"] }) (.node (o39 P) (.node ({ cls := .type "range", data := .fields #[.int 0 280, .int 15 279, .int 1 281] }) (.node ({ cls := .type "tuple_iterator", data := .fields #[.none, .int 2 0] }) (.node ({ cls := .type "tuple", data := .seq #[] }) (.node (o519 P) .nil .nil) .nil) (.node ({ cls := .none, data := .fields #[.int 115 0, .int 4 0, .ref 399] }) .nil .nil)) (.node ({ cls := .type "tuple", data := .seq #[.int 0 657, .int 2 660] }) (.node ({ cls := .none, data := .fields #[] }) .nil .nil) (.node (o455 P) .nil .nil))) (.node ({ cls := .type "list", data := .seq #[] 2 }) (.node ({ cls := .type "range", data := .fields #[.int 6 492, .int (-1) 506, .int (-1) 508] }) (.node ({ cls := .none, data := .fields #[] }) (.node (o551 P) .nil .nil) .nil) (.node ({ cls := .none, data := .fields #[] }) .nil .nil)) (.node ({ cls := .type "StopIteration", data := .fields #[.ref 230, .none, .none, .none, .bool false, .none] }) (.node (o359 P) .nil .nil) (.node (o487 P) .nil .nil)))) (.node (o55 P) (.node ({ cls := .type "tuple", data := .seq #[.int 0 307, .int (-6) 310] }) (.node ({ cls := .type "tuple", data := .seq #[] }) (.node ({ cls := .type "range", data := .fields #[.int 7 850, .int 6 856, .int (-1) 858] }) (.node (o535 P) .nil .nil) .nil) (.node ({ cls := .type "builtin_function_or_method", data := .fields #[.builtin "object.__init_subclass__", .ref 403] }) .nil .nil)) (.node ({ cls := .type "list", data := .seq #[] 2 }) (.node (o343 P) .nil .nil) (.node (o471 P) .nil .nil))) (.node ({ cls := .type "StopIteration", data := .fields #[.ref 118, .none, .none, .none, .bool false, .none] }) (.node ({ cls := .type "tuple", data := .seq #[] }) (.node (o311 P) (.node (o567 P) .nil .nil) .nil) (.node (o439 P) .nil .nil)) (.node ({ cls := .type "tuple_iterator", data := .fields #[.none, .int 2 0] }) (.node (o375 P) .nil .nil) (.node (o503 P) .nil .nil))))
noncomputable def tE2 (P : Params) : BT := .node (o19 P) (.node ({ cls := .none, data := .fields #[] }) (.node (o67 P) (.node ({ cls := .type "list", data := .seq #[] 2 }) (.node ({ cls := .type "StopIteration", data := .fields #[.ref 258, .none, .none, .none, .bool false, .none] }) (.node (o515 P) .nil .nil) .nil) (.node ({ cls := .type "tuple", data := .seq #[] }) .nil .nil)) (.node ({ cls := .type "range", data := .fields #[.int 7 610, .int 0 616, .int (-1) 618] }) (.node (o323 P) .nil .nil) (.node (o451 P) .nil .nil))) (.node ({ cls := .type "tuple", data := .seq #[] }) (.node ({ cls := .type "tuple_iterator", data := .fields #[.none, .int 2 0] }) (.node (o291 P) (.node (o547 P) .nil .nil) .nil) (.node (o419 P) .nil .nil)) (.node ({ cls := .type "tuple", data := .seq #[.int 0 747, .int 4 750] }) (.node (o355 P) .nil .nil) (.node (o483 P) .nil .nil)))) (.node (o51 P) (.node ({ cls := .type "range", data := .fields #[.int 0 282, .int (-1) 296, .int (-1) 298] }) (.node ({ cls := .type "StopIteration", data := .fields #[.ref 146, .none, .none, .none, .bool false, .none] }) (.node ({ cls := .type "tuple_iterator", data := .fields #[.none, .int 2 0] }) (.node (o531 P) .nil .nil) .nil) (.node (o403 P) .nil .nil)) (.node ({ cls := .type "tuple", data := .seq #[] }) (.node (o339 P) .nil .nil) (.node (o467 P) .nil .nil))) (.node ({ cls := .type "tuple", data := .seq #[.int 0 367, .int (-4) 370] }) (.node ({ cls := .type "tuple", data := .seq #[] }) (.node (o307 P) (.node ({ cls := .none, data := .fields #[] }) .nil .nil) .nil) (.node (o435 P) .nil .nil)) (.node ({ cls := .type "list", data := .seq #[] 2 }) (.node (o371 P) .nil .nil) (.node (o499 P) .nil .nil))))
noncomputable def tE3 (P : Params) : BT := .node ({ cls := .type "code", data := .fields #[sv "Grid" 198, sv "Grid" 199, sv "/claim/cut.py" 200, .int 5 0, .int 0 0, .int 0 0, .int 0 0, .int 0 0, .ref 25, .bool false, .int 181 0, .ref 26, .none, .none, .none, .none, .int 201 0, .int 5 0, sv "/claim/cut.py" 202] }) (.node (o43 P) (.node ({ cls := .type "list", data := .seq #[] 2 }) (.node ({ cls := .type "range", data := .fields #[.int 4 402, .int (-1) 416, .int (-1) 418] }) (.node ({ cls := .type "tuple", data := .seq #[] }) (.node (o523 P) .nil .nil) .nil) (.node ({ cls := .none, data := .fields #[] }) .nil .nil)) (.node ({ cls := .type "StopIteration", data := .fields #[.ref 202, .none, .none, .none, .bool false, .none] }) (.node (o331 P) .nil .nil) (.node (o459 P) .nil .nil))) (.node ({ cls := .type "tuple_iterator", data := .fields #[.none, .int 2 0] }) (.node ({ cls := .type "tuple", data := .seq #[.int 0 547, .int 0 550] }) (.node (o299 P) (.node (o555 P) .nil .nil) .nil) (.node (o427 P) .nil .nil)) (.node ({ cls := .type "tuple", data := .seq #[] }) (.node (o363 P) .nil .nil) (.node (o491 P) .nil .nil)))) (.node (o59 P) (.node ({ cls := .type "StopIteration", data := .fields #[.ref 90, .none, .none, .none, .bool false, .none] }) (.node ({ cls := .type "tuple", data := .seq #[] }) (.node ({ cls := .type "tuple", data := .seq #[] }) (.node (o539 P) .nil .nil) .nil) (.node ({ cls := .type "tuple", data := .seq #[] }) .nil .nil)) (.node ({ cls := .type "tuple_iterator", data := .fields #[.none, .int 2 0] }) (.node (o347 P) .nil .nil) (.node ({ cls := .type "builtin_function_or_method", data := .fields #[.builtin "type.__prepare__", .type "type"] }) .nil .nil))) (.node ({ cls := .type "tuple", data := .seq #[] }) (.node ({ cls := .type "list", data := .seq #[] 2 }) (.node (o315 P) (.node (o571 P) .nil .nil) .nil) (.node (o443 P) .nil .nil)) (.node ({ cls := .type "range", data := .fields #[.int 7 790, .int 4 796, .int (-1) 798] }) (.node (o379 P) .nil .nil) (.node ({ cls := .type "super", data := .fields #[.ref 504, .ref 504, .ref 504] }) .nil .nil))))
noncomputable def tE4 (P : Params) : BT := .node (o17 P) (.node (o33 P) (.node (o65 P) (.node ({ cls := .type "tuple", data := .seq #[.int 0 404, .int (-3) 407] }) (.node ({ cls := .type "list", data := .seq #[] 2 }) (.node (o513 P) .nil .nil) .nil) (.node (o385 P) .nil .nil)) (.node ({ cls := .type "tuple", data := .seq #[] }) (.node (o321 P) .nil .nil) (.node (o449 P) .nil .nil))) (.node ({ cls := .type "range", data := .fields #[.int 0 307, .int 2 319, .int 1 320] }) (.node ({ cls := .type "StopIteration", data := .fields #[.ref 160, .none, .none, .none, .bool false, .none] }) (.node (o289 P) (.node (o545 P) .nil .nil) .nil) (.node (o417 P) .nil .nil)) (.node ({ cls := .type "tuple", data := .seq #[] }) (.node ({ cls := .none, data := .fields #[] }) .nil .nil) (.node (o481 P) .nil .nil)))) (.node (o49 P) (.node ({ cls := .type "tuple", data := .seq #[] }) (.node ({ cls := .type "list", data := .seq #[] 2 }) (.node ({ cls := .type "StopIteration", data := .fields #[.ref 272, .none, .none, .none, .bool false, .none] }) (.node ({ cls := .none, data := .fields #[] }) .nil .nil) .nil) (.node (o401 P) .nil .nil)) (.node ({ cls := .type "range", data := .fields #[.int 2 660, .int 8 669, .int 1 670] }) (.node (o337 P) .nil .nil) (.node (o465 P) .nil .nil))) (.node ({ cls := .type "tuple", data := .seq #[] }) (.node ({ cls := .type "tuple_iterator", data := .fields #[.none, .int 2 0] }) (.node (o305 P) (.node (o561 P) .nil .nil) .nil) (.node ({ cls := .none, data := .fields #[] }) .nil .nil)) (.node ({ cls := .type "tuple", data := .seq #[.int 0 784, .int 5 787] }) (.node (o369 P) .nil .nil) (.node (o497 P) .nil .nil))))
noncomputable def tE5 (P : Params) : BT := .node ({ cls := .type "tuple", data := .seq #[] }) (.node (o41 P) (.node ({ cls := .type "tuple", data := .seq #[.int 0 284, .int (-7) 287] }) (.node ({ cls := .type "tuple", data := .seq #[] }) (.node ({ cls := .type "range", data := .fields #[.int 6 820, .int 8 829, .int 1 830] }) (.node (o521 P) .nil .nil) .nil) (.node ({ cls := .type "frame", slots := #[some (.ref 392), some (.ref 3), some (.ref 389), none, some (sv "pixelpress.frames" 1087), none, some (.ref 0)] }) .nil .nil)) (.node ({ cls := .type "list", data := .seq #[] 2 }) (.node (o329 P) .nil .nil) (.node (o457 P) .nil .nil))) (.node ({ cls := .type "StopIteration", data := .fields #[.ref 104, .none, .none, .none, .bool false, .none] }) (.node ({ cls := .type "tuple", data := .seq #[] }) (.node (o297 P) (.node ({ cls := .none, data := .fields #[] }) .nil .nil) .nil) (.node (o425 P) .nil .nil)) (.node ({ cls := .type "tuple_iterator", data := .fields #[.none, .int 2 0] }) (.node (o361 P) .nil .nil) (.node ({ cls := .none, data := .fields #[] }) .nil .nil)))) (.node (o57 P) (.node ({ cls := .type "list", data := .seq #[] 2 }) (.node ({ cls := .type "range", data := .fields #[.int 0 447, .int 6 459, .int 1 460] }) (.node ({ cls := .type "tuple", data := .seq #[] }) (.node (o537 P) .nil .nil) .nil) (.node ({ cls := .type "builtin_function_or_method", data := .fields #[.builtin "type.__prepare__", .type "type"] }) .nil .nil)) (.node ({ cls := .type "StopIteration", data := .fields #[.ref 216, .none, .none, .none, .bool false, .none] }) (.node (o345 P) .nil .nil) (.node ({ cls := .type "builtin_function_or_method", data := .fields #[.builtin "object.__init_subclass__", .ref 469] }) .nil .nil))) (.node ({ cls := .type "tuple_iterator", data := .fields #[.none, .int 2 0] }) (.node ({ cls := .type "tuple", data := .seq #[.int 0 604, .int 1 607] }) (.node ({ cls := .none, data := .fields #[] }) (.node (o569 P) .nil .nil) .nil) (.node (o441 P) .nil .nil)) (.node ({ cls := .type "tuple", data := .seq #[] }) (.node (o377 P) .nil .nil) (.node (o505 P) .nil .nil))))
noncomputable def tE6 (P : Params) : BT := .node (o21 P) (.node (o37 P) (.node ({ cls := .type "frame", data := .dict #[de P "n" 274 (.int 8 273), de P "found" 275 (.ref 70), de P "total" 283 (.int 14 842), de P "low" 288 (.int 7 847), de P "high" 291 (.int 7 850), de P "rows" 299 (.ref 279), de P "y" 301 (.int 7 860)] 7 }) (.node ({ cls := .type "StopIteration", data := .fields #[.ref 132, .none, .none, .none, .bool false, .none] }) (.node ({ cls := .type "tuple_iterator", data := .fields #[.none, .int 2 0] }) (.node ({ cls := .none, data := .fields #[] }) .nil .nil) .nil) (.node ({ cls := .type "dict", data := .dict #[de P "__module__" 1104 (sv "pixelpress.frames" 1087), de P "__qualname__" 1106 (sv "Component" 1105), de P "__firstlineno__" 1108 (.int 113 1107), de P "__init__" 1119 (.ref 400), de P "__static_attributes__" 1124 (.ref 401)] 5 }) .nil .nil)) (.node ({ cls := .type "tuple", data := .seq #[] }) (.node (o325 P) .nil .nil) (.node (o453 P) .nil .nil))) (.node ({ cls := .type "tuple", data := .seq #[.int 0 334, .int (-5) 337] }) (.node ({ cls := .type "tuple", data := .seq #[] }) (.node (o293 P) (.node (o549 P) .nil .nil) .nil) (.node (o421 P) .nil .nil)) (.node ({ cls := .type "list", data := .seq #[] 2 }) (.node (o357 P) .nil .nil) (.node (o485 P) .nil .nil)))) (.node ({ cls := .type "super", data := .fields #[.ref 50, .ref 50, .ref 50] }) (.node ({ cls := .type "tuple", data := .seq #[] }) (.node ({ cls := .type "tuple_iterator", data := .fields #[.none, .int 2 0] }) (.node ({ cls := .type "tuple", data := .seq #[] }) (.node (o533 P) .nil .nil) .nil) (.node (o405 P) .nil .nil)) (.node ({ cls := .type "tuple", data := .seq #[.int 0 704, .int 3 707] }) (.node ({ cls := .none, data := .fields #[] }) .nil .nil) (.node (o469 P) .nil .nil))) (.node ({ cls := .type "list", data := .seq #[] 2 }) (.node ({ cls := .type "range", data := .fields #[.int 0 547, .int 8 559, .int 1 560] }) (.node (o309 P) (.node (o565 P) .nil .nil) .nil) (.node (o437 P) .nil .nil)) (.node ({ cls := .type "StopIteration", data := .fields #[.ref 244, .none, .none, .none, .bool false, .none] }) (.node (o373 P) .nil .nil) (.node (o501 P) .nil .nil))))
noncomputable def tE7 (P : Params) : BT := .node (o29 P) (.node (o45 P) (.node ({ cls := .type "StopIteration", data := .fields #[.ref 76, .none, .none, .none, .bool false, .none] }) (.node ({ cls := .type "tuple", data := .seq #[] }) (.node ({ cls := .type "tuple", data := .seq #[.int 0 844, .int 7 847] }) (.node (o525 P) .nil .nil) .nil) (.node (o397 P) .nil .nil)) (.node ({ cls := .type "tuple_iterator", data := .fields #[.none, .int 2 0] }) (.node (o333 P) .nil .nil) (.node ({ cls := .none, data := .fields #[] }) .nil .nil))) (.node ({ cls := .type "tuple", data := .seq #[] }) (.node ({ cls := .type "list", data := .seq #[] 2 }) (.node (o301 P) (.node (o557 P) .nil .nil) .nil) (.node (o429 P) .nil .nil)) (.node ({ cls := .type "range", data := .fields #[.int 4 750, .int 8 759, .int 1 760] }) (.node (o365 P) .nil .nil) (.node (o493 P) .nil .nil)))) (.node (o61 P) (.node ({ cls := .type "tuple_iterator", data := .fields #[.none, .int 2 0] }) (.node ({ cls := .type "tuple", data := .seq #[.int 0 494, .int (-1) 497] }) (.node ({ cls := .type "list", data := .seq #[.int 0 304, .int 1 326, .int 8 331, .int 16 354, .int 9 359, .int 2 364, .int 3 386, .int 10 391, .int 17 396, .int 24 401, .int 32 424, .int 25 429, .int 18 434, .int 11 439, .int 4 444, .int 5 466, .int 12 471, .int 19 476, .int 26 481, .int 33 486, .int 40 491, .int 48 514, .int 41 519, .int 34 524, .int 27 529, .int 20 534, .int 13 539, .int 6 544, .int 7 566, .int 14 571, .int 21 576, .int 28 581, .int 35 586, .int 42 591, .int 49 596, .int 56 601, .int 57 624, .int 50 629, .int 43 634, .int 36 639, .int 29 644, .int 22 649, .int 15 654, .int 23 676, .int 30 681, .int 37 686, .int 44 691, .int 51 696, .int 58 701, .int 59 724, .int 52 729, .int 45 734, .int 38 739, .int 31 744, .int 39 766, .int 46 771, .int 53 776, .int 60 781, .int 61 804, .int 54 809, .int 47 814, .int 55 836, .int 62 841, .int 63 864] 1 }) (.node (o541 P) .nil .nil) .nil) (.node ({ cls := .type "code", data := .fields #[sv "Frame" 1134, sv "Frame" 1135, sv "/claim/cut.py" 1136, .int 120 0, .int 0 0, .int 0 0, .int 0 0, .int 0 0, .ref 411, .bool false, .int 181 0, .ref 412, .none, .none, .none, .none, .int 1137 0, .int 120 0, sv "/claim/cut.py" 1138] }) .nil .nil)) (.node ({ cls := .type "tuple", data := .seq #[] }) (.node (o349 P) .nil .nil) (.node ({ cls := .type "tuple", data := .seq #[] }) .nil .nil))) (.node ({ cls := .type "range", data := .fields #[.int 0 367, .int 4 379, .int 1 380] }) (.node ({ cls := .type "StopIteration", data := .fields #[.ref 188, .none, .none, .none, .bool false, .none] }) (.node (o317 P) .nil .nil) (.node (o445 P) .nil .nil)) (.node ({ cls := .type "tuple", data := .seq #[] }) (.node ({ cls := .none, data := .fields #[] }) .nil .nil) (.node (o509 P) .nil .nil))))
noncomputable def tE8 (P : Params) : BT := .node ({ cls := .none, data := .fields #[] }) (.node (o32 P) (.node (o64 P) (.node ({ cls := .type "StopIteration", data := .fields #[.ref 127, .none, .none, .none, .bool false, .none] }) (.node ({ cls := .type "tuple_iterator", data := .fields #[.none, .int 2 0] }) (.node (o512 P) .nil .nil) .nil) (.node (o384 P) .nil .nil)) (.node ({ cls := .type "list", data := .seq #[] 2 }) (.node ({ cls := .none, data := .fields #[] }) .nil .nil) (.node (o448 P) .nil .nil))) (.node ({ cls := .type "StopIteration", data := .fields #[.ref 95, .none, .none, .none, .bool false, .none] }) (.node ({ cls := .type "tuple", data := .seq #[] }) (.node ({ cls := .none, data := .fields #[] }) (.node (o544 P) .nil .nil) .nil) (.node ({ cls := .none, data := .fields #[] }) .nil .nil)) (.node ({ cls := .type "range_iterator", data := .fields #[.int 2 0, .int 0 0, .int (-1) 0] }) (.node (o352 P) .nil .nil) (.node ({ cls := .type "frame", slots := #[some (.ref 479), some (.ref 3), some (.ref 476), none, some (sv "pixelpress.scans" 1226), none, some (.ref 0)] }) .nil .nil)))) (.node (o48 P) (.node ({ cls := .type "list", data := .seq #[] 2 }) (.node ({ cls := .type "tuple_iterator", data := .fields #[.none, .int 2 0] }) (.node ({ cls := .type "tuple", data := .seq #[] }) (.node (o528 P) .nil .nil) .nil) (.node (o400 P) .nil .nil)) (.node ({ cls := .type "StopIteration", data := .fields #[.ref 207, .none, .none, .none, .bool false, .none] }) (.node (o336 P) .nil .nil) (.node (o464 P) .nil .nil))) (.node ({ cls := .type "range_iterator", data := .fields #[.int (-1) 0, .int 0 0, .int (-1) 0] }) (.node ({ cls := .type "tuple", data := .seq #[.int 7 545, .int 7 553] }) (.node (o304 P) (.node (o560 P) .nil .nil) .nil) (.node (o432 P) .nil .nil)) (.node ({ cls := .type "StopIteration", data := .fields #[.ref 239, .none, .none, .none, .bool false, .none] }) (.node (o368 P) .nil .nil) (.node ({ cls := .none, data := .fields #[] }) .nil .nil))))
noncomputable def tE9 (P : Params) : BT := .node ({ cls := .type "dict", data := .dict #[de P "__module__" 203 (sv "pixelpress.grid" 194), de P "__qualname__" 205 (sv "Grid" 204), de P "__firstlineno__" 207 (.int 5 206), de P "__init__" 213 (.ref 33), de P "get" 224 (.ref 40), de P "put" 235 (.ref 47), de P "__static_attributes__" 238 (.ref 48)] 7 }) (.node (o40 P) (.node ({ cls := .type "range_iterator", data := .fields #[.int 15 0, .int 0 0, .int 1 0] }) (.node ({ cls := .type "list", data := .seq #[] 2 }) (.node ({ cls := .type "StopIteration", data := .fields #[.ref 263, .none, .none, .none, .bool false, .none] }) (.node (o520 P) .nil .nil) .nil) (.node ({ cls := .type "code", data := .fields #[sv "Component" 1099, sv "Component" 1100, sv "/claim/cut.py" 1101, .int 113 0, .int 0 0, .int 0 0, .int 0 0, .int 0 0, .ref 390, .bool false, .int 181 0, .ref 391, .none, .none, .none, .none, .int 1102 0, .int 113 0, sv "/claim/cut.py" 1103] }) .nil .nil)) (.node ({ cls := .type "tuple_iterator", data := .fields #[.none, .int 2 0] }) (.node (o328 P) .nil .nil) (.node (o456 P) .nil .nil))) (.node ({ cls := .type "tuple", data := .seq #[] }) (.node ({ cls := .type "range_iterator", data := .fields #[.int (-1) 0, .int 0 0, .int (-1) 0] }) (.node (o296 P) (.node (o552 P) .nil .nil) .nil) (.node (o424 P) .nil .nil)) (.node ({ cls := .type "tuple", data := .seq #[.int 11 745, .int 7 753] }) (.node ({ cls := .none, data := .fields #[] }) .nil .nil) (.node (o488 P) .nil .nil)))) (.node ({ cls := .none, data := .fields #[] }) (.node ({ cls := .type "tuple_iterator", data := .fields #[.none, .int 2 0] }) (.node ({ cls := .type "StopIteration", data := .fields #[.ref 151, .none, .none, .none, .bool false, .none] }) (.node ({ cls := .type "range_iterator", data := .fields #[.int 6 0, .int 0 0, .int (-1) 0] }) (.node ({ cls := .none, data := .fields #[] }) .nil .nil) .nil) (.node ({ cls := .type "tuple", data := .seq #[] }) .nil .nil)) (.node ({ cls := .type "tuple", data := .seq #[] }) (.node (o344 P) .nil .nil) (.node ({ cls := .type "super", data := .fields #[.ref 469, .ref 469, .ref 469] }) .nil .nil))) (.node ({ cls := .type "tuple", data := .seq #[.int 3 365, .int 7 373] }) (.node ({ cls := .type "StopIteration", data := .fields #[.ref 183, .none, .none, .none, .bool false, .none] }) (.node (o312 P) (.node ({ cls := .none, data := .fields #[] }) .nil .nil) .nil) (.node ({ cls := .none, data := .fields #[] }) .nil .nil)) (.node ({ cls := .type "list", data := .seq #[] 2 }) (.node (o376 P) .nil .nil) (.node (o504 P) .nil .nil))))
noncomputable def tE10 (P : Params) : BT := .node (o20 P) (.node (o36 P) (.node (o68 P) (.node ({ cls := .type "tuple", data := .seq #[] }) (.node ({ cls := .type "tuple", data := .seq #[.int 13 815, .int 7 823] }) (.node (o516 P) .nil .nil) .nil) (.node ({ cls := .type "builtin_function_or_method", data := .fields #[.builtin "type.__prepare__", .type "type"] }) .nil .nil)) (.node ({ cls := .type "range_iterator", data := .fields #[.int 0 0, .int 0 0, .int (-1) 0] }) (.node (o324 P) .nil .nil) (.node (o452 P) .nil .nil))) (.node ({ cls := .type "StopIteration", data := .fields #[.ref 99, .none, .none, .none, .bool false, .none] }) (.node ({ cls := .type "list", data := .seq #[] 2 }) (.node (o292 P) (.node ({ cls := .none, data := .fields #[] }) .nil .nil) .nil) (.node (o420 P) .nil .nil)) (.node ({ cls := .type "tuple_iterator", data := .fields #[.none, .int 2 0] }) (.node (o356 P) .nil .nil) (.node (o484 P) .nil .nil)))) (.node (o52 P) (.node ({ cls := .type "range_iterator", data := .fields #[.int (-1) 0, .int 0 0, .int (-1) 0] }) (.node ({ cls := .type "tuple", data := .seq #[.int 5 445, .int 7 453] }) (.node ({ cls := .type "list", data := .seq #[] 2 }) (.node (o532 P) .nil .nil) .nil) (.node (o404 P) .nil .nil)) (.node ({ cls := .type "StopIteration", data := .fields #[.ref 211, .none, .none, .none, .bool false, .none] }) (.node (o340 P) .nil .nil) (.node (o468 P) .nil .nil))) (.node ({ cls := .type "tuple_iterator", data := .fields #[.none, .int 2 0] }) (.node ({ cls := .type "StopIteration", data := .fields #[.ref 179, .none, .none, .none, .bool false, .none] }) (.node (o308 P) (.node (o564 P) .nil .nil) .nil) (.node (o436 P) .nil .nil)) (.node ({ cls := .type "tuple", data := .seq #[] }) (.node (o372 P) .nil .nil) (.node (o500 P) .nil .nil))))
noncomputable def tE11 (P : Params) : BT := .node ({ cls := .type "frame", slots := #[some (.ref 27), some (.ref 3), some (.ref 24), none, some (sv "pixelpress.grid" 194), none, some (.ref 0)] }) (.node (o44 P) (.node ({ cls := .type "tuple", data := .seq #[] }) (.node ({ cls := .type "range_iterator", data := .fields #[.int (-1) 0, .int 0 0, .int (-1) 0] }) (.node ({ cls := .type "StopIteration", data := .fields #[.ref 267, .none, .none, .none, .bool false, .none] }) (.node ({ cls := .none, data := .fields #[] }) .nil .nil) .nil) (.node (o396 P) .nil .nil)) (.node ({ cls := .type "tuple", data := .seq #[.int 9 655, .int 7 663] }) (.node (o332 P) .nil .nil) (.node (o460 P) .nil .nil))) (.node ({ cls := .type "list", data := .seq #[] 2 }) (.node ({ cls := .type "tuple_iterator", data := .fields #[.none, .int 2 0] }) (.node (o300 P) (.node (o556 P) .nil .nil) .nil) (.node ({ cls := .none, data := .fields #[] }) .nil .nil)) (.node ({ cls := .type "StopIteration", data := .fields #[.ref 235, .none, .none, .none, .bool false, .none] }) (.node (o364 P) .nil .nil) (.node (o492 P) .nil .nil)))) (.node (o60 P) (.node ({ cls := .type "tuple", data := .seq #[.int 1 305, .int 7 313] }) (.node ({ cls := .type "StopIteration", data := .fields #[.ref 155, .none, .none, .none, .bool false, .none] }) (.node ({ cls := .type "StopIteration", data := .fields #[.ref 283, .none, .none, .none, .bool false, .none] }) (.node (o540 P) .nil .nil) .nil) (.node ({ cls := .none, data := .fields #[.int 122 0, .int 4 0, .ref 420, .int 130 0, .int 4 0, .ref 425, .int 133 0, .int 4 0, .ref 430, .int 136 0, .int 4 0, .ref 437, .int 139 0, .int 4 0, .ref 444, .int 142 0, .int 4 0, .ref 451, .int 147 0, .int 4 0, .ref 458, .int 151 0, .int 4 0, .ref 465] }) .nil .nil)) (.node ({ cls := .type "list", data := .seq #[] 2 }) (.node (o348 P) .nil .nil) (.node ({ cls := .type "dict", data := .dict #[de P "__module__" 1235 (sv "pixelpress.scans" 1226), de P "__qualname__" 1237 (sv "Scan" 1236), de P "__firstlineno__" 1239 (.int 155 1238), de P "__init__" 1253 (.ref 487), de P "is_alone" 1260 (.ref 494), de P "is_finer" 1267 (.ref 501), de P "__static_attributes__" 1275 (.ref 502)] 7 }) .nil .nil))) (.node ({ cls := .type "StopIteration", data := .fields #[.ref 123, .none, .none, .none, .bool false, .none] }) (.node ({ cls := .type "tuple", data := .seq #[] }) (.node (o316 P) .nil .nil) (.node (o444 P) .nil .nil)) (.node ({ cls := .type "range_iterator", data := .fields #[.int 4 0, .int 0 0, .int (-1) 0] }) (.node (o380 P) .nil .nil) (.node ({ cls := .type "builtin_function_or_method", data := .fields #[.builtin "object.__init_subclass__", .ref 504] }) .nil .nil))))
noncomputable def tE12 (P : Params) : BT := .node (o18 P) (.node (o34 P) (.node (o66 P) (.node ({ cls := .type "tuple_iterator", data := .fields #[.none, .int 2 0] }) (.node ({ cls := .type "tuple", data := .seq #[] }) (.node (o514 P) .nil .nil) .nil) (.node (o386 P) .nil .nil)) (.node ({ cls := .type "StopIteration", data := .fields #[.ref 193, .none, .none, .none, .bool false, .none] }) (.node (o322 P) .nil .nil) (.node (o450 P) .nil .nil))) (.node ({ cls := .type "range_iterator", data := .fields #[.int 2 0, .int 0 0, .int 1 0] }) (.node ({ cls := .type "tuple", data := .seq #[.int 6 492, .int 7 500] }) (.node (o290 P) (.node (o546 P) .nil .nil) .nil) (.node (o418 P) .nil .nil)) (.node ({ cls := .type "StopIteration", data := .fields #[.ref 225, .none, .none, .none, .bool false, .none] }) (.node (o354 P) .nil .nil) (.node ({ cls := .none, data := .fields #[] }) .nil .nil)))) (.node (o50 P) (.node ({ cls := .type "StopIteration", data := .fields #[.ref 81, .none, .none, .none, .bool false, .none] }) (.node ({ cls := .type "tuple", data := .seq #[] }) (.node ({ cls := .type "tuple", data := .seq #[.int 14 842, .int 7 850] }) (.node (o530 P) .nil .nil) .nil) (.node (o402 P) .nil .nil)) (.node ({ cls := .type "range_iterator", data := .fields #[.int 8 0, .int 0 0, .int 1 0] }) (.node (o338 P) .nil .nil) (.node (o466 P) .nil .nil))) (.node ({ cls := .type "StopIteration", data := .fields #[.ref 113, .none, .none, .none, .bool false, .none] }) (.node ({ cls := .type "list", data := .seq #[] 2 }) (.node (o306 P) (.node (o562 P) .nil .nil) .nil) (.node (o434 P) .nil .nil)) (.node ({ cls := .type "tuple_iterator", data := .fields #[.none, .int 2 0] }) (.node (o370 P) .nil .nil) (.node (o498 P) .nil .nil))))
noncomputable def tE13 (P : Params) : BT := .node ({ cls := .none, data := .fields #[.int 7 0, .int 4 0, .ref 32, .int 14 0, .int 4 0, .ref 39, .int 18 0, .int 4 0, .ref 46] }) (.node ({ cls := .none, data := .fields #[] }) (.node ({ cls := .type "tuple_iterator", data := .fields #[.none, .int 2 0] }) (.node ({ cls := .type "StopIteration", data := .fields #[.ref 137, .none, .none, .none, .bool false, .none] }) (.node ({ cls := .type "range_iterator", data := .fields #[.int 8 0, .int 0 0, .int 1 0] }) (.node (o522 P) .nil .nil) .nil) (.node (o394 P) .nil .nil)) (.node ({ cls := .type "tuple", data := .seq #[] }) (.node (o330 P) .nil .nil) (.node (o458 P) .nil .nil))) (.node ({ cls := .type "tuple", data := .seq #[.int 2 332, .int 7 340] }) (.node ({ cls := .type "StopIteration", data := .fields #[.ref 169, .none, .none, .none, .bool false, .none] }) (.node (o298 P) (.node (o554 P) .nil .nil) .nil) (.node (o426 P) .nil .nil)) (.node ({ cls := .type "list", data := .seq #[] 2 }) (.node (o362 P) .nil .nil) (.node (o490 P) .nil .nil)))) (.node (o58 P) (.node ({ cls := .type "tuple", data := .seq #[] }) (.node ({ cls := .type "range_iterator", data := .fields #[.int 6 0, .int 0 0, .int 1 0] }) (.node ({ cls := .type "StopIteration", data := .fields #[.ref 281, .none, .none, .none, .bool false, .none] }) (.node (o538 P) .nil .nil) .nil) (.node ({ cls := .type "dict", data := .dict #[de P "__module__" 1139 (sv "pixelpress.frames" 1087), de P "__qualname__" 1141 (sv "Frame" 1140), de P "__firstlineno__" 1143 (.int 120 1142), de P "__init__" 1156 (.ref 421), de P "most_across" 1162 (.ref 426), de P "most_down" 1168 (.ref 431), de P "mcus_across" 1175 (.ref 438), de P "mcus_down" 1182 (.ref 445), de P "plane_size" 1192 (.ref 452), de P "blocks" 1202 (.ref 459), de P "padded" 1211 (.ref 466), de P "__static_attributes__" 1218 (.ref 467)] 12 }) .nil .nil)) (.node ({ cls := .type "tuple", data := .seq #[.int 10 702, .int 7 710] }) (.node ({ cls := .none, data := .fields #[] }) .nil .nil) (.node ({ cls := .type "tuple", data := .seq #[] }) .nil .nil))) (.node ({ cls := .type "list", data := .seq #[] 2 }) (.node ({ cls := .type "tuple_iterator", data := .fields #[.none, .int 2 0] }) (.node (o314 P) (.node (o570 P) .nil .nil) .nil) (.node (o442 P) .nil .nil)) (.node ({ cls := .type "StopIteration", data := .fields #[.ref 249, .none, .none, .none, .bool false, .none] }) (.node (o378 P) .nil .nil) (.node (o506 P) .nil .nil))))
noncomputable def tE14 (P : Params) : BT := .node ({ cls := .type "tuple", data := .seq #[] }) (.node (o38 P) (.node ({ cls := .type "list", data := .seq #[.int 0 304, .int 1 326, .int 8 331, .int 16 354, .int 9 359, .int 2 364, .int 3 386, .int 10 391, .int 17 396, .int 24 401, .int 32 424, .int 25 429, .int 18 434, .int 11 439, .int 4 444, .int 5 466, .int 12 471, .int 19 476, .int 26 481, .int 33 486, .int 40 491, .int 48 514, .int 41 519, .int 34 524, .int 27 529, .int 20 534, .int 13 539, .int 6 544, .int 7 566, .int 14 571, .int 21 576, .int 28 581, .int 35 586, .int 42 591, .int 49 596, .int 56 601, .int 57 624, .int 50 629, .int 43 634, .int 36 639, .int 29 644, .int 22 649, .int 15 654, .int 23 676, .int 30 681, .int 37 686, .int 44 691, .int 51 696, .int 58 701, .int 59 724, .int 52 729, .int 45 734, .int 38 739, .int 31 744, .int 39 766, .int 46 771, .int 53 776, .int 60 781, .int 61 804, .int 54 809, .int 47 814, .int 55 836, .int 62 841, .int 63 864] 64 }) (.node ({ cls := .type "tuple", data := .seq #[.int 4 402, .int 7 410] }) (.node ({ cls := .type "list", data := .seq #[] 2 }) (.node (o518 P) .nil .nil) .nil) (.node ({ cls := .type "tuple", data := .seq #[] }) .nil .nil)) (.node ({ cls := .type "StopIteration", data := .fields #[.ref 197, .none, .none, .none, .bool false, .none] }) (.node (o326 P) .nil .nil) (.node ({ cls := .none, data := .fields #[] }) .nil .nil))) (.node ({ cls := .type "tuple_iterator", data := .fields #[.none, .int 2 0] }) (.node ({ cls := .type "StopIteration", data := .fields #[.ref 165, .none, .none, .none, .bool false, .none] }) (.node (o294 P) (.node (o550 P) .nil .nil) .nil) (.node (o422 P) .nil .nil)) (.node ({ cls := .type "tuple", data := .seq #[] }) (.node (o358 P) .nil .nil) (.node (o486 P) .nil .nil)))) (.node ({ cls := .type "builtin_function_or_method", data := .fields #[.builtin "object.__init_subclass__", .ref 50] }) (.node ({ cls := .type "StopIteration", data := .fields #[.ref 85, .none, .none, .none, .bool false, .none] }) (.node ({ cls := .type "list", data := .seq #[] 2 }) (.node ({ cls := .type "StopIteration", data := .fields #[.ref 277, .none, .none, .none, .bool false, .none] }) (.node (o534 P) .nil .nil) .nil) (.node ({ cls := .type "super", data := .fields #[.ref 403, .ref 403, .ref 403] }) .nil .nil)) (.node ({ cls := .type "tuple_iterator", data := .fields #[.none, .int 2 0] }) (.node (o342 P) .nil .nil) (.node (o470 P) .nil .nil))) (.node ({ cls := .type "tuple", data := .seq #[] }) (.node ({ cls := .type "range_iterator", data := .fields #[.int 8 0, .int 0 0, .int 1 0] }) (.node (o310 P) (.node (o566 P) .nil .nil) .nil) (.node (o438 P) .nil .nil)) (.node ({ cls := .type "tuple", data := .seq #[.int 12 782, .int 7 790] }) (.node ({ cls := .none, data := .fields #[] }) .nil .nil) (.node (o502 P) .nil .nil))))
noncomputable def tE15 (P : Params) : BT := .node ({ cls := .none, data := .fields #[] }) (.node (o46 P) (.node ({ cls := .type "tuple", data := .seq #[.int 0 282, .int 7 290] }) (.node ({ cls := .type "StopIteration", data := .fields #[.ref 141, .none, .none, .none, .bool false, .none] }) (.node ({ cls := .type "tuple_iterator", data := .fields #[.none, .int 2 0] }) (.node (o526 P) .nil .nil) .nil) (.node (o398 P) .nil .nil)) (.node ({ cls := .type "list", data := .seq #[] 2 }) (.node ({ cls := .none, data := .fields #[] }) .nil .nil) (.node (o462 P) .nil .nil))) (.node ({ cls := .type "StopIteration", data := .fields #[.ref 109, .none, .none, .none, .bool false, .none] }) (.node ({ cls := .type "tuple", data := .seq #[] }) (.node (o302 P) (.node ({ cls := .none, data := .fields #[] }) .nil .nil) .nil) (.node (o430 P) .nil .nil)) (.node ({ cls := .type "range_iterator", data := .fields #[.int 8 0, .int 0 0, .int 1 0] }) (.node (o366 P) .nil .nil) (.node (o494 P) .nil .nil)))) (.node (o62 P) (.node ({ cls := .type "list", data := .seq #[] 2 }) (.node ({ cls := .type "tuple_iterator", data := .fields #[.none, .int 2 0] }) (.node (o286 P) (.node (o542 P) .nil .nil) .nil) (.node ({ cls := .type "frame", slots := #[some (.ref 413), some (.ref 3), some (.ref 410), none, some (sv "pixelpress.frames" 1087), none, some (.ref 0)] }) .nil .nil)) (.node ({ cls := .type "StopIteration", data := .fields #[.ref 221, .none, .none, .none, .bool false, .none] }) (.node (o350 P) .nil .nil) (.node ({ cls := .none, data := .fields #[.int 157 0, .int 4 0, .ref 486, .int 166 0, .int 4 0, .ref 493, .int 169 0, .int 4 0, .ref 500] }) .nil .nil))) (.node ({ cls := .type "range_iterator", data := .fields #[.int 4 0, .int 0 0, .int 1 0] }) (.node ({ cls := .type "tuple", data := .seq #[.int 8 602, .int 7 610] }) (.node (o318 P) .nil .nil) (.node (o446 P) .nil .nil)) (.node ({ cls := .type "StopIteration", data := .fields #[.ref 253, .none, .none, .none, .bool false, .none] }) (.node (o382 P) .nil .nil) (.node ({ cls := .none, data := .fields #[] }) .nil .nil))))
noncomputable def trE (P : Params) : BT := (.node (boot_o_0 P) (.node (boot_o_1 P) (.node (o3 P) (.node (boot_o_7 P) (tE0 P) (tE1 P)) (.node ({ cls := .type "tuple", data := .seq #[] }) (tE2 P) (tE3 P))) (.node (boot_o_5 P) (.node (boot_o_9 P) (tE4 P) (tE5 P)) (.node ({ cls := .type "code", data := .fields #[sv "<module>" 182, sv "<module>" 183, sv "/claim/cut.py" 184, .int 1 0, .int 0 0, .int 0 0, .int 0 0, .int 0 0, .ref 11, .bool false, .int 181 0, .ref 12, .none, .none, .none, .none, .int 185 0, .int 1 0, sv "/claim/cut.py" 186] }) (tE6 P) (tE7 P)))) (.node (boot_o_2 P) (.node (boot_o_4 P) (.node (boot_o_8 P) (tE8 P) (tE9 P)) (.node ({ cls := .none, data := .fields #[.int 1 0, .int 0 0, .ref 20, .int 5 0, .int 0 0, .ref 27, .int 20 0, .int 0 0, .ref 60, .int 29 0, .int 0 0, .ref 67, .int 39 0, .int 0 0, .ref 292, .int 41 0, .int 0 0, .ref 299, .int 51 0, .int 0 0, .ref 317, .int 58 0, .int 0 0, .ref 324, .int 64 0, .int 0 0, .ref 331, .int 71 0, .int 0 0, .ref 338, .int 76 0, .int 0 0, .ref 343, .int 78 0, .int 0 0, .ref 350, .int 88 0, .int 0 0, .ref 357, .int 90 0, .int 0 0, .ref 364, .int 96 0, .int 0 0, .ref 371, .int 103 0, .int 0 0, .ref 378, .int 111 0, .int 0 0, .ref 385, .int 113 0, .int 0 0, .ref 392, .int 120 0, .int 0 0, .ref 413, .int 155 0, .int 0 0, .ref 479, .int 172 0, .int 0 0, .ref 514, .int 175 0, .int 0 0, .ref 521, .int 180 0, .int 0 0, .ref 526, .int 186 0, .int 0 0, .ref 533, .int 194 0, .int 0 0, .ref 540, .int 201 0, .int 0 0, .ref 545, .int 213 0, .int 0 0, .ref 550, .int 216 0, .int 0 0, .ref 555, .int 234 0, .int 0 0, .ref 560, .int 236 0, .int 0 0, .ref 565, .int 258 0, .int 0 0, .ref 570] }) (tE10 P) (tE11 P))) (.node (boot_o_6 P) (.node (boot_o_10 P) (tE12 P) (tE13 P)) (.node ({ cls := .type "frame", slots := #[some (.ref 13), some (.ref 3), some (.ref 3), none, some (sv "__main__" 164), none, some (.ref 0)] }) (tE14 P) (tE15 P)))))
noncomputable def trB (P : Params) : BT := .node (boot_o_0 P) (.node (boot_o_1 P) (.node (boot_o_3 P) (.node (boot_o_7 P) .nil .nil) (.node ({ cls := .type "tuple", data := .seq #[] }) .nil .nil)) (.node (boot_o_5 P) (.node (boot_o_9 P) .nil .nil) (.node ({ cls := .type "code", data := .fields #[sv "<module>" 182, sv "<module>" 183, sv "/claim/cut.py" 184, .int 1 0, .int 0 0, .int 0 0, .int 0 0, .int 0 0, .ref 11, .bool false, .int 181 0, .ref 12, .none, .none, .none, .none, .int 185 0, .int 1 0, sv "/claim/cut.py" 186] }) .nil .nil))) (.node (boot_o_2 P) (.node (boot_o_4 P) (.node (boot_o_8 P) .nil .nil) (.node ({ cls := .none, data := .fields #[] }) .nil .nil)) (.node (boot_o_6 P) (.node (boot_o_10 P) .nil .nil) (.node ({ cls := .type "frame", slots := #[some (.ref 13), some (.ref 3), some (.ref 3), none, some (sv "__main__" 164), none, some (.ref 0)] }) .nil .nil)))
noncomputable def bM : List Stmt := behindTheImports PySem.Challenge.pw_pf0240_01
noncomputable def envM : Env := { scope := PySem.Challenge.pw_pf0240_01.main.scope, locals := mainNs, globals := mainNs, cells := [], code := .ref 13, frame := some 14 }
noncomputable def posM : Pos := { line := 0, col := 0, endLine := 0, endCol := 0 }
noncomputable def posE : Pos := { line := 258, col := 0, endLine := 259, endCol := 101 }
noncomputable abbrev cM : Code := .body bM envM
noncomputable abbrev BM : List PySem.Frame := [topFrame posM]
noncomputable def sB (w : World) (os : OsState) : SharedT := ⟨trB w.params, 15, {}, #[], {}, 187, os⟩
noncomputable def sE (w : World) (os : OsState) : SharedT := ⟨trE w.params, 572, {}, #[], {}, 1368, os⟩
noncomputable def thM : Thread := piecesOf bM envM cM posM BM
noncomputable def annM : Option Value := some (.ref 6)
theorem run_pre (w : World) (os : OsState) : topGo treeTable PySem.Challenge.pw_pf0240_01 w 11 annM 12 ⟨boot_heap w.params, #[], boot_drawn, boot_toks, os⟩ (topStub PySem.Challenge.pw_pf0240_01) = some ((sB w os).abs, ⟨denote treeTable cM, cM, posM, BM⟩) := by kernel_rfl
theorem run_block (w : World) (os : OsState) : segRun treeTable PySem.Challenge.pw_pf0240_01 w 11 annM 1 1 (sB w os).abs (blockOf bM envM cM posM BM) = some (.next, (sB w os).abs, cM, posM) := by kernel_rfl
theorem run_f (w : World) : (fun os => PySem.W.Fast.tw10110043849684766642 PySem.W.Fast.tw14364793385576792824 PySem.Challenge.pw_pf0240_01 (w.withFollow "special-get-raises" false) 11 annM 1 11010 (sB (w.withFollow "special-get-raises" false) os) thM) = fun os => some (.next, sE (w.withFollow "special-get-raises" false) os, cM, posE) := by kernel_rfl
theorem run_t (w : World) : (fun os => PySem.W.Fast.tw10110043849684766642 PySem.W.Fast.tw14364793385576792824 PySem.Challenge.pw_pf0240_01 (w.withFollow "special-get-raises" true) 11 annM 1 11010 (sB (w.withFollow "special-get-raises" true) os) thM) = fun os => some (.next, sE (w.withFollow "special-get-raises" true) os, cM, posE) := by kernel_rfl
theorem run_w (w : World) : (fun os => PySem.W.Fast.tw10110043849684766642 PySem.W.Fast.tw14364793385576792824 PySem.Challenge.pw_pf0240_01 w 11 annM 1 11010 (sB w os) thM) = fun os => some (.next, sE w os, cM, posE) :=
  byRow2 "special-get-raises" (P := fun w => (fun os => PySem.W.Fast.tw10110043849684766642 PySem.W.Fast.tw14364793385576792824 PySem.Challenge.pw_pf0240_01 w 11 annM 1 11010 (sB w os) thM) = fun os => some (.next, sE w os, cM, posE)) run_f run_t w
theorem run_st (w : World) (os : OsState) : segRun treeTable PySem.Challenge.pw_pf0240_01 w 11 annM 1 11010 (sB w os).abs thM = some (.next, (sE w os).abs, cM, posE) := by
  refine segRun_of ?_
  have h := congrFun (run_w w) os
  rw [← PySem.W.Fast.te10110043849684766642, ← PySem.W.Fast.te14364793385576792824] at h
  exact h
theorem run_fin (w : World) (os : OsState) : topRun treeTable PySem.Challenge.pw_pf0240_01 w 11 annM 2 (sE w os).abs ⟨doneF .next, cM, posE, BM⟩ = some (sE w os).abs := by kernel_rfl
theorem run_all (w : World) (os : OsState) : topRun treeTable PySem.Challenge.pw_pf0240_01 w 11 annM (12 + (1 + (11010 + 2))) ⟨boot_heap w.params, #[], boot_drawn, boot_toks, os⟩ (topStub PySem.Challenge.pw_pf0240_01) = some (sE w os).abs := by
  refine go_top (run_pre w os) (piece_block (run_block w os) ?_)
  have h := piece_app (rest := []) (run_st w os) (piece_nil (run_fin w os))
  rw [List.append_nil] at h
  exact h
end Mine
namespace Mine
open PySem PySem.W PySem.Calls PyProof.Rows
noncomputable def vwM : Program := view PySem.Challenge.pw_pf0240_01 [39]
noncomputable def looseM : List Str := ["_wall", "Grid", "copied", "zigzag_places", "ORDER_8", "order", "ranks", "UNKNOWN", "PATTERNS", "known_bits", "guessed_ranks", "is_worth", "guessed", "weighed", "smoothed_row", "kept_in", "nine_of", "smooth_component", "smoothed_grid", "parts", "Component", "Frame", "Scan", "_law_keg", "_law_tap", "_law_ranks", "_law_rules", "_law_lows", "_law_due_row", "_law_is_worth", "_law_drawn", "_law_seen", "_law_right"].map Str.ofString
noncomputable def hookM : Hook := kHook hd.heap_39 hd.at (fun _ => by kernel_rfl)
noncomputable def XtM (s : Shared) : Bool := xlAt vwM [] s && recOk PySem.Challenge.rw_pf0240_01.row.records s
noncomputable def HM (P : Params) : Heap := absHeap (trE P) 572 {}
theorem look_open : ∀ w : World, (fencedOpening treeTable PySem.Challenge.pw_pf0240_01 w 11100).map (fun s => (s.heap, s.gens, s.drawn, s.toks)) = some (boot_heap w.params, Array.mk [], boot_drawn, boot_toks) :=
  boot_open (by kernel_rfl) (by decide) (fun s => by kernel_rfl)
theorem look_size (w : World) : ((boot_heap w.params).isNs mainGlobals && (#[] : Array GenState).size == 0, (boot_heap w.params).objs.size, (boot_heap w.params).nsMap mainGlobals "__annotations__") = (true, 11, annM) := by kernel_rfl
theorem look_hook (w : World) (os : OsState) : hookM.obs ⟨HM w.params, #[], {}, 1368, os⟩ = hookM.val w := by kernel_rfl
theorem look_kept (w : World) (os : OsState) : (staticsOk (importedModules PySem.Challenge.pw_pf0240_01.main.body) (boot_heap w.params) (HM w.params) && namesBound PySem.Challenge.pw_pf0240_01 (HM w.params) && gensDone ⟨HM w.params, #[], {}, 1368, os⟩ && laidKept (boot_heap w.params) (HM w.params)) = true := by kernel_rfl
theorem look_seen (w : World) (os : OsState) : openSeen vwM looseM (importedModules PySem.Challenge.pw_pf0240_01.main.body) XtM true ⟨HM w.params, #[], {}, 1368, os⟩ = openGood vwM looseM := by kernel_rfl
theorem left : LeftO PySem.Challenge.pw_pf0240_01 vwM looseM XtM hookM.obs hookM.val 11100 true :=
  LeftO.of_pieces (H₀ := boot_heap) (H₁ := HM) (gs₀ := #[]) (gs₁ := #[]) (d₀ := boot_drawn) (d₁ := {}) (k₀ := boot_toks) (k₁ := 1368) look_open look_size run_all (by decide) fun w => funext fun os => looks_pair (look_kept w os) (looks_pair (look_seen w os) (look_hook w os))
end Mine
namespace Mine
open PySem PySem.W PySem.Calls PyProof.Rows
theorem said : PySem.Challenge.rw_pf0240_01.wellSaid = true := by kernel_rfl
theorem okM : (chainsOk vwM && opensWell PySem.Challenge.rw_pf0240_01.row.prog && (frees PySem.Challenge.rw_pf0240_01.row.toRowW && PySem.Challenge.rw_pf0240_01.row.within.isEmpty)) = true := by kernel_rfl
theorem bareM : PySem.Challenge.rw_pf0240_01.row.prog.bare := ⟨rfl, rfl, rfl, rfl, rfl, by decide +kernel⟩
theorem promM : PySem.Challenge.rw_pf0240_01.row.promised := by w_witness2
end Mine
namespace Mine
open PySem PySem.W PyProof.Rows

inductive AV where
  | none
  | bool (b : Bool)
  | int (i : Int)
  | str (s : Str)
  | raw (v : Value)
  | ref (a : Addr)
  | tup (vs : List AV)
  | lst (vs : List AV)
  | inst (C : Addr) (fs : List (Str × AV))
  | dct (es : List (List Int × Int))
  | rng (a b c : Int)
  | slc (k : Int)

inductive AO where
  | list (k : Nat) (vs : List AV)
  | inst (C d : Addr)
  | ns (fs : List (Str × AV))

noncomputable abbrev GH := Addr → Option Obj
noncomputable abbrev MH := Addr → Option AO

structure Cx where
  prog : Program
  w : World
  base : Heap

noncomputable abbrev tupObj (xs : List Value) : Obj := { cls := .type "tuple", data := .seq xs.toArray }
noncomputable abbrev rngObj (a b c : Int) (t u v : Tok) : Obj := { cls := .type "range", dict := none, data := .fields #[.int a t, .int b u, .int c v], slots := #[] }
noncomputable abbrev lstObj (xs : Array Value) (n : Nat) : Obj := { cls := .type "list", data := .seq xs n }

noncomputable def valInt : Value → Option Int
  | .int i _ => some i
  | _ => none
mutual
inductive VR (c : Cx) (g : GH) : AV → Value → Prop
  | none : VR c g .none .none
  | bool (b : Bool) : VR c g (.bool b) (.bool b)
  | int (i : Int) (t : Tok) : VR c g (.int i) (.int i t)
  | str (s : Str) (t : Tok) : VR c g (.str s) (.str s t)
  | raw (v : Value) : VR c g (.raw v) v
  | ref (a : Addr) : VR c g (.ref a) (.ref a)
  | tup {vs : List AV} {a : Addr} {o : Obj} {xs : Array Value} {n : Nat} : g a = some o → o.cls = .type "tuple" → o.data = .seq xs n → VRs c g vs xs.toList → VR c g (.tup vs) (.ref a)
  | lst {vs : List AV} {a : Addr} {o : Obj} {xs : Array Value} {n : Nat} : g a = some o → o.cls = .type "list" → o.data = .seq xs n → VRs c g vs xs.toList → VR c g (.lst vs) (.ref a)
  | inst {C d a : Addr} {fs : List (Str × AV)} {es : List DictEntry} {n : Nat} : g a = some (instObj C d) → g d = some (dictOf es n) → VRd c g fs es → VR c g (.inst C fs) (.ref a)
  | dct {a : Addr} {es : List (List Int × Int)} {xs : List (List Int × Addr × Value)} : (∀ h : Heap, (∀ b o, g b = some o → h.get? b = some o) → h.DictOfH (tupleKind (intKind c.prog c.w)) a xs) → xs.map (fun x => (x.1, valInt x.2.2)) = es.map (fun e => (e.1, some e.2)) → VR c g (.dct es) (.ref a)
  | rng {r : Addr} {a b k : Int} {t u v : Tok} : g r = some (rngObj a b k t u v) → VR c g (.rng a b k) (.ref r)
  | slc {r : Addr} {k : Int} {t : Tok} : g r = some { cls := .type "slice", data := .fields #[.none, .none, .int k t] } → VR c g (.slc k) (.ref r)
inductive VRs (c : Cx) (g : GH) : List AV → List Value → Prop
  | nil : VRs c g [] []
  | cons {x : AV} {v : Value} {xs : List AV} {vs : List Value} : VR c g x v → VRs c g xs vs → VRs c g (x :: xs) (v :: vs)
inductive VRd (c : Cx) (g : GH) : List (Str × AV) → List DictEntry → Prop
  | nil : VRd c g [] []
  | cons {x : Str} {t : Tok} {h : Int} {av : AV} {v : Value} {fs : List (Str × AV)} {es : List DictEntry} : VR c g av v → VRd c g fs es → VRd c g ((x, av) :: fs) (⟨h, .str x t, v⟩ :: es)
end

mutual
theorem VR.mono {c : Cx} {g g' : GH} (k : ∀ a o, g a = some o → g' a = some o) : ∀ {x : AV} {v : Value}, VR c g x v → VR c g' x v
  | _, _, .none => .none
  | _, _, .bool b => .bool b
  | _, _, .int i t => .int i t
  | _, _, .str s t => .str s t
  | _, _, .raw v => .raw v
  | _, _, .ref a => .ref a
  | _, _, .tup h1 h2 h3 h4 => .tup (k _ _ h1) h2 h3 (VRs.mono k h4)
  | _, _, .lst h1 h2 h3 h4 => .lst (k _ _ h1) h2 h3 (VRs.mono k h4)
  | _, _, .inst h1 h2 h3 => .inst (k _ _ h1) (k _ _ h2) (VRd.mono k h3)
  | _, _, .dct h1 h2 => .dct (fun h hk => h1 h fun b o e => hk b o (k b o e)) h2
  | _, _, .rng h1 => .rng (k _ _ h1)
  | _, _, .slc h1 => .slc (k _ _ h1)
theorem VRs.mono {c : Cx} {g g' : GH} (k : ∀ a o, g a = some o → g' a = some o) : ∀ {x : List AV} {v : List Value}, VRs c g x v → VRs c g' x v
  | _, _, .nil => .nil
  | _, _, .cons h1 h2 => .cons (VR.mono k h1) (VRs.mono k h2)
theorem VRd.mono {c : Cx} {g g' : GH} (k : ∀ a o, g a = some o → g' a = some o) : ∀ {x : List (Str × AV)} {v : List DictEntry}, VRd c g x v → VRd c g' x v
  | _, _, .nil => .nil
  | _, _, .cons h1 h2 => .cons (VR.mono k h1) (VRd.mono k h2)
end

theorem VRs.length {c : Cx} {g : GH} : ∀ {xs : List AV} {vs : List Value}, VRs c g xs vs → xs.length = vs.length
  | _, _, .nil => rfl
  | _, _, .cons _ h => by rw [List.length_cons, List.length_cons, h.length]
theorem VRs.get {c : Cx} {g : GH} : ∀ {xs : List AV} {vs : List Value} {i : Nat} {x : AV}, VRs c g xs vs → xs[i]? = some x → ∃ v, vs[i]? = some v ∧ VR c g x v
  | _, _, 0, _, .cons h _, e => by cases e; exact ⟨_, rfl, h⟩
  | _, _, i + 1, _, .cons _ h, e => VRs.get (i := i) h e
theorem VRs.append {c : Cx} {g : GH} : ∀ {xs : List AV} {vs : List Value} {ys : List AV} {us : List Value}, VRs c g xs vs → VRs c g ys us → VRs c g (xs ++ ys) (vs ++ us)
  | _, _, _, _, .nil, h => h
  | _, _, _, _, .cons h1 h2, h => .cons h1 (h2.append h)
theorem VRs.set {c : Cx} {g : GH} : ∀ {xs : List AV} {vs : List Value} {i : Nat} {x : AV} {v : Value}, VRs c g xs vs → VR c g x v → VRs c g (xs.set i x) (vs.set i v)
  | _, _, _, _, _, .nil, _ => .nil
  | _, _, 0, _, _, .cons _ h2, h => .cons h h2
  | _, _, _ + 1, _, _, .cons h1 h2, h => .cons h1 (h2.set h)

noncomputable def OR (c : Cx) (g : GH) (h : Heap) (a : Addr) : AO → Prop
  | .list _ vs => ∃ xs n, h.get? a = some (lstObj xs n) ∧ VRs c g vs xs.toList
  | .inst C d => h.get? a = some (instObj C d)
  | .ns fs => ∃ es n, h.get? a = some (dictOf es n) ∧ VRd c g fs es

theorem OR.ex {c : Cx} {g : GH} {h : Heap} {a : Addr} {o : AO} (x : OR c g h a o) : ∃ ob, h.get? a = some ob := by
  cases o with
  | list k vs => obtain ⟨_, _, e, _⟩ := x; exact ⟨_, e⟩
  | inst C d => exact ⟨_, x⟩
  | ns fs => obtain ⟨_, _, e, _⟩ := x; exact ⟨_, e⟩
theorem OR.mono {c : Cx} {g g' : GH} {h h' : Heap} {a : Addr} {o : AO} (k : ∀ a o, g a = some o → g' a = some o) (kh : ∀ o, h.get? a = some o → h'.get? a = some o) (x : OR c g h a o) : OR c g' h' a o := by
  cases o with
  | list k' vs => obtain ⟨xs, n, e, h3⟩ := x; exact ⟨xs, n, kh _ e, h3.mono k⟩
  | inst C d => exact kh _ x
  | ns fs => obtain ⟨es, n, e, h3⟩ := x; exact ⟨es, n, kh _ e, h3.mono k⟩

structure Gd (c : Cx) : Prop where
  X : (hd.heap_39 c.w.params).In c.base
  T : ∃ p loose mg mb, TopRead p loose mg mb c.base

structure Rel (c : Cx) (g : GH) (μ : MH) (h : Heap) : Prop where
  gd : Gd c
  sub : ∀ a o, g a = some o → h.get? a = some o
  bas : ∀ a o, c.base.get? a = some o → g a = some o
  mu : ∀ a o, μ a = some o → g a = none ∧ OR c g h a o

theorem Rel.mu_none {c : Cx} {g : GH} {μ : MH} {h : Heap} (R : Rel c g μ h) {a : Addr} {o : Obj} (e : g a = some o) : μ a = none := by
  cases q : μ a with
  | none => rfl
  | some x => have := (R.mu a x q).1; rw [e] at this; cases this
theorem get_end (h : Heap) : h.get? h.objs.size = none := by
  cases q : h.get? h.objs.size with
  | none => rfl
  | some o => exact absurd (Heap.lt_size q) (Nat.lt_irrefl _)
theorem Rel.fresh_g {c : Cx} {g : GH} {μ : MH} {h : Heap} (R : Rel c g μ h) {a : Addr} (ha : h.get? a = none) : g a = none := by
  cases q : g a with
  | none => rfl
  | some x => rw [R.sub _ _ q] at ha; cases ha
theorem Rel.fresh_mu {c : Cx} {g : GH} {μ : MH} {h : Heap} (R : Rel c g μ h) {a : Addr} (ha : h.get? a = none) : μ a = none := by
  cases q : μ a with
  | none => rfl
  | some x => obtain ⟨_, e'⟩ := (R.mu a x q).2.ex; rw [ha] at e'; cases e'
theorem Rel.nolimit {c : Cx} {g : GH} {μ : MH} {h : Heap} (R : Rel c g μ h) : h.NoLimit := by
  obtain ⟨_, _, _, _, T⟩ := R.gd.T
  exact T.nolimit.keeps fun b o e => R.sub _ _ (R.bas _ _ e)
theorem Rel.old {c : Cx} {g : GH} {μ : MH} {h : Heap} (R : Rel c g μ h) {a : Addr} {o : Obj} (e : c.base.get? a = some o) : h.get? a = some o := R.sub _ _ (R.bas _ _ e)
theorem Rel.KX {c : Cx} {g : GH} {μ : MH} {h : Heap} (R : Rel c g μ h) : (hd.heap_39 c.w.params).In h := R.gd.X.keeps fun _ _ e => R.old e

structure Step (X : Addr → Prop) (g : GH) (μ : MH) (s : Shared) (g' : GH) (μ' : MH) (s' : Shared) : Prop where
  gg : ∀ a o, g a = some o → g' a = some o
  keep : ∀ b o, s.heap.get? b = some o → μ b = none → ¬ X b → s'.heap.get? b = some o
  own : ∀ b o, s.heap.get? b = some o → ¬ X b → μ b = none → g b = none → g' b = none ∧ μ' b = none
  pres : ∀ b o, s.heap.get? b = some o → ¬ X b → ∃ o', s'.heap.get? b = some o'
  gens : s'.gens = s.gens
  os : s'.os = s.os

theorem Step.refl {X : Addr → Prop} {g : GH} {μ : MH} {s : Shared} : Step X g μ s g μ s :=
  ⟨fun _ _ e => e, fun _ _ e _ _ => e, fun _ _ _ _ h1 h2 => ⟨h2, h1⟩, fun _ o e _ => ⟨o, e⟩, rfl, rfl⟩
theorem Step.trans {c : Cx} {X : Addr → Prop} {g g₁ g₂ : GH} {μ μ₁ μ₂ : MH} {s s₁ s₂ : Shared} (x : Step X g μ s g₁ μ₁ s₁) (R : Rel c g₁ μ₁ s₁.heap) (y : Step X g₁ μ₁ s₁ g₂ μ₂ s₂) : Step X g μ s g₂ μ₂ s₂ := by
  refine ⟨fun a o e => y.gg _ _ (x.gg _ _ e), fun b o e h1 h2 => ?_, fun b o hb hx h1 h2 => ?_, fun b o e hx => let ⟨_, e1⟩ := x.pres b o e hx; y.pres b _ e1 hx, y.gens.trans x.gens, y.os.trans x.os⟩
  · refine y.keep _ _ (x.keep _ _ e h1 h2) ?_ h2
    cases q : g b with
    | none => exact (x.own b o e h2 h1 q).2
    | some o' => exact R.mu_none (x.gg _ _ q)
  · obtain ⟨e1, e2⟩ := x.own b o hb hx h1 h2
    obtain ⟨o', e3⟩ := x.pres b o hb hx
    exact y.own b o' e3 hx e2 e1
theorem Step.weaken {X Y : Addr → Prop} {g g' : GH} {μ μ' : MH} {s s' : Shared} (x : Step X g μ s g' μ' s') (h : ∀ a, X a → Y a) : Step Y g μ s g' μ' s' :=
  ⟨x.gg, fun b o e h1 h2 => x.keep b o e h1 (fun q => h2 (h _ q)), fun b o e hx => x.own b o e fun q => hx (h _ q), fun b o e hx => x.pres b o e fun q => hx (h _ q), x.gens, x.os⟩
noncomputable abbrev X0 : Addr → Prop := fun _ => False

inductive Post {α β : Type} (c : Cx) (X : Addr → Prop) (g : GH) (μ : MH) (s : Shared) (R : GH → α → β → Prop) (Q : α → MH → Prop) (v : β) (s' : Shared) : Prop
  | mk (g' : GH) (μ' : MH) (a : α) (st : Step X g μ s g' μ' s') (R' : Rel c g' μ' s'.heap) (r : R g' a v) (q : Q a μ')

structure Room (d : Nat) (A : Around) : Prop where
  hh : A.handled = none
  depth : A.depth + d < recursionLimit
  units : A.units + 30 * d < cLine
theorem Room.deeper {d : Nat} {A : Around} {env : Env} (x : Room (d + 1) A) : Room d (A.deeper env) := ⟨x.hh, by have := x.depth; show A.depth + 1 + d < _; omega, by have := x.units; show A.units + 3 + 30 * d < _; omega⟩
structure Fm where
  env : Env
  ge : List (Str × AV)
  sc : Scope
noncomputable abbrev LE := List (Str × Option AV)

noncomputable def GlobalIs (c : Cx) (x : Str) (v : Value) : Prop :=
  nsIn (hd.heap_39 c.w.params) mainGlobals x = some (some v) ∨ (nsIn (hd.heap_39 c.w.params) mainGlobals x = some none ∧ bootBuiltins x = some v ∧ x ≠ "__name__")

structure FmOk (c : Cx) (F : Fm) : Prop where
  fn : F.env.scope.kind = .function
  sc : F.env.scope = F.sc
  gl : F.env.globals = mainGlobals
  bl : F.env.builtins = builtinsNs
  ge : ∀ x av, (x, av) ∈ F.ge → F.env.kindOf x = some .globalImplicit ∧ ∃ v, GlobalIs c x v ∧ VR c c.base.get? av v
  nd : ∀ x y a, F.env.cells.lookup x = some a → F.env.cells.lookup y = some a → x = y
  nl : ∀ x a, F.env.cells.lookup x = some a → a ≠ F.env.locals

noncomputable def SlotOk (c : Cx) (g : GH) (h : Heap) (env : Env) (m : Str → Option Value) (x : Str) (ov : Option AV) : Prop :=
  (env.kindOf x = some .local ∧ ∀ av, ov = some av → ∃ v, m x = some v ∧ VR c g av v) ∨
  (env.kindOf x = some .cell ∧ ∃ a vo, env.cells.lookup x = some a ∧ h.IsCell a vo ∧ ∀ av, ov = some av → ∃ v, vo = some v ∧ VR c g av v)

noncomputable abbrev privs (env : Env) : Addr → Prop := fun a => a = env.locals ∨ ∃ x, env.cells.lookup x = some a

structure Loc (c : Cx) (g : GH) (μ : MH) (h : Heap) (F : Fm) (le : LE) : Prop where
  ok : FmOk c F
  nd : (le.map (·.1)).Nodup
  ns : ∃ m, h.Ns F.env.locals m ∧ ∀ x ov, (x, ov) ∈ le → SlotOk c g h F.env m x ov
  pv : ∀ a, privs F.env a → g a = none ∧ μ a = none ∧ ∃ o, h.get? a = some o

theorem SlotOk.mono {c : Cx} {g g' : GH} {h h' : Heap} {env : Env} {m : Str → Option Value} {x : Str} {ov : Option AV} (k : ∀ a o, g a = some o → g' a = some o)
    (kh : ∀ a o, (∃ x, env.cells.lookup x = some a) → h.get? a = some o → h'.get? a = some o) (y : SlotOk c g h env m x ov) : SlotOk c g' h' env m x ov := by
  rcases y with ⟨h1, h2⟩ | ⟨h1, a, vo, h2, h3, h4⟩
  · exact .inl ⟨h1, fun av e => let ⟨v, e1, e2⟩ := h2 av e; ⟨v, e1, e2.mono k⟩⟩
  · refine .inr ⟨h1, a, vo, h2, ?_, fun av e => let ⟨v, e1, e2⟩ := h4 av e; ⟨v, e1, e2.mono k⟩⟩
    obtain ⟨o, e1, e2⟩ := h3
    exact ⟨o, kh _ _ ⟨_, h2⟩ e1, e2⟩

theorem Loc.step {c : Cx} {g g' : GH} {μ μ' : MH} {s s' : Shared} {F : Fm} {le : LE} (L : Loc c g μ s.heap F le) (st : Step X0 g μ s g' μ' s') : Loc c g' μ' s'.heap F le := by
  obtain ⟨ok, nd, ⟨m, hm, hs⟩, pv⟩ := L
  have kp : ∀ a o, privs F.env a → s.heap.get? a = some o → s'.heap.get? a = some o := fun a o ha e => st.keep a o e (pv a ha).2.1 id
  refine ⟨ok, nd, ⟨m, ?_, fun x ov hx => (hs x ov hx).mono st.gg fun a o ha e => kp a o (.inr ha) e⟩, fun a ha => ?_⟩
  · obtain ⟨o, es, ep, e, r⟩ := hm
    exact ⟨o, es, ep, kp _ _ (.inl rfl) e, r⟩
  · obtain ⟨e1, e2, o, e3⟩ := pv a ha
    obtain ⟨e4, e5⟩ := st.own a o e3 id e2 e1
    exact ⟨e4, e5, o, kp _ _ ha e3⟩

structure WE (c : Cx) (d : Nat) (F : Fm) (le : LE) (e : Expr) (μ : MH) (Q : AV → MH → Prop) : Prop where
  run : ∀ A g s E, Room d A → Rel c g μ s.heap → Loc c g μ s.heap F le → wpAny (model c.prog c.w) A (eval e F.env) (Post c X0 g μ s (VR c) Q) E s
structure WB (c : Cx) (d : Nat) (F : Fm) (le : LE) (e : Expr) (μ : MH) (Q : Bool → MH → Prop) : Prop where
  run : ∀ A g s E, Room d A → Rel c g μ s.heap → Loc c g μ s.heap F le → wpAny (model c.prog c.w) A (isTrue e F.env (eval e F.env)) (Post c X0 g μ s (fun _ (a b : Bool) => a = b) Q) E s
structure WL (c : Cx) (d : Nat) (F : Fm) (le : LE) (es : List Expr) (pos : Pos) (μ : MH) (Q : List AV → MH → Prop) : Prop where
  run : ∀ A g s E, Room d A → Rel c g μ s.heap → Loc c g μ s.heap F le → wpAny (model c.prog c.w) A (spliced (backTo pos (starEach es F.env))) (Post c X0 g μ s (VRs c) Q) E s
structure BinW (c : Cx) (d : Nat) (op : Operator) (a b : AV) (μ : MH) (Q : AV → MH → Prop) : Prop where
  run : ∀ A g s E va vb, Room d A → Rel c g μ s.heap → VR c g a va → VR c g b vb → wpAny (model c.prog c.w) A (binaryOp op va vb) (Post c X0 g μ s (VR c) Q) E s
structure CmpW (c : Cx) (d : Nat) (op : CmpOp) (a b : AV) (μ : MH) (Q : Bool → MH → Prop) : Prop where
  run : ∀ A g s E va vb, Room d A → Rel c g μ s.heap → VR c g a va → VR c g b vb → wpAny (model c.prog c.w) A (compareOp op va vb) (Post c X0 g μ s (fun _ (a : Bool) v => v = .bool a) Q) E s
structure CallW (c : Cx) (d : Nat) (f : AV) (args : List AV) (μ : MH) (Q : AV → MH → Prop) : Prop where
  run : ∀ A g s E vf vs, Room d A → Rel c g μ s.heap → VR c g f vf → VRs c g args vs → wpAny (model c.prog c.w) A (call vf vs) (Post c X0 g μ s (VR c) Q) E s

inductive Fl where
  | next | cont | ret (v : AV)
noncomputable def FlR (c : Cx) (g : GH) : Fl → Flow → Prop
  | .next, f => f = .next
  | .cont, f => f = .cont
  | .ret a, f => ∃ v, f = .ret v ∧ VR c g a v

inductive PostS (c : Cx) (F : Fm) (g : GH) (μ : MH) (s : Shared) (Q : Fl → LE → MH → Prop) (f : Flow) (s' : Shared) : Prop
  | mk (g' : GH) (μ' : MH) (a : Fl) (le' : LE) (st : Step (privs F.env) g μ s g' μ' s') (R' : Rel c g' μ' s'.heap) (r : FlR c g' a f) (L' : Loc c g' μ' s'.heap F le') (q : Q a le' μ')
structure WS (c : Cx) (d : Nat) (F : Fm) (le : LE) (st : Stmt) (μ : MH) (Q : Fl → LE → MH → Prop) : Prop where
  run : ∀ A g s E, Room d A → Rel c g μ s.heap → Loc c g μ s.heap F le → wpAny (model c.prog c.w) A (exec st F.env) (PostS c F g μ s Q) E s
structure WSs (c : Cx) (d : Nat) (F : Fm) (le : LE) (sts : List Stmt) (μ : MH) (Q : Fl → LE → MH → Prop) : Prop where
  run : ∀ A g s E, Room d A → Rel c g μ s.heap → Loc c g μ s.heap F le → wpAny (model c.prog c.w) A (execs sts F.env) (PostS c F g μ s Q) E s
noncomputable def PX (F : Fm) : Bool → Addr → Prop
  | true => fun a => a = F.env.locals
  | false => privs F.env
structure WAb (b : Bool) (c : Cx) (d : Nat) (F : Fm) (le : LE) (t : Expr) (a : AV) (μ : MH) (Q : LE → MH → Prop) : Prop where
  run : ∀ A g s E v, Room d A → Rel c g μ s.heap → Loc c g μ s.heap F le → VR c g a v → wpAny (model c.prog c.w) A (assign t F.env v)
    (fun _ s' => ∃ g' μ' le', Step (PX F b) g μ s g' μ' s' ∧ Rel c g' μ' s'.heap ∧ Loc c g' μ' s'.heap F le' ∧ Q le' μ') E s
noncomputable abbrev WA := WAb false

theorem Post.of {α β : Type} {c : Cx} {X : Addr → Prop} {g : GH} {μ : MH} {s s' : Shared} {R : GH → α → β → Prop} {Q : α → MH → Prop} {v : β} {g' : GH} {μ' : MH} {a : α}
    (st : Step X g μ s g' μ' s') (R' : Rel c g' μ' s'.heap) (r : R g' a v) (q : Q a μ') : Post c X g μ s R Q v s' := ⟨g', μ', a, st, R', r, q⟩
theorem Rel.tok {c : Cx} {g : GH} {μ : MH} {s : Shared} (R : Rel c g μ s.heap) : Rel c g μ ({ s with toks := s.toks + 1 } : Shared).heap := R
theorem Step.tok {X : Addr → Prop} {g : GH} {μ : MH} {s : Shared} {t : Nat} : Step X g μ s g μ { s with toks := t } :=
  ⟨fun _ _ e => e, fun _ _ e _ _ => e, fun _ _ _ _ h1 h2 => ⟨h2, h1⟩, fun _ o e _ => ⟨o, e⟩, rfl, rfl⟩

theorem Post.trans {α β : Type} {c : Cx} {X : Addr → Prop} {g g₁ : GH} {μ μ₁ : MH} {s s₁ : Shared} {R : GH → α → β → Prop} {Q : α → MH → Prop}
    (st : Step X g μ s g₁ μ₁ s₁) (R₁ : Rel c g₁ μ₁ s₁.heap) {v : β} {s' : Shared} (h : Post c X g₁ μ₁ s₁ R Q v s') : Post c X g μ s R Q v s' := by
  obtain ⟨g', μ', a, st', R', r, q⟩ := h
  exact ⟨g', μ', a, st.trans R₁ st', R', r, q⟩

theorem seqW {α β α' β' : Type} {c : Cx} {A : Around} {X : Addr → Prop} {g : GH} {μ : MH} {s : Shared} {E : Value → Shared → Prop} {t : Sem β} {k : β → Sem β'} {R : GH → α → β → Prop} {Q : α → MH → Prop}
    {R' : GH → α' → β' → Prop} {Q' : α' → MH → Prop} (h : wpAny (model c.prog c.w) A t (Post c X g μ s R Q) E s)
    (hk : ∀ g₁ μ₁ s₁ a v, Step X g μ s g₁ μ₁ s₁ → Rel c g₁ μ₁ s₁.heap → R g₁ a v → Q a μ₁ → wpAny (model c.prog c.w) A (k v) (Post c X g₁ μ₁ s₁ R' Q') E s₁) :
    wpAny (model c.prog c.w) A (t >>= k) (Post c X g μ s R' Q') E s := by
  refine wpAny_bind (wpAny_mono h (fun v s₁ ⟨g₁, μ₁, a, st, R₁, r, q⟩ => ?_) fun _ _ e => e)
  refine wpAny_mono (hk g₁ μ₁ s₁ a v st R₁ r q) (fun v' s' h' => ?_) fun _ _ e => e
  obtain ⟨g', μ', a', st', R'', r', q'⟩ := h'
  exact ⟨g', μ', a', st.trans R₁ st', R'', r', q'⟩
theorem seqN {α β : Type} {c : Cx} {A : Around} {X : Addr → Prop} {g : GH} {μ : MH} {s : Shared} {E : Value → Shared → Prop} {t : Sem β} {R : GH → α → β → Prop} {Q : α → MH → Prop}
    {P : β → Shared → Prop} (h : wpAny (model c.prog c.w) A t (Post c X g μ s R Q) E s)
    (hk : ∀ g₁ μ₁ s₁ a v, Step X g μ s g₁ μ₁ s₁ → Rel c g₁ μ₁ s₁.heap → R g₁ a v → Q a μ₁ → P v s₁) :
    wpAny (model c.prog c.w) A t P E s :=
  wpAny_mono h (fun v s₁ ⟨g₁, μ₁, a, st, R₁, r, q⟩ => hk g₁ μ₁ s₁ a v st R₁ r q) fun _ _ e => e
noncomputable def updM (μ : MH) (a : Addr) (o : AO) : MH := fun b => if b = a then some o else μ b
noncomputable def updG (g : GH) (a : Addr) (o : Obj) : GH := fun b => if b = a then some o else g b
theorem updM_self (μ : MH) (a : Addr) (o : AO) : updM μ a o a = some o := if_pos rfl
theorem updM_ne {μ : MH} {a b : Addr} {o : AO} (h : b ≠ a) : updM μ a o b = μ b := if_neg h
theorem updM_updM (μ : MH) (a : Addr) (o o' : AO) : updM (updM μ a o) a o' = updM μ a o' := by
  funext b; unfold updM; split <;> rfl
theorem updG_grows {g : GH} {a : Addr} {o : Obj} (h : g a = none) : ∀ b o', g b = some o' → updG g a o b = some o' := fun b o' e => by
  unfold updG; split
  · rename_i q; subst q; rw [h] at e; cases e
  · exact e

theorem Rel.ext {c : Cx} {g : GH} {μ : MH} {h h' : Heap} (R : Rel c g μ h) (k : ∀ b o, h.get? b = some o → h'.get? b = some o) : Rel c g μ h' :=
  ⟨R.gd, fun a o e => k _ _ (R.sub a o e), R.bas, fun a o e => ⟨(R.mu a o e).1, (R.mu a o e).2.mono (fun _ _ e => e) fun o e => k _ _ e⟩⟩
theorem Step.ext {X : Addr → Prop} {g : GH} {μ : MH} {s : Shared} {h' : Heap} {t : Nat} (k : ∀ b o, s.heap.get? b = some o → h'.get? b = some o) : Step X g μ s g μ { s with heap := h', toks := t } :=
  ⟨fun _ _ e => e, fun b o e _ _ => k b o e, fun _ _ _ _ h1 h2 => ⟨h2, h1⟩, fun b o e _ => ⟨o, k b o e⟩, rfl, rfl⟩
theorem Rel.addG {c : Cx} {g : GH} {μ : MH} {h h' : Heap} (R : Rel c g μ h) (k : ∀ b o, h.get? b = some o → h'.get? b = some o) {a : Addr} {o : Obj} (hn : h.get? a = none) (ho : h'.get? a = some o) : Rel c (updG g a o) μ h' := by
  have gn := R.fresh_g hn
  have mn := R.fresh_mu hn
  refine ⟨R.gd, fun b o' e => ?_, fun b o' e => updG_grows gn _ _ (R.bas _ _ e), fun b o' e => ⟨?_, (R.mu b o' e).2.mono (updG_grows gn) fun o e => k _ _ e⟩⟩
  · unfold updG at e; split at e
    · rename_i q; subst q; cases e; exact ho
    · exact k _ _ (R.sub _ _ e)
  · unfold updG; split
    · rename_i q; subst q; rw [mn] at e; cases e
    · exact (R.mu b o' e).1
theorem Step.addG {c : Cx} {X : Addr → Prop} {g : GH} {μ : MH} {s : Shared} {h' : Heap} {t : Nat} (R : Rel c g μ s.heap) (k : ∀ b o, s.heap.get? b = some o → h'.get? b = some o) {a : Addr} {o : Obj} (hn : s.heap.get? a = none) :
    Step X g μ s (updG g a o) μ { s with heap := h', toks := t } :=
  ⟨updG_grows (R.fresh_g hn), fun b o e _ _ => k b o e, fun b o' e _ h1 h2 => ⟨by
    unfold updG; split
    · rename_i q; subst q; rw [hn] at e; cases e
    · exact h2, h1⟩, fun b o e _ => ⟨o, k b o e⟩, rfl, rfl⟩
theorem Rel.addM {c : Cx} {g : GH} {μ : MH} {h h' : Heap} (R : Rel c g μ h) (k : ∀ b o, h.get? b = some o → h'.get? b = some o) {a : Addr} {o : AO} (hn : h.get? a = none) (ho : OR c g h' a o) : Rel c g (updM μ a o) h' := by
  refine ⟨R.gd, fun b o' e => k _ _ (R.sub _ _ e), R.bas, fun b o' e => ?_⟩
  unfold updM at e; split at e
  · rename_i q; subst q; cases e; exact ⟨R.fresh_g hn, ho⟩
  · exact ⟨(R.mu b o' e).1, (R.mu b o' e).2.mono (fun _ _ e => e) fun o e => k _ _ e⟩
theorem Step.addM {c : Cx} {X : Addr → Prop} {g : GH} {μ : MH} {s : Shared} {h' : Heap} {t : Nat} (R : Rel c g μ s.heap) (k : ∀ b o, s.heap.get? b = some o → h'.get? b = some o) {a : Addr} {o : AO} (hn : s.heap.get? a = none) :
    Step X g μ s g (updM μ a o) { s with heap := h', toks := t } :=
  ⟨fun _ _ e => e, fun b o e _ _ => k b o e, fun b o' e _ h1 h2 => ⟨h2, by
    rw [updM_ne]
    · exact h1
    · intro q; subst q; rw [hn] at e; cases e⟩, fun b o e _ => ⟨o, k b o e⟩, rfl, rfl⟩
theorem Rel.setM {c : Cx} {g : GH} {μ : MH} {h h' : Heap} (R : Rel c g μ h) {a : Addr} {o₀ o : AO} (hm : μ a = some o₀) (hs : Heap.SameBut a h h') (ho : OR c g h' a o) : Rel c g (updM μ a o) h' := by
  have gn := (R.mu a o₀ hm).1
  refine ⟨R.gd, fun b o' e => (hs.2 b ?_).trans (R.sub _ _ e), R.bas, fun b o' e => ?_⟩
  · intro q; subst q; rw [gn] at e; cases e
  · unfold updM at e; split at e
    · rename_i q; subst q; cases e; exact ⟨gn, ho⟩
    · rename_i q; exact ⟨(R.mu b o' e).1, (R.mu b o' e).2.mono (fun _ _ e => e) fun o e => (hs.2 b q).trans e⟩
theorem Step.setM {c : Cx} {X : Addr → Prop} {g : GH} {μ : MH} {s : Shared} {h' : Heap} {t : Nat} (R : Rel c g μ s.heap) {a : Addr} {o₀ o : AO} (hm : μ a = some o₀) (hs : Heap.SameBut a s.heap h') (ho : OR c g h' a o) :
    Step X g μ s g (updM μ a o) { s with heap := h', toks := t } :=
  ⟨fun _ _ e => e, fun b o e h1 _ => (hs.2 b fun q => by subst q; rw [hm] at h1; cases h1).trans e, fun b o' e _ h1 h2 => ⟨h2, by
    rw [updM_ne]
    · exact h1
    · intro q; subst q; rw [hm] at h1; cases h1⟩, fun b o' e _ => by
      by_cases q : b = a
      · subst q; exact ho.ex
      · exact ⟨o', (hs.2 b q).trans e⟩, rfl, rfl⟩
theorem Rel.priv {c : Cx} {g : GH} {μ : MH} {h h' : Heap} (R : Rel c g μ h) {a : Addr} (hg : g a = none) (hm : μ a = none) (hs : Heap.SameBut a h h') : Rel c g μ h' := by
  refine ⟨R.gd, fun b o' e => (hs.2 b ?_).trans (R.sub _ _ e), R.bas, fun b o' e => ⟨(R.mu b o' e).1, (R.mu b o' e).2.mono (fun _ _ e => e) fun o e2 => (hs.2 b ?_).trans e2⟩⟩
  · intro q; subst q; rw [hg] at e; cases e
  · intro q; subst q; rw [hm] at e; cases e
theorem Step.priv {X : Addr → Prop} {g : GH} {μ : MH} {s : Shared} {h' : Heap} {t : Nat} {a : Addr} (hX : X a) (hs : Heap.SameBut a s.heap h') : Step X g μ s g μ { s with heap := h', toks := t } :=
  ⟨fun _ _ e => e, fun b o e _ h2 => (hs.2 b fun q => h2 (q ▸ hX)).trans e, fun _ _ _ _ h1 h2 => ⟨h2, h1⟩, fun b o e h2 => ⟨o, (hs.2 b fun q => h2 (q ▸ hX)).trans e⟩, rfl, rfl⟩
theorem Step.privE {X : Addr → Prop} {g : GH} {μ : MH} {s : Shared} {h' : Heap} {t : Nat} (hs : ∀ b o, ¬ X b → s.heap.get? b = some o → h'.get? b = some o) : Step X g μ s g μ { s with heap := h', toks := t } :=
  ⟨fun _ _ e => e, fun b o e _ h2 => hs b o h2 e, fun _ _ _ _ h1 h2 => ⟨h2, h1⟩, fun b o e h2 => ⟨o, hs b o h2 e⟩, rfl, rfl⟩
theorem Rel.privE {c : Cx} {g : GH} {μ : MH} {h h' : Heap} {X : Addr → Prop} (R : Rel c g μ h) (hX : ∀ a, X a → g a = none ∧ μ a = none) (hs : ∀ b o, ¬ X b → h.get? b = some o → h'.get? b = some o) : Rel c g μ h' :=
  ⟨R.gd, fun b o e => hs b o (fun q => by rw [(hX b q).1] at e; cases e) (R.sub _ _ e), R.bas, fun b o e => ⟨(R.mu b o e).1, (R.mu b o e).2.mono (fun _ _ e => e) fun o' e2 => hs b o' (fun q => by rw [(hX b q).2] at e; cases e) e2⟩⟩
theorem push_keeps (h : Heap) (o : Obj) : ∀ b o', h.get? b = some o' → (h.push o).get? b = some o' := fun _ _ e => Heap.get?_push_of_some o e

theorem relW {M : Model} {A : Around} {E : Value → Shared → Prop} {s : Shared} {vs k : List Value} {Q : Unit → Shared → Prop} (h : Q () s) : wpAny M A (release vs k) Q E s := fun Γ p hΓ => by
  rw [Sem.wp_release]; exact h
theorem opW {M : Model} {A : Around} {E : Value → Shared → Prop} {s : Shared} {vs : List Value} {m : Sem Value} {Q : Value → Shared → Prop} (h : wpAny M A m Q E s) : wpAny M A (operate vs m) Q E s := fun Γ p hΓ => by
  rw [Sem.wp_operate]; exact h Γ p hΓ
end Mine
namespace Mine
open PySem PySem.W PyProof.Rows

inductive Has (x : Str) (a : AV) : LE → Prop
  | here {r : LE} : Has x a ((x, some a) :: r)
  | there {y : Str} {o : Option AV} {r : LE} : Has x a r → Has x a ((y, o) :: r)
inductive HasG (x : Str) (a : AV) : List (Str × AV) → Prop
  | here {r : List (Str × AV)} : HasG x a ((x, a) :: r)
  | there {y : Str} {o : AV} {r : List (Str × AV)} : HasG x a r → HasG x a ((y, o) :: r)
theorem Has.mem {x : Str} {a : AV} : ∀ {le : LE}, Has x a le → (x, some a) ∈ le
  | _, .here => .head _
  | _, .there h => .tail _ h.mem
theorem HasG.mem {x : Str} {a : AV} : ∀ {le : List (Str × AV)}, HasG x a le → (x, a) ∈ le
  | _, .here => .head _
  | _, .there h => .tail _ h.mem

section
variable {c : Cx} {d : Nat} {F : Fm} {le : LE} {μ : MH} {x : Str} {av : AV} {p : Pos}

theorem we_name_of (hx : (x == ("__debug__" : Str)) = false) {Q : AV → MH → Prop}
    (h : ∀ A g s E, Room d A → Rel c g μ s.heap → Loc c g μ s.heap F le → wpAny (model c.prog c.w) A (loadName F.env x) (Post c X0 g μ s (VR c) Q) E s) : WE c d F le (.Name x p) μ Q :=
  .mk fun A g s E hA hR hL => wpAny_Name (h A g s E hA hR hL) hx

theorem loadW {A : Around} {g : GH} {s : Shared} {E : Value → Shared → Prop} {Q : Value → Shared → Prop} (hL : Loc c g μ s.heap F le) (h : (x, some av) ∈ le) (hQ : ∀ v, VR c g av v → Q v s) : wpAny (model c.prog c.w) A (loadName F.env x) Q E s := by
  obtain ⟨ok, nd, ⟨m, hm, hs⟩, pv⟩ := hL
  rcases hs x _ h with ⟨h1, h2⟩ | ⟨h1, a, vo, h2, h3, h4⟩
  · obtain ⟨v, e1, e2⟩ := h2 av rfl
    exact wpAny_loadName_local ok.fn h1 hm e1 (hQ v e2)
  · obtain ⟨v, e1, e2⟩ := h4 av rfl
    subst e1
    exact wpAny_loadName_cell ok.fn h1 h2 h3 (hQ v e2)
theorem we_local (h : Has x av le) {Q : AV → MH → Prop} (hQ : Q av μ) (hx : (x == ("__debug__" : Str)) = false := by kernel_rfl) : WE c d F le (.Name x p) μ Q :=
  we_name_of hx fun A g s E hA hR hL => loadW hL h.mem fun v e2 => .of .refl hR e2 hQ

theorem we_glob (h : HasG x av F.ge) {Q : AV → MH → Prop} (hQ : Q av μ) (hx : (x == ("__debug__" : Str)) = false := by kernel_rfl) : WE c d F le (.Name x p) μ Q :=
  .mk fun A g s E hA hR hL => by
    obtain ⟨hk, v, hv, hr⟩ := hL.ok.ge x av h.mem
    obtain ⟨p', lo, mg, mb, T⟩ := hR.gd.T
    have kb : ∀ b o, c.base.get? b = some o → s.heap.get? b = some o := fun b o e => hR.old e
    have T' := T.keeps kb
    have q : Post c X0 g μ s (VR c) Q v s := .of .refl hR (hr.mono hR.bas) hQ
    refine Calls.Name_function_global hL.ok.fn hk ?_ hx
    rcases hv with hv | ⟨h1, h2, h3⟩
    · exact Calls.loadGlobal_global (by rw [hL.ok.gl]; exact T'.g) (mg_of hR.gd.X T.g hv) q
    · exact Calls.loadGlobal_builtin (by rw [hL.ok.gl]; exact T'.g) (mg_none_of hR.gd.X T.g h1) (by rw [hL.ok.bl]; exact T'.b) ((T'.builtins x h3).trans h2) q

theorem we_int {i : Int} {k : Nat} {Q : AV → MH → Prop} (hQ : Q (.int i) μ) : WE c d F le (.Constant (.int i) k p) μ Q :=
  .mk fun A g s E hA hR hL => wpAny_Constant_int (.of .tok hR.tok (.int ..) hQ)
theorem we_none {k : Nat} {Q : AV → MH → Prop} (hQ : Q .none μ) : WE c d F le (.Constant .none k p) μ Q :=
  .mk fun A g s E hA hR hL => wpAny_pure (.of .refl hR .none hQ)
theorem we_bool {b : Bool} {k : Nat} {Q : AV → MH → Prop} (hQ : Q (.bool b) μ) : WE c d F le (.Constant (.bool b) k p) μ Q :=
  .mk fun A g s E hA hR hL => wpAny_pure (.of .refl hR (.bool _) hQ)
theorem we_str {y : Str} {k : Nat} {Q : AV → MH → Prop} (hQ : Q (.str y) μ) : WE c d F le (.Constant (.str y) k p) μ Q :=
  .mk fun A g s E hA hR hL => Calls.Constant_str (.of .tok hR.tok (.str ..) hQ)

/- what follows a part, as words: the terms stay small -/
noncomputable abbrev kBin2 (c : Cx) (d : Nat) (op : Operator) (Q : AV → MH → Prop) (a : AV) : AV → MH → Prop := fun b μ₂ => BinW c d op a b μ₂ Q
noncomputable abbrev kBin (c : Cx) (d : Nat) (F : Fm) (le : LE) (r : Expr) (op : Operator) (Q : AV → MH → Prop) : AV → MH → Prop := fun a μ₁ => WE c d F le r μ₁ (kBin2 c d op Q a)
noncomputable abbrev kTruth (Q : AV → MH → Prop) : Bool → MH → Prop := fun t μ₃ => Q (.bool t) μ₃
noncomputable abbrev kCmp2 (c : Cx) (d : Nat) (op : CmpOp) (Q : Bool → MH → Prop) (a : AV) : AV → MH → Prop := fun b μ₂ => CmpW c d op a b μ₂ Q
noncomputable abbrev kCmp (c : Cx) (d : Nat) (F : Fm) (le : LE) (r : Expr) (op : CmpOp) (Q : Bool → MH → Prop) : AV → MH → Prop := fun a μ₁ => WE c d F le r μ₁ (kCmp2 c d op Q a)
noncomputable abbrev kChain (c : Cx) (d : Nat) (F : Fm) (le : LE) (r2 : Expr) (op2 : CmpOp) (Q : Bool → MH → Prop) (b : AV) : Bool → MH → Prop := fun t μ₃ => (t = false → Q false μ₃) ∧ (t = true → WE c d F le r2 μ₃ (kCmp2 c d op2 Q b))
noncomputable abbrev kChain2 (c : Cx) (d : Nat) (F : Fm) (le : LE) (op : CmpOp) (r2 : Expr) (op2 : CmpOp) (Q : Bool → MH → Prop) (a : AV) : AV → MH → Prop := fun b μ₂ => CmpW c d op a b μ₂ (kChain c d F le r2 op2 Q b)
theorem we_bin {l r : Expr} {op : Operator} {Q : AV → MH → Prop} (h : WE c d F le l μ (kBin c d F le r op Q)) : WE c d F le (.BinOp l op r p) μ Q :=
  .mk fun A g s E hA hR hL => wpAny_BinOp (seqN (h.run A g s E hA hR hL) fun g₁ μ₁ s₁ a va st₁ R₁ v₁ q₁ => seqN (q₁.run A g₁ s₁ E hA R₁ (hL.step st₁)) fun g₂ μ₂ s₂ b vb st₂ R₂ v₂ q₂ =>
    wpAny_mono (q₂.run A g₂ s₂ E va vb hA R₂ (v₁.mono st₂.gg) v₂) (fun v s' h' => (h'.trans st₂ R₂).trans st₁ R₁) fun _ _ e => e)

theorem bin_add {a b : Int} {Q : AV → MH → Prop} (h : Q (.int (a + b)) μ) : BinW c d .Add (.int a) (.int b) μ Q := .mk fun A g s E va vb hA hR h1 h2 => by
  cases h1; cases h2; exact PyProof.Rows.add_int (.of .tok hR.tok (.int ..) h)
theorem bin_sub {a b : Int} {Q : AV → MH → Prop} (h : Q (.int (a - b)) μ) : BinW c d .Sub (.int a) (.int b) μ Q := .mk fun A g s E va vb hA hR h1 h2 => by
  cases h1; cases h2; exact PyProof.Rows.sub_int (.of .tok hR.tok (.int ..) h)
theorem bin_mul {a b : Int} {Q : AV → MH → Prop} (hm : a.natAbs < 2 ^ 64 ∨ b.natAbs < 2 ^ 64) (h : Q (.int (a * b)) μ) : BinW c d .Mult (.int a) (.int b) μ Q := .mk fun A g s E va vb hA hR h1 h2 => by
  cases h1; cases h2
  refine PyProof.Rows.mul_int (.of .tok hR.tok (.int ..) h) ?_
  rcases hm with hm | hm
  · exact IntMulOk.of_left (intBits_le hm)
  · exact IntMulOk.of_right (intBits_le hm)
theorem bin_floordiv {a b : Int} {Q : AV → MH → Prop} (h0 : b ≠ 0) (hm : b.natAbs < 1073741824) (h : Q (.int (a.fdiv b)) μ) : BinW c d .FloorDiv (.int a) (.int b) μ Q := .mk fun A g s E va vb hA hR h1 h2 => by
  cases h1; cases h2; exact PyProof.Rows.floordiv_int h0 (.of .tok hR.tok (.int ..) h) (.inl (PyProof.noPylong_small hm))
theorem bin_mod {a b : Int} {Q : AV → MH → Prop} (h0 : b ≠ 0) (h : Q (.int (a.fmod b)) μ) : BinW c d .Mod (.int a) (.int b) μ Q := .mk fun A g s E va vb hA hR h1 h2 => by
  cases h1; cases h2; exact PyProof.Rows.mod_int h0 (.of .tok hR.tok (.int ..) h)
theorem bin_shl {a b : Int} {Q : AV → MH → Prop} (h0 : 0 ≤ b) (h1 : b ≤ 1000000) (ha : a.natAbs < 2 ^ 64) (h : Q (.int (a * 2 ^ b.toNat)) μ) : BinW c d .LShift (.int a) (.int b) μ Q := .mk fun A g s E va vb hA hR e1 e2 => by
  cases e1; cases e2; exact PyProof.Rows.lshift_int_small h0 h1 ha (.of .tok hR.tok (.int ..) h)
theorem bin_pow {a b : Int} {Q : AV → MH → Prop} (h0 : 0 ≤ b) (h1 : b ≤ 1000000) (ha : a.natAbs < 2 ^ 64) (h : Q (.int (a ^ b.toNat)) μ) : BinW c d .Pow (.int a) (.int b) μ Q := .mk fun A g s E va vb hA hR e1 e2 => by
  cases e1; cases e2; exact PyProof.Rows.pow_int_small h0 h1 ha (.of .tok hR.tok (.int ..) h)

theorem cmp_eq {a b : Int} {Q : Bool → MH → Prop} (h : Q (a == b) μ) : CmpW c d .Eq (.int a) (.int b) μ Q := .mk fun A g s E va vb hA hR h1 h2 => by
  cases h1; cases h2; exact PyProof.Rows.eq_int (.of .refl hR rfl h)
theorem cmp_ne {a b : Int} {Q : Bool → MH → Prop} (h : Q (a != b) μ) : CmpW c d .NotEq (.int a) (.int b) μ Q := .mk fun A g s E va vb hA hR h1 h2 => by
  cases h1; cases h2; exact PyProof.Rows.ne_int (.of .refl hR rfl h)
theorem cmp_lt {a b : Int} {Q : Bool → MH → Prop} (h : Q (decide (a < b)) μ) : CmpW c d .Lt (.int a) (.int b) μ Q := .mk fun A g s E va vb hA hR h1 h2 => by
  cases h1; cases h2; exact PyProof.Rows.lt_int (.of .refl hR rfl h)
theorem cmp_gt {a b : Int} {Q : Bool → MH → Prop} (h : Q (decide (b < a)) μ) : CmpW c d .Gt (.int a) (.int b) μ Q := .mk fun A g s E va vb hA hR h1 h2 => by
  cases h1; cases h2; exact PyProof.Rows.gt_int (.of .refl hR rfl h)
theorem cmp_le {a b : Int} {Q : Bool → MH → Prop} (h : Q (decide (a ≤ b)) μ) : CmpW c d .LtE (.int a) (.int b) μ Q := .mk fun A g s E va vb hA hR h1 h2 => by
  cases h1; cases h2; exact PyProof.Rows.le_int (.of .refl hR rfl h)
theorem cmp_ge {a b : Int} {Q : Bool → MH → Prop} (h : Q (decide (b ≤ a)) μ) : CmpW c d .GtE (.int a) (.int b) μ Q := .mk fun A g s E va vb hA hR h1 h2 => by
  cases h1; cases h2; exact PyProof.Rows.ge_int (.of .refl hR rfl h)

theorem we_cmp {l r : Expr} {op : CmpOp} {Q : AV → MH → Prop} (h : WE c d F le l μ (kCmp c d F le r op (kTruth Q)))
    (hm : behindInMarks op r = false := by with_unfolding_all rfl) : WE c d F le (.Compare l [op] [r] p) μ Q :=
  .mk fun A g s E hA hR hL => wpAny_Compare1 (seqN (h.run A g s E hA hR hL) fun g₁ μ₁ s₁ a va st₁ R₁ v₁ q₁ => seqN (q₁.run A g₁ s₁ E hA R₁ (hL.step st₁)) fun g₂ μ₂ s₂ b vb st₂ R₂ v₂ q₂ =>
    seqN (q₂.run A g₂ s₂ E va vb hA R₂ (v₁.mono st₂.gg) v₂) fun g₃ μ₃ s₃ t vt st₃ R₃ v₃ q₃ => by
      subst v₃
      exact .of ((st₁.trans R₁ st₂).trans R₂ st₃) R₃ (.bool _) q₃) hm
theorem wb_cmp {l r : Expr} {op : CmpOp} {Q : Bool → MH → Prop} (h : WE c d F le l μ (kCmp c d F le r op Q))
    (hm : behindInMarks op r = false := by with_unfolding_all rfl) : WB c d F le (.Compare l [op] [r] p) μ Q :=
  .mk fun A g s E hA hR hL => wpAny_isTrue_Compare1 (seqN (h.run A g s E hA hR hL) fun g₁ μ₁ s₁ a va st₁ R₁ v₁ q₁ => seqN (q₁.run A g₁ s₁ E hA R₁ (hL.step st₁)) fun g₂ μ₂ s₂ b vb st₂ R₂ v₂ q₂ =>
    seqN (q₂.run A g₂ s₂ E va vb hA R₂ (v₁.mono st₂.gg) v₂) fun g₃ μ₃ s₃ t vt st₃ R₃ v₃ q₃ => by
      subst v₃
      exact wpAny_truthy_bool (.of ((st₁.trans R₁ st₂).trans R₂ st₃) R₃ rfl q₃)) hm
theorem wb_cmp2 {l r r2 : Expr} {op op2 : CmpOp} {Q : Bool → MH → Prop} (h : WE c d F le l μ (fun a μ₁ => WE c d F le r μ₁ (kChain2 c d F le op r2 op2 Q a)))
    (hm : behindInMarks op2 r2 = false := by with_unfolding_all rfl) : WB c d F le (.Compare l [op, op2] [r, r2] p) μ Q := .mk fun A g s E hA hR hL => by
  show wpAny _ _ (do testChain p (← eval l F.env) [op, op2] [eval r F.env, markedBehindIn op2 r2 (eval r2 F.env)]) _ _ _
  rw [markedBehindIn_of_false hm]
  refine seqW (h.run A g s E hA hR hL) fun g₁ μ₁ s₁ a va st₁ R₁ v₁ q₁ => ?_
  unfold testChain
  refine wpAny_bind (wpAny_holding (seqN (q₁.run A g₁ s₁ E hA R₁ (hL.step st₁)) fun g₂ μ₂ s₂ b vb st₂ R₂ v₂ q₂ => wpAny_bind (wpAny_standAt (wpAny_bind (wpAny_holding
    (seqN (q₂.run A g₂ s₂ E va vb hA R₂ (v₁.mono st₂.gg) v₂) fun g₃ μ₃ s₃ t vt st₃ R₃ v₃ q₃ => ?_))))))
  subst v₃
  have st12 := st₂.trans R₂ st₃
  refine wpAny_bind (relW (wpAny_bind (wpAny_holding (wpAny_truthy_bool ?_))))
  cases t with
  | false => exact wpAny_pure (.of st12 R₃ rfl (q₃.1 rfl))
  | true =>
    rw [if_pos rfl]
    unfold testChain
    refine wpAny_bind (wpAny_holding (seqN ((q₃.2 rfl).run A g₃ s₃ E hA R₃ ((hL.step st₁).step st12)) fun g₄ μ₄ s₄ b2 vb2 st₄ R₄ v₄ q₄ => wpAny_bind (wpAny_standAt (wpAny_bind (opW
      (seqN (q₄.run A g₄ s₄ E vb vb2 hA R₄ (v₂.mono fun _ _ e => st₄.gg _ _ (st₃.gg _ _ e)) v₄) fun g₅ μ₅ s₅ t5 vt5 st₅ R₅ v₅ q₅ => ?_))))))
    subst v₅
    exact wpAny_holding (wpAny_truthy_bool (.of ((st12.trans R₃ st₄).trans R₄ st₅) R₅ rfl q₅))
end
end Mine
namespace Mine
open PySem PySem.W PyProof.Rows

section
variable {c : Cx} {d : Nat} {F : Fm} {le : LE} {μ : MH} {x : Str} {av : AV} {p : Pos}

theorem Post.step {α β : Type} {X : Addr → Prop} {g g₁ : GH} {μ₁ : MH} {s s₁ : Shared} {R : GH → α → β → Prop} {Q : α → MH → Prop} (st : Step X g μ s g₁ μ₁ s₁) (R₁ : Rel c g₁ μ₁ s₁.heap)
    {M : Model} {A : Around} {E : Value → Shared → Prop} {t : Sem β} (h : wpAny M A t (Post c X g₁ μ₁ s₁ R Q) E s₁) : wpAny M A t (Post c X g μ s R Q) E s₁ :=
  wpAny_mono h (fun _ _ q => q.trans st R₁) fun _ _ e => e

noncomputable abbrev kOf (Q : Bool → MH → Prop) : AV → MH → Prop := fun a μ' => ∃ b, a = .bool b ∧ Q b μ'
noncomputable abbrev kAnd (c : Cx) (d : Nat) (F : Fm) (le : LE) (e₂ : Expr) (Q : Bool → MH → Prop) : Bool → MH → Prop := fun b μ₁ => (b = false → Q false μ₁) ∧ (b = true → WB c d F le e₂ μ₁ Q)
noncomputable abbrev kOr (c : Cx) (d : Nat) (F : Fm) (le : LE) (e₂ : Expr) (Q : Bool → MH → Prop) : Bool → MH → Prop := fun b μ₁ => (b = true → Q true μ₁) ∧ (b = false → WB c d F le e₂ μ₁ Q)
noncomputable abbrev kIfE (c : Cx) (d : Nat) (F : Fm) (le : LE) (b o : Expr) (Q : AV → MH → Prop) : Bool → MH → Prop := fun q μ₁ => (q = true → WE c d F le b μ₁ Q) ∧ (q = false → WE c d F le o μ₁ Q)
theorem wb_of {e : Expr} {Q : Bool → MH → Prop} (h : WE c d F le e μ (kOf Q))
    (he : ∀ env whole, isTrue e env whole = (do let v ← whole; standAt e.pos; holding [v] (truthy v)) := by intro _ _; rfl) : WB c d F le e μ Q := .mk fun A g s E hA hR hL =>
  isTrue_plain (seqN (h.run A g s E hA hR hL) fun g₁ μ₁ s₁ a va st₁ R₁ v₁ q₁ => by
    obtain ⟨b, rfl, q⟩ := q₁
    cases v₁
    exact wpAny_truthy_bool (.of st₁ R₁ rfl q)) (he _ _)
theorem wb_and {e₁ e₂ : Expr} {Q : Bool → MH → Prop} (h : WB c d F le e₁ μ (kAnd c d F le e₂ Q)) : WB c d F le (.BoolOp .And [e₁, e₂] p) μ Q := .mk fun A g s E hA hR hL =>
  isTrue_and (seqN (h.run A g s E hA hR hL) fun g₁ μ₁ s₁ a va st₁ R₁ v₁ q₁ => by
    subst v₁
    cases a with
    | false => exact .of st₁ R₁ rfl (q₁.1 rfl)
    | true => exact isTrue_and (seqN ((q₁.2 rfl).run A g₁ s₁ E hA R₁ (hL.step st₁)) fun g₂ μ₂ s₂ b vb st₂ R₂ v₂ q₂ => by
        subst v₂
        cases b with
        | false => exact .of (st₁.trans R₁ st₂) R₂ rfl q₂
        | true => exact isTrue_and_nil (.of (st₁.trans R₁ st₂) R₂ rfl q₂)))
theorem wb_and3 {e₁ e₂ e₃ : Expr} {Q : Bool → MH → Prop} (h : WB c d F le e₁ μ (fun b μ₁ => (b = false → Q false μ₁) ∧ (b = true → WB c d F le (.BoolOp .And [e₂, e₃] p) μ₁ Q))) :
    WB c d F le (.BoolOp .And [e₁, e₂, e₃] p) μ Q := .mk fun A g s E hA hR hL =>
  isTrue_and (seqN (h.run A g s E hA hR hL) fun g₁ μ₁ s₁ a va st₁ R₁ v₁ q₁ => by
    subst v₁
    cases a with
    | false => exact .of st₁ R₁ rfl (q₁.1 rfl)
    | true => exact Post.step st₁ R₁ ((q₁.2 rfl).run A g₁ s₁ E hA R₁ (hL.step st₁)))
theorem wb_or {e₁ e₂ : Expr} {Q : Bool → MH → Prop} (h : WB c d F le e₁ μ (kOr c d F le e₂ Q)) : WB c d F le (.BoolOp .Or [e₁, e₂] p) μ Q := .mk fun A g s E hA hR hL =>
  isTrue_or (seqN (h.run A g s E hA hR hL) fun g₁ μ₁ s₁ a va st₁ R₁ v₁ q₁ => by
    subst v₁
    cases a with
    | true => exact .of st₁ R₁ rfl (q₁.1 rfl)
    | false => exact isTrue_or (seqN ((q₁.2 rfl).run A g₁ s₁ E hA R₁ (hL.step st₁)) fun g₂ μ₂ s₂ b vb st₂ R₂ v₂ q₂ => by
        subst v₂
        cases b with
        | true => exact .of (st₁.trans R₁ st₂) R₂ rfl q₂
        | false => exact isTrue_or_nil (.of (st₁.trans R₁ st₂) R₂ rfl q₂)))
theorem we_and {e₁ e₂ : Expr} {Q : AV → MH → Prop} (h : WE c d F le e₁ μ (fun a μ₁ => ∃ b, a = .bool b ∧ (b = false → Q (.bool false) μ₁) ∧ (b = true → WE c d F le e₂ μ₁ Q))) : WE c d F le (.BoolOp .And [e₁, e₂] p) μ Q := .mk fun A g s E hA hR hL =>
  BoolOp_and (seqN (h.run A g s E hA hR hL) fun g₁ μ₁ s₁ a va st₁ R₁ v₁ q₁ => by
    obtain ⟨b, rfl, h1, h2⟩ := q₁
    cases v₁
    refine wpAny_truthy_bool ?_
    cases b with
    | false => exact .of st₁ R₁ (.bool _) (h1 rfl)
    | true => exact Post.step st₁ R₁ (BoolOp_one ((h2 rfl).run A g₁ s₁ E hA R₁ (hL.step st₁))))
theorem we_ifexp {t b o : Expr} {Q : AV → MH → Prop} (h : WB c d F le t μ (kIfE c d F le b o Q)) : WE c d F le (.IfExp t b o p) μ Q := .mk fun A g s E hA hR hL =>
  IfExp_ (seqN (h.run A g s E hA hR hL) fun g₁ μ₁ s₁ a va st₁ R₁ v₁ q₁ => by
    subst v₁
    cases a with
    | true => exact Post.step st₁ R₁ ((q₁.1 rfl).run A g₁ s₁ E hA R₁ (hL.step st₁))
    | false => exact Post.step st₁ R₁ ((q₁.2 rfl).run A g₁ s₁ E hA R₁ (hL.step st₁)))
theorem we_neg {e : Expr} {Q : AV → MH → Prop} (h : WE c d F le e μ (fun a μ₁ => ∃ i, a = .int i ∧ Q (.int (-i)) μ₁)) : WE c d F le (.UnaryOp .USub e p) μ Q := .mk fun A g s E hA hR hL =>
  UnaryOp_ (seqN (h.run A g s E hA hR hL) fun g₁ μ₁ s₁ a va st₁ R₁ v₁ q₁ => by
    obtain ⟨i, rfl, q⟩ := q₁
    cases v₁
    exact PyProof.Rows.neg_int (.of (st₁.trans R₁ .tok) R₁ (.int ..) q))

noncomputable def noneAV : AV → Bool
  | .none => true
  | _ => false
theorem vr_none {g : GH} {a : AV} {v : Value} (h : VR c g a v) (hraw : ∀ u, a ≠ .raw u) : (v == .none) = noneAV a := by
  cases h <;> first | rfl | exact absurd rfl (hraw _)
noncomputable def isRaw : AV → Bool
  | .raw _ => true
  | _ => false
theorem nr {a : AV} (h : isRaw a = false) : ∀ u, a ≠ .raw u := fun u e => by subst e; exact Bool.noConfusion h
theorem tf {P : Prop} (h : true = false) : P := Bool.noConfusion h
theorem ft {P : Prop} (h : false = true) : P := Bool.noConfusion h
theorem cmp_isnot {a : AV} {Q : Bool → MH → Prop} (hraw : ∀ u, a ≠ .raw u) (h : Q (!noneAV a) μ) : CmpW c d .IsNot a .none μ Q := .mk fun A g s E va vb hA hR h1 h2 => by
  cases h2
  refine PyProof.Rows.isnot_none_gen (.of .refl hR rfl ?_)
  rw [vr_none h1 hraw]
  exact h
theorem cmp_is {a : AV} {Q : Bool → MH → Prop} (hraw : ∀ u, a ≠ .raw u) (h : Q (noneAV a) μ) : CmpW c d .Is a .none μ Q := .mk fun A g s E va vb hA hR h1 h2 => by
  cases h2
  refine PyProof.Rows.is_none_gen (.of .refl hR rfl ?_)
  rw [vr_none h1 hraw]
  exact h

structure SubW (c : Cx) (d : Nat) (a i : AV) (μ : MH) (Q : AV → MH → Prop) : Prop where
  run : ∀ A g s E va vi, Room d A → Rel c g μ s.heap → VR c g a va → VR c g i vi → (∃ T id, s.TypeIs va T ∧ typeLookup (.type T) "__getitem__" = pure (some (.builtin id))) ∧ wpAny (model c.prog c.w) A (getItem va vi) (Post c X0 g μ s (VR c) Q) E s
noncomputable abbrev kSub2 (c : Cx) (d : Nat) (Q : AV → MH → Prop) (a : AV) : AV → MH → Prop := fun i μ₂ => SubW c d a i μ₂ Q
noncomputable abbrev kSub (c : Cx) (d : Nat) (F : Fm) (le : LE) (sl : Expr) (Q : AV → MH → Prop) : AV → MH → Prop := fun a μ₁ => WE c d F le sl μ₁ (kSub2 c d Q a)
theorem we_sub {v sl : Expr} {Q : AV → MH → Prop} (h : WE c d F le v μ (kSub c d F le sl Q))
    (hs : ∀ o i, subscripted sl false o i = operate [o, i] (getItem o i) := by intro _ _; rfl) : WE c d F le (.Subscript v sl p) μ Q := .mk fun A g s E hA hR hL =>
  Subscript_ (seqN (h.run A g s E hA hR hL) fun g₁ μ₁ s₁ a va st₁ R₁ v₁ q₁ => seqN (q₁.run A g₁ s₁ E hA R₁ (hL.step st₁)) fun g₂ μ₂ s₂ b vb st₂ R₂ v₂ q₂ => by
    obtain ⟨⟨T, id, hT, hl⟩, hw⟩ := q₂.run A g₂ s₂ E va vb hA R₂ (v₁.mono st₂.gg) v₂
    exact tail_any hT hl (Post.step (st₁.trans R₁ st₂) R₂ hw) (hs _ _))

theorem sub_lst {vs : List AV} {k : Int} {Q : AV → MH → Prop} (h0 : 0 ≤ k) (hx : vs[k.toNat]? = some av) (hQ : Q av μ) (hk : k < 2 ^ 63 := by omega) : SubW c d (.lst vs) (.int k) μ Q := .mk fun A g s E va vi hA hR h1 h2 => by
  cases h2
  cases h1 with
  | lst e1 e2 e3 e4 =>
    obtain ⟨v, ev, hv⟩ := e4.get hx
    have hl : s.heap.IsList _ _ := ⟨_, hR.sub _ _ e1, e2, _, e3⟩
    exact ⟨⟨_, _, hl.typeIs, slot_list_getitem.lookup⟩, wpAny_getItem_list hl h0 hk (by rw [← Array.getElem?_toList]; exact ev) (.of .refl hR hv hQ)⟩
theorem sub_ref {a : Addr} {tg : Nat} {vs : List AV} {k : Int} {Q : AV → MH → Prop} (hm : μ a = some (.list tg vs)) (h0 : 0 ≤ k) (hx : vs[k.toNat]? = some av) (hQ : Q av μ) (hk : k < 2 ^ 63 := by omega) : SubW c d (.ref a) (.int k) μ Q := .mk fun A g s E va vi hA hR h1 h2 => by
  cases h2
  cases h1
  obtain ⟨_, xs, n, e1, e4⟩ := hR.mu _ _ hm
  obtain ⟨v, ev, hv⟩ := e4.get hx
  have hl : s.heap.IsList _ _ := ⟨_, e1, rfl, _, rfl⟩
  exact ⟨⟨_, _, hl.typeIs, slot_list_getitem.lookup⟩, wpAny_getItem_list hl h0 hk (by rw [← Array.getElem?_toList]; exact ev) (.of .refl hR hv hQ)⟩
theorem seqIndex_of {k : Int} {n : Nat} (h0 : 0 ≤ k) (h1 : k.toNat < n) : seqIndex? k n = some k.toNat := by
  have e : (if k < 0 then k + (n : Int) else k) = k := if_neg (by omega)
  show (if (decide (0 ≤ (if k < 0 then k + (n : Int) else k)) && decide ((if k < 0 then k + (n : Int) else k) < (n : Int))) = true then some (if k < 0 then k + (n : Int) else k).toNat else none) = _
  rw [e, decide_eq_true h0, decide_eq_true (show k < (n : Int) by omega)]
  rfl
theorem sub_tup {vs : List AV} {k : Int} {Q : AV → MH → Prop} (h0 : 0 ≤ k) (hx : vs[k.toNat]? = some av) (hQ : Q av μ) (hk : k < 2 ^ 63 := by omega) : SubW c d (.tup vs) (.int k) μ Q := .mk fun A g s E va vi hA hR h1 h2 => by
  cases h2
  cases h1 with
  | tup e1 e2 e3 e4 =>
    obtain ⟨v, ev, hv⟩ := e4.get hx
    have hl : IsTup s.heap _ _ := ⟨_, hR.sub _ _ e1, e2, _, e3⟩
    have hlt : k.toNat < vs.length := (List.getElem?_eq_some_iff.mp hx).1
    rw [e4.length] at hlt
    exact ⟨⟨_, _, hl.typeIs, slot_tuple_getitem.lookup⟩, getItem_tuple hl (by omega) hk (j := k.toNat) (seqIndex_of h0 (by rw [← Array.length_toList]; exact hlt)) (by rw [← Array.getElem?_toList]; exact ev) (.of .refl hR hv hQ)⟩

theorem wl_nil {Q : List AV → MH → Prop} (hQ : Q [] μ) : WL c d F le [] p μ Q := .mk fun A g s E hA hR hL => Calls.spliced_nil (.of .refl hR .nil hQ)
noncomputable abbrev kCons (Q : List AV → MH → Prop) (a : AV) : List AV → MH → Prop := fun as => Q (a :: as)
noncomputable abbrev kArg (c : Cx) (d : Nat) (F : Fm) (le : LE) (es : List Expr) (p : Pos) (Q : List AV → MH → Prop) : AV → MH → Prop := fun a μ₁ => WL c d F le es p μ₁ (kCons Q a)
theorem wl_cons {e : Expr} {es : List Expr} {Q : List AV → MH → Prop} (h : WE c d F le e μ (kArg c d F le es p Q))
    (he : ∀ env, starEach (e :: es) env = (false, eval e env) :: starEach es env := by intro _; rfl) : WL c d F le (e :: es) p μ Q := .mk fun A g s E hA hR hL => by
  rw [he]
  exact Calls.spliced_cons (seqN (h.run A g s E hA hR hL) fun g₁ μ₁ s₁ a va st₁ R₁ v₁ q₁ => seqN (q₁.run A g₁ s₁ E hA R₁ (hL.step st₁)) fun g₂ μ₂ s₂ b vb st₂ R₂ v₂ q₂ =>
    .of (st₁.trans R₁ st₂) R₂ (.cons (v₁.mono st₂.gg) v₂) q₂)

noncomputable def CalleeOk (c : Cx) (f : Value) : Prop := ∀ (M : Model) h, (hd.heap_39 c.w.params).In h → ∃ k, (k = Keeper.frame ∨ k = Keeper.machine ∨ k = Keeper.boundFrame) ∧ Looks M h (keeperOf f) k
theorem callee_builtin {id : String} : CalleeOk c (.builtin id) := fun M h X => ⟨.machine, .inr (.inl rfl), .now⟩
theorem callee_type {T : String} : CalleeOk c (.type T) := fun M h X => ⟨.machine, .inr (.inl rfl), .now⟩
theorem callee_K {v : Value} (h : keepIn (hd.heap_39 c.w.params) v = true) : CalleeOk c v := fun M h' X => keeps_K h h' X

noncomputable abbrev kArgs (c : Cx) (d : Nat) (Q : AV → MH → Prop) (v : Value) : List AV → MH → Prop := fun as μ₂ => CallW c d (.raw v) as μ₂ Q
noncomputable abbrev kCall (c : Cx) (d : Nat) (F : Fm) (le : LE) (es : List Expr) (p : Pos) (Q : AV → MH → Prop) : AV → MH → Prop := fun fv μ₁ => ∃ v, fv = .raw v ∧ CalleeOk c v ∧ WL c d F le es p μ₁ (kArgs c d Q v)
theorem kCall_i {es : List Expr} {Q : AV → MH → Prop} {v : Value} (hc : CalleeOk c v) (h : WL c d F le es p μ (kArgs c d Q v)) : kCall c d F le es p Q (.raw v) μ := ⟨v, rfl, hc, h⟩
theorem we_call {f : Expr} {e : Expr} {es : List Expr} {Q : AV → MH → Prop}
    (h : WE c d F le f μ (kCall c d F le (e :: es) p Q))
    (he : ∀ env, eval (.Call f (e :: es) [] p) env = (do callWith p (← eval f env) [] (backTo p (starEach (e :: es) env)) []) := by intro _; rfl)
    (hs : ∀ env, starEach (e :: es) env = (false, eval e env) :: starEach es env := by intro _; rfl)
    (hp : ∀ env, (backTo p (starEach es env)).any (·.1) = false := by intro _; rfl) : WE c d F le (.Call f (e :: es) [] p) μ Q := .mk fun A g s E hA hR hL => by
  rw [he]
  refine seqW (h.run A g s E hA hR hL) fun g₁ μ₁ s₁ a va st₁ R₁ v₁ q₁ => ?_
  obtain ⟨v, rfl, hc, q⟩ := q₁
  cases v₁
  have hq := q.run A g₁ s₁ E hA R₁ (hL.step st₁)
  rw [hs] at hq ⊢
  refine callWith_of (P := fun h => (hd.heap_39 c.w.params).In h) (by show ((false || (backTo p (starEach es F.env)).any (·.1)) || false) = false; rw [hp]; rfl) (fun h X => hc _ h X) (Calls.evalArgs_plain ?_)
  refine seqN hq fun g₂ μ₂ s₂ b vb st₂ R₂ v₂ q₂ => ⟨R₂.KX, Post.step st₂ R₂ ?_⟩
  exact q₂.run A g₂ s₂ E _ _ hA R₂ (.raw _) v₂
end
end Mine
namespace Mine
open PySem PySem.W PyProof.Rows

inductive SetLE (x : Str) (a : AV) : LE → LE → Prop
  | here {o : Option AV} {r : LE} : SetLE x a ((x, o) :: r) ((x, some a) :: r)
  | there {y : Str} {o : Option AV} {r r' : LE} : SetLE x a r r' → SetLE x a ((y, o) :: r) ((y, o) :: r')
theorem SetLE.names {x : Str} {a : AV} : ∀ {le le' : LE}, SetLE x a le le' → le'.map (·.1) = le.map (·.1)
  | _, _, .here => rfl
  | _, _, .there h => by simp only [List.map_cons, h.names]
theorem SetLE.had {x : Str} {a : AV} : ∀ {le le' : LE}, SetLE x a le le' → ∃ o, (x, o) ∈ le
  | _, _, .here => ⟨_, .head _⟩
  | _, _, .there h => let ⟨o, m⟩ := h.had; ⟨o, .tail _ m⟩
theorem mem_names {x : Str} {o : Option AV} {le : LE} (h : (x, o) ∈ le) : x ∈ le.map (·.1) := List.mem_map.mpr ⟨_, h, rfl⟩
theorem SetLE.mem {x : Str} {a : AV} : ∀ {le le' : LE}, SetLE x a le le' → (le.map (·.1)).Nodup → ∀ {y : Str} {o : Option AV}, (y, o) ∈ le' → (y = x ∧ o = some a) ∨ (y ≠ x ∧ (y, o) ∈ le)
  | _, _, .here, nd, y, o, m => by
    rcases List.mem_cons.mp m with e | m
    · cases e; exact .inl ⟨rfl, rfl⟩
    · refine .inr ⟨fun q => ?_, .tail _ ‹_›⟩
      rw [q] at m
      exact (List.nodup_cons.mp nd).1 (mem_names (by assumption))
  | _, _, .there (y := z) h, nd, y, o, m => by
    rcases List.mem_cons.mp m with e | m
    · cases e
      obtain ⟨o', m'⟩ := h.had
      refine .inr ⟨fun q => ?_, .head _⟩
      subst q
      exact (List.nodup_cons.mp nd).1 (mem_names m')
    · rcases h.mem (List.nodup_cons.mp nd).2 m with q | ⟨q, m'⟩
      · exact .inl q
      · exact .inr ⟨q, .tail _ m'⟩

section
variable {c : Cx} {d : Nat} {F : Fm} {le : LE} {μ : MH} {x : Str} {av : AV} {p : Pos}

theorem scope_plain {env : Env} (h : env.scope.kind = .function) : (env.scope.kind == .class || (env.scope.kind == .module && env.locals != env.globals)) = false := by
  rw [h]; rfl

theorem storeW {A : Around} {g : GH} {s : Shared} {E : Value → Shared → Prop} {le' : LE} {v : Value} {Q : Unit → Shared → Prop} (hR : Rel c g μ s.heap) (hL : Loc c g μ s.heap F le) (hs : SetLE x av le le') (hv : VR c g av v)
    (h : ∀ s', Step (privs F.env) g μ s g μ s' → Rel c g μ s'.heap → Loc c g μ s'.heap F le' → Q () s') : wpAny (model c.prog c.w) A (storeName F.env x v) Q E s := by
  obtain ⟨ok, nd, ⟨m, hm, hsl⟩, pv⟩ := hL
  obtain ⟨o, hmem⟩ := hs.had
  have nd' : (le'.map (·.1)).Nodup := by rw [hs.names]; exact nd
  rcases hsl x o hmem with ⟨h1, h2⟩ | ⟨h1, a, vo, h2, h3, h4⟩
  · refine wpAny_storeName_local h1 hm (fun h' hn hsb => ?_) (scope_plain ok.fn)
    obtain ⟨pg, pm, ob, po⟩ := pv _ (.inl rfl)
    refine h _ (Step.priv (.inl rfl) hsb) (hR.priv pg pm hsb) ⟨ok, nd', ⟨_, hn, fun y ov hy => ?_⟩, fun a ha => ?_⟩
    · rcases hs.mem nd hy with ⟨rfl, rfl⟩ | ⟨q, hy⟩
      · exact .inl ⟨h1, fun av' e => by cases e; exact ⟨v, if_pos rfl, hv⟩⟩
      · rcases hsl y ov hy with ⟨k1, k2⟩ | ⟨k1, a, vo, k2, k3, k4⟩
        · exact .inl ⟨k1, fun av' e => let ⟨u, e1, e2⟩ := k2 av' e; ⟨u, (if_neg q).trans e1, e2⟩⟩
        · exact .inr ⟨k1, a, vo, k2, k3.sameBut hsb (ok.nl _ _ k2), k4⟩
    · obtain ⟨e1, e2, o1, e3⟩ := pv a ha
      refine ⟨e1, e2, ?_⟩
      by_cases q : a = F.env.locals
      · subst q; obtain ⟨o', _, _, e, _⟩ := hn; exact ⟨o', e⟩
      · exact ⟨o1, (hsb.2 a q).trans e3⟩
  · refine wpAny_storeName_cell ok.fn h1 h2 h3 (fun h' hc hsb => ?_)
    obtain ⟨pg, pm, ob, po⟩ := pv a (.inr ⟨_, h2⟩)
    refine h { s with heap := h' } (Step.priv (s := s) (t := s.toks) (.inr ⟨_, h2⟩) hsb) (hR.priv pg pm hsb) ⟨ok, nd', ⟨m, hm.sameBut hsb (Ne.symm (ok.nl _ _ h2)), fun y ov hy => ?_⟩, fun b hb => ?_⟩
    · rcases hs.mem nd hy with ⟨rfl, rfl⟩ | ⟨q, hy⟩
      · exact .inr ⟨h1, a, _, h2, hc, fun av' e => by cases e; exact ⟨v, rfl, hv⟩⟩
      · rcases hsl y ov hy with ⟨k1, k2⟩ | ⟨k1, b, vo', k2, k3, k4⟩
        · exact .inl ⟨k1, k2⟩
        · exact .inr ⟨k1, b, vo', k2, k3.sameBut hsb (fun e => q (ok.nd _ _ _ k2 (e ▸ h2))), k4⟩
    · obtain ⟨e1, e2, o1, e3⟩ := pv b hb
      refine ⟨e1, e2, ?_⟩
      by_cases q : b = a
      · subst q; obtain ⟨o', e, _⟩ := hc; exact ⟨o', e⟩
      · exact ⟨o1, (hsb.2 b q).trans e3⟩

theorem storeLW {A : Around} {g : GH} {s : Shared} {E : Value → Shared → Prop} {le' : LE} {v : Value} {Q : Unit → Shared → Prop} (hR : Rel c g μ s.heap) (hL : Loc c g μ s.heap F le) (hloc : F.env.kindOf x = some .local) (hs : SetLE x av le le') (hv : VR c g av v)
    (h : ∀ s', Step (fun a => a = F.env.locals) g μ s g μ s' → Rel c g μ s'.heap → Loc c g μ s'.heap F le' → Q () s') : wpAny (model c.prog c.w) A (storeName F.env x v) Q E s := by
  obtain ⟨ok, nd, ⟨m, hm, hsl⟩, pv⟩ := hL
  obtain ⟨o, hmem⟩ := hs.had
  have nd' : (le'.map (·.1)).Nodup := by rw [hs.names]; exact nd
  · have h1 := hloc
    refine wpAny_storeName_local h1 hm (fun h' hn hsb => ?_) (scope_plain ok.fn)
    obtain ⟨pg, pm, ob, po⟩ := pv _ (.inl rfl)
    refine h _ (Step.priv rfl hsb) (hR.priv pg pm hsb) ⟨ok, nd', ⟨_, hn, fun y ov hy => ?_⟩, fun a ha => ?_⟩
    · rcases hs.mem nd hy with ⟨rfl, rfl⟩ | ⟨q, hy⟩
      · exact .inl ⟨h1, fun av' e => by cases e; exact ⟨v, if_pos rfl, hv⟩⟩
      · rcases hsl y ov hy with ⟨k1, k2⟩ | ⟨k1, a, vo, k2, k3, k4⟩
        · exact .inl ⟨k1, fun av' e => let ⟨u, e1, e2⟩ := k2 av' e; ⟨u, (if_neg q).trans e1, e2⟩⟩
        · exact .inr ⟨k1, a, vo, k2, k3.sameBut hsb (ok.nl _ _ k2), k4⟩
    · obtain ⟨e1, e2, o1, e3⟩ := pv a ha
      refine ⟨e1, e2, ?_⟩
      by_cases q : a = F.env.locals
      · subst q; obtain ⟨o', _, _, e, _⟩ := hn; exact ⟨o', e⟩
      · exact ⟨o1, (hsb.2 a q).trans e3⟩

theorem Step.x0 {g g' : GH} {μ' : MH} {s s' : Shared} {X : Addr → Prop} (st : Step X0 g μ s g' μ' s') : Step X g μ s g' μ' s' := st.weaken fun _ h => h.elim

theorem PostS.trans {g g₁ : GH} {μ₁ : MH} {s s₁ : Shared} {Q : Fl → LE → MH → Prop} (st : Step (privs F.env) g μ s g₁ μ₁ s₁) (R₁ : Rel c g₁ μ₁ s₁.heap) {f : Flow} {s' : Shared} (h : PostS c F g₁ μ₁ s₁ Q f s') : PostS c F g μ s Q f s' := by
  obtain ⟨g', μ', a, le', st', R', r, L', q⟩ := h
  exact ⟨g', μ', a, le', st.trans R₁ st', R', r, L', q⟩
theorem PostS.step {g g₁ : GH} {μ₁ : MH} {s s₁ : Shared} {Q : Fl → LE → MH → Prop} (st : Step (privs F.env) g μ s g₁ μ₁ s₁) (R₁ : Rel c g₁ μ₁ s₁.heap)
    {M : Model} {A : Around} {E : Value → Shared → Prop} {t : Sem Flow} (h : wpAny M A t (PostS c F g₁ μ₁ s₁ Q) E s₁) : wpAny M A t (PostS c F g μ s Q) E s₁ :=
  wpAny_mono h (fun _ _ q => q.trans st R₁) fun _ _ e => e

theorem wss_nil {Q : Fl → LE → MH → Prop} (h : Q .next le μ) : WSs c d F le [] μ Q := .mk fun A g s E hA hR hL => wpAny_execs_nil ⟨g, μ, .next, le, .refl, hR, rfl, hL, h⟩
noncomputable abbrev kSeq (c : Cx) (d : Nat) (F : Fm) (r : List Stmt) (Q : Fl → LE → MH → Prop) : Fl → LE → MH → Prop := fun f le' μ' => match f with | .next => WSs c d F le' r μ' Q | _ => Q f le' μ'
noncomputable abbrev kSet (x : Str) (le : LE) (Q : Fl → LE → MH → Prop) : AV → MH → Prop := fun a μ₁ => ∃ le', SetLE x a le le' ∧ Q .next le' μ₁
theorem kSeq_i {x : Str} {le le' : LE} {r : List Stmt} {Q : Fl → LE → MH → Prop} {a : AV} (hs : SetLE x a le le') (h : WSs c d F le' r μ Q) : kSet x le (kSeq c d F r Q) a μ := ⟨le', hs, h⟩
noncomputable abbrev kIf (c : Cx) (d : Nat) (F : Fm) (le : LE) (b o : List Stmt) (Q : Fl → LE → MH → Prop) : Bool → MH → Prop := fun q μ₁ => (q = true → WSs c d F le b μ₁ Q) ∧ (q = false → WSs c d F le o μ₁ Q)
noncomputable abbrev kRet (le : LE) (Q : Fl → LE → MH → Prop) : AV → MH → Prop := fun a μ₁ => Q (.ret a) le μ₁
noncomputable abbrev kDrop (le : LE) (Q : Fl → LE → MH → Prop) : AV → MH → Prop := fun a μ₁ => a = .none ∧ Q .next le μ₁
theorem kDrop_i {le : LE} {Q : Fl → LE → MH → Prop} {μ : MH} (h : Q .next le μ) : kDrop le Q .none μ := ⟨rfl, h⟩
noncomputable abbrev kPut4 (le : LE) (Q : Fl → LE → MH → Prop) : MH → Prop := fun μ₄ => Q .next le μ₄
theorem wss_cons {st : Stmt} {r : List Stmt} {Q : Fl → LE → MH → Prop} (h : WS c d F le st μ (kSeq c d F r Q)) : WSs c d F le (st :: r) μ Q := .mk fun A g s E hA hR hL =>
  wpAny_execs_cons (wpAny_mono (h.run A g s E hA hR hL) (fun f s' h' => by
    obtain ⟨g', μ', a, le', st', R', fr, L', q⟩ := h'
    cases a with
    | next => cases fr; exact PostS.step st' R' (q.run A g' s' E hA R' L')
    | cont => cases fr; exact ⟨g', μ', .cont, le', st', R', rfl, L', q⟩
    | ret v => obtain ⟨u, rfl, hu⟩ := fr; exact ⟨g', μ', .ret v, le', st', R', ⟨u, rfl, hu⟩, L', q⟩) fun _ _ e => e)

theorem wa_name {le' : LE} {Q : LE → MH → Prop} (hs : SetLE x av le le') (h : Q le' μ) : WA c d F le (.Name x p) av μ Q := .mk fun A g s E v hA hR hL hv =>
  wpAny_assign_Name (storeW hR hL hs hv fun s' st R' L' => ⟨g, μ, le', st, R', L', h⟩)
theorem wl_name {le' : LE} {Q : LE → MH → Prop} (hk : F.sc.names.lookup x = some .local) (hs : SetLE x av le le') (h : Q le' μ) : WAb true c d F le (.Name x p) av μ Q := .mk fun A g s E v hA hR hL hv => by
  refine wpAny_assign_Name (storeLW hR hL ?_ hs hv fun s' st R' L' => ⟨g, μ, le', st, R', L', h⟩)
  show F.env.scope.names.lookup x = _
  rw [hL.ok.sc]; exact hk

theorem ws_assign {x : Str} {p' : Pos} {e : Expr} {Q : Fl → LE → MH → Prop} (h : WE c d F le e μ (kSet x le Q))
    (hs : ∀ env, swapsWith e (some (.Name x p')) p.line env = pure false := by intro _; rfl) : WS c d F le (.Assign [.Name x p'] e p) μ Q := .mk fun A g s E hA hR hL =>
  wpAny_Assign_Name (seqN (h.run A g s E hA hR hL) fun g₁ μ₁ s₁ a va st₁ R₁ v₁ q₁ => by
    obtain ⟨le', hsl, hq⟩ := q₁
    exact storeW R₁ (hL.step st₁) hsl v₁ fun s' st R' L' => ⟨g₁, μ₁, .next, le', st₁.x0.trans R₁ st, R', rfl, L', hq⟩) (hs _)

theorem ws_if {t : Expr} {b o : List Stmt} {Q : Fl → LE → MH → Prop} (h : WB c d F le t μ (kIf c d F le b o Q)) : WS c d F le (.If t b o p) μ Q := .mk fun A g s E hA hR hL =>
  wpAny_If (seqN (h.run A g s E hA hR hL) fun g₁ μ₁ s₁ a va st₁ R₁ v₁ q₁ => by
    subst v₁
    cases a with
    | true => exact PostS.step st₁.x0 R₁ ((q₁.1 rfl).run A g₁ s₁ E hA R₁ (hL.step st₁))
    | false => exact PostS.step st₁.x0 R₁ ((q₁.2 rfl).run A g₁ s₁ E hA R₁ (hL.step st₁)))
theorem ws_return {e : Expr} {Q : Fl → LE → MH → Prop} (h : WE c d F le e μ (kRet le Q)) : WS c d F le (.Return (some e) p) μ Q := .mk fun A g s E hA hR hL =>
  wpAny_Return_some (seqN (h.run A g s E hA hR hL) fun g₁ μ₁ s₁ a va st₁ R₁ v₁ q₁ => ⟨g₁, μ₁, .ret a, le, st₁.x0, R₁, ⟨va, rfl, v₁⟩, hL.step st₁, q₁⟩)
theorem ws_continue {Q : Fl → LE → MH → Prop} (h : Q .cont le μ) : WS c d F le (.Continue p) μ Q := .mk fun A g s E hA hR hL => by
  show wpAny _ _ (do standAt p; pure Flow.cont) _ _ _
  exact wpAny_bind (wpAny_standAt (wpAny_pure ⟨g, μ, .cont, le, .refl, hR, rfl, hL, h⟩))
theorem ws_expr {e : Expr} {Q : Fl → LE → MH → Prop} (h : WE c d F le e μ (kDrop le Q)) (hs : ∀ env, swapsWith e none p.line env = pure false := by intro _; rfl) : WS c d F le (.Expr e p) μ Q := .mk fun A g s E hA hR hL => by
  have hi : interactive F.env = false := by unfold interactive; rw [hL.ok.fn]; rfl
  exact wpAny_Expr (seqN (h.run A g s E hA hR hL) fun g₁ μ₁ s₁ a va st₁ R₁ v₁ q₁ => by
    obtain ⟨rfl, q⟩ := q₁
    cases v₁
    exact ⟨g₁, μ₁, .next, le, st₁.x0, R₁, rfl, hL.step st₁, q⟩) hi (hs _)

structure SetW (c : Cx) (d : Nat) (a i v : AV) (μ : MH) (Q : MH → Prop) : Prop where
  run : ∀ A g s E va vi vv, Room d A → Rel c g μ s.heap → VR c g a va → VR c g i vi → VR c g v vv → wpAny (model c.prog c.w) A (setItem va vi vv) (Post c X0 g μ s (fun _ (_ _ : Unit) => True) (fun _ => Q)) E s
theorem set_ref {a : Addr} {tg : Nat} {vs : List AV} {k : Int} {Q : MH → Prop} (hm : μ a = some (.list tg vs)) (h0 : 0 ≤ k) (hx : k.toNat < vs.length) (hQ : Q (updM μ a (.list tg (vs.set k.toNat av)))) (hk : k < 2 ^ 63 := by omega) : SetW c d (.ref a) (.int k) av μ Q :=
  .mk fun A g s E va vi vv hA hR h1 h2 h3 => by
    cases h2; cases h1
    obtain ⟨_, xs, n, e1, e4⟩ := hR.mu _ _ hm
    have hlt : k < xs.size := by rw [← Array.length_toList, ← e4.length]; omega
    refine ki_setAt e1 h0 hk hlt ?_
    have ho : OR c g (s.heap.update a (Obj.mapSeq (·.setIfInBounds k.toNat vv))) a (.list tg (vs.set k.toNat av)) := by
      refine ⟨xs.setIfInBounds k.toNat vv, n, (Heap.get?_update_self _ e1 ?_).trans ?_, ?_⟩
      · simp [Obj.mapSeq, Obj.isFreed]
      · simp [Obj.mapSeq]
      · rw [Array.toList_setIfInBounds]; exact e4.set h3
    exact ⟨g, _, (), Step.setM (t := s.toks) hR hm (Heap.SameBut.update ..) ho, hR.setM hm (Heap.SameBut.update ..) ho, trivial, hQ⟩
noncomputable abbrev kPut3 (c : Cx) (d : Nat) (le : LE) (Q : Fl → LE → MH → Prop) (v a : AV) : AV → MH → Prop := fun k μ₃ => SetW c d a k v μ₃ (kPut4 le Q)
noncomputable abbrev kPut2 (c : Cx) (d : Nat) (F : Fm) (le : LE) (i : Expr) (Q : Fl → LE → MH → Prop) (v : AV) : AV → MH → Prop := fun a μ₂ => WE c d F le i μ₂ (kPut3 c d le Q v a)
noncomputable abbrev kPut (c : Cx) (d : Nat) (F : Fm) (le : LE) (o i : Expr) (Q : Fl → LE → MH → Prop) : AV → MH → Prop := fun v μ₁ => WE c d F le o μ₁ (kPut2 c d F le i Q v)
theorem ws_setitem {o i e : Expr} {p' : Pos} {Q : Fl → LE → MH → Prop} (h : WE c d F le e μ (kPut c d F le o i Q))
    (hs : ∀ env, swapsWith e (some (.Subscript o i p')) p.line env = pure false := by intro _; rfl) : WS c d F le (.Assign [.Subscript o i p'] e p) μ Q := .mk fun A g s E hA hR hL =>
  wpAny_Assign_Subscript (seqN (h.run A g s E hA hR hL) fun g₁ μ₁ s₁ a va st₁ R₁ v₁ q₁ => seqN (q₁.run A g₁ s₁ E hA R₁ (hL.step st₁)) fun g₂ μ₂ s₂ b vb st₂ R₂ v₂ q₂ =>
    seqN (q₂.run A g₂ s₂ E hA R₂ ((hL.step st₁).step st₂)) fun g₃ μ₃ s₃ k vk st₃ R₃ v₃ q₃ =>
    seqN (q₃.run A g₃ s₃ E vb vk va hA R₃ (v₂.mono st₃.gg) v₃ (v₁.mono fun _ _ e => st₃.gg _ _ (st₂.gg _ _ e))) fun g₄ μ₄ s₄ _ _ st₄ R₄ _ q₄ =>
      ⟨g₄, μ₄, .next, le, (((st₁.trans R₁ st₂).trans R₂ st₃).trans R₃ st₄).x0, R₄, rfl, (((hL.step st₁).step st₂).step st₃).step st₄, q₄⟩) (hs _)
theorem ws_aug {e : Expr} {p' : Pos} {i : Int} {Q : Fl → LE → MH → Prop} (hm : Has x (.int i) le) (h : WE c d F le e μ (fun a μ₁ => ∃ j, a = .int j ∧ ∃ le', SetLE x (.int (i + j)) le le' ∧ Q .next le' μ₁)) :
    WS c d F le (.AugAssign (.Name x p') .Add e p) μ Q := .mk fun A g s E hA hR hL => by
  refine wpAny_AugAssign_Name (loadW hL hm.mem fun v hv => seqN (h.run A g s E hA hR hL) fun g₁ μ₁ s₁ a va st₁ R₁ v₁ q₁ => ?_)
  obtain ⟨j, rfl, le', hsl, hq⟩ := q₁
  cases v₁; cases hv
  refine PyProof.Rows.iadd_int ?_
  have st : Step X0 g₁ μ₁ s₁ g₁ μ₁ { s₁ with toks := s₁.toks + 1 } := .tok
  exact storeW (s := { s₁ with toks := s₁.toks + 1 }) R₁ ((hL.step st₁).step st) hsl (.int _ _) fun s' st' R' L' => ⟨g₁, μ₁, .next, le', (st₁.x0.trans R₁ (st.x0)).trans R₁ st', R', rfl, L', hq⟩
end
end Mine
namespace Mine
open PySem PySem.W PyProof.Rows

noncomputable def mkLE : List (Str × NameKind) → List AV → LE
  | [], _ => []
  | (x, .local) :: r, a :: as => (x, some a) :: mkLE r as
  | (x, .local) :: r, [] => (x, none) :: mkLE r []
  | (x, .cell) :: r, a :: as => (x, some a) :: mkLE r as
  | (x, .cell) :: r, [] => (x, none) :: mkLE r []
  | _ :: r, as => mkLE r as

noncomputable def holdK : NameKind → Bool
  | .local => true
  | .cell => true
  | _ => false
noncomputable def scopeOk (names : List (Str × NameKind)) (ps : List Str) : Bool :=
  decide (names.map (·.1)).Nodup && decide (((names.filter fun n => holdK n.2).map (·.1)).take ps.length = ps) && names.all fun n => n.2 != .free

theorem bindL_notin {kd : Str → Option NameKind} {x : Str} : ∀ (l : List (Str × Value)) (m : Str → Option Value), x ∉ l.map (·.1) → bindL kd l m x = m x
  | [], _, _ => rfl
  | (y, v) :: r, m, h => by
    unfold bindL
    rw [bindL_notin r _ (fun q => h (.tail _ q))]
    split
    · exact if_neg fun (q : x = y) => h (by rw [q]; exact .head _)
    · rfl
theorem bindC_notin {kd : Str → Option NameKind} {x : Str} : ∀ (l : List (Str × Value)) (m : Str → Option Value), x ∉ l.map (·.1) → bindC kd l m x = m x
  | [], _, _ => rfl
  | (y, v) :: r, m, h => by
    unfold bindC
    rw [bindC_notin r _ (fun q => h (.tail _ q))]
    split
    · rfl
    · exact if_neg fun (q : x = y) => h (by rw [q]; exact .head _)
theorem bindL_mem {kd : Str → Option NameKind} {x : Str} {v : Value} (hk : kd x = some .local) : ∀ (l : List (Str × Value)) (m : Str → Option Value), (l.map (·.1)).Nodup → (x, v) ∈ l → bindL kd l m x = some v
  | (y, u) :: r, m, nd, h => by
    unfold bindL
    rcases List.mem_cons.mp h with e | h
    · cases e
      rw [bindL_notin r _ (List.nodup_cons.mp nd).1, if_pos hk]; exact if_pos rfl
    · exact bindL_mem hk r _ (List.nodup_cons.mp nd).2 h
theorem bindC_mem {kd : Str → Option NameKind} {x : Str} {v : Value} (hk : kd x = some .cell) : ∀ (l : List (Str × Value)) (m : Str → Option Value), (l.map (·.1)).Nodup → (x, v) ∈ l → bindC kd l m x = some v
  | (y, u) :: r, m, nd, h => by
    unfold bindC
    rcases List.mem_cons.mp h with e | h
    · cases e
      rw [bindC_notin r _ (List.nodup_cons.mp nd).1, if_neg (by rw [hk]; decide)]; exact if_pos rfl
    · exact bindC_mem hk r _ (List.nodup_cons.mp nd).2 h

theorem mkLE_names : ∀ (names : List (Str × NameKind)) (as : List AV), (mkLE names as).map (·.1) = (names.filter fun n => holdK n.2).map (·.1)
  | [], _ => rfl
  | (x, k) :: r, as => by
    cases k <;> cases as <;> simp only [mkLE, List.filter_cons, holdK, if_true, if_false, List.map_cons, mkLE_names r, Bool.false_eq_true]
theorem mem_filter_kind {names : List (Str × NameKind)} {x : Str} (nd : (names.map (·.1)).Nodup) {k : NameKind} (h : (x, k) ∈ names) : names.lookup x = some k := by
  induction names with
  | nil => cases h
  | cons p r ih =>
    obtain ⟨y, k'⟩ := p
    rw [List.lookup_cons]
    rcases List.mem_cons.mp h with e | h
    · cases e; simp
    · have : y ≠ x := fun q => (List.nodup_cons.mp nd).1 (q ▸ List.mem_map.mpr ⟨_, h, rfl⟩)
      rw [show (x == y) = false from beq_false_of_ne (Ne.symm this)]
      exact ih (List.nodup_cons.mp nd).2 h
theorem mkLE_mem {c : Cx} {g : GH} : ∀ (names : List (Str × NameKind)) (ps : List Str) (as : List AV) (vs : List Value), ((names.filter fun n => holdK n.2).map (·.1)).take ps.length = ps → VRs c g as vs → as.length = ps.length →
    ∀ {x : Str} {ov : Option AV}, (x, ov) ∈ mkLE names as → (∃ k, holdK k = true ∧ (x, k) ∈ names) ∧ ∀ av, ov = some av → ∃ v, (x, v) ∈ ps.zip vs ∧ VR c g av v
  | [], _, _, _, _, _, _, x, ov, h => by cases h
  | (y, k) :: r, ps, as, vs, hp, hv, hl, x, ov, h => by
    cases hk : holdK k with
    | false =>
      have e : mkLE ((y, k) :: r) as = mkLE r as := by cases k <;> first | (cases hk; done) | (cases as <;> rfl)
      rw [e] at h
      obtain ⟨⟨k', h1, h2⟩, h3⟩ := mkLE_mem r ps as vs (by rw [List.filter_cons, hk, if_neg Bool.false_ne_true] at hp; exact hp) hv hl h
      exact ⟨⟨k', h1, .tail _ h2⟩, h3⟩
    | true =>
      have hp' : (y :: (r.filter fun n => holdK n.2).map (·.1)).take ps.length = ps := by
        rw [List.filter_cons, hk, if_pos rfl, List.map_cons] at hp; exact hp
      cases hv with
      | nil =>
        have e : mkLE ((y, k) :: r) [] = (y, none) :: mkLE r [] := by cases k <;> first | rfl | cases hk
        rw [e] at h
        cases ps with
        | cons _ _ => cases hl
        | nil =>
          rcases List.mem_cons.mp h with q | h
          · cases q; exact ⟨⟨k, hk, .head _⟩, fun _ e => by cases e⟩
          · obtain ⟨⟨k', h1, h2⟩, h3⟩ := mkLE_mem r [] [] [] (by simp) .nil rfl h
            exact ⟨⟨k', h1, .tail _ h2⟩, h3⟩
      | cons hv1 hv2 =>
        rename_i a v as' vs'
        have e : mkLE ((y, k) :: r) (a :: as') = (y, some a) :: mkLE r as' := by cases k <;> first | rfl | cases hk
        rw [e] at h
        cases ps with
        | nil => cases hl
        | cons p ps' =>
          rw [List.length_cons, List.take_succ_cons] at hp'
          injection hp' with q1 q2
          subst q1
          rcases List.mem_cons.mp h with q | h
          · cases q; exact ⟨⟨k, hk, .head _⟩, fun _ e => by cases e; exact ⟨v, .head _, hv1⟩⟩
          · obtain ⟨⟨k', h1, h2⟩, h3⟩ := mkLE_mem r ps' as' vs' q2 hv2 (by simpa using hl) h
            exact ⟨⟨k', h1, .tail _ h2⟩, fun av e => let ⟨u, m1, m2⟩ := h3 av e; ⟨u, .tail _ m1, m2⟩⟩

noncomputable def GeOk (c : Cx) (names : List (Str × NameKind)) : List (Str × AV) → Prop
  | [] => True
  | (x, av) :: r => (names.lookup x = some .globalImplicit ∧ ∃ v, GlobalIs c x v ∧ VR c c.base.get? av v) ∧ GeOk c names r
theorem GeOk.mem {c : Cx} {names : List (Str × NameKind)} : ∀ {ge : List (Str × AV)}, GeOk c names ge → ∀ {x : Str} {av : AV}, (x, av) ∈ ge → names.lookup x = some .globalImplicit ∧ ∃ v, GlobalIs c x v ∧ VR c c.base.get? av v
  | _ :: _, h, x, av, m => by
    rcases List.mem_cons.mp m with e | m
    · cases e; exact h.1
    · exact h.2.mem m
noncomputable def geChk (K : Frag) (names : List (Str × NameKind)) (ge : List (Str × Value)) : Bool :=
  ge.all fun p => (names.lookup p.1 == some .globalImplicit) && ((nsIn K mainGlobals p.1 == some (some p.2)) || ((nsIn K mainGlobals p.1 == some none) && (bootBuiltins p.1 == some p.2) && (p.1 != "__name__")))
noncomputable def rawGe (ge : List (Str × Value)) : List (Str × AV) := ge.map fun p => (p.1, .raw p.2)
theorem geOk_raw {c : Cx} {names : List (Str × NameKind)} : ∀ {ge : List (Str × Value)}, geChk (hd.heap_39 c.w.params) names ge = true → GeOk c names (rawGe ge)
  | [], _ => trivial
  | (x, v) :: r, h => by
    unfold geChk at h
    rw [List.all_cons, Bool.and_eq_true, Bool.and_eq_true, Bool.or_eq_true, Bool.and_eq_true, Bool.and_eq_true] at h
    obtain ⟨⟨h1, h2⟩, h3⟩ := h
    refine ⟨⟨beq_iff_eq.mp h1, v, ?_, .raw _⟩, geOk_raw h3⟩
    rcases h2 with h2 | ⟨⟨h2, h4⟩, h5⟩
    · exact .inl (beq_iff_eq.mp h2)
    · exact .inr ⟨beq_iff_eq.mp h2, beq_iff_eq.mp h4, by simpa using h5⟩

theorem get_above {h : Heap} {a : Addr} (ha : h.objs.size ≤ a) : h.get? a = none := by
  cases q : h.get? a with
  | none => rfl
  | some o => exact absurd (Heap.lt_size q) (Nat.not_lt.mpr ha)
theorem cells_some {x : Str} : ∀ (names : List (Str × NameKind)) (n : Nat) (acc : List (Str × Addr)), (x, NameKind.cell) ∈ names ∨ (acc.lookup x).isSome = true → ((cellsFrom n names acc).lookup x).isSome = true
  | [], _, _, h => h.elim (fun e => nomatch e) id
  | (y, k) :: r, n, acc, h => by
    unfold cellsFrom
    by_cases hk : (k == .cell) = true
    · rw [if_pos hk]
      refine cells_some r (n + 1) ((y, n) :: acc) ?_
      by_cases hy : (x == y) = true
      · exact .inr (by rw [List.lookup_cons, hy]; rfl)
      · rcases h with e | e
        · rcases List.mem_cons.mp e with e | e
          · cases e; simp at hy
          · exact .inl e
        · right; rw [List.lookup_cons]; simpa only [hy] using e
    · rw [if_neg hk]
      refine cells_some r n acc (h.imp (fun e => ?_) id)
      rcases List.mem_cons.mp e with e | e
      · cases e; exact absurd rfl hk
      · exact e

section
variable {c : Cx} {d : Nat} {μ : MH}
theorem locStart {g : GH} {s s₁ : Shared} {env : Env} {ps : List Str} {args : List AV} {vs : List Value} {ge : List (Str × AV)} (hR : Rel c g μ s.heap) (hfn : env.scope.kind = .function) (hgl : env.globals = mainGlobals) (hbl : env.builtins = builtinsNs)
    (hL : env.locals = s.heap.objs.size) (hcl : env.cells = cellsFrom (s.heap.objs.size + 1) env.scope.names [])
    (hsc : scopeOk env.scope.names ps = true) (hge : GeOk c env.scope.names ge) (hv : VRs c g args vs) (hlen : args.length = ps.length)
    (x : InCallC s env.locals (bindL env.kindOf (ps.zip vs) fun _ => none) env.cells (bindC env.kindOf (ps.zip vs) fun _ => none) s₁) : Loc c g μ s₁.heap ⟨env, ge, env.scope⟩ (mkLE env.scope.names args) := by
  unfold scopeOk at hsc
  rw [Bool.and_eq_true, Bool.and_eq_true] at hsc
  obtain ⟨⟨hn, hp⟩, hf⟩ := hsc
  have hn := of_decide_eq_true hn
  have hp := of_decide_eq_true hp
  have hps : ps.Nodup := by
    rw [← hp]
    exact ((List.Sublist.map _ List.filter_sublist).nodup hn).sublist (List.take_sublist _ _)
  have hzip : ((ps.zip vs).map (·.1)).Nodup := by
    have : (ps.zip vs).map (·.1) = ps := List.map_fst_zip (by rw [← hlen, hv.length]; exact Nat.le_refl _)
    rw [this]; exact hps
  have fresh : ∀ a, s.heap.objs.size ≤ a → g a = none ∧ μ a = none := fun a ha => ⟨hR.fresh_g (get_above ha), hR.fresh_mu (get_above ha)⟩
  refine ⟨⟨hfn, rfl, hgl, hbl, fun y av hy => hge.mem hy, fun y z a e1 e2 => name_of_addr x.apart (mem_of_lookup e1) (mem_of_lookup e2), fun y a e => Nat.ne_of_gt (x.above y a (mem_of_lookup e))⟩, ?_, ⟨_, x.toInCall.ns, fun y ov hy => ?_⟩, fun a ha => ?_⟩
  · rw [mkLE_names]; exact (List.Sublist.map _ List.filter_sublist).nodup hn
  · obtain ⟨⟨k, hk, hm⟩, hval⟩ := mkLE_mem _ _ _ _ hp hv hlen hy
    have hkind : env.kindOf y = some k := mem_filter_kind hn hm
    cases k with
    | «local» =>
      refine .inl ⟨hkind, fun av e => ?_⟩
      obtain ⟨v, m1, m2⟩ := hval av e
      exact ⟨v, bindL_mem hkind _ _ hzip m1, m2⟩
    | cell =>
      obtain ⟨a, ha⟩ := Option.isSome_iff_exists.mp (cells_some env.scope.names (s.heap.objs.size + 1) [] (.inl hm))
      rw [← hcl] at ha
      refine .inr ⟨hkind, a, _, ha, x.cell y a ha, fun av e => ?_⟩
      obtain ⟨v, m1, m2⟩ := hval av e
      exact ⟨v, bindC_mem hkind _ _ hzip m1, m2⟩
    | _ => cases hk
  · rcases ha with rfl | ⟨y, ha⟩
    · obtain ⟨o, _, _, e, _⟩ := x.toInCall.ns
      exact ⟨(fresh _ x.toInCall.fresh).1, (fresh _ x.toInCall.fresh).2, o, e⟩
    · obtain ⟨o, e, _⟩ := x.cell y a ha
      have := x.above y a (mem_of_lookup ha)
      have hs : s.heap.objs.size ≤ a := Nat.le_of_lt (Nat.lt_of_le_of_lt x.toInCall.fresh this)
      exact ⟨(fresh _ hs).1, (fresh _ hs).2, o, e⟩

noncomputable def retAV : Fl → AV
  | .ret v => v
  | _ => .none

theorem FlR.val {g : GH} {a : Fl} {fl : Flow} : FlR c g a fl → VR c g (retAV a) (match fl with | .ret v => v | _ => .none) := fun h => by
  cases a with
  | next => cases h; exact .none
  | cont => cases h; exact .none
  | ret v => obtain ⟨u, rfl, hu⟩ := h; exact hu

structure CallC (c : Cx) (d : Nat) (f : AV) (args : List AV) (μ : MH) (Q : AV → MH → Prop) : Prop where
  run : ∀ A g s (R : Result → Shared → Prop) vf vs, Room d A → Rel c g μ s.heap → VR c g f vf → VRs c g args vs → (∀ v s', Post c X0 g μ s (VR c) Q v s' → R (.ok (.ret v)) s') → codeAny (model c.prog c.w) A (.call vf ⟨vs, []⟩) R s
theorem CallC.toW {f : AV} {args : List AV} {Q : AV → MH → Prop} (h : CallC c d f args μ Q) : CallW c d f args μ Q := .mk fun A g s E vf vs hA hR hf hv =>
  wpAny_call (h.run A g s _ vf vs hA hR hf hv fun v s' p => p)

theorem callC_def {f : Addr} {name qual : Str} {params : Arguments} {body : List Stmt} {scope : Scope} {dV kV doc pm cdv ct oc : Value} {an od : Option Addr} {osl : Array (Option Value)} {args : List AV} {ps : List Str} {ge : List (Str × AV)} {Q : AV → MH → Prop}
    (ho : (hd.heap_39 c.w.params).lookup f = some ⟨oc, od, .func (fnOf name qual params body scope dV kV doc pm an cdv ct), osl⟩)
    (hcd : codeIn (hd.heap_39 c.w.params) cdv qual = true)
    (hbind : ∀ vs : List Value, vs.length = args.length → bindArgs (fnOf name qual params body scope dV kV doc pm an cdv ct) ⟨vs, []⟩ = pure (ps.zip vs))
    (hsc : scopeOk scope.names ps = true) (hge : Gd c → GeOk c scope.names ge) (hlen : args.length = ps.length)
    (h : ∀ env : Env, WSs c d ⟨env, ge, scope⟩ (mkLE scope.names args) body μ (fun fl _ μ' => Q (retAV fl) μ'))
    (hk : scope.kind = .function := by rfl) (hco : scope.isCoroutine = false := by rfl) (hgen : scope.isGenerator = false := by rfl) : CallC c (d + 1) (.raw (.ref f)) args μ Q :=
  .mk fun A g s R vf vs hA hR hvf hvs hpost => by
    cases hvf
    refine codeAny_call_cells (fd := fnOf name qual params body scope dV kV doc pm an cdv ct) (body := body) (by have := hA.depth; omega) (hR.KX _ _ ho) rfl hR.nolimit (codeRec_of hR.KX hcd) rfl (hbind vs hvs.length.symm) rfl (fun x hx => ?_) (fun s₁ x => ?_) hco hgen hk
    · unfold scopeOk at hsc
      rw [Bool.and_eq_true, Bool.and_eq_true] at hsc
      have hn := of_decide_eq_true hsc.1.1
      have hp := of_decide_eq_true hsc.1.2
      have hx1 : x.1 ∈ ps := by
        have : x.1 ∈ (ps.zip vs).map (·.1) := List.mem_map.mpr ⟨x, hx, rfl⟩
        rw [List.map_fst_zip (by rw [← hlen, hvs.length]; exact Nat.le_refl _)] at this
        exact this
      rw [← hp] at hx1
      obtain ⟨y, hy, e⟩ := List.mem_map.mp (List.mem_of_mem_take hx1)
      obtain ⟨hy1, hy2⟩ := List.mem_filter.mp hy
      obtain ⟨y1, y2⟩ := y
      dsimp only at e hy2
      subst e
      have hl := mem_filter_kind hn hy1
      cases y2 with
      | «local» => exact .inl hl
      | cell => exact .inr ⟨hl, cells_some _ _ _ (.inl hy1)⟩
      | _ => cases hy2
    · have L := locStart (c := c) (μ := μ) (ps := ps) (args := args) (ge := ge) hR (env := callEnvC (fnOf name qual params body scope dV kV doc pm an cdv ct) s.heap.objs.size f) hk rfl rfl rfl rfl hsc (hge hR.gd) hvs hlen x
      obtain ⟨h₁, tk, rfl, kp⟩ := x.done
      have R₁ : Rel c g μ h₁ := hR.ext kp
      have st : Step X0 g μ s g μ { s with heap := h₁, toks := tk } := .ext kp
      refine wpAny_mono ((h _).run _ g { s with heap := h₁, toks := tk } _ hA.deeper R₁ L) (fun fl s' q => ?_) fun _ _ e => e
      obtain ⟨g', μ', a, le', st', R', fr, L', q⟩ := q
      refine hpost _ _ ⟨g', μ', retAV a, ?_, R', fr.val, q⟩
      have pr : ∀ b o, s.heap.get? b = some o → ¬ privs (callEnvC (fnOf name qual params body scope dV kV doc pm an cdv ct) s.heap.objs.size f) b := fun b o e hb => by
        rcases hb with rfl | ⟨y, hb⟩
        · exact absurd (Heap.lt_size e) (Nat.lt_irrefl _)
        · have := x.above y b (mem_of_lookup hb)
          have h2 := Heap.lt_size e
          exact absurd h2 (Nat.not_lt.mpr (Nat.le_of_lt this))
      exact ⟨fun a o e => st'.gg _ _ e, fun b o e h1 _ => st'.keep b o (kp b o e) h1 (pr b o e), fun b o e _ h1 h2 => st'.own b o (kp b o e) (pr b o e) h1 h2, fun b o e _ => st'.pres b o (kp b o e) (pr b o e), st'.gens, st'.os⟩
theorem callW_def {f : Addr} {name qual : Str} {params : Arguments} {body : List Stmt} {scope : Scope} {dV kV doc pm cdv ct oc : Value} {an od : Option Addr} {osl : Array (Option Value)} {args : List AV} {ps : List Str} {ge : List (Str × AV)} {Q : AV → MH → Prop}
    (ho : (hd.heap_39 c.w.params).lookup f = some ⟨oc, od, .func (fnOf name qual params body scope dV kV doc pm an cdv ct), osl⟩)
    (hcd : codeIn (hd.heap_39 c.w.params) cdv qual = true)
    (hbind : ∀ vs : List Value, vs.length = args.length → bindArgs (fnOf name qual params body scope dV kV doc pm an cdv ct) ⟨vs, []⟩ = pure (ps.zip vs))
    (hsc : scopeOk scope.names ps = true) (hge : Gd c → GeOk c scope.names ge) (hlen : args.length = ps.length)
    (h : ∀ env : Env, WSs c d ⟨env, ge, scope⟩ (mkLE scope.names args) body μ (fun fl _ μ' => Q (retAV fl) μ'))
    (hk : scope.kind = .function := by rfl) (hco : scope.isCoroutine = false := by rfl) (hgen : scope.isGenerator = false := by rfl) : CallW c (d + 1) (.raw (.ref f)) args μ Q :=
  (callC_def (ho := ho) hcd hbind hsc hge hlen h hk hco hgen).toW
end
end Mine
namespace Mine
open PySem PySem.W PyProof.Rows

noncomputable def Priv (fp : List Addr) (g : GH) (μ : MH) (h : Heap) : Prop := ∀ b ∈ fp, g b = none ∧ μ b = none ∧ ∃ o, h.get? b = some o
noncomputable abbrev inL (fp : List Addr) : Addr → Prop := fun a => a ∈ fp
theorem Priv.step {fp : List Addr} {X : Addr → Prop} {g g' : GH} {μ μ' : MH} {s s' : Shared} (P : Priv fp g μ s.heap) (st : Step X g μ s g' μ' s') (hX : ∀ b ∈ fp, ¬ X b) : Priv fp g' μ' s'.heap := fun b hb => by
  obtain ⟨e1, e2, o, e3⟩ := P b hb
  obtain ⟨e4, e5⟩ := st.own b o e3 (hX b hb) e2 e1
  exact ⟨e4, e5, st.pres b o e3 (hX b hb)⟩
theorem Priv.kept {fp : List Addr} {X : Addr → Prop} {g g' : GH} {μ μ' : MH} {s s' : Shared} (P : Priv fp g μ s.heap) (st : Step X g μ s g' μ' s') (hX : ∀ b ∈ fp, ¬ X b) : ∀ b ∈ fp, ∀ o, s.heap.get? b = some o → s'.heap.get? b = some o :=
  fun b hb o e => st.keep b o e (P b hb).2.1 (hX b hb)
theorem Step.trans' {c : Cx} {X Y : Addr → Prop} {g g₁ g₂ : GH} {μ μ₁ μ₂ : MH} {s s₁ s₂ : Shared} (x : Step X g μ s g₁ μ₁ s₁) (R : Rel c g₁ μ₁ s₁.heap) (y : Step Y g₁ μ₁ s₁ g₂ μ₂ s₂) (hY : ∀ b, Y b → X b ∨ s.heap.get? b = none) : Step X g μ s g₂ μ₂ s₂ := by
  refine ⟨fun a o e => y.gg _ _ (x.gg _ _ e), fun b o e h1 h2 => ?_, fun b o hb hx h1 h2 => ?_, fun b o e hx => let ⟨_, e1⟩ := x.pres b o e hx; y.pres b _ e1 (fun q => (hY b q).elim hx fun q => by rw [e] at q; cases q), y.gens.trans x.gens, y.os.trans x.os⟩
  · refine y.keep _ _ (x.keep _ _ e h1 h2) ?_ fun q => (hY b q).elim h2 fun q => by rw [e] at q; cases q
    cases q : g b with
    | none => exact (x.own b o e h2 h1 q).2
    | some o' => exact R.mu_none (x.gg _ _ q)
  · obtain ⟨e1, e2⟩ := x.own b o hb hx h1 h2
    obtain ⟨o', e3⟩ := x.pres b o hb hx
    exact y.own b o' e3 (fun q => (hY b q).elim hx fun q => by rw [hb] at q; cases q) e2 e1

structure Wk (c : Cx) (target : Expr) (I : Addr) (fp : List Addr) (items : List AV) (St : Nat → GH → Heap → Prop) : Prop where
  frame : ∀ i g h g' h', St i g h → (∀ a o, g a = some o → g' a = some o) → (∀ b ∈ fp, ∀ o, h.get? b = some o → h'.get? b = some o) → St i g' h'
  item : ∀ A i g μ s E (Q : Value → Shared → Prop) a, A.handled = none → Rel c g μ s.heap → Priv fp g μ s.heap → St i g s.heap → items[i]? = some a →
    (∀ v g' s', Step (inL fp) g μ s g' μ s' → Rel c g' μ s'.heap → VR c g' a v → Priv fp g' μ s'.heap → St (i + 1) g' s'.heap → Q v s') →
    wpAny (model c.prog c.w) A (pyNext (.ref I)) (fun r s₁ => match r with | none => False | some v => wpAny (model c.prog c.w) A (letOwnedTupleGo target (.ref I) v) (fun _ s' => Q v s') E s₁) E s
  done : ∀ A g μ s E (Q : Shared → Prop), A.handled = none → Rel c g μ s.heap → Priv fp g μ s.heap → St items.length g s.heap →
    (∀ s', Step (inL fp) g μ s g μ s' → Rel c g μ s'.heap → Q s') → wpAny (model c.prog c.w) A (pyNext (.ref I)) (fun r s' => r = none ∧ Q s') E s
  self : ∀ A i g μ s E (Q : Value → Shared → Prop), Rel c g μ s.heap → Priv fp g μ s.heap → St i g s.heap → Q (.ref I) s → wpAny (model c.prog c.w) A (pyIter (.ref I)) Q E s

inductive ItR (c : Cx) (target : Expr) (g : GH) (μ : MH) (s : Shared) (Q : List AV → MH → Prop) (it : Value) (s₂ : Shared) : Prop
  | mk (I : Addr) (fp : List Addr) (items : List AV) (St : Nat → GH → Heap → Prop) (g' : GH) (μ' : MH) (e : it = .ref I) (W : Wk c target I fp items St) (st : Step X0 g μ s g' μ' s₂) (R : Rel c g' μ' s₂.heap) (P : Priv fp g' μ' s₂.heap) (hn : ∀ b ∈ fp, s.heap.get? b = none) (hst : St 0 g' s₂.heap) (q : Q items μ')
structure IterE (c : Cx) (d : Nat) (F : Fm) (le : LE) (target e : Expr) (μ : MH) (Q : List AV → MH → Prop) : Prop where
  run : ∀ A g s E, Room d A → Rel c g μ s.heap → Loc c g μ s.heap F le → wpAny (model c.prog c.w) A (eval e F.env) (fun x s₁ => wpAny (model c.prog c.w) A (pyIter x) (fun it s₂ =>
    ItR c target g μ s Q it s₂) E s₁) E s

noncomputable def LoopW (c : Cx) (d : Nat) (F : Fm) (target : Expr) (body : List Stmt) (Q : Fl → LE → MH → Prop) : List AV → LE → MH → Prop
  | [], le, μ => Q .next le μ
  | a :: r, le, μ => WA c d F le target a μ (fun le₁ μ₁ => WSs c d F le₁ body μ₁ (fun fl le₂ μ₂ => match fl with | .ret v => Q (.ret v) le₂ μ₂ | _ => LoopW c d F target body Q r le₂ μ₂))

section
variable {c : Cx} {d : Nat} {F : Fm} {le : LE} {μ : MH} {p : Pos}

theorem Loc.of_step {g g' : GH} {μ μ' : MH} {s s' : Shared} {fp : List Addr} (L : Loc c g μ s.heap F le) (st : Step (inL fp) g μ s g' μ' s') (hd : ∀ b ∈ fp, ¬ privs F.env b) : Loc c g' μ' s'.heap F le := by
  obtain ⟨ok, nd, ⟨m, hm, hs⟩, pv⟩ := L
  have kp : ∀ a o, privs F.env a → s.heap.get? a = some o → s'.heap.get? a = some o := fun a o ha e => st.keep a o e (pv a ha).2.1 fun q => hd a q ha
  refine ⟨ok, nd, ⟨m, ?_, fun x ov hx => (hs x ov hx).mono st.gg fun a o ha e => kp a o (.inr ha) e⟩, fun a ha => ?_⟩
  · obtain ⟨o, es, ep, e, r⟩ := hm
    exact ⟨o, es, ep, kp _ _ (.inl rfl) e, r⟩
  · obtain ⟨e1, e2, o, e3⟩ := pv a ha
    obtain ⟨e4, e5⟩ := st.own a o e3 (fun q => hd a q ha) e2 e1
    exact ⟨e4, e5, o, kp _ _ ha e3⟩

theorem ws_for {target iter : Expr} {body : List Stmt} {Q : Fl → LE → MH → Prop} (h : IterE c d F le target iter μ (fun items μ₁ => LoopW c d F target body Q items le μ₁))
    (hs : ∀ env x, foldedSetIterable iter env x = pure x := by intro _ _; rfl) : WS c d F le (.For target iter body [] p) μ Q := .mk fun A g s E hA hR hL => by
  refine wpAny_For (wpAny_mono (h.run A g s E hA hR hL) (fun x s₁ hx => wpAny_mono hx (fun it s₂ q => ?_) fun _ _ e => e) fun _ _ e => e) (hs _)
  obtain ⟨I, fp, items, St, g₂, μ₂, rfl, W, st₂, R₂, P₂, hnew, hst, hq⟩ := q
  have hdis : ∀ b ∈ fp, ¬ privs F.env b := fun b hb hp => by
    obtain ⟨_, _, o, e⟩ := hL.pv b hp
    rw [hnew b hb] at e; cases e
  have L₂ := hL.step st₂
  refine codeAny_mono (codeAny_forLoop_any (R := fun r s' => match r with | .ok f => PostS c F g μ s Q f s' | .error _ => False)
    (fun n s' => ∃ i le' g' μ', n = items.length + 1 - i ∧ i ≤ items.length ∧ Step (privs F.env) g μ s g' μ' s' ∧ Rel c g' μ' s'.heap ∧ Loc c g' μ' s'.heap F le' ∧ Priv fp g' μ' s'.heap ∧ St i g' s'.heap ∧ LoopW c d F target body Q (items.drop i) le' μ')
    (fun n s' hI => ?_) (items.length + 1) ⟨0, le, g₂, μ₂, rfl, Nat.zero_le _, st₂.x0, R₂, L₂, P₂, hst, hq⟩) (fun r s' q => ?_)
  · obtain ⟨i, le', g', μ', rfl, hi, st, R, L, P, hst, hq⟩ := hI
    by_cases hlt : i < items.length
    · have ha : items[i]? = some items[i] := List.getElem?_eq_getElem hlt
      refine wpAny_mono (W.item A i g' μ' s' _ ?Q _ hA.hh R P hst ha ?k) (fun r s₃ q => ?z) fun _ _ e => e
      case z =>
        cases r with
        | none => exact q.elim
        | some v => exact q
      case k =>
        intro v g₃ s₃ st₃ R₃ hv P₃ hst₃
        have L₃ := L.of_step st₃ hdis
        have S₃ := st.trans' R st₃ fun b hb => .inr (hnew b hb)
        rw [List.drop_eq_getElem_cons hlt] at hq
        refine wpAny_mono (hq.run A g₃ s₃ _ v hA R₃ L₃ hv) (fun _ s₄ q => ?_) fun _ _ e => e
        obtain ⟨g₄, μ₄, le₄, st₄, R₄, L₄, q⟩ := q
        refine wpAny_mono (q.run A g₄ s₄ _ hA R₄ L₄) (fun f s₅ q => ?_) fun _ _ e => e
        obtain ⟨g₅, μ₅, fl, le₅, st₅, R₅, fr, L₅, q⟩ := q
        have S₅ := (S₃.trans R₃ st₄).trans R₄ st₅
        have S45 := st₄.trans R₄ st₅
        have nx : ∀ b ∈ fp, ¬ privs F.env b := hdis
        have hst₅ : St (i + 1) g₅ s₅.heap := W.frame _ _ _ _ _ hst₃ S45.gg (P₃.kept S45 nx)
        have P₅ := P₃.step S45 nx
        cases fl with
        | next => cases fr; exact ⟨_, by omega, i + 1, le₅, g₅, μ₅, rfl, hlt, S₅, R₅, L₅, P₅, hst₅, q⟩
        | cont => cases fr; exact ⟨_, by omega, i + 1, le₅, g₅, μ₅, rfl, hlt, S₅, R₅, L₅, P₅, hst₅, q⟩
        | ret u => obtain ⟨y, rfl, hy⟩ := fr; exact ⟨g₅, μ₅, .ret u, le₅, S₅, R₅, ⟨y, rfl, hy⟩, L₅, q⟩
    · have hi' : i = items.length := by omega
      subst hi'
      refine wpAny_mono (W.done A g' μ' s' _ ?Q2 hA.hh R P hst ?k2) (fun r s₃ q => ?z2) fun _ _ e => e
      case z2 =>
        obtain ⟨rfl, q⟩ := q
        exact q
      case k2 =>
        intro s₃ st₃ R₃
        rw [List.drop_length] at hq
        exact wpAny_execs_nil ⟨g', μ', .next, le', st.trans' R st₃ fun b hb => .inr (hnew b hb), R₃, rfl, L.of_step st₃ hdis, hq⟩
  · cases r with
    | ok f => exact q
    | error e => exact q.elim
end
end Mine
namespace Mine
open PySem PySem.W PyProof.Rows

inductive ItemsOf : AV → List AV → Prop
  | lst (vs : List AV) : ItemsOf (.lst vs) vs
  | tup (vs : List AV) : ItemsOf (.tup vs) vs
  | rng {a b k : Int} {n : Nat} : Builtin.Range.small a b k = true → Builtin.Range.rangeSize a b k = (n : Int) → ItemsOf (.rng a b k) ((List.range n).map fun (i : Nat) => .int (a + i * k))

section
variable {c : Cx} {d : Nat} {F : Fm} {le : LE} {μ : MH} {p : Pos}

theorem priv1 {g : GH} {h : Heap} {I : Addr} {o : Obj} (hg : g I = none) (hm : μ I = none) (ho : h.get? I = some o) : Priv [I] g μ h := fun b hb => by
  rw [List.mem_singleton] at hb; subst hb; exact ⟨hg, hm, o, ho⟩
theorem lst_inv {g : GH} {vs : List AV} {v : Value} (h : VR c g (.lst vs) v) : ∃ a o xs n, v = .ref a ∧ g a = some o ∧ o.cls = .type "list" ∧ o.data = .seq xs n ∧ VRs c g vs xs.toList := by
  cases h with
  | lst e1 e2 e3 e4 => exact ⟨_, _, _, _, rfl, e1, e2, e3, e4⟩
theorem tup_inv {g : GH} {vs : List AV} {v : Value} (h : VR c g (.tup vs) v) : ∃ a o xs n, v = .ref a ∧ g a = some o ∧ o.cls = .type "tuple" ∧ o.data = .seq xs n ∧ VRs c g vs xs.toList := by
  cases h with
  | tup e1 e2 e3 e4 => exact ⟨_, _, _, _, rfl, e1, e2, e3, e4⟩

theorem VRs.get_none {g : GH} {xs : List AV} {vs : List Value} (h : VRs c g xs vs) : vs[xs.length]? = none := by
  rw [h.length]; exact List.getElem?_eq_none (Nat.le_refl _)

theorem wk_list {target : Expr} {I a : Addr} {vs : List AV} : Wk c target I [I] vs (fun i g h => h.IsListIter I a i ∧ VR c g (.lst vs) (.ref a)) where
  frame := fun i g h g' h' st hg hk => ⟨let ⟨o, ho, r⟩ := st.1; ⟨o, hk I (.head _) o ho, r⟩, st.2.mono hg⟩
  item := fun A i g μ s E Q x hh R P st hx k => by
    obtain ⟨a', o, xs, n, e0, e1, e2, e3, e4⟩ := lst_inv st.2
    cases e0
    obtain ⟨v, ev, hv⟩ := e4.get hx
    have hl : s.heap.IsList a xs := ⟨_, R.sub _ _ e1, e2, _, e3⟩
    refine wpAny_pyNext_list_item st.1 hl (by rw [← Array.getElem?_toList]; exact ev) fun h' hit' hs' => ?_
    obtain ⟨pg, pm, oi, ho⟩ := P I (.head _)
    obtain ⟨o', ho', _⟩ := id hit'
    exact letGo_listiter hit' (k v g { s with heap := h' } (Step.priv (.head _) hs') (R.priv pg pm hs') hv (priv1 pg pm ho') ⟨hit', st.2⟩)
  done := fun A g μ s E Q hh R P st k => by
    obtain ⟨a', o, xs, n, e0, e1, e2, e3, e4⟩ := lst_inv st.2
    cases e0
    have hl : s.heap.IsList a xs := ⟨_, R.sub _ _ e1, e2, _, e3⟩
    refine wpAny_pyNext_list_end hh st.1 hl (by rw [← Array.getElem?_toList]; exact e4.get_none) fun h' he' => ?_
    have hs : ∀ b o, ¬ inL [I] b → s.heap.get? b = some o → h'.get? b = some o := fun b o hb e => he' b o (fun q => hb (q ▸ .head _)) e
    exact ⟨rfl, k { s with heap := h' } (Step.privE hs) (R.privE (fun b hb => by rw [List.mem_singleton.mp hb]; exact ⟨(P I (.head _)).1, (P I (.head _)).2.1⟩) hs)⟩
  self := fun A i g μ s E Q R P st k => wpAny_pyIter_listiter st.1 k

theorem wk_tup {target : Expr} {I a : Addr} {vs : List AV} : Wk c target I [I] vs (fun i g h => h.IsTupleIter I a i ∧ VR c g (.tup vs) (.ref a)) where
  frame := fun i g h g' h' st hg hk => ⟨let ⟨o, ho, r⟩ := st.1; ⟨o, hk I (.head _) o ho, r⟩, st.2.mono hg⟩
  item := fun A i g μ s E Q x hh R P st hx k => by
    obtain ⟨a', o, xs, n, e0, e1, e2, e3, e4⟩ := tup_inv st.2
    cases e0
    obtain ⟨v, ev, hv⟩ := e4.get hx
    have hl : s.heap.IsTuple a xs := ⟨_, R.sub _ _ e1, e2, _, e3⟩
    refine wpAny_pyNext_tuple_item st.1 hl (by rw [← Array.getElem?_toList]; exact ev) fun h' hit' hs' => ?_
    obtain ⟨pg, pm, oi, ho⟩ := P I (.head _)
    obtain ⟨o', ho', _⟩ := id hit'
    exact letGo_tupleiter hit' (k v g { s with heap := h' } (Step.priv (.head _) hs') (R.priv pg pm hs') hv (priv1 pg pm ho') ⟨hit', st.2⟩)
  done := fun A g μ s E Q hh R P st k => by
    obtain ⟨a', o, xs, n, e0, e1, e2, e3, e4⟩ := tup_inv st.2
    cases e0
    have hl : s.heap.IsTuple a xs := ⟨_, R.sub _ _ e1, e2, _, e3⟩
    refine wpAny_pyNext_tuple_end hh st.1 hl (by rw [← Array.getElem?_toList]; exact e4.get_none) fun h' he' => ?_
    have hs : ∀ b o, ¬ inL [I] b → s.heap.get? b = some o → h'.get? b = some o := fun b o hb e => he' b o (fun q => hb (q ▸ .head _)) e
    exact ⟨rfl, k { s with heap := h' } (Step.privE hs) (R.privE (fun b hb => by rw [List.mem_singleton.mp hb]; exact ⟨(P I (.head _)).1, (P I (.head _)).2.1⟩) hs)⟩
  self := fun A i g μ s E Q R P st k => wpAny_pyIter_tupleiter st.1 k

theorem letGo_rangeiter {A : Around} {E : Value → Shared → Prop} {target : Expr} {I : Addr} {x l st : Int} {v : Value} {Q' : Unit → Shared → Prop} {s' : Shared} (hit : IsRangeIter s'.heap I x l st) (h : Q' () s') :
    wpAny (model c.prog c.w) A (letOwnedTupleGo target (.ref I) v) Q' E s' := by
  unfold letOwnedTupleGo
  cases target <;> first
    | exact wpAny_pure h
    | (cases v <;> first
        | exact wpAny_pure h
        | (refine wpAny_bind (wpAny_load hit ?_)
           show wpAny _ _ (if (["enumerate", "zip", "dict_itemiterator", "dict_reverseitemiterator", "odict_iterator", "itertools.zip_longest", "itertools.pairwise"].contains "range_iterator" && _) = true then _ else _) _ _ _
           rw [if_neg (by rw [show (["enumerate", "zip", "dict_itemiterator", "dict_reverseitemiterator", "odict_iterator", "itertools.zip_longest", "itertools.pairwise"].contains "range_iterator") = false by decide]; exact Bool.false_ne_true)]
           exact wpAny_pure h))

theorem wk_rng {target : Expr} {I : Addr} {a k : Int} {n : Nat} : Wk c target I [I] ((List.range n).map fun (i : Nat) => .int (a + i * k)) (fun i g h => IsRangeIter h I (a + i * k) (n - i) k) where
  frame := fun i g h g' h' st hg hk => hk I (.head _) _ st
  item := fun A i g μ s E Q x hh R P st hx kk => by
    rw [List.getElem?_map] at hx
    obtain ⟨j, hj, rfl⟩ := Option.map_eq_some_iff.mp hx
    obtain ⟨hlt, e⟩ := List.getElem?_eq_some_iff.mp hj
    rw [List.length_range] at hlt
    rw [List.getElem_range] at e
    subst e
    refine wpAny_pyNext_range_item st (by omega) fun h' hit' hs' => ?_
    obtain ⟨pg, pm, oi, ho⟩ := P I (.head _)
    have q1 : a + (i : Int) * k + k = a + ((i + 1 : Nat) : Int) * k := by rw [Int.natCast_add, Int.add_mul, Int.natCast_one, Int.one_mul, Int.add_assoc]
    have q2 : (n : Int) - i - 1 = n - ((i + 1 : Nat) : Int) := by omega
    exact letGo_rangeiter hit' (kk _ g { s with heap := h', toks := s.toks + 1 } (Step.priv (.head _) hs') (R.priv pg pm hs') (.int ..) (priv1 pg pm hit') (by rw [q1, q2] at hit'; exact hit'))
  done := fun A g μ s E Q hh R P st k => by
    rw [List.length_map, List.length_range] at st
    refine wpAny_pyNext_range_end hh st (by omega) fun h' he' => ?_
    have hs : ∀ b o, ¬ inL [I] b → s.heap.get? b = some o → h'.get? b = some o := fun b o hb e => he' b o (fun q => hb (q ▸ .head _)) e
    exact ⟨rfl, k { s with heap := h' } (Step.privE hs) (R.privE (fun b hb => by rw [List.mem_singleton.mp hb]; exact ⟨(P I (.head _)).1, (P I (.head _)).2.1⟩) hs)⟩
  self := fun A i g μ s E Q R P st k => wpAny_pyIter_rangeiter st k

theorem newPriv {g : GH} {s : Shared} {o : Obj} (R : Rel c g μ s.heap) (hf : o.isFreed = false) : Rel c g μ (s.heap.push o) ∧ Step X0 g μ s g μ { s with heap := s.heap.push o } ∧ Priv [s.heap.objs.size] g μ (s.heap.push o) ∧ (s.heap.push o).get? s.heap.objs.size = some o :=
  ⟨R.ext (push_keeps _ _), Step.ext (t := s.toks) (push_keeps _ _), priv1 (R.fresh_g (get_end _)) (R.fresh_mu (get_end _)) (Heap.get?_push_size _ hf), Heap.get?_push_size _ hf⟩
theorem Step.none_of {X : Addr → Prop} {g g' : GH} {μ' : MH} {s s' : Shared} (st : Step X g μ s g' μ' s') {a : Addr} (h : s'.heap.get? a = none) (hX : ∀ b, ¬ X b) : s.heap.get? a = none := by
  cases q : s.heap.get? a with
  | none => rfl
  | some o => obtain ⟨o', e⟩ := st.pres a o q (hX _); rw [h] at e; cases e

noncomputable abbrev kIt (Q : List AV → MH → Prop) : AV → MH → Prop := fun a μ' => ∃ items, ItemsOf a items ∧ Q items μ'
theorem it_of {target e : Expr} {Q : List AV → MH → Prop} (h : WE c d F le e μ (kIt Q)) : IterE c d F le target e μ Q := .mk fun A g s E hA hR hL =>
  seqN (h.run A g s E hA hR hL) fun g₁ μ₁ s₁ av va st₁ R₁ v₁ q₁ => by
    obtain ⟨items, hi, hq⟩ := q₁
    have hnew : ∀ b ∈ [s₁.heap.objs.size], s.heap.get? b = none := fun b hb => by rw [List.mem_singleton.mp hb]; exact st₁.none_of (get_end _) fun _ => id
    cases hi with
    | lst vs =>
      obtain ⟨a, o, xs, n, rfl, e1, e2, e3, e4⟩ := lst_inv v₁
      have hl : s₁.heap.IsList a xs := ⟨_, R₁.sub _ _ e1, e2, _, e3⟩
      refine wpAny_pyIter_list hl ?_
      obtain ⟨R₂, st₂, P₂, e⟩ := newPriv (o := { cls := .type "list_iterator", data := .fields #[.ref a, .int 0 0] }) R₁ rfl
      exact ⟨_, _, _, _, g₁, μ₁, rfl, wk_list, st₁.trans R₁ st₂, R₂, P₂, hnew, ⟨⟨_, e, rfl, rfl⟩, v₁⟩, hq⟩
    | tup vs =>
      obtain ⟨a, o, xs, n, rfl, e1, e2, e3, e4⟩ := tup_inv v₁
      have hl : s₁.heap.IsTuple a xs := ⟨_, R₁.sub _ _ e1, e2, _, e3⟩
      refine wpAny_pyIter_tuple hl ?_
      obtain ⟨R₂, st₂, P₂, e⟩ := newPriv (o := { cls := .type "tuple_iterator", data := .fields #[.ref a, .int 0 0] }) R₁ rfl
      exact ⟨_, _, _, _, g₁, μ₁, rfl, wk_tup, st₁.trans R₁ st₂, R₂, P₂, hnew, ⟨⟨_, e, rfl, rfl⟩, v₁⟩, hq⟩
    | @rng a b k n hs hn =>
      cases v₁ with
      | rng e0 =>
        refine wpAny_pyIter_range (R₁.sub _ _ e0) hs ?_
        obtain ⟨R₂, st₂, P₂, e⟩ := newPriv (o := { cls := .type "range_iterator", data := .fields #[rawInt a, rawInt (Builtin.Range.rangeSize a b k), rawInt k] }) R₁ rfl
        refine ⟨_, _, _, _, g₁, μ₁, rfl, wk_rng (a := a) (k := k) (n := n), st₁.trans R₁ st₂, R₂, P₂, hnew, ?_, hq⟩
        show IsRangeIter _ _ (a + ((0 : Nat) : Int) * k) ((n : Int) - ((0 : Nat) : Int)) k
        rw [hn] at e ⊢
        simpa using e
end
end Mine
namespace Mine
open PySem PySem.W PyProof.Rows

section
variable {c : Cx} {d : Nat} {F : Fm} {le : LE} {μ : MH} {p : Pos}

theorem ints_are {g : GH} : ∀ {ns : List Int} {vs : List Value}, VRs c g (ns.map .int) vs → IntsAre vs ns
  | [], _, .nil => .nil
  | n :: ns, _, .cons h1 h2 => by cases h1; exact .cons n _ (ints_are h2)

theorem Post.new {β : Type} {X : Addr → Prop} {g : GH} {s : Shared} {h' : Heap} {tk : Nat} {Rr : GH → β → Value → Prop} {Q : β → MH → Prop} {v : Value} {b : β} (R : Rel c g μ s.heap) (k : ∀ b o, s.heap.get? b = some o → h'.get? b = some o) (hr : Rr g b v) (hq : Q b μ) :
    Post c X g μ s Rr Q v { s with heap := h', toks := tk } := .of (.ext k) (R.ext k) hr hq
theorem Post.newG {X : Addr → Prop} {g : GH} {s : Shared} {h' : Heap} {tk : Nat} {Q : AV → MH → Prop} {av : AV} {a : Addr} {o : Obj} (R : Rel c g μ s.heap) (k : ∀ b o, s.heap.get? b = some o → h'.get? b = some o) (hn : s.heap.get? a = none) (ho : h'.get? a = some o)
    (hr : VR c (updG g a o) av (.ref a)) (hq : Q av μ) : Post c X g μ s (VR c) Q (.ref a) { s with heap := h', toks := tk } := .of (.addG R k hn) (R.addG k hn ho) hr hq
theorem Post.newM {X : Addr → Prop} {g : GH} {s : Shared} {h' : Heap} {tk : Nat} {Q : AV → MH → Prop} {ao : AO} {a : Addr} (R : Rel c g μ s.heap) (k : ∀ b o, s.heap.get? b = some o → h'.get? b = some o) (hn : s.heap.get? a = none) (ho : OR c g h' a ao)
    (hq : ∀ a, μ a = none → Q (.ref a) (updM μ a ao)) : Post c X g μ s (VR c) Q (.ref a) { s with heap := h', toks := tk } := .of (.addM R k hn) (R.addM k hn ho) (.ref _) (hq a (R.fresh_mu hn))
theorem updG_self (g : GH) (a : Addr) (o : Obj) : updG g a o a = some o := if_pos rfl

theorem call_len_lst {vs : List AV} {Q : AV → MH → Prop} (h : Q (.int vs.length) μ) (hs : vs.length < 2 ^ 62) : CallW c d (.raw (.builtin "len")) [.lst vs] μ Q := .mk fun A g s E vf us hA hR hf hv => by
  cases hf
  cases hv with
  | cons h1 h2 =>
    cases h2
    obtain ⟨a, o, xs, n, rfl, e1, e2, e3, e4⟩ := lst_inv h1
    have hl : s.heap.IsList a xs := ⟨_, hR.sub _ _ e1, e2, _, e3⟩
    have he : vs.length = xs.size := by rw [e4.length, Array.length_toList]
    refine Calls.call_len_list hl (by omega) (.new (tk := s.toks + 1 + 1) hR (fun _ _ e => e) (.int ..) ?_)
    rw [← he]; exact h
theorem call_len_ref {a : Addr} {tg : Nat} {vs : List AV} {Q : AV → MH → Prop} (hm : μ a = some (.list tg vs)) (h : Q (.int vs.length) μ) (hs : vs.length < 2 ^ 62) : CallW c d (.raw (.builtin "len")) [.ref a] μ Q := .mk fun A g s E vf us hA hR hf hv => by
  cases hf
  cases hv with
  | cons h1 h2 =>
    cases h2
    cases h1
    obtain ⟨_, xs, n, e1, e4⟩ := hR.mu _ _ hm
    have hl : s.heap.IsList a xs := ⟨_, e1, rfl, _, rfl⟩
    have he : vs.length = xs.size := by rw [e4.length, Array.length_toList]
    refine Calls.call_len_list hl (by omega) (.new (tk := s.toks + 1 + 1) hR (fun _ _ e => e) (.int ..) ?_)
    rw [← he]; exact h
theorem call_len_tup {vs : List AV} {Q : AV → MH → Prop} (h : Q (.int vs.length) μ) (hs : vs.length < 2 ^ 62) : CallW c d (.raw (.builtin "len")) [.tup vs] μ Q := .mk fun A g s E vf us hA hR hf hv => by
  cases hf
  cases hv with
  | cons h1 h2 =>
    cases h2
    obtain ⟨a, o, xs, n, rfl, e1, e2, e3, e4⟩ := tup_inv h1
    have hl : IsTup s.heap a xs := ⟨_, hR.sub _ _ e1, e2, _, e3⟩
    have he : vs.length = xs.size := by rw [e4.length, Array.length_toList]
    refine PyProof.Rows.len_tuple hl (by omega) (.new (tk := s.toks + 1 + 1) hR (fun _ _ e => e) (.int ..) ?_)
    rw [← he]; exact h

theorem callW_abs {i : Int} {Q : AV → MH → Prop} (h : Q (.int (if i < 0 then -i else i)) μ) : CallW c d (.raw (.builtin "abs")) [.int i] μ Q := .mk fun A g s E vf us hA hR hf hv => by
  cases hf
  cases hv with
  | cons h1 h2 =>
    cases h2; cases h1
    exact PyProof.Rows.call_abs_int fun u tk => .new hR (fun _ _ e => e) (.int ..) h
theorem callW_max2 {i j : Int} {Q : AV → MH → Prop} (h : Q (.int (max i j)) μ) : CallW c d (.raw (.builtin "max")) [.int i, .int j] μ Q := .mk fun A g s E vf us hA hR hf hv => by
  cases hf
  cases hv with
  | cons h1 h2 =>
    cases h2 with
    | cons h2 h3 =>
      cases h3; cases h1; cases h2
      refine max_two_ints hA.hh fun h' tk hk => ?_
      have e : max i j = if j > i then j else i := by split <;> omega
      rw [e] at h
      split
      · rw [if_pos (by assumption)] at h; exact .new hR hk (.int ..) h
      · rw [if_neg (by assumption)] at h; exact .new hR hk (.int ..) h
theorem callW_min2 {i j : Int} {Q : AV → MH → Prop} (h : Q (.int (min i j)) μ) : CallW c d (.raw (.builtin "min")) [.int i, .int j] μ Q := .mk fun A g s E vf us hA hR hf hv => by
  cases hf
  cases hv with
  | cons h1 h2 =>
    cases h2 with
    | cons h2 h3 =>
      cases h3; cases h1; cases h2
      refine min_two_ints hA.hh fun h' tk hk => ?_
      have e : min i j = if j < i then j else i := by split <;> omega
      rw [e] at h
      split
      · rw [if_pos (by assumption)] at h; exact .new hR hk (.int ..) h
      · rw [if_neg (by assumption)] at h; exact .new hR hk (.int ..) h

theorem int_items {g : GH} {ns : List Int} {xs : Array Value} (h : VRs c g (ns.map .int) xs.toList) : ∃ ys : Array (Int × Tok), xs = intItems ys ∧ ns = ys.toList.map (·.1) := by
  have hi := ints_are h
  obtain ⟨ys, e⟩ := hi.allInts.items
  have e : xs = intItems ys := by rw [← e]
  refine ⟨ys, e, ?_⟩
  rw [← hi.numsOf, ← nums_intItems, ← e]
theorem callW_sum {ns : List Int} {Q : AV → MH → Prop} (h : Q (.int ns.sum) μ) : CallW c d (.raw (.builtin "sum")) [.lst (ns.map .int)] μ Q := .mk fun A g s E vf us hA hR hf hv => by
  cases hf
  cases hv with
  | cons h1 h2 =>
    cases h2
    obtain ⟨a, o, xs, n, rfl, e1, e2, e3, e4⟩ := lst_inv h1
    have hl : s.heap.IsList a xs := ⟨_, hR.sub _ _ e1, e2, _, e3⟩
    obtain ⟨ys, rfl, rfl⟩ := int_items e4
    refine sum_intListG hA.hh hl fun h' tk t' hk => ?_
    refine .new hR hk (.int ..) ?_
    rw [preSum_eq, List.take_of_length_le (by simp)]; exact h
theorem callW_maxl {ns : List Int} {Q : AV → MH → Prop} (hne : 0 < ns.length) (h : ∀ m, m ∈ ns → (∀ a ∈ ns, a ≤ m) → Q (.int m) μ) : CallW c d (.raw (.builtin "max")) [.lst (ns.map .int)] μ Q := .mk fun A g s E vf us hA hR hf hv => by
  cases hf
  cases hv with
  | cons h1 h2 =>
    cases h2
    obtain ⟨a, o, xs, n, rfl, e1, e2, e3, e4⟩ := lst_inv h1
    have hl : s.heap.IsList a xs := ⟨_, hR.sub _ _ e1, e2, _, e3⟩
    obtain ⟨ys, rfl, rfl⟩ := int_items e4
    rw [List.length_map, Array.length_toList] at hne
    refine max_intList hA.hh hl hne fun v h' tk hv hk => ?_
    obtain ⟨t, rfl⟩ := intItems_at hv
    obtain ⟨h1, h2⟩ := argBest_gt (numAt ys) (ys.size - 1)
    refine .new hR hk (.int ..) (h _ ?_ fun a ha => ?_)
    · rw [numAt_eq]; exact getD_mem (by rw [List.length_map, Array.length_toList]; omega)
    · obtain ⟨j, hj, rfl⟩ := mem_getD ha
      rw [List.length_map, Array.length_toList] at hj
      rw [← numAt_eq]; exact h2 j (by omega)

theorem callW_list_lst {tg' : Nat} {vs : List AV} {Q : AV → MH → Prop} (h : ∀ b, μ b = none → Q (.ref b) (updM μ b (.list tg' vs))) (hs : vs.length ≤ 16777216 := by omega) : CallW c d (.raw (.type "list")) [.lst vs] μ Q := .mk fun A g s E vf us hA hR hf hv => by
  cases hf
  cases hv with
  | cons h1 h2 =>
    cases h2
    obtain ⟨a, o, xs, n, rfl, e1, e2, e3, e4⟩ := lst_inv h1
    refine call_list_seq a (.inl rfl) (hR.sub _ _ e1) e2 e3 (hsz := by show _ ≤ 16777216; rw [← Array.length_toList, ← e4.length]; exact hs) fun h' c' hk ho => ?_
    exact .newM (ao := .list tg' vs) (tk := s.toks) hR hk (get_end _) ⟨_, _, ho, e4⟩ h
theorem callW_list_lstF {vs : List AV} {Q : AV → MH → Prop} (h : Q (.lst vs) μ) (hs : vs.length ≤ 16777216 := by omega) : CallW c d (.raw (.type "list")) [.lst vs] μ Q := .mk fun A g s E vf us hA hR hf hv => by
  cases hf
  cases hv with
  | cons h1 h2 =>
    cases h2
    obtain ⟨a, o, xs, n, rfl, e1, e2, e3, e4⟩ := lst_inv h1
    refine call_list_seq a (.inl rfl) (hR.sub _ _ e1) e2 e3 (hsz := by show _ ≤ 16777216; rw [← Array.length_toList, ← e4.length]; exact hs) fun h' c' hk ho => ?_
    exact .newG (tk := s.toks) hR hk (get_end _) ho (.lst (updG_self _ _ _) rfl rfl (e4.mono (updG_grows (hR.fresh_g (get_end _))))) h
theorem callW_list_refF {a : Addr} {tg : Nat} {vs : List AV} {Q : AV → MH → Prop} (hm : μ a = some (.list tg vs)) (h : Q (.lst vs) μ) (hs : vs.length ≤ 16777216 := by omega) : CallW c d (.raw (.type "list")) [.ref a] μ Q := .mk fun A g s E vf us hA hR hf hv => by
  cases hf
  cases hv with
  | cons h1 h2 =>
    cases h2; cases h1
    obtain ⟨_, xs, n, e1, e4⟩ := hR.mu _ _ hm
    refine call_list_seq a (.inl rfl) e1 rfl rfl (hsz := by show _ ≤ 16777216; rw [← Array.length_toList, ← e4.length]; exact hs) fun h' c' hk ho => ?_
    exact .newG (tk := s.toks) hR hk (get_end _) ho (.lst (updG_self _ _ _) rfl rfl (e4.mono (updG_grows (hR.fresh_g (get_end _))))) h

theorem get_size_of {h h' : Heap} (k : ∀ b o, h.get? b = some o → h'.get? b = some o) : h.get? h'.objs.size = none := by
  cases q : h.get? h'.objs.size with
  | none => rfl
  | some o => have := k _ _ q; rw [get_end] at this; cases this
theorem callW_tuple_ref {a : Addr} {tg : Nat} {vs : List AV} {Q : AV → MH → Prop} (hm : μ a = some (.list tg vs)) (h : Q (.tup vs) μ) (hs : vs.length ≤ 16777216 := by omega) : CallW c d (.raw (.type "tuple")) [.ref a] μ Q := .mk fun A g s E vf us hA hR hf hv => by
  cases hf
  cases hv with
  | cons h1 h2 =>
    cases h2; cases h1
    obtain ⟨_, xs, n, e1, e4⟩ := hR.mu _ _ hm
    have hl : s.heap.IsList a xs := ⟨_, e1, rfl, _, rfl⟩
    refine call_tuple_list hl (fun h' hk => ?_) (by show _ ≤ 16777216; rw [← Array.length_toList, ← e4.length]; exact hs)
    have hn := get_size_of hk
    exact .newG (tk := s.toks) hR (fun b o e => push_keeps _ _ _ _ (hk b o e)) hn (Heap.get?_push_size _ rfl) (.tup (updG_self _ _ _) rfl rfl (e4.mono (updG_grows (hR.fresh_g hn)))) h

theorem callW_range1 {b : Int} {Q : AV → MH → Prop} (h : Q (.rng 0 b 1) μ) : CallW c d (.raw (.type "range")) [.int b] μ Q := .mk fun A g s E vf us hA hR hf hv => by
  cases hf
  cases hv with
  | cons h1 h2 =>
    cases h2; cases h1
    exact call_range_1 (.newG hR (push_keeps _ _) (get_end _) (Heap.get?_push_size _ rfl) (.rng (updG_self _ _ _)) h)
theorem callW_range2 {a b : Int} {Q : AV → MH → Prop} (h : Q (.rng a b 1) μ) : CallW c d (.raw (.type "range")) [.int a, .int b] μ Q := .mk fun A g s E vf us hA hR hf hv => by
  cases hf
  cases hv with
  | cons h1 h2 =>
    cases h2 with
    | cons h2 h3 =>
      cases h3; cases h1; cases h2
      exact call_range_2 (.newG hR (push_keeps _ _) (get_end _) (Heap.get?_push_size _ rfl) (.rng (updG_self _ _ _)) h)
theorem callW_range3 {a b k : Int} {Q : AV → MH → Prop} (h : Q (.rng a b k) μ) (hc : k ≠ 0) (hp : k.natAbs < 1073741824) : CallW c d (.raw (.type "range")) [.int a, .int b, .int k] μ Q := .mk fun A g s E vf us hA hR hf hv => by
  cases hf
  cases hv with
  | cons h1 h2 =>
    cases h2 with
    | cons h2 h3 =>
      cases h3 with
      | cons h3 h4 =>
        cases h4; cases h1; cases h2; cases h3
        exact call_range_3 hc (.newG (tk := s.toks) hR (push_keeps _ _) (get_end _) (Heap.get?_push_size _ rfl) (.rng (updG_self _ _ _)) h) (.inl (PyProof.noPylong_small hp))

end
end Mine
namespace Mine
open PySem PySem.W PyProof.Rows

noncomputable def WAs (b : Bool) (c : Cx) (d : Nat) (F : Fm) : List Expr → List AV → LE → MH → (LE → MH → Prop) → Prop
  | [], [], le, μ, Q => Q le μ
  | t :: ts, v :: vs, le, μ, Q => WAb b c d F le t v μ (fun le' μ' => WAs b c d F ts vs le' μ' Q)
  | _, _, _, _, _ => False
noncomputable def notStar : Expr → Bool
  | .Starred .. => false
  | _ => true

section
variable {c : Cx} {d : Nat} {F : Fm} {le : LE} {μ : MH} {p : Pos} {x : Str}

theorem assignEach_cons {t : Expr} {ts : List Expr} {env : Env} (h : notStar t = true) : assignEach (t :: ts) env = (false, assign t env) :: assignEach ts env := by
  cases t <;> first | rfl | cases h

theorem was_run {b : Bool} {A : Around} {E : Value → Shared → Prop} (hA : Room d A) (ts : List Expr) : ∀ (vs : List AV) (us : List Value) (le : LE) (μ : MH) (g : GH) (s : Shared) (Q : LE → MH → Prop), ts.all notStar = true → WAs b c d F ts vs le μ Q → VRs c g vs us → Rel c g μ s.heap → Loc c g μ s.heap F le →
    wpAny (model c.prog c.w) A (assignInOrder ((assignEach ts F.env).map (·.2)) us) (fun _ s' => ∃ g' μ' le', Step (PX F b) g μ s g' μ' s' ∧ Rel c g' μ' s'.heap ∧ Loc c g' μ' s'.heap F le' ∧ Q le' μ') E s := by
  induction ts with
  | nil =>
    intro vs us le μ g s Q _ h hv R L
    cases hv with
    | nil =>
      show wpAny _ _ (pure ()) _ _ _
      exact wpAny_pure ⟨g, μ, le, .refl, R, L, h⟩
    | cons _ _ => exact h.elim
  | cons t ts ih =>
    intro vs us le μ g s Q hn h hv R L
    cases hv with
    | nil => exact h.elim
    | @cons v u vs us h1 h2 =>
      rw [List.all_cons, Bool.and_eq_true] at hn
      rw [assignEach_cons hn.1]
      show wpAny _ _ (do holding us (assign t F.env u); assignInOrder ((assignEach ts F.env).map (·.2)) us) _ _ _
      refine wpAny_bind (wpAny_holding (wpAny_mono (h.run A g s E u hA R L h1) (fun _ s₁ q => ?_) fun _ _ e => e))
      obtain ⟨g₁, μ₁, le₁, st₁, R₁, L₁, q⟩ := q
      refine wpAny_mono (ih vs us le₁ μ₁ g₁ s₁ Q hn.2 q (h2.mono st₁.gg) R₁ L₁) (fun _ s₂ q => ?_) fun _ _ e => e
      obtain ⟨g₂, μ₂, le₂, st₂, r⟩ := q
      exact ⟨g₂, μ₂, le₂, st₁.trans R₁ st₂, r⟩

theorem assignEach_len : ∀ (ts : List Expr) (env : Env), ts.all notStar = true → (assignEach ts env).length = ts.length ∧ (assignEach ts env).findIdx? (·.1) = none
  | [], _, _ => ⟨rfl, rfl⟩
  | t :: ts, env, h => by
    rw [List.all_cons, Bool.and_eq_true] at h
    rw [assignEach_cons h.1]
    obtain ⟨h1, h2⟩ := assignEach_len ts env h.2
    exact ⟨by rw [List.length_cons, h1, List.length_cons], by rw [List.findIdx?_cons]; simp [h2]⟩
theorem keepsE {h h' : Heap} (he : Heap.ExtBut h.objs.size h h') : ∀ b o, h.get? b = some o → h'.get? b = some o := fun b o e => he b o (fun q => by rw [q, get_end] at e; cases e) e

theorem wab_tuple {b : Bool} {ts : List Expr} {k : Nat} {vs : List AV} {Q : LE → MH → Prop} (hl : ts.length = vs.length) (h : WAs b c d F ts vs le μ Q) (hn : ts.all notStar = true := by rfl) : WAb b c d F le (.Tuple ts k p) (.tup vs) μ Q := .mk fun A g s E v hA hR hL hv => by
  obtain ⟨a, o, xs, n, rfl, e1, e2, e3, e4⟩ := tup_inv hv
  have ht : IsTup s.heap a xs := ⟨_, hR.sub _ _ e1, e2, _, e3⟩
  obtain ⟨l1, l2⟩ := assignEach_len ts F.env hn
  refine assign_Tuple_tuple hA.hh ht (by rw [l1, hl, e4.length, Array.length_toList]) l2 fun h' he => ?_
  have k := keepsE he
  have st : Step X0 g μ s g μ { s with heap := h' } := .ext (t := s.toks) k
  refine wpAny_mono (was_run hA ts vs xs.toList le μ g { s with heap := h' } Q hn h e4 (hR.ext k) (hL.step st)) (fun _ s₂ q => ?_) fun _ _ e => e
  obtain ⟨g₂, μ₂, le₂, st₂, r⟩ := q
  exact ⟨g₂, μ₂, le₂, st.x0.trans (hR.ext k) st₂, r⟩

theorem ws_assign_tuple {ts : List Expr} {k : Nat} {tp : Pos} {e : Expr} {Q : Fl → LE → MH → Prop} (h : WE c d F le e μ (fun a μ₁ => WA c d F le (.Tuple ts k tp) a μ₁ (fun le' μ' => Q .next le' μ')))
    (hs : ∀ env, swapsWithSole [.Tuple ts k tp] e p.line env = pure false := by intro _; rfl) (hw : ∀ env, swappedStores [.Tuple ts k tp] e env = pure none := by intro _; rfl) : WS c d F le (.Assign [.Tuple ts k tp] e p) μ Q := .mk fun A g s E hA hR hL =>
  Assign_Tuple (seqN (h.run A g s E hA hR hL) fun g₁ μ₁ s₁ a va st₁ R₁ v₁ q₁ => wpAny_mono (q₁.run A g₁ s₁ E va hA R₁ (hL.step st₁) v₁) (fun _ s₂ q => by
    obtain ⟨g₂, μ₂, le₂, st₂, R₂, L₂, q⟩ := q
    exact ⟨g₂, μ₂, .next, le₂, st₁.x0.trans R₁ st₂, R₂, rfl, L₂, q⟩) fun _ _ e => e) (hs _) (hw _)

noncomputable def envAt (sc : Scope) : Env := { scope := sc, locals := 0, globals := 0, cells := [] }
theorem swapped_at (ts : List Expr) (e : Expr) (env : Env) : swappedStores ts e env = swappedStores ts e (envAt env.scope) := rfl
theorem swaps_at (e : Expr) (t : Option Expr) (l : Nat) (env : Env) : swapsWith e t l env = swapsWith e t l (envAt env.scope) := rfl

theorem ws_assign_tuple' {ts : List Expr} {k : Nat} {tp : Pos} {e : Expr} {Q : Fl → LE → MH → Prop} (h : WE c d F le e μ (fun a μ₁ => WA c d F le (.Tuple ts k tp) a μ₁ (fun le' μ' => Q .next le' μ')))
    (hw : swappedStores [.Tuple ts k tp] e (envAt F.sc) = pure none) (hs : ∀ env, swapsWithSole [.Tuple ts k tp] e p.line env = pure false := by intro _; rfl) : WS c d F le (.Assign [.Tuple ts k tp] e p) μ Q := .mk fun A g s E hA hR hL =>
  Assign_Tuple (seqN (h.run A g s E hA hR hL) fun g₁ μ₁ s₁ a va st₁ R₁ v₁ q₁ => wpAny_mono (q₁.run A g₁ s₁ E va hA R₁ (hL.step st₁) v₁) (fun _ s₂ q => by
    obtain ⟨g₂, μ₂, le₂, st₂, R₂, L₂, q⟩ := q
    exact ⟨g₂, μ₂, .next, le₂, st₁.x0.trans R₁ st₂, R₂, rfl, L₂, q⟩) fun _ _ e => e) (hs _) (by rw [swapped_at, hL.ok.sc]; exact hw)

theorem ws_assign_swap2 {ts : List Expr} {k : Nat} {tp : Pos} {e : Expr} {y : Str} {Q : Fl → LE → MH → Prop}
    (hw : swappedStores [.Tuple ts k tp] e (envAt F.sc) = pure (some [x, y]))
    (h : WE c d F le e μ (fun a μ₁ => ∃ u v, a = .tup [u, v] ∧ ∃ le₁, SetLE y v le le₁ ∧ ∃ le₂, SetLE x u le₁ le₂ ∧ Q .next le₂ μ₁))
    (hs : ∀ env, swapsWithSole [.Tuple ts k tp] e p.line env = pure false := by intro _; rfl) : WS c d F le (.Assign [.Tuple ts k tp] e p) μ Q := .mk fun A g s E hA hR hL => by
  refine Assign_Tuple_swapped (seqN (h.run A g s E hA hR hL) fun g₁ μ₁ s₁ a va st₁ R₁ v₁ q₁ => ?_) (hs _) (by rw [swapped_at, hL.ok.sc]; exact hw)
  obtain ⟨u, v, rfl, le₁, hy, le₂, hx, q⟩ := q₁
  obtain ⟨a, o, xs, n, rfl, e1, e2, e3, e4⟩ := tup_inv v₁
  have ht : IsTup s₁.heap a xs := ⟨_, R₁.sub _ _ e1, e2, _, e3⟩
  have hsz : [x, y].length = xs.size := by rw [← Array.length_toList, ← e4.length]; rfl
  rw [hsz]
  refine unpackItems_tuple hA.hh ht fun h' he => ?_
  have k := keepsE he
  have st : Step X0 g₁ μ₁ s₁ g₁ μ₁ { s₁ with heap := h' } := .ext (t := s₁.toks) k
  have R₂ : Rel c g₁ μ₁ h' := R₁.ext k
  have L₂ := (hL.step st₁).step st
  revert e4
  cases xs.toList with
  | nil => intro e4; cases e4
  | cons z zs =>
    cases zs with
    | nil => intro e4; cases e4 with | cons _ e => cases e
    | cons z' zs =>
      intro e4
      cases e4 with
      | cons h1 h2 =>
        cases h2 with
        | cons h2 h3 =>
          cases h3
          show wpAny _ _ (do holding [z] (bindName F.env y z'); holding [] (bindName F.env x z); pure ()) _ _ _
          refine wpAny_bind (wpAny_holding (wpAny_bindName (storeW (s := { s₁ with heap := h' }) R₂ L₂ hy h2 fun s₃ st₃ R₃ L₃ => ?_)))
          refine wpAny_bind (wpAny_holding (wpAny_bindName (storeW R₃ L₃ hx h1 fun s₄ st₄ R₄ L₄ => ?_)))
          exact wpAny_pure ⟨g₁, μ₁, .next, le₂, (((st₁.x0.trans R₁ st.x0).trans R₂ st₃).trans R₃ st₄), R₄, rfl, L₄, q⟩

noncomputable abbrev kTup (Q : AV → MH → Prop) : List AV → MH → Prop := fun vs μ' => vs.length ≤ 16777216 ∧ Q (.tup vs) μ'
noncomputable abbrev kLst (Q : AV → MH → Prop) : List AV → MH → Prop := fun vs μ' => vs.length ≤ 16777216 ∧ Q (.lst vs) μ'
theorem kTup_i {Q : AV → MH → Prop} {vs : List AV} (hl : Nat.ble vs.length 16777216 = true) (h : Q (.tup vs) μ) : kTup Q vs μ := ⟨Nat.le_of_ble_eq_true hl, h⟩
theorem kLst_i {Q : AV → MH → Prop} {vs : List AV} (hl : Nat.ble vs.length 16777216 = true) (h : Q (.lst vs) μ) : kLst Q vs μ := ⟨Nat.le_of_ble_eq_true hl, h⟩
theorem we_tup {es : List Expr} {k : Nat} {Q : AV → MH → Prop} (h : WL c d F le es p μ (kTup Q)) : WE c d F le (.Tuple es k p) μ Q := .mk fun A g s E hA hR hL =>
  wpAny_Tuple (seqN (h.run A g s E hA hR hL) fun g₁ μ₁ s₁ as vs st₁ R₁ v₁ q₁ => ⟨by show _ ≤ 16777216; rw [← v₁.length]; exact q₁.1,
    .trans st₁ R₁ (.newG (tk := s₁.toks) R₁ (push_keeps _ _) (get_end _) (Heap.get?_push_size _ rfl) (.tup (updG_self _ _ _) rfl rfl (by simpa using v₁.mono (updG_grows (R₁.fresh_g (get_end _))))) q₁.2)⟩)
theorem we_lst {es : List Expr} {Q : AV → MH → Prop} (h : WL c d F le es p μ (kLst Q)) : WE c d F le (.List es p) μ Q := .mk fun A g s E hA hR hL =>
  wpAny_List (seqN (h.run A g s E hA hR hL) fun g₁ μ₁ s₁ as vs st₁ R₁ v₁ q₁ => ⟨by show _ ≤ 16777216; rw [← v₁.length]; exact q₁.1,
    .trans st₁ R₁ (.newG (tk := s₁.toks) R₁ (push_keeps _ _) (get_end _) (Heap.get?_push_size _ rfl) (.lst (updG_self _ _ _) rfl rfl (by simpa using v₁.mono (updG_grows (R₁.fresh_g (get_end _))))) q₁.2)⟩)
theorem we_lstM {es : List Expr} (tg : Nat) {Q : AV → MH → Prop} (h : WL c d F le es p μ (fun vs μ' => vs.length ≤ 16777216 ∧ ∀ a, μ' a = none → Q (.ref a) (updM μ' a (.list tg vs)))) : WE c d F le (.List es p) μ Q := .mk fun A g s E hA hR hL =>
  wpAny_List (seqN (h.run A g s E hA hR hL) fun g₁ μ₁ s₁ as vs st₁ R₁ v₁ q₁ => ⟨by show _ ≤ 16777216; rw [← v₁.length]; exact q₁.1,
    .trans st₁ R₁ (.newM (ao := .list tg as) (tk := s₁.toks) R₁ (push_keeps _ _) (get_end _) ⟨_, _, Heap.get?_push_size _ rfl, by simpa using v₁⟩ q₁.2)⟩)
theorem we_slice_rev {st : Expr} {k : Int} {Q : AV → MH → Prop} (h : WE c d F le st μ (fun a μ' => a = .int k ∧ Q (.slc k) μ')) : WE c d F le (.Slice none none (some st) p) μ Q := .mk fun A g s E hA hR hL => by
  rw [arm_eval_Slice]
  refine wpAny_bind (m := valueOrNone (evalOpt none F.env)) (wpAny_pure (wpAny_bind (wpAny_holding (wpAny_pure (wpAny_bind (wpAny_holding ?_))))))
  show wpAny _ _ (eval st F.env) _ _ _
  refine seqN (h.run A g s E hA hR hL) fun g₁ μ₁ s₁ a va st₁ R₁ v₁ q₁ => ?_
  obtain ⟨rfl, q⟩ := q₁
  cases v₁
  exact wpAny_newObj_type (.trans st₁ R₁ (.newG (tk := s₁.toks) R₁ (push_keeps _ _) (get_end _) (Heap.get?_push_size _ rfl) (.slc (updG_self _ _ _)) q))

theorem VRs.reverse {g : GH} : ∀ {xs : List AV} {vs : List Value}, VRs c g xs vs → VRs c g xs.reverse vs.reverse
  | _, _, .nil => .nil
  | _, _, .cons h1 h2 => by rw [List.reverse_cons, List.reverse_cons]; exact h2.reverse.append (.cons h1 .nil)
theorem sub_rev {vs : List AV} {Q : AV → MH → Prop} (hQ : Q (.lst vs.reverse) μ) (hs : vs.length ≤ 16777216) : SubW c d (.lst vs) (.slc (-1)) μ Q := .mk fun A g s E va vi hA hR h1 h2 => by
  obtain ⟨a, o, xs, n, rfl, e1, e2, e3, e4⟩ := lst_inv h1
  cases h2 with
  | slc e0 =>
    have hl : s.heap.IsList a xs := ⟨_, hR.sub _ _ e1, e2, _, e3⟩
    refine ⟨⟨_, _, hl.typeIs, slot_list_getitem.lookup⟩, wpAny_getItem_list_slice hl ⟨_, hR.sub _ _ e0, rfl, rfl⟩ .none .none (.int _ _) (by decide) ?_ (by show _ ≤ 16777216; rw [← Array.length_toList, ← e4.length]; exact hs)⟩
    rw [krv_pick]
    exact .newG (tk := s.toks) hR (push_keeps _ _) (get_end _) (Heap.get?_push_size _ rfl) (.lst (updG_self _ _ _) rfl rfl (by simpa using e4.reverse.mono (updG_grows (hR.fresh_g (get_end _))))) hQ
theorem we_sub_slice {v st : Expr} {sp : Pos} {Q : AV → MH → Prop} (h : WE c d F le v μ (fun a μ₁ => WE c d F le (.Slice none none (some st) sp) μ₁ (fun i μ₂ => SubW c d a i μ₂ Q)))  : WE c d F le (.Subscript v (.Slice none none (some st) sp) p) μ Q :=
  we_sub h (by intro _ _; rfl)
end
end Mine
namespace Mine
open PySem PySem.W PyProof.Rows PySem.Spec PySem.SeqAt

section
variable {c : Cx} {d : Nat} {F : Fm} {le : LE} {μ : MH} {p : Pos} {x : Str}

theorem VRs.one {g : GH} {a : AV} {vs : List Value} (h : VRs c g [a] vs) : ∃ v, vs = [v] ∧ VR c g a v := by
  cases h with
  | cons h1 h2 => cases h2; exact ⟨_, rfl, h1⟩
theorem VRs.repl {g : GH} {a : AV} {v : Value} (h : VR c g a v) : ∀ n, VRs c g (List.replicate n a) (List.replicate n v)
  | 0 => .nil
  | n + 1 => .cons h (VRs.repl h n)

theorem mul_lst_run {A : Around} {E : Value → Shared → Prop} {g : GH} {s : Shared} {a : AV} {k : Int} {t : Tok} {va : Value} {Q : Value → Shared → Prop} (hR : Rel c g μ s.heap) (hv : VR c g (.lst [a]) va) (hk : k ≤ 16777216) (hk0 : -1000000 ≤ k)
    (h : ∀ v, VR c g a v → Q (.ref s.heap.objs.size) { s with heap := s.heap.push (lstObj (List.replicate k.toNat v).toArray 0) }) : wpAny (model c.prog c.w) A (binaryOp .Mult va (.int k t)) Q E s := by
  obtain ⟨l, ⟨oc, od, odt, osl⟩, xs, n, rfl, e1, e2, e3, e4⟩ := lst_inv hv
  dsimp only at e2 e3
  subst e2 e3
  obtain ⟨v, ev, hv1⟩ := e4.one
  have hl := hR.sub _ _ e1
  have hsz : xs.size = 1 := by rw [← Array.length_toList, ev]; rfl
  have hx : xs = #[v] := by rw [← Array.toArray_toList (xs := xs), ev]
  refine wpAny_binaryOp_repeat_ref (T := "list") (U := "int") (by decide) ⟨_, hl, rfl⟩ (fun s' => typeIs_int s' k t) noFill_list_mul F.fills_int_mul F.slot_int_rmul repeat_list F.slot_int_index.lookup
    (call_meets F.slot_int_rmul (typeIs_int s k t) F.entry_int_rmul (F.args_int_rmul_2 _ _) (lm_int_rmul_list_any k t l xs n od osl)
      ⟨hl, rfl, ⟨_, hl, rfl⟩, call_meets F.slot_list_mul ⟨_, hl, rfl⟩ F.entry_list_mul (F.args_list_mul_2 _ _)
        (lm_list_mul_any l xs n od osl k t (by simp [Builtin.List.listFitsIndex]; omega) (by rw [hsz]; omega) (by rw [hsz]; simp [Builtin.List.listTooLong, sizeLine]; omega))
        ⟨hl, ?_⟩⟩)
  have e : List.foldl (fun x1 x2 => x1 ++ x2) #[] (List.replicate (if xs.isEmpty = true then 0 else k.toNat) xs) = (List.replicate k.toNat v).toArray := by
    have : xs.isEmpty = false := by subst hx; rfl
    rw [this, if_neg Bool.false_ne_true, PyProof.Rows.listMul_foldl, ev, lm_rep_flat_one]; rfl
  rw [e]
  exact h v hv1

theorem bin_mul_lst {a : AV} {k : Int} {Q : AV → MH → Prop} (hk : k ≤ 16777216) (hk0 : -1000000 ≤ k) (h : Q (.lst (List.replicate k.toNat a)) μ) : BinW c d .Mult (.lst [a]) (.int k) μ Q := .mk fun A g s E va vb hA hR h1 h2 => by
  cases h2
  refine mul_lst_run hR h1 hk hk0 fun v hv => ?_
  exact .newG (tk := s.toks) hR (push_keeps _ _) (get_end _) (Heap.get?_push_size _ rfl) (.lst (updG_self _ _ _) rfl rfl (by simpa using (VRs.repl hv k.toNat).mono (updG_grows (hR.fresh_g (get_end _))))) h
theorem bin_mul_lstM (tg : Nat) {a : AV} {k : Int} {Q : AV → MH → Prop} (hk : k ≤ 16777216) (hk0 : -1000000 ≤ k) (h : ∀ b, μ b = none → Q (.ref b) (updM μ b (.list tg (List.replicate k.toNat a)))) : BinW c d .Mult (.lst [a]) (.int k) μ Q := .mk fun A g s E va vb hA hR h1 h2 => by
  cases h2
  refine mul_lst_run hR h1 hk hk0 fun v hv => ?_
  exact .newM (ao := .list tg (List.replicate k.toNat a)) (tk := s.toks) hR (push_keeps _ _) (get_end _) ⟨_, _, Heap.get?_push_size _ rfl, by simpa using VRs.repl hv k.toNat⟩ h

theorem cmp_in_ints {i : Int} {ns : List Int} {Q : Bool → MH → Prop} (h : Q (ns.any (· == i)) μ) : CmpW c d .In (.int i) (.lst (ns.map .int)) μ Q := .mk fun A g s E va vb hA hR h1 h2 => by
  cases h1
  obtain ⟨l, o, us, n, rfl, e1, e2, e3, e4⟩ := lst_inv h2
  have hl : s.heap.IsList l us.toList.toArray := ⟨_, hR.sub _ _ e1, e2, n, by simpa using e3⟩
  exact PyProof.Rows.in_list_ints hl (ints_are e4) (.of .refl hR rfl h)
theorem bools_any {g : GH} (b : Bool) : ∀ {bs : List Bool} {vs : List Value}, VRs c g (bs.map .bool) vs → vs.any (fun v => v == .bool b) = bs.any (· == b) ∧ ∀ y ∈ vs, ∃ k, y = .bool k
  | [], _, .nil => ⟨rfl, fun _ h => nomatch h⟩
  | x :: r, _, .cons h1 h2 => by
    cases h1
    obtain ⟨e1, e2⟩ := bools_any b h2
    refine ⟨by rw [List.any_cons, e1, List.any_cons]; cases x <;> cases b <;> rfl, fun y hy => ?_⟩
    rcases List.mem_cons.mp hy with rfl | hy
    · exact ⟨_, rfl⟩
    · exact e2 y hy
theorem cmp_notin_bools {b : Bool} {bs : List Bool} {Q : Bool → MH → Prop} (h : Q (!bs.any (· == b)) μ) : CmpW c d .NotIn (.bool b) (.lst (bs.map .bool)) μ Q := .mk fun A g s E va vb hA hR h1 h2 => by
  cases h1
  obtain ⟨l, o, us, n, rfl, e1, e2, e3, e4⟩ := lst_inv h2
  have hl : s.heap.IsList l us := ⟨_, hR.sub _ _ e1, e2, n, e3⟩
  obtain ⟨q1, q2⟩ := bools_any b e4
  refine SeqAt.notIn_listAt (fun v => v == .bool b) hl (fun y hy => ?_) (.of .refl hR (by rw [← q1, ← Array.any_toList]) h)
  obtain ⟨k, rfl⟩ := q2 y (Array.mem_toList_iff.mpr hy)
  have e : ((Value.bool k) == (Value.bool b)) = (k == b) := by cases k <;> cases b <;> rfl
  show SeqAt.EqAt A.in1 s (.bool k) (.bool b) ((Value.bool k) == (Value.bool b))
  rw [e]
  exact EqAt.bool_bool k b

structure Enc {α : Type} [DecidableEq α] (f : α → AV) (e : α → PyData) (n : Nat) : Prop where
  rd : ∀ (c : Cx) (g : GH) (h : Heap) x v, (∀ a o, g a = some o → h.get? a = some o) → VR c g (f x) v → ∃ as, Reads h v (e x) as
  eq : ∀ x y, PyData.eqv (e x) (e y) = decide (x = y)
  lay : ∀ x, PyData.canLay0 (e x) = true
  dep : ∀ x, PyData.depth (e x) ≤ n
theorem enc_int : Enc (α := Int) .int .int 0 where
  rd := fun c g h x v _ hv => by cases hv; exact ⟨_, .int _ _⟩
  eq := fun x y => by simp only [PyData.eqv]; exact Bool.eq_iff_iff.mpr (by simp)
  lay := fun x => by simp [PyData.canLay0]
  dep := fun x => by simp [PyData.depth]
theorem enc_list {α : Type} [DecidableEq α] {f : α → AV} {e : α → PyData} {n : Nat} (E : Enc f e n) : Enc (fun l : List α => .lst (l.map f)) (fun l => .list (l.map e)) (n + 1) where
  rd := fun c g h x v hk hv => by
    obtain ⟨a, o, xs, m, rfl, e1, e2, e3, e4⟩ := lst_inv hv
    have : ∀ (x : List α) (us : List Value), VRs c g (x.map f) us → ∃ as, ReadsAll h us (x.map e) as := by
      intro x
      induction x with
      | nil => intro us h; cases h; exact ⟨_, .nil⟩
      | cons y r ih =>
        intro us h'
        cases h' with
        | cons h1 h2 =>
          obtain ⟨as, ha⟩ := E.rd c g h y _ hk h1
          obtain ⟨bs, hb⟩ := ih _ h2
          exact ⟨_, .cons ha hb⟩
    obtain ⟨as, ha⟩ := this x _ e4
    exact ⟨_, .list (hk _ _ e1) e2 e3 ha⟩
  eq := fun x y => by
    simp only [PyData.eqv]
    induction x generalizing y with
    | nil => cases y <;> simp [PyData.eqvAll]
    | cons a r ih =>
      cases y with
      | nil => simp [PyData.eqvAll]
      | cons b t =>
        simp only [List.map_cons, PyData.eqvAll, E.eq, ih]
        by_cases h1 : a = b <;> by_cases h2 : r = t <;> simp [h1, h2]
  lay := fun x => by
    simp only [PyData.canLay0]
    induction x with
    | nil => simp [PyData.canLayAll0]
    | cons a r ih => simp only [List.map_cons, PyData.canLayAll0, E.lay, ih, Bool.and_self]
  dep := fun x => by
    simp only [PyData.depth]
    induction x with
    | nil => simp [PyData.depthAll]
    | cons a r ih => simp only [List.map_cons, PyData.depthAll]; have := E.dep a; omega
theorem enc_opt {α : Type} [DecidableEq α] {f : α → AV} {e : α → PyData} {n : Nat} (E : Enc f e n) (hne : ∀ x, PyData.eqv .none (e x) = false ∧ PyData.eqv (e x) .none = false) : Enc (fun l : Option α => match l with | none => .none | some x => f x) (fun l => match l with | none => .none | some x => e x) n where
  rd := fun c g h x v hk hv => by
    cases x with
    | none => cases hv; exact ⟨_, .none⟩
    | some y => exact E.rd c g h y v hk hv
  eq := fun x y => by
    match x, y with
    | none, none => show PyData.eqv .none .none = _; simp [PyData.eqv]
    | none, some y => exact (hne y).1.trans (by simp)
    | some x, none => exact (hne x).2.trans (by simp)
    | some x, some y => exact (E.eq x y).trans (by simp)
  lay := fun x => by cases x <;> simp only [E.lay, PyData.canLay0]
  dep := fun x => by cases x <;> simp only [PyData.depth, Nat.zero_le, E.dep]

theorem cmp_eqD {α : Type} [DecidableEq α] {f : α → AV} {e : α → PyData} {n : Nat} (En : Enc f e n) {x y : α} {Q : Bool → MH → Prop} (h : Q (decide (x = y)) μ) (hn : n ≤ 64) : CmpW c (d + 3) .Eq (f x) (f y) μ Q := .mk fun A g s E va vb hA hR h1 h2 => by
  obtain ⟨as, ha⟩ := En.rd c g s.heap x va hR.sub h1
  obtain ⟨bs, hb⟩ := En.rd c g s.heap y vb hR.sub h2
  have sh : ∀ x, shaped (e x) = true := fun x => by
    show (PyData.canLay0 (e x) && decide (PyData.depth (e x) ≤ 64)) = true
    rw [En.lay, decide_eq_true (Nat.le_trans (En.dep x) hn)]; rfl
  refine eq_dataH ha hb (sh _) (sh _) (by have := hA.units; omega) ?_
  rw [En.eq]
  exact .of .refl hR rfl h
theorem cmp_neD {α : Type} [DecidableEq α] {f : α → AV} {e : α → PyData} {n : Nat} (En : Enc f e n) {x y : α} {Q : Bool → MH → Prop} (h : Q (!decide (x = y)) μ) (hn : n ≤ 64) : CmpW c (d + 3) .NotEq (f x) (f y) μ Q := .mk fun A g s E va vb hA hR h1 h2 => by
  obtain ⟨as, ha⟩ := En.rd c g s.heap x va hR.sub h1
  obtain ⟨bs, hb⟩ := En.rd c g s.heap y vb hR.sub h2
  have sh : ∀ x, shaped (e x) = true := fun x => by
    show (PyData.canLay0 (e x) && decide (PyData.depth (e x) ≤ 64)) = true
    rw [En.lay, decide_eq_true (Nat.le_trans (En.dep x) hn)]; rfl
  refine ne_dataH ha hb (sh _) (sh _) (by have := hA.units; omega) ?_
  rw [En.eq]
  exact .of .refl hR rfl h
end
end Mine
namespace Mine
open PySem PySem.W PyProof.Rows

noncomputable def relS (scope sc : Scope) : Scope :=
  { scope with names := scope.names.map fun (n, k) => if (k == .free && sc.kind == .function && sc.names.lookup n == some .cell) then (n, .cell) else (n, k) }
theorem relabel_relS (scope : Scope) (env : Env) : relabel scope env = relS scope env.scope := rfl

inductive CapLE (sc : Scope) (le : LE) : List (Str × NameKind) → LE → Prop
  | nil : CapLE sc le [] []
  | free {x : Str} {a : AV} {r : List (Str × NameKind)} {l : LE} : Has x a le → sc.names.lookup x = some .cell → CapLE sc le r l → CapLE sc le ((x, .free) :: r) ((x, some a) :: l)
  | «local» {x : Str} {r : List (Str × NameKind)} {l : LE} : CapLE sc le r l → CapLE sc le ((x, .local) :: r) ((x, none) :: l)
  | glob {x : Str} {r : List (Str × NameKind)} {l : LE} : CapLE sc le r l → CapLE sc le ((x, .globalImplicit) :: r) l

noncomputable def closL (cells : List (Str × Addr)) : List (Str × NameKind) → List (Str × Addr) → List (Str × Addr)
  | [], acc => acc
  | (n, k) :: r, acc => if k == .free then closL cells r ((n, (cells.lookup n).getD 0) :: acc) else closL cells r acc

theorem closureFor_closL {scope : Scope} {env : Env} (h : ∀ x ∈ scope.names, x.2 = .free → ∃ a, env.cells.lookup x.1 = some a) : closureFor scope env = pure (closL env.cells scope.names []) := by
  have key : ∀ (names : List (Str × NameKind)) (acc : List (Str × Addr)), (∀ x ∈ names, x.2 = .free → ∃ a, env.cells.lookup x.1 = some a) →
      (forIn names acc (fun (x : Str × NameKind) (cs : List (Str × Addr)) => if (x.2 == .free) = true then do let a ← cellOf env x.1; pure (ForInStep.yield ((x.1, a) :: cs)) else pure (ForInStep.yield cs)) : Sem (List (Str × Addr))) = pure (closL env.cells names acc) := by
    intro names
    induction names with
    | nil => intro acc _; rfl
    | cons y r ih =>
      intro acc hy
      obtain ⟨n, k⟩ := y
      rw [List.forIn_cons]
      unfold closL
      dsimp only
      by_cases hk : (k == .free) = true
      · rw [if_pos hk, if_pos hk]
        obtain ⟨a, ha⟩ := hy (n, k) (.head _) (by simpa using hk)
        have : cellOf env n = pure a := by unfold cellOf; rw [ha]
        rw [this, ha]
        exact ih _ fun x hx => hy x (.tail _ hx)
      · rw [if_neg hk, if_neg hk]
        exact ih _ fun x hx => hy x (.tail _ hx)
  unfold closureFor
  have := key scope.names [] h
  exact (congrArg (fun m => m >>= fun r => pure r) this).trans rfl

theorem closL_sub {cells : List (Str × Addr)} : ∀ (names : List (Str × NameKind)) (acc : List (Str × Addr)), (∀ x ∈ names, x.2 = .free → ∃ a, cells.lookup x.1 = some a) → (∀ x a, acc.lookup x = some a → cells.lookup x = some a) →
    ∀ x a, (closL cells names acc).lookup x = some a → cells.lookup x = some a
  | [], _, _, h => h
  | (n, k) :: r, acc, hn, h => by
    unfold closL
    split
    · rename_i hk
      obtain ⟨b, hb⟩ := hn (n, k) (.head _) (by simpa using hk)
      refine closL_sub r _ (fun x hx => hn x (.tail _ hx)) fun x a e => ?_
      rw [List.lookup_cons] at e
      cases q : x == n with
      | true => rw [q] at e; rw [beq_iff_eq.mp q]; rw [hb] at e ⊢; exact e
      | false => rw [q] at e; exact h x a e
    · exact closL_sub r _ (fun x hx => hn x (.tail _ hx)) h
theorem closL_has {cells : List (Str × Addr)} : ∀ (names : List (Str × NameKind)) (acc : List (Str × Addr)) (x : Str), (x, NameKind.free) ∈ names ∨ (acc.lookup x).isSome = true → ((closL cells names acc).lookup x).isSome = true
  | [], _, _, h => h.elim (fun e => nomatch e) id
  | (n, k) :: r, acc, x, h => by
    unfold closL
    split
    · refine closL_has r _ x ?_
      by_cases q : (x == n) = true
      · exact .inr (by rw [List.lookup_cons, q]; rfl)
      · rcases h with h | h
        · rcases List.mem_cons.mp h with e | e
          · cases e; simp at q
          · exact .inl e
        · right; rw [List.lookup_cons]; simpa only [q] using h
    · rename_i hk
      refine closL_has r _ x (h.imp (fun h => ?_) id)
      rcases List.mem_cons.mp h with e | e
      · cases e; exact absurd rfl hk
      · exact e

theorem CapLE.mem {sc : Scope} {le : LE} : ∀ {names : List (Str × NameKind)} {l : LE}, CapLE sc le names l → ∀ {x : Str} {ov : Option AV}, (x, ov) ∈ l →
    ((x, NameKind.local) ∈ names ∧ ov = none) ∨ ((x, NameKind.free) ∈ names ∧ sc.names.lookup x = some .cell ∧ ∃ a, ov = some a ∧ (x, some a) ∈ le)
  | _, _, .nil, _, _, h => nomatch h
  | _, _, .free h1 h2 h3, x, ov, h => by
    rcases List.mem_cons.mp h with e | h
    · cases e; exact .inr ⟨.head _, h2, _, rfl, h1.mem⟩
    · rcases h3.mem h with ⟨a, b⟩ | ⟨a, b⟩
      · exact .inl ⟨.tail _ a, b⟩
      · exact .inr ⟨.tail _ a, b⟩
  | _, _, .local h3, x, ov, h => by
    rcases List.mem_cons.mp h with e | h
    · cases e; exact .inl ⟨.head _, rfl⟩
    · rcases h3.mem h with ⟨a, b⟩ | ⟨a, b⟩
      · exact .inl ⟨.tail _ a, b⟩
      · exact .inr ⟨.tail _ a, b⟩
  | _, _, .glob h3, x, ov, h => by
    rcases h3.mem h with ⟨a, b⟩ | ⟨a, b⟩
    · exact .inl ⟨.tail _ a, b⟩
    · exact .inr ⟨.tail _ a, b⟩
theorem CapLE.free_mem {sc : Scope} {le : LE} : ∀ {names : List (Str × NameKind)} {l : LE}, CapLE sc le names l → ∀ {x : Str}, (x, NameKind.free) ∈ names → sc.names.lookup x = some .cell ∧ ∃ a, (x, some a) ∈ le
  | _, _, .free h1 h2 h3, x, h => by
    rcases List.mem_cons.mp h with e | h
    · cases e; exact ⟨h2, _, h1.mem⟩
    · exact h3.free_mem h
  | _, _, .local h3, x, h => by
    rcases List.mem_cons.mp h with e | h
    · cases e
    · exact h3.free_mem h
  | _, _, .glob h3, x, h => by
    rcases List.mem_cons.mp h with e | h
    · cases e
    · exact h3.free_mem h
theorem CapLE.sub {sc : Scope} {le : LE} : ∀ {names : List (Str × NameKind)} {l : LE}, CapLE sc le names l → (l.map (·.1)).Sublist (names.map (·.1))
  | _, _, .nil => .slnil
  | _, _, .free _ _ h3 => h3.sub.cons₂ _
  | _, _, .local h3 => h3.sub.cons₂ _
  | _, _, .glob h3 => h3.sub.cons _

noncomputable def TestW (c : Cx) (d : Nat) (F : Fm) (le : LE) : List Expr → MH → (Bool → MH → Prop) → Prop
  | [], μ, Q => Q true μ
  | [e], μ, Q => WB c d F le e μ Q
  | _, _, _ => False
noncomputable def CompW (c : Cx) (d : Nat) (F : Fm) (target : Expr) (ifs : List Expr) (elt : Expr) (Q : List AV → MH → Prop) : List AV → LE → MH → List AV → Prop
  | [], _, μ, ys => Q ys μ
  | a :: r, le, μ, ys => WAb true c d F le target a μ (fun le₁ μ₁ => TestW c d F le₁ ifs μ₁ (fun b μ₂ =>
      (b = true → WE c d F le₁ elt μ₂ (fun y μ₃ => CompW c d F target ifs elt Q r le₁ μ₃ (ys ++ [y]))) ∧ (b = false → CompW c d F target ifs elt Q r le₁ μ₂ ys)))

theorem lookup_map_lab {f : Str × NameKind → Str × NameKind} (hf : ∀ x, (f x).1 = x.1) : ∀ {names : List (Str × NameKind)} {x : Str} {k : NameKind}, (names.map (·.1)).Nodup → (x, k) ∈ names → (names.map f).lookup x = some (f (x, k)).2
  | (y, k') :: r, x, k, nd, h => by
    rw [List.map_cons, List.lookup_cons, hf]
    rcases List.mem_cons.mp h with e | h
    · cases e; simp
    · have : x ≠ y := fun q => (List.nodup_cons.mp nd).1 (q ▸ List.mem_map.mpr ⟨_, h, rfl⟩)
      rw [show (x == y) = false from beq_false_of_ne this]
      exact lookup_map_lab hf (List.nodup_cons.mp nd).2 h

noncomputable def compScopeOk (names : List (Str × NameKind)) : Bool := decide (names.map (·.1)).Nodup && names.all fun n => n.2 != .cell

section
variable {c : Cx} {d : Nat} {F : Fm} {le : LE} {μ : MH} {p : Pos}

theorem locComp {g : GH} {h h₁ : Heap} {scope : Scope} {le' : LE} {ge : List (Str × AV)} {C : Addr} {m : Str → Option Value} (hL : Loc c g μ h F le) (hcap : CapLE F.sc le scope.names le') (hsc : compScopeOk scope.names = true) (hk : scope.kind = .function)
    (hge : GeOk c (relS scope F.sc).names ge) (hC : h.get? C = none) (hCg : g C = none) (hCm : μ C = none) (hn : h₁.Ns C m) (kp : ∀ b o, h.get? b = some o → h₁.get? b = some o) :
    Loc c g μ h₁ ⟨compEnvC scope (closL F.env.cells scope.names []) C F.env, ge, relS scope F.sc⟩ le' := by
  unfold compScopeOk at hsc
  rw [Bool.and_eq_true] at hsc
  have nd := of_decide_eq_true hsc.1
  have hfree : ∀ x ∈ scope.names, x.2 = .free → ∃ a, F.env.cells.lookup x.1 = some a := fun x hx hf => by
    obtain ⟨x1, x2⟩ := x
    dsimp only at hf; subst hf
    obtain ⟨q1, a, q2⟩ := hcap.free_mem hx
    obtain ⟨m', _, hs⟩ := hL.ns
    rcases hs _ _ q2 with ⟨e, _⟩ | ⟨_, b, _, e, _⟩
    · exfalso
      have : F.env.scope.names.lookup x1 = some .local := e
      rw [hL.ok.sc, q1] at this; cases this
    · exact ⟨b, e⟩
  have hsub := closL_sub (cells := F.env.cells) scope.names [] hfree (fun _ _ e => nomatch e)
  have hrel : relabel scope F.env = relS scope F.sc := by rw [relabel_relS, hL.ok.sc]
  have hlook : ∀ x k, (x, k) ∈ scope.names → (relS scope F.sc).names.lookup x = some (if (k == .free && F.sc.kind == .function && F.sc.names.lookup x == some .cell) then .cell else k) := fun x k hx => by
    have := lookup_map_lab (f := fun (x : Str × NameKind) => if (x.2 == .free && F.sc.kind == .function && F.sc.names.lookup x.1 == some .cell) then (x.1, .cell) else (x.1, x.2)) (fun x => by split <;> rfl) nd hx
    refine Eq.trans this ?_
    dsimp only
    split <;> rfl
  refine ⟨⟨?_, hrel, hL.ok.gl, hL.ok.bl, fun y av hy => ?_, fun x y a e1 e2 => hL.ok.nd x y a (hsub _ _ e1) (hsub _ _ e2), fun x a e => ?_⟩, hcap.sub.nodup nd, ⟨m, hn, fun x ov hx => ?_⟩, fun a ha => ?_⟩
  · show (relabel scope F.env).kind = _; exact hk
  · have := hge.mem hy
    refine ⟨?_, this.2⟩
    show (relabel scope F.env).names.lookup y = _
    rw [hrel]; exact this.1
  · intro q
    have := hL.pv a (.inr ⟨_, hsub _ _ e⟩)
    obtain ⟨_, _, o, e3⟩ := this
    have q : a = C := q
    rw [q, hC] at e3; cases e3
  · rcases hcap.mem hx with ⟨h1, rfl⟩ | ⟨h1, h2, a, rfl, h3⟩
    · refine .inl ⟨?_, fun _ e => nomatch e⟩
      show (relabel scope F.env).names.lookup x = _
      rw [hrel, hlook _ _ h1]
      rfl
    · obtain ⟨m', hm', hs⟩ := hL.ns
      rcases hs _ _ h3 with ⟨e, _⟩ | ⟨e0, b, vo, e, e1, e2⟩
      · exfalso
        have : F.env.scope.names.lookup x = some .local := e
        rw [hL.ok.sc, h2] at this; cases this
      · refine .inr ⟨?_, b, vo, ?_, let ⟨o, q1, q2⟩ := e1; ⟨o, kp _ _ q1, q2⟩, e2⟩
        · show (relabel scope F.env).names.lookup x = _
          have hfn : F.sc.kind = .function := by rw [← hL.ok.sc]; exact hL.ok.fn
          rw [hrel, hlook _ _ h1, h2, hfn]; rfl
        · have := closL_has (cells := F.env.cells) scope.names [] x (.inl h1)
          obtain ⟨b', hb'⟩ := Option.isSome_iff_exists.mp this
          have := hsub _ _ hb'
          rw [e] at this; cases this; exact hb'
  · rcases ha with rfl | ⟨x, ha⟩
    · obtain ⟨o, _, _, e, _⟩ := hn
      exact ⟨hCg, hCm, o, e⟩
    · obtain ⟨e1, e2, o, e3⟩ := hL.pv a (.inr ⟨_, hsub _ _ ha⟩)
      exact ⟨e1, e2, o, kp _ _ e3⟩

theorem Step.promoteG {g g' : GH} {μ' : MH} {s s' : Shared} {D : Addr} {o : Obj} (st : Step X0 g μ s g' μ' s') (hn : s.heap.get? D = none) (hg : g' D = none) : Step X0 g μ s (updG g' D o) μ' s' := by
  refine ⟨fun a o e => updG_grows hg _ _ (st.gg _ _ e), st.keep, fun b o' e hx h1 h2 => ?_, st.pres, st.gens, st.os⟩
  have := st.own b o' e hx h1 h2
  have hb : b ≠ D := fun q => by rw [q, hn] at e; cases e
  exact ⟨by unfold updG; rw [if_neg hb]; exact this.1, this.2⟩
theorem Rel.promoteG {g : GH} {h : Heap} {D : Addr} {o : Obj} (R : Rel c g μ h) (hg : g D = none) (hm : μ D = none) (ho : h.get? D = some o) : Rel c (updG g D o) μ h := by
  refine ⟨R.gd, fun b o' e => ?_, fun b o' e => updG_grows hg _ _ (R.bas _ _ e), fun b o' e => ⟨?_, (R.mu _ _ e).2.mono (updG_grows hg) fun _ e => e⟩⟩
  · unfold updG at e; split at e
    · rename_i q; subst q; cases e; exact ho
    · exact R.sub _ _ e
  · have hb : b ≠ D := fun q => by rw [q, hm] at e; cases e
    unfold updG; rw [if_neg hb]; exact (R.mu _ _ e).1
theorem Step.promoteM {g g' : GH} {μ' : MH} {s s' : Shared} {D : Addr} {o : AO} (st : Step X0 g μ s g' μ' s') (hn : s.heap.get? D = none) : Step X0 g μ s g' (updM μ' D o) s' := by
  refine ⟨st.gg, st.keep, fun b o' e hx h1 h2 => ?_, st.pres, st.gens, st.os⟩
  have := st.own b o' e hx h1 h2
  have hb : b ≠ D := fun q => by rw [q, hn] at e; cases e
  exact ⟨this.1, by rw [updM_ne hb]; exact this.2⟩
theorem Rel.promoteM {g : GH} {h : Heap} {D : Addr} {o : AO} (R : Rel c g μ h) (hg : g D = none) (ho : OR c g h D o) : Rel c g (updM μ D o) h := by
  refine ⟨R.gd, R.sub, R.bas, fun b o' e => ?_⟩
  unfold updM at e; split at e
  · rename_i q; subst q; cases e; exact ⟨hg, ho⟩
  · exact R.mu _ _ e
end
end Mine
namespace Mine
open PySem PySem.W PyProof.Rows

section
variable {prog : Program} {w : World} {A : Around} {E : Value → Shared → Prop} {s : Shared}
theorem comp_loop {elt target iter : PySem.Expr} {ifs : List PySem.Expr} {scope : Scope} {pos : Pos} {it acc : Value} {env : Env} {R : Result → Shared → Prop} (I : Nat → Shared → Prop)
    (turn : ∀ n s, I n s → wpAny (model prog w) A (pyNext it) (fun r s₁ => match r with
      | none => R (.ok .next) s₁
      | some v => wpAny (model prog w) A (letOwnedTupleGo target it v) (fun _ s₀ => wpAny (model prog w) A (assign target env v) (fun _ s₂ =>
          wpAny (model prog w) A (forIn ifs true fun c r => if r = true then do let ok ← isTrue c env (eval c env); pure (ForInStep.yield ok) else pure (ForInStep.yield r)) (fun ok s₃ => if ok = true then wpAny (model prog w) A (eval elt env) (fun x s₄ =>
            wpAny (model prog w) A (call (.builtin "list.append") [acc, x]) (fun _ s₅ => ∃ m, m < n ∧ I m s₅) (notedBy (model prog w) A env fun e s' => R (.error e) s') s₄) (notedBy (model prog w) A env fun e s' => R (.error e) s') s₃
            else ∃ m, m < n ∧ I m s₃) (notedBy (model prog w) A env fun e s' => R (.error e) s') s₂)
          (notedBy (model prog w) A env fun e s' => R (.error e) s') s₀) (notedBy (model prog w) A env fun e s' => R (.error e) s') s₁) (notedBy (model prog w) A env fun e s' => R (.error e) s') s)
    (n : Nat) (h : I n s) : codeAny (model prog w) A (.compLoop (.ListComp elt [⟨target, iter, ifs, 0⟩] scope pos) 0 it acc env) R s := by
  refine codeAny_loop rfl I (fun n s hI => ?_) n h
  show wpAny _ A ((compTurn (.ListComp elt [⟨target, iter, ifs, 0⟩] scope pos) 0 it acc env).onRaise (fun x => do noteFrame x env; theTreesLotGoes x)) _ _ s
  refine wpAny_noted ?_
  rw [compTurn_list]
  refine wpAny_bind (wpAny_standAt (wpAny_bind (wpAny_mono (turn n s hI) (fun r s₁ h₁ => ?_) fun _ _ h' => h')))
  cases r with
  | none => exact wpAny_pure h₁
  | some v =>
    refine wpAny_bind (wpAny_mono h₁ (fun _ s₀ h₀' => ?_) fun _ _ h' => h')
    refine wpAny_bind (wpAny_mono h₀' (fun _ s₂ h₂ => ?_) fun _ _ h' => h')
    refine wpAny_bind (wpAny_mono h₂ (fun okb s₃ h₃ => ?_) fun _ _ h' => h')
    cases okb with
    | false => exact wpAny_pure ⟨rfl, h₃⟩
    | true => exact wpAny_bind (wpAny_bind (wpAny_mono h₃ (fun x s₄ h₄ => wpAny_bind (wpAny_mono h₄ (fun _ s₅ h₅ => wpAny_pure (wpAny_pure ⟨rfl, h₅⟩)) fun _ _ h' => h')) fun _ _ h' => h'))
end

section
variable {c : Cx} {d : Nat} {F : Fm} {le : LE} {μ : MH} {p : Pos}

theorem test_run {A : Around} {E : Value → Shared → Prop} {g : GH} {s : Shared} {ifs : List Expr} {Q : Bool → MH → Prop} (hA : Room d A) (hR : Rel c g μ s.heap) (hL : Loc c g μ s.heap F le) (h : TestW c d F le ifs μ Q) :
    wpAny (model c.prog c.w) A (forIn ifs true fun c r => if r = true then do let ok ← isTrue c F.env (eval c F.env); pure (ForInStep.yield ok) else pure (ForInStep.yield r)) (Post c X0 g μ s (fun _ (a b : Bool) => a = b) Q) E s := by
  match ifs, h with
  | [], h => exact wpAny_tests_nil (.of .refl hR rfl h)
  | [e], h => exact wpAny_tests_one (h.run A g s E hA hR hL)

theorem VRs.snoc {g : GH} {xs : List AV} {vs : Array Value} {x : AV} {v : Value} (h : VRs c g xs vs.toList) (hx : VR c g x v) : VRs c g (xs ++ [x]) (vs.push v).toList := by
  rw [Array.toList_push]; exact h.append (.cons hx .nil)

theorem comp_block {A : Around} {E : Value → Shared → Prop} {g g₂ : GH} {μ₂ : MH} {s s₂ : Shared} {elt target iter : Expr} {ifs : List Expr} {scope : Scope} {pos : Pos} {ge : List (Str × AV)} {le' : LE} {I : Addr} {fp : List Addr} {items : List AV} {St : Nat → GH → Heap → Prop}
    {RR : Value → Addr → Result → Shared → Prop} {Q : List AV → MH → Prop} (hA : Room d A) (hL : Loc c g μ s.heap F le) (hcap : CapLE F.sc le scope.names le') (hsc : compScopeOk scope.names = true) (hk : scope.kind = .function)
    (hge : GeOk c (relS scope F.sc).names ge) (W : Wk c target I fp items St) (st₂ : Step X0 g μ s g₂ μ₂ s₂) (R₂ : Rel c g₂ μ₂ s₂.heap) (P₂ : Priv fp g₂ μ₂ s₂.heap) (hnew : ∀ b ∈ fp, s.heap.get? b = none) (hst : St 0 g₂ s₂.heap) (hlen : items.length ≤ 16777216)
    (hq : ∀ env', CompW c d ⟨env', ge, relS scope F.sc⟩ target ifs elt Q items le' μ₂ [])
    (hRR : ∀ D C s' g' μ' ys us n, Step X0 g μ s g' μ' s' → Rel c g' μ' s'.heap → s.heap.get? D = none → s.heap.get? C = none → D ≠ C → g' D = none → μ' D = none → g' C = none → μ' C = none → s'.heap.get? D = some (lstObj us n) →
      VRs c g' ys us.toList → (∃ m, s'.heap.Ns C m) → Q ys μ' → RR (.ref D) C (.ok .next) s') :
    wpAny (model c.prog c.w) A (newList []) (fun acc s₃ => wpAny (model c.prog c.w) A (newFunctionEnv scope F.env.globals (closL F.env.cells scope.names []) [] F.env.qual none .none (some F.env)) (fun cenv s₄ =>
      codeAny (model c.prog c.w) A (.compStart (.ListComp elt [⟨target, iter, ifs, 0⟩] scope pos) 0 (.ref I) acc { cenv with scope := relabel scope F.env }) (RR acc cenv.locals) s₄) E s₃) E s₂ := by
  have hcell : ∀ y ∈ scope.names, y.2 ≠ .cell := by
    unfold compScopeOk at hsc
    rw [Bool.and_eq_true, List.all_eq_true] at hsc
    exact fun y hy => by simpa using hsc.2 y hy
  refine wpAny_newObj_type (wpAny_newFunctionEnv hcell (by intro y hy; simp at hy) (fun h₁ hns₁ hsb₁ => ?_) hk)
  dsimp only at hns₁ hsb₁ ⊢
  generalize hH2 : s₂.heap.push { cls := .type "list", dict := none, data := .seq ([] : List Value).toArray } = H2 at hns₁ hsb₁ ⊢
  have hC : H2.objs.size = s₂.heap.objs.size + 1 := by rw [← hH2, Heap.size_push]
  have hDC : s₂.heap.objs.size ≠ H2.objs.size := by rw [hC]; exact Nat.ne_of_lt (Nat.lt_succ_self _)
  have below : ∀ b, b < s₂.heap.objs.size → b ≠ H2.objs.size ∧ b ≠ s₂.heap.objs.size := fun b hb => ⟨by rw [hC]; exact Nat.ne_of_lt (Nat.lt_succ_of_lt hb), Nat.ne_of_lt hb⟩
  have old : ∀ b o, s₂.heap.get? b = some o → h₁.get? b = some o := fun b o e => hsb₁.extBut b o (below b (Heap.lt_size e)).1 (Heap.get?_push_of_some _ (hH2 ▸ Heap.get?_push_of_some _ e))
  have hacc : h₁.get? s₂.heap.objs.size = some (lstObj #[] 0) := hsb₁.extBut _ _ hDC (Heap.get?_push_of_some _ (hH2 ▸ Heap.get?_push_size _ rfl))
  have hD₂ : s₂.heap.get? s₂.heap.objs.size = none := get_end _
  have hC₂ : s₂.heap.get? H2.objs.size = none := get_above (by rw [hC]; exact Nat.le_succ _)
  have hD₀ := st₂.none_of hD₂ fun _ => id
  have hC₀ := st₂.none_of hC₂ fun _ => id
  generalize hD : s₂.heap.objs.size = D at *
  generalize hCC : H2.objs.size = C at *
  have gD := R₂.fresh_g hD₂
  have mD := R₂.fresh_mu hD₂
  have gC := R₂.fresh_g hC₂
  have mC := R₂.fresh_mu hC₂
  have R₃ : Rel c g₂ μ₂ h₁ := R₂.ext old
  have L₃ := locComp (hL.step st₂) hcap hsc hk hge hC₂ gC mC hns₁ old
  have hDf : ∀ b ∈ fp, b ≠ D ∧ b ≠ C := fun b hb => by
    obtain ⟨_, _, o, e⟩ := P₂ b hb
    exact ⟨fun q => (by rw [q, hD₂] at e; cases e), fun q => (by rw [q, hC₂] at e; cases e)⟩
  have P₃ : Priv fp g₂ μ₂ h₁ := fun b hb => let ⟨e1, e2, o, e3⟩ := P₂ b hb; ⟨e1, e2, o, old _ _ e3⟩
  have hst₃ : St 0 g₂ h₁ := W.frame _ _ _ _ _ hst (fun _ _ e => e) fun b hb o e => old b o e
  have hpriv : ∀ b, privs (compEnvC scope (closL F.env.cells scope.names []) C F.env) b → b = C ∨ ∃ o, s₂.heap.get? b = some o := fun b hb => by
    rcases hb with rfl | ⟨x, hx⟩
    · exact .inl rfl
    · by_cases q : b = C
      · exact .inl q
      · right
        obtain ⟨_, _, o, e⟩ := (hL.step st₂).pv b (.inr ⟨x, closL_sub scope.names [] (fun y hy hf => by
          obtain ⟨y1, y2⟩ := y
          dsimp only at hf; subst hf
          obtain ⟨q1, a, q2⟩ := hcap.free_mem hy
          obtain ⟨m', _, hs⟩ := hL.ns
          rcases hs _ _ q2 with ⟨e, _⟩ | ⟨_, b, _, e, _⟩
          · exfalso
            have : F.env.scope.names.lookup y1 = some .local := e
            rw [hL.ok.sc, q1] at this; cases this
          · exact ⟨b, e⟩) (fun _ _ e => nomatch e) _ _ hx⟩)
        exact ⟨o, e⟩
  have fpPriv : ∀ b ∈ fp, ¬ privs (compEnvC scope (closL F.env.cells scope.names []) C F.env) b := fun b hb hp => by
    -- an iterator is not one of the cells: it is new since the start
    rcases hp with rfl | ⟨x, hx⟩
    · exact (hDf _ hb).2 rfl
    · obtain ⟨_, _, o, e⟩ := hL.pv b (.inr ⟨x, closL_sub scope.names [] (fun y hy hf => by
          obtain ⟨y1, y2⟩ := y
          dsimp only at hf; subst hf
          obtain ⟨q1, a, q2⟩ := hcap.free_mem hy
          obtain ⟨m', _, hs⟩ := hL.ns
          rcases hs _ _ q2 with ⟨e, _⟩ | ⟨_, b, _, e, _⟩
          · exfalso
            have : F.env.scope.names.lookup y1 = some .local := e
            rw [hL.ok.sc, q1] at this; cases this
          · exact ⟨b, e⟩) (fun _ _ e => nomatch e) _ _ hx⟩)
      rw [hnew b hb] at e; cases e
  have DPriv : ∀ b ∈ [D], ¬ privs (compEnvC scope (closL F.env.cells scope.names []) C F.env) b := fun b hb hp => by
    rw [List.mem_singleton] at hb; subst hb
    rcases hpriv _ hp with q | ⟨o, e⟩
    · exact hDC q
    · rw [hD₂] at e; cases e
  have loop : ∀ s₃ : Shared, s₃ = { s₂ with heap := h₁, toks := s₂.toks + ([] : List (Str × Value)).length } →
      codeAny (model c.prog c.w) A (.compLoop (.ListComp elt [⟨target, iter, ifs, 0⟩] scope pos) 0 (.ref I) (.ref D) (compEnvC scope (closL F.env.cells scope.names []) C F.env)) (RR (.ref D) C) s₃ := by
    rintro s₃ rfl
    refine comp_loop (fun n s' => ∃ i le₁ g' μ' ys us k, n = items.length + 1 - i ∧ i ≤ items.length ∧ Step X0 g μ s g' μ' s' ∧ Rel c g' μ' s'.heap ∧ Loc c g' μ' s'.heap ⟨compEnvC scope (closL F.env.cells scope.names []) C F.env, ge, relS scope F.sc⟩ le₁ ∧ Priv fp g' μ' s'.heap ∧
        g' D = none ∧ μ' D = none ∧ s'.heap.get? D = some (lstObj us k) ∧ VRs c g' ys us.toList ∧ ys.length ≤ i ∧ St i g' s'.heap ∧ CompW c d ⟨compEnvC scope (closL F.env.cells scope.names []) C F.env, ge, relS scope F.sc⟩ target ifs elt Q (items.drop i) le₁ μ' ys)
      (fun n s' hI => ?_) (items.length + 1) ⟨0, le', g₂, μ₂, [], #[], 0, rfl, Nat.zero_le _, ?_, R₃, L₃, P₃, gD, mD, hacc, .nil, Nat.zero_le _, hst₃, hq _⟩
    · obtain ⟨i, le₁, g', μ', ys, us, k, rfl, hi, st, R, L, P, gD', mD', oD', vD', hyl, hst', hq'⟩ := hI
      have hcC := L.pv C (.inl rfl)
      by_cases hlt : i < items.length
      · have ha : items[i]? = some items[i] := List.getElem?_eq_getElem hlt
        refine wpAny_mono (W.item A i g' μ' s' _ ?Q _ hA.hh R P hst' ha ?k) (fun r s₁ q => ?z) fun _ _ e => e
        case z =>
          cases r with
          | none => exact q.elim
          | some v => exact q
        case k =>
        intro v g₃ s₁ st₃ R₃ hv P₃ hst₃
        have L₃ := L.of_step st₃ fpPriv
        have S₃ := st.trans' R st₃ fun b hb => .inr (hnew b hb)
        rw [List.drop_eq_getElem_cons hlt] at hq'
        have DX : ¬ inL fp D := fun q => (hDf D q).1 rfl
        have oD₃ := st₃.keep D _ oD' mD' DX
        have dD₃ := st₃.own D _ oD' DX mD' gD'
        have vD₃ := vD'.mono st₃.gg
        refine wpAny_mono (hq'.run A g₃ s₁ _ v hA R₃ L₃ hv) (fun _ s₄ q => ?_) fun _ _ e => e
        obtain ⟨g₄, μ₄, le₄, st₄, R₄, L₄, q⟩ := q
        have S₄ := S₃.trans' R₃ st₄ fun b (hb : b = C) => .inr (by rw [hb]; exact hC₀)
        have DX4 : ¬ (PX ⟨compEnvC scope (closL F.env.cells scope.names []) C F.env, ge, relS scope F.sc⟩ true) D := fun (q : D = C) => hDC q
        have oD₄ := st₄.keep D _ oD₃ dD₃.2 DX4
        have dD₄ := st₄.own D _ oD₃ DX4 dD₃.2 dD₃.1
        have vD₄ := vD₃.mono st₄.gg
        have fX4 : ∀ b ∈ fp, ¬ (PX ⟨compEnvC scope (closL F.env.cells scope.names []) C F.env, ge, relS scope F.sc⟩ true) b := fun b hb (q : b = C) => (hDf b hb).2 q
        have P₄ := P₃.step st₄ fX4
        have hst₄ := W.frame _ _ _ _ _ hst₃ st₄.gg (P₃.kept st₄ fX4)
        refine wpAny_mono (test_run (F := ⟨compEnvC scope (closL F.env.cells scope.names []) C F.env, ge, relS scope F.sc⟩) hA R₄ L₄ q) (fun b s₅ q => ?_) fun _ _ e => e
        obtain ⟨g₅, μ₅, b', st₅, R₅, rfl, q⟩ := q
        have S₅ := S₄.trans R₄ st₅
        have oD₅ := st₅.keep D _ oD₄ dD₄.2 id
        have dD₅ := st₅.own D _ oD₄ id dD₄.2 dD₄.1
        have vD₅ := vD₄.mono st₅.gg
        have L₅ := L₄.step st₅
        have P₅ := P₄.step st₅ fun _ _ => id
        have hst₅ := W.frame _ _ _ _ _ hst₄ st₅.gg (P₄.kept st₅ fun _ _ => id)
        cases b' with
        | false => exact ⟨_, by omega, i + 1, _, g₅, μ₅, ys, us, k, rfl, hlt, S₅, R₅, L₅, P₅, dD₅.1, dD₅.2, oD₅, vD₅, by omega, hst₅, q.2 rfl⟩
        | true =>
          refine wpAny_mono ((q.1 rfl).run A g₅ s₅ _ hA R₅ L₅) (fun y s₆ q => ?_) fun _ _ e => e
          obtain ⟨g₆, μ₆, av, st₆, R₆, hy, q⟩ := q
          have S₆ := S₅.trans R₅ st₆
          have oD₆ := st₆.keep D _ oD₅ dD₅.2 id
          have dD₆ := st₆.own D _ oD₅ id dD₅.2 dD₅.1
          have vD₆ := vD₅.mono st₆.gg
          have L₆ := L₅.step st₆
          have P₆ := P₅.step st₆ fun _ _ => id
          have hst₆ := W.frame _ _ _ _ _ hst₅ st₆.gg (P₅.kept st₆ fun _ _ => id)
          refine append_at oD₆ (fun h' hs' ho' => ?_) (by show _ ≤ 16777216; rw [← Array.length_toList, ← vD₆.length]; omega)
          have st₇ : Step (inL [D]) g₆ μ₆ s₆ g₆ μ₆ { s₆ with heap := h' } := Step.priv (t := s₆.toks) (.head _) hs'
          have fX7 : ∀ b ∈ fp, ¬ inL [D] b := fun b hb q => (hDf b hb).1 (List.mem_singleton.mp q)
          exact ⟨_, by omega, i + 1, _, g₆, μ₆, ys ++ [av], us.push y, k + 1, rfl, hlt, S₆.trans' R₆ st₇ fun b hb => .inr (by rw [List.mem_singleton.mp hb]; exact hD₀), R₆.priv dD₆.1 dD₆.2 hs', L₆.of_step st₇ DPriv, P₆.step st₇ fX7, dD₆.1, dD₆.2, ho', vD₆.snoc hy,
            by rw [List.length_append]; simp only [List.length_singleton]; omega, W.frame _ _ _ _ _ hst₆ (fun _ _ e => e) (P₆.kept st₇ fX7), q⟩
      · have hi' : i = items.length := by omega
        subst hi'
        refine wpAny_mono (W.done A g' μ' s' _ ?Q2 hA.hh R P hst' ?k2) (fun r s₃ q => ?z2) fun _ _ e => e
        case z2 =>
          obtain ⟨rfl, q⟩ := q
          exact q
        case k2 =>
        intro s₃ st₃ R₃
        rw [List.drop_length] at hq'
        have L₃ := L.of_step st₃ fpPriv
        have DX : ¬ inL fp D := fun q => (hDf D q).1 rfl
        have oD₃ := st₃.keep D _ oD' mD' DX
        have hc := L₃.pv C (.inl rfl)
        obtain ⟨m, hm, _⟩ := L₃.ns
        exact hRR D C s₃ g' μ' ys us k (st.trans' R st₃ fun b hb => .inr (hnew b hb)) R₃ hD₀ hC₀ hDC gD' mD' hc.1 hc.2.1 oD₃ vD' ⟨m, hm⟩ hq'
    · exact (st₂.trans R₂ (Step.ext (t := s₂.toks + ([] : List (Str × Value)).length) old))
  exact codeAny_compStart_list (loop _ rfl) (W.self A 0 g₂ μ₂ _ _ _ R₃ P₃ hst₃ (loop _ rfl))
end
end Mine
namespace Mine
open PySem PySem.W PyProof.Rows

section
variable {c : Cx} {d : Nat} {F : Fm} {le : LE} {μ : MH} {p : Pos}

theorem cap_free {g : GH} {h : Heap} {names : List (Str × NameKind)} {le' : LE} (hL : Loc c g μ h F le) (hcap : CapLE F.sc le names le') : ∀ x ∈ names, x.2 = .free → ∃ a, F.env.cells.lookup x.1 = some a := fun y hy hf => by
  obtain ⟨y1, y2⟩ := y
  dsimp only at hf; subst hf
  obtain ⟨q1, a, q2⟩ := hcap.free_mem hy
  obtain ⟨m', _, hs⟩ := hL.ns
  rcases hs _ _ q2 with ⟨e, _⟩ | ⟨_, b, _, e, _⟩
  · exfalso
    have : F.env.scope.names.lookup y1 = some .local := e
    rw [hL.ok.sc, q1] at this; cases this
  · exact ⟨b, e⟩
theorem comp_names {names : List (Str × NameKind)} (hsc : compScopeOk names = true) : ∀ x ∈ names, x.2 = .local → names.lookup x.1 = some .local := fun x hx hl => by
  obtain ⟨x1, x2⟩ := x
  dsimp only at hl; subst hl
  unfold compScopeOk at hsc
  rw [Bool.and_eq_true] at hsc
  exact mem_filter_kind (of_decide_eq_true hsc.1) hx

theorem comp_run {A : Around} {E : Value → Shared → Prop} {g : GH} {s : Shared} {elt target iter : Expr} {ifs : List Expr} {scope : Scope} {pos : Pos} {use : Option (Value → Sem Unit)} {ge : List (Str × AV)} {le' : LE} {Q : List AV → MH → Prop} {P : Value → Shared → Prop}
    (hA : Room d A) (hR : Rel c g μ s.heap) (hL : Loc c g μ s.heap F le) (hcap : CapLE F.sc le scope.names le') (hsc : compScopeOk scope.names = true) (hge : GeOk c (relS scope F.sc).names ge)
    (h : IterE c d F le target iter μ (fun items μ₁ => items.length ≤ 16777216 ∧ ∀ env', CompW c d ⟨env', ge, relS scope F.sc⟩ target ifs elt Q items le' μ₁ []))
    (hs : ∀ x, foldedSetIterable iter F.env x = pure x) (hk : scope.kind = .function)
    (hP : ∀ D C s' g' μ' ys us n, Step X0 g μ s g' μ' s' → Rel c g' μ' s'.heap → s.heap.get? D = none → s.heap.get? C = none → D ≠ C → g' D = none → μ' D = none → g' C = none → μ' C = none → s'.heap.get? D = some (lstObj us n) →
      VRs c g' ys us.toList → (∃ m, s'.heap.Ns C m) → Q ys μ' → compPost (model c.prog c.w) A E use P (.ref D) C (.ok .next) s') :
    wpAny (model c.prog c.w) A (comprehension (.ListComp elt [⟨target, iter, ifs, 0⟩] scope pos) scope F.env (firstIterPos [⟨target, iter, ifs, 0⟩] pos) (newList []) false (eval iter F.env) use) P E s := by
  refine wpAny_comprehension_free rfl hs (closureFor_closL (cap_free hL hcap)) hk (comp_names hsc) (wpAny_mono (h.run A g s E hA hR hL) (fun xv s₁ h₁ => wpAny_mono h₁ (fun it s₂ h₂ => ?_) fun _ _ e => e) fun _ _ e => e)
  obtain ⟨I, fp, items, St, g₂, μ₂, rfl, W, st₂, R₂, P₂, hnew, hst, hlen, hq⟩ := h₂
  exact comp_block (RR := fun acc C => compPost (model c.prog c.w) A E use P acc C) hA hL hcap hsc hk hge W st₂ R₂ P₂ hnew hst hlen hq hP

theorem after_C {g g' : GH} {μ' : MH} {s s' : Shared} {C : Addr} {h' : Heap} (st : Step X0 g μ s g' μ' s') (R : Rel c g' μ' s'.heap) (hC : s.heap.get? C = none) (gC : g' C = none) (mC : μ' C = none) (hs : Heap.SameBut C s'.heap h') :
    Step X0 g μ s g' μ' { s' with heap := h' } ∧ Rel c g' μ' h' :=
  ⟨st.trans' R (Step.priv (X := fun a => a = C) (t := s'.toks) rfl hs) fun b hb => .inr (by rw [hb]; exact hC), R.priv gC mC hs⟩

theorem we_comp {elt target iter : Expr} {ifs : List Expr} {scope : Scope} {pos : Pos} {ge : List (Str × AV)} {le' : LE} {Q : AV → MH → Prop}
    (hcap : CapLE F.sc le scope.names le') (hsc : compScopeOk scope.names = true) (hge : GeOk c (relS scope F.sc).names ge)
    (h : IterE c d F le target iter μ (fun items μ₁ => items.length ≤ 16777216 ∧ ∀ env', CompW c d ⟨env', ge, relS scope F.sc⟩ target ifs elt (fun ys μ' => Q (.lst ys) μ') items le' μ₁ []))
    (hs : ∀ env x, foldedSetIterable iter env x = pure x := by intro _ _; rfl) (hk : scope.kind = .function := by rfl) : WE c d F le (.ListComp elt [⟨target, iter, ifs, 0⟩] scope pos) μ Q := .mk fun A g s E hA hR hL => by
  rw [eval_ListComp]
  refine comp_run (use := none) hA hR hL hcap hsc hge h (hs _) hk fun D C s' g' μ' ys us n st R hD hC hDC gD mD gC mC oD vD ⟨m, hm⟩ hq => ⟨m, hm, fun h' hs' => ?_⟩
  obtain ⟨st', R'⟩ := after_C st R hC gC mC hs'
  have oD' := (hs'.2 D hDC).trans oD
  exact ⟨_, _, .lst ys, st'.promoteG hD gD, R'.promoteG gD mD oD', .lst (updG_self _ _ _) rfl rfl (vD.mono (updG_grows gD)), hq⟩
theorem we_compM (tg : Nat) {elt target iter : Expr} {ifs : List Expr} {scope : Scope} {pos : Pos} {ge : List (Str × AV)} {le' : LE} {Q : AV → MH → Prop}
    (hcap : CapLE F.sc le scope.names le') (hsc : compScopeOk scope.names = true) (hge : GeOk c (relS scope F.sc).names ge)
    (h : IterE c d F le target iter μ (fun items μ₁ => items.length ≤ 16777216 ∧ ∀ env', CompW c d ⟨env', ge, relS scope F.sc⟩ target ifs elt (fun ys μ' => ∀ a, μ' a = none → Q (.ref a) (updM μ' a (.list tg ys))) items le' μ₁ []))
    (hs : ∀ env x, foldedSetIterable iter env x = pure x := by intro _ _; rfl) (hk : scope.kind = .function := by rfl) : WE c d F le (.ListComp elt [⟨target, iter, ifs, 0⟩] scope pos) μ Q := .mk fun A g s E hA hR hL => by
  rw [eval_ListComp]
  refine comp_run (use := none) hA hR hL hcap hsc hge h (hs _) hk fun D C s' g' μ' ys us n st R hD hC hDC gD mD gC mC oD vD ⟨m, hm⟩ hq => ⟨m, hm, fun h' hs' => ?_⟩
  obtain ⟨st', R'⟩ := after_C st R hC gC mC hs'
  have oD' := (hs'.2 D hDC).trans oD
  exact ⟨_, _, .ref D, st'.promoteM (o := .list tg ys) hD, R'.promoteM gD ⟨us, n, oD', vD⟩, .ref _, hq D mD⟩

theorem ws_assign_comp {elt target iter : Expr} {ifs : List Expr} {scope : Scope} {pos py : Pos} {y : Str} {ge : List (Str × AV)} {le' : LE} {Q : Fl → LE → MH → Prop}
    (hsw : swapsWith (.ListComp elt [⟨target, iter, ifs, 0⟩] scope pos) (some (.Name y py)) p.line (envAt F.sc) = pure true)
    (hcap : CapLE F.sc le scope.names le') (hsc : compScopeOk scope.names = true) (hge : GeOk c (relS scope F.sc).names ge)
    (h : IterE c d F le target iter μ (fun items μ₁ => items.length ≤ 16777216 ∧ ∀ env', CompW c d ⟨env', ge, relS scope F.sc⟩ target ifs elt (fun ys μ' => ∃ le₁, SetLE y (.lst ys) le le₁ ∧ Q .next le₁ μ') items le' μ₁ []))
    (hs : ∀ env x, foldedSetIterable iter env x = pure x := by intro _ _; rfl) (hk : scope.kind = .function := by rfl) : WS c d F le (.Assign [.Name y py] (.ListComp elt [⟨target, iter, ifs, 0⟩] scope pos) p) μ Q := .mk fun A g s E hA hR hL => by
  have hsw' : swapsWith (.ListComp elt [⟨target, iter, ifs, 0⟩] scope pos) (some (.Name y py)) p.line F.env = pure true := by rw [swaps_at, hL.ok.sc]; exact hsw
  rw [exec_Assign_Name_used _ _ _ _ hsw']
  refine wpAny_bind (wpAny_standAt (wpAny_bind ?_))
  show wpAny _ A (do let _ ← comprehension (.ListComp elt [⟨target, iter, ifs, 0⟩] scope pos) scope F.env _ (newList []) false (eval iter F.env) (some (assign (.Name y py) F.env))) _ _ s
  refine wpAny_bind (wpAny_mono (comp_run (use := some (assign (.Name y py) F.env)) (P := fun _ s' => PostS c F g μ s Q .next s') hA hR hL hcap hsc hge h (hs _) hk fun D C s' g' μ' ys us n st R hD hC hDC gD mD gC mC oD vD ⟨m, hm⟩ hq => ?_)
    (fun _ s' hq => wpAny_pure (wpAny_pure hq)) fun _ _ e => e)
  obtain ⟨le₁, hset, hq⟩ := hq
  show wpAny _ A (assign (.Name y py) F.env (.ref D)) _ _ _
  have st' := st.promoteG (o := lstObj us n) hD gD
  have R' := R.promoteG gD mD oD
  refine wpAny_assign_Name (storeW R' (hL.step st') hset (.lst (updG_self _ _ _) rfl rfl (vD.mono (updG_grows gD))) fun s₂ st₂ R₂ L₂ => ?_)
  have hCp : ¬ privs F.env C := fun hp => by
    obtain ⟨_, _, o, e⟩ := hL.pv C hp
    rw [hC] at e; cases e
  have gC' : updG g' D (lstObj us n) C = none := by unfold updG; rw [if_neg (Ne.symm hDC)]; exact gC
  obtain ⟨o, es, ep, ho, hr⟩ := hm
  have ho₂ := st₂.keep C _ ho mC hCp
  refine ⟨m, ⟨o, es, ep, ho₂, hr⟩, fun h' hs' => ?_⟩
  have S₂ := st'.x0.trans R' st₂
  exact ⟨_, μ', .next, le₁, S₂.trans' R₂ (Step.priv (X := fun a => a = C) (t := s₂.toks) rfl hs') fun b hb => .inr (by rw [hb]; exact hC), R₂.priv gC' mC hs', rfl,
    L₂.of_step (fp := [C]) (Step.priv (t := s₂.toks) (.head _) hs') (fun b hb => by rw [List.mem_singleton.mp hb]; exact hCp), hq⟩
end
end Mine
namespace Mine
open PySem PySem.W PyProof.Rows

noncomputable def attrOk (K : Frag) (C : Addr) (name : Str) : Bool := plainGet K C name && hasDictIn K C && (match findIn K (.ref C) name with | some none => true | _ => false)
noncomputable def methOk (K : Frag) (C : Addr) (name : Str) (f : Addr) : Bool := plainGet K C name && (findIn K (.ref C) name == some (some (.ref f))) && isFn K (.ref f) && keepIn K (.ref f)
noncomputable def setOk (K : Frag) (C : Addr) (name : Str) : Bool := (findIn K (.ref C) "__setattr__" == some (some (.builtin "object.__setattr__"))) && plainOver K C && (match takerIn K C name with | some none => true | _ => false) && hasDictIn K C
noncomputable def makeOk (K : Frag) (C fI : Addr) : Bool := makesIn K C && (findIn K (.ref C) "__init__" == some (some (.ref fI))) && (typeIn K (.ref fI) == some (.type "function"))

section
variable {c : Cx} {d : Nat} {F : Fm} {le : LE} {μ : MH} {p : Pos}

inductive InstW (μ : MH) : AV → Addr → List (Str × AV) → Prop
  | frozen {C : Addr} {fs : List (Str × AV)} : InstW μ (.inst C fs) C fs
  | live {x C dx : Addr} {fs : List (Str × AV)} : μ x = some (.inst C dx) → μ dx = some (.ns fs) → InstW μ (.ref x) C fs
theorem InstW.at {g : GH} {h : Heap} {o : AV} {C : Addr} {fs : List (Str × AV)} {v : Value} (I : InstW μ o C fs) (R : Rel c g μ h) (hv : VR c g o v) : ∃ x dx es n, v = .ref x ∧ InstAt h x (instObj C dx) C (some (dictOf es n)) ∧ VRd c g fs es := by
  cases I with
  | frozen =>
    cases hv with
    | inst h1 h2 h3 => exact ⟨_, _, _, _, rfl, ⟨R.sub _ _ h1, rfl, rfl, R.sub _ _ h2⟩, h3⟩
  | live h1 h2 =>
    cases hv
    have h3 : h.get? _ = some (instObj C _) := (R.mu _ _ h1).2
    obtain ⟨_, es, n, h4, h5⟩ := R.mu _ _ h2
    exact ⟨_, _, es, n, rfl, ⟨h3, rfl, rfl, h4⟩, h5⟩

theorem beq_flip (x y : Str) : (x == y) = (y == x) := by
  by_cases h : x = y
  · subst h; rfl
  · rw [beq_false_of_ne h, beq_false_of_ne (Ne.symm h)]
theorem VRd.get {g : GH} {x : Str} {av : AV} : ∀ {fs : List (Str × AV)} {es : List DictEntry}, VRd c g fs es → fs.lookup x = some av → ∃ v, getL x es = some (some v) ∧ VR c g av v
  | _, _, .nil, h => nomatch h
  | (y, b) :: fs, _, .cons (v := v) (es := es) (t := t) (h := hh) h1 h2, h => by
    rw [List.lookup_cons] at h
    unfold getL
    rw [List.find?_cons]
    show ∃ u, (match (match (y == x) with | true => some (⟨hh, .str y t, v⟩ : DictEntry) | false => es.find? (·.key.isStr x)) with | some e => some (some e.val) | none => if (⟨hh, .str y t, v⟩ :: es : List DictEntry).any (·.refKey) then none else some none) = some (some u) ∧ _
    rw [beq_flip]
    cases q : x == y with
    | true => rw [q] at h; cases h; exact ⟨v, rfl, h1⟩
    | false =>
      rw [q] at h
      obtain ⟨u, e1, e2⟩ := h2.get h
      refine ⟨u, ?_, e2⟩
      unfold getL at e1
      dsimp only
      cases z : es.find? (·.key.isStr x) with
      | some e => rw [z] at e1; exact e1
      | none => rw [z] at e1; dsimp only at e1; split at e1 <;> cases e1
theorem VRd.noref {g : GH} : ∀ {fs : List (Str × AV)} {es : List DictEntry}, VRd c g fs es → es.any (·.refKey) = false
  | _, _, .nil => rfl
  | _, _, .cons h1 h2 => by rw [List.any_cons, h2.noref]; rfl
theorem VRd.getnone {g : GH} {x : Str} : ∀ {fs : List (Str × AV)} {es : List DictEntry}, VRd c g fs es → fs.lookup x = none → getL x es = some none := fun {fs es} h hn => by
  have : ∀ {fs : List (Str × AV)} {es : List DictEntry}, VRd c g fs es → fs.lookup x = none → es.find? (·.key.isStr x) = none := by
    intro fs
    induction fs with
    | nil => intro es h _; cases h; rfl
    | cons p r ih =>
      intro es h hn
      cases h with
      | @cons y t hh av v fs es h1 h2 =>
        rw [List.lookup_cons] at hn
        rw [List.find?_cons]
        show (match (y == x) with | true => _ | false => _) = none
        rw [beq_flip]
        cases q : x == y with
        | true => rw [q] at hn; cases hn
        | false => rw [q] at hn; exact ih h2 hn
  unfold getL
  rw [this h hn, h.noref]; rfl
theorem VRd.length {g : GH} : ∀ {fs : List (Str × AV)} {es : List DictEntry}, VRd c g fs es → fs.length = es.length
  | _, _, .nil => rfl
  | _, _, .cons _ h => by rw [List.length_cons, List.length_cons, h.length]
theorem VRd.put {g : GH} {x : Str} {hsh : Int} {t : Tok} {av : AV} {v : Value} (hv : VR c g av v) : ∀ {fs : List (Str × AV)} {es : List DictEntry}, VRd c g fs es → fs.lookup x = none → VRd c g (fs ++ [(x, av)]) (putL x hsh (.str x t) v es)
  | _, _, .nil, _ => .cons hv .nil
  | (y, b) :: fs, _, .cons (v := u) (es := es) (t := t') (h := hh) h1 h2, h => by
    rw [List.lookup_cons] at h
    unfold putL
    show VRd c g _ (if (y == x) = true then _ else _)
    rw [beq_flip]
    cases q : x == y with
    | true => rw [q] at h; cases h
    | false => rw [q] at h; exact .cons h1 (h2.put hv h)
theorem putL_len (x : Str) (hsh : Int) (k v : Value) : ∀ es : List DictEntry, (putL x hsh k v es).length ≤ es.length + 1
  | [] => Nat.le_refl _
  | e :: r => by
    unfold putL
    split
    · exact Nat.le_succ _
    · rw [List.length_cons, List.length_cons]; exact Nat.succ_le_succ (putL_len x hsh k v r)

theorem handed_any {g : GH} {av : AV} {v : Value} (h : VR c g av v) (hr : ∀ u, av ≠ .raw u) : handedIn v = true := by
  cases h <;> first | rfl | exact absurd rfl (hr _)

noncomputable abbrev kAttr (c : Cx) (name : Str) (Q : AV → MH → Prop) : AV → MH → Prop := fun a μ₁ => ∃ C fs, InstW μ₁ a C fs ∧ attrOk (hd.heap_39 c.w.params) C name = true ∧ ∃ av, fs.lookup name = some av ∧ (∀ u, av ≠ .raw u) ∧ Q av μ₁
theorem kAttr_i {name : Str} {Q : AV → MH → Prop} {C : Addr} {fs : List (Str × AV)} {av : AV} (hok : attrOk (hd.heap_39 c.w.params) C name = true) (hl : fs.lookup name = some av) (hr : ∀ u, av ≠ .raw u) (h : Q av μ) : kAttr c name Q (.inst C fs) μ := ⟨C, fs, .frozen, hok, av, hl, hr, h⟩
theorem we_attr {o : Expr} {name : Str} {Q : AV → MH → Prop} (h : WE c d F le o μ (kAttr c name Q))
    (he : ∀ env, eval (.Attribute o name p) env = (do
      let v ← eval o env
      standAt p.atName
      let r ← holding [v] (getAttr v name true)
      letTemporaryGo o v r
      pure r) := by intro _; rfl) : WE c d F le (.Attribute o name p) μ Q := .mk fun A g s E hA hR hL =>
  Attribute_any_ (seqN (h.run A g s E hA hR hL) fun g₁ μ₁ s₁ a va st₁ R₁ v₁ q₁ => by
    obtain ⟨C, fs, I, hok, av, hl, hraw, hq⟩ := q₁
    obtain ⟨x, dx, es, n, rfl, I', hd'⟩ := I.at R₁ v₁
    obtain ⟨v, e1, e2⟩ := hd'.get hl
    unfold attrOk at hok
    rw [Bool.and_eq_true, Bool.and_eq_true] at hok
    obtain ⟨⟨hg, hh⟩, hf⟩ := hok
    have hf : findIn (hd.heap_39 c.w.params) (.ref C) name = some none := by
      cases q : findIn (hd.heap_39 c.w.params) (.ref C) name with
      | none => rw [q] at hf; cases hf
      | some y => cases y with
        | none => rfl
        | some _ => rw [q] at hf; cases hf
    refine get_value R₁.KX I' (plainGet_of hg).1 (findObj_own hh hf rfl (by rw [lookIn_dict]; exact e1)) (handed_any e2 hraw) ?_
    exact .of (st₁.trans R₁ .tok) R₁ e2 hq) (he _)

structure MethW (c : Cx) (o : AV) (name : Str) (f : Value) (μ : MH) : Prop where
  run : ∀ A g s E v (Q : Value × List Value → Shared → Prop) pl, Rel c g μ s.heap → VR c g o v → Q (f, [v]) s → wpAny (model c.prog c.w) A (getMethod v name pl) Q E s
theorem meth_inst {o : AV} {C f : Addr} {fs : List (Str × AV)} {name : Str} (I : InstW μ o C fs) (hok : methOk (hd.heap_39 c.w.params) C name f = true) (hn : fs.lookup name = none) : MethW c o name (.ref f) μ := .mk fun A g s E v Q pl hR hv hq => by
  obtain ⟨x, dx, es, n, rfl, I', hd'⟩ := I.at hR hv
  unfold methOk at hok
  rw [Bool.and_eq_true, Bool.and_eq_true, Bool.and_eq_true] at hok
  obtain ⟨⟨⟨hg, hf⟩, ht⟩, _⟩ := hok
  exact method_fn hR.KX I' (plainGet_of hg).1 (plainGet_of hg).2 (beq_iff_eq.mp hf) (beq_iff_eq.mp ht) (by show (lookIn name (dictOf es n)).map _ = _; rw [lookIn_dict, hd'.getnone hn]; rfl) hq
theorem meth_append {a : Addr} {tg : Nat} {vs : List AV} (hm : μ a = some (.list tg vs)) : MethW c (.ref a) "append" (.builtin "list.append") μ := .mk fun A g s E v Q pl hR hv hq => by
  cases hv
  obtain ⟨_, xs, n, e1, e4⟩ := hR.mu _ _ hm
  exact Calls.getMethod_list_append e1 rfl rfl hq
theorem meth_extend {a : Addr} {tg : Nat} {vs : List AV} (hm : μ a = some (.list tg vs)) : MethW c (.ref a) "extend" (.builtin "list.extend") μ := .mk fun A g s E v Q pl hR hv hq => by
  cases hv
  obtain ⟨_, xs, n, e1, e4⟩ := hR.mu _ _ hm
  exact getMethod_builtin (T := "list") ⟨_, e1, rfl⟩ PySem.F.plainAttrs_list PySem.F.slot_list_extend PySem.F.type_list_extend (fun b hb => by cases hb; exact ⟨_, e1, rfl⟩) hq

noncomputable abbrev kMethA (c : Cx) (d : Nat) (Q : AV → MH → Prop) (a : AV) (f : Value) : List AV → MH → Prop := fun as μ₂ => CallW c d (.raw f) (a :: as) μ₂ Q
noncomputable abbrev kMeth (c : Cx) (d : Nat) (F : Fm) (le : LE) (name : Str) (es : List Expr) (p : Pos) (Q : AV → MH → Prop) : AV → MH → Prop := fun a μ₁ => ∃ f, MethW c a name f μ₁ ∧ CalleeOk c f ∧ WL c d F le es p μ₁ (kMethA c d Q a f)
theorem kMeth_i {name : Str} {es : List Expr} {Q : AV → MH → Prop} {a : AV} {f : Value} (hm : MethW c a name f μ) (hc : CalleeOk c f) (h : WL c d F le es p μ (kMethA c d Q a f)) : kMeth c d F le name es p Q a μ := ⟨f, hm, hc, h⟩
theorem we_meth {o : Expr} {name : Str} {apos : Pos} {e : Expr} {es : List Expr} {Q : AV → MH → Prop}
    (h : WE c d F le o μ (kMeth c d F le name (e :: es) p Q))
    (hbase : ∀ env, attributeBase o name env (eval o env) = eval o env := by intro _; rfl)
    (hfew : ∀ env, methodCallForm ((e :: es).length + ([] : List Keyword).length) (backTo p (starEach (e :: es) env)) (backToKw p (keywordEach [] env)) = true := by intro _; rfl)
    (hline : (apos.endLine == p.line) = true := by rfl)
    (hs : ∀ env, starEach (e :: es) env = (false, eval e env) :: starEach es env := by intro _; rfl)
    (hp : ∀ env, (backTo p (starEach es env)).any (·.1) = false := by intro _; rfl) : WE c d F le (.Call (.Attribute o name apos) (e :: es) [] p) μ Q := .mk fun A g s E hA hR hL => by
  rw [arm_eval_Call, hbase]
  refine seqW (h.run A g s E hA hR hL) fun g₁ μ₁ s₁ a va st₁ R₁ v₁ q₁ => ?_
  obtain ⟨f, hm, hc, q⟩ := q₁
  refine wpAny_bind (wpAny_standAt ?_)
  have hpos : methodCallPos true o F.env apos p = pure p := by unfold methodCallPos; simp [hline]
  unfold methodCall
  rw [hfew]
  refine wpAny_bind (wpAny_holding (hm.run A g₁ s₁ _ va _ _ R₁ v₁ ?_))
  refine wpAny_bind (wpAny_of_eq hpos ?_)
  have hq := q.run A g₁ s₁ E hA R₁ (hL.step st₁)
  rw [hs] at hq ⊢
  refine callWith_of (P := fun h => (hd.heap_39 c.w.params).In h) (by show ((false || (backTo p (starEach es F.env)).any (·.1)) || false) = false; rw [hp]; rfl) (fun h X => hc _ h X) (Calls.evalArgs_plain ?_)
  refine seqN hq fun g₂ μ₂ s₂ b vb st₂ R₂ v₂ q₂ => ⟨R₂.KX, Post.step st₂ R₂ ?_⟩
  exact q₂.run A g₂ s₂ E _ _ hA R₂ (.raw _) (.cons (v₁.mono st₂.gg) v₂)
theorem we_meth0 {o : Expr} {name : Str} {apos : Pos} {Q : AV → MH → Prop}
    (h : WE c d F le o μ (fun a μ₁ => ∃ f, MethW c a name f μ₁ ∧ CalleeOk c f ∧ CallW c d (.raw f) [a] μ₁ Q))
    (hbase : ∀ env, attributeBase o name env (eval o env) = eval o env := by intro _; rfl) (hline : (apos.endLine == p.line) = true := by rfl) : WE c d F le (.Call (.Attribute o name apos) [] [] p) μ Q := .mk fun A g s E hA hR hL => by
  rw [arm_eval_Call, hbase]
  refine seqW (h.run A g s E hA hR hL) fun g₁ μ₁ s₁ a va st₁ R₁ v₁ q₁ => ?_
  obtain ⟨f, hm, hc, q⟩ := q₁
  refine wpAny_bind (wpAny_standAt ?_)
  have hpos : methodCallPos true o F.env apos p = pure p := by unfold methodCallPos; simp [hline]
  show wpAny _ _ (methodCall o name apos p F.env va 0 [] []) _ _ _
  unfold methodCall
  rw [show methodCallForm 0 ([] : List (Bool × Sem Value)) ([] : List (Option Str × Sem Value)) = true from rfl]
  refine wpAny_bind (wpAny_holding (hm.run A g₁ s₁ _ va _ _ R₁ v₁ ?_))
  refine wpAny_bind (wpAny_of_eq hpos ?_)
  refine callWith_of (P := fun h => (hd.heap_39 c.w.params).In h) rfl (fun h X => hc _ h X) (PySem.evalArgs_none ⟨R₁.KX, ?_⟩)
  exact q.run A g₁ s₁ E _ _ hA R₁ (.raw _) (.cons v₁ .nil)

theorem callW_append {a : Addr} {tg : Nat} {vs : List AV} {av : AV} {Q : AV → MH → Prop} (hm : μ a = some (.list tg vs)) (h : Q .none (updM μ a (.list tg (vs ++ [av])))) (hs : vs.length ≤ 16777216) : CallW c d (.raw (.builtin "list.append")) [.ref a, av] μ Q := .mk fun A g s E vf us hA hR hf hv => by
  cases hf
  cases hv with
  | cons h1 h2 =>
    cases h2 with
    | cons h2 h3 =>
      cases h3; cases h1
      obtain ⟨_, xs, n, e1, e4⟩ := hR.mu _ _ hm
      refine append_at e1 (fun h' hs' ho' => ?_) (by show _ ≤ 16777216; rw [← Array.length_toList, ← e4.length]; exact hs)
      have ho : OR c g h' a (.list tg (vs ++ [av])) := ⟨_, _, ho', e4.snoc h2⟩
      exact .of (Step.setM (t := s.toks) hR hm hs' ho) (hR.setM hm hs' ho) .none h
theorem ext_meets (l : Addr) (items : Array Value) (n : Nat) (b : Addr) (items2 : Array Value) (n2 : Nat) (dd2 : Option Addr) (sl2 : Array (Option Value)) (hc0 : ¬(!items.isEmpty && Builtin.List.listTooLong (items.size + items2.size)) = true) (hc1 : items.size ≤ sizeLine) (hs2 : items.size + items2.size ≤ sizeLine + 1) :
    Meets (Builtin.«list.extend» ⟨[.ref l, .ref b], []⟩) (fun _ R s => s.heap.get? l = some { cls := .type "list", dict := none, data := .seq items n, slots := #[] } ∧ s.heap.get? b = some { cls := .type "list", dict := dd2, data := .seq items2 n2, slots := sl2 } ∧ R (.ok (.ret Value.none)) { s with heap := s.heap.update l (Obj.mapSeq fun x => x ++ items2), toks := s.toks }) :=
  .of_wp fun prog w A R s h => by
    obtain ⟨hp, g, d, tk, os⟩ := s; obtain ⟨hl, hb, h⟩ := h; have f1 := AutoSeq1.idx_int; have f2 := AutoSeq1.sub_tuple_tuple; have f3 := AutoSeq1.sub_list_list; have f4 := AutoSeq1.sub_tuple_list; have f5 := AutoSeq1.sub_list_tuple
    have hz' : (items ++ items2).size ≤ sizeLine + 1 := by rw [Array.size_append]; exact hs2
    wp_walk using (wpAny_updateSeq hl rfl (hz := hc1) (_hz' := hz')), AutoSeq1.wpAny_loadPart' hl, AutoSeq1.wpAny_loadPart' hb; exact ⟨_, rfl, h⟩
theorem callW_extend {a : Addr} {tg : Nat} {vs ws : List AV} {Q : AV → MH → Prop} (hm : μ a = some (.list tg vs)) (h : Q .none (updM μ a (.list tg (vs ++ ws)))) (hs : vs.length + ws.length ≤ 1000000) : CallW c d (.raw (.builtin "list.extend")) [.ref a, .lst ws] μ Q := .mk fun A g s E vf us hA hR hf hv => by
  cases hf
  cases hv with
  | cons h1 h2 =>
    cases h2 with
    | cons h2 h3 =>
      cases h3; cases h1
      obtain ⟨_, xs, n, e1, e4⟩ := hR.mu _ _ hm
      obtain ⟨b, ⟨oc, od, odt, osl⟩, ys, n', rfl, f1, f2, f3, f4⟩ := lst_inv h2
      dsimp only at f2 f3
      subst f2 f3
      have hsz : xs.size + ys.size ≤ 1000000 := by rw [← Array.length_toList, ← Array.length_toList, ← e4.length, ← f4.length]; exact hs
      refine call_meets PySem.F.slot_list_extend ⟨_, e1, rfl⟩ PySem.F.entry_list_extend (PySem.F.args_list_extend_2 _ _)
        (ext_meets a xs n b ys n' od osl (by simp [Builtin.List.listTooLong, sizeLine]; omega) (by show _ ≤ 16777216; omega) (by show _ ≤ 16777216 + 1; omega)) ⟨e1, hR.sub _ _ f1, ?_⟩
      have ho : OR c g (s.heap.update a (Obj.mapSeq fun x => x ++ ys)) a (.list tg (vs ++ ws)) := by
        obtain ⟨n'', e⟩ : ∃ n'', Obj.mapSeq (fun x => x ++ ys) (lstObj xs n) = lstObj (xs ++ ys) n'' := ⟨_, rfl⟩
        refine ⟨xs ++ ys, n'', (Heap.get?_update_self _ e1 (by rw [e]; rfl)).trans (by rw [e]), ?_⟩
        rw [Array.toList_append]; exact e4.append f4
      exact .of (Step.setM (t := s.toks) hR hm (Heap.SameBut.update ..) ho) (hR.setM hm (Heap.SameBut.update ..) ho) .none h
end
end Mine
namespace Mine
open PySem PySem.W PyProof.Rows

section
variable {c : Cx} {d : Nat} {F : Fm} {le : LE} {μ : MH} {p : Pos}

theorem osa_any {prog : Program} {w : World} {A : Around} {K : Frag} {C x : Addr} {s : Shared} {R : Result → Shared → Prop} {ox : Obj} {es : List DictEntry} {n : Nat} {dx : Addr} {name : Str} {tk : Tok} {v : Value} (X : K.In s.heap)
    (I : InstAt s.heap x ox C (some (dictOf es n))) (D : s.heap.get? dx = some (dictOf es n)) (hd : ox.dict = some dx) (hp : plainOver K C = true) (ht : takerIn K C name = some none) (hh : (clsIn K C).any (·.hasDict) = true)
    (hl : getL name es = some none) (hz : es.length ≤ 900)
    (h : ∀ h' t, Heap.SameBut dx s.heap h' → h'.get? dx = some (dictOf (putL name (PyData.keyHash w.params name) (.str name t) v es) (putN name es n)) → R (.ok (.ret .none)) { s with heap := h', toks := s.toks + 1 }) :
    codeAny (model prog w) A (.call (.builtin "object.__setattr__") ⟨[.ref x, .str name tk, v], []⟩) R s := by
  refine osa_open X I hp ht fun b => ?_
  obtain ⟨cd, hc, hd'⟩ := any_some hh
  have e1 : Obj.putName name (PyData.keyHash w.params name) (.str name s.toks) v (dictOf es n) = dictOf (putL name (PyData.keyHash w.params name) (.str name s.toks) v es) (putN name es n) := putName_dict ..
  have D' : (s.heap.update dx (Obj.putName name (PyData.keyHash w.params name) (.str name s.toks) v)).get? dx = some (dictOf (putL name (PyData.keyHash w.params name) (.str name s.toks) v es) (putN name es n)) := by
    rw [← e1]
    exact Heap.get?_update_self _ D (by rw [e1]; rfl)
  obtain ⟨hx, hcl, hn, -⟩ := I
  obtain ⟨oc, odi, oda, osl⟩ := ox
  dsimp only at hcl hd
  subst hcl hd
  refine wpAny_bind (wpAny_pure (wpAny_bind (wpAny_bind (wpAny_loadPart hx (wpAny_bind ((looks_clsIn X hc).here ?_))))))
  rw [hd']
  refine wpAny_pure (a := some dx) (wpAny_bind (wpAny_pure (wpAny_bind ?_)))
  unfold nsSet
  refine wpAny_bind (wpAny_bind (wpAny_askSetting (wpAny_pure (wpAny_bind (wpAny_mkText (wpAny_bind (wpAny_loadPart D ?_)))))))
  dsimp only
  have c : (!es.toArray.any (·.key.isStr name) && es.toArray.any (·.refKey)) = false := by
    rw [← Array.any_toList, ← Array.any_toList]
    unfold getL at hl
    split at hl
    · cases hl
    · split at hl
      · cases hl
      · rename_i z; rw [Bool.not_eq_true] at z; rw [z, Bool.and_false]
  rw [aRefKeyMayBeTheName_at, c]
  refine wpAny_updatePart D ?_
  refine wpAny_bind (wpAny_lookBehind D' (pastItsLine_dict (by rw [List.size_toArray, sizeLine_eq]; have := putL_len name (PyData.keyHash w.params name) (.str name s.toks) v es; omega)) ?_)
  exact wpAny_pure (h _ _ (Heap.SameBut.update ..) D')

theorem ws_setattr {o e : Expr} {name : Str} {p' : Pos} {Q : Fl → LE → MH → Prop}
    (h : WE c d F le e μ (fun v μ₁ => WE c d F le o μ₁ (fun a μ₂ => ∃ x C dx fs, a = .ref x ∧ μ₂ x = some (.inst C dx) ∧ μ₂ dx = some (.ns fs) ∧ setOk (hd.heap_39 c.w.params) C name = true ∧ fs.lookup name = none ∧ fs.length ≤ 900 ∧ Q .next le (updM μ₂ dx (.ns (fs ++ [(name, v)]))))))
    (hs : ∀ env, swapsWith e (some (.Attribute o name p')) p.line env = pure false := by intro _; rfl) : WS c d F le (.Assign [.Attribute o name p'] e p) μ Q := .mk fun A g s E hA hR hL => by
  refine plainObj_wpAny_Assign_Attribute (seqN (h.run A g s E hA hR hL) fun g₁ μ₁ s₁ v vv st₁ R₁ v₁ q₁ => seqN (q₁.run A g₁ s₁ E hA R₁ (hL.step st₁)) fun g₂ μ₂ s₂ b vb st₂ R₂ v₂ q₂ => ?_) (hs _)
  obtain ⟨x, C, dx, fs, rfl, hx, hdx, hok, hn, hlen, hq⟩ := q₂
  cases v₂
  have h3 : s₂.heap.get? x = some (instObj C dx) := (R₂.mu _ _ hx).2
  obtain ⟨gdx, es, n, h4, h5⟩ := R₂.mu _ _ hdx
  have I : InstAt s₂.heap x (instObj C dx) C (some (dictOf es n)) := ⟨h3, rfl, rfl, h4⟩
  unfold setOk at hok
  rw [Bool.and_eq_true, Bool.and_eq_true, Bool.and_eq_true] at hok
  obtain ⟨⟨⟨hs1, hp⟩, ht⟩, hh⟩ := hok
  have ht : takerIn (hd.heap_39 c.w.params) C name = some none := by
    cases q : takerIn (hd.heap_39 c.w.params) C name with
    | none => rw [q] at ht; cases ht
    | some y => cases y with
      | none => rfl
      | some _ => rw [q] at ht; cases ht
  have v₁' : VR c g₂ v vv := v₁.mono st₂.gg
  refine set_plain R₂.KX I (beq_iff_eq.mp hs1) (osa_any (s := { s₂ with toks := s₂.toks + 1 }) R₂.KX I h4 rfl hp ht hh (h5.getnone hn) (by rw [← h5.length]; exact hlen) fun h' t hs' ho' => ?_)
  have ho : OR c g₂ h' dx (.ns (fs ++ [(name, v)])) := ⟨_, _, ho', h5.put v₁' hn⟩
  have st : Step X0 g₂ μ₂ s₂ g₂ (updM μ₂ dx (.ns (fs ++ [(name, v)]))) { s₂ with heap := h', toks := s₂.toks + 1 + 1 } := Step.setM R₂ hdx hs' ho
  exact ⟨g₂, _, .next, le, ((st₁.trans R₁ st₂).trans R₂ st).x0, R₂.setM hdx hs' ho, rfl, ((hL.step st₁).step st₂).step st, hq⟩

theorem Room.under {A : Around} {C : Addr} {vs : List Value} (x : Room (d + 1) A) : Room d (A.under (.builtin "type.__call__" ⟨.ref C :: vs, []⟩)) := by
  have e1 : (Code.builtin "type.__call__" ⟨.ref C :: vs, []⟩).weight = 1 := by kernel_rfl
  have e2 : (Code.builtin "type.__call__" ⟨.ref C :: vs, []⟩).cUnits = 1 := by kernel_rfl
  refine ⟨x.hh, ?_, ?_⟩
  · have := x.depth
    show A.depth + (Code.builtin "type.__call__" ⟨.ref C :: vs, []⟩).weight + d < _
    omega
  · have := x.units
    show A.units + (Code.builtin "type.__call__" ⟨.ref C :: vs, []⟩).cUnits + 30 * d < _
    omega

theorem callC_make {C fI : Addr} {args : List AV} {Q : AV → MH → Prop} (hok : makeOk (hd.heap_39 c.w.params) C fI = true)
    (h : ∀ x dx, x ≠ dx → μ x = none → μ dx = none → CallC c d (.raw (.ref fI)) (.ref x :: args) (updM (updM μ dx (.ns [])) x (.inst C dx)) (fun r μ' => r = .none ∧ Q (.ref x) μ')) : CallC c (d + 1) (.raw (.ref C)) args μ Q := .mk fun A g s R vf vs hA hR hf hv hpost => by
  cases hf
  unfold makeOk at hok
  rw [Bool.and_eq_true, Bool.and_eq_true] at hok
  obtain ⟨⟨hm, hi⟩, hft⟩ := hok
  obtain ⟨hh, gg, dd, t, os⟩ := s
  have X := hR.KX
  refine make_core (makes_of X hm) (looks_findIn X (beq_iff_eq.mp hi)) (fun self => bind_fn X self (beq_iff_eq.mp hft)) (.inl rfl) ?_
  have n1 : hh.get? hh.objs.size = none := get_end _
  have k1 : ∀ b o, hh.get? b = some o → (hh.push emptyDict).get? b = some o := push_keeps _ _
  have o1 : (hh.push emptyDict).get? hh.objs.size = some emptyDict := Heap.get?_push_size _ rfl
  have R₁ : Rel c g (updM μ hh.objs.size (.ns [])) (hh.push emptyDict) := hR.addM k1 n1 ⟨[], 0, o1, .nil⟩
  have st₁ : Step X0 g μ ⟨hh, gg, dd, t, os⟩ g (updM μ hh.objs.size (.ns [])) ⟨hh.push emptyDict, gg, dd, t, os⟩ := Step.addM (s := ⟨hh, gg, dd, t, os⟩) (t := t) hR k1 n1
  have hsz : (hh.push emptyDict).objs.size = hh.objs.size + 1 := Heap.size_push ..
  have n2 : (hh.push emptyDict).get? (hh.objs.size + 1) = none := by rw [← hsz]; exact get_end _
  have o2 : ((hh.push emptyDict).push (instObj C hh.objs.size)).get? (hh.objs.size + 1) = some (instObj C hh.objs.size) := by rw [← hsz]; exact Heap.get?_push_size _ rfl
  have R₂ : Rel c g (updM (updM μ hh.objs.size (.ns [])) (hh.objs.size + 1) (.inst C hh.objs.size)) ((hh.push emptyDict).push (instObj C hh.objs.size)) := R₁.addM (push_keeps _ _) n2 o2
  have st₂ : Step X0 g (updM μ hh.objs.size (.ns [])) ⟨hh.push emptyDict, gg, dd, t, os⟩ g (updM (updM μ hh.objs.size (.ns [])) (hh.objs.size + 1) (.inst C hh.objs.size)) ⟨(hh.push emptyDict).push (instObj C hh.objs.size), gg, dd, t, os⟩ :=
    Step.addM (s := ⟨hh.push emptyDict, gg, dd, t, os⟩) (t := t) R₁ (push_keeps _ _) n2
  have st := st₁.trans R₁ st₂
  have hx : μ (hh.objs.size + 1) = none := hR.fresh_mu (get_above (Nat.le_succ _))
  have hdx : μ hh.objs.size = none := hR.fresh_mu n1
  refine (h (hh.objs.size + 1) hh.objs.size (Nat.succ_ne_self _) hx hdx).run _ g _ _ _ _ hA.under R₂ (.raw _) (.cons (.ref _) hv) fun v s' q => ?_
  obtain ⟨g', μ', a, st', R', r, q⟩ := q
  obtain ⟨rfl, q⟩ := q
  cases r
  exact ⟨rfl, hpost _ _ ⟨g', μ', .ref (hh.objs.size + 1), st.trans R₂ st', R', .ref _, q⟩⟩

end
end Mine
namespace Mine
open PySem PySem.W PyProof.Rows

noncomputable def delS (S : Addr → Bool) (μ : MH) : MH := fun a => if S a = true then none else μ a
mutual
inductive Fz (S : Addr → Bool) (μ : MH) : AV → AV → Prop
  | same (a : AV) : Fz S μ a a
  | list {a : Addr} {tg : Nat} {vs ws : List AV} : S a = true → μ a = some (.list tg vs) → FzL S μ vs ws → Fz S μ (.ref a) (.lst ws)
  | live {x C dx : Addr} {fs gs : List (Str × AV)} : S x = true → S dx = true → μ x = some (.inst C dx) → μ dx = some (.ns fs) → FzD S μ fs gs → Fz S μ (.ref x) (.inst C gs)
  | lst {vs ws : List AV} : FzL S μ vs ws → Fz S μ (.lst vs) (.lst ws)
  | tup {vs ws : List AV} : FzL S μ vs ws → Fz S μ (.tup vs) (.tup ws)
  | inst {C : Addr} {fs gs : List (Str × AV)} : FzD S μ fs gs → Fz S μ (.inst C fs) (.inst C gs)
inductive FzL (S : Addr → Bool) (μ : MH) : List AV → List AV → Prop
  | nil : FzL S μ [] []
  | cons {x y : AV} {xs ys : List AV} : Fz S μ x y → FzL S μ xs ys → FzL S μ (x :: xs) (y :: ys)
inductive FzD (S : Addr → Bool) (μ : MH) : List (Str × AV) → List (Str × AV) → Prop
  | nil : FzD S μ [] []
  | cons {n : Str} {x y : AV} {xs ys : List (Str × AV)} : Fz S μ x y → FzD S μ xs ys → FzD S μ ((n, x) :: xs) ((n, y) :: ys)
end
theorem FzL.same {S : Addr → Bool} {μ : MH} : ∀ xs : List AV, FzL S μ xs xs
  | [] => .nil
  | x :: r => .cons (.same x) (FzL.same r)
theorem FzL.map {α : Type} {S : Addr → Bool} {μ : MH} {f e : α → AV} : ∀ {xs : List α}, (∀ x ∈ xs, Fz S μ (f x) (e x)) → FzL S μ (xs.map f) (xs.map e)
  | [], _ => .nil
  | x :: r, h => .cons (h x (.head _)) (FzL.map fun y hy => h y (.tail _ hy))

noncomputable def MLe (μ μ' : MH) : Prop := ∀ a o, μ a = some o → μ' a = some o
theorem MLe.refl (μ : MH) : MLe μ μ := fun _ _ e => e
theorem MLe.trans {a b e : MH} (x : MLe a b) (y : MLe b e) : MLe a e := fun _ _ q => y _ _ (x _ _ q)
theorem MLe.gone {μ μ' : MH} (x : MLe μ μ') {a : Addr} (h : μ' a = none) : μ a = none := by
  cases q : μ a with
  | none => rfl
  | some o => rw [x _ _ q] at h; cases h
theorem MLe.upd {μ μ' : MH} (x : MLe μ μ') {a : Addr} {o : AO} (h : μ a = none) : MLe μ (updM μ' a o) := fun b p q => by
  rw [updM_ne (fun e => by rw [e, h] at q; cases q)]; exact x _ _ q
theorem MLe.del {μ μ' : MH} (x : MLe μ μ') {S : Addr → Bool} (h : ∀ a, S a = true → μ a = none) : MLe μ (delS S μ') := fun b p q => by
  unfold delS
  rw [if_neg (fun e => by rw [h _ e] at q; cases q)]; exact x _ _ q
section
variable {c : Cx} {d : Nat} {F : Fm} {le : LE} {μ : MH} {p : Pos}

noncomputable def frG (S : Addr → Bool) (g : GH) (μ : MH) (h : Heap) : GH := fun a => if (S a && (μ a).isSome) = true then h.get? a else g a
theorem frG_keep {S : Addr → Bool} {g : GH} {h : Heap} (R : Rel c g μ h) : ∀ a o, g a = some o → frG S g μ h a = some o := fun a o e => by
  unfold frG
  rw [if_neg, e]
  rw [R.mu_none e]; simp
theorem frG_new {S : Addr → Bool} {g : GH} {h : Heap} {a : Addr} {o : AO} {ob : Obj} (hs : S a = true) (hm : μ a = some o) (ho : h.get? a = some ob) : frG S g μ h a = some ob := by
  unfold frG
  rw [if_pos, ho]
  rw [hs, hm]; rfl
theorem Rel.frz {S : Addr → Bool} {g : GH} {h : Heap} (R : Rel c g μ h) : Rel c (frG S g μ h) (delS S μ) h := by
  refine ⟨R.gd, fun a o e => ?_, fun a o e => frG_keep R _ _ (R.bas _ _ e), fun a o e => ?_⟩
  · unfold frG at e
    split at e
    · exact e
    · exact R.sub _ _ e
  · unfold delS at e
    split at e
    · cases e
    · rename_i hs
      refine ⟨?_, (R.mu _ _ e).2.mono (frG_keep R) fun _ e => e⟩
      unfold frG
      rw [if_neg (fun q => hs (Bool.and_eq_true_iff.mp q).1)]
      exact (R.mu _ _ e).1
theorem Step.frz {S : Addr → Bool} {X : Addr → Prop} {g : GH} {s : Shared} (R : Rel c g μ s.heap) : Step X g μ s (frG S g μ s.heap) (delS S μ) s :=
  ⟨frG_keep R, fun _ _ e _ _ => e, fun b o e _ h1 h2 => ⟨by unfold frG; rw [h1]; simpa using h2, by unfold delS; rw [h1]; simp⟩, fun _ o e _ => ⟨o, e⟩, rfl, rfl⟩

mutual
theorem Fz.vr {S : Addr → Bool} {g : GH} {h : Heap} (R : Rel c g μ h) : ∀ {x y : AV} {v : Value}, Fz S μ x y → VR c g x v → VR c (frG S g μ h) y v
  | _, _, _, .same _, hv => hv.mono (frG_keep R)
  | _, _, _, .list hs hm hl, hv => by
    cases hv
    obtain ⟨_, xs, n, e1, e4⟩ := R.mu _ _ hm
    exact .lst (frG_new hs hm e1) rfl rfl (FzL.vr R hl e4)
  | _, _, _, .live hx hd m1 m2 hl, hv => by
    cases hv
    have h3 : h.get? _ = some (instObj _ _) := (R.mu _ _ m1).2
    obtain ⟨_, es, n, h4, h5⟩ := R.mu _ _ m2
    exact .inst (frG_new hx m1 h3) (frG_new hd m2 h4) (FzD.vr R hl h5)
  | _, _, _, .lst hl, hv => by
    obtain ⟨a, o, xs, n, rfl, e1, e2, e3, e4⟩ := lst_inv hv
    exact .lst (frG_keep R _ _ e1) e2 e3 (FzL.vr R hl e4)
  | _, _, _, .tup hl, hv => by
    obtain ⟨a, o, xs, n, rfl, e1, e2, e3, e4⟩ := tup_inv hv
    exact .tup (frG_keep R _ _ e1) e2 e3 (FzL.vr R hl e4)
  | _, _, _, .inst hl, hv => by
    cases hv with
    | inst h1 h2 h3 => exact .inst (frG_keep R _ _ h1) (frG_keep R _ _ h2) (FzD.vr R hl h3)
theorem FzL.vr {S : Addr → Bool} {g : GH} {h : Heap} (R : Rel c g μ h) : ∀ {x y : List AV} {v : List Value}, FzL S μ x y → VRs c g x v → VRs c (frG S g μ h) y v
  | _, _, _, .nil, hv => by cases hv; exact .nil
  | _, _, _, .cons h1 h2, hv => by
    cases hv with
    | cons v1 v2 => exact .cons (Fz.vr R h1 v1) (FzL.vr R h2 v2)
theorem FzD.vr {S : Addr → Bool} {g : GH} {h : Heap} (R : Rel c g μ h) : ∀ {x y : List (Str × AV)} {v : List DictEntry}, FzD S μ x y → VRd c g x v → VRd c (frG S g μ h) y v
  | _, _, _, .nil, hv => by cases hv; exact .nil
  | _, _, _, .cons h1 h2, hv => by
    cases hv with
    | cons v1 v2 => exact .cons (Fz.vr R h1 v1) (FzD.vr R h2 v2)
end

theorem Post.frz {X : Addr → Prop} {g : GH} {s : Shared} {Q : AV → MH → Prop} {v : Value} {s' : Shared} (h : Post c X g μ s (VR c) (fun a μ' => ∃ a' S, Fz S μ' a a' ∧ Q a' (delS S μ')) v s') : Post c X g μ s (VR c) Q v s' := by
  obtain ⟨g', μ', a, st, R, hv, a', S, hf, hq⟩ := h
  exact ⟨_, _, a', st.trans R (.frz R), R.frz, hf.vr R hv, hq⟩
theorem CallC.frz {f : AV} {args : List AV} {Q : AV → MH → Prop} (h : CallC c d f args μ (fun a μ' => ∃ a' S, Fz S μ' a a' ∧ Q a' (delS S μ'))) : CallC c d f args μ Q := .mk fun A g s R vf vs hA hR hf hv hp =>
  h.run A g s R vf vs hA hR hf hv fun v s' q => hp _ _ q.frz
theorem CallW.frz {f : AV} {args : List AV} {Q : AV → MH → Prop} (h : CallW c d f args μ (fun a μ' => ∃ a' S, Fz S μ' a a' ∧ Q a' (delS S μ'))) : CallW c d f args μ Q := .mk fun A g s E vf vs hA hR hf hv =>
  wpAny_mono (h.run A g s E vf vs hA hR hf hv) (fun v s' q => q.frz) fun _ _ e => e
theorem CallC.mono {f : AV} {args : List AV} {Q Q' : AV → MH → Prop} (h : CallC c d f args μ Q) (hq : ∀ a μ', Q a μ' → Q' a μ') : CallC c d f args μ Q' := .mk fun A g s R vf vs hA hR hf hv hp =>
  h.run A g s R vf vs hA hR hf hv fun v s' ⟨g', μ', a, st, R', r, q⟩ => hp _ _ ⟨g', μ', a, st, R', r, hq _ _ q⟩
theorem WE.mono {e : Expr} {Q Q' : AV → MH → Prop} (h : WE c d F le e μ Q) (hq : ∀ a μ', Q a μ' → Q' a μ') : WE c d F le e μ Q' := .mk fun A g s E hA hR hL =>
  wpAny_mono (h.run A g s E hA hR hL) (fun v s' ⟨g', μ', a, st, R', r, q⟩ => ⟨g', μ', a, st, R', r, hq _ _ q⟩) fun _ _ e => e

theorem wss_frz {sts : List Stmt} {x : Str} {a a' : AV} {S : Addr → Bool} {le' : LE} {Q : Fl → LE → MH → Prop} (hx : Has x a le) (hs : SetLE x a' le le') (hf : Fz S μ a a') (h : WSs c d F le' sts (delS S μ) Q) : WSs c d F le sts μ Q := .mk fun A g s E hA hR hL => by
  have L' : Loc c (frG S g μ s.heap) (delS S μ) s.heap F le' := by
    obtain ⟨ok, nd, ⟨m, hm, hsl⟩, pv⟩ := hL
    refine ⟨ok, by rw [hs.names]; exact nd, ⟨m, hm, fun y ov hy => ?_⟩, fun b hb => ?_⟩
    · rcases hs.mem nd hy with ⟨rfl, rfl⟩ | ⟨q, hy⟩
      · rcases hsl _ _ hx.mem with ⟨h1, h2⟩ | ⟨h1, b, vo, h2, h3, h4⟩
        · exact .inl ⟨h1, fun av e => by cases e; obtain ⟨v, e1, e2⟩ := h2 _ rfl; exact ⟨v, e1, hf.vr hR e2⟩⟩
        · exact .inr ⟨h1, b, vo, h2, h3, fun av e => by cases e; obtain ⟨v, e1, e2⟩ := h4 _ rfl; exact ⟨v, e1, hf.vr hR e2⟩⟩
      · exact (hsl y ov hy).mono (frG_keep hR) fun _ _ _ e => e
    · obtain ⟨e1, e2, e3⟩ := pv b hb
      exact ⟨by unfold frG; rw [e2]; simpa using e1, by unfold delS; rw [e2]; simp, e3⟩
  exact PostS.step (Step.frz hR) hR.frz (h.run A _ s E hA hR.frz L')
end
end Mine
namespace Mine
open PySem PySem.W PyProof.Rows

structure CallI (c : Cx) (d : Nat) (target : Expr) (f : AV) (args : List AV) (μ : MH) (Q : List AV → MH → Prop) : Prop where
  run : ∀ A g s E vf vs, Room d A → Rel c g μ s.heap → VR c g f vf → VRs c g args vs → wpAny (model c.prog c.w) A (call vf vs) (fun x s₁ => wpAny (model c.prog c.w) A (pyIter x) (fun it s₂ =>
    ItR c target g μ s Q it s₂) E s₁) E s

section
variable {c : Cx} {d : Nat} {F : Fm} {le : LE} {μ : MH} {p : Pos}

noncomputable abbrev kArgsI (c : Cx) (d : Nat) (target : Expr) (Q : List AV → MH → Prop) (v : Value) : List AV → MH → Prop := fun as μ₂ => CallI c d target (.raw v) as μ₂ Q
noncomputable abbrev kCallI (c : Cx) (d : Nat) (F : Fm) (le : LE) (target : Expr) (es : List Expr) (p : Pos) (Q : List AV → MH → Prop) : AV → MH → Prop := fun fv μ₁ => ∃ v, fv = .raw v ∧ CalleeOk c v ∧ WL c d F le es p μ₁ (kArgsI c d target Q v)
theorem kCallI_i {target : Expr} {es : List Expr} {Q : List AV → MH → Prop} {v : Value} (hc : CalleeOk c v) (h : WL c d F le es p μ (kArgsI c d target Q v)) : kCallI c d F le target es p Q (.raw v) μ := ⟨v, rfl, hc, h⟩
theorem it_call {target f e : Expr} {es : List Expr} {Q : List AV → MH → Prop}
    (h : WE c d F le f μ (kCallI c d F le target (e :: es) p Q))
    (he : ∀ env, eval (.Call f (e :: es) [] p) env = (do callWith p (← eval f env) [] (backTo p (starEach (e :: es) env)) []) := by intro _; rfl)
    (hs : ∀ env, starEach (e :: es) env = (false, eval e env) :: starEach es env := by intro _; rfl)
    (hp : ∀ env, (backTo p (starEach es env)).any (·.1) = false := by intro _; rfl) : IterE c d F le target (.Call f (e :: es) [] p) μ Q := .mk fun A g s E hA hR hL => by
  rw [he]
  refine wpAny_bind (seqN (h.run A g s E hA hR hL) fun g₁ μ₁ s₁ a va st₁ R₁ v₁ q₁ => ?_)
  obtain ⟨v, rfl, hc, q⟩ := q₁
  cases v₁
  have hq := q.run A g₁ s₁ E hA R₁ (hL.step st₁)
  rw [hs] at hq ⊢
  refine callWith_of (P := fun h => (hd.heap_39 c.w.params).In h) (by show ((false || (backTo p (starEach es F.env)).any (·.1)) || false) = false; rw [hp]; rfl) (fun h X => hc _ h X) (Calls.evalArgs_plain ?_)
  refine seqN hq fun g₂ μ₂ s₂ b vb st₂ R₂ v₂ q₂ => ⟨R₂.KX, ?_⟩
  refine wpAny_mono (q₂.run A g₂ s₂ E _ _ hA R₂ (.raw _) v₂) (fun x s₃ q => wpAny_mono q (fun it s₄ q => ?_) fun _ _ e => e) fun _ _ e => e
  obtain ⟨I, fp, items, St, g', μ', rfl, W, st, R, P, hn, hst, hq⟩ := q
  have st12 := st₁.trans R₁ st₂
  exact ⟨I, fp, items, St, g', μ', rfl, W, st12.trans R₂ st, R, P, fun b hb => st12.none_of (hn b hb) fun _ => id, hst, hq⟩

theorem Step.promoteX {X : Addr → Prop} {g g' : GH} {μ' : MH} {s s' : Shared} {D : Addr} {o : Obj} (st : Step X g μ s g' μ' s') (hn : s.heap.get? D = none) (hg : g' D = none) : Step X g μ s (updG g' D o) μ' s' := by
  refine ⟨fun a o e => updG_grows hg _ _ (st.gg _ _ e), st.keep, fun b o' e hx h1 h2 => ?_, st.pres, st.gens, st.os⟩
  have := st.own b o' e hx h1 h2
  have hb : b ≠ D := fun q => by rw [q, hn] at e; cases e
  exact ⟨by unfold updG; rw [if_neg hb]; exact this.1, this.2⟩

noncomputable def enumAV (vs : List AV) : List AV := vs.zipIdx.map fun p => .tup [.int (p.2 : Nat), p.1]
theorem enumAV_get {vs : List AV} {i : Nat} {a : AV} (h : (enumAV vs)[i]? = some a) : ∃ x, vs[i]? = some x ∧ a = .tup [.int i, x] := by
  unfold enumAV at h
  rw [List.getElem?_map, List.getElem?_zipIdx] at h
  cases q : vs[i]? with
  | none => rw [q] at h; cases h
  | some x => rw [q] at h; simp at h; exact ⟨x, rfl, h.symm⟩
theorem enumAV_len (vs : List AV) : (enumAV vs).length = vs.length := by unfold enumAV; simp

theorem wk_enum {elts : List Expr} {k : Nat} {tp : Pos} {e it l : Addr} {vs : List AV} (hne : e ≠ it) : Wk c (.Tuple elts k tp) e [e, it] (enumAV vs) (fun i g h => (∃ old, IsEnum h e it i old) ∧ h.IsListIter it l i ∧ VR c g (.lst vs) (.ref l)) where
  frame := fun i g h g' h' st hg hk => ⟨let ⟨o, ho⟩ := st.1; ⟨o, hk e (.head _) _ ho⟩, let ⟨o, ho, r⟩ := st.2.1; ⟨o, hk it (.tail _ (.head _)) o ho, r⟩, st.2.2.mono hg⟩
  item := fun A i g μ s E Q x hh R P st hx kk => by
    obtain ⟨⟨old, he⟩, hit, hv⟩ := st
    obtain ⟨a', o, xs, n, e0, e1, e2, e3, e4⟩ := lst_inv hv
    cases e0
    obtain ⟨y, hy, rfl⟩ := enumAV_get hx
    obtain ⟨v, ev, hv1⟩ := e4.get hy
    have hl : s.heap.IsList l xs := ⟨_, R.sub _ _ e1, e2, _, e3⟩
    refine wpAny_pyNext_enum_item he hit hl (by rw [← Array.getElem?_toList]; exact ev) hne fun h' out hit' htup hsz hk => ?_
    refine wpAny_letOwnedTupleGo_enum out fun h'' he'' hs'' => ?_
    have hT : s.heap.get? s.heap.objs.size = none := get_end _
    have hTe : s.heap.objs.size ≠ e := fun q => by have he0 : s.heap.get? e = some _ := he; rw [← q, hT] at he0; cases he0
    have htup'' := hs''.extBut _ _ hTe htup
    have hk'' : ∀ b o, ¬ inL [e, it] b → s.heap.get? b = some o → h''.get? b = some o := fun b o hb e1 => hs''.extBut b o (fun q => hb (q ▸ .head _)) (hk b o (fun q => hb (q ▸ .head _)) (fun q => hb (q ▸ .tail _ (.head _))) e1)
    have st' : Step (inL [e, it]) g μ s g μ { s with heap := h'', toks := s.toks + 1 } := Step.privE hk''
    have hP : ∀ a, inL [e, it] a → g a = none ∧ μ a = none := fun a ha => ⟨(P a ha).1, (P a ha).2.1⟩
    have R' : Rel c g μ h'' := R.privE hP hk''
    have gT := R.fresh_g hT
    have mT := R.fresh_mu hT
    have hit'' : h''.IsListIter it l (i + 1) := let ⟨o, ho, r⟩ := hit'; ⟨o, hs''.extBut it o (Ne.symm hne) ho, r⟩
    refine kk _ (updG g s.heap.objs.size _) { s with heap := h'', toks := s.toks + 1 } (st'.promoteX (o := tupObj [.int i s.toks, v]) hT gT) (R'.promoteG gT mT htup'') ?_ ?_ ?_
    · exact .tup (updG_self _ _ _) rfl rfl (.cons (.int ..) (.cons (hv1.mono (updG_grows gT)) .nil))
    · intro b hb
      obtain ⟨q1, q2, q3⟩ := P b hb
      have hb2 : b = e ∨ b = it := by simpa using hb
      refine ⟨?_, q2, ?_⟩
      · unfold updG; rw [if_neg, q1]; intro q; obtain ⟨o, q3⟩ := q3; rw [q, hT] at q3; cases q3
      · rcases hb2 with rfl | rfl
        · exact ⟨_, he''⟩
        · obtain ⟨o, ho, _⟩ := hit''; exact ⟨o, ho⟩
    · exact ⟨⟨_, by simpa using he''⟩, hit'', hv.mono (updG_grows gT)⟩
  done := fun A g μ s E Q hh R P st k => by
    obtain ⟨⟨old, he⟩, hit, hv⟩ := st
    obtain ⟨a', o, xs, n, e0, e1, e2, e3, e4⟩ := lst_inv hv
    cases e0
    have hl : s.heap.IsList l xs := ⟨_, R.sub _ _ e1, e2, _, e3⟩
    rw [enumAV_len] at hit he
    refine wpAny_pyNext_enum_end hh he hit hl (by rw [← Array.getElem?_toList]; exact e4.get_none) fun h' he' => ?_
    have hs : ∀ b o, ¬ inL [e, it] b → s.heap.get? b = some o → h'.get? b = some o := fun b o hb e => he' b o (fun q => hb (q ▸ .tail _ (.head _))) e
    exact ⟨rfl, k { s with heap := h' } (Step.privE hs) (R.privE (fun b hb => ⟨(P b hb).1, (P b hb).2.1⟩) hs)⟩
  self := fun A i g μ s E Q R P st k => by obtain ⟨⟨old, he⟩, _⟩ := st; exact wpAny_pyIter_enum he k

theorem callI_enum {elts : List Expr} {k : Nat} {tp : Pos} {vs : List AV} {Q : List AV → MH → Prop} (h : Q (enumAV vs) μ) : CallI c d (.Tuple elts k tp) (.raw (.type "enumerate")) [.lst vs] μ Q := .mk fun A g s E vf us hA hR hf hv => by
  cases hf
  cases hv with
  | cons h1 h2 =>
    cases h2
    obtain ⟨l, o, xs, n, rfl, e1, e2, e3, e4⟩ := lst_inv h1
    have hl : s.heap.IsList l xs := ⟨_, hR.sub _ _ e1, e2, _, e3⟩
    refine call_enumerate_list hl fun h' he hit hsz kp => wpAny_pyIter_enum he ?_
    have n0 : s.heap.get? s.heap.objs.size = none := get_end _
    have n1 : s.heap.get? (s.heap.objs.size + 1) = none := get_above (Nat.le_succ _)
    refine ⟨s.heap.objs.size + 1, [s.heap.objs.size + 1, s.heap.objs.size], _, _, g, μ, rfl, wk_enum (l := l) (vs := vs) (Nat.succ_ne_self _), Step.ext (t := s.toks) kp, hR.ext kp, fun b hb => ?_, fun b hb => ?_, ⟨⟨_, he⟩, hit, h1⟩, h⟩
    · have hb2 : b = s.heap.objs.size + 1 ∨ b = s.heap.objs.size := by simpa using hb
      rcases hb2 with rfl | rfl
      · exact ⟨hR.fresh_g n1, hR.fresh_mu n1, _, he⟩
      · obtain ⟨o, ho, _⟩ := hit; exact ⟨hR.fresh_g n0, hR.fresh_mu n0, _, ho⟩
    · have hb2 : b = s.heap.objs.size + 1 ∨ b = s.heap.objs.size := by simpa using hb
      rcases hb2 with rfl | rfl
      · exact n1
      · exact n0
end
end Mine
namespace Mine
open PySem PySem.W PyProof.Rows

structure ZSrc (prog : Program) (w : World) (i l : Addr) (xs : Array Value) (It : Nat → Heap → Prop) : Prop where
  keep : ∀ k h h', It k h → (∀ o, h.get? i = some o → h'.get? i = some o) → (∀ o, h.get? l = some o → h'.get? l = some o) → It k h'
  here : ∀ k h, It k h → ∃ o, h.get? i = some o
  next : ∀ (A : Around) (E : Value → Shared → Prop) (s : Shared) (Q : Value → Shared → Prop) k x, It k s.heap → xs[k]? = some x → l ≠ i → (∀ h', It (k + 1) h' → Heap.SameBut i s.heap h' → Q x { s with heap := h' }) → wpAny (model prog w) A (Builtin.SmallTypes.nextOf (.ref i)) Q E s
  stop : ∀ (A : Around) (E : Value → Shared → Prop) (s : Shared) (Q : Value → Shared → Prop) k, A.handled = none → It k s.heap → xs[k]? = none →
    (∀ h' e, Heap.ExtBut i s.heap h' → (∃ o, h'.get? e = some o ∧ o.cls = .type "StopIteration") → E (.ref e) { s with heap := h' }) → wpAny (model prog w) A (Builtin.SmallTypes.nextOf (.ref i)) Q E s

theorem zsrc_list {prog : Program} {w : World} {i l : Addr} {xs : Array Value} : ZSrc prog w i l xs (fun k h => h.IsListIter i l k ∧ h.IsList l xs) where
  keep := fun k h h' st k1 k2 => ⟨let ⟨o, ho, r⟩ := st.1; ⟨o, k1 o ho, r⟩, let ⟨o, ho, r⟩ := st.2; ⟨o, k2 o ho, r⟩⟩
  here := fun k h st => let ⟨o, ho, _⟩ := st.1; ⟨o, ho⟩
  next := fun A E s Q k x st hx hne hQ => wpAny_nextOf_list_item st.1 st.2 hx fun h' hit hs => hQ h' ⟨hit, st.2.extBut hs.extBut hne⟩ hs
  stop := fun A E s Q k hh st hx hE => wpAny_nextOf_list_end hh st.1 st.2 hx hE

theorem zsrc_tuple {prog : Program} {w : World} {i l : Addr} {xs : Array Value} : ZSrc prog w i l xs (fun k h => h.IsTupleIter i l k ∧ h.IsTuple l xs) where
  keep := fun k h h' st k1 k2 => ⟨let ⟨o, ho, r⟩ := st.1; ⟨o, k1 o ho, r⟩, let ⟨o, ho, r⟩ := st.2; ⟨o, k2 o ho, r⟩⟩
  here := fun k h st => let ⟨o, ho, _⟩ := st.1; ⟨o, ho⟩
  next := fun A E s Q k x st hx hne hQ => by
    obtain ⟨hit, ht⟩ := st
    obtain ⟨o, ho, hc, hdd⟩ := id hit
    obtain ⟨ol, hol, hcl, nl, hdl⟩ := id ht
    unfold Builtin.SmallTypes.nextOf
    refine wpAny_bind (wpAny_callSpecial?_slot (name := Str.ofString "__next__") hit.typeIs PySem.F.slot_tuple_iterator_next
      (wpAny_call_entry PySem.F.slot_tuple_iterator_next hit.typeIs PySem.F.entry_tuple_iterator_next ?_ (PySem.F.args_tuple_iterator_next_1 _)))
    show wpAny _ _ (field (.ref i) 0 >>= _) _ _ s
    refine wpAny_bind (wpAny_field ho hdd (x := .ref l) rfl ?_)
    show wpAny _ _ (if (Value.ref l == Value.none) = true then _ else _) _ _ s
    rw [if_neg (show ¬ ((Value.ref l == Value.none) = true) from Bool.false_ne_true)]
    show wpAny _ _ (field (.ref i) 1 >>= _) _ _ s
    refine wpAny_bind (wpAny_field ho hdd (x := .int k 0) rfl ?_)
    show wpAny _ _ (seqItems? (.ref l) >>= _) _ _ s
    refine wpAny_bind (wpAny_seqItems hol hdl ?_)
    simp only [Int.toNat_natCast, hx]
    refine wpAny_bind (wpAny_setField ho hdd (by simp) (wpAny_pure ⟨x, rfl, wpAny_pure (hQ _ ⟨?_, ht.extBut (Heap.SameBut.update ..).extBut hne⟩ (Heap.SameBut.update ..))⟩))
    exact ⟨_, Heap.get?_update_self _ ho (Obj.isFreed_of_fields (Obj.data_mapFields hdd _)), (Obj.cls_mapFields ..).trans hc, by rw [Obj.data_mapFields hdd]; simp [rawInt]⟩
  stop := fun A E s Q k hh st hx hE => by
    obtain ⟨hit, ht⟩ := st
    obtain ⟨o, ho, hc, hdd⟩ := id hit
    obtain ⟨ol, hol, hcl, nl, hdl⟩ := id ht
    unfold Builtin.SmallTypes.nextOf
    refine wpAny_bind (wpAny_callSpecial?_slot (name := Str.ofString "__next__") hit.typeIs PySem.F.slot_tuple_iterator_next
      (wpAny_call_entry PySem.F.slot_tuple_iterator_next hit.typeIs PySem.F.entry_tuple_iterator_next ?_ (PySem.F.args_tuple_iterator_next_1 _)))
    show wpAny _ _ (field (.ref i) 0 >>= _) _ _ s
    refine wpAny_bind (wpAny_field ho hdd (x := .ref l) rfl ?_)
    show wpAny _ _ (if (Value.ref l == Value.none) = true then _ else _) _ _ s
    rw [if_neg (show ¬ ((Value.ref l == Value.none) = true) from Bool.false_ne_true)]
    show wpAny _ _ (field (.ref i) 1 >>= _) _ _ s
    refine wpAny_bind (wpAny_field ho hdd (x := .int k 0) rfl ?_)
    show wpAny _ _ (seqItems? (.ref l) >>= _) _ _ s
    refine wpAny_bind (wpAny_seqItems hol hdl ?_)
    simp only [Int.toNat_natCast, hx]
    refine wpAny_bind (wpAny_rule (wpAny_bind (wpAny_setField ho hdd (by simp) ?_)))
    show wpAny _ _ (newExc (.type "StopIteration") [] >>= _) _ _ _
    refine wpAny_bind ?_
    simp only [newExc, newTuple]
    refine wpAny_bind (wpAny_newObj_type ?_ (by size_fits))
    refine wpAny_bind (m := firstArgMember _ _) (wpAny_of_eq (a := Value.none) (by first | rfl | (simp only [firstArgMember]; rfl)) ?_)
    refine wpAny_newObj_type ?_ (by size_fits)
    simp only [raiseNew]
    refine wpAny_bind (wpAny_handled ?_)
    first | rw [show A.in1.handled = none from hh] | rw [hh]
    refine wpAny_bind (wpAny_pure (wpAny_throw ?_))
    exact hE _ _ (((Heap.SameBut.update ..).extBut.push _).push _) ⟨_, Heap.get?_push_size _ rfl, rfl⟩

section
variable {prog : Program} {w : World} {A : Around} {E : Value → Shared → Prop} {s : Shared}
theorem zip_item {z TI TO i1 i2 l1 l2 : Addr} {k : Nat} {xs ys : Array Value} {x y a b : Value} {It1 It2 : Nat → Heap → Prop} {Q : Value → Shared → Prop} (Z1 : ZSrc prog w i1 l1 xs It1) (Z2 : ZSrc prog w i2 l2 ys It2) (D : ZipApart z TI TO i1 i2 l1 l2)
    (hz : IsZip s.heap z TI TO .none) (hTI : IsPair s.heap TI (.ref i1) (.ref i2)) (hTO : IsPair s.heap TO a b) (h1 : It1 k s.heap) (h2 : It2 k s.heap) (hx : xs[k]? = some x) (hy : ys[k]? = some y)
    (hQ : ∀ h', IsZip h' z TI TO (rawInt s.heap.objs.size) → IsPair h' TO x y → It1 (k + 1) h' → It2 (k + 1) h' → IsPair h' s.heap.objs.size x y →
      (∀ c o, c ≠ z → c ≠ TO → c ≠ i1 → c ≠ i2 → s.heap.get? c = some o → h'.get? c = some o) → Q (.ref s.heap.objs.size) { s with heap := h' }) :
    wpAny (model prog w) A (Builtin.«zip.__next__» ⟨[.ref z], []⟩) (fun fin s' => ∃ v, fin = .done (.ret v) ∧ Q v s') E s := by
  show wpAny _ _ (field (.ref z) 2 >>= _) _ _ _
  refine wpAny_bind (wpAny_field hz rfl (x := .bool false) rfl ?_)
  show wpAny _ _ (field (.ref z) 3 >>= _) _ _ _
  refine wpAny_bind (wpAny_field hz rfl (x := .ref TI) rfl (wpAny_bind (wpAny_seqItems hTI rfl ?_)))
  show wpAny _ _ (Builtin.SmallTypes.ownedTupleIsFree (.ref z) >>= _) _ _ _
  refine wpAny_bind ?_
  unfold Builtin.SmallTypes.ownedTupleIsFree
  refine wpAny_bind (wpAny_field hz rfl (x := .none) rfl (wpAny_pure ?_))
  simp only [if_true]
  refine wpAny_bind (wpAny_rule (wpAny_bind (wpAny_field hz rfl (x := .ref TO) rfl (wpAny_bind (wpAny_setField_rec hz (by simp) fun H1 z1 b1 => ?_)))))
  replace z1 : IsZip H1 z TI TO .ellipsis := z1
  have u1 := b1.extBut
  refine wpAny_bind ?_
  simp only [List.zipIdx_cons, List.zipIdx_nil, List.forIn_cons, List.forIn_nil]
  refine wpAny_bind (wpAny_bind (wpAny_onRaise ?_))
  show wpAny _ _ (Builtin.SmallTypes.nextOf (.ref i1) >>= _) _ _ _
  refine wpAny_bind (Z1.next _ _ _ _ k x (Z1.keep _ _ _ h1 (fun o => u1 _ o D.i1z) fun o => u1 _ o D.l1z) hx D.l1i1 fun H2 s2 b2 => wpAny_pure ?_)
  have u2 := b2.extBut
  have p2 : IsPair H2 TO a b := u2 _ _ D.TOi1 (u1 _ _ D.TOz hTO)
  refine wpAny_bind (wpAny_seqItems p2 rfl (wpAny_bind (wpAny_updateSeq_pair p2 fun H3 p3 b3 => ?_)))
  replace p3 : IsPair H3 TO x b := p3
  have u3 := b3.extBut
  refine wpAny_bind (wpAny_letGo (wpAny_pure (wpAny_bind (wpAny_bind (wpAny_onRaise ?_)))))
  show wpAny _ _ (Builtin.SmallTypes.nextOf (.ref i2) >>= _) _ _ _
  refine wpAny_bind (Z2.next _ _ _ _ k y (Z2.keep _ _ _ h2 (fun o e => u3 _ o D.TOi2.symm (u2 _ o D.i12.symm (u1 _ o D.i2z e))) fun o e => u3 _ o D.l2TO (u2 _ o D.l2i1 (u1 _ o D.l2z e))) hy D.l2i2 fun H4 s4 b4 => wpAny_pure ?_)
  have u4 := b4.extBut
  have p4 : IsPair H4 TO x b := u4 _ _ D.TOi2 p3
  refine wpAny_bind (wpAny_seqItems p4 rfl (wpAny_bind (wpAny_updateSeq_pair p4 fun H5 p5 b5 => ?_)))
  replace p5 : IsPair H5 TO x y := p5
  have u5 := b5.extBut
  refine wpAny_bind (wpAny_letGo (wpAny_pure (wpAny_pure (wpAny_bind (wpAny_seqItems p5 rfl (wpAny_bind (wpAny_newTuple ?_)))))))
  have hsz : H5.objs.size = s.heap.objs.size := by rw [b5.1, b4.1, b3.1, b2.1, b1.1]
  have z5 : IsZip H5 z TI TO .ellipsis := u5 _ _ D.TOz.symm (u4 _ _ D.i2z.symm (u3 _ _ D.TOz.symm (u2 _ _ D.i1z.symm z1)))
  have w1 : It1 (k + 1) H5 := Z1.keep _ _ _ s2 (fun o e => u5 _ o D.TOi1.symm (u4 _ o D.i12 (u3 _ o D.TOi1.symm e))) fun o e => u5 _ o D.l1TO (u4 _ o D.l1i2 (u3 _ o D.l1TO e))
  have w2 : It2 (k + 1) H5 := Z2.keep _ _ _ s4 (fun o e => u5 _ o D.TOi2.symm e) fun o e => u5 _ o D.l2TO e
  show wpAny _ _ (Builtin.SmallTypes.ownedTupleHandOut (.ref z) (.ref H5.objs.size) >>= _) _ _ _
  refine wpAny_bind ?_
  unfold Builtin.SmallTypes.ownedTupleHandOut
  have z6 : IsZip (H5.push { cls := .type "tuple", data := .seq #[x, y] }) z TI TO .ellipsis := Heap.get?_push_of_some _ z5
  refine wpAny_bind (wpAny_setField_rec z6 (by simp) fun H7 z7 b7 => wpAny_setField_rec (show IsZip H7 z TI TO (rawInt H5.objs.size) from z7) (by simp) fun H8 z8 b8 => ?_)
  replace z8 : IsZip H8 z TI TO (rawInt H5.objs.size) := z8
  have up : ∀ c o, c ≠ z → H5.get? c = some o → H8.get? c = some o := fun c o c1 e => b8.extBut _ _ c1 (b7.extBut _ _ c1 (Heap.get?_push_of_some _ e))
  have hne : H5.objs.size ≠ z := Nat.ne_of_gt (Heap.lt_size z5)
  have hT : IsPair H8 H5.objs.size x y := b8.extBut _ _ hne (b7.extBut _ _ hne (Heap.get?_push_size _ rfl))
  rw [hsz] at z8 hT
  refine wpAny_pure ⟨_, rfl, ?_⟩
  show Q (.ref H5.objs.size) _
  rw [hsz]
  exact hQ H8 z8 (up _ _ D.TOz p5) (Z1.keep _ _ _ w1 (fun o => up _ o D.i1z) fun o => up _ o D.l1z) (Z2.keep _ _ _ w2 (fun o => up _ o D.i2z) fun o => up _ o D.l2z) hT
    fun c o c1 c2 c3 c4 e => up c o c1 (u5 _ o c2 (u4 _ o c4 (u3 _ o c2 (u2 _ o c3 (u1 _ o c1 e)))))

theorem zip_stop {z TI TO i1 i2 l1 l2 : Addr} {k : Nat} {xs : Array Value} {a b : Value} {It1 : Nat → Heap → Prop} {Q : Fin → Shared → Prop} (hh : A.handled = none) (Z1 : ZSrc prog w i1 l1 xs It1) (D : ZipApart z TI TO i1 i2 l1 l2)
    (hz : IsZip s.heap z TI TO .none) (hTI : IsPair s.heap TI (.ref i1) (.ref i2)) (hTO : IsPair s.heap TO a b) (h1 : It1 k s.heap) (hx : xs[k]? = none)
    (hE : ∀ h' e, (∀ c o, c ≠ z → c ≠ TO → c ≠ i1 → c ≠ i2 → s.heap.get? c = some o → h'.get? c = some o) → (∃ o, h'.get? e = some o ∧ o.cls = .type "StopIteration") → E (.ref e) { s with heap := h' }) :
    wpAny (model prog w) A (Builtin.«zip.__next__» ⟨[.ref z], []⟩) Q E s := by
  show wpAny _ _ (field (.ref z) 2 >>= _) _ _ _
  refine wpAny_bind (wpAny_field hz rfl (x := .bool false) rfl ?_)
  show wpAny _ _ (field (.ref z) 3 >>= _) _ _ _
  refine wpAny_bind (wpAny_field hz rfl (x := .ref TI) rfl (wpAny_bind (wpAny_seqItems hTI rfl ?_)))
  show wpAny _ _ (Builtin.SmallTypes.ownedTupleIsFree (.ref z) >>= _) _ _ _
  refine wpAny_bind ?_
  unfold Builtin.SmallTypes.ownedTupleIsFree
  refine wpAny_bind (wpAny_field hz rfl (x := .none) rfl (wpAny_pure ?_))
  simp only [if_true]
  refine wpAny_bind (wpAny_rule (wpAny_bind (wpAny_field hz rfl (x := .ref TO) rfl (wpAny_bind (wpAny_setField_rec hz (by simp) fun H1 z1 b1 => ?_)))))
  replace z1 : IsZip H1 z TI TO .ellipsis := z1
  have u1 := b1.extBut
  refine wpAny_bind ?_
  simp only [List.zipIdx_cons, List.zipIdx_nil, List.forIn_cons, List.forIn_nil]
  refine wpAny_bind (wpAny_bind (wpAny_onRaise ?_))
  show wpAny _ _ (Builtin.SmallTypes.nextOf (.ref i1) >>= _) _ _ _
  refine wpAny_bind (Z1.stop _ _ _ _ k hh (Z1.keep _ _ _ h1 (fun o => u1 _ o D.i1z) fun o => u1 _ o D.l1z) hx fun H2 e u2 he => ?_)
  obtain ⟨oe, hoe, hce⟩ := he
  have z2 : IsZip H2 z TI TO .ellipsis := u2 _ _ D.i1z.symm z1
  have hez : e ≠ z := fun q => by subst q; rw [z2] at hoe; cases hoe; simp at hce
  exact wpAny_setField_rec z2 (by simp) fun H3 _ b3 => hE H3 e (fun c o c1 _ c3 _ q => b3.extBut _ _ c1 (u2 _ _ c3 (u1 _ _ c1 q))) ⟨oe, b3.extBut _ _ hez hoe, hce⟩
end
end Mine
namespace Mine
open PySem PySem.W PyProof.Rows

noncomputable def zipAV (xs ys : List AV) : List AV := List.zipWith (fun a b => .tup [a, b]) xs ys
theorem zipAV_get {xs ys : List AV} {i : Nat} {a : AV} (h : (zipAV xs ys)[i]? = some a) : ∃ x y, xs[i]? = some x ∧ ys[i]? = some y ∧ a = .tup [x, y] := by
  unfold zipAV at h
  rw [List.getElem?_zipWith] at h
  cases q : xs[i]? with
  | none => rw [q] at h; cases h
  | some x =>
    cases q2 : ys[i]? with
    | none => rw [q, q2] at h; cases h
    | some y => rw [q, q2] at h; cases h; exact ⟨x, y, rfl, rfl, rfl⟩

section
variable {c : Cx} {d : Nat} {F : Fm} {le : LE} {μ : MH} {p : Pos}

structure ZIn (c : Cx) (a : AV) (vs : List AV) (i l : Addr) (J : Nat → Heap → Prop) (It : Array Value → Nat → Heap → Prop) : Prop where
  keep : ∀ k h h', J k h → (∀ o, h.get? i = some o → h'.get? i = some o) → J k h'
  here : ∀ k h, J k h → ∃ o, h.get? i = some o
  up : ∀ g μ h k, Rel c g μ h → VR c g a (.ref l) → J k h → ∃ xs, VRs c g vs xs.toList ∧ ZSrc c.prog c.w i l xs (It xs) ∧ It xs k h
  down : ∀ xs k h, It xs k h → J k h
theorem zin_list {vs : List AV} {i l : Addr} : ZIn c (.lst vs) vs i l (fun k h => h.IsListIter i l k) (fun xs k h => h.IsListIter i l k ∧ h.IsList l xs) where
  keep := fun k h h' st k1 => let ⟨o, ho, r⟩ := st; ⟨o, k1 o ho, r⟩
  here := fun k h st => let ⟨o, ho, _⟩ := st; ⟨o, ho⟩
  up := fun g μ h k R hv st => by
    obtain ⟨a', o, xs, n, e0, e1, e2, e3, e4⟩ := lst_inv hv
    cases e0
    exact ⟨xs, e4, zsrc_list, st, ⟨_, R.sub _ _ e1, e2, _, e3⟩⟩
  down := fun xs k h st => st.1
theorem zin_tup {vs : List AV} {i l : Addr} : ZIn c (.tup vs) vs i l (fun k h => h.IsTupleIter i l k) (fun xs k h => h.IsTupleIter i l k ∧ h.IsTuple l xs) where
  keep := fun k h h' st k1 => let ⟨o, ho, r⟩ := st; ⟨o, k1 o ho, r⟩
  here := fun k h st => let ⟨o, ho, _⟩ := st; ⟨o, ho⟩
  up := fun g μ h k R hv st => by
    obtain ⟨a', o, xs, n, e0, e1, e2, e3, e4⟩ := tup_inv hv
    cases e0
    exact ⟨xs, e4, zsrc_tuple, st, ⟨_, R.sub _ _ e1, e2, _, e3⟩⟩
  down := fun xs k h st => st.1

theorem wk_zip {elts : List Expr} {kk : Nat} {tp : Pos} {z TI TO i1 i2 l1 l2 : Addr} {a1 a2 : AV} {vs ws : List AV} {J1 J2 : Nat → Heap → Prop} {It1 It2 : Array Value → Nat → Heap → Prop} (Z1 : ZIn c a1 vs i1 l1 J1 It1) (Z2 : ZIn c a2 ws i2 l2 J2 It2) (D : ZipApart z TI TO i1 i2 l1 l2) (hlen : vs.length ≤ ws.length) :
    Wk c (.Tuple elts kk tp) z [z, TI, TO, i1, i2] (zipAV vs ws) (fun i g h => IsZip h z TI TO .none ∧ IsPair h TI (.ref i1) (.ref i2) ∧ (∃ a b, IsPair h TO a b) ∧ J1 i h ∧ J2 i h ∧ VR c g a1 (.ref l1) ∧ VR c g a2 (.ref l2)) where
  frame := fun i g h g' h' st hg hk => by
    obtain ⟨q1, q2, ⟨a, b, q3⟩, q4, q5, q6, q7⟩ := st
    exact ⟨hk z (by simp) _ q1, hk TI (by simp) _ q2, ⟨a, b, hk TO (by simp) _ q3⟩, Z1.keep _ _ _ q4 fun o e => hk i1 (by simp) o e, Z2.keep _ _ _ q5 fun o e => hk i2 (by simp) o e, q6.mono hg, q7.mono hg⟩
  item := fun A i g μ s E Q x hh R P st hx k => by
    obtain ⟨q1, q2, ⟨a, b, q3⟩, q4, q5, q6, q7⟩ := st
    obtain ⟨u, v, hu, hv, rfl⟩ := zipAV_get hx
    obtain ⟨xs, r1, S1, t1⟩ := Z1.up _ _ _ _ R q6 q4
    obtain ⟨ys, r2, S2, t2⟩ := Z2.up _ _ _ _ R q7 q5
    obtain ⟨vu, eu, wu⟩ := r1.get hu
    obtain ⟨vv, ev, wv⟩ := r2.get hv
    have hT : s.TypeIs (.ref z) "zip" := ⟨_, q1, rfl⟩
    unfold pyNext
    refine wpAny_bind (wpAny_attempt (wpAny_callSpecial?_slot (name := Str.ofString "__next__") hT PySem.F.slot_zip_next (wpAny_call_entry PySem.F.slot_zip_next hT PySem.F.entry_zip_next
      (zip_item S1 S2 D q1 q2 q3 t1 t2 (by rw [← Array.getElem?_toList]; exact eu) (by rw [← Array.getElem?_toList]; exact ev) fun h' b1 b2 b3 b4 b5 b6 => wpAny_pure ?_) (PySem.F.args_zip_next_1 _))))
    show wpAny _ _ (letOwnedTupleGo _ _ _) _ _ _
    refine wpAny_letOwnedTupleGo_zip b1 fun h'' z'' bs => ?_
    have us := bs.extBut
    have hN : s.heap.get? s.heap.objs.size = none := get_end _
    have ne : ∀ b o, s.heap.get? b = some o → s.heap.objs.size ≠ b := fun b o e q => by rw [← q, hN] at e; cases e
    have hTup : h''.get? s.heap.objs.size = some (tupObj [vu, vv]) := us _ _ (ne _ _ q1) b5
    have hk' : ∀ b o, ¬ inL [z, TI, TO, i1, i2] b → s.heap.get? b = some o → h''.get? b = some o := fun b o hb e =>
      us b o (fun q => hb (by simp [q])) (b6 b o (fun q => hb (by simp [q])) (fun q => hb (by simp [q])) (fun q => hb (by simp [q])) (fun q => hb (by simp [q])) e)
    have st' : Step (inL [z, TI, TO, i1, i2]) g μ s g μ { s with heap := h'' } := Step.privE (t := s.toks) hk'
    have hP : ∀ a, inL [z, TI, TO, i1, i2] a → g a = none ∧ μ a = none := fun a ha => ⟨(P a ha).1, (P a ha).2.1⟩
    have R' : Rel c g μ h'' := R.privE hP hk'
    have gT := R.fresh_g hN
    have mT := R.fresh_mu hN
    have w2 : IsPair h'' TI (.ref i1) (.ref i2) := us _ _ D.TIz (b6 _ _ D.TIz D.TITO D.TIi1 D.TIi2 q2)
    have w3 : IsPair h'' TO vu vv := us _ _ D.TOz b2
    have w4 : J1 (i + 1) h'' := Z1.keep _ _ _ (Z1.down _ _ _ b3) fun o => us _ o D.i1z
    have w5 : J2 (i + 1) h'' := Z2.keep _ _ _ (Z2.down _ _ _ b4) fun o => us _ o D.i2z
    refine k _ (updG g s.heap.objs.size _) { s with heap := h'' } (st'.promoteX (o := tupObj [vu, vv]) hN gT) (R'.promoteG gT mT hTup) ?_ ?_ ?_
    · exact .tup (updG_self _ _ _) rfl rfl (.cons (wu.mono (updG_grows gT)) (.cons (wv.mono (updG_grows gT)) .nil))
    · intro b hb
      obtain ⟨p1, p2, o, p3⟩ := P b hb
      refine ⟨?_, p2, ?_⟩
      · unfold updG; rw [if_neg (Ne.symm (ne _ _ p3)), p1]
      · have hb5 : b = z ∨ b = TI ∨ b = TO ∨ b = i1 ∨ b = i2 := by simpa using hb
        rcases hb5 with rfl | rfl | rfl | rfl | rfl
        · exact ⟨_, z''⟩
        · exact ⟨_, w2⟩
        · exact ⟨_, w3⟩
        · exact Z1.here _ _ w4
        · exact Z2.here _ _ w5
    · exact ⟨z'', w2, ⟨_, _, w3⟩, w4, w5, q6.mono (updG_grows gT), q7.mono (updG_grows gT)⟩
  done := fun A g μ s E Q hh R P st k => by
    obtain ⟨q1, q2, ⟨a, b, q3⟩, q4, q5, q6, q7⟩ := st
    obtain ⟨xs, r1, S1, t1⟩ := Z1.up _ _ _ _ R q6 q4
    have hl : (zipAV vs ws).length = vs.length := by unfold zipAV; rw [List.length_zipWith]; omega
    rw [hl] at t1
    have hT : s.TypeIs (.ref z) "zip" := ⟨_, q1, rfl⟩
    unfold pyNext
    refine wpAny_bind (wpAny_attempt (wpAny_callSpecial?_slot (name := Str.ofString "__next__") hT PySem.F.slot_zip_next (wpAny_call_entry PySem.F.slot_zip_next hT PySem.F.entry_zip_next
      (zip_stop hh S1 D q1 q2 q3 t1 (by rw [← Array.getElem?_toList]; exact r1.get_none) fun h' e hk he => ?_) (PySem.F.args_zip_next_1 _))))
    obtain ⟨o, ho, hc⟩ := he
    refine wpAny_bind (wpAny_isInstance (T := "StopIteration") (b := true) ⟨o, ho, hc⟩ isSubtype_stop ?_)
    have hs : ∀ b o, ¬ inL [z, TI, TO, i1, i2] b → s.heap.get? b = some o → h'.get? b = some o := fun b o hb e => hk b o (fun q => hb (by simp [q])) (fun q => hb (by simp [q])) (fun q => hb (by simp [q])) (fun q => hb (by simp [q])) e
    exact wpAny_pure ⟨rfl, k { s with heap := h' } (Step.privE (t := s.toks) hs) (R.privE (fun b hb => ⟨(P b hb).1, (P b hb).2.1⟩) hs)⟩
  self := fun A i g μ s E Q R P st k => wpAny_pyIter_zip st.1 k

theorem meets_zip_tl (l1 l2 : Addr) (xs ys : Array Value) :
    Meets (Builtin.«zip.__new__» ⟨[.type "zip", .ref l1, .ref l2], []⟩) (fun _ R s => s.heap.IsTuple l1 xs ∧ s.heap.IsList l2 ys ∧
      R (.ok (.ret (.ref (s.heap.objs.size + 4)))) { s with heap := ((((s.heap.push { cls := .type "tuple_iterator", data := .fields #[.ref l1, .int 0 0] }).push { cls := .type "list_iterator", data := .fields #[.ref l2, .int 0 0] }).push
        { cls := .type "tuple", data := .seq #[.ref s.heap.objs.size, .ref (s.heap.objs.size + 1)] }).push { cls := .type "tuple", data := .seq #[.none, .none] }).push { cls := .type "zip", data := .fields #[.none, .bool false, .bool false, .ref (s.heap.objs.size + 2), .ref (s.heap.objs.size + 3)] } }) :=
  .of_wp fun prog w A R s h => by
    obtain ⟨hp, g, d, tk, os⟩ := s; obtain ⟨hl1, hl2, h⟩ := h
    have hsub := sub_zip
    have hL1 : Heap.IsTuple (Shared.heap ⟨hp, g, d, tk, os⟩) l1 xs := hl1
    have hL2 : Heap.IsList (Shared.heap ⟨hp.push { cls := .type "tuple_iterator", data := .fields #[.ref l1, .int 0 0] }, g, d, tk, os⟩) l2 ys := Heap.IsList.push hl2 _
    wp_walk using wpAny_pyIter_tuple hL1, wpAny_pyIter_list hL2
    refine ⟨_, rfl, ?_⟩
    simp only [Heap.size_push, Nat.add_assoc, Nat.reduceAdd]
    exact h

theorem zip_state {g : GH} {s : Shared} {h' : Heap} {l1 l2 : Addr} {a1 a2 : AV} {vs ws : List AV} {J1 J2 : Nat → Heap → Prop} {It1 It2 : Array Value → Nat → Heap → Prop} {elts : List Expr} {k : Nat} {tp : Pos} {Q : List AV → MH → Prop} {A : Around} {E : Value → Shared → Prop}
    (Z1 : ZIn c a1 vs s.heap.objs.size l1 J1 It1) (Z2 : ZIn c a2 ws (s.heap.objs.size + 1) l2 J2 It2) (hR : Rel c g μ s.heap) (h1 : VR c g a1 (.ref l1)) (h2 : VR c g a2 (.ref l2)) (hl1 : ∃ o, s.heap.get? l1 = some o) (hl2 : ∃ o, s.heap.get? l2 = some o) (hlen : vs.length ≤ ws.length)
    (hz : IsZip h' (s.heap.objs.size + 4) (s.heap.objs.size + 2) (s.heap.objs.size + 3) .none) (hTI : IsPair h' (s.heap.objs.size + 2) (.ref s.heap.objs.size) (.ref (s.heap.objs.size + 1))) (hTO : IsPair h' (s.heap.objs.size + 3) .none .none)
    (j1 : J1 0 h') (j2 : J2 0 h') (hk : ∀ c o, s.heap.get? c = some o → h'.get? c = some o) (hq : Q (zipAV vs ws) μ) :
    wpAny (model c.prog c.w) A (pyIter (.ref (s.heap.objs.size + 4))) (fun it s₂ =>
    ItR c (.Tuple elts k tp) g μ s Q it s₂) E { s with heap := h' } := by
  refine wpAny_pyIter_zip hz ?_
  obtain ⟨o1, ho1⟩ := hl1
  obtain ⟨o2, ho2⟩ := hl2
  have nn : ∀ j, s.heap.get? (s.heap.objs.size + j) = none := fun j => get_above (Nat.le_add_right _ _)
  have n0 : s.heap.get? s.heap.objs.size = none := get_end _
  refine ⟨_, [s.heap.objs.size + 4, s.heap.objs.size + 2, s.heap.objs.size + 3, s.heap.objs.size, s.heap.objs.size + 1], _, _, g, μ, rfl, wk_zip Z1 Z2 (zipApart_new (Heap.lt_size ho1) (Heap.lt_size ho2)) hlen, Step.ext (t := s.toks) hk, hR.ext hk, fun b hb => ?_, fun b hb => ?_,
    ⟨hz, hTI, ⟨_, _, hTO⟩, j1, j2, h1, h2⟩, hq⟩
  · have hb5 : b = s.heap.objs.size + 4 ∨ b = s.heap.objs.size + 2 ∨ b = s.heap.objs.size + 3 ∨ b = s.heap.objs.size ∨ b = s.heap.objs.size + 1 := by simpa using hb
    rcases hb5 with rfl | rfl | rfl | rfl | rfl
    · exact ⟨hR.fresh_g (nn _), hR.fresh_mu (nn _), _, hz⟩
    · exact ⟨hR.fresh_g (nn _), hR.fresh_mu (nn _), _, hTI⟩
    · exact ⟨hR.fresh_g (nn _), hR.fresh_mu (nn _), _, hTO⟩
    · obtain ⟨o, e⟩ := Z1.here _ _ j1; exact ⟨hR.fresh_g n0, hR.fresh_mu n0, _, e⟩
    · obtain ⟨o, e⟩ := Z2.here _ _ j2; exact ⟨hR.fresh_g (nn _), hR.fresh_mu (nn _), _, e⟩
  · have hb5 : b = s.heap.objs.size + 4 ∨ b = s.heap.objs.size + 2 ∨ b = s.heap.objs.size + 3 ∨ b = s.heap.objs.size ∨ b = s.heap.objs.size + 1 := by simpa using hb
    rcases hb5 with rfl | rfl | rfl | rfl | rfl <;> first | exact nn _ | exact n0

theorem callI_zip_ll {elts : List Expr} {k : Nat} {tp : Pos} {vs ws : List AV} {Q : List AV → MH → Prop} (hlen : vs.length ≤ ws.length) (h : Q (zipAV vs ws) μ) : CallI c d (.Tuple elts k tp) (.raw (.type "zip")) [.lst vs, .lst ws] μ Q := .mk fun A g s E vf us hA hR hf hv => by
  cases hf
  cases hv with
  | cons h1 h2 =>
    cases h2 with
    | cons h2 h3 =>
      cases h3
      have g1 := h1; have g2 := h2
      obtain ⟨l1, o1, xs, n1, rfl, e1, e2, e3, e4⟩ := lst_inv h1
      obtain ⟨l2, o2, ys, n2, rfl, f1, f2, f3, f4⟩ := lst_inv h2
      exact call_zip_2 ⟨_, hR.sub _ _ e1, e2, _, e3⟩ ⟨_, hR.sub _ _ f1, f2, _, f3⟩ fun h' hz hTI hTO j1 j2 hsz hk => zip_state zin_list zin_list hR g1 g2 ⟨_, hR.sub _ _ e1⟩ ⟨_, hR.sub _ _ f1⟩ hlen hz hTI hTO j1 j2 hk h
theorem callI_zip_tl {elts : List Expr} {k : Nat} {tp : Pos} {vs ws : List AV} {Q : List AV → MH → Prop} (hlen : vs.length ≤ ws.length) (h : Q (zipAV vs ws) μ) : CallI c d (.Tuple elts k tp) (.raw (.type "zip")) [.tup vs, .lst ws] μ Q := .mk fun A g s E vf us hA hR hf hv => by
  cases hf
  cases hv with
  | cons h1 h2 =>
    cases h2 with
    | cons h2 h3 =>
      cases h3
      have g1 := h1; have g2 := h2
      obtain ⟨l1, o1, xs, n1, rfl, e1, e2, e3, e4⟩ := tup_inv h1
      obtain ⟨l2, o2, ys, n2, rfl, f1, f2, f3, f4⟩ := lst_inv h2
      have z1 : s.heap.IsTuple l1 xs := ⟨_, hR.sub _ _ e1, e2, _, e3⟩
      have z2 : s.heap.IsList l2 ys := ⟨_, hR.sub _ _ f1, f2, _, f3⟩
      refine callType_new PySem.F.called_zip (by decide) (PySem.F.typeCall_zip_2 _ _) (PySem.F.newCall_zip_2 _ _) (fun obj => PySem.F.args_object_init_3 obj _ _) PySem.F.entry_zip_new (meets_zip_tl l1 l2 xs ys) ⟨z1, z2, ?_⟩
      have kp : ∀ (h : Heap) (o1 o2 o3 o4 o5 : Obj), o1.isFreed = false → o2.isFreed = false → o3.isFreed = false → o4.isFreed = false → o5.isFreed = false →
          (((((h.push o1).push o2).push o3).push o4).push o5).get? h.objs.size = some o1 ∧ (((((h.push o1).push o2).push o3).push o4).push o5).get? (h.objs.size + 1) = some o2 ∧ (((((h.push o1).push o2).push o3).push o4).push o5).get? (h.objs.size + 2) = some o3 ∧
          (((((h.push o1).push o2).push o3).push o4).push o5).get? (h.objs.size + 3) = some o4 ∧ (((((h.push o1).push o2).push o3).push o4).push o5).get? (h.objs.size + 4) = some o5 := by
        intro h o1 o2 o3 o4 o5 f1 f2 f3 f4 f5
        have s1 : (h.push o1).objs.size = h.objs.size + 1 := Heap.size_push ..
        have s2 : ((h.push o1).push o2).objs.size = h.objs.size + 2 := by rw [Heap.size_push, s1]
        have s3 : (((h.push o1).push o2).push o3).objs.size = h.objs.size + 3 := by rw [Heap.size_push, s2]
        have s4 : ((((h.push o1).push o2).push o3).push o4).objs.size = h.objs.size + 4 := by rw [Heap.size_push, s3]
        refine ⟨?_, ?_, ?_, ?_, ?_⟩
        · exact push_keeps _ _ _ _ (push_keeps _ _ _ _ (push_keeps _ _ _ _ (push_keeps _ _ _ _ (Heap.get?_push_size _ f1))))
        · rw [← s1]; exact push_keeps _ _ _ _ (push_keeps _ _ _ _ (push_keeps _ _ _ _ (Heap.get?_push_size _ f2)))
        · rw [← s2]; exact push_keeps _ _ _ _ (push_keeps _ _ _ _ (Heap.get?_push_size _ f3))
        · rw [← s3]; exact push_keeps _ _ _ _ (Heap.get?_push_size _ f4)
        · rw [← s4]; exact Heap.get?_push_size _ f5
      obtain ⟨k1, k2, k3, k4, k5⟩ := kp s.heap { cls := .type "tuple_iterator", data := .fields #[.ref l1, .int 0 0] } { cls := .type "list_iterator", data := .fields #[.ref l2, .int 0 0] } { cls := .type "tuple", data := .seq #[.ref s.heap.objs.size, .ref (s.heap.objs.size + 1)] }
        { cls := .type "tuple", data := .seq #[.none, .none] } { cls := .type "zip", data := .fields #[.none, .bool false, .bool false, .ref (s.heap.objs.size + 2), .ref (s.heap.objs.size + 3)] } rfl rfl rfl rfl rfl
      refine ⟨⟨_, k5, rfl⟩, ?_⟩
      exact zip_state zin_tup zin_list hR g1 g2 ⟨_, hR.sub _ _ e1⟩ ⟨_, hR.sub _ _ f1⟩ hlen k5 k3 k4 ⟨_, k1, rfl, rfl⟩ ⟨_, k2, rfl, rfl⟩ (fun b o e => push_keeps _ _ _ _ (push_keeps _ _ _ _ (push_keeps _ _ _ _ (push_keeps _ _ _ _ (push_keeps _ _ _ _ e))))) h
end
end Mine
namespace Mine
open PySem PySem.W PyProof.Rows

theorem entry_upd_loop : entryFor table "dict.update.loop" = some Builtin.«dict.update.loop» := entryFor_of_tree (by kernel_rfl)
theorem miss_keys : typeLookup (.type "list") (Str.ofString "keys") = pure none := by rw [typeLookup_type, builtinLookup_eq_fast]; kernel_rfl

section
variable {prog : Program} {w : World} {A : Around} {E : Value → Shared → Prop} {s : Shared}
theorem no_keys {a : Addr} {xs : Array Value} {k : Nat} {Q : Option Value → Shared → Prop} (hx : s.heap.get? a = some (lstObj xs k)) (hA : A.handled = none)
    (h : ∀ h' tk, (∀ b o, s.heap.get? b = some o → h'.get? b = some o) → Q none { s with heap := h', toks := tk }) : wpAny (model prog w) A (getAttr? (.ref a) (Str.ofString "keys")) Q E s := by
  obtain ⟨hp, g, d, tk, os⟩ := s
  have hT : ∀ tk', (⟨hp, g, d, tk', os⟩ : Shared).TypeIs (.ref a) "list" := fun _ => ⟨_, hx, rfl⟩
  have f1 := sub_AttributeError
  have f3 := PySem.F.slot_list_getattribute.lookup
  have f4 := PySem.F.slot_list_getattribute.bind (.ref a)
  have f5 := am_list_getattr_none
  unfold getAttr? getAttrBy? getAttrBy
  repeat (any_goals (first | assumption | exact hT _ | ((with_reducible show wpAny _ _ (call (Value.builtin "list.__getattribute__") _ _) _ _ _); refine call_meets PySem.F.slot_list_getattribute (hT _) am_entry_list_getattribute (PySem.F.args_list_getattribute_2 _ _) (meets_getattribute_miss_list a xs k #[] (Str.ofString "keys") _ miss_keys (by decide) (by decide)) ⟨hx, hA, fun h' tk' e hx' => ?_⟩) | wp_step))
  obtain ⟨t', u', he⟩ := hx'.there
  show wpAny _ _ (getattributeRaised _ _ _ _ _ _ _) _ _ _
  unfold getattributeRaised
  repeat (any_goals (first | assumption | wp_step))
  exact h _ _ hx'.keeps
end
end Mine
namespace Mine
open PySem PySem.W PyProof.Rows

noncomputable abbrev KTup (prog : Program) (w : World) := tupleKind (intKind prog w)

structure PairAt (prog : Program) (w : World) (h : Heap) (v : Value) (x : List Int × Addr × Value) : Prop where
  at_ : ∃ pa o n, v = .ref pa ∧ h.get? pa = some o ∧ o.cls = .type "tuple" ∧ o.data = .seq #[.ref x.2.1, x.2.2] n
  key : (KTup prog w).is h x.1 x.2.1
section
variable {prog : Program} {w : World}
theorem upd_loop {I l dd : Addr} {items : Array Value} {ps : List (List Int × Addr × Value)} (hlen : items.size = ps.length) (hsm : ps.length ≤ 1000000) (hnd : (ps.map (·.1)).Nodup) (hIl : l ≠ I) (hdl : l ≠ dd) (hdI : dd ≠ I) :
    ∀ (n i : Nat) (A : Around) (s : Shared) (R : Result → Shared → Prop), i + n = ps.length → A.handled = none → A.units + 10 < cLine → s.heap.IsListIter I l i → s.heap.IsList l items → s.heap.DictOfH (KTup prog w) dd (ps.take i) →
      (∀ (j : Nat) v x, items[j]? = some v → ps[j]? = some x → PairAt prog w s.heap v x) → (∀ (pa : Nat) x, x ∈ ps → x.2.1 ≠ I) → (∀ (j : Nat) (v : Value), items[j]? = some v → v ≠ .ref I ∧ v ≠ .ref dd) →
      (∀ h' tk, (∀ b o, b ≠ I → b ≠ dd → s.heap.get? b = some o → h'.get? b = some o) → h'.DictOfH (KTup prog w) dd ps → R (.ok (.ret .none)) { s with heap := h', toks := tk }) →
      codeAny (model prog w) A (.builtin "dict.update.loop" ⟨[.ref dd, .ref I, rawInt i, .none], []⟩) R s
  | 0, i, A, s, R, hi, hh, hu, hit, hl, hD, hP, hK, hV, hR => by
    refine codeAny_builtin entry_upd_loop ?_
    show wpAny _ _ (pyNext (.ref I) >>= _) _ _ _
    refine wpAny_bind (wpAny_pyNext_list_end (show A.in1.handled = none from hh) hit hl (by rw [Array.getElem?_eq_none]; omega) fun h' he => ?_)
    show wpAny _ _ (Builtin.Dict.addKeywords dd [] >>= _) _ _ _
    refine wpAny_bind (wpAny_pure (wpAny_pure ?_))
    have hi' : i = ps.length := by omega
    rw [hi', List.take_length] at hD
    refine hR h' s.toks (fun b o hb _ e => he b o hb e) ?_
    obtain ⟨o, es, ep, ho, r1, r2, r3, r4, r5⟩ := hD
    refine ⟨o, es, ep, he _ _ hdI ho, r1, r2, r3, fun x hx => ?_, r5⟩
    obtain ⟨o', its, n', e1, e2⟩ := r4 x hx
    exact ⟨o', its, n', he _ _ (hK 0 x hx) e1, e2⟩
  | n + 1, i, A, s, R, hi, hh, hu, hit, hl, hD, hP, hK, hV, hR => by
    have hlt : i < items.size := by omega
    have hlt' : i < ps.length := by omega
    have hx : items[i]? = some items[i] := Array.getElem?_eq_getElem hlt
    have hp : ps[i]? = some ps[i] := List.getElem?_eq_getElem hlt'
    refine codeAny_builtin entry_upd_loop ?_
    show wpAny _ _ (pyNext (.ref I) >>= _) _ _ _
    refine wpAny_bind (wpAny_pyNext_list_item hit hl hx fun h₁ hit₁ hs₁ => ?_)
    obtain ⟨pa, o, k, ev, h1, h2, h3⟩ := (hP i _ _ hx hp).at_
    have hpaI : pa ≠ I := fun q => (hV i _ hx).1 (by rw [ev, q])
    have hpad : pa ≠ dd := fun q => (hV i _ hx).2 (by rw [ev, q])
    have g1 : h₁.get? pa = some o := (hs₁.2 pa hpaI).trans h1
    rw [ev]
    refine wpAny_bind (wpAny_holding ?_)
    refine wpAny_bind ?_
    refine wpAny_tryCatch ?_
    unfold Builtin.Dict.pairItems
    have hT : ({ s with heap := h₁ } : Shared).TypeIs (.ref pa) "tuple" := ⟨o, g1, h2⟩
    refine wpAny_bind (wpAny_typeOf hT ?_)
    rw [if_pos (by decide)]
    refine wpAny_bind (wpAny_seqItems g1 h3 ?_)
    refine wpAny_pure ?_
    show wpAny _ _ (holding [Value.ref (ps[i]).2.1, (ps[i]).2.2] (dictSet dd (.ref (ps[i]).2.1) (ps[i]).2.2)) _ _ _
    refine wpAny_holding ?_
    have hD₁ : ({ s with heap := h₁ } : Shared).heap.DictOfH (KTup prog w) dd (ps.take i) := by
      obtain ⟨o, es, ep, ho, r1, r2, r3, r4, r5⟩ := hD
      refine ⟨o, es, ep, (hs₁.2 dd hdI).trans ho, r1, r2, r3, fun x hx => ?_, r5⟩
      obtain ⟨o', its, n', e1, e2⟩ := r4 x hx
      exact ⟨o', its, n', (hs₁.2 _ (hK 0 x (List.mem_of_mem_take hx))).trans e1, e2⟩
    have hkey : (KTup prog w).is h₁ (ps[i]).1 (ps[i]).2.1 := by
      obtain ⟨o', its, n', e1, e2⟩ := (hP i _ _ hx hp).key
      exact ⟨o', its, n', (hs₁.2 _ (hK 0 _ (List.getElem_mem hlt'))).trans e1, e2⟩
    refine wpAny_dictSet_heap (knd := KTup prog w) (by show A.in1.units < cLine; simp only [Around.in1_units]; omega) hkey hD₁ (fun h₂ hD₂ hs₂ => ?_) (by show _ ≤ 16777216; rw [List.length_take]; omega)
    refine wpAny_pure ⟨Code.quiet_builtin _ (by decide +kernel), ?_⟩
    have hnew : atKey (ps.take i) (ps[i]).1 = none := by
      refine atKey_none_of_get fun j p hj => ?_
      have hji : j < i := by
        have := (List.getElem?_eq_some_iff.mp hj).1
        rw [List.length_take] at this; omega
      rw [List.getElem?_take_of_lt hji] at hj
      have e1 : (ps.map (·.1))[j]? = some (ps[i]).1 := by rw [List.getElem?_map, hj]; rfl
      have e2 : (ps.map (·.1))[i]? = some (ps[i]).1 := by rw [List.getElem?_map, hp]; rfl
      have := (List.getElem?_inj (List.getElem?_eq_some_iff.mp e1).1 hnd).mp (e1.trans e2.symm)
      omega
    have htake : storedH (ps.take i) (ps[i]).1 (ps[i]).2.1 (ps[i]).2.2 = ps.take (i + 1) := by
      rw [storedH_new hnew, List.take_succ, hp]; rfl
    rw [htake] at hD₂
    have kp : ∀ b o, b ≠ I → b ≠ dd → s.heap.get? b = some o → h₂.get? b = some o := fun b o hb hb' e => (hs₂.2 b hb').trans ((hs₁.2 b hb).trans e)
    have e1 : ((i : Int) + 1) = ((i + 1 : Nat) : Int) := by simp
    show codeAny _ A (.builtin "dict.update.loop" ⟨[.ref dd, .ref I, rawInt ((i : Int) + 1), .none], []⟩) _ _
    rw [e1]
    refine upd_loop hlen hsm hnd hIl hdl hdI n (i + 1) A _ R (by omega) hh hu ?_ ?_ hD₂ (fun j v x hj hxj => ?_) hK hV fun h' tk hk hd => hR h' tk (fun b o hb hb' e => hk b o hb hb' (kp b o hb hb' e)) hd
    · obtain ⟨o, ho, r⟩ := hit₁; exact ⟨o, (hs₂.2 I (Ne.symm hdI)).trans ho, r⟩
    · obtain ⟨o, ho, r⟩ := hl; exact ⟨o, kp _ _ hIl hdl ho, r⟩
    · obtain ⟨⟨pa', o', n', q1, q2, q3⟩, q4⟩ := hP j v x hj hxj
      refine ⟨⟨pa', o', n', q1, kp _ _ (fun q => (hV j v hj).1 (by rw [q1, q])) (fun q => (hV j v hj).2 (by rw [q1, q])) q2, q3⟩, ?_⟩
      have hmem : x ∈ ps := List.mem_of_getElem? hxj
      obtain ⟨o', its, n', r1, r2, r3, r4⟩ := q4
      have hxd : x.2.1 ≠ dd := fun q => by
        obtain ⟨od, es, ep, ho, ⟨rc, _⟩, _⟩ := hD
        rw [q, ho] at r1; cases r1
        rw [rc] at r2; injection r2 with q2; exact absurd q2 (by decide)
      exact ⟨o', its, n', kp _ _ (hK 0 x hmem) hxd r1, r2, r3, r4⟩
end
section
variable {c : Cx} {d : Nat} {F : Fm} {le : LE} {μ : MH} {p : Pos}

noncomputable def pairAV (x : List Int × Int) : AV := .tup [.tup (x.1.map .int), .int x.2]
theorem key_items {prog : Program} {w : World} {g : GH} : ∀ {ks : List Int} {vs : List Value}, VRs c g (ks.map .int) vs → ItemsAre (intKind prog w) ks vs
  | [], _, .nil => .nil
  | k :: ks, _, .cons h1 h2 => by
    cases h1
    exact .cons (by simp [intKind, Value.isInt]) (key_items h2)

theorem pairs_at {g : GH} {h : Heap} (hs : ∀ a o, g a = some o → h.get? a = some o) : ∀ {ps : List (List Int × Int)} {vs : List Value}, VRs c g (ps.map pairAV) vs →
    ∃ xs : List (List Int × Addr × Value), xs.map (fun x => (x.1, valInt x.2.2)) = ps.map (fun e => (e.1, some e.2)) ∧ (∀ (j : Nat) v x, vs[j]? = some v → xs[j]? = some x → PairAt c.prog c.w h v x) ∧
      (∀ x ∈ xs, ∃ o items n, g x.2.1 = some o ∧ o.cls = .type "tuple" ∧ o.data = .seq items n ∧ ItemsAre (intKind c.prog c.w) x.1 items.toList) ∧ (∀ v ∈ vs, ∃ a o, v = .ref a ∧ g a = some o)
  | [], _, .nil => ⟨[], rfl, (fun j v x e _ => by simp at e), (fun x hx => by cases hx), (fun v hv => by cases hv)⟩
  | q :: ps, _, .cons (v := v) (vs := us) h1 h2 => by
    obtain ⟨xs, e1, e2, e3, e4⟩ := pairs_at hs h2
    obtain ⟨pa, o, items, n, rfl, f1, f2, f3, f4⟩ := tup_inv h1
    revert f3 f4
    match items with
    | ⟨l⟩ =>
      intro f3 f4
      cases f4 with
      | cons a1 a2 =>
        cases a2 with
        | cons a2 a3 =>
          cases a3
          obtain ⟨ta, o', its, n', rfl, g1, g2, g3, g4⟩ := tup_inv a1
          cases a2 with
          | int k t =>
            have kk := key_items (prog := c.prog) (w := c.w) g4
            refine ⟨(q.1, ta, .int q.2 t) :: xs, ?_, fun j v x hj hx => ?_, fun x hx => ?_, fun v hv => ?_⟩
            · rw [List.map_cons, List.map_cons, e1]; rfl
            · cases j with
              | zero => cases hj; cases hx; exact ⟨⟨pa, o, n, rfl, hs _ _ f1, f2, f3⟩, ⟨o', its, n', hs _ _ g1, g2, g3, kk⟩⟩
              | succ j => exact e2 j v x hj hx
            · rcases List.mem_cons.mp hx with rfl | hx
              · exact ⟨o', its, n', g1, g2, g3, kk⟩
              · exact e3 x hx
            · rcases List.mem_cons.mp hv with rfl | hv
              · exact ⟨pa, o, rfl, f1⟩
              · exact e4 v hv

theorem callW_dict {a : Addr} {tg : Nat} {ps : List (List Int × Int)} {Q : AV → MH → Prop} (hm : μ a = some (.list tg (ps.map pairAV))) (hnd : (ps.map (·.1)).Nodup) (hsm : ps.length ≤ 1000000) (hq : Q (.dct ps) μ) : CallW c (d + 1) (.raw (.type "dict")) [.ref a] μ Q := .mk fun A g s E vf us hA hR hf hv => by
  cases hf
  cases hv with
  | cons h1 h2 =>
    cases h2; cases h1
    obtain ⟨gm, xs, n, e1, e4⟩ := hR.mu _ _ hm
    have old0 : ∀ b o, s.heap.get? b = some o → (s.heap.push emptyDict).get? b = some o := push_keeps _ _
    refine callType_codes (Q₁ := fun obj s₁ => obj = .ref s.heap.objs.size ∧ s₁ = { s with heap := s.heap.push { cls := .type "dict", data := .dict #[] } }) PySem.F.kt_called_dict (PySem.F.kt_typeCall_dict_1 _) PySem.F.entry_dict_init (kt_code_dict_new _ ⟨rfl, rfl⟩) ?_
    rintro obj s₁ ⟨rfl, rfl⟩
    have hnew : (s.heap.push { cls := .type "dict", data := .dict #[] }).DictOfH (KTup c.prog c.w) s.heap.objs.size [] := Heap.DictOfH.new s.heap
    have hT : ({ s with heap := s.heap.push { cls := .type "dict", data := .dict #[] } } : Shared).TypeIs (.ref s.heap.objs.size) "dict" := hnew.typeIs
    refine ⟨hT, PySem.F.args_dict_init_2 _ _, ?_⟩
    unfold Builtin.«dict.__init__»
    refine wpAny_bind ?_
    unfold Builtin.Dict.selfAndRest
    refine wpAny_bind (wpAny_notOrdered_dict hT ?_)
    show wpAny _ _ (pure (s.heap.objs.size, [Value.ref a])) _ _ _
    refine wpAny_pure ?_
    show wpAny _ _ (Builtin.Dict.updateFrom "dict.__init__" s.heap.objs.size (.ref a) [] .none) _ _ _
    unfold Builtin.Dict.updateFrom
    have e1' := old0 _ _ e1
    refine wpAny_bind (wpAny_typeOf (T := "list") ⟨_, e1', rfl⟩ ?_)
    rw [if_pos (by decide)]
    refine wpAny_bind (no_keys e1' (show A.in1.in1.handled = none from hA.hh) fun h₂ tk hk => ?_)
    show wpAny _ _ (if (none : Option Value).isNone = true then _ else _) _ _ _
    rw [if_pos (show (none : Option Value).isNone = true from rfl)]
    refine wpAny_bind (wpAny_rule (wpAny_bind ?_))
    have e2 := hk _ _ e1'
    have hl2 : h₂.IsList a xs := ⟨_, e2, rfl, _, rfl⟩
    refine wpAny_pyIter_list (s := { s with heap := h₂, toks := tk }) hl2 ?_
    refine wpAny_pure ?_
    refine And.intro (Code.quiet_builtin _ (by decide +kernel)) ?_
    have kp : ∀ b o, s.heap.get? b = some o → h₂.get? b = some o := fun b o e => hk b o (old0 b o e)
    have k3 : ∀ b o, h₂.get? b = some o → (h₂.push { cls := .type "list_iterator", data := .fields #[.ref a, .int 0 0] }).get? b = some o := push_keeps _ _
    have dd2 : h₂.get? s.heap.objs.size = some emptyDict := hk _ _ (Heap.get?_push_size _ rfl)
    have hII : (h₂.push { cls := .type "list_iterator", data := .fields #[.ref a, .int 0 0] }).get? h₂.objs.size = some { cls := .type "list_iterator", data := .fields #[.ref a, .int 0 0] } := Heap.get?_push_size _ rfl
    have hIn : h₂.get? h₂.objs.size = none := get_end _
    have hdI : s.heap.objs.size ≠ h₂.objs.size := fun q => by rw [← q, dd2] at hIn; cases hIn
    have haI : a ≠ h₂.objs.size := fun q => by rw [← q, e2] at hIn; cases hIn
    have had : a ≠ s.heap.objs.size := fun q => by rw [q, get_end] at e1; cases e1
    obtain ⟨qs, x1, x2, x3, x4⟩ := pairs_at (c := c) (h := h₂.push { cls := .type "list_iterator", data := .fields #[.ref a, .int 0 0] }) (fun b o e => k3 _ _ (kp _ _ (hR.sub _ _ e))) e4
    have xlen : qs.length = ps.length := by have := congrArg List.length x1; simpa using this
    have xk : qs.map (·.1) = ps.map (·.1) := by
      have := congrArg (List.map Prod.fst) x1
      rw [List.map_map, List.map_map] at this
      exact this
    have notI : ∀ b o, g b = some o → b ≠ h₂.objs.size := fun b o e q => by rw [q] at e; have := kp _ _ (hR.sub _ _ e); rw [hIn] at this; cases this
    have notd : ∀ b o, g b = some o → b ≠ s.heap.objs.size := fun b o e q => by rw [q] at e; have := hR.sub _ _ e; rw [get_end] at this; cases this
    have hsz : xs.size = qs.length := by rw [← Array.length_toList, ← e4.length, xlen, List.length_map]
    refine upd_loop (prog := c.prog) (w := c.w) (I := h₂.objs.size) (l := a) (dd := s.heap.objs.size) (items := xs) (ps := qs) hsz (by omega) (by rw [xk]; exact hnd) haI had hdI qs.length 0 A.in1 _ _ (by omega) hA.hh (by have := hA.units; simp only [Around.in1_units]; omega)
      ⟨_, hII, rfl, rfl⟩ ⟨_, k3 _ _ e2, rfl, _, rfl⟩ ?_ (fun j v x hj hx => x2 j v x (by rw [Array.getElem?_toList]; exact hj) hx) (fun _ x hx => ?_) (fun j v hj => ?_) fun h' tk' hk' hd' => ?_
    · refine ⟨emptyDict, #[], 0, k3 _ _ dd2, ⟨rfl, rfl, rfl⟩, rfl, rfl, fun x hx => ?_, ?_⟩
      · rw [List.take_zero] at hx; cases hx
      · rw [List.take_zero]; exact List.nodup_nil
    · obtain ⟨o, _, _, q, _⟩ := x3 x hx; exact notI _ _ q
    · obtain ⟨b, o, rfl, q⟩ := x4 v (by rw [← Array.getElem?_toList] at hj; exact List.mem_of_getElem? hj)
      exact ⟨fun e => notI _ _ q (by injection e), fun e => notd _ _ q (by injection e)⟩
    · refine ⟨rfl, ?_⟩
      have kfin : ∀ b o, s.heap.get? b = some o → h'.get? b = some o := fun b o e => hk' b o (fun q => by rw [q] at e; have := kp _ _ e; rw [hIn] at this; cases this) (fun q => by rw [q, get_end] at e; cases e) (k3 _ _ (kp _ _ e))
      obtain ⟨od, es, ep, r0, r1, r2, r3, r4, r5⟩ := hd'
      have gn := hR.fresh_g (get_end s.heap)
      refine .newG (s := s) (tk := tk') hR kfin (get_end _) r0 (.dct (xs := qs) (fun h hh => ?_) x1) hq
      refine ⟨od, es, ep, hh _ _ (updG_self _ _ _), r1, r2, r3, fun x hx => ?_, r5⟩
      obtain ⟨o, items, n', q1, q2⟩ := x3 x hx
      exact ⟨o, items, n', hh _ _ (updG_grows gn _ _ q1), q2⟩

theorem sub_dct {ps : List (List Int × Int)} {ks : List Int} {v : Int} {Q : AV → MH → Prop} (hl : ps.lookup ks = some v) (hq : Q (.int v) μ) : SubW c (d + 1) (.dct ps) (.tup (ks.map .int)) μ Q := .mk fun A g s E va vi hA hR h1 h2 => by
  cases h1 with
  | @dct a es xs hd' hx =>
    obtain ⟨ta, o, items, n, rfl, e1, e2, e3, e4⟩ := tup_inv h2
    have hD := hd' s.heap fun b o e => hR.sub b o e
    have hkey : (KTup c.prog c.w).is s.heap ks ta := ⟨o, items, n, hR.sub _ _ e1, e2, e3, key_items e4⟩
    have : ∃ p, atKey xs ks = some p ∧ valInt p.2 = some v := by
      clear hd' hD hkey
      induction xs generalizing ps with
      | nil => cases ps with
        | nil => cases hl
        | cons _ _ => cases hx
      | cons x r ih =>
        cases ps with
        | nil => cases hx
        | cons y t =>
          rw [List.map_cons, List.map_cons] at hx
          injection hx with q1 q2
          injection q1 with q3 q4
          rw [List.lookup_cons] at hl
          unfold atKey
          rw [List.find?_cons]
          cases q : ks == y.1 with
          | true =>
            rw [q] at hl; cases hl
            have : x.1 = ks := by rw [q3]; exact (beq_iff_eq.mp q).symm
            rw [decide_eq_true this]
            exact ⟨x.2, rfl, q4⟩
          | false =>
            rw [q] at hl
            have : ¬ x.1 = ks := fun e => by rw [← e, q3] at q; simp at q
            rw [decide_eq_false this]
            exact ih hl q2
    obtain ⟨p, hp, hv⟩ := this
    obtain ⟨u, hu⟩ : ∃ t, p.2 = .int v t := by
      cases h : p.2 <;> rw [h] at hv <;> first | (cases hv; done) | (simp only [valInt, Option.some.injEq] at hv; subst hv; exact ⟨_, rfl⟩) | skip
    refine ⟨⟨_, _, hD.typeIs, slot_dict_getitem.lookup⟩, wpAny_getItem_heap (knd := KTup c.prog c.w) (by show A.in1.units < cLine; have := hA.units; rw [Around.in1_units]; omega) hkey hD hp ?_⟩
    rw [hu]
    exact .of .tok hR (.int ..) hq
end
end Mine
namespace Mine
open PySem PySem.W PyProof.Rows

section
variable {c : Cx} {d e : Nat} {F : Fm} {le : LE} {μ : MH} {p : Pos}

theorem WSs.mono {sts : List Stmt} {Q Q' : Fl → LE → MH → Prop} (h : WSs c d F le sts μ Q) (hq : ∀ f l m, Q f l m → Q' f l m) : WSs c d F le sts μ Q' := .mk fun A g s E hA hR hL =>
  wpAny_mono (h.run A g s E hA hR hL) (fun v s' ⟨g', μ', a, le', st, R', r, L', q⟩ => ⟨g', μ', a, le', st, R', r, L', hq _ _ _ q⟩) fun _ _ e => e
theorem WAb.mono {b : Bool} {t : Expr} {a : AV} {Q Q' : LE → MH → Prop} (h : WAb b c d F le t a μ Q) (hq : ∀ l m, Q l m → Q' l m) : WAb b c d F le t a μ Q' := .mk fun A g s E v hA hR hL hv =>
  wpAny_mono (h.run A g s E v hA hR hL hv) (fun v s' ⟨g', μ', le', st, R', L', q⟩ => ⟨g', μ', le', st, R', L', hq _ _ q⟩) fun _ _ e => e
theorem WB.mono {t : Expr} {Q Q' : Bool → MH → Prop} (h : WB c d F le t μ Q) (hq : ∀ b m, Q b m → Q' b m) : WB c d F le t μ Q' := .mk fun A g s E hA hR hL =>
  wpAny_mono (h.run A g s E hA hR hL) (fun v s' ⟨g', μ', a, st, R', r, q⟩ => ⟨g', μ', a, st, R', r, hq _ _ q⟩) fun _ _ e => e
theorem TestW.mono {ifs : List Expr} {Q Q' : Bool → MH → Prop} (h : TestW c d F le ifs μ Q) (hq : ∀ b m, Q b m → Q' b m) : TestW c d F le ifs μ Q' := by
  match ifs, h with
  | [], h => exact hq _ _ h
  | [e], h => exact WB.mono h hq

theorem loopW_cons {target : Expr} {body : List Stmt} {Q : Fl → LE → MH → Prop} {a : AV} {r : List AV} (h : WA c d F le target a μ (fun le₁ μ₁ => WSs c d F le₁ body μ₁ (fun fl le₂ μ₂ => match fl with | .ret v => Q (.ret v) le₂ μ₂ | _ => LoopW c d F target body Q r le₂ μ₂))) :
    LoopW c d F target body Q (a :: r) le μ := h
noncomputable abbrev TurnQ (Q : Fl → LE → MH → Prop) (P : LE → MH → Prop) : Fl → LE → MH → Prop := fun fl le μ => match fl with
  | .ret v => Q (.ret v) le μ
  | _ => P le μ
theorem loop_ind {target : Expr} {body : List Stmt} {Q : Fl → LE → MH → Prop} {items : List AV} (I : Nat → LE → MH → Prop) (h0 : I 0 le μ)
    (step : ∀ i a le μ, items[i]? = some a → I i le μ → WA c d F le target a μ (fun le₁ μ₁ => WSs c d F le₁ body μ₁ (TurnQ Q (I (i + 1)))))
    (fin : ∀ le μ, I items.length le μ → Q .next le μ) : LoopW c d F target body Q items le μ := by
  have key : ∀ (r : List AV) (i : Nat) (le : LE) (μ : MH), items.drop i = r → i ≤ items.length → I i le μ → LoopW c d F target body Q r le μ := by
    intro r
    induction r with
    | nil =>
      intro i le μ hd hi hI
      have : i = items.length := by have := congrArg List.length hd; rw [List.length_drop] at this; simp at this; omega
      subst this
      exact fin _ _ hI
    | cons a r ih =>
      intro i le μ hd hi hI
      have hlt : i < items.length := by have := congrArg List.length hd; rw [List.length_drop, List.length_cons] at this; omega
      rw [List.drop_eq_getElem_cons hlt] at hd
      injection hd with q1 q2
      have ha : items[i]? = some a := by rw [List.getElem?_eq_getElem hlt, q1]
      refine loopW_cons ((step i a le μ ha hI).mono fun l m q => q.mono fun f l m q => ?_)
      cases f with
      | ret v => exact q
      | next => exact ih (i + 1) _ _ q2 hlt q
      | cont => exact ih (i + 1) _ _ q2 hlt q
  exact key items 0 le μ rfl (Nat.zero_le _) h0
noncomputable abbrev kBody (c : Cx) (d : Nat) (F : Fm) (body : List Stmt) (J : Fl → LE → MH → Prop) : LE → MH → Prop := fun le₁ μ₁ => WSs c d F le₁ body μ₁ J
theorem loop_j {target : Expr} {body : List Stmt} {Q : Fl → LE → MH → Prop} {items : List AV} (I : Nat → LE → MH → Prop) (h0 : I 0 le μ)
    (step : ∀ i a le μ, items[i]? = some a → I i le μ → ∀ J : Fl → LE → MH → Prop, (∀ le m, I (i + 1) le m → J .next le m) → (∀ le m, I (i + 1) le m → J .cont le m) → (∀ v le m, Q (.ret v) le m → J (.ret v) le m) → WA c d F le target a μ (kBody c d F body J))
    (fin : ∀ le μ, I items.length le μ → Q .next le μ) : LoopW c d F target body Q items le μ :=
  loop_ind I h0 (fun i a le μ ha hI => step i a le μ ha hI _ (fun _ _ h => h) (fun _ _ h => h) (fun _ _ _ h => h)) fin
theorem dep0 {m k e : Nat} (h : m ≤ e) (hk : Nat.ble k m = true) : k ≤ e := Nat.le_trans (Nat.le_of_ble_eq_true hk) h
theorem dep1 {m k e : Nat} (h : m ≤ e) (hk : Nat.ble (k + 1) m = true) : k ≤ e - 1 := Nat.le_sub_of_add_le (dep0 h hk)
theorem n64 {n : Int} (h : n = 2 ∨ n = 3 ∨ n = 4) : n.natAbs < 2 ^ 64 := by rcases h with rfl | rfl | rfl <;> decide
theorem n30 {n : Int} (h : n = 2 ∨ n = 3 ∨ n = 4) : n.natAbs < 1073741824 := by rcases h with rfl | rfl | rfl <;> decide
theorem n16 {n : Int} (h : 4 ≤ n * n ∧ n * n ≤ 16) {k : Nat} (hk : Nat.ble (k + 1) 4 = true) : k < (n * n).toNat := by have := Nat.le_of_ble_eq_true hk; omega
theorem n17 {n : Int} (h : 4 ≤ n * n ∧ n * n ≤ 16) {k : Nat} (hk : Nat.ble 16 k = true) : (n * n).toNat ≤ k := by have := Nat.le_of_ble_eq_true hk; omega
theorem tolt {r m : Int} (h0 : 0 ≤ r) (h : r < m) : r.toNat < m.toNat := by omega
theorem n40 {n : Int} (h : n = 2 ∨ n = 3 ∨ n = 4) {k : Nat} (hk : Nat.ble 4 k = true) : n.toNat ≤ k := by rcases h with rfl | rfl | rfl <;> exact Nat.le_trans (by decide) (Nat.le_of_ble_eq_true hk)
theorem n41 {n : Int} (h : n = 2 ∨ n = 3 ∨ n = 4) {k : Nat} (hk : Nat.ble 4 k = true) : (n - 0).toNat ≤ k := by rw [Int.sub_zero]; exact n40 h hk
theorem or01 {p : Nat} (h : p < 2) : p = 0 ∨ p = 1 := by omega
theorem c63 {k m : Nat} (h : k < m) (hm : Nat.ble m 1000 = true) : (k : Int) < 2 ^ 63 := by have := Nat.le_of_ble_eq_true hm; omega
noncomputable def AllN : Nat → (List Value → Prop) → Prop
  | 0, P => P []
  | n + 1, P => ∀ v, AllN n fun l => P (v :: l)
theorem allN : ∀ (n : Nat) (P : List Value → Prop), AllN n P → ∀ vs : List Value, vs.length = n → P vs
  | 0, P, h, [], _ => h
  | n + 1, P, h, v :: l, e => allN n (fun l => P (v :: l)) (h v) l (Nat.succ.inj e)
theorem compW_nil {target elt : Expr} {ifs : List Expr} {Q : List AV → MH → Prop} {ys : List AV} (h : Q ys μ) : CompW c d F target ifs elt Q [] le μ ys := h
theorem compW_cons {target elt : Expr} {ifs : List Expr} {Q : List AV → MH → Prop} {ys : List AV} {a : AV} {r : List AV} (h : WAb true c d F le target a μ (fun le₁ μ₁ => TestW c d F le₁ ifs μ₁ (fun b μ₂ =>
      (b = true → WE c d F le₁ elt μ₂ (fun y μ₃ => CompW c d F target ifs elt Q r le₁ μ₃ (ys ++ [y]))) ∧ (b = false → CompW c d F target ifs elt Q r le₁ μ₂ ys)))) : CompW c d F target ifs elt Q (a :: r) le μ ys := h
theorem comp_ind {target elt : Expr} {ifs : List Expr} {Q : List AV → MH → Prop} {items : List AV} (I : Nat → LE → MH → List AV → Prop) (h0 : I 0 le μ [])
    (step : ∀ i a le μ ys, items[i]? = some a → I i le μ ys → WAb true c d F le target a μ (fun le₁ μ₁ => TestW c d F le₁ ifs μ₁ (fun b μ₂ =>
      (b = true → WE c d F le₁ elt μ₂ (fun y μ₃ => I (i + 1) le₁ μ₃ (ys ++ [y]))) ∧ (b = false → I (i + 1) le₁ μ₂ ys))))
    (fin : ∀ le μ ys, I items.length le μ ys → Q ys μ) : CompW c d F target ifs elt Q items le μ [] := by
  have key : ∀ (r : List AV) (i : Nat) (le : LE) (μ : MH) (ys : List AV), items.drop i = r → i ≤ items.length → I i le μ ys → CompW c d F target ifs elt Q r le μ ys := by
    intro r
    induction r with
    | nil =>
      intro i le μ ys hd hi hI
      have : i = items.length := by have := congrArg List.length hd; rw [List.length_drop] at this; simp at this; omega
      subst this
      exact fin _ _ _ hI
    | cons a r ih =>
      intro i le μ ys hd hi hI
      have hlt : i < items.length := by have := congrArg List.length hd; rw [List.length_drop, List.length_cons] at this; omega
      rw [List.drop_eq_getElem_cons hlt] at hd
      injection hd with q1 q2
      have ha : items[i]? = some a := by rw [List.getElem?_eq_getElem hlt, q1]
      refine compW_cons ((step i a le μ ys ha hI).mono fun l m q => TestW.mono q fun b m q => ⟨fun hb => (q.1 hb).mono fun y m q => ih (i + 1) _ _ _ q2 hlt q, fun hb => ih (i + 1) _ _ _ q2 hlt (q.2 hb)⟩)
  exact key items 0 le μ [] rfl (Nat.zero_le _) h0

noncomputable abbrev kTake (J : LE → MH → List AV → Prop) (le : LE) (ys : List AV) : AV → MH → Prop := fun y μ₃ => J le μ₃ (ys ++ [y])
noncomputable abbrev kPick (c : Cx) (d : Nat) (F : Fm) (elt : Expr) (J : LE → MH → List AV → Prop) (le : LE) (ys : List AV) : Bool → MH → Prop := fun b μ₂ => (b = true → WE c d F le elt μ₂ (kTake J le ys)) ∧ (b = false → J le μ₂ ys)
noncomputable abbrev kTest (c : Cx) (d : Nat) (F : Fm) (ifs : List Expr) (elt : Expr) (J : LE → MH → List AV → Prop) (ys : List AV) : LE → MH → Prop := fun le₁ μ₁ => TestW c d F le₁ ifs μ₁ (kPick c d F elt J le₁ ys)
theorem comp_j {target elt : Expr} {ifs : List Expr} {Q : List AV → MH → Prop} {items : List AV} (I : Nat → LE → MH → List AV → Prop) (h0 : I 0 le μ [])
    (step : ∀ i a le μ ys, items[i]? = some a → I i le μ ys → ∀ J : LE → MH → List AV → Prop, (∀ le m ys, I (i + 1) le m ys → J le m ys) → WAb true c d F le target a μ (kTest c d F ifs elt J ys))
    (fin : ∀ le μ ys, I items.length le μ ys → Q ys μ) : CompW c d F target ifs elt Q items le μ [] :=
  comp_ind I h0 (fun i a le μ ys ha hI => step i a le μ ys ha hI _ fun _ _ _ h => h) fin
theorem callC_def' {f : Addr} {name qual : Str} {params : Arguments} {body : List Stmt} {scope : Scope} {dV kV doc pm cdv ct oc : Value} {an od : Option Addr} {osl : Array (Option Value)} {args : List AV} {ps : List Str} {ge : List (Str × AV)} {Q : AV → MH → Prop}
    (he : 1 ≤ e) (ho : (hd.heap_39 c.w.params).lookup f = some ⟨oc, od, .func (fnOf name qual params body scope dV kV doc pm an cdv ct), osl⟩)
    (hcd : codeIn (hd.heap_39 c.w.params) cdv qual = true)
    (hbind : AllN args.length fun vs => bindArgs (fnOf name qual params body scope dV kV doc pm an cdv ct) ⟨vs, []⟩ = pure (ps.zip vs))
    (hsc : scopeOk scope.names ps = true) (hge : Gd c → GeOk c scope.names ge) (hlen : args.length = ps.length)
    (h : ∀ env : Env, WSs c (e - 1) ⟨env, ge, scope⟩ (mkLE scope.names args) body μ (fun fl _ μ' => Q (retAV fl) μ'))
    (hk : scope.kind = .function := by rfl) (hco : scope.isCoroutine = false := by rfl) (hgen : scope.isGenerator = false := by rfl) : CallC c e (.raw (.ref f)) args μ Q := by
  obtain ⟨d, rfl⟩ : ∃ d, e = d + 1 := ⟨e - 1, by omega⟩
  exact callC_def (ho := ho) hcd (allN _ _ hbind) hsc hge hlen h hk hco hgen
theorem callW_def' {f : Addr} {name qual : Str} {params : Arguments} {body : List Stmt} {scope : Scope} {dV kV doc pm cdv ct oc : Value} {an od : Option Addr} {osl : Array (Option Value)} {args : List AV} {ps : List Str} {ge : List (Str × AV)} {Q : AV → MH → Prop}
    (he : 1 ≤ e) (ho : (hd.heap_39 c.w.params).lookup f = some ⟨oc, od, .func (fnOf name qual params body scope dV kV doc pm an cdv ct), osl⟩)
    (hcd : codeIn (hd.heap_39 c.w.params) cdv qual = true)
    (hbind : AllN args.length fun vs => bindArgs (fnOf name qual params body scope dV kV doc pm an cdv ct) ⟨vs, []⟩ = pure (ps.zip vs))
    (hsc : scopeOk scope.names ps = true) (hge : Gd c → GeOk c scope.names ge) (hlen : args.length = ps.length)
    (h : ∀ env : Env, WSs c (e - 1) ⟨env, ge, scope⟩ (mkLE scope.names args) body μ (fun fl _ μ' => Q (retAV fl) μ'))
    (hk : scope.kind = .function := by rfl) (hco : scope.isCoroutine = false := by rfl) (hgen : scope.isGenerator = false := by rfl) : CallW c e (.raw (.ref f)) args μ Q :=
  (callC_def' he (ho := ho) hcd hbind hsc hge hlen h hk hco hgen).toW
theorem callW_dict' {a : Addr} {tg : Nat} {ps : List (List Int × Int)} {Q : AV → MH → Prop} (he : 1 ≤ e) (hm : μ a = some (.list tg (ps.map pairAV))) (hnd : (ps.map (·.1)).Nodup) (hsm : ps.length ≤ 1000000) (hq : Q (.dct ps) μ) : CallW c e (.raw (.type "dict")) [.ref a] μ Q := by
  obtain ⟨d, rfl⟩ : ∃ d, e = d + 1 := ⟨e - 1, by omega⟩
  exact callW_dict hm hnd hsm hq
theorem sub_dct' {ps : List (List Int × Int)} {ks : List Int} {v : Int} {Q : AV → MH → Prop} (he : 1 ≤ e) (hl : ps.lookup ks = some v) (hq : Q (.int v) μ) : SubW c e (.dct ps) (.tup (ks.map .int)) μ Q := by
  obtain ⟨d, rfl⟩ : ∃ d, e = d + 1 := ⟨e - 1, by omega⟩
  exact sub_dct hl hq
theorem cmp_eqD' {α : Type} [DecidableEq α] {f : α → AV} {en : α → PyData} {n : Nat} (En : Enc f en n) {x y : α} {Q : Bool → MH → Prop} (he : 3 ≤ e) (h : Q (decide (x = y)) μ) (hn : n ≤ 64) : CmpW c e .Eq (f x) (f y) μ Q := by
  obtain ⟨d, rfl⟩ : ∃ d, e = d + 3 := ⟨e - 3, by omega⟩
  exact cmp_eqD En h hn
theorem cmp_neD' {α : Type} [DecidableEq α] {f : α → AV} {en : α → PyData} {n : Nat} (En : Enc f en n) {x y : α} {Q : Bool → MH → Prop} (he : 3 ≤ e) (h : Q (!decide (x = y)) μ) (hn : n ≤ 64) : CmpW c e .NotEq (f x) (f y) μ Q := by
  obtain ⟨d, rfl⟩ : ∃ d, e = d + 3 := ⟨e - 3, by omega⟩
  exact cmp_neD En h hn
theorem callC_make' {C fI : Addr} {args : List AV} {Q : AV → MH → Prop} (he : 1 ≤ e) (hok : makeOk (hd.heap_39 c.w.params) C fI = true)
    (h : ∀ x dx, x ≠ dx → μ x = none → μ dx = none → CallC c (e - 1) (.raw (.ref fI)) (.ref x :: args) (updM (updM μ dx (.ns [])) x (.inst C dx)) (fun r μ' => r = .none ∧ Q (.ref x) μ')) : CallC c e (.raw (.ref C)) args μ Q := by
  obtain ⟨d, rfl⟩ : ∃ d, e = d + 1 := ⟨e - 1, by omega⟩
  exact callC_make hok h

theorem get_map {α : Type} {f : α → AV} {xs : List α} {i : Nat} {x : α} (h : xs[i]? = some x) : (xs.map f)[i]? = some (f x) := by rw [List.getElem?_map, h]; rfl
theorem get_ints {xs : List Int} {i : Nat} (h : i < xs.length) : (xs.map AV.int)[i]? = some (.int (xs.getD i 0)) := get_map (by rw [List.getElem?_eq_getElem h, List.getD_eq_getElem?_getD, List.getElem?_eq_getElem h]; rfl)

noncomputable def rngL (a k : Int) (n : Nat) : List Int := (List.range n).map fun (i : Nat) => a + i * k
theorem rngL_len (a k : Int) (n : Nat) : (rngL a k n).length = n := by simp [rngL]
theorem rng_items {a b k : Int} {n : Nat} (h1 : Builtin.Range.small a b k = true) (h2 : Builtin.Range.rangeSize a b k = (n : Int)) : ItemsOf (.rng a b k) ((rngL a k n).map .int) := by
  have : (rngL a k n).map AV.int = (List.range n).map fun (i : Nat) => AV.int (a + i * k) := by unfold rngL; rw [List.map_map]; rfl
  rw [this]; exact .rng h1 h2
theorem items_up {a b : Int} (h0 : -1000000000 ≤ a) (h1 : a < 1000000000) (h2 : -1000000000 ≤ b) (h3 : b < 1000000000) : ItemsOf (.rng a b 1) ((rngL a 1 (b - a).toNat).map .int) :=
  rng_items (small_one (by omega) (by omega) (by omega) (by omega)) (by rw [rangeSize_one]; split <;> omega)
theorem rangeSize_down (a b : Int) : Builtin.Range.rangeSize a b (-1) = if a > b then a - b else 0 := by
  unfold Builtin.Range.rangeSize
  simp only [show ¬ ((-1 : Int) > 0) by decide, if_false, Int.neg_neg, Int.ediv_one]
  split <;> omega
theorem items_down {a b : Int} (h0 : -1000000000 ≤ a) (h1 : a < 1000000000) (h2 : -1000000000 ≤ b) (h3 : b < 1000000000) : ItemsOf (.rng a b (-1)) ((rngL a (-1) (a - b).toNat).map .int) := by
  have e : (if a > b then a - b else 0) = ((a - b).toNat : Int) := by split <;> omega
  refine rng_items ?_ (by rw [rangeSize_down]; exact e)
  unfold Builtin.Range.small
  rw [rangeSize_down, e]
  simp only [Builtin.Range.rangeFitsLong, Bool.and_eq_true, Bool.or_eq_true, decide_eq_true_eq, beq_iff_eq, show ¬ ((-1 : Int) > 0) by decide, if_false]
  clear e
  omega
theorem rngL_get {a k : Int} {n i : Nat} {v : AV} (h : ((rngL a k n).map AV.int)[i]? = some v) : i < n ∧ v = .int (a + i * k) := by
  unfold rngL at h
  rw [List.map_map, List.getElem?_map] at h
  obtain ⟨j, hj, rfl⟩ := Option.map_eq_some_iff.mp h
  obtain ⟨hlt, e⟩ := List.getElem?_eq_some_iff.mp hj
  rw [List.length_range] at hlt
  rw [List.getElem_range] at e
  subst e
  exact ⟨hlt, rfl⟩
theorem rngL_take_succ {a k : Int} {n i : Nat} (h : i < n) : (rngL a k n).take (i + 1) = (rngL a k n).take i ++ [a + i * k] := by
  have h' : i < (rngL a k n).length := by rw [rngL_len]; exact h
  rw [List.take_succ, List.getElem?_eq_getElem h']
  simp [rngL]
theorem ints_get {xs : List Int} {i : Nat} {v : AV} (h : (xs.map AV.int)[i]? = some v) : ∃ x, xs[i]? = some x ∧ v = .int x := by
  rw [List.getElem?_map] at h
  obtain ⟨j, hj, rfl⟩ := Option.map_eq_some_iff.mp h
  exact ⟨j, hj, rfl⟩
theorem ex_live {x C dx : Addr} {fs : List (Str × AV)} {name : Str} {av : AV} {P : AV → Prop} (hx : μ x = some (.inst C dx)) (hdx : μ dx = some (.ns fs)) (hok : attrOk (hd.heap_39 c.w.params) C name = true) (hl : fs.lookup name = some av) (hr : ∀ u, av ≠ .raw u) (hp : P av) :
    ∃ C' fs', InstW μ (.ref x) C' fs' ∧ attrOk (hd.heap_39 c.w.params) C' name = true ∧ ∃ av, fs'.lookup name = some av ∧ (∀ u, av ≠ .raw u) ∧ P av := ⟨C, fs, .live hx hdx, hok, av, hl, hr, hp⟩
theorem ex_seta {x C dx : Addr} {fs : List (Str × AV)} {name : Str} {P : Addr → List (Str × AV) → Prop} (hx : μ x = some (.inst C dx)) (hdx : μ dx = some (.ns fs)) (hok : setOk (hd.heap_39 c.w.params) C name = true) (hn : fs.lookup name = none) (hl : fs.length ≤ 900) (hp : P dx fs) :
    ∃ x' C' dx' fs', AV.ref x = .ref x' ∧ μ x' = some (.inst C' dx') ∧ μ dx' = some (.ns fs') ∧ setOk (hd.heap_39 c.w.params) C' name = true ∧ fs'.lookup name = none ∧ fs'.length ≤ 900 ∧ P dx' fs' := ⟨x, C, dx, fs, rfl, hx, hdx, hok, hn, hl, hp⟩
end
end Mine
namespace Mine
open PySem PySem.W PyProof.Rows
section
variable {c : Cx} {d e : Nat} {μ : MH}
theorem bin_add_lst {xs ys : List AV} {Q : AV → MH → Prop} (hs : xs.length + ys.length ≤ 16777216) (h : Q (.lst (xs ++ ys)) μ) : BinW c d .Add (.lst xs) (.lst ys) μ Q := .mk fun A g s E va vb hA hR h1 h2 => by
  obtain ⟨l, ⟨oc, od, odt, osl⟩, us, n, rfl, e1, e2, e3, e4⟩ := lst_inv h1
  obtain ⟨l', ⟨oc', od', odt', osl'⟩, us', n', rfl, f1, f2, f3, f4⟩ := lst_inv h2
  dsimp only at e2 e3 f2 f3
  subst e2 e3 f2 f3
  refine concat_meets ⟨_, hR.sub _ _ e1, rfl⟩ ⟨_, hR.sub _ _ f1, rfl⟩ noFill_list_add seq_list_add PySem.F.slot_list_add PySem.F.entry_list_add (PySem.F.args_list_add_2 _ _)
    (list_addW l l' us us' n n' od od' osl osl' (by show _ ≤ 16777216; rw [← Array.length_toList, ← Array.length_toList, ← e4.length, ← f4.length]; exact hs)) ⟨hR.sub _ _ e1, hR.sub _ _ f1, ?_⟩
  exact .newG (tk := s.toks) hR (push_keeps _ _) (get_end _) (Heap.get?_push_size _ rfl) (.lst (updG_self _ _ _) rfl rfl (by simpa using (e4.append f4).mono (updG_grows (hR.fresh_g (get_end _))))) h
end
end Mine
namespace Mine
open PySem PySem.W PyProof.Rows
local macro_rules | `(tactic| tb_rel) => `(tactic| first
  | (with_reducible show Has _ _ _); (with_reducible first | exact Has.here | (apply Has.there; tb_rel))
  | (with_reducible show HasG _ _ _); (with_reducible first | exact HasG.here | (apply HasG.there; tb_rel))
  | (with_reducible show SetLE _ _ _ _); (with_reducible first | exact SetLE.here | (apply SetLE.there; tb_rel))
  | (with_reducible show CapLE _ _ _ _); (first | exact CapLE.nil | (refine' CapLE.local ?_; tb_rel) | (refine' CapLE.glob ?_; tb_rel) | (refine' CapLE.free ?h ?k ?_; (case h => tb_rel); (case k => kernel_rfl); tb_rel))
  | (with_reducible show _ = some _); (first | assumption | exact updM_self _ _ _ | (refine (updM_ne ?h).trans ?_; (case h => first | assumption | (apply Ne.symm; assumption)); tb_rel))
  | (with_reducible show CalleeOk _ _); (first | exact callee_builtin | exact callee_type | exact callee_K (by kernel_rfl))
  | (fail_if_success (with_reducible show Has _ _ _)); (fail_if_success (with_reducible show HasG _ _ _)); (fail_if_success (with_reducible show SetLE _ _ _ _)); (fail_if_success (with_reducible show CalleeOk _ _)); (fail_if_success (with_reducible show CapLE _ _ _ _)); (first | (with_reducible assumption) | decide | (refine' dep1 ?h ?k; (case h => with_reducible assumption); (case k => rfl)) | (refine' dep0 ?h ?k; (case h => with_reducible assumption); (case k => rfl)) | ((with_reducible show (0 : Int) ≤ ((_ : Nat) : Int)); exact Int.natCast_nonneg _) | ((with_reducible show Int.natAbs _ < _); first | exact n64 (by with_reducible assumption) | exact n30 (by with_reducible assumption)) | ((with_reducible show _ ∨ _); exact or01 (by with_reducible assumption)) | ((with_reducible show _ < Int.toNat _); refine' n16 ?h ?k; (case h => with_reducible assumption); (case k => rfl)) | ((with_reducible show Int.toNat _ ≤ _); first | (refine' n17 ?h ?k; (case h => with_reducible assumption); (case k => rfl))) | ((with_reducible show ((_ : Nat) : Int) < (2 : Int) ^ (63 : Nat)); refine' c63 ?h ?k; (case h => with_reducible assumption); (case k => rfl)) | omega | assumption | (simp only [List.length_map, List.length_cons, List.length_nil, List.length_append, List.length_replicate]; omega)))
local macro_rules | `(tactic| tb_start) => `(tactic| first
  | (refine' ws_aug ?h ?_; (case h => tb_rel)) | refine wss_cons ?_ | refine wss_nil ?_ | refine ws_assign ?_ | refine ws_setitem ?_ | refine ws_if ?_ | refine ws_return ?_ | refine ws_continue ?_ | refine ws_expr ?_ | refine ws_setattr ?_
  | (refine' we_local ?h ?_; (case h => tb_rel)) | (refine' we_glob ?h ?_; (case h => tb_rel)) | refine we_int ?_ | refine we_none ?_ | refine we_bool ?_ | refine we_str ?_
  | refine we_bin ?_ | refine we_sub ?_ | refine we_cmp ?_ | refine wb_cmp ?_ | refine wb_cmp2 ?_ | refine we_neg ?_ | refine wb_and ?_ | refine wb_or ?_ 
  | refine wl_cons ?_ | refine wl_nil ?_ | refine we_call ?_ | refine we_tup ?_ | refine we_attr ?_ | refine we_meth ?_ | refine we_meth0 ?_
  | refine bin_add ?_ | refine bin_sub ?_ | (refine bin_mul ?h ?_; (case h => first | (left; tb_rel) | (right; tb_rel))) | (refine bin_floordiv ?h ?k ?_; (case h => tb_rel); (case k => tb_rel)) | (refine bin_mod ?h ?_; (case h => tb_rel))
  | (refine bin_shl ?h ?k ?l ?_; (case h => tb_rel); (case k => tb_rel); (case l => tb_rel)) | (refine bin_pow ?h ?k ?l ?_; (case h => tb_rel); (case k => tb_rel); (case l => tb_rel))
  | refine cmp_eq ?_ | refine cmp_ne ?_ | refine cmp_lt ?_ | refine cmp_gt ?_ | refine cmp_le ?_ | refine cmp_ge ?_
  | refine callW_abs ?_ | refine callW_range3 ?_ (by decide) (by decide) | refine callW_max2 ?_ | refine callW_min2 ?_ | refine callW_range1 ?_ | refine callW_range2 ?_
  | (refine' sub_ref ?h ?k rfl ?_ ?l; (case h => tb_rel); (case k => tb_rel); (case l => tb_rel)) | (refine' sub_lst ?h rfl ?_ ?l; (case h => tb_rel); (case l => tb_rel)) | (refine' sub_tup ?h rfl ?_ ?l; (case h => tb_rel); (case l => tb_rel))
  | (refine' set_ref ?h ?k ?m ?_ ?l; (case h => tb_rel); (case k => tb_rel); (case l => tb_rel); (case m => tb_rel); try simp only [updM_updM, Int.reduceToNat, List.set_cons_succ, List.set_cons_zero])
  | (refine' kCall_i ?h ?_; (case h => (with_reducible show CalleeOk _ _); tb_rel)) | (refine' kCallI_i ?h ?_; (case h => (with_reducible show CalleeOk _ _); tb_rel))
  | (refine' compW_cons (wl_name ?h ?k ⟨fun _ => ?_, by first | exact tf | exact ft⟩); (case h => kernel_rfl); (case k => tb_rel)) | refine compW_nil ?_ | (refine' loopW_cons (wa_name ?h ?_); (case h => tb_rel))
  | (refine' kSeq_i ?h ?_; (case h => tb_rel))
  | (refine' kMeth_i (meth_append ?h) callee_builtin ?_; (case h => tb_rel)) | (refine' kMeth_i (meth_extend ?h) callee_builtin ?_; (case h => tb_rel)) | (refine' callW_append ?h ?_ ?k; (case h => tb_rel); (case k => tb_rel); try simp only [updM_updM])
  | (refine' kAttr_i ?h rfl (nr rfl) ?_; (case h => kernel_rfl))
  | (refine' ex_seta ?h ?k ?l ?m ?n ?_; (case h => tb_rel); (case k => tb_rel); (case l => kernel_rfl); (case m => kernel_rfl); (case n => simp); try simp only [updM_updM, List.cons_append, List.nil_append])
  | refine kDrop_i ?_ | (refine' kTup_i ?h ?_; (case h => rfl)) | (refine' kLst_i ?h ?_; (case h => rfl)) | refine ⟨by first | decide | (simp only [List.length_cons, List.length_nil]; decide), ?_⟩
  | refine ⟨_, rfl, ?_⟩)

section
variable {c : Cx} {e : Nat} {μ : MH}

theorem parts_spec {m s : Int} {Q : AV → MH → Prop} (he : 1 ≤ e) (h0 : s ≠ 0) (h1 : s.natAbs < 1073741824) (hQ : Q (.int ((m + s - 1).fdiv s)) μ) : CallW c e (.raw (.ref 386)) [.int m, .int s] μ Q := by
  refine callW_def' (f := 386) (ps := [Str.ofString "many", Str.ofString "size"]) (ge := rawGe []) he rfl (by kernel_rfl) (by intro v0 v1; show _ = _; kernel_rfl) (by kernel_rfl) (fun gd => geOk_raw (by kernel_rfl)) rfl (fun env => ?_)
  clear he
  dsimp only [mkLE, rawGe, List.map]
  repeat (tb_start)
  exact hQ

theorem kept_spec {x s : Int} {Q : AV → MH → Prop} (he : 1 ≤ e) (hQ : Q (.int (max 0 (min (s - 1) x))) μ) : CallW c e (.raw (.ref 358)) [.int x, .int s] μ Q := by
  refine callW_def' (f := 358) (ps := [Str.ofString "place", Str.ofString "size"]) (ge := rawGe [(Str.ofString "max", .builtin "max"), (Str.ofString "min", .builtin "min")]) he rfl (by kernel_rfl) (by intro v0 v1; show _ = _; kernel_rfl) (by kernel_rfl) (fun gd => geOk_raw (by kernel_rfl)) rfl (fun env => ?_)
  clear he
  dsimp only [mkLE, rawGe, List.map]
  repeat (tb_start)
  exact hQ
end


section
variable {c : Cx} {e : Nat} {μ : MH}

theorem make_frozen {C fI : Addr} {args : List AV} {fs : List (Str × AV)} {Q : AV → MH → Prop} (he : 1 ≤ e) (hok : makeOk (hd.heap_39 c.w.params) C fI = true)
    (h : ∀ x dx μ₁, x ≠ dx → μ₁ x = some (.inst C dx) → μ₁ dx = some (.ns []) → CallC c (e - 1) (.raw (.ref fI)) (.ref x :: args) μ₁ (fun r μ' => r = .none ∧ μ' = updM μ₁ dx (.ns fs))) (hQ : Q (.inst C fs) μ) : CallW c e (.raw (.ref C)) args μ Q := by
  refine (CallC.frz (callC_make' he hok fun x dx hx hm hd => ?_)).toW
  refine (h x dx _ hx (updM_self _ _ _) ((updM_ne (Ne.symm hx)).trans (updM_self _ _ _))).mono fun r μ' q => ?_
  obtain ⟨rfl, rfl⟩ := q
  refine ⟨rfl, .inst C fs, fun a => a == x || a == dx, .live (dx := dx) (fs := fs) (by simp) (by simp) ((updM_ne hx).trans (updM_self _ _ _)) (updM_self _ _ _) ?_, ?_⟩
  · have : ∀ l : List (Str × AV), FzD (fun a => a == x || a == dx) (updM (updM (updM μ dx (.ns [])) x (.inst C dx)) dx (.ns fs)) l l := fun l => by
      induction l with
      | nil => exact .nil
      | cons p r ih => exact .cons (.same _) ih
    exact this fs
  · have : delS (fun a => a == x || a == dx) (updM (updM (updM μ dx (.ns [])) x (.inst C dx)) dx (.ns fs)) = μ := by
      funext b
      unfold delS
      by_cases h1 : b = x
      · subst h1; simp [hm]
      · by_cases h2 : b = dx
        · subst h2; simp [hd]
        · have : (b == x || b == dx) = false := by simp [h1, h2]
          rw [if_neg (by dsimp only; rw [this]; exact Bool.false_ne_true), updM_ne h2, updM_ne h1, updM_ne h2]
    rw [this]; exact hQ

noncomputable def compAV (i a d : Int) : AV := .inst 403 [(Str.ofString "ident", .int i), (Str.ofString "across", .int a), (Str.ofString "down", .int d), (Str.ofString "quant", .int 0)]
noncomputable def frameAV (h w : Int) (comps : AV) (n : Int) : AV := .inst 469 [(Str.ofString "kind", .str (Str.ofString "progressive")), (Str.ofString "precision", .int 8), (Str.ofString "height", .int h), (Str.ofString "width", .int w), (Str.ofString "components", comps), (Str.ofString "n", .int n)]
noncomputable def scanAV (places : List Int) (start end_ low : Int) : AV := .inst 504 [(Str.ofString "places", .lst (places.map .int)), (Str.ofString "dc_slots", .lst [.int 0]), (Str.ofString "ac_slots", .lst [.int 0]), (Str.ofString "start", .int start), (Str.ofString "end", .int end_), (Str.ofString "high", .int 0), (Str.ofString "low", .int low)]

theorem comp_make {i a d : Int} {Q : AV → MH → Prop} (he : 2 ≤ e) (hQ : Q (compAV i a d) μ) : CallW c e (.raw (.ref 403)) [.int i, .int a, .int d, .int 0] μ Q := by
  refine make_frozen (fI := 400) (by tb_rel) (by kernel_rfl) (fun x dx μ₁ hx h1 h2 => ?_) hQ
  have he : 1 ≤ e - 1 := by omega
  refine callC_def' (f := 400) (ps := [Str.ofString "self", Str.ofString "ident", Str.ofString "across", Str.ofString "down", Str.ofString "quant"]) (ge := rawGe []) he rfl (by kernel_rfl) (by intro v0 v1 v2 v3 v4; show _ = _; kernel_rfl) (by kernel_rfl) (fun gd => geOk_raw (by kernel_rfl)) rfl (fun env => ?_)
  clear he
  dsimp only [mkLE, rawGe, List.map]
  repeat (tb_start)
  exact ⟨rfl, rfl⟩
theorem frame_make {h w n : Int} {comps : AV} {Q : AV → MH → Prop} (he : 2 ≤ e) (hr : ∀ u, comps ≠ .raw u) (hQ : Q (frameAV h w comps n) μ) :
    CallW c e (.raw (.ref 469)) [.str (Str.ofString "progressive"), .int 8, .int h, .int w, comps, .int n] μ Q := by
  refine make_frozen (fI := 421) (by tb_rel) (by kernel_rfl) (fun x dx μ₁ hx h1 h2 => ?_) hQ
  have he : 1 ≤ e - 1 := by omega
  refine callC_def' (f := 421) (ps := [Str.ofString "self", Str.ofString "kind", Str.ofString "precision", Str.ofString "height", Str.ofString "width", Str.ofString "components", Str.ofString "n"]) (ge := rawGe []) he rfl (by kernel_rfl) (by intro v0 v1 v2 v3 v4 v5 v6; show _ = _; kernel_rfl) (by kernel_rfl) (fun gd => geOk_raw (by kernel_rfl)) rfl (fun env => ?_)
  clear he
  dsimp only [mkLE, rawGe, List.map]
  repeat (tb_start)
  exact ⟨rfl, rfl⟩
theorem scan_make {ps : List Int} {a b l : Int} {Q : AV → MH → Prop} (he : 2 ≤ e) (hQ : Q (scanAV ps a b l) μ) :
    CallW c e (.raw (.ref 504)) [.lst (ps.map .int), .lst [.int 0], .lst [.int 0], .int a, .int b, .int 0, .int l] μ Q := by
  refine make_frozen (fI := 487) (by tb_rel) (by kernel_rfl) (fun x dx μ₁ hx h1 h2 => ?_) hQ
  have he : 1 ≤ e - 1 := by omega
  refine callC_def' (f := 487) (ps := [Str.ofString "self", Str.ofString "places", Str.ofString "dc_slots", Str.ofString "ac_slots", Str.ofString "start", Str.ofString "end", Str.ofString "high", Str.ofString "low"]) (ge := rawGe []) he rfl (by kernel_rfl) (by intro v0 v1 v2 v3 v4 v5 v6 v7; show _ = _; kernel_rfl) (by kernel_rfl) (fun gd => geOk_raw (by kernel_rfl)) rfl (fun env => ?_)
  clear he
  dsimp only [mkLE, rawGe, List.map]
  repeat (tb_start)
  exact ⟨rfl, rfl⟩

structure FrI where
  n : Int
  h : Int
  w : Int
  a0 : Int
  d0 : Int
  a1 : Int
  d1 : Int
structure FrI.Ok (f : FrI) : Prop where
  n : f.n = 2 ∨ f.n = 3 ∨ f.n = 4
  h : 1 ≤ f.h ∧ f.h ≤ 3 * f.n
  w : 1 ≤ f.w ∧ f.w ≤ 3 * f.n
  a0 : f.a0 = 1 ∨ f.a0 = 2
  d0 : f.d0 = 1 ∨ f.d0 = 2
  a1 : f.a1 = 1 ∨ f.a1 = 2
  d1 : f.d1 = 1 ∨ f.d1 = 2
noncomputable def FrI.av (f : FrI) : AV := frameAV f.h f.w (.lst [compAV 1 f.a0 f.d0, compAV 2 f.a1 f.d1]) f.n
noncomputable def FrI.mA (f : FrI) : Int := max f.a0 f.a1
noncomputable def FrI.mD (f : FrI) : Int := max f.d0 f.d1
noncomputable def FrI.mcA (f : FrI) : Int := (f.w + f.n * f.mA - 1).fdiv (f.n * f.mA)
noncomputable def FrI.mcD (f : FrI) : Int := (f.h + f.n * f.mD - 1).fdiv (f.n * f.mD)

theorem max_of {a b m : Int} (h1 : m ∈ [a, b]) (h2 : ∀ x ∈ [a, b], x ≤ m) : m = max a b := by
  have := h2 a (by simp)
  have := h2 b (by simp)
  simp at h1
  omega
theorem most_across_spec {f : FrI} {Q : AV → MH → Prop} (he : 1 ≤ e) (hQ : Q (.int f.mA) μ) : CallW c e (.raw (.ref 426)) [f.av] μ Q := by
  unfold FrI.av frameAV compAV
  refine callW_def' (f := 426) (ps := [Str.ofString "self"]) (ge := rawGe [(Str.ofString "max", .builtin "max")]) he rfl (by kernel_rfl) (by intro v0; show _ = _; kernel_rfl) (by kernel_rfl) (fun gd => geOk_raw (by kernel_rfl)) rfl (fun env => ?_)
  clear he
  dsimp only [mkLE, rawGe, List.map]
  repeat (tb_start)
  refine we_comp (ge := rawGe []) (by tb_rel) (by kernel_rfl) (geOk_raw (by kernel_rfl)) (it_of ?_)
  repeat (tb_start)
  refine ⟨_, .lst _, by simp, fun env' => ?_⟩
  repeat (tb_start)
  refine callW_maxl (ns := [f.a0, f.a1]) (by simp) fun m h1 h2 => ?_
  rw [max_of h1 h2]
  exact hQ
theorem most_down_spec {f : FrI} {Q : AV → MH → Prop} (he : 1 ≤ e) (hQ : Q (.int f.mD) μ) : CallW c e (.raw (.ref 431)) [f.av] μ Q := by
  unfold FrI.av frameAV compAV
  refine callW_def' (f := 431) (ps := [Str.ofString "self"]) (ge := rawGe [(Str.ofString "max", .builtin "max")]) he rfl (by kernel_rfl) (by intro v0; show _ = _; kernel_rfl) (by kernel_rfl) (fun gd => geOk_raw (by kernel_rfl)) rfl (fun env => ?_)
  clear he
  dsimp only [mkLE, rawGe, List.map]
  repeat (tb_start)
  refine we_comp (ge := rawGe []) (by tb_rel) (by kernel_rfl) (geOk_raw (by kernel_rfl)) (it_of ?_)
  repeat (tb_start)
  refine ⟨_, .lst _, by simp, fun env' => ?_⟩
  repeat (tb_start)
  refine callW_maxl (ns := [f.d0, f.d1]) (by simp) fun m h1 h2 => ?_
  rw [max_of h1 h2]
  exact hQ
theorem max12 {a b : Int} (ha : a = 1 ∨ a = 2) (hb : b = 1 ∨ b = 2) : max a b = 1 ∨ max a b = 2 := by rcases ha with rfl | rfl <;> rcases hb with rfl | rfl <;> decide
theorem FrI.Ok.mA {f : FrI} (h : f.Ok) : f.mA = 1 ∨ f.mA = 2 := max12 h.a0 h.a1
theorem FrI.Ok.mD {f : FrI} (h : f.Ok) : f.mD = 1 ∨ f.mD = 2 := max12 h.d0 h.d1
theorem mcus_across_spec {f : FrI} {Q : AV → MH → Prop} (he : 2 ≤ e) (hf : f.Ok) (hQ : Q (.int f.mcA) μ) : CallW c e (.raw (.ref 438)) [f.av] μ Q := by
  have he' := he
  have h1 := hf.mA
  have h2 := hf.n
  have he : 1 ≤ e := by omega
  have hn : f.n * f.mA ≠ 0 ∧ (f.n * f.mA).natAbs < 1073741824 := by rcases h1 with h | h <;> rcases h2 with h' | h' | h' <;> rw [h, h'] <;> decide
  refine callW_def' (f := 438) (ps := [Str.ofString "self"]) (ge := rawGe [(Str.ofString "parts", .ref 386)]) he rfl (by kernel_rfl) (by intro v0; show _ = _; kernel_rfl) (by kernel_rfl) (fun gd => geOk_raw (by kernel_rfl)) rfl (fun env => ?_)
  clear he
  dsimp only [mkLE, rawGe, List.map]
  repeat (tb_start)
  refine ⟨.ref 426, meth_inst .frozen (by kernel_rfl) (by kernel_rfl), callee_K (by kernel_rfl), most_across_spec (by tb_rel) ?_⟩
  repeat (tb_start)
  exact parts_spec (by tb_rel) hn.1 hn.2 hQ
theorem mcus_down_spec {f : FrI} {Q : AV → MH → Prop} (he : 2 ≤ e) (hf : f.Ok) (hQ : Q (.int f.mcD) μ) : CallW c e (.raw (.ref 445)) [f.av] μ Q := by
  have he' := he
  have h1 := hf.mD
  have h2 := hf.n
  have he : 1 ≤ e := by omega
  have hn : f.n * f.mD ≠ 0 ∧ (f.n * f.mD).natAbs < 1073741824 := by rcases h1 with h | h <;> rcases h2 with h' | h' | h' <;> rw [h, h'] <;> decide
  refine callW_def' (f := 445) (ps := [Str.ofString "self"]) (ge := rawGe [(Str.ofString "parts", .ref 386)]) he rfl (by kernel_rfl) (by intro v0; show _ = _; kernel_rfl) (by kernel_rfl) (fun gd => geOk_raw (by kernel_rfl)) rfl (fun env => ?_)
  clear he
  dsimp only [mkLE, rawGe, List.map]
  repeat (tb_start)
  refine ⟨.ref 431, meth_inst .frozen (by kernel_rfl) (by kernel_rfl), callee_K (by kernel_rfl), most_down_spec (by tb_rel) ?_⟩
  repeat (tb_start)
  exact parts_spec (by tb_rel) hn.1 hn.2 hQ

noncomputable def FrI.a (f : FrI) (p : Nat) : Int := if p = 0 then f.a0 else f.a1
noncomputable def FrI.d (f : FrI) (p : Nat) : Int := if p = 0 then f.d0 else f.d1
theorem FrI.Ok.a {f : FrI} (h : f.Ok) (p : Nat) : f.a p = 1 ∨ f.a p = 2 := by have := h.a0; have := h.a1; unfold FrI.a; split <;> assumption
theorem FrI.Ok.d {f : FrI} (h : f.Ok) (p : Nat) : f.d p = 1 ∨ f.d p = 2 := by have := h.d0; have := h.d1; unfold FrI.d; split <;> assumption
noncomputable def FrI.pw (f : FrI) (p : Nat) : Int := f.mcA * f.a p
noncomputable def FrI.ph (f : FrI) (p : Nat) : Int := f.mcD * f.d p
noncomputable def FrI.sw (f : FrI) (p : Nat) : Int := (f.w * f.a p + f.mA - 1).fdiv f.mA
noncomputable def FrI.sh (f : FrI) (p : Nat) : Int := (f.h * f.d p + f.mD - 1).fdiv f.mD
noncomputable def FrI.bw (f : FrI) (p : Nat) : Int := (f.sw p + f.n - 1).fdiv f.n
noncomputable def FrI.bh (f : FrI) (p : Nat) : Int := (f.sh p + f.n - 1).fdiv f.n

theorem FrI.comp_at {f : FrI} {p : Nat} (hp : p = 0 ∨ p = 1) : ([compAV 1 f.a0 f.d0, compAV 2 f.a1 f.d1] : List AV)[((p : Nat) : Int).toNat]? = some (compAV ((p : Nat) + 1) (f.a p) (f.d p)) := by
  rcases hp with rfl | rfl <;> rfl

theorem padded_spec {f : FrI} {p : Nat} {Q : AV → MH → Prop} (he : 3 ≤ e) (hf : f.Ok) (hp : p = 0 ∨ p = 1) (hQ : Q (.tup [.int (f.pw p), .int (f.ph p)]) μ) : CallW c e (.raw (.ref 466)) [f.av, .int (p : Nat)] μ Q := by
  have he' := he
  have ha := hf.a p
  have hd' := hf.d p
  have he : 1 ≤ e := by omega
  refine callW_def' (f := 466) (ps := [Str.ofString "self", Str.ofString "place"]) (ge := rawGe []) he rfl (by kernel_rfl) (by intro v0 v1; show _ = _; kernel_rfl) (by kernel_rfl) (fun gd => geOk_raw (by kernel_rfl)) rfl (fun env => ?_)
  clear he
  dsimp only [mkLE, rawGe, List.map]
  repeat (tb_start)
  refine sub_lst (by tb_rel) (FrI.comp_at hp) ?_ (by tb_rel)
  repeat (tb_start)
  refine ⟨.ref 438, meth_inst .frozen (by kernel_rfl) (by kernel_rfl), callee_K (by kernel_rfl), mcus_across_spec (by tb_rel) hf ?_⟩
  repeat (tb_start)
  refine ⟨.ref 445, meth_inst .frozen (by kernel_rfl) (by kernel_rfl), callee_K (by kernel_rfl), mcus_down_spec (by tb_rel) hf ?_⟩
  repeat (tb_start)
  exact hQ

theorem size_spec {f : FrI} {p : Nat} {Q : AV → MH → Prop} (he : 3 ≤ e) (hf : f.Ok) (hp : p = 0 ∨ p = 1) (hQ : Q (.tup [.int (f.sw p), .int (f.sh p)]) μ) : CallW c e (.raw (.ref 452)) [f.av, .int (p : Nat)] μ Q := by
  have he' := he
  have ha := hf.a p
  have hd' := hf.d p
  have h1 := hf.mA
  have h2 := hf.mD
  have he : 1 ≤ e := by omega
  refine callW_def' (f := 452) (ps := [Str.ofString "self", Str.ofString "place"]) (ge := rawGe [(Str.ofString "parts", .ref 386)]) he rfl (by kernel_rfl) (by intro v0 v1; show _ = _; kernel_rfl) (by kernel_rfl) (fun gd => geOk_raw (by kernel_rfl)) rfl (fun env => ?_)
  clear he
  dsimp only [mkLE, rawGe, List.map]
  repeat (tb_start)
  refine sub_lst (by tb_rel) (FrI.comp_at hp) ?_ (by tb_rel)
  repeat (tb_start)
  refine ⟨.ref 426, meth_inst .frozen (by kernel_rfl) (by kernel_rfl), callee_K (by kernel_rfl), most_across_spec (by tb_rel) ?_⟩
  repeat (tb_start)
  refine parts_spec (by tb_rel) (by tb_rel) (by tb_rel) ?_
  repeat (tb_start)
  refine ⟨.ref 431, meth_inst .frozen (by kernel_rfl) (by kernel_rfl), callee_K (by kernel_rfl), most_down_spec (by tb_rel) ?_⟩
  repeat (tb_start)
  refine parts_spec (by tb_rel) (by tb_rel) (by tb_rel) ?_
  repeat (tb_start)
  exact hQ

theorem blocks_spec {f : FrI} {p : Nat} {Q : AV → MH → Prop} (he : 4 ≤ e) (hf : f.Ok) (hp : p = 0 ∨ p = 1) (hQ : Q (.tup [.int (f.bw p), .int (f.bh p)]) μ) : CallW c e (.raw (.ref 459)) [f.av, .int (p : Nat)] μ Q := by
  have he' := he
  have h1 := hf.n
  have he : 1 ≤ e := by omega
  refine callW_def' (f := 459) (ps := [Str.ofString "self", Str.ofString "place"]) (ge := rawGe [(Str.ofString "parts", .ref 386)]) he rfl (by kernel_rfl) (by intro v0 v1; show _ = _; kernel_rfl) (by kernel_rfl) (fun gd => geOk_raw (by kernel_rfl)) rfl (fun env => ?_)
  clear he
  dsimp only [mkLE, rawGe, List.map]
  repeat (tb_start)
  refine ws_assign_tuple ?_
  repeat (tb_start)
  first | refine kMeth_i (f := .ref 452) (meth_inst .frozen (by kernel_rfl) (by kernel_rfl)) (callee_K (by kernel_rfl)) ?_ | refine ⟨.ref 452, meth_inst .frozen (by kernel_rfl) (by kernel_rfl), callee_K (by kernel_rfl), ?_⟩
  repeat (tb_start)
  refine size_spec (by tb_rel) hf hp ?_
  refine wab_tuple rfl (wa_name (by tb_rel) (wa_name (by tb_rel) ?_))
  repeat (tb_start)
  refine parts_spec (by tb_rel) (by tb_rel) (by tb_rel) ?_
  repeat (tb_start)
  refine parts_spec (by tb_rel) (by tb_rel) (by tb_rel) ?_
  repeat (tb_start)
  exact hQ
end


section
variable {c : Cx} {e : Nat} {μ : MH}

noncomputable def zzRow (n t : Int) : List Int := if (t.fmod 2 == 1) = true then rngL (max 0 (t - n + 1)) 1 (min t (n - 1) + 1 - max 0 (t - n + 1)).toNat else rngL (min t (n - 1)) (-1) (min t (n - 1) - (max 0 (t - n + 1) - 1)).toNat
noncomputable def zzLine (n t : Int) : List Int := (zzRow n t).map fun y => y * n + t - y
noncomputable def zz (n : Int) : List Int := (rngL 0 1 (2 * n - 1 - 0).toNat).flatMap (zzLine n)

theorem flat_len {α β : Type} {f : α → List β} {k : Nat} : ∀ {xs : List α}, (∀ x ∈ xs, (f x).length ≤ k) → (xs.flatMap f).length ≤ xs.length * k
  | [], _ => by simp
  | x :: r, h => by
    rw [List.flatMap_cons, List.length_append, List.length_cons, Nat.succ_mul]
    have := h x (.head _)
    have := flat_len (f := f) (k := k) (xs := r) fun y hy => h y (.tail _ hy)
    omega
theorem zzRow_len {n t : Int} (hn : 1 ≤ n ∧ n ≤ 8) : (zzRow n t).length ≤ 8 := by
  unfold zzRow
  split
  · rw [rngL_len]; omega
  · rw [rngL_len]; omega
theorem zzLine_len {n t : Int} (hn : 1 ≤ n ∧ n ≤ 8) : (zzLine n t).length ≤ 8 := by
  unfold zzLine; rw [List.length_map]; exact zzRow_len hn

theorem zz_spec {n : Int} {Q : AV → MH → Prop} (he : 1 ≤ e) (hn : 1 ≤ n ∧ n ≤ 8) (hQ : ∀ μ', MLe μ μ' → Q (.tup ((zz n).map .int)) μ') : CallW c e (.raw (.ref 68)) [.int n] μ Q := by
  refine callW_def' (f := 68) (ps := [Str.ofString "n"]) (ge := rawGe [(Str.ofString "range", .type "range"), (Str.ofString "max", .builtin "max"), (Str.ofString "min", .builtin "min"), (Str.ofString "tuple", .type "tuple")]) he rfl (by kernel_rfl) (by intro v0; show _ = _; kernel_rfl) (by kernel_rfl) (fun gd => geOk_raw (by kernel_rfl)) rfl (fun env => ?_)
  clear he
  dsimp only [mkLE, rawGe, List.map]
  refine wss_cons (ws_assign (we_lstM 0 (wl_nil ⟨by decide, fun a ha => ⟨_, by tb_rel, ?_⟩⟩)))
  refine wss_cons (ws_for (it_of ?_))
  repeat (tb_start)
  refine ⟨_, items_up (by tb_rel) (by tb_rel) (by tb_rel) (by tb_rel), ?_⟩
  refine loop_ind (fun i le m => ∃ t l h r y, le = [(Str.ofString "n", some (.int n)), (Str.ofString "found", some (.ref a)), (Str.ofString "total", t), (Str.ofString "low", l), (Str.ofString "high", h), (Str.ofString "rows", r), (Str.ofString "y", y)] ∧
      m = updM μ a (.list 0 ((((rngL 0 1 (2 * n - 1 - 0).toNat).take i).flatMap (zzLine n)).map .int))) ⟨_, _, _, _, _, rfl, rfl⟩ ?_ ?_
  · rintro i v le m hi ⟨t, l, h, r, y, rfl, rfl⟩
    obtain ⟨hlt, rfl⟩ := rngL_get hi
    have hb : (i : Int) < 2 * n - 1 := by omega
    refine wa_name (by tb_rel) ?_
    repeat (tb_start)
    generalize hM : updM μ a (.list 0 ((((rngL 0 1 (2 * n - 1 - 0).toNat).take i).flatMap (zzLine n)).map .int)) = M
    refine WE.mono (Q := fun v m => m = M ∧ ItemsOf v ((zzRow n (0 + (i : Int) * 1)).map .int)) ?_ ?_
    · refine we_ifexp ?_
      repeat (tb_start)
      refine ⟨fun hq => ?_, fun hq => ?_⟩
      · repeat (tb_start)
        refine ⟨rfl, ?_⟩
        unfold zzRow; rw [if_pos hq]
        exact items_up (by tb_rel) (by tb_rel) (by tb_rel) (by tb_rel)
      · repeat (tb_start)
        refine ⟨rfl, ?_⟩
        unfold zzRow; rw [if_neg (by rw [hq]; exact Bool.false_ne_true)]
        exact items_down (by tb_rel) (by tb_rel) (by tb_rel) (by tb_rel)
    rintro v m ⟨rfl, hit⟩
    subst hM
    refine ⟨_, by tb_rel, ?_⟩
    refine wss_cons (ws_for (it_of (we_local (by tb_rel) ⟨_, hit, ?_⟩)))
    refine loop_ind (fun j le m => ∃ y, le = [(Str.ofString "n", some (.int n)), (Str.ofString "found", some (.ref a)), (Str.ofString "total", some (.int (0 + (i : Int) * 1))), (Str.ofString "low", some (.int (max 0 (0 + (i : Int) * 1 - n + 1)))), (Str.ofString "high", some (.int (min (0 + (i : Int) * 1) (n - 1)))), (Str.ofString "rows", some v), (Str.ofString "y", y)] ∧
      m = updM μ a (.list 0 (((((rngL 0 1 (2 * n - 1 - 0).toNat).take i).flatMap (zzLine n)) ++ (((zzRow n (0 + (i : Int) * 1)).take j).map fun y => y * n + (0 + (i : Int) * 1) - y)).map .int))) ⟨_, rfl, by simp⟩ ?_ ?_
    · rintro j v' le m hj ⟨y, rfl, rfl⟩
      obtain ⟨x, hx, rfl⟩ := ints_get hj
      refine wa_name (by tb_rel) ?_
      have hl1 : ((((rngL 0 1 (2 * n - 1 - 0).toNat).take i).flatMap (zzLine n)) ++ (((zzRow n (0 + (i : Int) * 1)).take j).map fun y => y * n + (0 + (i : Int) * 1) - y)).length ≤ 1000 := by
        have q1 := flat_len (f := zzLine n) (k := 8) (xs := (rngL 0 1 (2 * n - 1 - 0).toNat).take i) fun x _ => zzLine_len hn
        have q2 := zzRow_len (n := n) (t := 0 + (i : Int) * 1) hn
        rw [List.length_take, rngL_len] at q1
        rw [List.length_append, List.length_map, List.length_take]
        omega
      have hl2 : (List.map AV.int ((((rngL 0 1 (2 * n - 1 - 0).toNat).take i).flatMap (zzLine n)) ++ (((zzRow n (0 + (i : Int) * 1)).take j).map fun y => y * n + (0 + (i : Int) * 1) - y))).length ≤ 16777216 := by rw [List.length_map]; omega
      repeat (tb_start)
      rw [List.take_succ, hx]
      simp
    · rintro le m ⟨y, rfl, rfl⟩
      repeat (tb_start)
      refine ⟨_, _, _, _, _, rfl, ?_⟩
      rw [rngL_take_succ hlt, List.flatMap_append, List.length_map, List.take_length]
      simp [zzLine]
  · rintro le m ⟨t, l, h, r, y, rfl, rfl⟩
    rw [List.take_of_length_le (by simp)]
    repeat (tb_start)
    refine callW_tuple_ref (updM_self _ _ _) (hQ _ ((MLe.refl _).upd ha)) ?_
    have q1 := flat_len (f := zzLine n) (k := 8) (xs := rngL 0 1 (2 * n - 1 - 0).toNat) fun x _ => zzLine_len hn
    rw [rngL_len] at q1
    rw [List.length_map]
    omega
end


section
variable {c : Cx} {e : Nat} {μ : MH}

theorem order_spec {n : Int} {Q : AV → MH → Prop} (he : 2 ≤ e) (hn : n = 2 ∨ n = 3 ∨ n = 4) (hQ : ∀ μ', MLe μ μ' → Q (.tup ((zz n).map .int)) μ') : CallW c e (.raw (.ref 293)) [.int n] μ Q := by
  have he' := he
  have he : 1 ≤ e := by omega
  refine callW_def' (f := 293) (ps := [Str.ofString "n"]) (ge := rawGe [(Str.ofString "ORDER_8", .ref 286), (Str.ofString "zigzag_places", .ref 68)]) he rfl (by kernel_rfl) (by intro v0; show _ = _; kernel_rfl) (by kernel_rfl) (fun gd => geOk_raw (by kernel_rfl)) rfl (fun env => ?_)
  clear he
  dsimp only [mkLE, rawGe, List.map]
  refine wss_cons (ws_return (we_ifexp ?_))
  repeat (tb_start)
  refine ⟨fun hq => ?_, fun _ => ?_⟩
  · have := eq_of_beq hq; omega
  repeat (tb_start)
  exact zz_spec (by tb_rel) (by tb_rel) hQ

noncomputable def rkTo (n : Int) : Nat → List Int
  | 0 => List.replicate (n * n).toNat 0
  | i + 1 => (rkTo n i).set ((zz n).getD i 0).toNat i
theorem rkTo_len (n : Int) : ∀ i, (rkTo n i).length = (n * n).toNat
  | 0 => by simp [rkTo]
  | i + 1 => by rw [rkTo, List.length_set]; exact rkTo_len n i
noncomputable def rk (n : Int) : List Int := rkTo n (zz n).length
theorem zz_in {n : Int} (hn : n = 2 ∨ n = 3 ∨ n = 4) : ∀ x ∈ zz n, 0 ≤ x ∧ x < n * n := by
  rcases hn with rfl | rfl | rfl <;> decide

theorem ranks_spec {n : Int} {Q : AV → MH → Prop} (he : 3 ≤ e) (hn : n = 2 ∨ n = 3 ∨ n = 4) (hQ : ∀ μ', MLe μ μ' → Q (.tup ((rk n).map .int)) μ') : CallW c e (.raw (.ref 300)) [.int n] μ Q := by
  have he' := he
  have he : 1 ≤ e := by omega
  have hnn : 4 ≤ n * n ∧ n * n ≤ 16 := by rcases hn with rfl | rfl | rfl <;> decide
  refine callW_def' (f := 300) (ps := [Str.ofString "n"]) (ge := rawGe [(Str.ofString "order", .ref 293), (Str.ofString "tuple", .type "tuple")]) he rfl (by kernel_rfl) (by intro v0; show _ = _; kernel_rfl) (by kernel_rfl) (fun gd => geOk_raw (by kernel_rfl)) rfl (fun env => ?_)
  clear he
  dsimp only [mkLE, rawGe, List.map]
  refine wss_cons (ws_assign (we_bin (we_lst (wl_cons (we_int (wl_nil ⟨by decide, ?_⟩))))))
  repeat (tb_start)
  refine bin_mul_lstM 0 (by tb_rel) (by tb_rel) fun a ha => ?_
  repeat (tb_start)
  refine ws_for (it_of ?_)
  repeat (tb_start)
  refine order_spec (by tb_rel) hn fun μ₁ h1 => ⟨_, .tup _, ?_⟩
  have e0 : List.replicate (n * n).toNat (AV.int 0) = (rkTo n 0).map .int := by rw [rkTo, List.map_replicate]
  have hm1 : μ₁ a = some (.list 0 ((rkTo n 0).map .int)) := by rw [← e0]; exact h1 _ _ (updM_self _ _ _)
  have hle : MLe μ μ₁ := ((MLe.refl μ).upd ha).trans h1
  refine loop_ind (fun i le m => ∃ p, le = [(Str.ofString "n", some (.int n)), (Str.ofString "found", some (.ref a)), (Str.ofString "rank", some (.int i)), (Str.ofString "place", p)] ∧ MLe μ m ∧ m a = some (.list 0 ((rkTo n i).map .int))) ⟨_, rfl, hle, hm1⟩ ?_ ?_
  · rintro i v le m hi ⟨p, rfl, hm, hma⟩
    obtain ⟨x, hx, rfl⟩ := ints_get hi
    have hin := zz_in hn x (List.mem_of_getElem? hx)
    have hl : (List.map AV.int (rkTo n i)).length = (n * n).toNat := by rw [List.length_map, rkTo_len]
    refine wa_name (by tb_rel) ?_
    repeat (tb_start)
    refine ⟨hm.upd ha, ?_⟩
    rw [updM_self, rkTo, List.map_set]
    have : (zz n).getD i 0 = x := by rw [List.getD_eq_getElem?_getD, hx]; rfl
    rw [this]
  · rintro le m ⟨p, rfl, hm, hma⟩
    rw [List.length_map] at hma
    repeat (tb_start)
    exact callW_tuple_ref hma (hQ _ hm) (by rw [List.length_map, rkTo_len]; omega)
end


section
variable {c : Cx} {e : Nat} {μ : MH}

theorem frz_ret {μ' : MH} {a : Addr} {tg : Nat} {vs : List AV} {Q : AV → MH → Prop} (hm : μ' a = some (.list tg vs)) (hle : MLe μ μ') (ha : μ a = none) (hQ : ∀ m, MLe μ m → Q (.lst vs) m) : ∃ a' S, Fz S μ' (.ref a) a' ∧ Q a' (delS S μ') :=
  ⟨.lst vs, fun b => b == a, .list (by simp) hm (FzL.same _), hQ _ (hle.del fun b hb => by rw [beq_iff_eq] at hb; rw [hb]; exact ha)⟩

structure ScI where
  ps : List Int
  s : Int
  e : Int
  l : Int
noncomputable def ScI.av (x : ScI) : AV := scanAV x.ps x.s x.e x.l
structure ScI.Ok (x : ScI) (many : Int) : Prop where
  s : 0 ≤ x.s
  se : x.s ≤ x.e
  e : x.e < many
  l : 0 ≤ x.l ∧ x.l ≤ 2
theorem ScI.Ok.at {x : ScI} {many : Int} (h : x.Ok many) (hm : many ≤ 16) {j : Nat} (hj : j < (x.e + 1 - x.s).toNat) : 0 ≤ x.s + (j : Int) * 1 ∧ (x.s + (j : Int) * 1).toNat < many.toNat ∧ x.s + (j : Int) * 1 < 2 ^ 63 := by
  have := h.s; have := h.e; omega
noncomputable def setR (xs : List Int) (a v : Int) : Nat → List Int
  | 0 => xs
  | i + 1 => (setR xs a v i).set (a + i * 1).toNat v
theorem setR_len (xs : List Int) (a v : Int) : ∀ n, (setR xs a v n).length = xs.length
  | 0 => rfl
  | n + 1 => by rw [setR, List.length_set]; exact setR_len xs a v n
noncomputable def lowStep (place : Int) (known : List Int) (x : ScI) : List Int := if (x.ps.any (· == place)) = true then setR known x.s x.l (x.e + 1 - x.s).toNat else known
theorem lowStep_len (place : Int) (known : List Int) (x : ScI) : (lowStep place known x).length = known.length := by
  unfold lowStep; split
  · exact setR_len ..
  · rfl
noncomputable def lowTo (scans : List ScI) (place many : Int) (i : Nat) : List Int := (scans.take i).foldl (lowStep place) (List.replicate many.toNat (-1))
theorem fold_len {f : List Int → ScI → List Int} (hf : ∀ a x, (f a x).length = a.length) : ∀ (xs : List ScI) (a : List Int), (xs.foldl f a).length = a.length
  | [], a => rfl
  | x :: r, a => by rw [List.foldl_cons, fold_len hf r, hf]
theorem lowTo_len (scans : List ScI) (place many : Int) (i : Nat) : (lowTo scans place many i).length = many.toNat := by
  unfold lowTo; rw [fold_len (lowStep_len place), List.length_replicate]
theorem lowTo_succ {scans : List ScI} {place many : Int} {i : Nat} {x : ScI} (h : scans[i]? = some x) : lowTo scans place many (i + 1) = lowStep place (lowTo scans place many i) x := by
  unfold lowTo
  rw [List.take_succ, h, Option.toList_some, List.foldl_append]; rfl
noncomputable def lows (scans : List ScI) (place many : Int) : List Int := lowTo scans place many scans.length

theorem known_spec {scans : List ScI} {place many : Int} {Q : AV → MH → Prop} (he : 1 ≤ e) (hs : ∀ x ∈ scans, x.Ok many) (hm : 1 ≤ many ∧ many ≤ 16) (hQ : ∀ μ', MLe μ μ' → Q (.lst ((lows scans place many).map .int)) μ') :
    CallW c e (.raw (.ref 318)) [.lst (scans.map ScI.av), .int place, .int many] μ Q := by
  refine CallW.frz ?_
  refine callW_def' (f := 318) (ps := [Str.ofString "scans", Str.ofString "place", Str.ofString "many"]) (ge := (Str.ofString "UNKNOWN", .int (-1)) :: rawGe [(Str.ofString "range", .type "range"), (Str.ofString "min", .builtin "min")]) he rfl (by kernel_rfl) (by intro v0 v1 v2; show _ = _; kernel_rfl) (by kernel_rfl) (fun gd => ⟨⟨by kernel_rfl, _, .inl rfl, .int _ _⟩, geOk_raw (by kernel_rfl)⟩) rfl (fun env => ?_)
  clear he
  dsimp only [mkLE, rawGe, List.map]
  refine wss_cons (ws_assign (we_bin (we_lst (wl_cons ?_))))
  repeat (tb_start)
  refine bin_mul_lstM 0 (by tb_rel) (by tb_rel) fun a ha => ?_
  repeat (tb_start)
  refine ws_for (it_of ?_)
  repeat (tb_start)
  refine ⟨_, .lst _, ?_⟩
  have e0 : List.replicate many.toNat (AV.int (-1)) = (lowTo scans place many 0).map .int := by unfold lowTo; rw [List.take_zero, List.foldl_nil, List.map_replicate]
  rw [e0]
  refine loop_ind (fun i le m => ∃ s r, le = [(Str.ofString "scans", some (.lst (scans.map ScI.av))), (Str.ofString "place", some (.int place)), (Str.ofString "many", some (.int many)), (Str.ofString "known", some (.ref a)), (Str.ofString "scan", s), (Str.ofString "rank", r)] ∧
    m = updM μ a (.list 0 ((lowTo scans place many i).map .int))) ⟨_, _, rfl, rfl⟩ ?_ ?_
  · rintro i v le m hi ⟨s, r, rfl, rfl⟩
    rw [List.getElem?_map] at hi
    obtain ⟨x, hx, rfl⟩ := Option.map_eq_some_iff.mp hi
    have ox := hs x (List.mem_of_getElem? hx)
    obtain ⟨o1, o2, o3, o4⟩ := ox
    refine wa_name (by tb_rel) ?_
    unfold ScI.av scanAV
    repeat (tb_start)
    refine cmp_in_ints ⟨fun hq => ?_, fun hq => ?_⟩
    · repeat (tb_start)
      refine ws_for (it_of ?_)
      repeat (tb_start)
      refine ⟨_, items_up (by tb_rel) (by tb_rel) (by tb_rel) (by tb_rel), ?_⟩
      have hn : (min x.e (many - 1) + 1 - x.s).toNat = (x.e + 1 - x.s).toNat := by rw [Int.min_eq_left (Int.le_sub_one_of_lt o3)]
      rw [hn]
      refine loop_ind (fun j le m => ∃ r, le = [(Str.ofString "scans", some (.lst (scans.map ScI.av))), (Str.ofString "place", some (.int place)), (Str.ofString "many", some (.int many)), (Str.ofString "known", some (.ref a)), (Str.ofString "scan", some (scanAV x.ps x.s x.e x.l)), (Str.ofString "rank", r)] ∧
        m = updM μ a (.list 0 ((setR (lowTo scans place many i) x.s x.l j).map .int))) ⟨_, rfl, rfl⟩ ?_ ?_
      · rintro j v' le m hj ⟨r, rfl, rfl⟩
        obtain ⟨hlt, rfl⟩ := rngL_get hj
        have hl : (List.map AV.int (setR (lowTo scans place many i) x.s x.l j)).length = many.toNat := by rw [List.length_map, setR_len, lowTo_len]
        obtain ⟨hat0, hat1, hat2⟩ := ScI.Ok.at ⟨o1, o2, o3, o4⟩ hm.2 hlt
        rw [← hl] at hat1
        refine wa_name (by tb_rel) ?_
        unfold scanAV
        repeat (tb_start)
        rw [setR, List.map_set]
      · rintro le m ⟨r, rfl, rfl⟩
        repeat (tb_start)
        refine ⟨_, _, rfl, ?_⟩
        rw [lowTo_succ hx, List.length_map, rngL_len, lowStep, if_pos hq]
    · repeat (tb_start)
      refine ⟨_, _, rfl, ?_⟩
      rw [lowTo_succ hx, lowStep, if_neg (by rw [hq]; exact Bool.false_ne_true)]
  · rintro le m ⟨s, r, rfl, rfl⟩
    rw [List.length_map]
    repeat (tb_start)
    exact frz_ret (updM_self _ _ _) ((MLe.refl _).upd ha) ha hQ
end


section
variable {c : Cx} {e : Nat} {μ : MH}

structure Pat where
  x : Int
  y : Int
  few : Int
  many : Int
  w : List Int
noncomputable def pats : List Pat := [⟨1, 0, 32, 36, [0, 0, 0, 1, 0, -1, 0, 0, 0]⟩, ⟨0, 1, 32, 36, [0, 1, 0, 0, 0, 0, 0, -1, 0]⟩, ⟨0, 2, 0, 9, [0, 1, 0, 0, -2, 0, 0, 1, 0]⟩, ⟨1, 1, 4, 5, [1, 0, -1, 0, 0, 0, -1, 0, 1]⟩, ⟨2, 0, 0, 9, [0, 0, 0, 1, -2, 1, 0, 0, 0]⟩]
noncomputable def Pat.av (p : Pat) : AV := .tup [.int p.x, .int p.y, .int p.few, .int p.many, .tup (p.w.map .int)]
theorem vr_pats (gd : Gd c) : VR c c.base.get? (.tup (pats.map Pat.av)) (.ref 311) := by
  refine .tup (gd.X 311 _ rfl) rfl rfl ?_
  repeat (first | exact VRs.nil | exact VR.int _ _ | refine VRs.cons ?_ ?_ | refine VR.tup (gd.X _ _ rfl) rfl rfl ?_)
theorem pat_facts : ∀ p ∈ pats, (0 ≤ p.x ∧ p.x ≤ 2) ∧ (0 ≤ p.y ∧ p.y ≤ 2) ∧ (0 ≤ p.few ∧ p.few ≤ 36) ∧ (0 ≤ p.many ∧ p.many ≤ 36) ∧ p.w.length = 9 ∧ p.w.all (fun v => decide (-2 ≤ v ∧ v ≤ 2)) = true := by decide

noncomputable def gr (n : Int) (p : Pat) : Option Int := if p.x < n ∧ p.y < n then some ((rk n).getD (p.y * n + p.x).toNat 0) else none
noncomputable def optI : Option Int → AV
  | none => .none
  | some i => .int i
theorem rk_len (n : Int) : (rk n).length = (n * n).toNat := rkTo_len _ _
theorem pat_place {n : Int} {p : Pat} (hn : n = 2 ∨ n = 3 ∨ n = 4) (hp : p ∈ pats) (h : p.x < n ∧ p.y < n) : 0 ≤ p.y * n + p.x ∧ p.y * n + p.x < n * n := by
  obtain ⟨h1, h2, _⟩ := pat_facts p hp
  rcases hn with rfl | rfl | rfl <;> omega

theorem guessed_ranks_spec {n : Int} {Q : AV → MH → Prop} (he : 4 ≤ e) (hn : n = 2 ∨ n = 3 ∨ n = 4) (hQ : ∀ μ', MLe μ μ' → Q (.lst (pats.map fun p => optI (gr n p))) μ') : CallW c e (.raw (.ref 325)) [.int n] μ Q := by
  have he' := he
  have he : 1 ≤ e := by omega
  refine CallW.frz ?_
  refine callW_def' (f := 325) (ps := [Str.ofString "n"]) (ge := (Str.ofString "PATTERNS", .tup (pats.map Pat.av)) :: rawGe [(Str.ofString "ranks", .ref 300)]) he rfl (by kernel_rfl) (by intro v0; show _ = _; kernel_rfl) (by kernel_rfl) (fun gd => ⟨⟨by kernel_rfl, _, .inl rfl, vr_pats gd⟩, geOk_raw (by kernel_rfl)⟩) rfl (fun env => ?_)
  clear he
  dsimp only [mkLE, rawGe, List.map]
  refine wss_cons (ws_assign ?_)
  repeat (tb_start)
  refine ranks_spec (by tb_rel) hn fun μ₁ h1 => ?_
  repeat (tb_start)
  refine we_lstM 0 (wl_nil ⟨by decide, fun a ha => ?_⟩)
  repeat (tb_start)
  refine ws_for (it_of ?_)
  repeat (tb_start)
  refine ⟨_, .tup _, ?_⟩
  refine loop_ind (fun i le m => ∃ a1 a2 a3 a4 a5, le = [(Str.ofString "n", some (.int n)), (Str.ofString "told", some (.tup ((rk n).map .int))), (Str.ofString "found", some (.ref a)), (Str.ofString "across", a1), (Str.ofString "down", a2), (Str.ofString "few", a3), (Str.ofString "many", a4), (Str.ofString "weights", a5)] ∧
    m = updM μ₁ a (.list 0 ((pats.take i).map fun p => optI (gr n p)))) ⟨_, _, _, _, _, rfl, by simp⟩ ?_ ?_
  · rintro i v le m hi ⟨a1, a2, a3, a4, a5, rfl, rfl⟩
    rw [List.getElem?_map] at hi
    obtain ⟨p, hp, rfl⟩ := Option.map_eq_some_iff.mp hi
    have hmem := List.mem_of_getElem? hp
    have hi5 : i < 5 := (List.getElem?_eq_some_iff.mp hp).1
    refine wab_tuple rfl (wa_name (by tb_rel) (wa_name (by tb_rel) (wa_name (by tb_rel) (wa_name (by tb_rel) (wa_name (by tb_rel) ?_)))))
    repeat (tb_start)
    refine WE.mono (Q := fun v m => m = updM μ₁ a (.list 0 ((pats.take i).map fun p => optI (gr n p))) ∧ v = optI (gr n p)) ?_ ?_
    · refine we_ifexp ?_
      repeat (tb_start)
      have no : ¬ (p.x < n ∧ p.y < n) → gr n p = none := fun h => by unfold gr; rw [if_neg h]
      refine ⟨fun hx => ⟨by first | exact ft | exact tf, fun _ => ?_⟩, fun hx => ?_⟩
      · repeat (tb_start)
        have := of_decide_eq_false hx
        refine ⟨rfl, ?_⟩
        rw [no (fun h => this h.1)]; rfl
      have hx := of_decide_eq_true hx
      repeat (tb_start)
      refine ⟨fun hy => ?_, fun hy => ?_⟩
      · have hy := of_decide_eq_true hy
        obtain ⟨q1, q2⟩ := pat_place hn hmem ⟨hx, hy⟩
        have hg : gr n p = some ((rk n).getD (p.y * n + p.x).toNat 0) := by unfold gr; rw [if_pos ⟨hx, hy⟩]
        have := pat_facts p hmem
        repeat (tb_start)
        refine sub_tup q1 (get_ints (by rw [rk_len]; omega)) ⟨rfl, ?_⟩ (by rcases hn with rfl | rfl | rfl <;> omega)
        rw [hg]; rfl
      · repeat (tb_start)
        have := of_decide_eq_false hy
        refine ⟨rfl, ?_⟩
        rw [no (fun h => this h.2)]; rfl
    rintro v m ⟨rfl, rfl⟩
    have hl : (List.map (fun p => optI (gr n p)) (List.take i pats)).length ≤ 16777216 := by rw [List.length_map, List.length_take]; omega
    repeat (tb_start)
    refine ⟨_, _, _, _, _, rfl, ?_⟩
    rw [List.take_succ, hp]
    simp
  · rintro le m ⟨a1, a2, a3, a4, a5, rfl, rfl⟩
    repeat (tb_start)
    rw [List.length_map, List.take_length]
    exact frz_ret (updM_self _ _ _) (h1.upd (h1.gone ha)) (h1.gone ha) hQ
end


section
variable {c : Cx} {e : Nat} {μ : MH}

noncomputable def worthP (known : List Int) (n : Int) (p : Pat) : Bool := match gr n p with
  | some r => known.getD r.toNat 0 != 0
  | none => false
noncomputable def worth (known : List Int) (n : Int) : Bool := !(known.getD 0 0 == -1) && pats.any (worthP known n)
theorem gr_in {n : Int} (hn : n = 2 ∨ n = 3 ∨ n = 4) : ∀ p ∈ pats, ∀ r, gr n p = some r → 0 ≤ r ∧ r < n * n := by
  rcases hn with rfl | rfl | rfl <;> decide +kernel

theorem is_worth_spec {n : Int} {known : List Int} {Q : AV → MH → Prop} (he : 5 ≤ e) (hn : n = 2 ∨ n = 3 ∨ n = 4) (hk : known.length = (n * n).toNat) (hQ : ∀ μ', MLe μ μ' → Q (.bool (worth known n)) μ') :
    CallW c e (.raw (.ref 332)) [.lst (known.map .int), .int n] μ Q := by
  have he' := he
  have he : 1 ≤ e := by omega
  have hnn : 4 ≤ n * n ∧ n * n ≤ 16 := by rcases hn with rfl | rfl | rfl <;> decide
  refine callW_def' (f := 332) (ps := [Str.ofString "known", Str.ofString "n"]) (ge := (Str.ofString "UNKNOWN", .int (-1)) :: rawGe [(Str.ofString "guessed_ranks", .ref 325)]) he rfl (by kernel_rfl) (by intro v0 v1; show _ = _; kernel_rfl) (by kernel_rfl) (fun gd => ⟨⟨by kernel_rfl, _, .inl rfl, .int _ _⟩, geOk_raw (by kernel_rfl)⟩) rfl (fun env => ?_)
  clear he
  dsimp only [mkLE, rawGe, List.map]
  refine wss_cons (ws_if (wb_cmp (we_sub ?_)))
  repeat (tb_start)
  refine sub_lst (by tb_rel) (get_ints (by show (0 : Int).toNat < _; rw [hk]; omega)) ?_ (by tb_rel)
  repeat (tb_start)
  refine ⟨fun h0 => ?_, fun h0 => ?_⟩
  · repeat (tb_start)
    have h0 : (known.getD 0 0 == -1) = true := h0
    have : worth known n = false := by unfold worth; rw [h0]; rfl
    rw [← this]; exact hQ _ (MLe.refl _)
  have h0 : (known.getD 0 0 == -1) = false := h0
  repeat (tb_start)
  refine ws_for (it_of ?_)
  repeat (tb_start)
  refine guessed_ranks_spec (by tb_rel) hn fun μ₁ h1 => ⟨_, .lst _, ?_⟩
  refine loop_ind (fun i le m => ∃ r, le = [(Str.ofString "known", some (.lst (known.map .int))), (Str.ofString "n", some (.int n)), (Str.ofString "rank", r)] ∧ MLe μ m ∧ (pats.take i).any (worthP known n) = false) ⟨_, rfl, h1, rfl⟩ ?_ ?_
  · rintro i v le m hi ⟨r, rfl, hm, hany⟩
    rw [List.getElem?_map] at hi
    obtain ⟨p, hp, rfl⟩ := Option.map_eq_some_iff.mp hi
    have hmem := List.mem_of_getElem? hp
    have hsucc : worthP known n p = false → (pats.take (i + 1)).any (worthP known n) = false := fun h => by
      rw [List.take_succ, hp, Option.toList_some, List.any_append, hany, List.any_cons, h]; rfl
    refine wa_name (by tb_rel) ?_
    refine wss_cons (ws_if (wb_and ?_))
    cases hg : gr n p with
    | none =>
      have hw : worthP known n p = false := by unfold worthP; rw [hg]
      repeat (tb_start)
      refine cmp_isnot (nr rfl) ⟨fun _ => ⟨by first | exact ft | exact tf, fun _ => ?_⟩, by first | exact tf | exact ft⟩
      repeat (tb_start)
      exact ⟨hm, hsucc hw⟩
    | some r =>
      obtain ⟨q1, q2⟩ := gr_in hn p hmem r hg
      have hw : worthP known n p = (known.getD r.toNat 0 != 0) := by unfold worthP; rw [hg]
      repeat (tb_start)
      refine cmp_isnot (nr rfl) ⟨by first | exact ft | exact tf, fun _ => ?_⟩
      repeat (tb_start)
      refine sub_lst q1 (get_ints (by tb_rel)) ?_ (by tb_rel)
      repeat (tb_start)
      refine ⟨fun hq => ?_, fun hq => ?_⟩
      · repeat (tb_start)
        have : worth known n = true := by
          unfold worth
          rw [h0]
          exact List.any_eq_true.mpr ⟨p, hmem, hw.trans hq⟩
        show Q (.bool true) _
        rw [← this]; exact hQ _ hm
      · repeat (tb_start)
        exact ⟨hm, hsucc (hw.trans hq)⟩
  · rintro le m ⟨r, rfl, hm, hany⟩
    repeat (tb_start)
    rw [List.length_map, List.take_length] at hany
    have : worth known n = false := by unfold worth; rw [hany, Bool.and_false]
    rw [← this]; exact hQ _ hm

noncomputable def gsF (number d : Int) : Int := (d * 2 ^ (7 : Int).toNat + (if number < 0 then -number else number)).fdiv (d * 2 ^ (8 : Int).toNat)
noncomputable def gsG (f known : Int) : Int := if 0 < known ∧ 1 * 2 ^ known.toNat ≤ f then 1 * 2 ^ known.toNat - 1 else f
noncomputable def gs (number d known : Int) : Int := if number < 0 then -(gsG (gsF number d) known) else gsG (gsF number d) known
theorem gs_spec {number d known : Int} {Q : AV → MH → Prop} (he : 1 ≤ e) (h1 : 1 ≤ d ∧ d ≤ 1000) (h2 : known ≤ 1000) (hQ : Q (.int (gs number d known)) μ) : CallW c e (.raw (.ref 339)) [.int number, .int d, .int known] μ Q := by
  have e8 : d * 2 ^ (8 : Int).toNat = d * 256 := rfl
  have hd1 : d * 2 ^ (8 : Int).toNat ≠ 0 := by rw [e8]; omega
  have hd2 : (d * 2 ^ (8 : Int).toNat).natAbs < 1073741824 := by rw [e8]; omega
  refine callW_def' (f := 339) (ps := [Str.ofString "number", Str.ofString "divisor", Str.ofString "known"]) (ge := rawGe [(Str.ofString "abs", .builtin "abs")]) he rfl (by kernel_rfl) (by intro v0 v1 v2; show _ = _; kernel_rfl) (by kernel_rfl) (fun gd => geOk_raw (by kernel_rfl)) rfl (fun env => ?_)
  clear he
  dsimp only [mkLE, rawGe, List.map]
  repeat (tb_start)
  have fin : ∀ g, gsG (gsF number d) known = g → (number < 0 → Q (.int (-g)) μ) ∧ (¬ number < 0 → Q (.int g) μ) := fun g hg => by
    subst hg
    unfold gs at hQ
    exact ⟨fun h => by rw [if_pos h] at hQ; exact hQ, fun h => by rw [if_neg h] at hQ; exact hQ⟩
  have hf : gsF number d = (d * 2 ^ (7 : Int).toNat + (if number < 0 then -number else number)).fdiv (d * 2 ^ (8 : Int).toNat) := rfl
  rw [← hf]
  generalize gsF number d = f at *
  refine ⟨fun hk => ⟨by first | exact ft | exact tf, fun _ => ?_⟩, fun hk => ?_⟩
  · have hk := of_decide_eq_false hk
    have := fin f (by unfold gsG; rw [if_neg (fun h => hk h.1)])
    refine wss_nil (wss_cons (ws_return (we_ifexp ?_)))
    repeat (tb_start)
    refine ⟨fun hn => ?_, fun hn => ?_⟩
    · repeat (tb_start)
      exact this.1 (of_decide_eq_true hn)
    · repeat (tb_start)
      exact this.2 (of_decide_eq_false hn)
  have hk := of_decide_eq_true hk
  repeat (tb_start)
  refine ⟨fun hg => ?_, fun hg => ?_⟩
  · have hg := of_decide_eq_true hg
    have := fin (1 * 2 ^ known.toNat - 1) (by unfold gsG; rw [if_pos ⟨hk, hg⟩])
    repeat (tb_start)
    refine we_ifexp ?_
    repeat (tb_start)
    refine ⟨fun hn => ?_, fun hn => ?_⟩
    · repeat (tb_start)
      exact this.1 (of_decide_eq_true hn)
    · repeat (tb_start)
      exact this.2 (of_decide_eq_false hn)
  · have hg := of_decide_eq_false hg
    have := fin f (by unfold gsG; rw [if_neg (fun h => hg h.2)])
    refine wss_nil (wss_cons (ws_return (we_ifexp ?_)))
    repeat (tb_start)
    refine ⟨fun hn => ?_, fun hn => ?_⟩
    · repeat (tb_start)
      exact this.1 (of_decide_eq_true hn)
    · repeat (tb_start)
      exact this.2 (of_decide_eq_false hn)

noncomputable def dot (ws ns : List Int) : List Int := List.zipWith (· * ·) ws ns
theorem weighed_spec {ws ns : List Int} {Q : AV → MH → Prop} (he : 1 ≤ e) (hl : ws.length ≤ ns.length) (hs : ws.length ≤ 1000) (hw : ∀ w ∈ ws, -2 ≤ w ∧ w ≤ 2) (hQ : Q (.int (dot ws ns).sum) μ) : CallW c e (.raw (.ref 344)) [.tup (ws.map .int), .lst (ns.map .int)] μ Q := by
  refine callW_def' (f := 344) (ps := [Str.ofString "weights", Str.ofString "nine"]) (ge := rawGe [(Str.ofString "sum", .builtin "sum"), (Str.ofString "zip", .type "zip")]) he rfl (by kernel_rfl) (by intro v0 v1; show _ = _; kernel_rfl) (by kernel_rfl) (fun gd => geOk_raw (by kernel_rfl)) rfl (fun env => ?_)
  clear he
  dsimp only [mkLE, rawGe, List.map]
  repeat (tb_start)
  refine we_comp (ge := rawGe []) (by tb_rel) (by kernel_rfl) (geOk_raw (by kernel_rfl)) (it_call ?_)
  repeat (tb_start)
  refine callI_zip_tl (by rw [List.length_map, List.length_map]; exact hl) ⟨by unfold zipAV; rw [List.length_zipWith, List.length_map]; omega, fun env' => ?_⟩
  refine comp_ind (fun i le m ys => ∃ o a b, le = [(Str.ofString ".0", o), (Str.ofString "weight", a), (Str.ofString "one", b)] ∧ m = μ ∧ ys = ((dot ws ns).take i).map .int) ⟨_, _, _, rfl, rfl, rfl⟩ ?_ ?_
  · rintro i v le m ys hi ⟨o, a, b, rfl, rfl, rfl⟩
    obtain ⟨x', y', hx', hy', rfl⟩ := zipAV_get hi
    obtain ⟨x, hx, rfl⟩ := ints_get hx'
    obtain ⟨y, hy, rfl⟩ := ints_get hy'
    clear hx' hy'
    have := hw x (List.mem_of_getElem? hx)
    refine wab_tuple rfl (wl_name (by kernel_rfl) (by tb_rel) (wl_name (by kernel_rfl) (by tb_rel) ⟨fun _ => ?_, by first | exact tf | exact ft⟩))
    repeat (tb_start)
    refine ⟨_, _, _, rfl, rfl, ?_⟩
    have : (dot ws ns)[i]? = some (x * y) := by unfold dot; rw [List.getElem?_zipWith, hx, hy]
    rw [List.take_succ, this]
    simp
  · rintro le m ys ⟨o, a, b, rfl, rfl, rfl⟩
    have : (zipAV (ws.map AV.int) (ns.map AV.int)).length = (dot ws ns).length := by unfold zipAV dot; simp
    rw [this, List.take_length]
    repeat (tb_start)
    exact callW_sum hQ
end


section
variable {c : Cx} {e : Nat} {μ : MH}

noncomputable def share (n : Int) (p : Pat) : Int := if 2 < n then p.many else p.few
noncomputable def smStep (row nine tb known : List Int) (n : Int) (found : List Int) (p : Pat) : List Int := match gr n p with
  | none => found
  | some r => if (known.getD r.toNat 0 != 0) = true ∧ (row.getD r.toNat 0 == 0) = true then found.set r.toNat (gs (share n p * tb.getD 0 0 * (dot p.w nine).sum) (tb.getD r.toNat 0) (known.getD r.toNat 0)) else found
theorem smStep_len (row nine tb known : List Int) (n : Int) (found : List Int) (p : Pat) : (smStep row nine tb known n found p).length = found.length := by
  unfold smStep
  split
  · rfl
  · split
    · rw [List.length_set]
    · rfl
noncomputable def smTo (row nine tb known : List Int) (n : Int) (i : Nat) : List Int := (pats.take i).foldl (smStep row nine tb known n) row
theorem foldP_len {f : List Int → Pat → List Int} (hf : ∀ a x, (f a x).length = a.length) : ∀ (xs : List Pat) (a : List Int), (xs.foldl f a).length = a.length
  | [], a => rfl
  | x :: r, a => by rw [List.foldl_cons, foldP_len hf r, hf]
theorem smTo_len (row nine tb known : List Int) (n : Int) (i : Nat) : (smTo row nine tb known n i).length = row.length := foldP_len (fun a x => smStep_len ..) _ _
theorem smTo_succ {row nine tb known : List Int} {n : Int} {i : Nat} {p : Pat} (h : pats[i]? = some p) : smTo row nine tb known n (i + 1) = smStep row nine tb known n (smTo row nine tb known n i) p := by
  unfold smTo
  rw [List.take_succ, h, Option.toList_some, List.foldl_append]; rfl
noncomputable def smRow (row nine tb known : List Int) (n : Int) : List Int := smTo row nine tb known n 5

structure TbOk (tb : List Int) (n : Int) : Prop where
  len : tb.length = (n * n).toNat
  pos : ∀ t ∈ tb, 1 ≤ t ∧ t ≤ 1000
theorem getD_mem' {xs : List Int} {i : Nat} (h : i < xs.length) : xs.getD i 0 ∈ xs := by
  rw [List.getD_eq_getElem?_getD, List.getElem?_eq_getElem h]; exact List.getElem_mem h
theorem TbOk.at {tb : List Int} {n : Int} (h : TbOk tb n) {i : Nat} (hi : i < (n * n).toNat) : 1 ≤ tb.getD i 0 ∧ tb.getD i 0 ≤ 1000 := h.pos _ (getD_mem' (by rw [h.len]; exact hi))

theorem smoothed_row_spec {row nine tb known : List Int} {n : Int} {Q : AV → MH → Prop} (he : 5 ≤ e) (hn : n = 2 ∨ n = 3 ∨ n = 4) (hr : row.length = (n * n).toNat) (h9 : nine.length = 9) (ht : TbOk tb n) (hk : known.length = (n * n).toNat) (hk2 : ∀ k ∈ known, k ≤ 2)
    (hQ : ∀ μ', MLe μ μ' → Q (.lst ((smRow row nine tb known n).map .int)) μ') : CallW c e (.raw (.ref 351)) [.lst (row.map .int), .lst (nine.map .int), .lst (tb.map .int), .lst (known.map .int), .int n] μ Q := by
  have he' := he
  have he : 1 ≤ e := by omega
  have hnn : 4 ≤ n * n ∧ n * n ≤ 16 := by rcases hn with rfl | rfl | rfl <;> decide
  refine CallW.frz ?_
  refine callW_def' (f := 351) (ps := [Str.ofString "row", Str.ofString "nine", Str.ofString "qtable", Str.ofString "known", Str.ofString "n"]) (ge := (Str.ofString "PATTERNS", .tup (pats.map Pat.av)) :: rawGe [(Str.ofString "list", .type "list"), (Str.ofString "guessed_ranks", .ref 325), (Str.ofString "range", .type "range"), (Str.ofString "len", .builtin "len"), (Str.ofString "weighed", .ref 344), (Str.ofString "guessed", .ref 339)]) he rfl (by kernel_rfl) (by intro v0 v1 v2 v3 v4; show _ = _; kernel_rfl) (by kernel_rfl) (fun gd => ⟨⟨by kernel_rfl, _, .inl rfl, vr_pats gd⟩, geOk_raw (by kernel_rfl)⟩) rfl (fun env => ?_)
  clear he
  dsimp only [mkLE, rawGe, List.map]
  repeat (tb_start)
  refine callW_list_lst (tg' := 0) (fun a ha => ?_) (by rw [List.length_map]; omega)
  repeat (tb_start)
  refine guessed_ranks_spec (by tb_rel) hn fun μ₁ h1 => ?_
  have hm1 : μ₁ a = some (.list 0 (row.map .int)) := h1 _ _ (updM_self _ _ _)
  have hle : MLe μ μ₁ := ((MLe.refl μ).upd ha).trans h1
  repeat (tb_start)
  refine ws_for (it_of ?_)
  repeat (tb_start)
  refine call_len_tup ?_ (by decide)
  repeat (tb_start)
  refine ⟨_, items_up (a := 0) (b := ((pats.map Pat.av).length : Nat)) (by tb_rel) (by tb_rel) (by decide) (by decide), ?_⟩
  refine loop_j (fun i le m => ∃ at_ a1 a2 a3 a4 a5 rank number, le = [(Str.ofString "row", some (.lst (row.map .int))), (Str.ofString "nine", some (.lst (nine.map .int))), (Str.ofString "qtable", some (.lst (tb.map .int))), (Str.ofString "known", some (.lst (known.map .int))), (Str.ofString "n", some (.int n)),
      (Str.ofString "found", some (.ref a)), (Str.ofString "places", some (.lst (pats.map fun p => optI (gr n p)))), (Str.ofString "at", at_), (Str.ofString "across", a1), (Str.ofString "down", a2), (Str.ofString "few", a3), (Str.ofString "many", a4), (Str.ofString "weights", a5), (Str.ofString "rank", rank), (Str.ofString "number", number)] ∧
    MLe μ m ∧ m a = some (.list 0 ((smTo row nine tb known n i).map .int))) ⟨_, _, _, _, _, _, _, _, rfl, hle, hm1⟩ ?_ ?_
  · rintro i v le m hi ⟨at_, a1, a2, a3, a4, a5, rank, number, rfl, hm, hma⟩ J hJ _ _
    obtain ⟨hlt, rfl⟩ := rngL_get hi
    have h5 : i < 5 := hlt
    obtain ⟨p, hp⟩ : ∃ p, pats[i]? = some p := ⟨pats[i], List.getElem?_eq_getElem h5⟩
    have hmem := List.mem_of_getElem? hp
    obtain ⟨f1, f2, f3, f4, f5, f6⟩ := pat_facts p hmem
    have hi0 : (0 + (i : Int) * 1).toNat = i := by omega
    refine wa_name (by tb_rel) ?_
    refine wss_cons (ws_assign_tuple (we_sub ?_))
    repeat (tb_start)
    refine sub_tup (by tb_rel) (by rw [hi0]; exact get_map hp) ?_ (by tb_rel)
    refine wab_tuple (vs := [.int p.x, .int p.y, .int p.few, .int p.many, .tup (p.w.map .int)]) rfl (wa_name (by tb_rel) (wa_name (by tb_rel) (wa_name (by tb_rel) (wa_name (by tb_rel) (wa_name (by tb_rel) ?_)))))
    repeat (tb_start)
    refine sub_lst (by tb_rel) (by rw [hi0]; exact get_map hp) ?_ (by tb_rel)
    have keep : smStep row nine tb known n (smTo row nine tb known n i) p = smTo row nine tb known n i → ((smTo row nine tb known n (i + 1)).map AV.int) = (smTo row nine tb known n i).map .int := fun h => by rw [smTo_succ hp, h]
    repeat (tb_start)
    refine wb_and3 ?_
    cases hg : gr n p with
    | none =>
      have hs : smStep row nine tb known n (smTo row nine tb known n i) p = smTo row nine tb known n i := by unfold smStep; rw [hg]
      repeat (tb_start)
      refine cmp_isnot (nr rfl) ⟨fun _ => ⟨by first | exact ft | exact tf, fun _ => ?_⟩, by first | exact tf | exact ft⟩
      repeat (tb_start)
      exact hJ _ _ ⟨_, _, _, _, _, _, _, _, rfl, hm, by rw [hma, keep hs]⟩
    | some r =>
      obtain ⟨q1, q2⟩ := gr_in hn p hmem r hg
      have hrn : r.toNat < (n * n).toNat := tolt q1 q2
      have hs : smStep row nine tb known n (smTo row nine tb known n i) p = if (known.getD r.toNat 0 != 0) = true ∧ (row.getD r.toNat 0 == 0) = true then (smTo row nine tb known n i).set r.toNat (gs (share n p * tb.getD 0 0 * (dot p.w nine).sum) (tb.getD r.toNat 0) (known.getD r.toNat 0)) else smTo row nine tb known n i := by
        unfold smStep; rw [hg]
      repeat (tb_start)
      refine cmp_isnot (nr rfl) ⟨by first | exact ft | exact tf, fun _ => ?_⟩
      repeat (tb_start)
      refine sub_lst q1 (get_ints (by tb_rel)) ?_ (by tb_rel)
      repeat (tb_start)
      refine ⟨fun hq => ⟨by first | exact ft | exact tf, fun _ => ?_⟩, fun hq => ?_⟩
      · repeat (tb_start)
        rw [if_neg (fun h => by rw [h.1] at hq; cases hq)] at hs
        exact hJ _ _ ⟨_, _, _, _, _, _, _, _, rfl, hm, by rw [hma, keep hs]⟩
      repeat (tb_start)
      refine sub_lst q1 (get_ints (by tb_rel)) ?_ (by tb_rel)
      repeat (tb_start)
      refine ⟨fun hq0 => ?_, fun hq0 => ?_⟩
      · rw [if_pos ⟨hq, hq0⟩] at hs
        have ht0 := ht.at (i := (0 : Int).toNat) (by show (0 : Nat) < _; omega)
        have htr := ht.at hrn
        have hkr := hk2 _ (getD_mem' (by rw [hk]; exact hrn))
        have hsh : 0 ≤ share n p ∧ share n p ≤ 36 := by unfold share; split <;> omega
        have hprod : (share n p * tb.getD (0 : Int).toNat 0).natAbs < 2 ^ 64 := by
          have e1 : (share n p * tb.getD (0 : Int).toNat 0).natAbs = (share n p).natAbs * (tb.getD (0 : Int).toNat 0).natAbs := Int.natAbs_mul ..
          have e2 : (share n p).natAbs * (tb.getD (0 : Int).toNat 0).natAbs ≤ 36 * 1000 := Nat.mul_le_mul (by tb_rel) (by tb_rel)
          rw [e1]; omega
        refine wss_cons (ws_assign (we_bin (we_bin (WE.mono (Q := fun v m' => m' = m ∧ v = .int (share n p)) ?_ ?_))))
        · refine we_ifexp ?_
          repeat (tb_start)
          refine ⟨fun h => ?_, fun h => ?_⟩
          · have h := of_decide_eq_true h
            repeat (tb_start)
            exact ⟨rfl, by unfold share; rw [if_pos h]⟩
          · have h := of_decide_eq_false h
            repeat (tb_start)
            exact ⟨rfl, by unfold share; rw [if_neg h]⟩
        rintro v m' ⟨rfl, rfl⟩
        repeat (tb_start)
        refine sub_lst (by tb_rel) (get_ints (by rw [ht.len]; show (0 : Nat) < _; omega)) ?_ (by tb_rel)
        repeat (tb_start)
        refine weighed_spec (by tb_rel) (by tb_rel) (by tb_rel) (fun w hw => by simpa using List.all_eq_true.mp f6 w hw) ?_
        repeat (tb_start)
        refine sub_lst q1 (get_ints (by rw [ht.len]; exact hrn)) ?_ (by tb_rel)
        repeat (tb_start)
        refine sub_lst q1 (get_ints (by rw [hk]; exact hrn)) ?_ (by tb_rel)
        repeat (tb_start)
        refine gs_spec (by tb_rel) htr (by tb_rel) ?_
        repeat (tb_start)
        have hlen : (List.map AV.int (smTo row nine tb known n i)).length = (n * n).toNat := by rw [List.length_map, smTo_len, hr]
        refine set_ref (k := r) hma q1 (by tb_rel) ?_ (by tb_rel)
        repeat (tb_start)
        refine hJ _ _ ⟨_, _, _, _, _, _, _, _, rfl, hm.upd ha, ?_⟩
        rw [updM_self, smTo_succ hp, hs, List.map_set]
        rfl
      · repeat (tb_start)
        rw [if_neg (fun h => by rw [h.2] at hq0; cases hq0)] at hs
        exact hJ _ _ ⟨_, _, _, _, _, _, _, _, rfl, hm, by rw [hma, keep hs]⟩
  · rintro le m ⟨at_, a1, a2, a3, a4, a5, rank, number, rfl, hm, hma⟩
    repeat (tb_start)
    exact frz_ret hma hm ha hQ
end


noncomputable abbrev Pl := Nat → Nat → Nat → Option (List Int)
noncomputable def rowAV : Option (List Int) → AV
  | none => .none
  | some r => .lst (r.map .int)
noncomputable def gfAV (many : Int) (H W : Nat → Nat) (pl : Pl) : AV := .inst 50 [(Str.ofString "many", .int many), (Str.ofString "planes", .lst ((List.range 2).map fun p => .lst ((List.range (H p)).map fun y => .lst ((List.range (W p)).map fun x => rowAV (pl p y x)))))]
noncomputable def gmAV (many : Int) (H : Nat → Nat) (ln : Nat → Nat → Addr) : AV := .inst 50 [(Str.ofString "many", .int many), (Str.ofString "planes", .lst ((List.range 2).map fun p => .lst ((List.range (H p)).map fun y => .ref (ln p y))))]
noncomputable def CellOk (μ : MH) (v : AV) : Option (List Int) → Prop
  | none => v = .none
  | some r => ∃ q, v = .ref q ∧ μ q = some (.list 1 (r.map .int))
structure GM (μ : MH) (ln : Nat → Nat → Addr) (H W : Nat → Nat) (pl : Pl) : Prop where
  line : ∀ p < 2, ∀ y < H p, ∃ cs : List AV, μ (ln p y) = some (.list 3 cs) ∧ cs.length = W p ∧ ∀ x < W p, ∃ v, cs[x]? = some v ∧ CellOk μ v (pl p y x)
  inj : ∀ p < 2, ∀ y < H p, ∀ p' < 2, ∀ y' < H p', ln p y = ln p' y' → p = p' ∧ y = y'
theorem CellOk.keep {μ μ' : MH} {v : AV} {o : Option (List Int)} (h : CellOk μ v o) (k : ∀ q r, μ q = some (.list 1 r) → μ' q = some (.list 1 r)) : CellOk μ' v o := by
  cases o with
  | none => exact h
  | some r => obtain ⟨q, e1, e2⟩ := h; exact ⟨q, e1, k _ _ e2⟩
theorem GM.congr {μ : MH} {ln : Nat → Nat → Addr} {H W : Nat → Nat} {pl pl' : Pl} (h : GM μ ln H W pl) (e : ∀ p < 2, ∀ y < H p, ∀ x < W p, pl p y x = pl' p y x) : GM μ ln H W pl' :=
  ⟨fun p hp y hy => let ⟨cs, q1, q2, q3⟩ := h.line p hp y hy; ⟨cs, q1, q2, fun x hx => by rw [← e p hp y hy x hx]; exact q3 x hx⟩, h.inj⟩
theorem GM.keep {μ μ' : MH} {ln : Nat → Nat → Addr} {H W : Nat → Nat} {pl : Pl} (h : GM μ ln H W pl) (k : ∀ q t r, (t = 1 ∨ t = 3) → μ q = some (.list t r) → μ' q = some (.list t r)) : GM μ' ln H W pl :=
  ⟨fun p hp y hy => let ⟨cs, q1, q2, q3⟩ := h.line p hp y hy; ⟨cs, k _ _ _ (.inr rfl) q1, q2, fun x hx => let ⟨v, a, b⟩ := q3 x hx; ⟨v, a, b.keep fun q r => k q 1 r (.inl rfl)⟩⟩, h.inj⟩
noncomputable def upd3 (pl : Pl) (p y x : Nat) (r : Option (List Int)) : Pl := fun p' y' x' => if p' = p ∧ y' = y ∧ x' = x then r else pl p' y' x'
theorem GM.put {μ : MH} {ln : Nat → Nat → Addr} {H W : Nat → Nat} {pl : Pl} {p y x : Nat} {cs : List AV} {q : Addr} {row : List Int} (h : GM μ ln H W pl) (hp : p < 2) (hy : y < H p) (hl : μ (ln p y) = some (.list 3 cs)) (hq : μ q = none) :
    GM (updM (updM μ q (.list 1 (row.map .int))) (ln p y) (.list 3 (cs.set x (.ref q)))) ln H W (upd3 pl p y x (some row)) := by
  have hne : q ≠ ln p y := fun e => by rw [e, hl] at hq; cases hq
  have keep : ∀ q' r, μ q' = some (.list 1 r) → updM (updM μ q (.list 1 (row.map .int))) (ln p y) (.list 3 (cs.set x (.ref q))) q' = some (.list 1 r) := fun q' r e => by
    rw [updM_ne (fun e' => by rw [e', hl] at e; cases e), updM_ne (fun e' => by rw [e', hq] at e; cases e)]; exact e
  refine ⟨fun p' hp' y' hy' => ?_, h.inj⟩
  obtain ⟨cs', q1, q2, q3⟩ := h.line p' hp' y' hy'
  by_cases he : ln p' y' = ln p y
  · obtain ⟨rfl, rfl⟩ := h.inj p' hp' y' hy' p hp y hy he
    rw [hl] at q1
    injection q1 with q1; injection q1 with _ q1
    subst q1
    refine ⟨_, updM_self _ _ _, by rw [List.length_set]; exact q2, fun x' hx' => ?_⟩
    by_cases hx : x' = x
    · subst hx
      refine ⟨.ref q, by rw [List.getElem?_set_self (by tb_rel)], ?_⟩
      unfold upd3
      rw [if_pos ⟨rfl, rfl, rfl⟩]
      exact ⟨q, rfl, by rw [updM_ne hne]; exact updM_self _ _ _⟩
    · obtain ⟨v, a, b⟩ := q3 x' hx'
      refine ⟨v, by rw [List.getElem?_set_ne (Ne.symm hx)]; exact a, ?_⟩
      unfold upd3
      rw [if_neg (fun h => hx h.2.2)]
      exact b.keep keep
  · refine ⟨cs', ?_, q2, fun x' hx' => ?_⟩
    · rw [updM_ne he, updM_ne (fun e' => by rw [e', hq] at q1; cases q1)]; exact q1
    · obtain ⟨v, a, b⟩ := q3 x' hx'
      refine ⟨v, a, ?_⟩
      unfold upd3
      rw [if_neg (fun h => he (by rw [h.1, h.2.1]))]
      exact b.keep keep

section
variable {c : Cx} {e : Nat} {μ : MH}

theorem get_range {α : Type} {f : Nat → α} {n i : Nat} (h : i < n) : ((List.range n).map f)[((i : Nat) : Int).toNat]? = some (f i) := by
  rw [Int.toNat_natCast, List.getElem?_map, List.getElem?_range h]; rfl

theorem put_spec {many : Int} {ln : Nat → Nat → Addr} {H W : Nat → Nat} {p y x : Nat} {cs : List AV} {row : List Int} {Q : AV → MH → Prop} (he : 1 ≤ e) (hp : p < 2) (hy : y < H p) (hl : μ (ln p y) = some (.list 3 cs)) (hx : x < cs.length) (hb : x < 1000000 ∧ y < 1000000) (hr : row.length ≤ 1000)
    (hQ : ∀ q, μ q = none → Q .none (updM (updM μ q (.list 1 (row.map .int))) (ln p y) (.list 3 (cs.set x (.ref q))))) :
    CallW c e (.raw (.ref 47)) [gmAV many H ln, .int (p : Nat), .int (x : Nat), .int (y : Nat), .lst (row.map .int)] μ Q := by
  unfold gmAV
  refine callW_def' (f := 47) (ps := [Str.ofString "self", Str.ofString "place", Str.ofString "x", Str.ofString "y", Str.ofString "row"]) (ge := rawGe [(Str.ofString "list", .type "list")]) he rfl (by kernel_rfl) (by intro v0 v1 v2 v3 v4; show _ = _; kernel_rfl) (by kernel_rfl) (fun gd => geOk_raw (by kernel_rfl)) rfl (fun env => ?_)
  clear he
  dsimp only [mkLE, rawGe, List.map]
  repeat (tb_start)
  refine callW_list_lst (tg' := 1) (fun q hq => ?_) (by rw [List.length_map]; omega)
  have hne : ln p y ≠ q := fun e => by rw [← e, hl] at hq; cases hq
  repeat (tb_start)
  refine sub_lst (by tb_rel) (get_range hp) ?_ (by tb_rel)
  repeat (tb_start)
  refine sub_lst (by tb_rel) (get_range hy) ?_ (by tb_rel)
  repeat (tb_start)
  rw [Int.toNat_natCast]
  exact hQ q hq

noncomputable def rowOr (many : Int) : Option (List Int) → List Int
  | none => List.replicate many.toNat 0
  | some r => r
theorem get_spec {many : Int} {H W : Nat → Nat} {pl : Pl} {p y x : Nat} {Q : AV → MH → Prop} (he : 1 ≤ e) (hp : p < 2) (hy : y < H p) (hx : x < W p) (hb : x < 1000000 ∧ y < 1000000) (hm : 0 ≤ many ∧ many ≤ 1000) (hQ : Q (.lst ((rowOr many (pl p y x)).map .int)) μ) :
    CallW c e (.raw (.ref 40)) [gfAV many H W pl, .int (p : Nat), .int (x : Nat), .int (y : Nat)] μ Q := by
  unfold gfAV
  refine callW_def' (f := 40) (ps := [Str.ofString "self", Str.ofString "place", Str.ofString "x", Str.ofString "y"]) (ge := rawGe []) he rfl (by kernel_rfl) (by intro v0 v1 v2 v3; show _ = _; kernel_rfl) (by kernel_rfl) (fun gd => geOk_raw (by kernel_rfl)) rfl (fun env => ?_)
  clear he
  dsimp only [mkLE, rawGe, List.map]
  repeat (tb_start)
  refine sub_lst (by tb_rel) (get_range hp) ?_ (by tb_rel)
  repeat (tb_start)
  refine sub_lst (by tb_rel) (get_range hy) ?_ (by tb_rel)
  repeat (tb_start)
  refine sub_lst (by tb_rel) (get_range hx) ?_ (by tb_rel)
  repeat (tb_start)
  refine we_ifexp ?_
  cases hpl : pl p y x with
  | none =>
    rw [hpl] at hQ
    repeat (tb_start)
    refine cmp_is (nr rfl) ⟨fun _ => ?_, by first | exact tf | exact ft⟩
    refine we_bin (we_lst ?_)
    repeat (tb_start)
    refine bin_mul_lst (by tb_rel) (by tb_rel) ?_
    rw [rowOr, List.map_replicate] at hQ
    exact hQ
  | some r =>
    rw [hpl] at hQ
    repeat (tb_start)
    refine cmp_is (nr rfl) ⟨by first | exact ft | exact tf, fun _ => ?_⟩
    repeat (tb_start)
    exact hQ
end


section
variable {c : Cx} {e : Nat} {μ : MH}

noncomputable def FrI.H (f : FrI) (p : Nat) : Nat := (f.ph p).toNat
noncomputable def FrI.W (f : FrI) (p : Nat) : Nat := (f.pw p).toNat
theorem dimsD : ∀ n ∈ ([2, 3, 4] : List Int), ∀ s ∈ List.range 13, ∀ x ∈ ([1, 2] : List Int), ∀ m ∈ ([1, 2] : List Int), 1 ≤ (s : Int) ∧ (s : Int) ≤ 3 * n ∧ x ≤ m →
    (1 ≤ ((s : Int) + n * m - 1).fdiv (n * m) * x ∧ ((s : Int) + n * m - 1).fdiv (n * m) * x ≤ 1000) ∧ 1 ≤ (((s : Int) * x + m - 1).fdiv m + n - 1).fdiv n ∧ (((s : Int) * x + m - 1).fdiv m + n - 1).fdiv n ≤ ((s : Int) + n * m - 1).fdiv (n * m) * x := by decide +kernel
theorem in3 {n : Int} (h : n = 2 ∨ n = 3 ∨ n = 4) : n ∈ ([2, 3, 4] : List Int) := by rcases h with rfl | rfl | rfl <;> decide
theorem in2 {n : Int} (h : n = 1 ∨ n = 2) : n ∈ ([1, 2] : List Int) := by rcases h with rfl | rfl <;> decide
theorem dims {n s x m : Int} (hn : n = 2 ∨ n = 3 ∨ n = 4) (hs : 1 ≤ s ∧ s ≤ 3 * n) (hx : x = 1 ∨ x = 2) (hm : m = 1 ∨ m = 2) (hxm : x ≤ m) :
    (1 ≤ (s + n * m - 1).fdiv (n * m) * x ∧ (s + n * m - 1).fdiv (n * m) * x ≤ 1000) ∧ 1 ≤ ((s * x + m - 1).fdiv m + n - 1).fdiv n ∧ ((s * x + m - 1).fdiv m + n - 1).fdiv n ≤ (s + n * m - 1).fdiv (n * m) * x := by
  obtain ⟨k, rfl⟩ := Int.eq_ofNat_of_zero_le (show 0 ≤ s by have := hs.1; omega)
  have hk : k < 13 := by clear hx hm hxm; omega
  exact dimsD n (in3 hn) k (List.mem_range.mpr hk) x (in2 hx) m (in2 hm) ⟨hs.1, hs.2, hxm⟩
theorem FrI.Ok.small {f : FrI} (h : f.Ok) (p : Nat) (hp : p = 0 ∨ p = 1) : (1 ≤ f.ph p ∧ f.ph p ≤ 1000) ∧ (1 ≤ f.pw p ∧ f.pw p ≤ 1000) ∧ (1 ≤ f.bh p ∧ f.bh p ≤ f.ph p) ∧ (1 ≤ f.bw p ∧ f.bw p ≤ f.pw p) := by
  have ha := h.a p
  have hd' := h.d p
  have hA : f.a p ≤ f.mA := by unfold FrI.a FrI.mA; split <;> omega
  have hD : f.d p ≤ f.mD := by unfold FrI.d FrI.mD; split <;> omega
  obtain ⟨x1, x2, x3⟩ := dims h.n h.w ha h.mA hA
  obtain ⟨y1, y2, y3⟩ := dims h.n h.h hd' h.mD hD
  exact ⟨y1, x1, ⟨y2, y3⟩, ⟨x2, x3⟩⟩

structure Lines (μ₀ μ : MH) (ls : List Addr) (w : Nat) : Prop where
  nd : ls.Nodup
  at_ : ∀ l ∈ ls, μ l = some (.list 3 (List.replicate w .none)) ∧ μ₀ l = none

theorem grid_init {f : FrI} {x dx : Addr} {Q : AV → MH → Prop} (he : 4 ≤ e) (hf : f.Ok) (hx : x ≠ dx) (h1 : μ x = some (.inst 50 dx)) (h2 : μ dx = some (.ns []))
    (hQ : ∀ m pa ls0 ls1, m x = some (.inst 50 dx) → m dx = some (.ns [(Str.ofString "many", .int (f.n * f.n)), (Str.ofString "planes", .ref pa)]) → m pa = some (.list 0 [.lst (ls0.map .ref), .lst (ls1.map .ref)]) → μ pa = none →
      ls0.length = f.H 0 → ls1.length = f.H 1 → Lines μ m ls0 (f.W 0) → Lines μ m ls1 (f.W 1) → (∀ l ∈ ls0, l ∉ ls1) → (∀ b o, b ≠ dx → μ b = some o → m b = some o) → Q .none m) : CallC c e (.raw (.ref 33)) [.ref x, f.av] μ Q := by
  have he' := he
  have hn := hf.n
  have s0 := hf.small 0 (.inl rfl)
  have s1 := hf.small 1 (.inr rfl)
  have he : 1 ≤ e := by omega
  refine callC_def' (f := 33) (ps := [Str.ofString "self", Str.ofString "frame"]) (ge := rawGe [(Str.ofString "range", .type "range"), (Str.ofString "len", .builtin "len")]) he rfl (by kernel_rfl) (by intro v0 v1; show _ = _; kernel_rfl) (by kernel_rfl) (fun gd => geOk_raw (by kernel_rfl)) rfl (fun env => ?_)
  clear he
  dsimp only [mkLE, rawGe, List.map]
  repeat (tb_start)
  refine we_lstM 0 (wl_nil ⟨by decide, fun pa hpa => ?_⟩)
  have hpd : pa ≠ dx := fun e => by rw [e, updM_self] at hpa; cases hpa
  have hpx : pa ≠ x := fun e => by rw [e, updM_ne hx, h1] at hpa; cases hpa
  have hpa0 : μ pa = none := by rw [updM_ne hpd] at hpa; exact hpa
  repeat (tb_start)
  refine ws_for (it_of ?_)
  repeat (tb_start)
  refine call_len_lst ?_ (by simp)
  repeat (tb_start)
  refine ⟨_, items_up (by decide) (by decide) (by simp) (by simp), ?_⟩
  have e2 : (((([compAV 1 f.a0 f.d0, compAV 2 f.a1 f.d1] : List AV).length : Nat) : Int) - 0).toNat = 2 := rfl
  rw [e2]
  refine loop_j (fun i le m => ∃ pl ac dn, le = [(Str.ofString "self", some (.ref x)), (Str.ofString "frame", some f.av), (Str.ofString "place", pl), (Str.ofString "across", ac), (Str.ofString "down", dn)] ∧
    ∃ Ls : List (List Addr), Ls.length = i ∧ m pa = some (.list 0 (Ls.map fun ls => .lst (ls.map .ref))) ∧ m x = some (.inst 50 dx) ∧ m dx = some (.ns [(Str.ofString "many", .int (f.n * f.n)), (Str.ofString "planes", .ref pa)]) ∧
      (∀ k ls, Ls[k]? = some ls → ls.length = f.H k ∧ Lines μ m ls (f.W k)) ∧ Ls.flatten.Nodup ∧ (∀ b o, b ≠ dx → μ b = some o → m b = some o)) ?_ ?_ ?_
  · refine ⟨_, _, _, rfl, [], rfl, ?_, ?_, updM_self _ _ _, fun k ls h => by simp at h, by simp, fun b o hb h => ?_⟩
    · rw [updM_ne hpd]; exact updM_self _ _ _
    · rw [updM_ne hx, updM_ne (Ne.symm hpx), updM_ne hx]; exact h1
    · rw [updM_ne hb, updM_ne (fun q => by rw [q, hpa0] at h; cases h), updM_ne hb]; exact h
  · rintro i v le m hi ⟨pl, ac, dn, rfl, Ls, hl, hmpa, hmx, hmd, hLs, hnd, hold⟩ J hJ _ _
    obtain ⟨hlt, rfl⟩ := rngL_get hi
    have hi2 : i = 0 ∨ i = 1 := by omega
    have sz := hf.small i hi2
    have ei : (0 : Int) + (i : Int) * 1 = ((i : Nat) : Int) := by omega
    rw [ei]
    refine wa_name (by tb_rel) ?_
    refine wss_cons (ws_assign_tuple ?_)
    repeat (tb_start)
    first | refine kMeth_i (f := .ref 466) (meth_inst .frozen (by kernel_rfl) (by kernel_rfl)) (callee_K (by kernel_rfl)) ?_ | refine ⟨.ref 466, meth_inst .frozen (by kernel_rfl) (by kernel_rfl), callee_K (by kernel_rfl), ?_⟩
    repeat (tb_start)
    refine padded_spec (by tb_rel) hf hi2 (wab_tuple rfl (wa_name (by tb_rel) (wa_name (by tb_rel) ?_)))
    refine wss_cons (ws_expr (we_meth (we_attr ?_)))
    repeat (tb_start)
    refine ex_live hmx hmd (by kernel_rfl) rfl (nr rfl) ?_
    repeat (tb_start)
    refine we_comp (ge := rawGe []) (by tb_rel) (by kernel_rfl) (geOk_raw (by kernel_rfl)) (it_of ?_)
    repeat (tb_start)
    refine ⟨_, items_up (by tb_rel) (by tb_rel) (by tb_rel) (by tb_rel), by rw [List.length_map, rngL_len]; omega, fun env' => ?_⟩
    refine comp_j (fun j le' m' ys => ∃ o y, le' = [(Str.ofString ".0", o), (Str.ofString "y", y), (Str.ofString "across", some (.int (f.pw i)))] ∧ ∃ ls : List Addr, ys = ls.map .ref ∧ ls.length = j ∧ Lines m m' ls (f.W i) ∧ MLe m m')
      ⟨_, _, rfl, [], rfl, rfl, ⟨by simp, fun l h => by simp at h⟩, MLe.refl _⟩ ?_ ?_
    · rintro j v le' m' ys hj ⟨o, y, rfl, ls, rfl, hlen, hL, hmle⟩ J2 hJ2
      refine wl_name (by kernel_rfl) (by tb_rel) ⟨fun _ => ?_, by first | exact tf | exact ft⟩
      refine we_bin (we_lst ?_)
      repeat (tb_start)
      refine bin_mul_lstM 3 (by tb_rel) (by tb_rel) fun l hlm => ?_
      refine hJ2 _ _ _ ⟨_, _, rfl, ls ++ [l], by simp, by rw [List.length_append, hlen]; rfl, ⟨?_, fun b hb => ?_⟩, hmle.upd (hmle.gone hlm)⟩
      · rw [List.nodup_append]
        refine ⟨hL.nd, by simp, fun a ha b hb => ?_⟩
        rw [List.mem_singleton] at hb; subst hb
        intro e; subst e
        rw [(hL.at_ _ ha).1] at hlm; cases hlm
      · rcases List.mem_append.mp hb with hb | hb
        · obtain ⟨q1, q2⟩ := hL.at_ b hb
          exact ⟨by rw [updM_ne (fun e => by rw [e, hlm] at q1; cases q1)]; exact q1, q2⟩
        · rw [List.mem_singleton] at hb; subst hb
          exact ⟨updM_self _ _ _, hmle.gone hlm⟩
    · rintro le' m' ys ⟨o, y, rfl, ls, rfl, hlen, hL, hmle⟩
      rw [List.length_map, rngL_len] at hlen
      have hpa' := hmle _ _ hmpa
      have hl2 : (List.map (fun ls : List Addr => AV.lst (ls.map .ref)) Ls).length ≤ 16777216 := by rw [List.length_map, hl]; omega
      repeat (tb_start)
      refine hJ _ _ ⟨_, _, _, rfl, Ls ++ [ls], by rw [List.length_append, hl]; rfl, by rw [updM_self]; simp, ?_, ?_, ?_, ?_, ?_⟩
      · rw [updM_ne (Ne.symm hpx)]; exact hmle _ _ hmx
      · rw [updM_ne (Ne.symm hpd)]; exact hmle _ _ hmd
      · intro k ls' hk
        by_cases hki : k < i
        · rw [List.getElem?_append_left (by tb_rel)] at hk
          obtain ⟨q1, q2⟩ := hLs k ls' hk
          refine ⟨q1, q2.nd, fun l hl' => ?_⟩
          obtain ⟨q3, q4⟩ := q2.at_ l hl'
          refine ⟨?_, q4⟩
          rw [updM_ne (fun e => by rw [e, hmpa] at q3; cases q3)]; exact hmle _ _ q3
        · have hk2 : k = i := by
            have := (List.getElem?_eq_some_iff.mp hk).1
            rw [List.length_append, List.length_singleton] at this; omega
          subst hk2
          rw [List.getElem?_append_right (by tb_rel), hl] at hk
          simp at hk
          subst hk
          refine ⟨by rw [hlen]; unfold FrI.H; rw [Int.sub_zero], hL.nd, fun l hl' => ?_⟩
          obtain ⟨q3, q4⟩ := hL.at_ l hl'
          refine ⟨by rw [updM_ne (fun e => by rw [e, hmpa] at q4; cases q4)]; exact q3, ?_⟩
          cases q : μ l with
          | none => rfl
          | some o =>
            have hld : l ≠ dx := fun e => by rw [e, hmd] at q4; cases q4
            rw [hold l o hld q] at q4; cases q4
      · rw [List.flatten_append, List.nodup_append]
        refine ⟨hnd, by simpa using hL.nd, fun b hb b' hb' e => ?_⟩
        subst e
        have hb' : b ∈ ls := by simpa using hb'
        obtain ⟨ls', h1', h2'⟩ := List.mem_flatten.mp hb
        obtain ⟨k, hk⟩ := List.getElem?_of_mem h1'
        have q1 := ((hLs k ls' hk).2.at_ b h2').1
        rw [(hL.at_ b hb').2] at q1; cases q1
      · intro b o hb hbo
        rw [updM_ne (fun e => by rw [e, hpa0] at hbo; cases hbo)]
        exact hmle _ _ (hold b o hb hbo)
  · rintro le m ⟨pl, ac, dn, rfl, Ls, hl, hmpa, hmx, hmd, hLs, hnd, hold⟩
    rw [List.length_map, rngL_len] at hl
    obtain ⟨ls0, ls1, rfl⟩ : ∃ a b, Ls = [a, b] := by
      match Ls, hl with
      | [a, b], _ => exact ⟨a, b, rfl⟩
    repeat (tb_start)
    refine hQ m pa ls0 ls1 hmx hmd hmpa hpa0 (hLs 0 ls0 rfl).1 (hLs 1 ls1 rfl).1 (hLs 0 ls0 rfl).2 (hLs 1 ls1 rfl).2 (fun l h0 h1' => ?_) hold
    simp only [List.flatten_cons, List.flatten_nil, List.append_nil, List.nodup_append] at hnd
    exact hnd.2.2 l h0 l h1' rfl

theorem ls_range {ls : List Addr} {n : Nat} (h : ls.length = n) : ls.map AV.ref = (List.range n).map fun y => AV.ref (ls.getD y 0) := by
  subst h
  apply List.ext_getElem?
  intro i
  rw [List.getElem?_map, List.getElem?_map]
  by_cases hi : i < ls.length
  · rw [List.getElem?_range hi, List.getElem?_eq_getElem hi]
    simp [List.getD_eq_getElem?_getD, List.getElem?_eq_getElem hi]
  · rw [List.getElem?_eq_none (by tb_rel), List.getElem?_eq_none (by simp; omega)]; rfl

theorem grid_make {f : FrI} {Q : AV → MH → Prop} (he : 5 ≤ e) (hf : f.Ok)
    (hQ : ∀ m ln, MLe μ m → GM m ln f.H f.W (fun _ _ _ => none) → (∀ p < 2, ∀ y < f.H p, μ (ln p y) = none) → Q (gmAV (f.n * f.n) f.H ln) m) : CallW c e (.raw (.ref 50)) [f.av] μ Q := by
  refine (CallC.frz (callC_make' (fI := 33) (by tb_rel) (by kernel_rfl) fun x dx hx hm hd => ?_)).toW
  refine grid_init (by tb_rel) hf hx (updM_self _ _ _) ((updM_ne (Ne.symm hx)).trans (updM_self _ _ _)) fun m pa ls0 ls1 q1 q2 q3 q4 l0 l1 L0 L1 hdis hold => ⟨rfl, ?_⟩
  let ln : Nat → Nat → Addr := fun p y => (if p = 0 then ls0 else ls1).getD y 0
  have hpx : pa ≠ x := fun e => by rw [e, q1] at q3; cases q3
  have hpd : pa ≠ dx := fun e => by rw [e, q2] at q3; cases q3
  have q4' : μ pa = none := by rw [updM_ne hpx, updM_ne hpd] at q4; exact q4
  have hS : ∀ l t cs, m l = some (.list t cs) → l ≠ pa → (l == x || l == dx || l == pa) = false := fun l t cs e hl => by
    have a1 : l ≠ x := fun e' => by rw [e', q1] at e; cases e
    have a2 : l ≠ dx := fun e' => by rw [e', q2] at e; cases e
    simp [a1, a2, hl]
  have h3 : ∀ l cs, m l = some (.list 3 cs) → l ≠ pa := fun l cs e e' => by rw [e', q3] at e; cases e
  have mem : ∀ p < 2, ∀ y < f.H p, (ln p y) ∈ (if p = 0 then ls0 else ls1) ∧ m (ln p y) = some (.list 3 (List.replicate (f.W p) .none)) ∧ μ (ln p y) = none := fun p hp y hy => by
    have hmu : ∀ l, updM (updM μ dx (.ns [])) x (.inst 50 dx) l = none → μ l = none := fun l e => by
      have a1 : l ≠ x := fun e' => by rw [e', updM_self] at e; cases e
      have a2 : l ≠ dx := fun e' => by rw [e', updM_ne (Ne.symm hx), updM_self] at e; cases e
      rw [updM_ne a1, updM_ne a2] at e; exact e
    have hp2 : p = 0 ∨ p = 1 := by omega
    rcases hp2 with rfl | rfl
    · have : ln 0 y ∈ ls0 := by show ls0.getD y 0 ∈ ls0; rw [List.getD_eq_getElem?_getD, List.getElem?_eq_getElem (by tb_rel)]; exact List.getElem_mem _
      exact ⟨this, (L0.at_ _ this).1, hmu _ (L0.at_ _ this).2⟩
    · have : ln 1 y ∈ ls1 := by show ls1.getD y 0 ∈ ls1; rw [List.getD_eq_getElem?_getD, List.getElem?_eq_getElem (by tb_rel)]; exact List.getElem_mem _
      exact ⟨this, (L1.at_ _ this).1, hmu _ (L1.at_ _ this).2⟩
  have e0 : ls0.map AV.ref = (List.range (f.H 0)).map fun y => AV.ref (ln 0 y) := ls_range l0
  have e1 : ls1.map AV.ref = (List.range (f.H 1)).map fun y => AV.ref (ln 1 y) := ls_range l1
  refine ⟨gmAV (f.n * f.n) f.H ln, fun b => b == x || b == dx || b == pa, ?_, hQ _ ln ?_ ⟨fun p hp y hy => ?_, fun p hp y hy p' hp' y' hy' e => ?_⟩ fun p hp y hy => (mem p hp y hy).2.2⟩
  · refine .live (by simp) (by simp) q1 q2 (.cons (.same _) (.cons (.list (by simp) q3 ?_) .nil))
    rw [e0, e1]
    exact FzL.same _
  · intro b o hb
    have b1 : b ≠ x := fun e => by rw [e, hm] at hb; cases hb
    have b2 : b ≠ dx := fun e => by rw [e, hd] at hb; cases hb
    have b3 : b ≠ pa := fun e => by rw [e, q4'] at hb; cases hb
    unfold delS
    rw [if_neg (by simp [b1, b2, b3])]
    exact hold b o b2 (by rw [updM_ne b1, updM_ne b2]; exact hb)
  · obtain ⟨_, m1, _⟩ := mem p hp y hy
    refine ⟨_, ?_, List.length_replicate, fun x' hx' => ⟨.none, by rw [List.getElem?_replicate, if_pos hx'], rfl⟩⟩
    unfold delS
    rw [if_neg (by dsimp only; rw [hS _ _ _ m1 (h3 _ _ m1)]; exact Bool.false_ne_true)]
    exact m1
  · have a1 := (mem p hp y hy).1
    have a2 := (mem p' hp' y' hy').1
    have hp2 : p = 0 ∨ p = 1 := by omega
    have hp2' : p' = 0 ∨ p' = 1 := by omega
    rcases hp2 with rfl | rfl <;> rcases hp2' with rfl | rfl
    · refine ⟨rfl, ?_⟩
      have e : ls0.getD y 0 = ls0.getD y' 0 := e
      rw [List.getD_eq_getElem?_getD, List.getD_eq_getElem?_getD, List.getElem?_eq_getElem (by tb_rel), List.getElem?_eq_getElem (by tb_rel)] at e
      exact (List.getElem_inj L0.nd).mp e
    · rw [e] at a1; exact absurd a2 (hdis _ a1)
    · rw [← e] at a2; exact absurd a1 (hdis _ a2)
    · refine ⟨rfl, ?_⟩
      have e : ls1.getD y 0 = ls1.getD y' 0 := e
      rw [List.getD_eq_getElem?_getD, List.getD_eq_getElem?_getD, List.getElem?_eq_getElem (by tb_rel), List.getElem?_eq_getElem (by tb_rel)] at e
      exact (List.getElem_inj L1.nd).mp e
end


noncomputable abbrev DoneTo (P Y X p y x : Nat) : Prop := p < P ∨ (p = P ∧ (y < Y ∨ (y = Y ∧ x < X)))
noncomputable def plD (P Y X : Nat) (pl pl' : Pl) : Pl := fun p y x => if DoneTo P Y X p y x then pl p y x else pl' p y x

theorem plD_step {i j k : Nat} {pl pl' : Pl} : plD i j (k + 1) pl pl' = upd3 (plD i j k pl pl') i j k (pl i j k) := by
  funext p y x
  unfold plD upd3
  by_cases h : p = i ∧ y = j ∧ x = k
  · obtain ⟨rfl, rfl, rfl⟩ := h
    rw [if_pos (.inr ⟨rfl, .inr ⟨rfl, Nat.lt_succ_self _⟩⟩), if_pos ⟨rfl, rfl, rfl⟩]
  · rw [if_neg h]
    have : DoneTo i j (k + 1) p y x ↔ DoneTo i j k p y x :=
      ⟨fun a => a.imp id fun a => ⟨a.1, a.2.imp id fun b => ⟨b.1, Nat.lt_of_le_of_ne (Nat.le_of_lt_succ b.2) fun e => h ⟨a.1, b.1, e⟩⟩⟩, fun a => a.imp id fun a => ⟨a.1, a.2.imp id fun b => ⟨b.1, Nat.lt_succ_of_lt b.2⟩⟩⟩
    simp only [this]
theorem plD_line {i j w : Nat} {pl pl' : Pl} {p y x : Nat} (hx : p = i → x < w) : plD i j w pl pl' p y x = plD i (j + 1) 0 pl pl' p y x := by
  unfold plD
  have : DoneTo i j w p y x ↔ DoneTo i (j + 1) 0 p y x :=
    ⟨fun a => a.imp id fun a => ⟨a.1, .inl (a.2.elim Nat.lt_succ_of_lt fun b => b.1 ▸ Nat.lt_succ_self _)⟩, fun a => a.imp id fun a => ⟨a.1, a.2.elim (fun b => (Nat.lt_or_eq_of_le (Nat.le_of_lt_succ b)).imp id fun e => ⟨e, hx a.1⟩) fun b => absurd b.2 (Nat.not_lt_zero _)⟩⟩
  simp only [this]
theorem plD_plane {i h : Nat} {pl pl' : Pl} {p y x : Nat} (hy : p = i → y < h) : plD i h 0 pl pl' p y x = plD (i + 1) 0 0 pl pl' p y x := by
  unfold plD
  have : DoneTo i h 0 p y x ↔ DoneTo (i + 1) 0 0 p y x :=
    ⟨fun a => .inl (a.elim Nat.lt_succ_of_lt fun b => b.1 ▸ Nat.lt_succ_self _), fun a => a.elim (fun b => (Nat.lt_or_eq_of_le (Nat.le_of_lt_succ b)).imp id fun e => ⟨e, .inl (hy e)⟩) fun b => b.2.elim (fun c => absurd c (Nat.not_lt_zero _)) fun c => absurd c.2 (Nat.not_lt_zero _)⟩
  simp only [this]

section
variable {c : Cx} {e : Nat} {μ : MH}

theorem range_len (f : Nat → AV) (n : Nat) : ((List.range n).map f).length = n := by simp
theorem rng0 {n i : Nat} {v : AV} {k : Int} (h : ((rngL 0 1 k.toNat).map AV.int)[i]? = some v) (hk : k = (n : Nat)) : i < n ∧ v = .int ((i : Nat) : Int) := by
  obtain ⟨h1, h2⟩ := rngL_get h
  exact ⟨by omega, by rw [h2]; congr 1; omega⟩

theorem FrI.Ok.hb {f : FrI} (h : f.Ok) (p : Nat) (hp : p < 2) : f.H p ≤ 1000 ∧ f.W p ≤ 1000 ∧ 1 ≤ f.H p ∧ 1 ≤ f.W p := by have := h.small p (or01 hp); unfold FrI.H FrI.W; omega
theorem lt_m {j H : Nat} (h : j < H) (hb : H ≤ 1000) : j < 1000000 := Nat.lt_of_lt_of_le h (Nat.le_trans hb (by decide))
theorem copied_spec {f : FrI} {pl : Pl} {Q : AV → MH → Prop} (he : 6 ≤ e) (hf : f.Ok) (hr : ∀ p < 2, ∀ y < f.H p, ∀ x < f.W p, ∀ r, pl p y x = some r → r.length ≤ 1000)
    (hQ : ∀ m ln, MLe μ m → GM m ln f.H f.W pl → (∀ p < 2, ∀ y < f.H p, μ (ln p y) = none) → Q (gmAV (f.n * f.n) f.H ln) m) : CallW c e (.raw (.ref 61)) [gfAV (f.n * f.n) f.H f.W pl, f.av] μ Q := by
  have he' := he
  have he : 1 ≤ e := by omega
  have hb : ∀ p < 2, f.H p ≤ 1000 ∧ f.W p ≤ 1000 := fun p hp => ⟨(hf.hb p hp).1, (hf.hb p hp).2.1⟩
  have hdef : gfAV (f.n * f.n) f.H f.W pl = .inst 50 [(Str.ofString "many", .int (f.n * f.n)), (Str.ofString "planes", .lst ((List.range 2).map fun p => .lst ((List.range (f.H p)).map fun y => .lst ((List.range (f.W p)).map fun x => rowAV (pl p y x)))))] := rfl
  refine callW_def' (f := 61) (ps := [Str.ofString "grid", Str.ofString "frame"]) (ge := rawGe [(Str.ofString "Grid", .ref 50), (Str.ofString "range", .type "range"), (Str.ofString "len", .builtin "len")]) he rfl (by kernel_rfl) (by intro v0 v1; show _ = _; kernel_rfl) (by kernel_rfl) (fun gd => geOk_raw (by kernel_rfl)) rfl (fun env => ?_)
  clear he
  dsimp only [mkLE, rawGe, List.map]
  repeat (tb_start)
  refine grid_make (by tb_rel) hf fun m ln hm hG hfr => ?_
  repeat (tb_start)
  refine ws_for (it_of ?_)
  repeat (tb_start)
  refine call_len_lst ?_ (by simp)
  repeat (tb_start)
  refine ⟨_, items_up (by decide) (by decide) (by simp) (by simp), ?_⟩
  refine loop_j (fun i le m => ∃ p y x, le = [(Str.ofString "grid", some (gfAV (f.n * f.n) f.H f.W pl)), (Str.ofString "frame", some f.av), (Str.ofString "found", some (gmAV (f.n * f.n) f.H ln)), (Str.ofString "place", p), (Str.ofString "y", y), (Str.ofString "x", x)] ∧
    MLe μ m ∧ GM m ln f.H f.W (plD i 0 0 pl fun _ _ _ => none)) ⟨_, _, _, rfl, hm, hG.congr fun p hp y hy x hx => by unfold plD; rw [if_neg (by unfold DoneTo; omega)]⟩ ?_ ?_
  · rintro i v le m hi ⟨p, y, x, rfl, hm, hG⟩ J hJ _ _
    obtain ⟨hi2, rfl⟩ := rng0 (n := 2) hi (by simp)
    have hbi := hb i hi2
    refine wa_name (by tb_rel) ?_
    refine wss_cons (ws_for (it_of ?_))
    repeat (tb_start)
    refine sub_lst (by tb_rel) (get_range hi2) ?_ (by tb_rel)
    repeat (tb_start)
    refine call_len_lst ?_ (by simp <;> omega)
    repeat (tb_start)
    refine ⟨_, items_up (by decide) (by decide) (by simp <;> omega) (by simp <;> omega), ?_⟩
    refine loop_j (fun j le m => ∃ y x, le = [(Str.ofString "grid", some (gfAV (f.n * f.n) f.H f.W pl)), (Str.ofString "frame", some f.av), (Str.ofString "found", some (gmAV (f.n * f.n) f.H ln)), (Str.ofString "place", some (.int (i : Nat))), (Str.ofString "y", y), (Str.ofString "x", x)] ∧
      MLe μ m ∧ GM m ln f.H f.W (plD i j 0 pl fun _ _ _ => none)) ⟨_, _, rfl, hm, hG⟩ ?_ ?_
    · rintro j v le m hj ⟨y, x, rfl, hm, hG⟩ J2 hJ2 _ _
      obtain ⟨hj2, rfl⟩ := rng0 (n := f.H i) hj (by simp)
      refine wa_name (by tb_rel) ?_
      refine wss_cons (ws_for (it_of ?_))
      repeat (tb_start)
      refine sub_lst (by tb_rel) (get_range hi2) ?_ (by tb_rel)
      repeat (tb_start)
      refine sub_lst (by tb_rel) (get_range hj2) ?_ (by tb_rel)
      repeat (tb_start)
      refine call_len_lst ?_ (by simp <;> omega)
      repeat (tb_start)
      refine ⟨_, items_up (by decide) (by decide) (by simp <;> omega) (by simp <;> omega), ?_⟩
      refine loop_j (fun k le m => ∃ x, le = [(Str.ofString "grid", some (gfAV (f.n * f.n) f.H f.W pl)), (Str.ofString "frame", some f.av), (Str.ofString "found", some (gmAV (f.n * f.n) f.H ln)), (Str.ofString "place", some (.int (i : Nat))), (Str.ofString "y", some (.int (j : Nat))), (Str.ofString "x", x)] ∧
        MLe μ m ∧ GM m ln f.H f.W (plD i j k pl fun _ _ _ => none)) ⟨_, rfl, hm, hG⟩ ?_ ?_
      · rintro k v le m hk ⟨x, rfl, hm, hG⟩ J3 hJ3 _ _
        obtain ⟨hk2, rfl⟩ := rng0 (n := f.W i) hk (by simp)
        refine wa_name (by tb_rel) ?_
        repeat (tb_start)
        refine sub_lst (by tb_rel) (get_range hi2) ?_ (by tb_rel)
        repeat (tb_start)
        refine sub_lst (by tb_rel) (get_range hj2) ?_ (by tb_rel)
        repeat (tb_start)
        refine sub_lst (by tb_rel) (get_range hk2) ?_ (by tb_rel)
        repeat (tb_start)
        cases hpl : pl i j k with
        | none =>
          refine cmp_isnot (nr rfl) ⟨by first | exact ft | exact tf, fun _ => ?_⟩
          repeat (tb_start)
          refine hJ3 _ _ ⟨_, rfl, hm, hG.congr fun p hp y hy x hx => ?_⟩
          rw [plD_step, hpl]
          unfold upd3
          split
          · rename_i h
            obtain ⟨rfl, rfl, rfl⟩ := h
            unfold plD; rw [if_neg (by unfold DoneTo; omega)]
          · rfl
        | some r =>
          refine cmp_isnot (nr rfl) ⟨fun _ => ?_, by first | exact tf | exact ft⟩
          have hlen := hr i hi2 j hj2 k hk2 r hpl
          obtain ⟨cs, c1, c2, c3⟩ := hG.line i hi2 j hj2
          repeat (tb_start)
          first | refine kMeth_i (f := .ref 47) (meth_inst .frozen (by kernel_rfl) (by kernel_rfl)) (callee_K (by kernel_rfl)) ?_ | refine ⟨.ref 47, meth_inst .frozen (by kernel_rfl) (by kernel_rfl), callee_K (by kernel_rfl), ?_⟩
          repeat (tb_start)
          refine sub_lst (by tb_rel) (get_range hi2) ?_ (by tb_rel)
          repeat (tb_start)
          refine sub_lst (by tb_rel) (get_range hj2) ?_ (by tb_rel)
          repeat (tb_start)
          refine sub_lst (by tb_rel) (get_range hk2) ?_ (by tb_rel)
          repeat (tb_start)
          rw [hpl]
          refine put_spec (W := f.W) (by tb_rel) hi2 hj2 c1 (by tb_rel) (by tb_rel) hlen fun q hq => ⟨rfl, ?_⟩
          repeat (tb_start)
          refine hJ3 _ _ ⟨_, rfl, (hm.upd (hm.gone hq)).upd (hfr i hi2 j hj2), ?_⟩
          have := hG.put (row := r) hi2 hj2 c1 hq (x := k)
          rw [plD_step, hpl]
          exact this
      · rintro le m ⟨x, rfl, hm, hG⟩
        repeat (tb_start)
        refine hJ2 _ _ ⟨_, _, rfl, hm, hG.congr fun p hp y hy x hx => ?_⟩
        rw [List.length_map, rngL_len]
        exact plD_line (by rintro rfl; simpa using hx)
    · rintro le m ⟨y, x, rfl, hm, hG⟩
      repeat (tb_start)
      refine hJ _ _ ⟨_, _, _, rfl, hm, hG.congr fun p hp y hy x hx => ?_⟩
      rw [List.length_map, rngL_len]
      exact plD_plane (by rintro rfl; simpa using hy)
  · rintro le m ⟨p, y, x, rfl, hm, hG⟩
    repeat (tb_start)
    refine hQ m ln hm (hG.congr fun p hp y hy x hx => ?_) hfr
    unfold plD; rw [if_pos (.inl (by simpa [rngL_len] using hp))]
end


noncomputable def kept (x s : Int) : Int := max 0 (min (s - 1) x)
theorem kept_b {x s : Int} (h : 1 ≤ s) : 0 ≤ kept x s ∧ kept x s < s := by unfold kept; omega
theorem kept_n {x s : Int} {N : Nat} (h : 1 ≤ s ∧ s ≤ N) : (kept x s).toNat < N := by have := kept_b (x := x) h.1; omega
theorem kept_c {x s : Int} (h : 1 ≤ s) : max 0 (min (s - 1) x) = (((kept x s).toNat : Nat) : Int) := (Int.toNat_of_nonneg (kept_b h).1).symm
theorem kept_a {x y s : Int} : max 0 (min (s - 1) (x + y - 1)) = kept (x + (y - 1)) s := by unfold kept; rw [Int.add_sub_assoc]
theorem kept_l {x s : Int} {N : Nat} (h : 1 ≤ s ∧ s ≤ N) (hN : N ≤ 1000) : (kept x s).toNat < 1000000 := Nat.lt_of_lt_of_le (kept_n h) (Nat.le_trans hN (by decide))
theorem kept_l3 {x s : Int} {N : Nat} (h : 1 ≤ s ∧ s ≤ N) (hN : N ≤ 1000) : kept x s < 2 ^ 63 := by have := kept_b (x := x) h.1; omega
theorem m1000 {m : Int} (h : 4 ≤ m ∧ m ≤ 16) : 0 ≤ m ∧ m ≤ 1000 := ⟨Int.le_trans (by decide) h.1, Int.le_trans h.2 (by decide)⟩
noncomputable def steps : List Int := [-1, 0, 1]
noncomputable def nineAt (many : Int) (pl : Pl) (p : Nat) (x y across down s t : Int) : Int := (rowOr many (pl p (kept (y + s) down).toNat (kept (x + t) across).toNat)).getD 0 0
noncomputable def nineL (many : Int) (pl : Pl) (p : Nat) (x y across down : Int) : List Int := steps.flatMap fun s => steps.map fun t => nineAt many pl p x y across down s t
structure RowsOk (pl : Pl) (H W : Nat → Nat) (many : Int) : Prop where
  len : ∀ p < 2, ∀ y < H p, ∀ x < W p, ∀ r, pl p y x = some r → r.length = many.toNat
theorem RowsOk.or {pl : Pl} {H W : Nat → Nat} {many : Int} (h : RowsOk pl H W many) {p y x : Nat} (hp : p < 2) (hy : y < H p) (hx : x < W p) : (rowOr many (pl p y x)).length = many.toNat := by
  cases q : pl p y x with
  | none => simp [rowOr]
  | some r => exact h.len p hp y hy x hx r q

section
variable {c : Cx} {e : Nat} {μ : MH}

theorem nine_spec {many : Int} {H W : Nat → Nat} {pl : Pl} {p : Nat} {x y across down : Int} {Q : AV → MH → Prop} (he : 2 ≤ e) (hp : p < 2) (hm : 4 ≤ many ∧ many ≤ 16) (hok : RowsOk pl H W many) (ha : 1 ≤ across ∧ across ≤ W p) (hd : 1 ≤ down ∧ down ≤ H p) (hb : H p ≤ 1000 ∧ W p ≤ 1000)
    (hQ : ∀ μ', MLe μ μ' → Q (.lst ((nineL many pl p x y across down).map .int)) μ') : CallW c e (.raw (.ref 365)) [gfAV many H W pl, .int (p : Nat), .int x, .int y, .int across, .int down] μ Q := by
  have he' := he
  have he : 1 ≤ e := by omega
  refine CallW.frz ?_
  refine callW_def' (f := 365) (ps := [Str.ofString "grid", Str.ofString "place", Str.ofString "x", Str.ofString "y", Str.ofString "across", Str.ofString "down"]) (ge := rawGe [(Str.ofString "kept_in", .ref 358)]) he rfl (by kernel_rfl) (by intro v0 v1 v2 v3 v4 v5; show _ = _; kernel_rfl) (by kernel_rfl) (fun gd => geOk_raw (by kernel_rfl)) rfl (fun env => ?_)
  clear he
  dsimp only [mkLE, rawGe, List.map]
  refine wss_cons (ws_assign (we_lstM 0 (wl_nil ⟨by decide, fun a ha0 => ⟨_, by tb_rel, ?_⟩⟩)))
  refine wss_cons (ws_for (it_of ?_))
  repeat (tb_start)
  refine ⟨_, .tup _, ?_⟩
  have e1 : ([.int (-1), .int 0, .int 1] : List AV) = steps.map .int := rfl
  rw [e1]
  refine loop_j (fun i le m => ∃ s t, le = [(Str.ofString "grid", some (gfAV many H W pl)), (Str.ofString "place", some (.int (p : Nat))), (Str.ofString "x", some (.int x)), (Str.ofString "y", some (.int y)), (Str.ofString "across", some (.int across)), (Str.ofString "down", some (.int down)), (Str.ofString "found", some (.ref a)), (Str.ofString "step", s), (Str.ofString "turn", t)] ∧
    m = updM μ a (.list 0 (((steps.take i).flatMap fun s => steps.map fun t => nineAt many pl p x y across down s t).map .int))) ⟨_, _, rfl, rfl⟩ ?_ ?_
  · rintro i v le m hi ⟨s, t, rfl, rfl⟩ J0 hJ0 _ _
    obtain ⟨sv, hs, rfl⟩ := ints_get hi
    have hi3 : i < 3 := (List.getElem?_eq_some_iff.mp hs).1
    refine wa_name (by tb_rel) ?_
    refine wss_cons (ws_for (it_of ?_))
    repeat (tb_start)
    refine ⟨_, .tup _, ?_⟩
    rw [e1]
    refine loop_j (fun j le m => ∃ t, le = [(Str.ofString "grid", some (gfAV many H W pl)), (Str.ofString "place", some (.int (p : Nat))), (Str.ofString "x", some (.int x)), (Str.ofString "y", some (.int y)), (Str.ofString "across", some (.int across)), (Str.ofString "down", some (.int down)), (Str.ofString "found", some (.ref a)), (Str.ofString "step", some (.int sv)), (Str.ofString "turn", t)] ∧
      m = updM μ a (.list 0 (((steps.take i).flatMap (fun s => steps.map fun t => nineAt many pl p x y across down s t) ++ ((steps.take j).map fun t => nineAt many pl p x y across down sv t)).map .int))) ⟨_, rfl, by simp⟩ ?_ ?_
    · rintro j v le m hj ⟨t, rfl, rfl⟩ J hJ _ _
      obtain ⟨tv, ht, rfl⟩ := ints_get hj
      have hx : (kept (x + tv) across).toNat < W p := kept_n ha
      have hy : (kept (y + sv) down).toNat < H p := kept_n hd
      have hl1 : (List.map AV.int ((steps.take i).flatMap (fun s => steps.map fun t => nineAt many pl p x y across down s t) ++ ((steps.take j).map fun t => nineAt many pl p x y across down sv t))).length ≤ 16777216 := by
        rw [List.length_map, List.length_append, List.length_map, List.length_take]
        have := flat_len (f := fun s => steps.map fun t => nineAt many pl p x y across down s t) (k := 3) (xs := steps.take i) fun s _ => by simp [steps]
        rw [List.length_take] at this
        have h3 : steps.length = 3 := rfl
        omega
      refine wa_name (by tb_rel) ?_
      repeat (tb_start)
      first | refine kMeth_i (f := .ref 40) (meth_inst .frozen (by kernel_rfl) (by kernel_rfl)) (callee_K (by kernel_rfl)) ?_ | refine ⟨.ref 40, meth_inst .frozen (by kernel_rfl) (by kernel_rfl), callee_K (by kernel_rfl), ?_⟩
      repeat (tb_start)
      refine kept_spec (by tb_rel) ?_
      repeat (tb_start)
      refine kept_spec (by tb_rel) ?_
      repeat (tb_start)
      have g1 : max 0 (min (across - 1) (x + tv)) = (((kept (x + tv) across).toNat : Nat) : Int) := kept_c ha.1
      have g2 : max 0 (min (down - 1) (y + sv)) = (((kept (y + sv) down).toNat : Nat) : Int) := kept_c hd.1
      rw [g1, g2]
      refine get_spec (by tb_rel) hp hy hx ⟨kept_l ha hb.2, kept_l hd hb.1⟩ (m1000 hm) ?_
      repeat (tb_start)
      refine sub_lst (by tb_rel) (get_ints (by rw [hok.or hp hy hx]; show (0 : Nat) < _; clear hl1 hx hy ha hd hb; omega)) ?_ (by tb_rel)
      repeat (tb_start)
      refine hJ _ _ ⟨_, rfl, ?_⟩
      rw [List.take_succ, ht]
      simp [nineAt]
    · rintro le m ⟨t, rfl, rfl⟩
      repeat (tb_start)
      refine hJ0 _ _ ⟨_, _, rfl, ?_⟩
      rw [List.length_map, List.take_length, List.take_succ, hs]
      simp
  · rintro le m ⟨s, t, rfl, rfl⟩
    repeat (tb_start)
    exact frz_ret (updM_self _ _ _) ((MLe.refl _).upd ha0) ha0 hQ

theorem many_facts {n : Int} (hn : n = 2 ∨ n = 3 ∨ n = 4) : 4 ≤ n * n ∧ n * n ≤ 16 := by rcases hn with rfl | rfl | rfl <;> decide
theorem nineL_len (many : Int) (pl : Pl) (p : Nat) (x y across down : Int) : (nineL many pl p x y across down).length = 9 := by simp [nineL, steps]
noncomputable def smAt (f : FrI) (pl : Pl) (tb known : List Int) (p y x : Nat) : List Int := smRow (rowOr (f.n * f.n) (pl p y x)) (nineL (f.n * f.n) pl p (x : Nat) (y : Nat) (f.bw p) (f.bh p)) tb known f.n
noncomputable abbrev InB (f : FrI) (p Y X p' y x : Nat) : Prop := p' = p ∧ x < (f.bw p).toNat ∧ (y < Y ∨ (y = Y ∧ x < X))
theorem InB_full {f : FrI} {p y x : Nat} : InB f p (f.bh p).toNat 0 p y x ↔ (x < (f.bw p).toNat ∧ y < (f.bh p).toNat) := ⟨fun a => ⟨a.2.1, a.2.2.elim id fun c => absurd c.2 (Nat.not_lt_zero _)⟩, fun a => ⟨rfl, a.1, .inl a.2⟩⟩
noncomputable def smPl (f : FrI) (pl : Pl) (tb known : List Int) (p Y X : Nat) (pl' : Pl) : Pl := fun p' y x => if InB f p Y X p' y x then some (smAt f pl tb known p y x) else pl' p' y x
theorem smPl_step {f : FrI} {pl : Pl} {tb known : List Int} {p Y X : Nat} {pl' : Pl} (hX : X < (f.bw p).toNat) : smPl f pl tb known p Y (X + 1) pl' = upd3 (smPl f pl tb known p Y X pl') p Y X (some (smAt f pl tb known p Y X)) := by
  funext p' y x
  unfold smPl upd3
  by_cases h : p' = p ∧ y = Y ∧ x = X
  · obtain ⟨rfl, rfl, rfl⟩ := h
    rw [if_pos ⟨rfl, hX, .inr ⟨rfl, Nat.lt_succ_self _⟩⟩, if_pos ⟨rfl, rfl, rfl⟩]
  · rw [if_neg h]
    have : InB f p Y (X + 1) p' y x ↔ InB f p Y X p' y x :=
      ⟨fun a => ⟨a.1, a.2.1, a.2.2.imp id fun b => ⟨b.1, Nat.lt_of_le_of_ne (Nat.le_of_lt_succ b.2) fun e => h ⟨a.1, b.1, e⟩⟩⟩, fun a => ⟨a.1, a.2.1, a.2.2.imp id fun b => ⟨b.1, Nat.lt_succ_of_lt b.2⟩⟩⟩
    simp only [this]
theorem smPl_line {f : FrI} {pl : Pl} {tb known : List Int} {p Y : Nat} {pl' : Pl} : smPl f pl tb known p Y (f.bw p).toNat pl' = smPl f pl tb known p (Y + 1) 0 pl' := by
  funext p' y x
  unfold smPl
  have : InB f p Y (f.bw p).toNat p' y x ↔ InB f p (Y + 1) 0 p' y x :=
    ⟨fun a => ⟨a.1, a.2.1, .inl (a.2.2.elim Nat.lt_succ_of_lt fun b => b.1 ▸ Nat.lt_succ_self _)⟩, fun a => ⟨a.1, a.2.1, a.2.2.elim (fun b => (Nat.lt_or_eq_of_le (Nat.le_of_lt_succ b)).imp id fun e => ⟨e, by rw [← a.1]; exact a.1 ▸ a.2.1⟩) fun b => absurd b.2 (Nat.not_lt_zero _)⟩⟩
  simp only [this]

theorem smRow_len (row nine tb known : List Int) (n : Int) : (smRow row nine tb known n).length = row.length := smTo_len ..

theorem smooth_component_spec {μ₀ : MH} {f : FrI} {pl pl' : Pl} {ln : Nat → Nat → Addr} {tb known : List Int} {p : Nat} {Q : AV → MH → Prop} (he : 6 ≤ e) (hf : f.Ok) (hp : p < 2) (hok : RowsOk pl f.H f.W (f.n * f.n)) (ht : TbOk tb f.n) (hk : known.length = (f.n * f.n).toNat) (hk2 : ∀ k ∈ known, k ≤ 2)
    (hm : MLe μ₀ μ) (hG : GM μ ln f.H f.W pl') (hfr : ∀ p < 2, ∀ y < f.H p, μ₀ (ln p y) = none)
    (hQ : ∀ m, MLe μ₀ m → GM m ln f.H f.W (smPl f pl tb known p (f.bh p).toNat 0 pl') → Q .none m) :
    CallW c e (.raw (.ref 372)) [gfAV (f.n * f.n) f.H f.W pl, gmAV (f.n * f.n) f.H ln, .int (p : Nat), .tup [.int (f.bw p), .int (f.bh p)], .lst (tb.map .int), .lst (known.map .int), .int f.n] μ Q := by
  have he' := he
  have he : 1 ≤ e := by omega
  have hn := many_facts hf.n
  have sz := hf.small p (by tb_rel)
  have hH : (f.H p : Int) = f.ph p := by unfold FrI.H; omega
  have hW : (f.W p : Int) = f.pw p := by unfold FrI.W; omega
  have hbh : ((f.bh p).toNat : Int) = f.bh p := by omega
  have hbw : ((f.bw p).toNat : Int) = f.bw p := by omega
  refine callW_def' (f := 372) (ps := [Str.ofString "grid", Str.ofString "found", Str.ofString "place", Str.ofString "size", Str.ofString "qtable", Str.ofString "known", Str.ofString "n"]) (ge := rawGe [(Str.ofString "range", .type "range"), (Str.ofString "nine_of", .ref 365), (Str.ofString "smoothed_row", .ref 351)]) he rfl (by kernel_rfl) (by intro v0 v1 v2 v3 v4 v5 v6; show _ = _; kernel_rfl) (by kernel_rfl) (fun gd => geOk_raw (by kernel_rfl)) rfl (fun env => ?_)
  clear he
  dsimp only [mkLE, rawGe, List.map]
  refine wss_cons (ws_assign_tuple ?_)
  repeat (tb_start)
  refine wab_tuple rfl (wa_name (by tb_rel) (wa_name (by tb_rel) ?_))
  repeat (tb_start)
  refine ws_for (it_of ?_)
  repeat (tb_start)
  refine ⟨_, items_up (by tb_rel) (by tb_rel) (by tb_rel) (by tb_rel), ?_⟩
  refine loop_j (fun j le m => ∃ y x row nine, le = [(Str.ofString "grid", some (gfAV (f.n * f.n) f.H f.W pl)), (Str.ofString "found", some (gmAV (f.n * f.n) f.H ln)), (Str.ofString "place", some (.int (p : Nat))), (Str.ofString "size", some (.tup [.int (f.bw p), .int (f.bh p)])), (Str.ofString "qtable", some (.lst (tb.map .int))), (Str.ofString "known", some (.lst (known.map .int))), (Str.ofString "n", some (.int f.n)),
      (Str.ofString "across", some (.int (f.bw p))), (Str.ofString "down", some (.int (f.bh p))), (Str.ofString "y", y), (Str.ofString "x", x), (Str.ofString "row", row), (Str.ofString "nine", nine)] ∧ MLe μ₀ m ∧ GM m ln f.H f.W (smPl f pl tb known p j 0 pl')) ⟨_, _, _, _, rfl, hm, hG.congr fun p' _ y _ x _ => by unfold smPl; rw [if_neg (by unfold InB; omega)]⟩ ?_ ?_
  · rintro j v le m hj ⟨y, x, row, nine, rfl, hm, hG⟩ J hJ _ _
    obtain ⟨hj2, rfl⟩ := rng0 (n := (f.bh p).toNat) hj (by tb_rel)
    have hjH : j < f.H p := by omega
    refine wa_name (by tb_rel) ?_
    refine wss_cons (ws_for (it_of ?_))
    repeat (tb_start)
    refine ⟨_, items_up (by tb_rel) (by tb_rel) (by tb_rel) (by tb_rel), ?_⟩
    refine loop_j (fun k le m => ∃ x row nine, le = [(Str.ofString "grid", some (gfAV (f.n * f.n) f.H f.W pl)), (Str.ofString "found", some (gmAV (f.n * f.n) f.H ln)), (Str.ofString "place", some (.int (p : Nat))), (Str.ofString "size", some (.tup [.int (f.bw p), .int (f.bh p)])), (Str.ofString "qtable", some (.lst (tb.map .int))), (Str.ofString "known", some (.lst (known.map .int))), (Str.ofString "n", some (.int f.n)),
      (Str.ofString "across", some (.int (f.bw p))), (Str.ofString "down", some (.int (f.bh p))), (Str.ofString "y", some (.int (j : Nat))), (Str.ofString "x", x), (Str.ofString "row", row), (Str.ofString "nine", nine)] ∧ MLe μ₀ m ∧ GM m ln f.H f.W (smPl f pl tb known p j k pl')) ⟨_, _, _, rfl, hm, hG⟩ ?_ ?_
    · rintro k v le m hk3 ⟨x, row, nine, rfl, hm, hG⟩ J2 hJ2 _ _
      obtain ⟨hk4, rfl⟩ := rng0 (n := (f.bw p).toNat) hk3 (by tb_rel)
      have hkW : k < f.W p := by omega
      have hrl := hok.or hp hjH hkW
      refine wa_name (by tb_rel) ?_
      repeat (tb_start)
      first | refine kMeth_i (f := .ref 40) (meth_inst .frozen (by kernel_rfl) (by kernel_rfl)) (callee_K (by kernel_rfl)) ?_ | refine ⟨.ref 40, meth_inst .frozen (by kernel_rfl) (by kernel_rfl), callee_K (by kernel_rfl), ?_⟩
      repeat (tb_start)
      refine get_spec (by tb_rel) hp hjH hkW ⟨lt_m hkW (hf.hb p hp).2.1, lt_m hjH (hf.hb p hp).1⟩ (m1000 hn) ?_
      repeat (tb_start)
      refine nine_spec (by tb_rel) hp hn hok (by tb_rel) (by tb_rel) (by tb_rel) fun m1 h1 => ?_
      repeat (tb_start)
      first | refine kMeth_i (f := .ref 47) (meth_inst .frozen (by kernel_rfl) (by kernel_rfl)) (callee_K (by kernel_rfl)) ?_ | refine ⟨.ref 47, meth_inst .frozen (by kernel_rfl) (by kernel_rfl), callee_K (by kernel_rfl), ?_⟩
      repeat (tb_start)
      refine smoothed_row_spec (by tb_rel) hf.n hrl (nineL_len ..) ht hk hk2 fun m2 h2 => ?_
      have hm2 : MLe m m2 := h1.trans h2
      have hG2 := hG.keep fun q t r _ e => hm2 _ _ e
      obtain ⟨cs, c1, c2, c3⟩ := hG2.line p hp j hjH
      repeat (tb_start)
      refine put_spec (W := f.W) (by tb_rel) hp hjH c1 (by tb_rel) ⟨lt_m hkW (hf.hb p hp).2.1, lt_m hjH (hf.hb p hp).1⟩ (by rw [smRow_len, hrl]; exact n17 hn rfl) fun q hq => ⟨rfl, ?_⟩
      repeat (tb_start)
      refine hJ2 _ _ ⟨_, _, _, rfl, ((hm.trans hm2).upd ((hm.trans hm2).gone hq)).upd (hfr p hp j hjH), ?_⟩
      have := hG2.put (row := smAt f pl tb known p j k) hp hjH c1 hq (x := k)
      rw [smPl_step hk4]
      exact this
    · rintro le m ⟨x, row, nine, rfl, hm, hG⟩
      repeat (tb_start)
      refine hJ _ _ ⟨_, _, _, _, rfl, hm, ?_⟩
      rw [List.length_map, rngL_len, show (f.bw p - 0).toNat = (f.bw p).toNat by rw [Int.sub_zero], smPl_line] at hG
      exact hG
  · rintro le m ⟨y, x, row, nine, rfl, hm, hG⟩
    repeat (tb_start)
    rw [List.length_map, rngL_len, show (f.bh p - 0).toNat = (f.bh p).toNat by rw [Int.sub_zero]] at hG
    exact hQ m hm hG

structure Given (f : FrI) (scans : List ScI) (tbs : List (List Int)) : Prop where
  ok : f.Ok
  sc : ∀ x ∈ scans, x.Ok (f.n * f.n)
  tb : tbs.length = 2 ∧ ∀ t ∈ tbs, TbOk t f.n
noncomputable def lowsP (f : FrI) (scans : List ScI) (p : Nat) : List Int := lows scans (p : Nat) (f.n * f.n)
theorem lowsP_len (f : FrI) (scans : List ScI) (p : Nat) : (lowsP f scans p).length = (f.n * f.n).toNat := lowTo_len ..
theorem set_all {P : Int → Prop} {xs : List Int} {i : Nat} {v : Int} (h : ∀ k ∈ xs, P k) (hv : P v) : ∀ k ∈ xs.set i v, P k := fun k hk => by
  rcases List.mem_or_eq_of_mem_set hk with h1 | rfl
  · exact h k h1
  · exact hv
theorem setR_all {P : Int → Prop} {xs : List Int} {a v : Int} (h : ∀ k ∈ xs, P k) (hv : P v) : ∀ n, ∀ k ∈ setR xs a v n, P k
  | 0 => h
  | n + 1 => set_all (setR_all h hv n) hv
theorem lowTo_all {scans : List ScI} {place many : Int} (hs : ∀ x ∈ scans, x.l ≤ 2) : ∀ i, ∀ k ∈ lowTo scans place many i, k ≤ 2 := fun i => by
  unfold lowTo
  have : ∀ (l : List ScI) (a : List Int), (∀ x ∈ l, x.l ≤ 2) → (∀ k ∈ a, k ≤ 2) → ∀ k ∈ l.foldl (lowStep place) a, k ≤ 2 := by
    intro l
    induction l with
    | nil => intro a _ h; exact h
    | cons x r ih =>
      intro a hl ha
      rw [List.foldl_cons]
      refine ih _ (fun y hy => hl y (.tail _ hy)) ?_
      unfold lowStep
      split
      · exact setR_all ha (hl x (.head _)) _
      · exact ha
  refine this _ _ (fun x hx => hs x (List.mem_of_mem_take hx)) fun k hk => ?_
  rw [(List.mem_replicate.mp hk).2]; decide
noncomputable def smAll (f : FrI) (scans : List ScI) (tbs : List (List Int)) (pl : Pl) : Pl := fun p y x =>
  if worth (lowsP f scans p) f.n = true ∧ x < (f.bw p).toNat ∧ y < (f.bh p).toNat then some (smAt f pl (tbs.getD p []) (lowsP f scans p) p y x) else pl p y x

theorem smoothed_grid_spec {f : FrI} {scans : List ScI} {tbs : List (List Int)} {pl : Pl} {Q : AV → MH → Prop} (he : 8 ≤ e) (hg : Given f scans tbs) (hok : RowsOk pl f.H f.W (f.n * f.n))
    (hQ : ∀ m ln, MLe μ m → GM m ln f.H f.W (smAll f scans tbs pl) → (∀ p < 2, ∀ y < f.H p, μ (ln p y) = none) → Q (gmAV (f.n * f.n) f.H ln) m) :
    CallW c e (.raw (.ref 379)) [gfAV (f.n * f.n) f.H f.W pl, f.av, .lst (tbs.map fun t => .lst (t.map .int)), .lst (scans.map ScI.av)] μ Q := by
  have he' := he
  have he : 1 ≤ e := by omega
  have hf := hg.ok
  have hn := many_facts hf.n
  have hn3 := hf.n
  refine callW_def' (f := 379) (ps := [Str.ofString "grid", Str.ofString "frame", Str.ofString "qtables", Str.ofString "scans"]) (ge := rawGe [(Str.ofString "copied", .ref 61), (Str.ofString "range", .type "range"), (Str.ofString "len", .builtin "len"), (Str.ofString "known_bits", .ref 318), (Str.ofString "is_worth", .ref 332), (Str.ofString "smooth_component", .ref 372)]) he rfl (by kernel_rfl) (by intro v0 v1 v2 v3; show _ = _; kernel_rfl) (by kernel_rfl) (fun gd => geOk_raw (by kernel_rfl)) rfl (fun env => ?_)
  clear he
  dsimp only [mkLE, rawGe, List.map]
  repeat (tb_start)
  refine copied_spec (by tb_rel) hf (fun p hp y hy x hx r h => by rw [hok.len p hp y hy x hx r h]; omega) fun m ln hm hG hfr => ?_
  repeat (tb_start)
  refine ws_for (it_of ?_)
  repeat (tb_start)
  refine call_len_lst ?_ (by simp)
  repeat (tb_start)
  refine ⟨_, items_up (by decide) (by decide) (by simp) (by simp), ?_⟩
  have e2 : (((([compAV 1 f.a0 f.d0, compAV 2 f.a1 f.d1] : List AV).length : Nat) : Int) - 0).toNat = 2 := rfl
  rw [e2]
  refine loop_j (fun i le m => ∃ p k, le = [(Str.ofString "grid", some (gfAV (f.n * f.n) f.H f.W pl)), (Str.ofString "frame", some f.av), (Str.ofString "qtables", some (.lst (tbs.map fun t => .lst (t.map .int)))), (Str.ofString "scans", some (.lst (scans.map ScI.av))), (Str.ofString "found", some (gmAV (f.n * f.n) f.H ln)), (Str.ofString "place", p), (Str.ofString "known", k)] ∧
    MLe μ m ∧ GM m ln f.H f.W (fun p y x => if p < i then smAll f scans tbs pl p y x else pl p y x)) ⟨_, _, rfl, hm, hG.congr fun p _ y _ x _ => by rw [if_neg (by tb_rel)]⟩ ?_ ?_
  · rintro i v le m hi ⟨p, k, rfl, hm, hG⟩ J hJ _ _
    obtain ⟨hi2, rfl⟩ := rng0 (n := 2) (k := 2) hi rfl
    have hi01 : i = 0 ∨ i = 1 := by omega
    refine wa_name (by tb_rel) ?_
    repeat (tb_start)
    refine known_spec (by tb_rel) hg.sc (by tb_rel) fun m1 h1 => ?_
    repeat (tb_start)
    refine wb_of ?_
    repeat (tb_start)
    refine is_worth_spec (by tb_rel) hn3 (lowsP_len f scans i) fun m2 h2 => ?_
    have hm2 : MLe μ m2 := (hm.trans h1).trans h2
    have hG2 := hG.keep (μ' := m2) fun q t r _ e => h2 _ _ (h1 _ _ e)
    have other : ∀ p y x, p ≠ i → (if p < i then smAll f scans tbs pl p y x else pl p y x) = if p < i + 1 then smAll f scans tbs pl p y x else pl p y x := fun p y x hp => by
      by_cases h : p < i
      · rw [if_pos h, if_pos (by tb_rel)]
      · rw [if_neg h, if_neg (by tb_rel)]
    refine ⟨_, rfl, fun hw => ?_, fun hw => ?_⟩
    · have htb : tbs.getD i [] ∈ tbs := by
        rw [List.getD_eq_getElem?_getD, List.getElem?_eq_getElem (by rw [hg.tb.1]; exact hi2)]; exact List.getElem_mem _
      have htg : (tbs.map fun t => AV.lst (t.map AV.int))[((i : Nat) : Int).toNat]? = some (.lst ((tbs.getD i []).map .int)) := by
        rw [Int.toNat_natCast]
        exact get_map (by rw [List.getD_eq_getElem?_getD, List.getElem?_eq_getElem (by rw [hg.tb.1]; exact hi2)]; rfl)
      repeat (tb_start)
      first | refine kMeth_i (f := .ref 459) (meth_inst .frozen (by kernel_rfl) (by kernel_rfl)) (callee_K (by kernel_rfl)) ?_ | refine ⟨.ref 459, meth_inst .frozen (by kernel_rfl) (by kernel_rfl), callee_K (by kernel_rfl), ?_⟩
      repeat (tb_start)
      refine blocks_spec (by tb_rel) hf hi01 ?_
      repeat (tb_start)
      refine sub_lst (by tb_rel) htg ?_ (by tb_rel)
      repeat (tb_start)
      refine smooth_component_spec (by tb_rel) hf hi2 hok (hg.tb.2 _ htb) (lowsP_len f scans i) (fun k hk => lowTo_all (fun x hx => (hg.sc x hx).l.2) _ k hk) hm2 hG2 hfr fun m3 h3 hG3 => ⟨rfl, ?_⟩
      repeat (tb_start)
      refine hJ _ _ ⟨_, _, rfl, h3, hG3.congr fun p hp y hy x hx => ?_⟩
      by_cases hpi : p = i
      · subst hpi
        rw [if_pos (Nat.lt_succ_self _)]
        unfold smPl smAll
        have : InB f p (f.bh p).toNat 0 p y x ↔ (x < (f.bw p).toNat ∧ y < (f.bh p).toNat) := InB_full
        by_cases hin : x < (f.bw p).toNat ∧ y < (f.bh p).toNat
        · rw [if_pos (this.mpr hin), if_pos ⟨hw, hin⟩]; rfl
        · rw [if_neg (fun h => hin (this.mp h)), if_neg (fun h => hin h.2)]; dsimp only; rw [if_neg (Nat.lt_irrefl _)]
      · unfold smPl
        rw [if_neg (fun h => hpi h.1)]
        exact other p y x hpi
    · repeat (tb_start)
      refine hJ _ _ ⟨_, _, rfl, hm2, hG2.congr fun p hp y hy x hx => ?_⟩
      by_cases hpi : p = i
      · subst hpi
        rw [if_neg (Nat.lt_irrefl _), if_pos (Nat.lt_succ_self _)]
        unfold smAll
        rw [if_neg (fun h => by have := h.1; rw [show worth (lowsP f scans p) f.n = false from hw] at this; cases this)]
      · exact other p y x hpi
  · rintro le m ⟨p, k, rfl, hm, hG⟩
    repeat (tb_start)
    refine hQ m ln hm (hG.congr fun p hp y hy x hx => ?_) hfr
    rw [if_pos (by simpa [rngL_len] using hp)]
end


section
variable {c : Cx} {e : Nat} {μ : MH}

theorem keg_spec {ns : List Int} {k : Nat} {Q : AV → MH → Prop} (he : 1 ≤ e) (hl : ns.length < 1000000) (hk : k ≤ 1000) (hQ : ∀ a x y, μ a = none → 0 ≤ x → 0 ≤ y ∧ y < 1999397 → Q (.ref a) (updM μ a (.list 2 [.int x, .int y]))) :
    CallW c e (.raw (.ref 515)) [.lst (ns.map .int), .int (k : Nat)] μ Q := by
  refine callW_def' (f := 515) (ps := [Str.ofString "script", Str.ofString "k"]) (ge := rawGe [(Str.ofString "len", .builtin "len"), (Str.ofString "abs", .builtin "abs")]) he rfl (by kernel_rfl) (by intro v0 v1; show _ = _; kernel_rfl) (by kernel_rfl) (fun gd => geOk_raw (by kernel_rfl)) rfl (fun env => ?_)
  clear he
  dsimp only [mkLE, rawGe, List.map]
  refine wss_cons (ws_assign (WE.mono (Q := fun v m => m = μ ∧ ∃ x, v = .int x ∧ 0 ≤ x) ?_ ?_))
  · refine we_ifexp ?_
    repeat (tb_start)
    refine call_len_lst ?_ (by rw [List.length_map]; omega)
    repeat (tb_start)
    refine ⟨fun h => ?_, fun h => ?_⟩
    · have h := of_decide_eq_true h
      rw [List.length_map] at h
      repeat (tb_start)
      refine sub_lst (by tb_rel) (get_ints (by tb_rel)) ?_ (by tb_rel)
      repeat (tb_start)
      refine ⟨rfl, _, rfl, ?_⟩
      split <;> omega
    · repeat (tb_start)
      exact ⟨rfl, 0, rfl, by decide⟩
  rintro v m ⟨rfl, x, rfl, hx⟩
  repeat (tb_start)
  refine we_lstM 2 ?_
  repeat (tb_start)
  exact fun a ha => hQ a _ _ ha hx ⟨Int.fmod_nonneg_of_pos _ (by tb_rel), Int.fmod_lt_of_pos _ (by tb_rel)⟩

theorem lows_spec {scans : List ScI} {place many : Int} {Q : AV → MH → Prop} (he : 1 ≤ e) (hs : ∀ x ∈ scans, x.Ok many) (hm : 1 ≤ many ∧ many ≤ 16) (hQ : ∀ μ', MLe μ μ' → Q (.lst ((lows scans place many).map .int)) μ') :
    CallW c e (.raw (.ref 541)) [.lst (scans.map ScI.av), .int place, .int many] μ Q := by
  refine CallW.frz ?_
  refine callW_def' (f := 541) (ps := [Str.ofString "scans", Str.ofString "place", Str.ofString "many"]) (ge := rawGe [(Str.ofString "range", .type "range")]) he rfl (by kernel_rfl) (by intro v0 v1 v2; show _ = _; kernel_rfl) (by kernel_rfl) (fun gd => geOk_raw (by kernel_rfl)) rfl (fun env => ?_)
  clear he
  dsimp only [mkLE, rawGe, List.map]
  refine wss_cons (ws_assign (we_bin (we_lst (wl_cons ?_))))
  repeat (tb_start)
  refine bin_mul_lstM 0 (by tb_rel) (by tb_rel) fun a ha => ?_
  repeat (tb_start)
  refine ws_for (it_of ?_)
  repeat (tb_start)
  refine ⟨_, .lst _, ?_⟩
  have e0 : List.replicate many.toNat (AV.int (-1)) = (lowTo scans place many 0).map .int := by unfold lowTo; rw [List.take_zero, List.foldl_nil, List.map_replicate]
  rw [e0]
  refine loop_ind (fun i le m => ∃ s r, le = [(Str.ofString "scans", some (.lst (scans.map ScI.av))), (Str.ofString "place", some (.int place)), (Str.ofString "many", some (.int many)), (Str.ofString "lows", some (.ref a)), (Str.ofString "scan", s), (Str.ofString "rank", r)] ∧
    m = updM μ a (.list 0 ((lowTo scans place many i).map .int))) ⟨_, _, rfl, rfl⟩ ?_ ?_
  · rintro i v le m hi ⟨s, r, rfl, rfl⟩
    rw [List.getElem?_map] at hi
    obtain ⟨x, hx, rfl⟩ := Option.map_eq_some_iff.mp hi
    have ox := hs x (List.mem_of_getElem? hx)
    obtain ⟨o1, o2, o3, o4⟩ := ox
    refine wa_name (by tb_rel) ?_
    unfold ScI.av scanAV
    repeat (tb_start)
    refine cmp_in_ints ⟨fun hq => ?_, fun hq => ?_⟩
    · repeat (tb_start)
      refine ws_for (it_of ?_)
      repeat (tb_start)
      refine ⟨_, items_up (by tb_rel) (by tb_rel) (by tb_rel) (by tb_rel), ?_⟩
      refine loop_ind (fun j le m => ∃ r, le = [(Str.ofString "scans", some (.lst (scans.map ScI.av))), (Str.ofString "place", some (.int place)), (Str.ofString "many", some (.int many)), (Str.ofString "lows", some (.ref a)), (Str.ofString "scan", some (scanAV x.ps x.s x.e x.l)), (Str.ofString "rank", r)] ∧
        m = updM μ a (.list 0 ((setR (lowTo scans place many i) x.s x.l j).map .int))) ⟨_, rfl, rfl⟩ ?_ ?_
      · rintro j v' le m hj ⟨r, rfl, rfl⟩
        obtain ⟨hlt, rfl⟩ := rngL_get hj
        have hl : (List.map AV.int (setR (lowTo scans place many i) x.s x.l j)).length = many.toNat := by rw [List.length_map, setR_len, lowTo_len]
        obtain ⟨hat0, hat1, hat2⟩ := ScI.Ok.at ⟨o1, o2, o3, o4⟩ hm.2 hlt
        rw [← hl] at hat1
        refine wa_name (by tb_rel) ?_
        unfold scanAV
        repeat (tb_start)
        rw [setR, List.map_set]
      · rintro le m ⟨r, rfl, rfl⟩
        repeat (tb_start)
        refine ⟨_, _, rfl, ?_⟩
        rw [lowTo_succ hx, List.length_map, rngL_len, lowStep, if_pos hq]
    · repeat (tb_start)
      refine ⟨_, _, rfl, ?_⟩
      rw [lowTo_succ hx, lowStep, if_neg (by rw [hq]; exact Bool.false_ne_true)]
  · rintro le m ⟨s, r, rfl, rfl⟩
    rw [List.length_map]
    repeat (tb_start)
    exact frz_ret (updM_self _ _ _) ((MLe.refl _).upd ha) ha hQ

structure Rule where
  x : Int
  y : Int
  sh : Int
  w : List Int
noncomputable def Rule.av (r : Rule) : AV := .tup [.int r.x, .int r.y, .int r.sh, .lst (r.w.map .int)]
noncomputable def sl (n : Int) : Int := if n = 2 then 32 else 36
noncomputable def be (n : Int) : Int := if n = 2 then 0 else 9
noncomputable def tw (n : Int) : Int := if n = 2 then 4 else 5
noncomputable def rules (n : Int) : List Rule := [⟨1, 0, sl n, [0, 0, 0, 1, 0, -1, 0, 0, 0]⟩, ⟨0, 1, sl n, [0, 1, 0, 0, 0, 0, 0, -1, 0]⟩, ⟨1, 1, tw n, [1, 0, -1, 0, 0, 0, -1, 0, 1]⟩] ++
  if 2 < n then [⟨0, 2, be n, [0, 1, 0, 0, -2, 0, 0, 1, 0]⟩, ⟨2, 0, be n, [0, 0, 0, 1, -2, 1, 0, 0, 0]⟩] else []
theorem rules_spec {n : Int} {Q : AV → MH → Prop} (he : 1 ≤ e) (hQ : ∀ μ', MLe μ μ' → Q (.lst ((rules n).map Rule.av)) μ') : CallW c e (.raw (.ref 534)) [.int n] μ Q := by
  refine CallW.frz ?_
  refine callW_def' (f := 534) (ps := [Str.ofString "n"]) (ge := rawGe []) he rfl (by kernel_rfl) (by intro v0; show _ = _; kernel_rfl) (by kernel_rfl) (fun gd => geOk_raw (by kernel_rfl)) rfl (fun env => ?_)
  clear he
  dsimp only [mkLE, rawGe, List.map]
  refine wss_cons (ws_assign_tuple (WE.mono (Q := fun v m => m = μ ∧ v = .tup [.int (sl n), .int (be n), .int (tw n)]) ?_ ?_))
  · refine we_ifexp ?_
    repeat (tb_start)
    refine ⟨fun h => ?_, fun h => ?_⟩
    · have h : n = 2 := eq_of_beq h
      repeat (tb_start)
      exact ⟨rfl, by unfold sl be tw; simp [h]⟩
    · have h : n ≠ 2 := ne_of_beq_false h
      repeat (tb_start)
      exact ⟨rfl, by unfold sl be tw; simp [h]⟩
  rintro v m ⟨rfl, rfl⟩
  refine wab_tuple rfl (wa_name (by tb_rel) (wa_name (by tb_rel) (wa_name (by tb_rel) ?_)))
  refine wss_cons (ws_assign (we_lstM 0 ?_))
  repeat (first | tb_start | refine we_lst ?_)
  intro a ha
  repeat (first | tb_start | refine we_lst ?_)
  refine ⟨fun h => ?_, fun h => ?_⟩
  · have h : 2 < n := of_decide_eq_true h
    repeat (first | tb_start | refine we_lst ?_)
    refine frz_ret (updM_self _ _ _) ((MLe.refl _).upd ha) ha fun m hm => ?_
    have := hQ m hm
    unfold rules at this
    rw [if_pos h] at this
    exact this
  · have h : ¬ 2 < n := of_decide_eq_false h
    repeat (first | tb_start | refine we_lst ?_)
    refine frz_ret (updM_self _ _ _) ((MLe.refl _).upd ha) ha fun m hm => ?_
    have := hQ m hm
    unfold rules at this
    rw [if_neg h] at this
    exact this
end


noncomputable def lwS (n l : Int) : List (List Int) := ((rngL 0 1 (n - 0).toNat).filter fun y => decide (0 ≤ l - y) && decide (l - y < n)).map fun y => [l - y, y]
noncomputable def lwL (n l : Int) : List (List Int) := if (l.fmod 2 == 1) = true then lwS n l else (lwS n l).reverse
noncomputable def lw (n : Int) : List (List Int) := (rngL 0 1 (2 * n - 1 - 0).toNat).flatMap (lwL n)
noncomputable def lrk (n : Int) : List (List Int × Int) := (lw n).zipIdx.map fun p => (p.1, ((p.2 : Nat) : Int))
noncomputable def tAV (ks : List Int) : AV := .tup (ks.map .int)

section
variable {c : Cx} {e : Nat} {μ : MH}

theorem lwS_len {n l : Int} : (lwS n l).length ≤ n.toNat := by
  unfold lwS; rw [List.length_map]
  exact Nat.le_trans (List.length_filter_le ..) (by rw [rngL_len]; omega)
theorem lwL_len {n l : Int} : (lwL n l).length ≤ n.toNat := by
  unfold lwL; split
  · exact lwS_len
  · rw [List.length_reverse]; exact lwS_len
theorem lrk_nodup {n : Int} (hn : n = 2 ∨ n = 3 ∨ n = 4) : ((lrk n).map (·.1)).Nodup ∧ (lrk n).length ≤ 100 := by
  rcases hn with rfl | rfl | rfl <;> decide +kernel

theorem law_ranks_spec {n : Int} {Q : AV → MH → Prop} (he : 3 ≤ e) (hn : n = 2 ∨ n = 3 ∨ n = 4) (hQ : ∀ μ', MLe μ μ' → Q (.dct (lrk n)) μ') : CallW c e (.raw (.ref 527)) [.int n] μ Q := by
  have he' := he
  have he : 1 ≤ e := by omega
  refine callW_def' (f := 527) (ps := [Str.ofString "n"]) (ge := rawGe [(Str.ofString "range", .type "range"), (Str.ofString "dict", .type "dict"), (Str.ofString "enumerate", .type "enumerate")]) he rfl (by kernel_rfl) (by intro v0; show _ = _; kernel_rfl) (by kernel_rfl) (fun gd => geOk_raw (by kernel_rfl)) rfl (fun env => ?_)
  clear he
  dsimp only [mkLE, rawGe, List.map]
  refine wss_cons (ws_assign (we_lstM 0 (wl_nil ⟨by decide, fun a ha => ⟨_, by tb_rel, ?_⟩⟩)))
  refine wss_cons (ws_for (it_of ?_))
  repeat (tb_start)
  refine ⟨_, items_up (by tb_rel) (by tb_rel) (by tb_rel) (by tb_rel), ?_⟩
  refine loop_ind (fun i le m => ∃ l s, le = [(Str.ofString "n", some (.int n)), (Str.ofString "walked", some (.ref a)), (Str.ofString "line", l), (Str.ofString "some", s)] ∧
    m = updM μ a (.list 0 ((((rngL 0 1 (2 * n - 1 - 0).toNat).take i).flatMap (lwL n)).map tAV))) ⟨_, _, rfl, rfl⟩ ?_ ?_
  · rintro i v le m hi ⟨l, s, rfl, rfl⟩
    obtain ⟨hlt, rfl⟩ := rngL_get hi
    generalize hM : updM μ a (.list 0 ((((rngL 0 1 (2 * n - 1 - 0).toNat).take i).flatMap (lwL n)).map tAV)) = M
    refine wa_name (by tb_rel) ?_
    refine wss_cons (ws_assign_comp (ge := rawGe []) (by kernel_rfl) (by tb_rel) (by kernel_rfl) (geOk_raw (by kernel_rfl)) (it_of ?_))
    repeat (tb_start)
    refine ⟨_, items_up (by tb_rel) (by tb_rel) (by tb_rel) (by tb_rel), by rw [List.length_map, rngL_len]; exact n41 hn rfl, fun env' => ?_⟩
    refine comp_ind (fun j le m ys => ∃ o y, le = [(Str.ofString ".0", o), (Str.ofString "y", y), (Str.ofString "line", some (.int (0 + (i : Int) * 1))), (Str.ofString "n", some (.int n))] ∧ m = M ∧
      ys = ((((rngL 0 1 (n - 0).toNat).take j).filter fun y => decide (0 ≤ (0 + (i : Int) * 1) - y) && decide ((0 + (i : Int) * 1) - y < n)).map fun y => [(0 + (i : Int) * 1) - y, y]).map tAV) ⟨_, _, rfl, rfl, rfl⟩ ?_ ?_
    · rintro j v le m ys hj ⟨o, y, rfl, rfl, rfl⟩
      obtain ⟨hj2, rfl⟩ := rngL_get hj
      refine wl_name (by kernel_rfl) (by tb_rel) ?_
      repeat (tb_start)
      have tk := rngL_take_succ (a := 0) (k := 1) hj2
      refine ⟨fun h1 => ⟨by first | exact ft | exact tf, fun _ => ?_⟩, fun h1 => ?_⟩
      · refine ⟨_, _, rfl, rfl, ?_⟩
        rw [tk, List.filter_append, List.filter_cons, h1]
        simp
      · repeat (tb_start)
        refine ⟨fun h2 => ?_, fun h2 => ?_⟩
        · repeat (tb_start)
          refine ⟨_, _, rfl, rfl, ?_⟩
          rw [tk, List.filter_append, List.filter_cons, h1, h2]
          simp [tAV]
        · refine ⟨_, _, rfl, rfl, ?_⟩
          rw [tk, List.filter_append, List.filter_cons, h1, h2]
          simp
    · rintro le m ys ⟨o, y, rfl, rfl, rfl⟩
      have e0 : (((((rngL 0 1 (n - 0).toNat).take (List.map AV.int (rngL 0 1 (n - 0).toNat)).length).filter fun y => decide (0 ≤ (0 + (i : Int) * 1) - y) && decide ((0 + (i : Int) * 1) - y < n)).map fun y => [(0 + (i : Int) * 1) - y, y]).map tAV) = (lwS n (0 + (i : Int) * 1)).map tAV := by
        rw [List.length_map, List.take_length]; rfl
      rw [e0]
      subst hM
      have hl0 : (((((rngL 0 1 (2 * n - 1 - 0).toNat).take i).flatMap (lwL n)).map tAV)).length ≤ 100 := by
        have := flat_len (f := lwL n) (k := 4) (xs := (rngL 0 1 (2 * n - 1 - 0).toNat).take i) fun x _ => Nat.le_trans lwL_len (by tb_rel)
        rw [List.length_take, rngL_len] at this
        rw [List.length_map]; omega
      have hl1 := lwS_len (n := n) (l := 0 + (i : Int) * 1)
      repeat (tb_start)
      generalize hM2 : updM μ a (.list 0 ((((rngL 0 1 (2 * n - 1 - 0).toNat).take i).flatMap (lwL n)).map tAV)) = M2
      refine WE.mono (Q := fun v m => m = M2 ∧ v = .lst ((lwL n (0 + (i : Int) * 1)).map tAV)) ?_ ?_
      · refine we_ifexp ?_
        repeat (tb_start)
        refine ⟨fun h => ?_, fun h => ?_⟩
        · repeat (tb_start)
          exact ⟨rfl, by unfold lwL; rw [if_pos h]⟩
        · refine we_sub_slice ?_
          repeat (tb_start)
          refine we_slice_rev (k := -1) ?_
          repeat (tb_start)
          refine ⟨rfl, ?_⟩
          refine sub_rev ⟨rfl, ?_⟩ (by rw [List.length_map]; omega)
          unfold lwL; rw [if_neg (by rw [h]; exact Bool.false_ne_true), List.map_reverse]
      rintro v m ⟨rfl, rfl⟩
      subst hM2
      repeat (tb_start)
      have hl2 := lwL_len (n := n) (l := 0 + (i : Int) * 1)
      refine callW_extend (updM_self _ _ _) ⟨rfl, ?_⟩ (by rw [List.length_map (f := tAV) (as := lwL n _)]; omega)
      repeat (tb_start)
      refine ⟨_, _, rfl, ?_⟩
      rw [updM_updM, rngL_take_succ hlt, List.flatMap_append]
      simp
  · rintro le m ⟨l, s, rfl, rfl⟩
    rw [List.length_map, List.take_length]
    have hlw : (rngL 0 1 (2 * n - 1 - 0).toNat).flatMap (lwL n) = lw n := rfl
    rw [hlw]
    obtain ⟨hnd, hln⟩ := lrk_nodup hn
    have hln2 : (lw n).length ≤ 100 := by unfold lrk at hln; simpa using hln
    refine wss_frz (x := Str.ofString "walked") (S := fun b => b == a) (by tb_rel) (by tb_rel) (.list (by simp) (updM_self _ _ _) (FzL.same _)) ?_
    generalize hM : delS (fun b => b == a) (updM μ a (.list 0 ((lw n).map tAV))) = M
    have hle : MLe μ M := by
      rw [← hM]
      exact ((MLe.refl μ).upd ha).del fun b hb => by rw [beq_iff_eq] at hb; rw [hb]; exact ha
    refine wss_cons (ws_return (we_call ?_))
    repeat (tb_start)
    refine we_compM 0 (ge := rawGe []) (by tb_rel) (by kernel_rfl) (geOk_raw (by kernel_rfl)) (it_call ?_)
    repeat (tb_start)
    refine callI_enum ⟨by rw [enumAV_len, List.length_map]; omega, fun env' => ?_⟩
    refine comp_ind (fun j le m ys => ∃ o r p, le = [(Str.ofString ".0", o), (Str.ofString "rank", r), (Str.ofString "pair", p)] ∧ m = M ∧ ys = ((lrk n).take j).map pairAV) ⟨_, _, _, rfl, rfl, rfl⟩ ?_ ?_
    · rintro j v le m ys hj ⟨o, r, p, rfl, rfl, rfl⟩
      obtain ⟨x, hx, rfl⟩ := enumAV_get hj
      rw [List.getElem?_map] at hx
      obtain ⟨ks, hks, rfl⟩ := Option.map_eq_some_iff.mp hx
      refine wab_tuple rfl (wl_name (by kernel_rfl) (by tb_rel) (wl_name (by kernel_rfl) (by tb_rel) ⟨fun _ => ?_, by first | exact tf | exact ft⟩))
      repeat (tb_start)
      refine ⟨_, _, _, rfl, rfl, ?_⟩
      have : (lrk n)[j]? = some (ks, ((j : Nat) : Int)) := by unfold lrk; rw [List.getElem?_map, List.getElem?_zipIdx, hks]; simp
      rw [List.take_succ, this]
      simp [pairAV, tAV]
    · rintro le m ys ⟨o, r, p, rfl, rfl, rfl⟩ b hb
      have e0 : (lrk n).take (enumAV ((lw n).map tAV)).length = lrk n := by
        rw [enumAV_len, List.length_map]; exact List.take_of_length_le (by unfold lrk; simp)
      rw [e0]
      repeat (tb_start)
      exact callW_dict' (by tb_rel) (updM_self _ _ _) hnd (by tb_rel) (hQ _ (hle.upd (hle.gone hb)))
end


noncomputable def lr (n : Int) (r : Rule) : Int := ((lrk n).lookup [r.x, r.y]).getD 0
theorem rule_facts {n : Int} (hn : n = 2 ∨ n = 3 ∨ n = 4) : ∀ r ∈ rules n, (lrk n).lookup [r.x, r.y] = some (lr n r) ∧ (0 ≤ lr n r ∧ lr n r < n * n) ∧ (0 ≤ r.sh ∧ r.sh ≤ 36) ∧ r.w.length = 9 ∧ r.w.all (fun v => decide (-2 ≤ v ∧ v ≤ 2)) = true := by
  rcases hn with rfl | rfl | rfl <;> decide +kernel
noncomputable def dueSize (number t low : Int) : Int :=
  if 0 < low then min ((2 * (if number < 0 then -number else number) + 256 * t).fdiv (512 * t)) (2 ^ low.toNat - 1) else (2 * (if number < 0 then -number else number) + 256 * t).fdiv (512 * t)
noncomputable def dueVal (number t low : Int) : Int := if 0 ≤ number then dueSize number t low else 0 - dueSize number t low
noncomputable def dueStep (row nine tb lo : List Int) (n : Int) (found : List Int) (r : Rule) : List Int :=
  if (lo.getD (lr n r).toNat 0 == 0) = true ∨ (row.getD (lr n r).toNat 0 != 0) = true then found
  else found.set (lr n r).toNat (dueVal (r.sh * tb.getD 0 0 * (dot nine r.w).sum) (tb.getD (lr n r).toNat 0) (lo.getD (lr n r).toNat 0))
noncomputable def dueTo (row nine tb lo : List Int) (n : Int) (i : Nat) : List Int := ((rules n).take i).foldl (dueStep row nine tb lo n) row
noncomputable def dueRow (row nine tb lo : List Int) (n : Int) : List Int := (rules n).foldl (dueStep row nine tb lo n) row
theorem dueStep_len (row nine tb lo : List Int) (n : Int) (found : List Int) (r : Rule) : (dueStep row nine tb lo n found r).length = found.length := by
  unfold dueStep; split
  · rfl
  · rw [List.length_set]
theorem foldR_len {f : List Int → Rule → List Int} (hf : ∀ a x, (f a x).length = a.length) : ∀ (xs : List Rule) (a : List Int), (xs.foldl f a).length = a.length
  | [], a => rfl
  | x :: r, a => by rw [List.foldl_cons, foldR_len hf r, hf]
theorem dueTo_len (row nine tb lo : List Int) (n : Int) (i : Nat) : (dueTo row nine tb lo n i).length = row.length := foldR_len (fun a x => dueStep_len ..) _ _
theorem dueTo_succ {row nine tb lo : List Int} {n : Int} {i : Nat} {r : Rule} (h : (rules n)[i]? = some r) : dueTo row nine tb lo n (i + 1) = dueStep row nine tb lo n (dueTo row nine tb lo n i) r := by
  unfold dueTo
  rw [List.take_succ, h, Option.toList_some, List.foldl_append]; rfl

section
variable {c : Cx} {e : Nat} {μ : MH}

theorem due_row_spec {row nine tb lo : List Int} {n : Int} {Q : AV → MH → Prop} (he : 5 ≤ e) (hn : n = 2 ∨ n = 3 ∨ n = 4) (hr : row.length = (n * n).toNat) (h9 : nine.length = 9) (ht : TbOk tb n) (hk : lo.length = (n * n).toNat) (hk2 : ∀ k ∈ lo, k ≤ 2)
    (hQ : ∀ μ', MLe μ μ' → Q (.lst ((dueRow row nine tb lo n).map .int)) μ') : CallW c e (.raw (.ref 546)) [.lst (row.map .int), .lst (nine.map .int), .lst (tb.map .int), .lst (lo.map .int), .int n] μ Q := by
  have he' := he
  have he : 1 ≤ e := by omega
  have hnn := many_facts hn
  refine CallW.frz ?_
  refine callW_def' (f := 546) (ps := [Str.ofString "row", Str.ofString "nine", Str.ofString "table", Str.ofString "lows", Str.ofString "n"]) (ge := rawGe [(Str.ofString "_law_ranks", .ref 527), (Str.ofString "list", .type "list"), (Str.ofString "_law_rules", .ref 534), (Str.ofString "sum", .builtin "sum"), (Str.ofString "zip", .type "zip"), (Str.ofString "abs", .builtin "abs"), (Str.ofString "min", .builtin "min")]) he rfl (by kernel_rfl) (by intro v0 v1 v2 v3 v4; show _ = _; kernel_rfl) (by kernel_rfl) (fun gd => geOk_raw (by kernel_rfl)) rfl (fun env => ?_)
  clear he
  dsimp only [mkLE, rawGe, List.map]
  refine wss_cons (ws_assign_swap2 (x := Str.ofString "spots") (y := Str.ofString "found") (by kernel_rfl) ?_)
  repeat (tb_start)
  refine law_ranks_spec (by tb_rel) hn fun μ₁ h1 => ?_
  repeat (tb_start)
  refine callW_list_lst (tg' := 0) (fun a ha => ?_) (by rw [List.length_map]; omega)
  repeat (tb_start)
  refine ⟨_, _, rfl, _, (by tb_rel), _, (by tb_rel), ?_⟩
  have hm0 : MLe μ (updM μ₁ a (.list 0 (row.map .int))) := h1.upd (h1.gone ha)
  have ha0 := h1.gone ha
  repeat (tb_start)
  refine ws_for (it_of ?_)
  repeat (tb_start)
  refine rules_spec (by tb_rel) fun μ₂ h2 => ⟨_, .lst _, ?_⟩
  refine loop_j (fun i le m => ∃ x y sh w rank number size, le = [(Str.ofString "row", some (.lst (row.map .int))), (Str.ofString "nine", some (.lst (nine.map .int))), (Str.ofString "table", some (.lst (tb.map .int))), (Str.ofString "lows", some (.lst (lo.map .int))), (Str.ofString "n", some (.int n)),
      (Str.ofString "spots", some (.dct (lrk n))), (Str.ofString "found", some (.ref a)), (Str.ofString "x", x), (Str.ofString "y", y), (Str.ofString "share", sh), (Str.ofString "nine_shares", w), (Str.ofString "rank", rank), (Str.ofString "number", number), (Str.ofString "size", size)] ∧
    MLe μ m ∧ m a = some (.list 0 ((dueTo row nine tb lo n i).map .int))) ⟨_, _, _, _, _, _, _, rfl, hm0.trans h2, h2 _ _ (updM_self _ _ _)⟩ ?_ ?_
  · rintro i v le m hi ⟨x, y, sh, w, rank, number, size, rfl, hm, hma⟩ J hJ hJc _
    rw [List.getElem?_map] at hi
    obtain ⟨r, hr0, rfl⟩ := Option.map_eq_some_iff.mp hi
    obtain ⟨f1, f2, f3, f4, f5⟩ := rule_facts hn r (List.mem_of_getElem? hr0)
    generalize hR : lr n r = rk0 at *
    have hrn : rk0.toNat < (n * n).toNat := tolt f2.1 f2.2
    refine wab_tuple (vs := [.int r.x, .int r.y, .int r.sh, .lst (r.w.map .int)]) rfl (wa_name (by tb_rel) (wa_name (by tb_rel) (wa_name (by tb_rel) (wa_name (by tb_rel) ?_))))
    repeat (tb_start)
    refine sub_dct' (ks := [r.x, r.y]) (by tb_rel) f1 ?_
    repeat (tb_start)
    have keep : dueStep row nine tb lo n (dueTo row nine tb lo n i) r = dueTo row nine tb lo n i → ((dueTo row nine tb lo n (i + 1)).map AV.int) = (dueTo row nine tb lo n i).map .int := by intro h; rw [dueTo_succ hr0, h]
    have hs : dueStep row nine tb lo n (dueTo row nine tb lo n i) r = if (lo.getD rk0.toNat 0 == 0) = true ∨ (row.getD rk0.toNat 0 != 0) = true then dueTo row nine tb lo n i else (dueTo row nine tb lo n i).set rk0.toNat (dueVal (r.sh * tb.getD 0 0 * (dot nine r.w).sum) (tb.getD rk0.toNat 0) (lo.getD rk0.toNat 0)) := by
      unfold dueStep; rw [hR]
    refine sub_lst f2.1 (get_ints (by tb_rel)) ?_ (by tb_rel)
    repeat (tb_start)
    have stay : dueStep row nine tb lo n (dueTo row nine tb lo n i) r = dueTo row nine tb lo n i → m a = some (.list 0 ((dueTo row nine tb lo n (i + 1)).map .int)) := fun h => by rw [hma, keep h]
    refine ⟨fun hb => ⟨fun _ => ?_, by first | exact tf | exact ft⟩, fun hb => ?_⟩
    · repeat (tb_start)
      exact hJc _ _ ⟨_, _, _, _, _, _, _, rfl, hm, stay (by rw [hs, if_pos (.inl hb)])⟩
    repeat (tb_start)
    refine sub_lst f2.1 (get_ints (by tb_rel)) ?_ (by tb_rel)
    repeat (tb_start)
    refine ⟨fun hb2 => ?_, fun hb2 => ?_⟩
    · repeat (tb_start)
      exact hJc _ _ ⟨_, _, _, _, _, _, _, rfl, hm, stay (by rw [hs, if_pos (.inr hb2)])⟩
    rw [if_neg (fun h => by exact h.elim (fun h => by rw [h] at hb; cases hb) (fun h => by rw [h] at hb2; cases hb2))] at hs
    have ht0 := ht.at (i := (0 : Int).toNat) (by show (0 : Nat) < _; omega)
    have htr := ht.at hrn
    have hkr := hk2 _ (getD_mem' (by rw [hk]; exact hrn))
    repeat (tb_start)
    refine sub_lst (by tb_rel) (get_ints (by rw [ht.len]; show (0 : Nat) < _; omega)) ?_ (by tb_rel)
    repeat (tb_start)
    refine we_comp (ge := rawGe []) (by tb_rel) (by kernel_rfl) (geOk_raw (by kernel_rfl)) (it_call ?_)
    repeat (tb_start)
    refine callI_zip_ll (by rw [List.length_map, List.length_map]; omega) ⟨by unfold zipAV; rw [List.length_zipWith, List.length_map]; omega, fun env' => ?_⟩
    refine comp_j (fun j le m' ys => ∃ o a b, le = [(Str.ofString ".0", o), (Str.ofString "one", a), (Str.ofString "weight", b)] ∧ m' = m ∧ ys = ((dot nine r.w).take j).map .int) ⟨_, _, _, rfl, rfl, rfl⟩ ?_ ?_
    · rintro j v le m' ys hj ⟨o, a', b, rfl, rfl, rfl⟩ J2 hJ2
      obtain ⟨x', y', hx', hy', rfl⟩ := zipAV_get hj
      obtain ⟨x0, hx, rfl⟩ := ints_get hx'
      obtain ⟨y0, hy, rfl⟩ := ints_get hy'
      clear hx' hy'
      have := List.all_eq_true.mp f5 y0 (List.mem_of_getElem? hy)
      have := of_decide_eq_true this
      refine wab_tuple rfl (wl_name (by kernel_rfl) (by tb_rel) (wl_name (by kernel_rfl) (by tb_rel) ⟨fun _ => ?_, by first | exact tf | exact ft⟩))
      repeat (tb_start)
      refine hJ2 _ _ _ ⟨_, _, _, rfl, rfl, ?_⟩
      have : (dot nine r.w)[j]? = some (x0 * y0) := by unfold dot; rw [List.getElem?_zipWith, hx, hy]
      rw [List.take_succ, this]
      simp
    rintro le m' ys ⟨o, a', b, rfl, rfl, rfl⟩
    have e1 : (zipAV (nine.map AV.int) (r.w.map AV.int)).length = (dot nine r.w).length := by unfold zipAV dot; simp
    rw [e1, List.take_length]
    repeat (tb_start)
    refine callW_sum ?_
    have hprod : (r.sh * tb.getD (0 : Int).toNat 0).natAbs < 2 ^ 64 := by
      have e1 : (r.sh * tb.getD (0 : Int).toNat 0).natAbs = r.sh.natAbs * (tb.getD (0 : Int).toNat 0).natAbs := Int.natAbs_mul ..
      have e2 : r.sh.natAbs * (tb.getD (0 : Int).toNat 0).natAbs ≤ 36 * 1000 := Nat.mul_le_mul (by tb_rel) (by tb_rel)
      rw [e1]; omega
    have eN : r.sh * tb.getD 0 0 * (dot nine r.w).sum = r.sh * tb.getD (0 : Int).toNat 0 * (dot nine r.w).sum := rfl
    rw [eN] at hs
    repeat (tb_start)
    generalize r.sh * tb.getD (0 : Int).toNat 0 * (dot nine r.w).sum = N at *
    refine sub_lst f2.1 (get_ints (by rw [ht.len]; exact hrn)) ?_ (by tb_rel)
    repeat (tb_start)
    refine sub_lst f2.1 (get_ints (by rw [ht.len]; exact hrn)) ?_ (by tb_rel)
    repeat (tb_start)
    refine sub_lst f2.1 (get_ints (by tb_rel)) ?_ (by tb_rel)
    repeat (tb_start)
    have hlen : (List.map AV.int (dueTo row nine tb lo n i)).length = (n * n).toNat := by rw [List.length_map, dueTo_len, hr]
    have fin : ∀ v, v = dueVal N (tb.getD rk0.toNat 0) (lo.getD rk0.toNat 0) → (updM m' a (.list 0 ((List.map AV.int (dueTo row nine tb lo n i)).set rk0.toNat (.int v)))) a = some (.list 0 ((dueTo row nine tb lo n (i + 1)).map .int)) := by
      intro v hv
      rw [updM_self, dueTo_succ hr0, hs, List.map_set, hv]
    unfold dueVal dueSize at fin
    refine ⟨fun hl => ?_, fun hl => ?_⟩
    · have hl := of_decide_eq_true hl
      rw [if_pos hl] at fin
      repeat (tb_start)
      refine sub_lst f2.1 (get_ints (by tb_rel)) ?_ (by tb_rel)
      repeat (tb_start)
      refine we_ifexp ?_
      repeat (tb_start)
      refine ⟨fun hn0 => ?_, fun hn0 => ?_⟩
      · have hn0 := of_decide_eq_true hn0
        rw [if_pos hn0] at fin
        repeat (tb_start)
        exact hJ _ _ ⟨_, _, _, _, _, _, _, rfl, hm.upd ha0, fin _ rfl⟩
      · have hn0 := of_decide_eq_false hn0
        rw [if_neg hn0] at fin
        repeat (tb_start)
        exact hJ _ _ ⟨_, _, _, _, _, _, _, rfl, hm.upd ha0, fin _ rfl⟩
    · have hl := of_decide_eq_false hl
      rw [if_neg hl] at fin
      repeat (tb_start)
      refine we_ifexp ?_
      repeat (tb_start)
      refine ⟨fun hn0 => ?_, fun hn0 => ?_⟩
      · have hn0 := of_decide_eq_true hn0
        rw [if_pos hn0] at fin
        repeat (tb_start)
        exact hJ _ _ ⟨_, _, _, _, _, _, _, rfl, hm.upd ha0, fin _ rfl⟩
      · have hn0 := of_decide_eq_false hn0
        rw [if_neg hn0] at fin
        repeat (tb_start)
        exact hJ _ _ ⟨_, _, _, _, _, _, _, rfl, hm.upd ha0, fin _ rfl⟩
  · rintro le m ⟨x, y, sh, w, rank, number, size, rfl, hm, hma⟩
    rw [List.length_map] at hma
    have e0 : dueTo row nine tb lo n (rules n).length = dueRow row nine tb lo n := by unfold dueTo dueRow; rw [List.take_length]
    rw [e0] at hma
    repeat (tb_start)
    exact frz_ret hma hm ha0 hQ
end

noncomputable def lawWorth (lo : List Int) (n : Int) : Bool := (lo.getD 0 0 != -1) && (rules n).any fun r => lo.getD (lr n r).toNat 0 != 0
theorem any_filter {α : Type} (p : α → Bool) (xs : List α) : (!decide ((xs.filter p).map (fun _ => (1 : Int)) = [])) = xs.any p := by
  induction xs with
  | nil => rfl
  | cons x r ih =>
    rw [List.filter_cons, List.any_cons]
    cases h : p x
    · simpa using ih
    · simp
theorem rules_len {n : Int} (hn : n = 2 ∨ n = 3 ∨ n = 4) : (rules n).length ≤ 100 := by
  rcases hn with rfl | rfl | rfl <;> decide +kernel
section
variable {c : Cx} {e : Nat} {μ : MH}
theorem law_is_worth_spec {lo : List Int} {n : Int} {Q : AV → MH → Prop} (he : 5 ≤ e) (hn : n = 2 ∨ n = 3 ∨ n = 4) (hk : lo.length = (n * n).toNat)
    (hQ : ∀ μ', MLe μ μ' → Q (.bool (lawWorth lo n)) μ') : CallW c e (.raw (.ref 551)) [.lst (lo.map .int), .int n] μ Q := by
  have he' := he
  have he : 1 ≤ e := by omega
  have hnn := many_facts hn
  refine callW_def' (f := 551) (ps := [Str.ofString "lows", Str.ofString "n"]) (ge := rawGe [(Str.ofString "_law_ranks", .ref 527), (Str.ofString "_law_rules", .ref 534)]) he rfl (by kernel_rfl) (by intro v0 v1; show _ = _; kernel_rfl) (by kernel_rfl) (fun gd => geOk_raw (by kernel_rfl)) rfl (fun env => ?_)
  clear he
  dsimp only [mkLE, rawGe, List.map]
  repeat (tb_start)
  refine law_ranks_spec (by tb_rel) hn fun μ₁ h1 => ?_
  repeat (tb_start)
  refine we_and ?_
  repeat (tb_start)
  refine sub_lst (by tb_rel) (get_ints (by rw [hk]; show (0 : Nat) < _; omega)) ?_ (by tb_rel)
  repeat (tb_start)
  refine ⟨fun h0 => ?_, fun h0 => ?_⟩
  · have e0 : lawWorth lo n = false := by
      have h0 : (lo.getD 0 0 != -1) = false := h0
      unfold lawWorth; rw [h0]; rfl
    have := hQ _ h1
    rw [e0] at this
    repeat (tb_start)
    exact this
  have e0 : lawWorth lo n = (rules n).any fun r => lo.getD (lr n r).toNat 0 != 0 := by
    have h0 : (lo.getD 0 0 != -1) = true := h0
    unfold lawWorth; rw [h0]; rfl
  rw [e0] at hQ
  repeat (tb_start)
  refine we_comp (ge := rawGe []) (by tb_rel) (by kernel_rfl) (geOk_raw (by kernel_rfl)) (it_of ?_)
  repeat (tb_start)
  refine rules_spec (by tb_rel) fun μ₂ h2 => ⟨_, .lst _, by rw [List.length_map]; exact (by have := rules_len hn; omega), fun env' => ?_⟩
  refine comp_j (fun i le m ys => ∃ o a, le = [(Str.ofString ".0", o), (Str.ofString "rule", a), (Str.ofString "lows", some (.lst (lo.map .int))), (Str.ofString "spots", some (.dct (lrk n)))] ∧ m = μ₂ ∧
    ys = ((((rules n).take i).filter fun r => lo.getD (lr n r).toNat 0 != 0).map fun _ => (1 : Int)).map .int) ⟨_, _, rfl, rfl, rfl⟩ ?_ ?_
  · rintro i v le m ys hi ⟨o, a, rfl, rfl, rfl⟩ J2 hJ2
    rw [List.getElem?_map] at hi
    obtain ⟨r, hr0, rfl⟩ := Option.map_eq_some_iff.mp hi
    obtain ⟨f1, f2, f3, f4, f5⟩ := rule_facts hn r (List.mem_of_getElem? hr0)
    have hrn : (lr n r).toNat < (n * n).toNat := tolt f2.1 f2.2
    refine wl_name (by kernel_rfl) (by tb_rel) ?_
    unfold Rule.av
    repeat (tb_start)
    refine sub_dct' (ks := [r.x, r.y]) (by tb_rel) f1 ?_
    refine sub_lst f2.1 (get_ints (by tb_rel)) ?_ (by tb_rel)
    repeat (tb_start)
    refine ⟨fun hb => ?_, fun hb => ?_⟩
    · repeat (tb_start)
      refine hJ2 _ _ _ ⟨_, _, rfl, rfl, ?_⟩
      rw [List.take_succ, hr0, Option.toList_some, List.filter_append, List.filter_cons, hb]
      simp
    · refine hJ2 _ _ _ ⟨_, _, rfl, rfl, ?_⟩
      rw [List.take_succ, hr0, Option.toList_some, List.filter_append, List.filter_cons, hb]
      simp
  · rintro le m ys ⟨o, a, rfl, rfl, rfl⟩
    rw [List.length_map, List.take_length]
    repeat (tb_start)
    refine we_lst ?_
    repeat (tb_start)
    refine cmp_neD' (α := List Int) (f := fun l => .lst (l.map .int)) (en := fun l => .list (l.map PyData.int)) (n := 1) (enc_list enc_int) (y := []) (by tb_rel) ?_ (by decide)
    rw [any_filter]
    repeat (tb_start)
    exact hQ _ (h1.trans h2)
end


noncomputable def Keg (m : MH) (k : Addr) : Prop := ∃ x y, m k = some (.list 2 [.int x, .int y]) ∧ 0 ≤ y ∧ y < 1999397
noncomputable def offK (μ : MH) (k : Addr) : MH := fun a => if a = k then none else μ a
structure Dr (μ : MH) (k : Addr) (m : MH) : Prop where
  le : MLe (offK μ k) m
  keg : Keg m k
theorem offK_none {μ : MH} {k a : Addr} (h : μ a = none) : offK μ k a = none := by
  unfold offK; split
  · rfl
  · exact h
theorem Dr.refl {μ : MH} {k : Addr} (h : Keg μ k) : Dr μ k μ := ⟨fun a o e => by
  unfold offK at e
  split at e
  · cases e
  · exact e, h⟩
theorem Dr.ne {μ m : MH} {k a : Addr} (h : Dr μ k m) (ha : m a = none) : a ≠ k := fun e => by
  subst e
  obtain ⟨x, y, q, _⟩ := h.keg
  rw [ha] at q
  cases q
theorem Dr.gone {μ m : MH} {k a : Addr} (h : Dr μ k m) (ha : m a = none) : offK μ k a = none := h.le.gone ha
theorem Dr.keep {μ m m' : MH} {k : Addr} (h : Dr μ k m) (h2 : Keg m' k) (h3 : ∀ a, a ≠ k → m' a = m a) : Dr μ k m' := ⟨fun a o e => by
  have hk : a ≠ k := fun e' => by subst e'; unfold offK at e; rw [if_pos rfl] at e; cases e
  rw [h3 a hk]; exact h.le a o e, h2⟩
theorem Dr.up {μ m : MH} {k a : Addr} {o : AO} (h : Dr μ k m) (hk : a ≠ k) (ha : offK μ k a = none) : Dr μ k (updM m a o) := ⟨h.le.upd ha, by
  obtain ⟨x, y, q1, q2⟩ := h.keg
  exact ⟨x, y, by rw [updM_ne (Ne.symm hk)]; exact q1, q2⟩⟩
theorem Dr.mle {μ m m' : MH} {k : Addr} (h : Dr μ k m) (h2 : MLe m m') : Dr μ k m' := ⟨h.le.trans h2, by
  obtain ⟨x, y, q1, q2⟩ := h.keg
  exact ⟨x, y, h2 _ _ q1, q2⟩⟩
section
variable {c : Cx} {e : Nat} {μ : MH}
theorem tap_spec {k : Addr} {x y m : Int} {Q : AV → MH → Prop} (he : 1 ≤ e) (hm : μ k = some (.list 2 [.int x, .int y])) (h1 : 1 ≤ m) (h2 : m < 1000000) (hy : 0 ≤ y ∧ y < 1999397)
    (hQ : ∀ r x' y', 0 ≤ r → r < m → 0 ≤ y' ∧ y' < 1999397 → Q (.int r) (updM μ k (.list 2 [.int x', .int y']))) : CallW c e (.raw (.ref 522)) [.ref k, .int m] μ Q := by
  refine callW_def' (f := 522) (ps := [Str.ofString "keg", Str.ofString "many"]) (ge := rawGe []) he rfl (by kernel_rfl) (by intro v0 v1; show _ = _; kernel_rfl) (by kernel_rfl) (fun gd => geOk_raw (by kernel_rfl)) rfl (fun env => ?_)
  clear he
  dsimp only [mkLE, rawGe, List.map]
  repeat (tb_start)
  refine sub_ref hm (by tb_rel) rfl ?_ (by tb_rel)
  repeat (tb_start)
  refine sub_ref (updM_self _ _ _) (by tb_rel) rfl ?_ (by tb_rel)
  repeat (tb_start)
  refine sub_ref (updM_self _ _ _) (by tb_rel) rfl ?_ (by tb_rel)
  repeat (tb_start)
  refine sub_ref (updM_self _ _ _) (by tb_rel) rfl ?_ (by tb_rel)
  repeat (tb_start)
  exact hQ _ _ _ (Int.fmod_nonneg_of_pos _ (by tb_rel)) (Int.fmod_lt_of_pos _ (by tb_rel)) ⟨Int.fmod_nonneg_of_pos _ (by tb_rel), Int.fmod_lt_of_pos _ (by tb_rel)⟩
theorem tapK {μ₀ : MH} {k : Addr} {m : Int} {Q : AV → MH → Prop} (he : 1 ≤ e) (hD : Dr μ₀ k μ) (h1 : 1 ≤ m) (h2 : m < 1000000)
    (hQ : ∀ r μ', 0 ≤ r → r < m → Dr μ₀ k μ' → (∀ a, a ≠ k → μ' a = μ a) → Q (.int r) μ') : CallW c e (.raw (.ref 522)) [.ref k, .int m] μ Q := by
  obtain ⟨x, y, q1, q2⟩ := hD.keg
  refine tap_spec he q1 h1 h2 q2 fun r x' y' r1 r2 r3 => ?_
  have h3 : ∀ a, a ≠ k → updM μ k (.list 2 [.int x', .int y']) a = μ a := fun a ha => updM_ne ha
  exact hQ r _ r1 r2 (hD.keep ⟨x', y', updM_self _ _ _, r3⟩ h3) h3
theorem len1 {m : Int} {x : Int} {ks : List Int} (h : 4 ≤ m ∧ m ≤ 16) (hk : ks.length = (m - 1 - 0).toNat) : (x :: ks).length = m.toNat := by rw [List.length_cons]; omega
structure DrG (μ₀ : MH) (k : Addr) (f : FrI) (ln : Nat → Nat → Addr) (b : Prop) (m : MH) : Prop where
  dr : Dr μ₀ k m
  pl : ∃ pl, GM m ln f.H f.W pl ∧ RowsOk pl f.H f.W (f.n * f.n) ∧ (b → pl 0 0 0 ≠ none)
theorem DrG.imp {μ₀ : MH} {k : Addr} {f : FrI} {ln : Nat → Nat → Addr} {b b' : Prop} {m : MH} (h : DrG μ₀ k f ln b m) (hb : b' → b) : DrG μ₀ k f ln b' m := ⟨h.dr, let ⟨pl, a1, a2, a3⟩ := h.pl; ⟨pl, a1, a2, fun x => a3 (hb x)⟩⟩
theorem DrG.tap {μ₀ : MH} {k : Addr} {f : FrI} {ln : Nat → Nat → Addr} {b : Prop} {m m' : MH} (h : DrG μ₀ k f ln b m) (h1 : Dr μ₀ k m') (h2 : ∀ a, a ≠ k → m' a = m a) : DrG μ₀ k f ln b m' := ⟨h1, by
  obtain ⟨pl, a1, a2, a3⟩ := h.pl
  refine ⟨pl, a1.keep fun q t r ht hq => ?_, a2, a3⟩
  rw [h2 q fun e => ?_]
  · exact hq
  · subst e
    obtain ⟨x, y, z, _⟩ := h.dr.keg
    rw [z] at hq
    cases hq
    omega⟩
theorem DrG.put {μ₀ : MH} {k : Addr} {f : FrI} {ln : Nat → Nat → Addr} {b : Prop} {m : MH} {p y x : Nat} {cs : List AV} {q : Addr} {row : List Int} (h : DrG μ₀ k f ln b m) (hp : p < 2) (hy : y < f.H p) (hn : μ₀ (ln p y) = none) (hl : m (ln p y) = some (.list 3 cs)) (hq : m q = none) (hr : row.length = (f.n * f.n).toNat) :
    DrG μ₀ k f ln (b ∨ p = 0 ∧ y = 0 ∧ x = 0) (updM (updM m q (.list 1 (row.map .int))) (ln p y) (.list 3 (cs.set x (.ref q)))) := by
  obtain ⟨pl, a1, a2, a3⟩ := h.pl
  have hk : ln p y ≠ k := fun e => by
    rw [e] at hl
    obtain ⟨x', y', z, _⟩ := h.dr.keg
    rw [z] at hl
    cases hl
  refine ⟨(h.dr.up (h.dr.ne hq) (h.dr.gone hq)).up hk (offK_none hn), upd3 pl p y x (some row), a1.put hp hy hl hq, ⟨fun p' hp' y' hy' x' hx' r hr' => ?_⟩, fun hb => ?_⟩
  · unfold upd3 at hr'
    split at hr'
    · cases hr'; exact hr
    · exact a2.len p' hp' y' hy' x' hx' r hr'
  · unfold upd3
    split
    · nofun
    · rename_i hne
      rcases hb with hb | hb
      · exact a3 hb
      · exact absurd ⟨hb.1.symm, hb.2.1.symm, hb.2.2.symm⟩ hne
theorem DrG.up0 {μ₀ : MH} {k : Addr} {f : FrI} {ln : Nat → Nat → Addr} {b : Prop} {m : MH} {a : Addr} {vs : List AV} (h : DrG μ₀ k f ln b m) (hk : a ≠ k) (ha : offK μ₀ k a = none) (h0 : m a = none ∨ ∃ ws, m a = some (.list 0 ws)) : DrG μ₀ k f ln b (updM m a (.list 0 vs)) := ⟨h.dr.up hk ha, by
  obtain ⟨pl, a1, a2, a3⟩ := h.pl
  refine ⟨pl, a1.keep fun q t r ht hq => ?_, a2, a3⟩
  rw [updM_ne fun e => ?_]
  · exact hq
  · subst e
    rcases h0 with h0 | ⟨ws, h0⟩
    · rw [h0] at hq; cases hq
    · rw [h0] at hq; cases hq; omega⟩
theorem pick3 {r : Int} (h0 : 0 ≤ r) (h1 : r < 3) : ∃ n : Int, [AV.int 2, .int 4, .int 3][r.toNat]? = some (.int n) ∧ (n = 2 ∨ n = 3 ∨ n = 4) := by
  have : r = 0 ∨ r = 1 ∨ r = 2 := by omega
  rcases this with rfl | rfl | rfl
  · exact ⟨2, rfl, by omega⟩
  · exact ⟨4, rfl, by omega⟩
  · exact ⟨3, rfl, by omega⟩
theorem pickS {r : Int} (h0 : 0 ≤ r) (h1 : r < 3) : ∃ ps : List Int, [AV.lst [.int 0], .lst [.int 1], .lst [.int 0, .int 1]][r.toNat]? = some (.lst (ps.map .int)) := by
  have : r = 0 ∨ r = 1 ∨ r = 2 := by omega
  rcases this with rfl | rfl | rfl
  · exact ⟨[0], rfl⟩
  · exact ⟨[1], rfl⟩
  · exact ⟨[0, 1], rfl⟩

theorem FzL.of_get {S : Addr → Bool} {m : MH} : ∀ {xs ys : List AV}, xs.length = ys.length → (∀ (i : Nat) x y, xs[i]? = some x → ys[i]? = some y → Fz S m x y) → FzL S m xs ys
  | [], [], _, _ => .nil
  | [], _ :: _, h, _ => by simp at h
  | _ :: _, [], h, _ => by simp at h
  | x :: xs, y :: ys, h, h2 => .cons (h2 0 x y rfl rfl) (FzL.of_get (by simpa using h) fun i a b ha hb => h2 (i + 1) a b ha hb)
theorem grid_fz {S : Addr → Bool} {m : MH} {many : Int} {H W : Nat → Nat} {ln : Nat → Nat → Addr} {pl : Pl} (hG : GM m ln H W pl) (hS : ∀ b o, m b = some o → S b = true) : Fz S m (gmAV many H ln) (gfAV many H W pl) := by
  refine .inst (.cons (.same _) (.cons (.lst (FzL.map fun p hp => .lst (FzL.map fun y hy => ?_))) .nil))
  obtain ⟨cs, c1, c2, c3⟩ := hG.line p (List.mem_range.mp hp) y (List.mem_range.mp hy)
  refine .list (hS _ _ c1) c1 (FzL.of_get (by rw [List.length_map, List.length_range, c2]) fun i x' y' hx hy' => ?_)
  rw [List.getElem?_map] at hy'
  obtain ⟨j, hj, rfl⟩ := Option.map_eq_some_iff.mp hy'
  have hi : i < W p := by
    have := (List.getElem?_eq_some_iff.mp hx).1
    omega
  rw [List.getElem?_range hi] at hj
  cases hj
  obtain ⟨v, h1, h2⟩ := c3 i hi
  rw [hx] at h1
  cases h1
  cases hq : pl p y i with
  | none => rw [hq] at h2; rw [show x' = .none from h2]; exact .same _
  | some r =>
    rw [hq] at h2
    obtain ⟨q, rfl, h3⟩ := h2
    exact .list (hS _ _ h3) h3 (FzL.same _)

set_option maxHeartbeats 4000000 in
theorem drawn_spec {k : Addr} {Q : AV → MH → Prop} (he : 8 ≤ e) (hk : Keg μ k)
    (hQ : ∀ f scans tbs pl m, Given f scans tbs → RowsOk pl f.H f.W (f.n * f.n) → pl 0 0 0 ≠ none → Q (.tup [f.av, gfAV (f.n * f.n) f.H f.W pl, .lst (scans.map ScI.av), .lst (tbs.map fun t => .lst (t.map .int))]) m) :
    CallW c e (.raw (.ref 556)) [.ref k] μ Q := by
  have he' := he
  have he : 1 ≤ e := by omega
  have hD := Dr.refl hk
  refine CallW.frz ?_
  refine callW_def' (f := 556) (ps := [Str.ofString "keg"]) (ge := rawGe [(Str.ofString "_law_tap", .ref 522), (Str.ofString "range", .type "range"), (Str.ofString "Frame", .ref 469), (Str.ofString "Grid", .ref 50), (Str.ofString "enumerate", .type "enumerate"), (Str.ofString "len", .builtin "len"), (Str.ofString "Scan", .ref 504)]) he rfl (by kernel_rfl) (by intro v0; show _ = _; kernel_rfl) (by kernel_rfl) (fun gd => geOk_raw (by kernel_rfl)) rfl (fun env => ?_)
  clear he
  dsimp only [mkLE, rawGe, List.map]
  repeat (tb_start)
  refine we_lst ?_
  repeat (tb_start)
  refine tapK (by tb_rel) hD (by tb_rel) (by tb_rel) fun r μ₁ r0 r1 hD1 _ => ?_
  obtain ⟨n, hget, hn⟩ := pick3 r0 r1
  have hnn := many_facts hn
  refine sub_lst r0 hget ?_ (by tb_rel)
  repeat (tb_start)
  refine ws_assign_comp (ge := rawGe [(Str.ofString "Component", .ref 403), (Str.ofString "_law_tap", .ref 522)]) (by kernel_rfl) (by tb_rel) (by kernel_rfl) (geOk_raw (by kernel_rfl)) (it_of ?_)
  repeat (tb_start)
  refine ⟨_, items_up (by tb_rel) (by tb_rel) (by tb_rel) (by tb_rel), by rw [List.length_map, rngL_len]; omega, fun env' => ?_⟩
  have e2 : (rngL 0 1 ((2 : Int) - 0).toNat).map AV.int = [.int 0, .int 1] := rfl
  rw [e2]
  dsimp only [rawGe, List.map]
  repeat (tb_start)
  refine tapK (by tb_rel) hD1 (by tb_rel) (by tb_rel) fun r2 μ₂ r20 r21 hD2 _ => ?_
  repeat (tb_start)
  refine tapK (by tb_rel) hD2 (by tb_rel) (by tb_rel) fun r3 μ₃ r30 r31 hD3 _ => ?_
  repeat (tb_start)
  refine comp_make (by tb_rel) ?_
  repeat (tb_start)
  refine tapK (by tb_rel) hD3 (by tb_rel) (by tb_rel) fun r4 μ₄ r40 r41 hD4 _ => ?_
  repeat (tb_start)
  refine tapK (by tb_rel) hD4 (by tb_rel) (by tb_rel) fun r5 μ₅ r50 r51 hD5 _ => ?_
  repeat (tb_start)
  refine comp_make (by tb_rel) ?_
  repeat (tb_start)
  refine tapK (by tb_rel) hD5 (by tb_rel) (by tb_rel) fun r6 μ₆ r60 r61 hD6 _ => ?_
  repeat (tb_start)
  refine tapK (by tb_rel) hD6 (by tb_rel) (by tb_rel) fun r7 μ₇ r70 r71 hD7 _ => ?_
  repeat (tb_start)
  refine frame_make (by tb_rel) (nr rfl) ?_
  repeat (tb_start)
  obtain ⟨f, hfe⟩ : ∃ f : FrI, f = ⟨n, 1 + r6, 1 + r7, 1 + r2, 1 + r3, 1 + r4, 1 + r5⟩ := ⟨_, rfl⟩
  have hf : f.Ok := by
    rw [hfe]
    exact ⟨hn, ⟨by show 1 ≤ 1 + r6; omega, by show 1 + r6 ≤ 3 * n; omega⟩, ⟨by show 1 ≤ 1 + r7; omega, by show 1 + r7 ≤ 3 * n; omega⟩, by show 1 + r2 = 1 ∨ 1 + r2 = 2; omega, by show 1 + r3 = 1 ∨ 1 + r3 = 2; omega, by show 1 + r4 = 1 ∨ 1 + r4 = 2; omega, by show 1 + r5 = 1 ∨ 1 + r5 = 2; omega⟩
  have hfa : frameAV (1 + r6) (1 + r7) (.lst ([] ++ [compAV (1 + 0) (1 + r2) (1 + r3)] ++ [compAV (1 + 1) (1 + r4) (1 + r5)])) n = f.av := by rw [hfe]; rfl
  rw [hfa]
  generalize AV.lst ([] ++ [compAV (1 + 0) (1 + r2) (1 + r3)] ++ [compAV (1 + 1) (1 + r4) (1 + r5)]) = pr
  have hfn : f.n = n := by rw [hfe]
  clear hfa hfe
  subst hfn
  refine grid_make (by tb_rel) hf fun μ₈ ln hle8 hG hnew => ?_
  have hb : ∀ p < 2, f.H p ≤ 1000 ∧ f.W p ≤ 1000 ∧ 1 ≤ f.H p ∧ 1 ≤ f.W p := hf.hb
  have hdef : gmAV (f.n * f.n) f.H ln = .inst 50 [(Str.ofString "many", .int (f.n * f.n)), (Str.ofString "planes", .lst ((List.range 2).map fun p => .lst ((List.range (f.H p)).map fun y => .ref (ln p y))))] := rfl
  have hnew0 : ∀ p < 2, ∀ y < f.H p, μ (ln p y) = none := fun p hp y hy => by
    have h := hD7.gone (hnew p hp y hy)
    unfold offK at h
    rwa [if_neg (hD7.ne (hnew p hp y hy))] at h
  have hln : ∀ p < 2, ∀ y < f.H p, offK μ k (ln p y) = none := fun p hp y hy => hD7.gone (hnew p hp y hy)
  repeat (tb_start)
  refine ws_for (it_call ?_)
  repeat (tb_start)
  refine callI_enum ?_
  refine loop_j (fun i le m => ∃ p l y x r, le = [(Str.ofString "keg", some (.ref k)), (Str.ofString "n", some (.int f.n)), (Str.ofString "pair", some (pr)), (Str.ofString "frame", some (f.av)), (Str.ofString "grid", some (gmAV (f.n * f.n) f.H ln)), (Str.ofString "place", p), (Str.ofString "plane", l), (Str.ofString "y", y), (Str.ofString "x", x), (Str.ofString "rest", r), (Str.ofString "scans", none), (Str.ofString "turn", none), (Str.ofString "start", none), (Str.ofString "some", none), (Str.ofString "tables", none)] ∧ DrG μ k f ln (0 < i) m) ⟨_, _, _, _, _, rfl, hD7.mle hle8, _, hG, ⟨fun _ _ _ _ _ _ _ e => nomatch e⟩, fun h => absurd h (by tb_rel)⟩ ?_ ?_
  · rintro i v le m hi ⟨p, l, y, x, r, rfl, hI⟩ J hJ _ _
    obtain ⟨pv, hv, rfl⟩ := enumAV_get hi
    have hi2 : i < 2 := by
      have := (List.getElem?_eq_some_iff.mp hv).1
      rw [range_len] at this; exact this
    rw [List.getElem?_map, List.getElem?_range hi2] at hv
    cases hv
    clear hi
    have hbi := hb i hi2
    refine wab_tuple (vs := [.int (i : Nat), .lst ((List.range (f.H i)).map fun y => .ref (ln i y))]) rfl (wa_name (by tb_rel) (wa_name (by tb_rel) ?_))
    refine wss_cons (ws_for (it_of ?_))
    repeat (tb_start)
    refine call_len_lst ?_ (by simp <;> omega)
    repeat (tb_start)
    refine ⟨_, items_up (by decide) (by decide) (by simp <;> omega) (by simp <;> omega), ?_⟩
    refine loop_j (fun j le m => ∃ y x r, le = [(Str.ofString "keg", some (.ref k)), (Str.ofString "n", some (.int f.n)), (Str.ofString "pair", some (pr)), (Str.ofString "frame", some (f.av)), (Str.ofString "grid", some (gmAV (f.n * f.n) f.H ln)), (Str.ofString "place", some (.int (i : Nat))), (Str.ofString "plane", some (.lst ((List.range (f.H i)).map fun y => .ref (ln i y)))), (Str.ofString "y", y), (Str.ofString "x", x), (Str.ofString "rest", r), (Str.ofString "scans", none), (Str.ofString "turn", none), (Str.ofString "start", none), (Str.ofString "some", none), (Str.ofString "tables", none)] ∧ DrG μ k f ln (0 < i ∨ 0 < j) m) ⟨_, _, _, rfl, hI.imp (by tb_rel)⟩ ?_ ?_
    · rintro j v le m hj ⟨y, x, r, rfl, hI⟩ J2 hJ2 _ _
      obtain ⟨hj2, rfl⟩ := rng0 (n := f.H i) hj (by simp)
      refine wa_name (by tb_rel) ?_
      refine wss_cons (ws_for (it_of ?_))
      repeat (tb_start)
      refine sub_lst (by tb_rel) (get_range hj2) ?_ (by tb_rel)
      repeat (tb_start)
      obtain ⟨pl0, hG0, _⟩ := hI.pl
      obtain ⟨cs0, c1, c2, _⟩ := hG0.line i hi2 j hj2
      refine call_len_ref c1 ?_ (by tb_rel)
      repeat (tb_start)
      refine ⟨_, items_up (by tb_rel) (by tb_rel) (by tb_rel) (by tb_rel), ?_⟩
      refine loop_j (fun q le m => ∃ x r, le = [(Str.ofString "keg", some (.ref k)), (Str.ofString "n", some (.int f.n)), (Str.ofString "pair", some (pr)), (Str.ofString "frame", some (f.av)), (Str.ofString "grid", some (gmAV (f.n * f.n) f.H ln)), (Str.ofString "place", some (.int (i : Nat))), (Str.ofString "plane", some (.lst ((List.range (f.H i)).map fun y => .ref (ln i y)))), (Str.ofString "y", some (.int (j : Nat))), (Str.ofString "x", x), (Str.ofString "rest", r), (Str.ofString "scans", none), (Str.ofString "turn", none), (Str.ofString "start", none), (Str.ofString "some", none), (Str.ofString "tables", none)] ∧ DrG μ k f ln (0 < i ∨ 0 < j ∨ 0 < q) m) ⟨_, _, rfl, hI.imp (by tb_rel)⟩ ?_ ?_
      · clear hG0 c1 hI
        rintro q v le m hq ⟨x, r, rfl, hI⟩ J3 hJ3 _ _
        obtain ⟨hq2, rfl⟩ := rng0 (n := f.W i) hq (by rw [c2]; omega)
        refine wa_name (by tb_rel) ?_
        refine wss_cons (ws_if (WB.mono (Q := fun b m' => DrG μ k f ln (0 < i ∨ 0 < j ∨ 0 < q) m' ∧ (b = false → 0 < j ∨ 0 < q)) ?_ fun b m' hbm => ?_))
        · repeat (tb_start)
          refine tapK (by tb_rel) hI.dr (by tb_rel) (by tb_rel) fun r1 m1 _ _ hDa hDb => ?_
          have hI1 := hI.tap hDa hDb
          repeat (tb_start)
          refine ⟨fun _ => ⟨hI1, by first | exact tf | exact ft⟩, fun _ => ?_⟩
          repeat (tb_start)
          refine ⟨hI1, fun hz => ?_⟩
          have hz : ((q : Int) + (j : Int) == 0) = false := hz
          have := of_decide_eq_false (p := (q : Int) + (j : Int) = 0) hz
          omega
        clear hI
        obtain ⟨hI, hz⟩ := hbm
        cases b with
        | false =>
          refine ⟨by first | exact ft | exact tf, fun _ => ?_⟩
          repeat (tb_start)
          exact hJ3 _ _ ⟨_, _, rfl, hI.imp fun _ => .inr (hz rfl)⟩
        | true =>
          refine ⟨fun _ => ?_, by first | exact tf | exact ft⟩
          refine wss_cons (ws_assign_comp (ge := rawGe [(Str.ofString "_law_tap", .ref 522)]) (by kernel_rfl) (by tb_rel) (by kernel_rfl) (geOk_raw (by kernel_rfl)) (it_of ?_))
          repeat (tb_start)
          refine ⟨_, items_up (by tb_rel) (by tb_rel) (by tb_rel) (by tb_rel), by rw [List.length_map, rngL_len]; omega, fun env' => ?_⟩
          dsimp only [rawGe, List.map]
          refine comp_j (fun z le m ys => ∃ o a ks, le = [(Str.ofString ".0", o), (Str.ofString "at", a), (Str.ofString "keg", some (.ref k))] ∧ DrG μ k f ln (0 < i ∨ 0 < j ∨ 0 < q) m ∧ ys = (ks : List Int).map AV.int ∧ ks.length = z) ⟨_, _, [], rfl, hI, rfl, rfl⟩ ?_ ?_
          · clear hI
            rintro z v le m ys hz ⟨o, a, ks, rfl, hI, rfl, hks⟩ J4 hJ4
            obtain ⟨_, rfl⟩ := rngL_get hz
            refine wl_name (by kernel_rfl) (by tb_rel) ⟨fun _ => ?_, by first | exact tf | exact ft⟩
            repeat (tb_start)
            refine tapK (by tb_rel) hI.dr (by tb_rel) (by tb_rel) fun r1 m1 _ _ hDa hDb => ?_
            have hI1 := hI.tap hDa hDb
            repeat (tb_start)
            refine tapK (by tb_rel) hI1.dr (by tb_rel) (by tb_rel) fun r2 m2 _ _ hDc hDd => ?_
            have hI2 := hI1.tap hDc hDd
            repeat (tb_start)
            exact hJ4 _ _ _ ⟨_, _, ks ++ [(r1 - 1) * r2], rfl, hI2, by simp, by rw [List.length_append, hks]; rfl⟩
          clear hI
          rintro le m ys ⟨o, a, ks, rfl, hI, rfl, hks⟩
          rw [List.length_map, rngL_len] at hks
          repeat (tb_start)
          first | refine kMeth_i (f := .ref 47) (meth_inst .frozen (by kernel_rfl) (by kernel_rfl)) (callee_K (by kernel_rfl)) ?_ | refine ⟨.ref 47, meth_inst .frozen (by kernel_rfl) (by kernel_rfl), callee_K (by kernel_rfl), ?_⟩
          repeat (tb_start)
          refine we_lst ?_
          repeat (tb_start)
          refine tapK (by tb_rel) hI.dr (by tb_rel) (by tb_rel) fun r1 m1 _ _ hDa hDb => ?_
          have hI1 := hI.tap hDa hDb
          repeat (tb_start)
          refine bin_add_lst (by rw [List.length_map]; show 1 + _ ≤ _; omega) ?_
          repeat (tb_start)
          have hrow : [AV.int (r1 - 150)] ++ ks.map AV.int = ((r1 - 150) :: ks).map AV.int := rfl
          rw [hrow]
          obtain ⟨pl1, hG1, _⟩ := hI1.pl
          obtain ⟨cs, c1, c2, _⟩ := hG1.line i hi2 j hj2
          have hrl : ((r1 - 150) :: ks).length = (f.n * f.n).toNat := len1 hnn hks
          refine put_spec (W := f.W) (by tb_rel) hi2 hj2 c1 (by tb_rel) ⟨lt_m hq2 hbi.2.1, lt_m hj2 hbi.1⟩ (by rw [hrl]; exact n17 hnn rfl) fun w hw => ⟨rfl, ?_⟩
          have hfin := (hI1.put (x := q) hi2 hj2 (hnew0 i hi2 j hj2) c1 hw hrl)
          repeat (tb_start)
          exact hJ3 _ _ ⟨_, _, rfl, hfin.imp (by omega)⟩
      · rintro le m ⟨x, r, rfl, hI⟩
        repeat (tb_start)
        exact hJ2 _ _ ⟨_, _, _, rfl, hI.imp fun _ => .inr (.inr (by rw [List.length_map, rngL_len, c2]; omega))⟩
    · rintro le m ⟨y, x, r, rfl, hI⟩
      repeat (tb_start)
      exact hJ _ _ ⟨_, _, _, _, _, rfl, hI.imp fun _ => .inr (by rw [List.length_map, rngL_len]; simp; omega)⟩
  · rintro le m ⟨p, l, y, x, r, rfl, hI⟩
    replace hI := hI.imp (b' := True) fun _ => by rw [enumAV_len, range_len]; omega
    refine wss_cons (ws_assign (we_lstM 0 (wl_nil ⟨by decide, fun a ha => ⟨_, by tb_rel, ?_⟩⟩)))
    have hak := hI.dr.ne ha
    have ha0 := hI.dr.gone ha
    refine wss_cons (ws_for (it_of ?_))
    repeat (tb_start)
    have hI0 := hI.up0 (vs := []) hak ha0 (.inl ha)
    refine tapK (by tb_rel) hI0.dr (by tb_rel) (by tb_rel) fun r1 m1 r10 r11 hDa hDb => ?_
    have hI1 := hI0.tap hDa hDb
    have hma : m1 a = some (.list 0 (([] : List ScI).map ScI.av)) := by rw [hDb a hak]; exact updM_self _ _ _
    repeat (tb_start)
    refine ⟨_, items_up (by tb_rel) (by tb_rel) (by tb_rel) (by tb_rel), ?_⟩
    refine loop_j (fun t le m => ∃ tn st sm xs, le = [(Str.ofString "keg", some (.ref k)), (Str.ofString "n", some (.int f.n)), (Str.ofString "pair", some (pr)), (Str.ofString "frame", some (f.av)), (Str.ofString "grid", some (gmAV (f.n * f.n) f.H ln)), (Str.ofString "place", p), (Str.ofString "plane", l), (Str.ofString "y", y), (Str.ofString "x", x), (Str.ofString "rest", r), (Str.ofString "scans", some (.ref a)), (Str.ofString "turn", tn), (Str.ofString "start", st), (Str.ofString "some", sm), (Str.ofString "tables", none)] ∧ DrG μ k f ln True m ∧ m a = some (.list 0 ((xs : List ScI).map ScI.av)) ∧ (∀ x ∈ xs, x.Ok (f.n * f.n)) ∧ xs.length = t) ⟨_, _, _, [], rfl, hI1, hma, nofun, rfl⟩ ?_ ?_
    · clear hI hI0 hI1 hma
      rintro t v le m ht ⟨tn, st, sm, xs, rfl, hI, hma, hxs, hxl⟩ J2 hJ2 _ _
      obtain ⟨_, rfl⟩ := rngL_get ht
      refine wa_name (by tb_rel) ?_
      refine wss_cons (ws_assign (WE.mono (Q := fun v m' => ∃ st : Int, v = .int st ∧ (0 ≤ st ∧ st < f.n * f.n) ∧ DrG μ k f ln True m' ∧ m' a = some (.list 0 ((xs : List ScI).map ScI.av))) ?_ ?_))
      · refine we_ifexp ?_
        repeat (tb_start)
        refine tapK (by tb_rel) hI.dr (by tb_rel) (by tb_rel) fun r2 m2 r20 r21 hDa hDb => ?_
        have hI1 := hI.tap hDa hDb
        have hma1 := (hDb a hak).trans hma
        repeat (tb_start)
        refine ⟨fun _ => ?_, fun _ => ?_⟩
        · repeat (tb_start)
          refine tapK (by tb_rel) hI1.dr (by tb_rel) (by tb_rel) fun r3 m3 r30 r31 hDc hDd => ?_
          exact ⟨r3, rfl, ⟨r30, r31⟩, hI1.tap hDc hDd, (hDd a hak).trans hma1⟩
        · repeat (tb_start)
          exact ⟨by omega, hI1, hma1⟩
      · clear hI hma
        rintro v m' ⟨st', rfl, ⟨hst0, hst1⟩, hI, hma⟩
        refine ⟨_, by tb_rel, ?_⟩
        repeat (first | tb_start | refine we_lst ?_)
        refine tapK (by tb_rel) hI.dr (by tb_rel) (by tb_rel) fun r2 m2 r20 r21 hDc hDd => ?_
        have hI2 := hI.tap hDc hDd
        have hma2 := (hDd a hak).trans hma
        obtain ⟨ps, hps⟩ := pickS r20 r21
        refine sub_lst r20 hps ?_ (by tb_rel)
        repeat (first | tb_start | refine we_lst ?_)
        refine tapK (by tb_rel) hI2.dr (by tb_rel) (by tb_rel) fun r3 m3 r30 r31 hDe hDf => ?_
        have hI3 := hI2.tap hDe hDf
        have hma3 := (hDf a hak).trans hma2
        repeat (first | tb_start | refine we_lst ?_)
        refine tapK (by tb_rel) hI3.dr (by tb_rel) (by tb_rel) fun r4 m4 r40 r41 hDg hDh => ?_
        have hI4 := hI3.tap hDg hDh
        have hma4 := (hDh a hak).trans hma3
        repeat (first | tb_start | refine we_lst ?_)
        refine scan_make (by tb_rel) ?_
        repeat (first | tb_start | refine we_lst ?_)
        refine hJ2 _ _ ⟨_, _, _, xs ++ [⟨ps, st', st' + r3, r4⟩], rfl, hI4.up0 hak ha0 (.inr ⟨_, hma4⟩), by rw [List.map_append]; exact updM_self _ _ _, fun x hx => ?_, by rw [List.length_append, hxl]; rfl⟩
        rcases List.mem_append.mp hx with h | h
        · exact hxs x h
        · cases List.mem_singleton.mp h
          exact ⟨hst0, by show st' ≤ st' + r3; omega, by show st' + r3 < f.n * f.n; omega, by show 0 ≤ r4 ∧ r4 ≤ 2; omega⟩
    · clear hI hI0 hI1 hma
      rintro le m ⟨tn, st, sm, xs, rfl, hI, hma, hxs, hxl⟩
      refine wss_cons (ws_assign_comp (ge := rawGe [(Str.ofString "range", .type "range")]) (by kernel_rfl) (by tb_rel) (by kernel_rfl) (geOk_raw (by kernel_rfl)) (it_of ?_))
      repeat (tb_start)
      refine ⟨_, items_up (by tb_rel) (by tb_rel) (by tb_rel) (by tb_rel), by rw [List.length_map, rngL_len]; omega, fun env' => ?_⟩
      dsimp only [rawGe, List.map]
      refine comp_j (fun z le m ys => ∃ o at0 ts, le = [(Str.ofString ".0", o), (Str.ofString "place", at0), (Str.ofString "keg", some (.ref k)), (Str.ofString "n", some (.int f.n))] ∧ DrG μ k f ln True m ∧ m a = some (.list 0 ((xs : List ScI).map ScI.av)) ∧ ys = (ts : List (List Int)).map (fun t => AV.lst (t.map .int)) ∧ ts.length = z ∧ ∀ t ∈ ts, TbOk t f.n) ⟨_, _, [], rfl, hI, hma, rfl, rfl, nofun⟩ ?_ ?_
      · clear hI hma
        rintro z v le m ys hz ⟨o, at0, ts, rfl, hI, hma, rfl, hts, htb⟩ J3 hJ3
        obtain ⟨_, rfl⟩ := rngL_get hz
        refine wl_name (by kernel_rfl) (by tb_rel) ⟨fun _ => ?_, by first | exact tf | exact ft⟩
        refine we_comp (ge := rawGe [(Str.ofString "_law_tap", .ref 522)]) (by tb_rel) (by kernel_rfl) (geOk_raw (by kernel_rfl)) (it_of ?_)
        repeat (tb_start)
        refine ⟨_, items_up (by tb_rel) (by tb_rel) (by tb_rel) (by tb_rel), by rw [List.length_map, rngL_len]; omega, fun env' => ?_⟩
        dsimp only [rawGe, List.map]
        refine comp_j (fun z le m ys => ∃ o at0 t, le = [(Str.ofString ".0", o), (Str.ofString "at", at0), (Str.ofString "keg", some (.ref k))] ∧ DrG μ k f ln True m ∧ m a = some (.list 0 ((xs : List ScI).map ScI.av)) ∧ ys = (t : List Int).map .int ∧ t.length = z ∧ ∀ v ∈ t, 1 ≤ v ∧ v ≤ 1000) ⟨_, _, [], rfl, hI, hma, rfl, rfl, nofun⟩ ?_ ?_
        · clear hI hma
          rintro z v le m ys hz ⟨o, at0, t, rfl, hI, hma, rfl, ht, htp⟩ J4 hJ4
          obtain ⟨_, rfl⟩ := rngL_get hz
          refine wl_name (by kernel_rfl) (by tb_rel) ⟨fun _ => ?_, by first | exact tf | exact ft⟩
          repeat (tb_start)
          refine tapK (by tb_rel) hI.dr (by tb_rel) (by tb_rel) fun r2 m2 r20 r21 hDc hDd => ?_
          have hI2 := hI.tap hDc hDd
          have hma2 := (hDd a hak).trans hma
          repeat (tb_start)
          refine hJ4 _ _ _ ⟨_, _, t ++ [1 + r2], rfl, hI2, hma2, by simp, by rw [List.length_append, ht]; rfl, fun v hv => ?_⟩
          rcases List.mem_append.mp hv with h | h
          · exact htp v h
          · cases List.mem_singleton.mp h
            omega
        · clear hI hma
          rintro le m ys ⟨o, at0, t, rfl, hI, hma, rfl, ht, htp⟩
          rw [List.length_map, rngL_len] at ht
          refine hJ3 _ _ _ ⟨_, _, ts ++ [t], rfl, hI, hma, by simp, by rw [List.length_append, hts]; rfl, fun v hv => ?_⟩
          rcases List.mem_append.mp hv with h | h
          · exact htb v h
          · cases List.mem_singleton.mp h
            exact ⟨by rw [ht, Int.sub_zero], htp⟩
      · clear hI hma
        rintro le m ys ⟨o, at0, ts, rfl, hI, hma, rfl, hts, htb⟩
        rw [List.length_map, rngL_len] at hts
        repeat (tb_start)
        obtain ⟨pl, hGM, hok, h00⟩ := hI.pl
        refine ⟨.tup [f.av, gfAV (f.n * f.n) f.H f.W pl, .lst (xs.map ScI.av), .lst (ts.map fun t => .lst (t.map .int))], fun _ => true, .tup (.cons (.same _) (.cons (grid_fz hGM fun _ _ _ => rfl) (.cons (.list rfl hma (FzL.same _)) (.cons (.same _) .nil)))), ?_⟩
        exact hQ f xs ts pl _ ⟨hf, hxs, hts, htb⟩ hok (h00 trivial)
end


noncomputable def CellV (μ : MH) (v : AV) : Option (List Int) → Prop
  | none => v = .none
  | some r => v = .lst (r.map .int) ∨ ∃ q, v = .ref q ∧ μ q = some (.list 1 (r.map .int))
noncomputable def gxAV (many : Int) (H W : Nat → Nat) (cv : Nat → Nat → Nat → AV) : AV := .inst 50 [(Str.ofString "many", .int many), (Str.ofString "planes", .lst ((List.range 2).map fun p => .lst ((List.range (H p)).map fun y => .lst ((List.range (W p)).map fun x => cv p y x))))]
noncomputable def seenL (H W : Nat → Nat) (pl : Pl) (p : Nat) : List (List (Option (List Int))) := (List.range (H p)).map fun y => (List.range (W p)).map fun x => pl p y x
noncomputable def lineAV (l : List (Option (List Int))) : AV := .lst (l.map rowAV)
noncomputable def planeAV (l : List (List (Option (List Int)))) : AV := .lst (l.map lineAV)
noncomputable def seenAV (H W : Nat → Nat) (pl : Pl) : AV := .lst (((List.range 2).map fun p => seenL H W pl p).map planeAV)
theorem rgm {α : Type} {f : Nat → α} {n i : Nat} {v : α} (h : ((List.range n).map f)[i]? = some v) : i < n ∧ v = f i := by
  have hi : i < n := by
    have := (List.getElem?_eq_some_iff.mp h).1
    rwa [List.length_map, List.length_range] at this
  rw [List.getElem?_map, List.getElem?_range hi] at h
  cases h
  exact ⟨hi, rfl⟩
section
variable {c : Cx} {e : Nat} {μ : MH}
theorem seen_spec {many : Int} {H W : Nat → Nat} {cv : Nat → Nat → Nat → AV} {pl : Pl} {Q : AV → MH → Prop} (he : 1 ≤ e) (hb : ∀ p < 2, H p ≤ 1000 ∧ W p ≤ 1000) (hcv : ∀ p < 2, ∀ y < H p, ∀ x < W p, CellV μ (cv p y x) (pl p y x))
    (hr : ∀ p < 2, ∀ y < H p, ∀ x < W p, ∀ r, pl p y x = some r → r.length ≤ 1000) (hQ : Q (seenAV H W pl) μ) : CallW c e (.raw (.ref 561)) [gxAV many H W cv] μ Q := by
  unfold gxAV
  refine callW_def' (f := 561) (ps := [Str.ofString "grid"]) (ge := rawGe []) he rfl (by kernel_rfl) (by intro v0; show _ = _; kernel_rfl) (by kernel_rfl) (fun gd => geOk_raw (by kernel_rfl)) rfl (fun env => ?_)
  clear he
  dsimp only [mkLE, rawGe, List.map]
  repeat (tb_start)
  refine we_comp (ge := rawGe []) (by tb_rel) (by kernel_rfl) (geOk_raw (by kernel_rfl)) (it_of ?_)
  repeat (tb_start)
  refine ⟨_, .lst _, by simp, fun env' => ?_⟩
  refine comp_ind (fun i le m ys => ∃ o pv, le = [(Str.ofString ".0", o), (Str.ofString "plane", pv)] ∧ m = μ ∧ ys = ((List.range i).map fun p => seenL H W pl p).map planeAV) ⟨_, _, rfl, rfl, rfl⟩ ?_ ?_
  · rintro i v le m ys hi ⟨o, pv, rfl, rfl, rfl⟩
    obtain ⟨hi2, rfl⟩ := rgm hi
    have hbi := hb i hi2
    refine wl_name (by kernel_rfl) (by tb_rel) ⟨fun _ => ?_, by first | exact tf | exact ft⟩
    refine we_comp (ge := rawGe []) (by tb_rel) (by kernel_rfl) (geOk_raw (by kernel_rfl)) (it_of ?_)
    repeat (tb_start)
    refine ⟨_, .lst _, by simp <;> omega, fun env' => ?_⟩
    refine comp_ind (fun j le m' ys => ∃ o pv, le = [(Str.ofString ".0", o), (Str.ofString "line", pv)] ∧ m' = m ∧ ys = ((List.range j).map fun y => (List.range (W i)).map fun x => pl i y x).map lineAV) ⟨_, _, rfl, rfl, rfl⟩ ?_ ?_
    · rintro j v le m' ys hj ⟨o, pv, rfl, rfl, rfl⟩
      obtain ⟨hj2, rfl⟩ := rgm hj
      refine wl_name (by kernel_rfl) (by tb_rel) ⟨fun _ => ?_, by first | exact tf | exact ft⟩
      refine we_comp (ge := rawGe [(Str.ofString "list", .type "list")]) (by tb_rel) (by kernel_rfl) (geOk_raw (by kernel_rfl)) (it_of ?_)
      repeat (tb_start)
      refine ⟨_, .lst _, by simp <;> omega, fun env' => ?_⟩
      dsimp only [rawGe, List.map]
      refine comp_ind (fun k le m'' ys => ∃ o pv, le = [(Str.ofString ".0", o), (Str.ofString "row", pv)] ∧ m'' = m' ∧ ys = ((List.range k).map fun x => pl i j x).map rowAV) ⟨_, _, rfl, rfl, rfl⟩ ?_ ?_
      · rintro k v le m'' ys hk ⟨o, pv, rfl, rfl, rfl⟩
        obtain ⟨hk2, rfl⟩ := rgm hk
        have hc := hcv i hi2 j hj2 k hk2
        have hl := hr i hi2 j hj2 k hk2
        have fin : ((List.range (k + 1)).map fun x => pl i j x).map rowAV = ((List.range k).map fun x => pl i j x).map rowAV ++ [rowAV (pl i j k)] := by rw [List.range_succ, List.map_append, List.map_append]; rfl
        refine wl_name (by kernel_rfl) (by tb_rel) ⟨fun _ => ?_, by first | exact tf | exact ft⟩
        refine we_ifexp ?_
        repeat (tb_start)
        cases hp : pl i j k with
        | none =>
          rw [hp] at hc
          have hc : cv i j k = .none := hc
          rw [hc]
          refine cmp_is (nr rfl) ⟨fun _ => ?_, by first | exact tf | exact ft⟩
          repeat (tb_start)
          exact ⟨_, _, rfl, rfl, by rw [fin, hp]; rfl⟩
        | some r =>
          rw [hp] at hc
          rcases hc with hc | ⟨q, hc, hq⟩
          · rw [hc]
            refine cmp_is (nr rfl) ⟨by first | exact ft | exact tf, fun _ => ?_⟩
            repeat (tb_start)
            refine callW_list_lstF ?_ (by rw [List.length_map]; have := hl r hp; omega)
            exact ⟨_, _, rfl, rfl, by rw [fin, hp]; rfl⟩
          · rw [hc]
            refine cmp_is (nr rfl) ⟨by first | exact ft | exact tf, fun _ => ?_⟩
            repeat (tb_start)
            refine callW_list_refF hq ?_ (by rw [List.length_map]; have := hl r hp; omega)
            exact ⟨_, _, rfl, rfl, by rw [fin, hp]; rfl⟩
      · rintro le m'' ys ⟨o, pv, rfl, rfl, rfl⟩
        refine ⟨_, _, rfl, rfl, ?_⟩
        rw [range_len, List.range_succ, List.map_append, List.map_append]
        rfl
    · rintro le m' ys ⟨o, pv, rfl, rfl, rfl⟩
      refine ⟨_, _, rfl, rfl, ?_⟩
      rw [range_len, List.range_succ, List.map_append, List.map_append]
      rfl
  · rintro le m ys ⟨o, pv, rfl, rfl, rfl⟩
    repeat (tb_start)
    rw [range_len]
    exact hQ
end


/- the plain law -/
theorem dot_comm (a b : List Int) : dot a b = dot b a := by
  unfold dot
  induction a generalizing b with
  | nil => cases b <;> rfl
  | cons x r ih => cases b with
    | nil => rfl
    | cons y s => rw [List.zipWith_cons_cons, List.zipWith_cons_cons, ih, Int.mul_comm]
theorem fdiv_two {a t : Int} (ht : 1 ≤ t) : (t * 128 + a).fdiv (t * 256) = (2 * a + 256 * t).fdiv (512 * t) := by
  have e1 : 2 * a + 256 * t = 2 * (t * 128 + a) := by omega
  have e2 : 512 * t = 2 * (t * 256) := by omega
  rw [e1, e2, Int.fdiv_eq_ediv_of_nonneg _ (by tb_rel), Int.fdiv_eq_ediv_of_nonneg _ (by tb_rel), Int.mul_ediv_mul_of_pos _ _ (by tb_rel)]
theorem gs_due {number t low : Int} (ht : 1 ≤ t) : gs number t low = dueVal number t low := by
  have e1 : gsF number t = (2 * (if number < 0 then -number else number) + 256 * t).fdiv (512 * t) := fdiv_two ht
  have e2 : gsG (gsF number t) low = dueSize number t low := by
    rw [e1]; unfold gsG dueSize
    generalize (2 * (if number < 0 then -number else number) + 256 * t).fdiv (512 * t) = f
    generalize (2:Int)^low.toNat = q
    by_cases h : 0 < low
    · rw [if_pos h]
      by_cases h2 : 1 * q ≤ f
      · rw [if_pos ⟨h, h2⟩]; omega
      · rw [if_neg (fun x => h2 x.2)]; omega
    · rw [if_neg h, if_neg (fun x => h x.1)]
  unfold gs dueVal; rw [e2]
  by_cases h : number < 0
  · rw [if_pos h, if_neg (by tb_rel)]; omega
  · rw [if_neg h, if_pos (by tb_rel)]
theorem step_due {row nine tb lo : List Int} {n : Int} {found : List Int} {p : Pat} {r : Rule} {k : Nat} (hg : gr n p = some ((k : Nat) : Int)) (hl : lr n r = k) (hs : share n p = r.sh) (hw : p.w = r.w) (ht : 1 ≤ tb.getD k 0) :
    smStep row nine tb lo n found p = dueStep row nine tb lo n found r := by
  unfold smStep dueStep
  rw [hg, hl, hs, hw]
  show (if (lo.getD k 0 != 0) = true ∧ (row.getD k 0 == 0) = true then found.set k (gs (r.sh * tb.getD 0 0 * (dot r.w nine).sum) (tb.getD k 0) (lo.getD k 0)) else found) = _
  rw [Int.toNat_natCast, gs_due ht, dot_comm r.w nine]
  generalize lo.getD k 0 = a
  generalize row.getD k 0 = b
  by_cases h1 : a = 0
  · simp [h1]
  · by_cases h2 : b = 0 <;> simp [h1, h2]
theorem step_none {row nine tb lo : List Int} {n : Int} {found : List Int} {p : Pat} (hg : gr n p = none) : smStep row nine tb lo n found p = found := by
  unfold smStep; rw [hg]
theorem due_swap {row nine tb lo : List Int} {n : Int} {found : List Int} {r s : Rule} (h : (lr n r).toNat ≠ (lr n s).toNat) :
    dueStep row nine tb lo n (dueStep row nine tb lo n found r) s = dueStep row nine tb lo n (dueStep row nine tb lo n found s) r := by
  unfold dueStep
  split <;> split <;> first | rfl | exact List.set_comm _ _ h
noncomputable def pA : Pat := ⟨1, 0, 32, 36, [0, 0, 0, 1, 0, -1, 0, 0, 0]⟩
noncomputable def pB : Pat := ⟨0, 1, 32, 36, [0, 1, 0, 0, 0, 0, 0, -1, 0]⟩
noncomputable def pC : Pat := ⟨0, 2, 0, 9, [0, 1, 0, 0, -2, 0, 0, 1, 0]⟩
noncomputable def pD : Pat := ⟨1, 1, 4, 5, [1, 0, -1, 0, 0, 0, -1, 0, 1]⟩
noncomputable def pE : Pat := ⟨2, 0, 0, 9, [0, 0, 0, 1, -2, 1, 0, 0, 0]⟩
noncomputable def rA (n : Int) : Rule := ⟨1, 0, sl n, [0, 0, 0, 1, 0, -1, 0, 0, 0]⟩
noncomputable def rB (n : Int) : Rule := ⟨0, 1, sl n, [0, 1, 0, 0, 0, 0, 0, -1, 0]⟩
noncomputable def rC (n : Int) : Rule := ⟨0, 2, be n, [0, 1, 0, 0, -2, 0, 0, 1, 0]⟩
noncomputable def rD (n : Int) : Rule := ⟨1, 1, tw n, [1, 0, -1, 0, 0, 0, -1, 0, 1]⟩
noncomputable def rE (n : Int) : Rule := ⟨2, 0, be n, [0, 0, 0, 1, -2, 1, 0, 0, 0]⟩
theorem rules2 : rules 2 = [rA 2, rB 2, rD 2] := rfl
theorem rules34 {n : Int} (hn : n = 3 ∨ n = 4) : rules n = [rA n, rB n, rD n, rC n, rE n] := by
  unfold rules; rw [if_pos (by tb_rel)]; rfl
theorem pats5 : pats = [pA, pB, pC, pD, pE] := rfl
theorem gr2 : gr 2 pA = some 1 ∧ gr 2 pB = some 2 ∧ gr 2 pC = none ∧ gr 2 pD = some 3 ∧ gr 2 pE = none := by decide +kernel
theorem lr2 : lr 2 (rA 2) = 1 ∧ lr 2 (rB 2) = 2 ∧ lr 2 (rD 2) = 3 := by decide +kernel
theorem gr34 {n : Int} (hn : n = 3 ∨ n = 4) : gr n pA = some 1 ∧ gr n pB = some 2 ∧ gr n pC = some 3 ∧ gr n pD = some 4 ∧ gr n pE = some 5 := by
  rcases hn with rfl | rfl <;> decide +kernel
theorem lr34 {n : Int} (hn : n = 3 ∨ n = 4) : lr n (rA n) = 1 ∧ lr n (rB n) = 2 ∧ lr n (rC n) = 3 ∧ lr n (rD n) = 4 ∧ lr n (rE n) = 5 := by
  rcases hn with rfl | rfl <;> decide +kernel
theorem sh2 : share 2 pA = (rA 2).sh ∧ share 2 pB = (rB 2).sh ∧ share 2 pD = (rD 2).sh := by decide +kernel
theorem sh34 {n : Int} (hn : n = 3 ∨ n = 4) : share n pA = (rA n).sh ∧ share n pB = (rB n).sh ∧ share n pC = (rC n).sh ∧ share n pD = (rD n).sh ∧ share n pE = (rE n).sh := by
  rcases hn with rfl | rfl <;> decide +kernel
theorem smRow_due {row nine tb lo : List Int} {n : Int} (hn : n = 2 ∨ n = 3 ∨ n = 4) (ht : TbOk tb n) : smRow row nine tb lo n = dueRow row nine tb lo n := by
  have h5 : smRow row nine tb lo n = smStep row nine tb lo n (smStep row nine tb lo n (smStep row nine tb lo n (smStep row nine tb lo n (smStep row nine tb lo n row pA) pB) pC) pD) pE := rfl
  rw [h5]
  unfold dueRow
  rcases hn with rfl | hn
  · obtain ⟨g1, g2, g3, g4, g5⟩ := gr2
    obtain ⟨l1, l2, l3⟩ := lr2
    obtain ⟨s1, s2, s3⟩ := sh2
    rw [rules2, step_none g5, step_due (k := 3) g4 l3 s3 rfl (ht.at (by decide)).1, step_none g3, step_due (k := 2) g2 l2 s2 rfl (ht.at (by decide)).1, step_due (k := 1) g1 l1 s1 rfl (ht.at (by decide)).1]
    rfl
  · obtain ⟨g1, g2, g3, g4, g5⟩ := gr34 hn
    obtain ⟨l1, l2, l3, l4, l5⟩ := lr34 hn
    obtain ⟨s1, s2, s3, s4, s5⟩ := sh34 hn
    have hk : ∀ k : Nat, k < 6 → k < (n * n).toNat := fun k hk => by rcases hn with rfl | rfl <;> (simp; omega)
    rw [rules34 hn, step_due (k := 5) g5 l5 s5 rfl (ht.at (hk _ (by decide))).1, step_due (k := 4) g4 l4 s4 rfl (ht.at (hk _ (by decide))).1, step_due (k := 3) g3 l3 s3 rfl (ht.at (hk _ (by decide))).1, step_due (k := 2) g2 l2 s2 rfl (ht.at (hk _ (by decide))).1, step_due (k := 1) g1 l1 s1 rfl (ht.at (hk _ (by decide))).1,
      due_swap (r := rC n) (s := rD n) (by rw [l3, l4]; decide)]
    rfl
theorem worth_law {lo : List Int} {n : Int} (hn : n = 2 ∨ n = 3 ∨ n = 4) : worth lo n = lawWorth lo n := by
  unfold worth lawWorth
  have hp : ∀ {p : Pat} {k : Int}, gr n p = some k → worthP lo n p = (lo.getD k.toNat 0 != 0) := fun h => by unfold worthP; rw [h]
  have hp0 : ∀ {p : Pat}, gr n p = none → worthP lo n p = false := fun h => by unfold worthP; rw [h]
  rcases hn with rfl | hn
  · obtain ⟨g1, g2, g3, g4, g5⟩ := gr2
    obtain ⟨l1, l2, l3⟩ := lr2
    rw [rules2, pats5]
    simp only [List.any_cons, List.any_nil, hp g1, hp g2, hp0 g3, hp g4, hp0 g5, l1, l2, l3, bne, Bool.or_false, Bool.false_or]
  · obtain ⟨g1, g2, g3, g4, g5⟩ := gr34 hn
    obtain ⟨l1, l2, l3, l4, l5⟩ := lr34 hn
    rw [rules34 hn, pats5]
    simp only [List.any_cons, List.any_nil, hp g1, hp g2, hp g3, hp g4, hp g5, l1, l2, l3, l4, l5, bne, Bool.or_false]
    generalize (lo.getD (3 : Int).toNat 0 == 0) = x
    generalize (lo.getD (4 : Int).toNat 0 == 0) = y
    cases x <;> cases y <;> simp
noncomputable def lnine (many : Int) (pl : Pl) (p : Nat) (x y across down : Int) (j : Nat) : List Int := (List.range j).map fun i => nineAt many pl p x y across down ((i : Nat) / 3 - 1 : Int) ((i : Nat) % 3 - 1 : Int)
theorem lnine9 {many : Int} {pl : Pl} {p : Nat} {x y across down : Int} : lnine many pl p x y across down 9 = nineL many pl p x y across down := by
  unfold lnine nineL steps
  rfl


theorem delS_upd {m : MH} {b : Addr} {o : AO} (h : m b = none) : delS (fun x => x == b) (updM m b o) = m := by
  funext x
  unfold delS
  by_cases hx : x = b
  · subst hx; rw [if_pos (by simp)]; exact h.symm
  · rw [if_neg (by simpa using hx)]; exact updM_ne hx
noncomputable def butS (q0 : Addr) : Addr → Bool := fun b => b != q0
theorem butS_ne {q q0 : Addr} (h : q ≠ q0) : butS q0 q = true := by unfold butS; simpa using h
theorem del_but {m : MH} {q0 : Addr} : delS (butS q0) m q0 = m q0 := by unfold delS butS; rw [if_neg (by simp)]
noncomputable def cvx (q0 : Addr) (o : Option (List Int)) : AV → AV
  | .ref q => if q = q0 then .ref q0 else rowAV o
  | _ => rowAV o
theorem cvx_fz {m : MH} {q0 : Addr} {v : AV} {o : Option (List Int)} (h : CellOk m v o) : Fz (butS q0) m v (cvx q0 o v) := by
  cases o with
  | none => rw [show v = .none from h]; exact .same _
  | some r =>
    obtain ⟨q, rfl, hq⟩ := h
    unfold cvx
    by_cases e : q = q0
    · dsimp only; rw [if_pos e, e]; exact .same _
    · dsimp only; rw [if_neg e]; exact .list (butS_ne e) hq (FzL.same _)
theorem cvx_cell {m : MH} {q0 : Addr} {v : AV} {o : Option (List Int)} (h : CellOk m v o) : CellV (delS (butS q0) m) (cvx q0 o v) o := by
  cases o with
  | none => rw [show v = .none from h]; rfl
  | some r =>
    obtain ⟨q, rfl, hq⟩ := h
    unfold cvx
    by_cases e : q = q0
    · dsimp only; rw [if_pos e]; exact .inr ⟨q0, rfl, by rw [del_but, ← e]; exact hq⟩
    · dsimp only; rw [if_neg e]; exact .inl rfl
noncomputable def cellA (m : MH) (a : Addr) (x : Nat) : AV := match m a with
  | some (.list _ cs) => cs.getD x .none
  | _ => .none
noncomputable def cvOf (m : MH) (ln : Nat → Nat → Addr) (q0 : Addr) (pl : Pl) (p y x : Nat) : AV := cvx q0 (pl p y x) (cellA m (ln p y) x)
theorem cellA_of {m : MH} {a : Addr} {tg : Nat} {cs : List AV} {x : Nat} {v : AV} (h : m a = some (.list tg cs)) (hv : cs[x]? = some v) : cellA m a x = v := by
  unfold cellA; rw [h]; dsimp only; rw [List.getD_eq_getElem?_getD, hv]; rfl
theorem found_frz {m : MH} {many : Int} {H W : Nat → Nat} {ln : Nat → Nat → Addr} {pl : Pl} (hG : GM m ln H W pl) (h00 : pl 0 0 0 ≠ none) (hH : 0 < H 0) (hW : 0 < W 0) :
    ∃ q0 cv r0, pl 0 0 0 = some r0 ∧ cv 0 0 0 = AV.ref q0 ∧ delS (butS q0) m q0 = some (.list 1 (r0.map .int)) ∧ Fz (butS q0) m (gmAV many H ln) (gxAV many H W cv) ∧ ∀ p < 2, ∀ y < H p, ∀ x < W p, CellV (delS (butS q0) m) (cv p y x) (pl p y x) := by
  obtain ⟨cs, c1, c2, c3⟩ := hG.line 0 (by tb_rel) 0 hH
  obtain ⟨v, v1, v2⟩ := c3 0 hW
  cases hp : pl 0 0 0 with
  | none => exact absurd hp h00
  | some r0 =>
    rw [hp] at v2
    obtain ⟨q0, rfl, hq0⟩ := v2
    refine ⟨q0, cvOf m ln q0 pl, r0, rfl, ?_, by rw [del_but]; exact hq0, ?_, fun p hp y hy x hx => ?_⟩
    · unfold cvOf; rw [cellA_of c1 v1]; unfold cvx; dsimp only; rw [if_pos rfl]
    · refine .inst (.cons (.same _) (.cons (.lst (FzL.map fun p hp => .lst (FzL.map fun y hy => ?_))) .nil))
      obtain ⟨cs, c1, c2, c3⟩ := hG.line p (List.mem_range.mp hp) y (List.mem_range.mp hy)
      refine .list (butS_ne fun e => ?_) c1 (FzL.of_get (by rw [List.length_map, List.length_range, c2]) fun i x' y' hx hy' => ?_)
      · rw [e, hq0] at c1; cases c1
      rw [List.getElem?_map] at hy'
      obtain ⟨j, hj, rfl⟩ := Option.map_eq_some_iff.mp hy'
      have hi : i < W p := by
        have := (List.getElem?_eq_some_iff.mp hx).1
        omega
      rw [List.getElem?_range hi] at hj
      cases hj
      obtain ⟨v, h1, h2⟩ := c3 i hi
      rw [hx] at h1
      cases h1
      unfold cvOf
      rw [cellA_of c1 hx]
      exact cvx_fz h2
    · obtain ⟨cs, c1, c2, c3⟩ := hG.line p hp y hy
      obtain ⟨v, h1, h2⟩ := c3 x hx
      unfold cvOf
      rw [cellA_of c1 h1]
      exact cvx_cell h2
structure DM (M m : MH) (ls : List Addr) (H W : Nat) (pl : Nat → Nat → Option (List Int)) : Prop where
  len : ls.length = H
  line : ∀ (i : Nat) a, ls[i]? = some a → m a = some (.list 3 ((List.range W).map fun x => rowAV (pl i x)))
  nd : ls.Nodup
  new : ∀ a ∈ ls, M a = none
  le : MLe M m
theorem DM.nil {M : MH} {W : Nat} {pl : Nat → Nat → Option (List Int)} {m : MH} (h : MLe M m) : DM M m [] 0 W pl := ⟨rfl, nofun, .nil, nofun, h⟩
theorem DM.up {M m m' : MH} {ls : List Addr} {H W : Nat} {pl : Nat → Nat → Option (List Int)} (h : DM M m ls H W pl) (h2 : MLe m m') : DM M m' ls H W pl := ⟨h.len, fun i a e => h2 _ _ (h.line i a e), h.nd, h.new, h.le.trans h2⟩
theorem DM.mem {M m : MH} {ls : List Addr} {H W : Nat} {pl : Nat → Nat → Option (List Int)} (h : DM M m ls H W pl) {a : Addr} (ha : a ∈ ls) : ∃ o, m a = some o := by
  obtain ⟨i, hi⟩ := List.mem_iff_getElem?.mp ha
  exact ⟨_, h.line i a hi⟩
theorem DM.app {M m : MH} {ls : List Addr} {H W : Nat} {pl : Nat → Nat → Option (List Int)} {a : Addr} (h : DM M m ls H W pl) (ha : m a = none) : DM M (updM m a (.list 3 ((List.range W).map fun x => rowAV (pl H x)))) (ls ++ [a]) (H + 1) W pl := by
  have hn : a ∉ ls := fun hm => by
    obtain ⟨o, e⟩ := h.mem hm
    rw [ha] at e; cases e
  refine ⟨by rw [List.length_append, h.len]; rfl, fun i b e => ?_, ?_, fun b hb => ?_, h.le.upd (h.le.gone ha)⟩
  · rcases Nat.lt_or_ge i ls.length with hi | hi
    · rw [List.getElem?_append_left hi] at e
      rw [updM_ne (fun (x : b = a) => hn (by rw [← x]; exact List.mem_of_getElem? e))]
      exact h.line i b e
    · rw [List.getElem?_append_right hi] at e
      have : i - ls.length = 0 := by
        rcases Nat.eq_zero_or_pos (i - ls.length) with q | q
        · exact q
        · rw [List.getElem?_eq_none (by simp; omega)] at e; cases e
      rw [this] at e
      cases e
      rw [updM_self, show i = H by rw [← h.len]; omega]
  · refine List.nodup_append.mpr ⟨h.nd, by simp, fun x hx y hy => ?_⟩
    cases List.mem_singleton.mp hy
    exact fun e => hn (e ▸ hx)
  · rcases List.mem_append.mp hb with hb | hb
    · exact h.new b hb
    · cases List.mem_singleton.mp hb
      exact h.le.gone ha
theorem DM.congr {M m : MH} {ls : List Addr} {H W : Nat} {pl pl' : Nat → Nat → Option (List Int)} (h : DM M m ls H W pl) (e : ∀ y < H, ∀ x < W, pl y x = pl' y x) : DM M m ls H W pl' := by
  refine ⟨h.len, fun i a q => ?_, h.nd, h.new, h.le⟩
  have hi : i < H := by
    have := (List.getElem?_eq_some_iff.mp q).1
    rw [← h.len]; exact this
  rw [h.line i a q]
  congr 2
  exact List.map_congr_left fun x hx => by rw [e i hi x (List.mem_range.mp hx)]
theorem DM.put {M m : MH} {ls : List Addr} {H W : Nat} {pl : Nat → Nat → Option (List Int)} {a : Addr} {y x : Nat} {r : List Int} (h : DM M m ls H W pl) (ha : ls[y]? = some a) (hx : x < W) :
    DM M (updM m a (.list 3 (((List.range W).map fun x => rowAV (pl y x)).set x (.lst (r.map .int))))) ls H W (fun y' x' => if y' = y ∧ x' = x then some r else pl y' x') := by
  have hma := h.new a (List.mem_of_getElem? ha)
  refine ⟨h.len, fun i b e => ?_, h.nd, h.new, h.le.upd hma⟩
  by_cases hi : i = y
  · subst hi
    rw [ha] at e
    cases e
    rw [updM_self]
    congr 2
    apply List.ext_getElem?
    intro j
    rw [List.getElem?_set]
    by_cases hj : x = j
    · subst hj
      rw [if_pos rfl, List.length_map, List.length_range, if_pos hx, List.getElem?_map, List.getElem?_range hx, Option.map_some, if_pos ⟨rfl, rfl⟩]
      rfl
    · rw [if_neg hj, List.getElem?_map, List.getElem?_map]
      rcases Nat.lt_or_ge j W with hw | hw
      · rw [List.getElem?_range hw, Option.map_some, Option.map_some, if_neg (fun q => hj q.2.symm)]
      · rw [List.getElem?_eq_none (by simpa using hw)]; rfl
  · have hab : b ≠ a := fun q => by
      subst q
      have h1 := (List.getElem?_eq_some_iff.mp ha)
      have h2 := (List.getElem?_eq_some_iff.mp e)
      obtain ⟨l1, g1⟩ := h1
      obtain ⟨l2, g2⟩ := h2
      exact hi ((List.getElem_inj h.nd).mp (g2.trans g1.symm))
    rw [updM_ne hab, h.line i b e]
    congr 2
    exact List.map_congr_left fun x' _ => by rw [if_neg (fun q => hi q.1)]
theorem DM.frz {M m : MH} {ls : List Addr} {H W : Nat} {pl : Nat → Nat → Option (List Int)} (h : DM M m ls H W pl) :
    Fz (fun b => decide (b ∈ ls)) m (.lst (ls.map .ref)) (planeAV ((List.range H).map fun y => (List.range W).map fun x => pl y x)) ∧ MLe M (delS (fun b => decide (b ∈ ls)) m) := by
  refine ⟨.lst (FzL.of_get (by rw [List.length_map, List.length_map, List.length_map, List.length_range, h.len]) fun i x y hx hy => ?_), h.le.del fun a ha => h.new a (of_decide_eq_true ha)⟩
  rw [List.getElem?_map] at hx
  obtain ⟨a, ha, rfl⟩ := Option.map_eq_some_iff.mp hx
  have hi : i < H := by
    have := (List.getElem?_eq_some_iff.mp ha).1
    rw [← h.len]; exact this
  rw [List.getElem?_map, List.getElem?_map, List.getElem?_range hi] at hy
  cases hy
  have hl := h.line i a ha
  refine .list (decide_eq_true (List.mem_of_getElem? ha)) hl ?_
  rw [List.map_map]
  exact FzL.same _
theorem RowsOk.smAll {f : FrI} {scans : List ScI} {tbs : List (List Int)} {pl : Pl} (hf : f.Ok) (h : RowsOk pl f.H f.W (f.n * f.n)) : RowsOk (smAll f scans tbs pl) f.H f.W (f.n * f.n) := ⟨fun p hp y hy x hx r hr => by
  unfold Mine.smAll at hr
  split at hr
  · cases hr
    unfold smAt
    rw [smRow_len]
    exact h.or hp hy hx
  · exact h.len p hp y hy x hx r hr⟩
theorem smAll_some {f : FrI} {scans : List ScI} {tbs : List (List Int)} {pl : Pl} {p y x : Nat} (h : pl p y x ≠ none) : smAll f scans tbs pl p y x ≠ none := by
  unfold smAll
  split
  · nofun
  · exact h
theorem enc_row : ∃ en : Option (List Int) → PyData, Enc rowAV en 1 := by
  have := enc_opt (enc_list enc_int) (fun _ => ⟨by simp [PyData.eqv], by simp [PyData.eqv]⟩)
  have key : ∀ (g : Option (List Int) → AV) (en : Option (List Int) → PyData), Enc g en 1 → g = rowAV → ∃ en : Option (List Int) → PyData, Enc rowAV en 1 := fun g en h e => by subst e; exact ⟨_, h⟩
  exact key _ _ this (by funext l; cases l <;> rfl)
theorem enc_plane : ∃ en : List (List (Option (List Int))) → PyData, Enc planeAV en 3 := let ⟨_, h⟩ := enc_row; ⟨_, enc_list (enc_list h)⟩
theorem enc_seen : ∃ en : List (List (List (Option (List Int)))) → PyData, Enc (fun l => .lst (l.map planeAV)) en 4 := let ⟨_, h⟩ := enc_plane; ⟨_, enc_list h⟩


section
variable {c : Cx} {d : Nat} {F : Fm} {le : LE} {μ : MH}
theorem WS.mono {st : Stmt} {Q Q' : Fl → LE → MH → Prop} (h : WS c d F le st μ Q) (hq : ∀ f l m, Q f l m → Q' f l m) : WS c d F le st μ Q' := .mk fun A g s E hA hR hL =>
  wpAny_mono (h.run A g s E hA hR hL) (fun v s' ⟨g', μ', a, le', st, R', r, L', q⟩ => ⟨g', μ', a, le', st, R', r, L', hq _ _ _ q⟩) fun _ _ e => e
end
theorem seen_at {H W : Nat → Nat} {pl : Pl} {i : Nat} (h : i < 2) : (((List.range 2).map fun p => seenL H W pl p).map planeAV)[((i : Nat) : Int).toNat]? = some (planeAV (seenL H W pl i)) := by
  rw [Int.toNat_natCast]
  exact get_map (by rw [List.getElem?_map, List.getElem?_range h]; rfl)
theorem plane_at {H W : Nat → Nat} {pl : Pl} {p y : Nat} (h : y < H p) : ((seenL H W pl p).map lineAV)[y]? = some (lineAV ((List.range (W p)).map fun x => pl p y x)) :=
  get_map (by unfold seenL; rw [List.getElem?_map, List.getElem?_range h]; rfl)
theorem line_at {W : Nat} {g : Nat → Option (List Int)} {x : Nat} (h : x < W) : (((List.range W).map g).map rowAV)[x]? = some (rowAV (g x)) :=
  get_map (by rw [List.getElem?_map, List.getElem?_range h]; rfl)
theorem range_at {g : Nat → AV} {n i : Nat} {k : Int} (h : i < n) (hk : k = (i : Nat)) : ((List.range n).map g)[k.toNat]? = some (g i) := by
  subst hk
  rw [Int.toNat_natCast, List.getElem?_map, List.getElem?_range h]; rfl
theorem lnine_succ {many : Int} {pl : Pl} {p : Nat} {x y across down : Int} {j : Nat} : lnine many pl p x y across down (j + 1) = lnine many pl p x y across down j ++ [nineAt many pl p x y across down ((j : Nat) / 3 - 1 : Int) ((j : Nat) % 3 - 1 : Int)] := by
  unfold lnine; rw [List.range_succ, List.map_append]; rfl
section
variable {c : Cx} {e : Nat} {μ : MH}
set_option maxHeartbeats 2000000 in
theorem right_spec {k : Addr} {Q : AV → MH → Prop} (he : 10 ≤ e) (hk : Keg μ k) (hQ : ∀ m, Q (.bool true) m) : CallW c e (.raw (.ref 566)) [.ref k] μ Q := by
  have he' := he
  have he : 1 ≤ e := by omega
  refine callW_def' (f := 566) (ps := [Str.ofString "keg"]) (ge := rawGe [(Str.ofString "_law_drawn", .ref 556), (Str.ofString "_law_seen", .ref 561), (Str.ofString "smoothed_grid", .ref 379), (Str.ofString "range", .type "range"), (Str.ofString "_law_lows", .ref 541), (Str.ofString "_law_is_worth", .ref 551), (Str.ofString "max", .builtin "max"), (Str.ofString "min", .builtin "min"), (Str.ofString "_law_due_row", .ref 546)]) he rfl (by kernel_rfl) (by intro v0; show _ = _; kernel_rfl) (by kernel_rfl) (fun gd => geOk_raw (by kernel_rfl)) rfl (fun env => ?_)
  clear he
  dsimp only [mkLE, rawGe, List.map]
  refine wss_cons (ws_assign_tuple ?_)
  repeat (tb_start)
  refine drawn_spec (by tb_rel) hk fun f scans tbs pl μ₁ hg hok h00 => ?_
  have hf := hg.ok
  have hn := many_facts hf.n
  have hn4 := hf.n
  have hb : ∀ p < 2, f.H p ≤ 1000 ∧ f.W p ≤ 1000 ∧ 1 ≤ f.H p ∧ 1 ≤ f.W p := hf.hb
  have hgx : gfAV (f.n * f.n) f.H f.W pl = gxAV (f.n * f.n) f.H f.W fun p y x => rowAV (pl p y x) := rfl
  have hcell : ∀ m : MH, ∀ p < 2, ∀ y < f.H p, ∀ x < f.W p, CellV m (rowAV (pl p y x)) (pl p y x) := fun m p _ y _ x _ => by
    cases pl p y x with
    | none => rfl
    | some r => exact .inl rfl
  have hrl : ∀ p < 2, ∀ y < f.H p, ∀ x < f.W p, ∀ r, pl p y x = some r → r.length ≤ 1000 := fun p hp y hy x hx r h => by rw [hok.len p hp y hy x hx r h]; omega
  refine wab_tuple rfl (wa_name (by tb_rel) (wa_name (by tb_rel) (wa_name (by tb_rel) (wa_name (by tb_rel) ?_))))
  refine wss_cons (ws_assign_swap2 (x := Str.ofString "n") (y := Str.ofString "before") (by kernel_rfl) ?_)
  repeat (tb_start)
  rw [hgx]
  refine seen_spec (by tb_rel) (fun p hp => ⟨(hb p hp).1, (hb p hp).2.1⟩) (hcell _) hrl ?_
  rw [← hgx]
  repeat (tb_start)
  refine ⟨_, _, rfl, _, (by tb_rel), _, (by tb_rel), ?_⟩
  repeat (tb_start)
  refine smoothed_grid_spec (by tb_rel) hg hok fun m₂ ln hle2 hG hnew => ⟨_, by tb_rel, ?_⟩
  obtain ⟨q0, cv, r0, hr0, hcv0, hq0, hfz, hcv⟩ := found_frz (many := f.n * f.n) hG (smAll_some h00) (by have := hb 0 (by tb_rel); omega) (by have := hb 0 (by tb_rel); omega)
  refine wss_frz (x := Str.ofString "found") (S := butS q0) (by tb_rel) (by tb_rel) hfz ?_
  generalize hM : delS (butS q0) m₂ = M at *
  have hok2 := hok.smAll (scans := scans) (tbs := tbs) hf
  repeat (tb_start)
  refine seen_spec (by tb_rel) (fun p hp => ⟨(hb p hp).1, (hb p hp).2.1⟩) hcv (fun p hp y hy x hx r h => by rw [hok2.len p hp y hy x hx r h]; omega) ?_
  repeat (tb_start)
  refine ws_for (it_of ?_)
  repeat (tb_start)
  refine ⟨_, items_up (by tb_rel) (by tb_rel) (by tb_rel) (by tb_rel), ?_⟩
  refine loop_j (fun i le m => ∃ pv lo ac dn du y x ni st ot rw, le = [(Str.ofString "keg", some (.ref k)), (Str.ofString "frame", some (f.av)), (Str.ofString "grid", some (gfAV (f.n * f.n) f.H f.W pl)), (Str.ofString "scans", some (.lst (scans.map ScI.av))), (Str.ofString "tables", some (.lst (tbs.map fun t => .lst (t.map .int)))), (Str.ofString "n", some (.int f.n)), (Str.ofString "before", some (seenAV f.H f.W pl)), (Str.ofString "found", some (gxAV (f.n * f.n) f.H f.W cv)), (Str.ofString "told", some (seenAV f.H f.W (smAll f scans tbs pl))), (Str.ofString "place", pv), (Str.ofString "lows", lo), (Str.ofString "across", ac), (Str.ofString "down", dn), (Str.ofString "due", du), (Str.ofString "y", y), (Str.ofString "x", x), (Str.ofString "nine", ni), (Str.ofString "step", st), (Str.ofString "other", ot), (Str.ofString "row", rw)] ∧ MLe M m) ⟨_, _, _, _, _, _, _, _, _, _, _, rfl, MLe.refl _⟩ ?_ ?_
  · rintro i v le m hi ⟨pv, lo0, ac, dn, du, y, x, ni, st, ot, rw0, rfl, hm⟩ J hJ hJc hJr
    obtain ⟨hi2, rfl⟩ := rng0 (n := 2) hi (by simp)
    have hi01 : i = 0 ∨ i = 1 := by omega
    have sz := hf.small i hi01
    have hH : (f.H i : Int) = f.ph i := by unfold FrI.H; omega
    have hW : (f.W i : Int) = f.pw i := by unfold FrI.W; omega
    have hbw : 1 ≤ f.bw i ∧ f.bw i ≤ (f.W i : Int) := ⟨sz.2.2.2.1, hW ▸ sz.2.2.2.2⟩
    have hbh : 1 ≤ f.bh i ∧ f.bh i ≤ (f.H i : Int) := ⟨sz.2.2.1.1, hH ▸ sz.2.2.1.2⟩
    refine wa_name (by tb_rel) ?_
    refine wss_cons (ws_assign_tuple' ?_ (by kernel_rfl))
    repeat (tb_start)
    refine lows_spec (by tb_rel) hg.sc (by tb_rel) fun m1 h1 => ?_
    repeat (tb_start)
    first | refine kMeth_i (f := .ref 459) (meth_inst .frozen (by kernel_rfl) (by kernel_rfl)) (callee_K (by kernel_rfl)) ?_ | refine ⟨.ref 459, meth_inst .frozen (by kernel_rfl) (by kernel_rfl), callee_K (by kernel_rfl), ?_⟩
    repeat (tb_start)
    refine blocks_spec (by tb_rel) hf hi01 ?_
    repeat (tb_start)
    refine wab_tuple rfl (wa_name (by tb_rel) (wab_tuple rfl (wa_name (by tb_rel) (wa_name (by tb_rel) ?_))))
    have hlo : lows scans (i : Nat) (f.n * f.n) = lowsP f scans i := rfl
    rw [hlo]
    have hm1 : MLe M m1 := hm.trans h1
    clear h1
    have hlol := lowsP_len f scans i
    have hlo2 : ∀ k ∈ lowsP f scans i, k ≤ 2 := fun k hk => lowTo_all (fun x hx => (hg.sc x hx).l.2) _ k hk
    have hw : worth (lowsP f scans i) f.n = lawWorth (lowsP f scans i) f.n := worth_law hf.n
    have hsmA : ∀ y x, smAll f scans tbs pl i y x = if lawWorth (lowsP f scans i) f.n = true ∧ x < (f.bw i).toNat ∧ y < (f.bh i).toNat then some (smAt f pl (tbs.getD i []) (lowsP f scans i) i y x) else pl i y x := fun y x => by unfold smAll; rw [hw]
    clear hw hlo
    generalize lowsP f scans i = lo at *
    refine wss_cons (ws_assign_comp (ge := rawGe [(Str.ofString "list", .type "list")]) (by kernel_rfl) (by tb_rel) (by kernel_rfl) (geOk_raw (by kernel_rfl)) (it_of ?_))
    repeat (tb_start)
    refine sub_lst (by tb_rel) (seen_at hi2) ?_ (by tb_rel)
    refine ⟨_, .lst _, by unfold seenL; simp <;> omega, fun env' => ?_⟩
    dsimp only [rawGe, List.map]
    refine comp_j (fun j le m' ys => ∃ o l ls, le = [(Str.ofString ".0", o), (Str.ofString "line", l)] ∧ DM M m' ls j (f.W i) (fun y x => pl i y x) ∧ ys = (ls : List Addr).map .ref) ⟨_, _, [], rfl, DM.nil hm1, rfl⟩ ?_ ?_
    · rintro j v le m' ys hj ⟨o, l, ls, rfl, hD, rfl⟩ J2 hJ2
      obtain ⟨hj2, rfl⟩ : j < f.H i ∧ v = lineAV ((List.range (f.W i)).map fun x => pl i j x) := by
        have hjl : j < f.H i := by
          have := (List.getElem?_eq_some_iff.mp hj).1
          unfold seenL at this; simpa using this
        exact ⟨hjl, by rw [plane_at hjl] at hj; cases hj; rfl⟩
      refine wl_name (by kernel_rfl) (by tb_rel) ⟨fun _ => ?_, by first | exact tf | exact ft⟩
      repeat (tb_start)
      refine callW_list_lst (tg' := 3) (fun b hb => ?_) (by simp <;> omega)
      refine hJ2 _ _ _ ⟨_, _, ls ++ [b], rfl, ?_, by simp⟩
      have := hD.app hb
      rw [List.map_map]
      exact this
    rintro le m' ys ⟨o, l, ls, rfl, hD, rfl⟩
    rw [show ((seenL f.H f.W pl i).map lineAV).length = f.H i by unfold seenL; simp] at hD
    clear hm1
    refine ⟨_, by tb_rel, ?_⟩
    refine wss_cons (WS.mono (Q := fun fl le m => fl = .next ∧ ∃ y x ni st ot rw, le = [(Str.ofString "keg", some (.ref k)), (Str.ofString "frame", some (f.av)), (Str.ofString "grid", some (gfAV (f.n * f.n) f.H f.W pl)), (Str.ofString "scans", some (.lst (scans.map ScI.av))), (Str.ofString "tables", some (.lst (tbs.map fun t => .lst (t.map .int)))), (Str.ofString "n", some (.int f.n)), (Str.ofString "before", some (seenAV f.H f.W pl)), (Str.ofString "found", some (gxAV (f.n * f.n) f.H f.W cv)), (Str.ofString "told", some (seenAV f.H f.W (smAll f scans tbs pl))), (Str.ofString "place", some (.int (i : Nat))), (Str.ofString "lows", some (.lst (lo.map .int))), (Str.ofString "across", some (.int (f.bw i))), (Str.ofString "down", some (.int (f.bh i))), (Str.ofString "due", some (.lst (ls.map .ref))), (Str.ofString "y", y), (Str.ofString "x", x), (Str.ofString "nine", ni), (Str.ofString "step", st), (Str.ofString "other", ot), (Str.ofString "row", rw)] ∧ DM M m ls (f.H i) (f.W i) (fun y x => smAll f scans tbs pl i y x)) ?_ ?_)
    · refine ws_if (wb_of ?_)
      repeat (tb_start)
      refine law_is_worth_spec (by tb_rel) hf.n hlol fun m2 h2 => ⟨_, rfl, fun hw => ?_, fun hw => ?_⟩
      · have htb : tbs.getD i [] ∈ tbs := by
          rw [List.getD_eq_getElem?_getD, List.getElem?_eq_getElem (by rw [hg.tb.1]; exact hi2)]; exact List.getElem_mem _
        have htg : (tbs.map fun t => AV.lst (t.map AV.int))[((i : Nat) : Int).toNat]? = some (.lst ((tbs.getD i []).map .int)) := by
          rw [Int.toNat_natCast]
          exact get_map (by rw [List.getD_eq_getElem?_getD, List.getElem?_eq_getElem (by rw [hg.tb.1]; exact hi2)]; rfl)
        have htk := hg.tb.2 _ htb
        generalize tbs.getD i [] = tb at *
        have hD2 : DM M m2 ls (f.H i) (f.W i) (smPl f pl tb lo i 0 0 pl i) := (hD.up h2).congr fun y _ x _ => by unfold smPl; rw [if_neg (by unfold InB; omega)]
        clear hD h2 hm
        repeat (tb_start)
        refine ws_for (it_of ?_)
        repeat (tb_start)
        refine ⟨_, items_up (by tb_rel) (by tb_rel) (by tb_rel) (by tb_rel), ?_⟩
        refine loop_j (fun j le m => ∃ y x ni st ot rw, le = [(Str.ofString "keg", some (.ref k)), (Str.ofString "frame", some (f.av)), (Str.ofString "grid", some (gfAV (f.n * f.n) f.H f.W pl)), (Str.ofString "scans", some (.lst (scans.map ScI.av))), (Str.ofString "tables", some (.lst (tbs.map fun t => .lst (t.map .int)))), (Str.ofString "n", some (.int f.n)), (Str.ofString "before", some (seenAV f.H f.W pl)), (Str.ofString "found", some (gxAV (f.n * f.n) f.H f.W cv)), (Str.ofString "told", some (seenAV f.H f.W (smAll f scans tbs pl))), (Str.ofString "place", some (.int (i : Nat))), (Str.ofString "lows", some (.lst (lo.map .int))), (Str.ofString "across", some (.int (f.bw i))), (Str.ofString "down", some (.int (f.bh i))), (Str.ofString "due", some (.lst (ls.map .ref))), (Str.ofString "y", y), (Str.ofString "x", x), (Str.ofString "nine", ni), (Str.ofString "step", st), (Str.ofString "other", ot), (Str.ofString "row", rw)] ∧ DM M m ls (f.H i) (f.W i) (smPl f pl tb lo i j 0 pl i)) ⟨_, _, _, _, _, _, rfl, hD2⟩ ?_ ?_
        · clear hD2
          rintro j v le m hj ⟨y, x, ni, st, ot, rw0, rfl, hD⟩ J2 hJ2 hJ2c hJ2r
          obtain ⟨hj2, rfl⟩ := rng0 (n := (f.bh i).toNat) hj (by tb_rel)
          have hjH : j < f.H i := by omega
          refine wa_name (by tb_rel) ?_
          refine wss_cons (ws_for (it_of ?_))
          repeat (tb_start)
          refine ⟨_, items_up (by tb_rel) (by tb_rel) (by tb_rel) (by tb_rel), ?_⟩
          refine loop_j (fun q le m => ∃ x ni st ot rw, le = [(Str.ofString "keg", some (.ref k)), (Str.ofString "frame", some (f.av)), (Str.ofString "grid", some (gfAV (f.n * f.n) f.H f.W pl)), (Str.ofString "scans", some (.lst (scans.map ScI.av))), (Str.ofString "tables", some (.lst (tbs.map fun t => .lst (t.map .int)))), (Str.ofString "n", some (.int f.n)), (Str.ofString "before", some (seenAV f.H f.W pl)), (Str.ofString "found", some (gxAV (f.n * f.n) f.H f.W cv)), (Str.ofString "told", some (seenAV f.H f.W (smAll f scans tbs pl))), (Str.ofString "place", some (.int (i : Nat))), (Str.ofString "lows", some (.lst (lo.map .int))), (Str.ofString "across", some (.int (f.bw i))), (Str.ofString "down", some (.int (f.bh i))), (Str.ofString "due", some (.lst (ls.map .ref))), (Str.ofString "y", some (.int (j : Nat))), (Str.ofString "x", x), (Str.ofString "nine", ni), (Str.ofString "step", st), (Str.ofString "other", ot), (Str.ofString "row", rw)] ∧ DM M m ls (f.H i) (f.W i) (smPl f pl tb lo i j q pl i)) ⟨_, _, _, _, _, rfl, hD⟩ ?_ ?_
          · clear hD
            rintro q v le m hq ⟨x, ni, st, ot, rw0, rfl, hD⟩ J3 hJ3 hJ3c hJ3r
            obtain ⟨hq2, rfl⟩ := rng0 (n := (f.bw i).toNat) hq (by tb_rel)
            have hqW : q < f.W i := by omega
            refine wa_name (by tb_rel) ?_
            refine wss_cons (ws_assign (we_lstM 0 (wl_nil ⟨by decide, fun a ha => ⟨_, by tb_rel, ?_⟩⟩)))
            refine wss_cons (ws_for (it_of ?_))
            repeat (tb_start)
            refine ⟨_, items_up (by tb_rel) (by tb_rel) (by tb_rel) (by tb_rel), ?_⟩
            refine loop_j (fun s le m' => ∃ st ot, le = [(Str.ofString "keg", some (.ref k)), (Str.ofString "frame", some (f.av)), (Str.ofString "grid", some (gfAV (f.n * f.n) f.H f.W pl)), (Str.ofString "scans", some (.lst (scans.map ScI.av))), (Str.ofString "tables", some (.lst (tbs.map fun t => .lst (t.map .int)))), (Str.ofString "n", some (.int f.n)), (Str.ofString "before", some (seenAV f.H f.W pl)), (Str.ofString "found", some (gxAV (f.n * f.n) f.H f.W cv)), (Str.ofString "told", some (seenAV f.H f.W (smAll f scans tbs pl))), (Str.ofString "place", some (.int (i : Nat))), (Str.ofString "lows", some (.lst (lo.map .int))), (Str.ofString "across", some (.int (f.bw i))), (Str.ofString "down", some (.int (f.bh i))), (Str.ofString "due", some (.lst (ls.map .ref))), (Str.ofString "y", some (.int (j : Nat))), (Str.ofString "x", some (.int (q : Nat))), (Str.ofString "nine", some (.ref a)), (Str.ofString "step", st), (Str.ofString "other", ot), (Str.ofString "row", rw0)] ∧ m' = updM m a (.list 0 ((lnine (f.n * f.n) pl i (q : Nat) (j : Nat) (f.bw i) (f.bh i) s).map .int))) ⟨_, _, rfl, rfl⟩ ?_ ?_
            · rintro s v le m' hs ⟨st, ot, rfl, rfl⟩ J4 hJ4 hJ4c hJ4r
              obtain ⟨hs2, rfl⟩ := rng0 (n := 9) hs (by simp)
              have ed : ((s : Nat) : Int).fdiv 3 = (s : Nat) / 3 := Int.fdiv_eq_ediv_of_nonneg _ (by tb_rel)
              have em : ((s : Nat) : Int).fmod 3 = (s : Nat) % 3 := Int.fmod_eq_emod_of_nonneg _ (by tb_rel)
              have gy : max 0 (min (f.bh i - 1) ((j : Nat) + ((s : Nat) : Int).fdiv 3 - 1)) = kept ((j : Nat) + ((s : Nat) / 3 - 1 : Int)) (f.bh i) := by rw [ed]; exact kept_a
              have gx : max 0 (min (f.bw i - 1) ((q : Nat) + ((s : Nat) : Int).fmod 3 - 1)) = kept ((q : Nat) + ((s : Nat) % 3 - 1 : Int)) (f.bw i) := by rw [em]; exact kept_a
              have hnl : (List.map AV.int (lnine (f.n * f.n) pl i (q : Nat) (j : Nat) (f.bw i) (f.bh i) s)).length ≤ 16777216 := by unfold lnine; simp; omega
              refine wa_name (by tb_rel) ?_
              repeat (tb_start)
              refine sub_lst (by tb_rel) (seen_at hi2) ?_ (by tb_rel)
              repeat (tb_start)
              rw [gy]
              have hyH : (kept ((j : Nat) + ((s : Nat) / 3 - 1 : Int)) (f.bh i)).toNat < f.H i := kept_n hbh
              have hxW : (kept ((q : Nat) + ((s : Nat) % 3 - 1 : Int)) (f.bw i)).toNat < f.W i := kept_n hbw
              refine sub_lst (kept_b hbh.1).1 (plane_at hyH) ?_ (kept_l3 hbh (hb i hi2).1)
              repeat (tb_start)
              rw [gx]
              refine sub_lst (kept_b hbw.1).1 (line_at hxW) ?_ (kept_l3 hbw (hb i hi2).2.1)
              repeat (tb_start)
              have hrow := hok.or hi2 hyH hxW
              have hna : nineAt (f.n * f.n) pl i (q : Nat) (j : Nat) (f.bw i) (f.bh i) ((s : Nat) / 3 - 1 : Int) ((s : Nat) % 3 - 1 : Int) = (rowOr (f.n * f.n) (pl i (kept ((j : Nat) + ((s : Nat) / 3 - 1 : Int)) (f.bh i)).toNat (kept ((q : Nat) + ((s : Nat) % 3 - 1 : Int)) (f.bw i)).toNat)).getD 0 0 := rfl
              generalize pl i (kept ((j : Nat) + ((s : Nat) / 3 - 1 : Int)) (f.bh i)).toNat (kept ((q : Nat) + ((s : Nat) % 3 - 1 : Int)) (f.bw i)).toNat = ro at *
              refine WE.mono (Q := fun v m' => m' = updM m a (.list 0 ((lnine (f.n * f.n) pl i (q : Nat) (j : Nat) (f.bw i) (f.bh i) s).map .int)) ∧ v = .int ((rowOr (f.n * f.n) ro).getD 0 0)) ?_ ?_
              · refine we_ifexp ?_
                repeat (tb_start)
                cases ro with
                | none =>
                  refine cmp_is (nr rfl) ⟨fun _ => ?_, by first | exact tf | exact ft⟩
                  repeat (tb_start)
                  refine ⟨rfl, ?_⟩
                  rw [show rowOr (f.n * f.n) none = List.replicate (f.n * f.n).toNat 0 from rfl, List.getD_eq_getElem?_getD, List.getElem?_replicate, if_pos (by tb_rel)]
                  rfl
                | some r =>
                  refine cmp_is (nr rfl) ⟨by first | exact ft | exact tf, fun _ => ?_⟩
                  repeat (tb_start)
                  refine sub_lst (by tb_rel) (get_ints (by show (0 : Nat) < r.length; rw [show r.length = (f.n * f.n).toNat from hrow]; exact n16 hn rfl)) ⟨rfl, rfl⟩ (by tb_rel)
              rintro v m' ⟨rfl, rfl⟩
              repeat (tb_start)
              exact hJ4 _ _ ⟨_, _, rfl, by rw [lnine_succ, hna, List.map_append]; rfl⟩
            · rintro le m' ⟨st, ot, rfl, rfl⟩
              rw [List.length_map, rngL_len, show ((9 : Int) - 0).toNat = 9 from rfl, lnine9]
              refine wss_frz (x := Str.ofString "nine") (S := fun b => b == a) (by tb_rel) (by tb_rel) (.list (by simp) (updM_self _ _ _) (FzL.same _)) ?_
              rw [delS_upd ha]
              repeat (tb_start)
              refine sub_lst (by tb_rel) (seen_at hi2) ?_ (by tb_rel)
              repeat (tb_start)
              refine sub_lst (by tb_rel) (plane_at (y := j) hjH) ?_ (by tb_rel)
              repeat (tb_start)
              refine sub_lst (by tb_rel) (line_at (x := q) hqW) ?_ (by tb_rel)
              repeat (tb_start)
              have hrow := hok.or hi2 hjH hqW
              have hsm : smAt f pl tb lo i j q = smRow (rowOr (f.n * f.n) (pl i j q)) (nineL (f.n * f.n) pl i (q : Nat) (j : Nat) (f.bw i) (f.bh i)) tb lo f.n := rfl
              rw [smRow_due hf.n htk] at hsm
              have hstep := smPl_step (f := f) (pl := pl) (tb := tb) (known := lo) (p := i) (Y := j) (pl' := pl) hq2
              rw [hsm] at hstep
              generalize pl i j q = ro at *
              refine WE.mono (Q := fun v m' => m' = m ∧ v = .lst ((rowOr (f.n * f.n) ro).map .int)) ?_ ?_
              · refine we_ifexp ?_
                repeat (tb_start)
                cases ro with
                | none =>
                  refine cmp_is (nr rfl) ⟨fun _ => ?_, by first | exact tf | exact ft⟩
                  repeat (first | tb_start | refine we_lst ?_)
                  refine bin_mul_lst (by tb_rel) (by tb_rel) ⟨rfl, ?_⟩
                  rw [show rowOr (f.n * f.n) none = List.replicate (f.n * f.n).toNat 0 from rfl, List.map_replicate]
                | some r =>
                  refine cmp_is (nr rfl) ⟨by first | exact ft | exact tf, fun _ => ?_⟩
                  repeat (tb_start)
                  exact ⟨rfl, rfl⟩
              rintro v m' ⟨rfl, rfl⟩
              repeat (tb_start)
              refine sub_lst (by tb_rel) htg ?_ (by tb_rel)
              repeat (tb_start)
              refine due_row_spec (by tb_rel) hf.n hrow (nineL_len ..) htk hlol hlo2 fun m3 h3 => ?_
              have hD3 := hD.up h3
              repeat (tb_start)
              obtain ⟨al, hal⟩ : ∃ al, ls[j]? = some al := ⟨ls[j]'(by rw [hD.len]; exact hjH), List.getElem?_eq_getElem _⟩
              refine sub_lst (by tb_rel) (by rw [Int.toNat_natCast]; exact get_map hal) ?_ (by tb_rel)
              repeat (tb_start)
              refine set_ref (hD3.line j al hal) (by tb_rel) (by simpa using hqW) ?_ (by tb_rel)
              repeat (tb_start)
              refine hJ3 _ _ ⟨_, _, _, _, _, rfl, ?_⟩
              rw [Int.toNat_natCast]
              have hput := hD3.put (r := dueRow (rowOr (f.n * f.n) ro) (nineL (f.n * f.n) pl i (q : Nat) (j : Nat) (f.bw i) (f.bh i)) tb lo f.n) hal hqW
              refine hput.congr fun y' _ x' _ => ?_
              rw [hstep]
              unfold upd3
              simp only [true_and]
          · rintro le m ⟨x, ni, st, ot, rw0, rfl, hD⟩
            repeat (tb_start)
            refine hJ2 _ _ ⟨_, _, _, _, _, _, rfl, ?_⟩
            rw [List.length_map, rngL_len, show (f.bw i - 0).toNat = (f.bw i).toNat by rw [Int.sub_zero], smPl_line] at hD
            exact hD
        · rintro le m ⟨y, x, ni, st, ot, rw0, rfl, hD⟩
          repeat (tb_start)
          rw [List.length_map, rngL_len, show (f.bh i - 0).toNat = (f.bh i).toNat by rw [Int.sub_zero]] at hD
          refine ⟨rfl, _, _, _, _, _, _, rfl, hD.congr fun y hy x hx => ?_⟩
          rw [hsmA]
          unfold smPl
          have : InB f i (f.bh i).toNat 0 i y x ↔ (x < (f.bw i).toNat ∧ y < (f.bh i).toNat) := InB_full
          by_cases hin : x < (f.bw i).toNat ∧ y < (f.bh i).toNat
          · rw [if_pos (this.mpr hin), if_pos ⟨hw, hin⟩]
          · rw [if_neg (fun h => hin (this.mp h)), if_neg (fun h => hin h.2)]
      · repeat (tb_start)
        exact ⟨rfl, _, _, _, _, _, _, rfl, (hD.up h2).congr fun y _ x _ => by rw [hsmA, hw]; simp⟩
    · rintro fl le m ⟨rfl, y, x, ni, st, ot, rw0, rfl, hD⟩
      obtain ⟨hfd, hle⟩ := hD.frz
      show WSs _ _ _ _ _ _ _
      refine wss_frz (x := Str.ofString "due") (S := fun b => decide (b ∈ ls)) (by tb_rel) (by tb_rel) hfd ?_
      generalize hM' : delS (fun b => decide (b ∈ ls)) m = M' at *
      repeat (tb_start)
      refine sub_lst (by tb_rel) (seen_at hi2) ?_ (by tb_rel)
      repeat (tb_start)
      obtain ⟨en, hen⟩ := enc_plane
      refine cmp_neD' (f := planeAV) hen (by tb_rel) ?_ (by decide)
      have hdue : seenL f.H f.W (smAll f scans tbs pl) i = ((List.range (f.H i)).map fun y => (List.range (f.W i)).map fun x => smAll f scans tbs pl i y x) := rfl
      rw [decide_eq_true hdue]
      refine ⟨by first | exact ft | exact tf, fun _ => ?_⟩
      repeat (tb_start)
      exact hJ _ _ ⟨_, _, _, _, _, _, _, _, _, _, _, rfl, hle⟩
  · rintro le m ⟨pv, lo0, ac, dn, du, y, x, ni, st, ot, rw0, rfl, hm⟩
    have hl0 : r0.length = (f.n * f.n).toNat := hok2.len 0 (by tb_rel) 0 (by have := hb 0 (by tb_rel); omega) 0 (by have := hb 0 (by tb_rel); omega) r0 hr0
    have hgxd : gxAV (f.n * f.n) f.H f.W cv = .inst 50 [(Str.ofString "many", .int (f.n * f.n)), (Str.ofString "planes", .lst ((List.range 2).map fun p => .lst ((List.range (f.H p)).map fun y => .lst ((List.range (f.W p)).map fun x => cv p y x))))] := rfl
    repeat (tb_start)
    refine sub_lst (by tb_rel) (range_at (n := f.H 0) (i := 0) (k := 0) (by have := hb 0 (by tb_rel); omega) rfl) ?_ (by tb_rel)
    repeat (tb_start)
    refine sub_lst (by tb_rel) (range_at (n := f.W 0) (i := 0) (k := 0) (by have := hb 0 (by tb_rel); omega) rfl) ?_ (by tb_rel)
    rw [hcv0]
    repeat (tb_start)
    refine set_ref (hm _ _ hq0) (by tb_rel) (by rw [List.length_map, hl0]; show 1 < _; omega) ?_ (by tb_rel)
    repeat (tb_start)
    rw [hgx]
    refine seen_spec (by tb_rel) (fun p hp => ⟨(hb p hp).1, (hb p hp).2.1⟩) (hcell _) hrl ?_
    repeat (tb_start)
    obtain ⟨en, hen⟩ := enc_seen
    unfold seenAV
    refine cmp_eqD' (f := fun l : List (List (List (Option (List Int)))) => .lst (l.map planeAV)) hen (by tb_rel) ?_ (by decide)
    rw [decide_eq_true rfl]
    repeat (tb_start)
    exact hQ _
end


section
variable {c : Cx} {e : Nat} {μ : MH}
theorem law_spec {ns : List Int} {Q : AV → MH → Prop} (he : 12 ≤ e) (hl : ns.length < 1000000) (hQ : ∀ m, Q (.bool true) m) : CallW c e (.raw (.ref 571)) [.lst (ns.map .int)] μ Q := by
  have he' := he
  have he : 1 ≤ e := by omega
  refine callW_def' (f := 571) (ps := [Str.ofString "script"]) (ge := rawGe [(Str.ofString "range", .type "range"), (Str.ofString "max", .builtin "max"), (Str.ofString "min", .builtin "min"), (Str.ofString "len", .builtin "len")]) he rfl (by kernel_rfl) (by intro v0; show _ = _; kernel_rfl) (by kernel_rfl) (fun gd => geOk_raw (by kernel_rfl)) rfl (fun env => ?_)
  clear he
  dsimp only [mkLE, rawGe, List.map]
  repeat (tb_start)
  refine we_comp (ge := rawGe [(Str.ofString "_law_right", .ref 566), (Str.ofString "_law_keg", .ref 515)]) (by tb_rel) (by kernel_rfl) (geOk_raw (by kernel_rfl)) (it_of ?_)
  repeat (tb_start)
  refine call_len_lst ?_ (by rw [List.length_map]; omega)
  repeat (tb_start)
  refine ⟨_, items_up (by tb_rel) (by tb_rel) (by tb_rel) (by tb_rel), by rw [List.length_map, rngL_len]; omega, fun env' => ?_⟩
  dsimp only [rawGe, List.map]
  refine comp_ind (fun i le m ys => ∃ o kk, le = [(Str.ofString ".0", o), (Str.ofString "k", kk), (Str.ofString "script", some (.lst (ns.map .int)))] ∧ ys = (List.replicate i true).map .bool) ⟨_, _, rfl, rfl⟩ ?_ ?_
  · rintro i v le m ys hi ⟨o, kk, rfl, rfl⟩
    obtain ⟨hi2, rfl⟩ := rngL_get hi
    refine wl_name (by kernel_rfl) (by tb_rel) ⟨fun _ => ?_, by first | exact tf | exact ft⟩
    repeat (tb_start)
    have e1 : (0 : Int) + (i : Int) * 1 = (i : Nat) := by omega
    rw [e1]
    refine keg_spec (by tb_rel) hl (by tb_rel) fun a x y ha hx hy => ?_
    repeat (tb_start)
    refine right_spec (by tb_rel) ⟨x, y, updM_self _ _ _, hy⟩ fun m' => ?_
    exact ⟨_, _, rfl, by rw [List.replicate_succ', List.map_append]; rfl⟩
  · rintro le m ys ⟨o, kk, rfl, rfl⟩
    refine cmp_notin_bools ?_
    have e1 : ∀ n, (List.replicate n true).any (· == false) = false := fun n => by rw [List.any_eq_false]; intro x hx; rw [(List.mem_replicate.mp hx).2]; decide
    rw [e1]
    repeat (tb_start)
    exact hQ _
end

end Mine
namespace Mine
open PySem PySem.W PyProof.Rows
theorem vrs_ints {c : Cx} {g : GH} {vs : List Value} {ns : List Int} (h : IntsAre vs ns) : VRs c g (ns.map .int) vs := by
  induction h with
  | nil => exact .nil
  | cons _ _ _ ih => exact .cons (.int _ _) ih
theorem law_run {prog : Program} {w : World} {s₁ : Shared} {a : Addr} {vs : List Value} {ns : List Int} {P : Value → Shared → Prop} {E : Value → Shared → Prop} (X : (hd.heap_39 w.params).In s₁.heap) (T : ∃ p loose mg mb, TopRead p loose mg mb s₁.heap)
    (hl : s₁.heap.IsList a vs.toArray) (hi : IntsAre vs ns) (hn : ns.length < 1000000)
    (hP : ∀ s', (∀ b o, s₁.heap.get? b = some o → s'.heap.get? b = some o) → s'.os = s₁.os → s'.gens = s₁.gens → P (.bool true) s') : wpAny (model prog w) callerA (call (.ref 571) [.ref a]) P E s₁ := by
  obtain ⟨o, h1, h2, n, h3⟩ := hl
  have L : CallW ⟨prog, w, s₁.heap⟩ 12 (.raw (.ref 571)) [.lst (ns.map .int)] (fun _ => none) (fun v _ => v = .bool true) := law_spec (by omega) hn fun _ => rfl
  refine wpAny_mono (L.run callerA s₁.heap.get? s₁ E (.ref 571) [.ref a] ⟨rfl, by decide, by decide⟩ ⟨⟨X, T⟩, fun _ _ e => e, fun _ _ e => e, nofun⟩ (.raw _) (.cons (.lst h1 h2 h3 (vrs_ints (by simpa using hi))) .nil)) (fun v s' q => ?_) fun _ _ e => e
  obtain ⟨g', μ', x, st, R', r, rfl⟩ := q
  cases r
  exact hP _ (fun b o e => st.keep b o e rfl id) st.os st.gens
end Mine
open PySem PySem.W PyProof.Rows Mine
theorem PySem.Challenge.cw_pf0240_01_holds : PySem.Challenge.rw_pf0240_01.Holds := by
  refine holds_law Mine.said fun said' => PySem.W.holds_open (q := vwM) (loose := looseM) (Xt := XtM) (XP := XL vwM []) (YP := hookM.says) Mine.left (Hook.of _) (Hook.keeps _) (fun s e => xl_of s (Bool.and_eq_true_iff.mp e).1) XL.keeps (by rfl) (by rfl) (by rfl)
    (fun s e => recFacts_of (Bool.and_eq_true_iff.mp e).2) (by rfl) said' Mine.okM Mine.bareM Mine.promM ?hc
  case hc =>
    intro w s₀ s₁ mg mb G Y fa o pm cd doc dV kV ho hd' hcd hD hmg hg args vals as hpre hlay hrd hwl hlo
    have KX : (hd.heap_39 w.params).In s₁.heap := kIn_of Y
    have T := topRead_of G.T
    clear Y hd' hcd hD ho
    have hfa := mg_of (n := Str.ofString "law") (v := .ref 571) KX T.g (by kernel_rfl)
    have hfa2 : some (Value.ref 571) = some (Value.ref fa) := hfa.symm.trans hmg
    cases hfa2
    clear hmg
    wrow_args hpre hlay hrd hwl hlo
    rename Heap.IsList _ _ _ => hL
    rename IntsAre _ _ => hI
    rename ¬ _ => hlen
    refine Mine.law_run KX ⟨_, _, _, _, T⟩ hL hI (by omega) fun s' h1 h2 h3 => ?_
    refine GoodW.toG ⟨.inl ⟨_, _, [], rfl, raisesW_false (by wrow_none_raised), .bool _, ?_, fun _ => ⟨.nil, nofun⟩⟩, h1, h2, h3.trans hg⟩
    wrow_post
